import PyProof.Rows.All
import Wide.All
import OpenK.AllK
import Wide.FinOn
import HandS.ForMost
import HandS.TupAny
import HandS.Deep
import HandS.Wide
import HandS.TupMul
import HandS.TupLe
import HandS.Flow
import HandS.IsInst
import HandS.RaiseMore
import HandS.Strs
import HandS.Defaults
import KE.KUnpackStar
import HandS.Text
import HandS.FStr
import HandS.StrSplit
import HandS.StrMore
import HandS.Ends
import HandS.Words
import HandS.HeadEnd
import KE.KStateDown
import HandS.WordsExc
import HandS.Head0
import HandS.Head1
import HandS.Head2
import HandS.HeadHook1
import HandS.HeadHook2
import KE.GoesZip
import KE.GoesMore
import HandS.Zip
import HandS.Flt
import PyProof.Rows.StrFirst
import HandS.WordsDict
import HandS.More
import KE.SortData
import HandS.DictComp
import HandS.SetKeys
import HandS.SetBool
import HandS.Style
import HandS.SortKw
import KE.DatumOrd
import HandS.Set
import HandS.SortInts
import HandS.SetFor
import PySem.Challenge.RW_smallreaders_k01_signs_and_texts_known
set_option Elab.async false
set_option linter.all false
set_option maxRecDepth 100000
set_option maxHeartbeats 4000000
namespace DL
open PySem L2

abbrev D := PyData
abbrev Fg := PySem.W.Frag
def Sub (F H : Hp) : Prop := ∀ a o, F a = some o → H a = some o
theorem Sub.refl (F : Hp) : Sub F F := fun _ _ h => h
theorem Sub.trans {F G H : Hp} (a : Sub F G) (b : Sub G H) : Sub F H := fun x o h => b x o (a x o h)
theorem Sub.new {F : Hp} {p : Addr} {o : HO} (h : F p = none) : Sub F (upd F p o) := fun a u e => by
  rw [upd_ne (ne_of_none e h)]; exact e
theorem Sub.upd2 {F H : Hp} {p : Addr} {o : HO} (h : Sub F H) : Sub (upd F p o) (upd H p o) := fun a u e => by
  by_cases q : a = p
  · subst q; rw [upd_same] at e ⊢; exact e
  · rw [upd_ne q] at e ⊢; exact h a u e
theorem Sub.rd {F H : Hp} (s : Sub F H) {a : Addr} {u : HO} (h : Rd F a u) : Rd H a u := by
  rcases h with h | ⟨o, h⟩
  · exact Or.inl (s a _ h)
  · exact Or.inr ⟨o, s a _ h⟩
theorem Sub.sqL {K : Fg} {F H : Hp} (s : Sub F H) {a : Addr} {xs : List V} (h : SqL K F a xs) : SqL K H a xs := by
  rcases h with h | h
  · exact Or.inl (s.rd h)
  · exact Or.inr h
theorem Sub.sqT {K : Fg} {F H : Hp} (s : Sub F H) {a : Addr} {xs : List V} (h : SqT K F a xs) : SqT K H a xs := by
  rcases h with h | h
  · exact Or.inl (s.rd h)
  · exact Or.inr h

def kD : Key → D
  | .inl i => .int i
  | .inr s => .str s
def ktD (k : List Key) : D := .tuple (k.map kD)
/-- the keys and values of a dict that stands at a -/
def DOf (F : Hp) (a : Addr) (ks : List D) (vs : List V) : Prop :=
  (∃ kvs, F a = some (.dK kvs) ∧ ks = kvs.map (fun p => kD p.1) ∧ vs = kvs.map (·.2)) ∨
  (∃ kvs, F a = some (.dT kvs) ∧ ks = kvs.map (fun p => ktD p.1) ∧ vs = kvs.map (·.2))
theorem DOf.mono {F H : Hp} (s : Sub F H) {a : Addr} {ks : List D} {vs : List V} (h : DOf F a ks vs) : DOf H a ks vs := by
  rcases h with ⟨k, e, q⟩ | ⟨k, e, q⟩
  · exact .inl ⟨k, s _ _ e, q⟩
  · exact .inr ⟨k, s _ _ e, q⟩

mutual
/-- v is the datum d, all of it in F -/
inductive Rp (K : Fg) (F : Hp) : V → D → Prop
  | non : Rp K F .non .none
  | bl (b : Bool) : Rp K F (.bl b) (.bool b)
  | int (i : Int) : Rp K F (.int i) (.int i)
  | str (x : Str) : Rp K F (.str x) (.str x)
  | lst {a : Addr} {xs : List V} {ds : List D} : Rd F a (.lst xs) → RpA K F xs ds → Rp K F (.ref a) (.list ds)
  | tup {a : Addr} {xs : List V} {ds : List D} : SqT K F a xs → RpA K F xs ds → Rp K F (.ref a) (.tuple ds)
  | dct {a : Addr} {ks : List D} {vs : List V} {ws : List D} {ds : List (D × D)} : DOf F a ks vs → RpA K F vs ws → ds.map (·.1) = ks → ds.map (·.2) = ws → Rp K F (.ref a) (.dict ds)
inductive RpA (K : Fg) (F : Hp) : List V → List D → Prop
  | nil : RpA K F [] []
  | cons {v : V} {vs : List V} {d : D} {ds : List D} : Rp K F v d → RpA K F vs ds → RpA K F (v :: vs) (d :: ds)
end
mutual
theorem Rp.mono {K : Fg} {F H : Hp} (s : Sub F H) {v : V} {d : D} : Rp K F v d → Rp K H v d
  | .non => .non
  | .bl b => .bl b
  | .int i => .int i
  | .str x => .str x
  | .lst h r => .lst (s.rd h) (RpA.mono s r)
  | .tup h r => .tup (s.sqT h) (RpA.mono s r)
  | .dct h r a b => .dct (h.mono s) (RpA.mono s r) a b
theorem RpA.mono {K : Fg} {F H : Hp} (s : Sub F H) {v : List V} {d : List D} : RpA K F v d → RpA K H v d
  | .nil => .nil
  | .cons h r => .cons (Rp.mono s h) (RpA.mono s r)
end
theorem RpA.length {K : Fg} {F : Hp} : ∀ {vs : List V} {ds : List D}, RpA K F vs ds → vs.length = ds.length
  | _, _, .nil => rfl
  | _, _, .cons _ r => by rw [List.length_cons, List.length_cons, RpA.length r]
theorem RpA.get {K : Fg} {F : Hp} : ∀ {vs : List V} {ds : List D} {i : Nat} {v : V}, RpA K F vs ds → vs[i]? = some v → ∃ d, ds[i]? = some d ∧ Rp K F v d
  | _, _, _, _, .nil, e => by simp at e
  | _, _, 0, _, .cons h _, e => by simp at e; subst e; exact ⟨_, rfl, h⟩
  | _, _, i + 1, v, .cons _ r, e => by
    obtain ⟨d, e1, h⟩ := RpA.get (i := i) (v := v) r (by simpa using e)
    exact ⟨d, by simpa using e1, h⟩
theorem RpA.getD {K : Fg} {F : Hp} : ∀ {vs : List V} {ds : List D} {i : Nat} {d : D}, RpA K F vs ds → ds[i]? = some d → ∃ v, vs[i]? = some v ∧ Rp K F v d
  | _, _, _, _, .nil, e => by simp at e
  | _, _, 0, _, .cons h _, e => by simp at e; subst e; exact ⟨_, rfl, h⟩
  | _, _, i + 1, d, .cons _ r, e => by
    obtain ⟨v, e1, h⟩ := RpA.getD (i := i) (d := d) r (by simpa using e)
    exact ⟨v, by simpa using e1, h⟩
theorem RpA.append {K : Fg} {F : Hp} : ∀ {vs ws : List V} {ds es : List D}, RpA K F vs ds → RpA K F ws es → RpA K F (vs ++ ws) (ds ++ es)
  | _, _, _, _, .nil, s => s
  | _, _, _, _, .cons h r, s => .cons h (RpA.append r s)
theorem RpA.take {K : Fg} {F : Hp} : ∀ {vs : List V} {ds : List D} (n : Nat), RpA K F vs ds → RpA K F (vs.take n) (ds.take n)
  | _, _, 0, _ => .nil
  | _, _, _ + 1, .nil => .nil
  | _, _, n + 1, .cons h r => .cons h (RpA.take n r)
theorem RpA.drop {K : Fg} {F : Hp} : ∀ {vs : List V} {ds : List D} (n : Nat), RpA K F vs ds → RpA K F (vs.drop n) (ds.drop n)
  | _, _, 0, r => r
  | _, _, _ + 1, .nil => .nil
  | _, _, n + 1, .cons _ r => RpA.drop n r
theorem RpA.set {K : Fg} {F : Hp} {v : V} {d : D} (h : Rp K F v d) : ∀ {vs : List V} {ds : List D} (n : Nat), RpA K F vs ds → RpA K F (vs.set n v) (ds.set n d)
  | _, _, _, .nil => .nil
  | _, _, 0, .cons _ r => .cons h r
  | _, _, n + 1, .cons q r => .cons q (RpA.set h n r)
theorem RpA.rev {K : Fg} {F : Hp} {vs : List V} {ds : List D} (h : RpA K F vs ds) : RpA K F vs.reverse ds.reverse := by
  induction vs generalizing ds with
  | nil => cases h; exact .nil
  | cons v vs ih =>
    cases h with
    | cons a b =>
      rw [List.reverse_cons, List.reverse_cons]
      exact (ih b).append (.cons a .nil)

/-- what a box holds -/
inductive MB where
  | L (ds : List D) | K (kvs : List (D × D)) | T (kvs : List (D × D))
def MB.toD : MB → D
  | .L ds => .list ds
  | .K kvs => .dict kvs
  | .T kvs => .dict kvs
/-- the object o is what the box holds, its parts in F -/
inductive MO (K : Fg) (F : Hp) : HO → MB → Prop
  | L {xs : List V} {ds : List D} : RpA K F xs ds → MO K F (.lst xs) (.L ds)
  | K {kvs : List (Key × V)} {ds : List (D × D)} : ds.map (·.1) = kvs.map (fun p => kD p.1) → RpA K F (kvs.map (·.2)) (ds.map (·.2)) → MO K F (.dK kvs) (.K ds)
  | T {kvs : List (List Key × V)} {ds : List (D × D)} : ds.map (·.1) = kvs.map (fun p => ktD p.1) → RpA K F (kvs.map (·.2)) (ds.map (·.2)) → MO K F (.dT kvs) (.T ds)
theorem MO.mono {K : Fg} {F H : Hp} (s : Sub F H) {o : HO} {m : MB} (h : MO K F o m) : MO K H o m := by
  cases h with
  | L r => exact .L (r.mono s)
  | K e r => exact .K e (r.mono s)
  | T e r => exact .T e (r.mono s)
/-- an object that holds m, its parts in F, seen in H -/
theorem MO.rp {K : Fg} {F H : Hp} {o : HO} {m : MB} {p : Addr} (h : MO K F o m) (s : Sub F H) (e : H p = some o) : Rp K H (.ref p) m.toD := by
  cases h with
  | L r => exact .lst (.inl e) (r.mono s)
  | K q r => exact .dct (.inl ⟨_, e, rfl, rfl⟩) (r.mono s) q rfl
  | T q r => exact .dct (.inr ⟨_, e, rfl, rfl⟩) (r.mono s) q rfl

/-! ### cells, states -/
inductive Ce where
  | val (d : D) | box (prm : Bool) (m : MB) | scr (ns : List Int)
abbrev Rho := List (Option Ce)
/-- what an expression gives: a datum, a new object that nobody else holds, a reference to the box of slot i -/
inductive R where
  | val (d : D) | own (m : MB) | bor (i : Nat) | scr (ns : List Int)

/-- a frame's entry: F0 what stood frozen, P what is not ours and stays as it is, old: what stood -/
structure En where
  F0 : Hp
  P : Hp
  old : Addr → Prop
  prm : Nat → Option Addr

structure Ok (K : Fg) (e : En) (F : Hp) (r : Rho) (s : L2.St) (H : Hp) : Prop where
  len : r.length = s.length
  sub : Sub F H
  f0 : Sub e.F0 F
  prot : Sub e.P H
  new : ∀ a o, F a = some o → e.F0 a = some o ∨ e.P a = none
  dom : ∀ a, e.old a → H a ≠ none
  slot : ∀ (i : Nat) d, r[i]? = some (some (Ce.val d)) → ∃ v, s[i]? = some (some v) ∧ Rp K F v d
  box : ∀ (i : Nat) b m, r[i]? = some (some (Ce.box b m)) → ∃ p o, s[i]? = some (some (V.ref p)) ∧ H p = some o ∧ MO K F o m ∧ F p = none ∧ e.P p = none ∧ (b = false → ¬ e.old p) ∧ (b = true → e.prm i = some p)
  scr : ∀ (i : Nat) ns, r[i]? = some (some (Ce.scr ns)) → ∃ a, s[i]? = some (some (V.ref a)) ∧ SqL K F a (ns.map V.int)
  sep : ∀ (i j : Nat) p b m b' m', r[i]? = some (some (Ce.box b m)) → r[j]? = some (some (Ce.box b' m')) → s[i]? = some (some (V.ref p)) → s[j]? = some (some (V.ref p)) → i = j

/-- a value is what an expression gave -/
inductive RR (K : Fg) (e : En) (F : Hp) (r : Rho) (s : L2.St) (H : Hp) : R → V → Prop
  | val {v : V} {d : D} : Rp K F v d → RR K e F r s H (.val d) v
  | own {p : Addr} {o : HO} {m : MB} : H p = some o → MO K F o m → F p = none → e.P p = none → ¬ e.old p → (∀ (i : Nat) b m', r[i]? = some (some (Ce.box b m')) → s[i]? ≠ some (some (V.ref p))) → RR K e F r s H (.own m) (.ref p)
  | bor {i : Nat} {v : V} : s[i]? = some (some v) → (∃ b m, r[i]? = some (some (Ce.box b m))) → RR K e F r s H (.bor i) v
  | scr {a : Addr} {ns : List Int} : SqL K F a (ns.map V.int) → RR K e F r s H (.scr ns) (.ref a)

/-- a wish about what an expression gives -/
abbrev Po := R → Rho → Prop
/-- what an expression does to data -/
abbrev ME := Rho → Po → Prop
def T (K : Fg) (e : En) (m : ME) : TE := fun s H Q => ∃ F r, Ok K e F r s H ∧ ∃ P : Po, m r P ∧ ∀ x r' v F' H', P x r' → Ok K e F' r' s H' → Sub F F' → RR K e F' r' s H' x v → Q v H'
def DE (X : Cx) (a : Expr) (m : ME) : Prop := ∀ e, PE X a (T X.K e m)
theorem PE.imp {X : Cx} {a : Expr} {t u : TE} (h : PE X a t) (i : ∀ s H Q, u s H Q → t s H Q) : PE X a u := ⟨fun pins s σ H Q I q => h.run pins s σ H Q I (i _ _ _ q)⟩
end DL
namespace DL
open PySem L2
section
variable {K : Fg} {e : En} {F : Hp} {r : Rho} {s : L2.St} {H : Hp} {p : Addr} {o : HO}
theorem Ok.free (k : Ok K e F r s H) (h : H p = none) : F p = none ∧ e.P p = none ∧ ¬ e.old p := by
  refine ⟨?_, ?_, fun z => k.dom p z h⟩
  · cases q : F p with
    | none => rfl
    | some u => rw [k.sub p u q] at h; cases h
  · cases q : e.P p with
    | none => rfl
    | some u => rw [k.prot p u q] at h; cases h
/-- a new object, not frozen -/
theorem Ok.alloc (k : Ok K e F r s H) (h : H p = none) : Ok K e F r s (upd H p o) where
  len := k.len
  sub := k.sub.trans (Sub.new h)
  f0 := k.f0
  prot := k.prot.trans (Sub.new h)
  new := k.new
  dom := fun a z => by
    by_cases q : a = p
    · subst q; rw [upd_same]; simp
    · rw [upd_ne q]; exact k.dom a z
  slot := k.slot
  box := fun i b m z => by
    obtain ⟨q, u, h1, h2, h3⟩ := k.box i b m z
    exact ⟨q, u, h1, Sub.new h q u h2, h3⟩
  scr := k.scr
  sep := k.sep
/-- an object that is no box's becomes frozen -/
theorem Ok.freeze (k : Ok K e F r s H) (h : H p = some o) (hF : F p = none) (hP : e.P p = none) (hb : ∀ (i : Nat) b m', r[i]? = some (some (Ce.box b m')) → s[i]? ≠ some (some (V.ref p))) : Ok K e (upd F p o) r s H where
  len := k.len
  sub := fun a u q => by
    by_cases z : a = p
    · subst z; rw [upd_same] at q; cases q; exact h
    · rw [upd_ne z] at q; exact k.sub a u q
  f0 := k.f0.trans (Sub.new hF)
  prot := k.prot
  new := fun a u q => by
    by_cases z : a = p
    · subst z; exact .inr hP
    · rw [upd_ne z] at q; exact k.new a u q
  dom := k.dom
  slot := fun i d z => by
    obtain ⟨v, h1, h2⟩ := k.slot i d z
    exact ⟨v, h1, h2.mono (Sub.new hF)⟩
  box := fun i b m z => by
    obtain ⟨q, u, h1, h2, h3, h4, h5⟩ := k.box i b m z
    have ne : q ≠ p := fun y => by subst y; exact hb i b m z h1
    exact ⟨q, u, h1, h2, h3.mono (Sub.new hF), by rw [upd_ne ne]; exact h4, h5⟩
  scr := fun i ns z => by
    obtain ⟨a, g1, g2⟩ := k.scr i ns z
    exact ⟨a, g1, (Sub.new hF).sqL g2⟩
  sep := k.sep
theorem Ok.nobox (k : Ok K e F r s H) (h : H p = none) : ∀ (i : Nat) b m', r[i]? = some (some (Ce.box b m')) → s[i]? ≠ some (some (V.ref p)) := fun i b m z y => by
  obtain ⟨q, u, h1, h2, _⟩ := k.box i b m z
  rw [y] at h1; cases h1; rw [h] at h2; cases h2
/-- a new frozen object -/
theorem Ok.lay (k : Ok K e F r s H) (h : H p = none) : Ok K e (upd F p o) r s (upd H p o) :=
  (k.alloc h).freeze upd_same (k.free h).1 (k.free h).2.1 fun i b m z => k.nobox h i b m z
end

def R.tmp : R → R
  | .val d => .val d
  | .own m => .val m.toD
  | .bor i => .bor i
  | .scr ns => .scr ns
/-- a datum as it is looked at -/
def look (r : Rho) : R → Option D
  | .val d => some d
  | .own m => some m.toD
  | .bor i => match r[i]? with
    | some (some (.box _ m)) => some m.toD
    | _ => none
  | .scr _ => none
inductive RT (K : Fg) (F : Hp) (s : L2.St) : R → V → Prop
  | val {v : V} {d : D} : Rp K F v d → RT K F s (.val d) v
  | bor {i : Nat} {v : V} : s[i]? = some (some v) → RT K F s (.bor i) v
  | scr {a : Addr} {ns : List Int} : SqL K F a (ns.map V.int) → RT K F s (.scr ns) (.ref a)
theorem RT.mono {K : Fg} {F F' : Hp} {s : L2.St} {x : R} {v : V} (h : RT K F s x v) (q : Sub F F') : RT K F' s x v := by
  cases h with
  | val a => exact .val (a.mono q)
  | bor a => exact .bor a
  | scr a => exact .scr (q.sqL a)
/-- v looks like d in H, its parts in F -/
inductive Lk (K : Fg) (F H : Hp) : V → D → Prop
  | rp {v : V} {d : D} : Rp K F v d → Lk K F H v d
  | mo {p : Addr} {o : HO} {m : MB} : H p = some o → MO K F o m → Lk K F H (.ref p) m.toD
theorem Lk.all {K : Fg} {F H : Hp} {v : V} {d : D} (h : Lk K F H v d) (q : Sub F H) : Rp K H v d := by
  cases h with
  | rp a => exact a.mono q
  | mo a b => exact b.rp q a
theorem RT.look {K : Fg} {e : En} {F : Hp} {r : Rho} {s : L2.St} {H : Hp} {x : R} {v : V} {d : D} (h : RT K F s x v) (k : Ok K e F r s H) (q : DL.look r x = some d) : Lk K F H v d := by
  cases h with
  | val a => cases q; exact .rp a
  | @bor i v a =>
    simp only [DL.look] at q
    split at q
    · rename_i z
      cases q
      obtain ⟨p, o, h1, h2, h3, _⟩ := k.box _ _ _ z
      rw [a] at h1; cases h1
      exact .mo h2 h3
    · cases q
  | scr _ => cases q
def Tt (K : Fg) (e : En) (m : ME) : TE := fun s H Q => ∃ F r, Ok K e F r s H ∧ ∃ P : Po, m r P ∧ ∀ x r' v F' H', P x r' → Ok K e F' r' s H' → Sub F F' → RT K F' s x v → Q v H'
def mTmp (m : ME) : ME := fun r P => m r fun x r' => P x.tmp r'
theorem RR.tmp {K : Fg} {e : En} {F : Hp} {r : Rho} {s : L2.St} {H : Hp} {x : R} {v : V} (h : RR K e F r s H x v) (k : Ok K e F r s H) : ∃ F', Ok K e F' r s H ∧ Sub F F' ∧ RT K F' s x.tmp v := by
  cases h with
  | val a => exact ⟨F, k, Sub.refl F, .val a⟩
  | @own p o m h1 h2 h3 h4 h5 h6 =>
    have k' := k.freeze h1 h3 h4 h6
    exact ⟨_, k', Sub.new h3, .val (h2.rp (Sub.new h3) upd_same)⟩
  | bor a b => exact ⟨F, k, Sub.refl F, .bor a⟩
  | scr a => exact ⟨F, k, Sub.refl F, .scr a⟩
theorem DE.tmp {X : Cx} {a : Expr} {m : ME} (h : DE X a m) (e : En) : PE X a (Tt X.K e (mTmp m)) :=
  PE.imp (h e) fun s H Q ⟨F, r, k, P, hm, hP⟩ => ⟨F, r, k, _, hm, fun x r' v F' H' hx k' q hr => by
    obtain ⟨F2, k2, q2, t⟩ := hr.tmp k'
    exact hP _ r' v F2 H' hx k2 (q.trans q2) t⟩

/-! ### words that compute -/
def onO {α : Type} (o : Option α) (K : α → Prop) : Prop := match o with
  | some a => K a
  | none => False
theorem onO.ex {α : Type} {o : Option α} {K : α → Prop} (h : onO o K) : ∃ a, o = some a ∧ K a := by
  cases o with
  | none => exact h.elim
  | some a => exact ⟨a, rfl, h⟩
def onP {α β : Type} (o : Option (α × β)) (K : α → β → Prop) : Prop := match o with
  | some (a, b) => K a b
  | none => False
theorem onP.ex {α β : Type} {o : Option (α × β)} {K : α → β → Prop} (h : onP o K) : ∃ a b, o = some (a, b) ∧ K a b := by
  cases o with
  | none => exact h.elim
  | some a => exact ⟨a.1, a.2, rfl, h⟩
/-- what is asked, what goes on -/
def rqB (b : Bool) (A : Prop) : Prop := match b with
  | true => A
  | false => False
theorem rqB.ex {b : Bool} {A : Prop} (h : rqB b A) : b = true ∧ A := by
  cases b with
  | true => exact ⟨rfl, h⟩
  | false => exact h.elim
theorem rqB.mk {b : Bool} {A : Prop} (h : b = true) (a : A) : rqB b A := by subst h; exact a
abbrev Rq (c : Prop) [Decidable c] (A : Prop) : Prop := rqB (decide c) A
theorem Rq.c {c A : Prop} [Decidable c] (h : Rq c A) : c := of_decide_eq_true (rqB.ex h).1
theorem Rq.a {c A : Prop} [Decidable c] (h : Rq c A) : A := (rqB.ex h).2
theorem Rq.mk {c A : Prop} [Decidable c] (h : c) (a : A) : rqB (decide c) A := rqB.mk (decide_eq_true h) a
def brK (b : Bool) (A B : Prop) : Prop := match b with
  | true => A
  | false => B
/-! ### operators by data -/
/-- what an operation on data does: from d1, d2 the R z -/
abbrev F2 := D → D → Option R
def OpD (X : Cx) (g : Value → Value → Sem Value) (f : F2) : Prop := ∃ rr : R2, OpR X g rr ∧ ∀ (e : En) (F : Hp) (r : Rho) (s : L2.St) (H : Hp) (v1 v2 : V) (d1 d2 : D) (z : R) (Q : VK),
  Ok X.K e F r s H → Lk X.K F H v1 d1 → Lk X.K F H v2 d2 → f d1 d2 = some z → (∀ v F' H', Ok X.K e F' r s H' → Sub F F' → RR X.K e F' r s H' z v → Q v H') → rr v1 v2 H Q
theorem OpR.or {X : Cx} {g : Value → Value → Sem Value} {a b : R2} (h : OpR X g a) (h' : OpR X g b) : OpR X g (fun x y H Q => a x y H Q ∨ b x y H Q) := fun pins s σ H x y v u Q I rx ry q =>
  q.elim (h pins s σ H x y v u Q I rx ry) (h' pins s σ H x y v u Q I rx ry)
def orF (f g : F2) : F2 := fun a b => match f a b with
  | some z => some z
  | none => g a b
theorem OpD.or {X : Cx} {g : Value → Value → Sem Value} {f f' : F2} (h : OpD X g f) (h' : OpD X g f') : OpD X g (orF f f') := by
  obtain ⟨a, ha, qa⟩ := h
  obtain ⟨b, hb, qb⟩ := h'
  refine ⟨_, OpR.or ha hb, fun e F r s H v1 v2 d1 d2 z Q k l1 l2 q w => ?_⟩
  unfold orF at q
  split at q
  · rename_i y hy
    exact .inl (qa e F r s H v1 v2 d1 d2 z Q k l1 l2 (hy.trans q) w)
  · exact .inr (qb e F r s H v1 v2 d1 d2 z Q k l1 l2 q w)
/-- an operation and what it does, told so that it runs -/
structure OpK where
  f : F2
  k : D → D → (R → Prop) → Prop
  ok : ∀ d1 d2 K, k d1 d2 K → ∃ z, f d1 d2 = some z ∧ K z
def KOp (o : OpK) (P : Po) (x y : R) (r : Rho) : Prop := onO (look r x) fun d1 => onO (look r y) fun d2 => o.k d1 d2 fun z => P z r
theorem KOp.ex {o : OpK} {P : Po} {x y : R} {r : Rho} (h : KOp o P x y r) : ∃ d1 d2 z, look r x = some d1 ∧ look r y = some d2 ∧ o.f d1 d2 = some z ∧ P z r := by
  obtain ⟨d1, e1, h1⟩ := onO.ex h
  obtain ⟨d2, e2, h2⟩ := onO.ex h1
  obtain ⟨z, e3, h3⟩ := o.ok _ _ _ h2
  exact ⟨d1, d2, z, e1, e2, e3, h3⟩
def mOp (o : OpK) (ma mb : ME) : ME := fun r P => ma r fun x r1 => mb r1 fun y r2 => KOp o P x.tmp y.tmp r2
theorem mOp_read {X : Cx} {e : En} {o : OpK} {ma mb : ME} {rr : R2} (ho : ∀ (e : En) (F : Hp) (r : Rho) (s : L2.St) (H : Hp) (v1 v2 : V) (d1 d2 : D) (z : R) (Q : VK),
    Ok X.K e F r s H → Lk X.K F H v1 d1 → Lk X.K F H v2 d2 → o.f d1 d2 = some z → (∀ v F' H', Ok X.K e F' r s H' → Sub F F' → RR X.K e F' r s H' z v → Q v H') → rr v1 v2 H Q)
    {s : L2.St} {H : Hp} {Q : VK} (h : T X.K e (mOp o ma mb) s H Q) : tOp rr (Tt X.K e (mTmp ma)) (Tt X.K e (mTmp mb)) s H Q := by
  obtain ⟨F, r, k, P, hm, hP⟩ := h
  refine ⟨F, r, k, fun x r1 => mb r1 fun y r2 => KOp o P x y.tmp r2, hm, fun x r1 v1 F1 H1 hx k1 q1 t1 => ?_⟩
  refine ⟨F1, r1, k1, fun y r2 => KOp o P x y r2, hx, fun y r2 v2 F2 H2 hy k2 q2 t2 => ?_⟩
  obtain ⟨d1, d2, z, e1, e2, ef, hz⟩ := KOp.ex hy
  exact ho e F2 r2 s H2 v1 v2 d1 d2 z Q k2 ((t1.mono q2).look k2 e1) (t2.look k2 e2) ef fun v F' H' k' q' hr => hP z r2 v F' H' hz k' ((q1.trans q2).trans q') hr
section
variable {X : Cx} {a b : Expr} {ma mb : ME} {pos : Pos}
theorem de_op {op : Operator} {o : OpK} (ho : OpD X (binaryOp op) o.f) (ha : DE X a ma) (hb : DE X b mb) : DE X (.BinOp a op b pos) (mOp o ma mb) := fun e => by
  obtain ⟨rr, hr, hq⟩ := ho
  exact PE.imp (pe_op hr (ha.tmp e) (hb.tmp e)) fun s H Q h => mOp_read hq h
theorem de_cmp {op : CmpOp} {o : OpK} (ho : OpD X (compareOp op) o.f) (ha : DE X a ma) (hb : DE X b mb) (hm : behindInMarks op b = false) : DE X (.Compare a [op] [b] pos) (mOp o ma mb) := fun e => by
  obtain ⟨rr, hr, hq⟩ := ho
  exact PE.imp (pe_cmpR hr (ha.tmp e) (hb.tmp e) hm) fun s H Q h => mOp_read hq h

/-! ### names, constants -/
def mVal (d : D) : ME := fun r P => P (.val d) r
def mVar (i : Nat) : ME := fun r P => match r[i]? with
  | some (some (.val d)) => P (.val d) r
  | some (some (.box _ _)) => P (.bor i) r
  | some (some (.scr ns)) => P (.scr ns) r
  | _ => False
theorem de_var {i : Nat} {x : Str} (hN : X.N[i]? = some x) (hv : Vis X.env.scope x) (hd : (x == ("__debug__" : Str)) = false := by decide) (hcd : (x == ("__classdict__" : Str)) = false := by decide) : DE X (.Name x pos) (mVar i) := fun e =>
  PE.imp (pe_var hN hv hd hcd) fun s H Q ⟨F, r, k, P, hm, hP⟩ => by
    unfold mVar at hm
    split at hm
    · rename_i d z
      obtain ⟨v, h1, h2⟩ := k.slot i d z
      exact ⟨v, h1, hP _ r v F H hm k (Sub.refl F) (.val h2)⟩
    · rename_i b m z
      obtain ⟨p, o, h1, _⟩ := k.box i b m z
      exact ⟨_, h1, hP _ r _ F H hm k (Sub.refl F) (.bor h1 ⟨b, m, z⟩)⟩
    · rename_i ns z
      obtain ⟨a, h1, h2⟩ := k.scr i ns z
      exact ⟨_, h1, hP _ r _ F H hm k (Sub.refl F) (.scr h2)⟩
    · exact hm.elim
theorem de_const {v : V} {d : D} (h : PE X a (tC v)) (hd : ∀ F, Rp X.K F v d) : DE X a (mVal d) := fun e =>
  PE.imp h fun s H Q ⟨F, r, k, P, hm, hP⟩ => hP _ r v F H hm k (Sub.refl F) (.val (hd F))
theorem de_int {i j} : DE X (.Constant (.int i) j pos) (mVal (.int i)) := de_const pe_int fun _ => .int i
theorem de_bl {b j} : DE X (.Constant (.bool b) j pos) (mVal (.bool b)) := de_const pe_bl fun _ => .bl b
theorem de_non {j} : DE X (.Constant .none j pos) (mVal .none) := de_const pe_non fun _ => .non
theorem de_str {x j} : DE X (.Constant (.str x) j pos) (mVal (.str x)) := de_const pe_str fun _ => .str x
end
end DL
namespace DL
open PySem L2 PyProof.Rows
section
variable {X : Cx}
/-! ### pure operations on flat data -/
/-- a rule whose reading asks C of the values and gives a flat value -/
theorem opd_flat {g : Value → Value → Sem Value} {rr : R2} {f : F2} (h : OpR X g rr)
    (q : ∀ (F H : Hp) (v1 v2 : V) (d1 d2 : D) (z : R) (Q : VK), Sub F H → Lk X.K F H v1 d1 → Lk X.K F H v2 d2 → f d1 d2 = some z → (∀ v d, z = .val d → (∀ F, Rp X.K F v d) → Q v H) → rr v1 v2 H Q) : OpD X g f :=
  ⟨rr, h, fun e F r s H v1 v2 d1 d2 z Q k l1 l2 ef w => q F H v1 v2 d1 d2 z Q k.sub l1 l2 ef fun v d ez hd => by
    subst ez
    exact w v F H k (Sub.refl F) (.val (hd F))⟩
theorem Lk.int {K : Fg} {F H : Hp} {v : V} {i : Int} (h : Lk K F H v (.int i)) : v = .int i := by
  generalize e : (PyData.int i : D) = d at h
  cases h with
  | rp a => subst e; cases a; rfl
  | @mo p o m a b => cases m <;> cases e
theorem Lk.str {K : Fg} {F H : Hp} {v : V} {x : Str} (h : Lk K F H v (.str x)) : v = .str x := by
  generalize e : (PyData.str x : D) = d at h
  cases h with
  | rp a => subst e; cases a; rfl
  | @mo p o m a b => cases m <;> cases e
theorem Lk.bl {K : Fg} {F H : Hp} {v : V} {x : Bool} (h : Lk K F H v (.bool x)) : v = .bl x := by
  generalize e : (PyData.bool x : D) = d at h
  cases h with
  | rp a => subst e; cases a; rfl
  | @mo p o m a b => cases m <;> cases e
theorem Lk.non {K : Fg} {F H : Hp} {v : V} (h : Lk K F H v .none) : v = .non := by
  generalize e : (PyData.none : D) = d at h
  cases h with
  | rp a => subst e; cases a; rfl
  | @mo p o m a b => cases m <;> cases e
theorem Lk.lst {K : Fg} {F H : Hp} {v : V} {ds : List D} (h : Lk K F H v (.list ds)) (q : Sub F H) : ∃ a xs, v = .ref a ∧ Rd H a (.lst xs) ∧ RpA K F xs ds := by
  generalize e : (PyData.list ds : D) = d at h
  cases h with
  | rp a => subst e; cases a with | lst a b => exact ⟨_, _, rfl, q.rd a, b⟩
  | @mo p o m a b =>
    cases b with
    | L r => cases e; exact ⟨_, _, rfl, .inl a, r⟩
    | K => cases e
    | T => cases e
theorem Lk.tup {K : Fg} {F H : Hp} {v : V} {ds : List D} (h : Lk K F H v (.tuple ds)) (q : Sub F H) : ∃ a xs, v = .ref a ∧ SqT K H a xs ∧ RpA K F xs ds ∧ Rp K F v (.tuple ds) := by
  generalize e : (PyData.tuple ds : D) = d at h
  cases h with
  | rp a => subst e; exact (by cases a with | tup a b => exact ⟨_, _, rfl, q.sqT a, b, .tup a b⟩)
  | @mo p o m a b => cases m <;> cases e


theorem rd_list {P : Program} {w : World} {H : Hp} {h : Heap} {a : Addr} {xs : List V} (q : Rd H a (.lst xs)) (k : HOk P w H h) : xs.length ≤ sizeLine ∧ ∃ (its : List Value) (n : Nat), Vals xs its ∧ h.get? a = some { cls := .type "list", data := .seq its.toArray n } := by
  have z := q.ok k
  exact z
def rCatR : R2 := fun x y H Q => ∃ l b xs zs, x = .ref l ∧ y = .ref b ∧ Rd H l (.lst xs) ∧ Rd H b (.lst zs) ∧ xs.length + zs.length ≤ sizeLine ∧ ∀ p, H p = none → Q (.ref p) (upd H p (.lst (xs ++ zs)))
theorem op_catR : OpR X (binaryOp .Add) rCatR := by
  rintro pins s σ H _ _ v u Q I rx ry ⟨l, b, xs, zs, rfl, rfl, h1, h2, hz, q⟩
  cases rx; cases ry
  obtain ⟨_, i1, n1, r1, e1⟩ := rd_list h1 I.hok
  obtain ⟨_, i2, n2, r2, e2⟩ := rd_list h2 I.hok
  have l1 := r1.length
  have l2 := r2.length
  refine PySem.P.add_list e1 e2 ?_ (by rw [List.size_toArray, List.size_toArray]; omega)
  rw [show i1.toArray ++ i2.toArray = (i1 ++ i2).toArray by simp]
  exact ⟨.ref _, _, I.lnew (t' := s.toks) (r1.append r2) (by rw [List.length_append]; omega), rfl, q _ I.fresh⟩
/-- the answer is flat -/
theorem RR.flat {K : Fg} {e : En} {F : Hp} {r : Rho} {s : L2.St} {H : Hp} {v : V} {d : D} (h : Rp K F v d) : RR K e F r s H (.val d) v := .val h
/-- a new list, own -/
theorem RR.newL {K : Fg} {e : En} {F : Hp} {r : Rho} {s : L2.St} {H : Hp} {p : Addr} {xs : List V} {ds : List D} (k : Ok K e F r s H) (h : H p = none) (a : RpA K F xs ds) : RR K e F r s (upd H p (.lst xs)) (.own (.L ds)) (.ref p) :=
  .own upd_same (.L a) (k.free h).1 (k.free h).2.1 (k.free h).2.2 (k.nobox h)
theorem RR.newT {K : Fg} {e : En} {F : Hp} {r : Rho} {s : L2.St} {H : Hp} {p : Addr} {xs : List V} {ds : List D} (k : Ok K e F r s H) (h : H p = none) (a : RpA K F xs ds) : RR K e (upd F p (.tup xs)) r s (upd H p (.tup xs)) (.val (.tuple ds)) (.ref p) :=
  .val (.tup (SqT.of upd_same) (a.mono (Sub.new (k.free h).1)))

def fAdd : F2
  | .int i, .int j => some (.val (.int (i + j)))
  | .str a, .str b => if a.length + b.length ≤ sizeLine then some (.val (.str (a ++ b))) else none
  | .list a, .list b => if a.length + b.length ≤ sizeLine then some (.own (.L (a ++ b))) else none
  | .tuple a, .tuple b => if a.length + b.length ≤ sizeLine then some (.val (.tuple (a ++ b))) else none
  | _, _ => none
theorem opd_add : OpD X (binaryOp .Add) fAdd := by
  refine ⟨_, OpR.or op_add (OpR.or op_add_str (OpR.or op_catR op_catA)), fun e F r s H v1 v2 d1 d2 z Q k l1 l2 ef w => ?_⟩
  unfold fAdd at ef
  split at ef
  · cases ef
    exact .inl ⟨_, _, l1.int, l2.int, w _ F H k (Sub.refl F) (.val (.int _))⟩
  · split at ef
    · rename_i hz; cases ef
      exact .inr (.inl ⟨_, _, l1.str, l2.str, hz, w _ F H k (Sub.refl F) (.val (.str _))⟩)
    · cases ef
  · split at ef
    · rename_i hz; cases ef
      obtain ⟨a, xs, e1, h1, r1⟩ := l1.lst k.sub
      obtain ⟨b, ys, e2, h2, r2⟩ := l2.lst k.sub
      refine .inr (.inr (.inl ⟨a, b, xs, ys, e1, e2, h1, h2, by rw [r1.length, r2.length]; exact hz, fun p hp => ?_⟩))
      exact w _ F _ (k.alloc hp) (Sub.refl F) (.newL k hp (r1.append r2))
    · cases ef
  · split at ef
    · rename_i hz; cases ef
      obtain ⟨a, xs, e1, h1, r1, p1⟩ := l1.tup k.sub
      obtain ⟨b, ys, e2, h2, r2, p2⟩ := l2.tup k.sub
      refine .inr (.inr (.inr ⟨a, b, xs, ys, e1, e2, h1, h2, by rw [r1.length, r2.length]; exact hz, fun q => ?_, fun _ q => ?_, fun _ _ p hp => ?_⟩))
      · subst q; cases r1; subst e2; exact w _ F H k (Sub.refl F) (.val p2)
      · subst q; cases r2; subst e1; rw [List.append_nil] at w; exact w _ F H k (Sub.refl F) (.val p1)
      · exact w _ _ _ (k.lay hp) (Sub.new (k.free hp).1) (.newT k hp (r1.append r2))
    · cases ef
  · cases ef
def fSub : F2
  | .int i, .int j => some (.val (.int (i - j)))
  | _, _ => none
theorem opd_sub : OpD X (binaryOp .Sub) fSub := by
  refine ⟨_, op_sub, fun e F r s H v1 v2 d1 d2 z Q k l1 l2 ef w => ?_⟩
  unfold fSub at ef
  split at ef
  · cases ef
    exact ⟨_, _, l1.int, l2.int, w _ F H k (Sub.refl F) (.val (.int _))⟩
  · cases ef
/-! ### times -/
def small (i : Int) : Bool := decide (-(2 ^ 64) < i) && decide (i < 2 ^ 64)
theorem op_mul_str : OpR X (binaryOp .Mult) (fun x y H Q => ∃ a n, x = .str a ∧ y = .int n ∧ MulOk a n ∧ Q (.str (Txt.mul a n)) H) := by
  rintro pins s σ H _ _ v u Q I rx ry ⟨a, n, rfl, rfl, hk, q⟩
  obtain ⟨t, rfl⟩ := rx
  obtain ⟨t', rfl⟩ := ry
  exact PySem.SB.mul hk fun t2 k => ⟨.str _, H, I.tok _, ⟨_, rfl⟩, q⟩
theorem mulOk_of {a : Str} {n : Int} (h : a.length * n.toNat ≤ 1000000) (h2 : n < 1000000) (h1 : -1000000 < n) : MulOk a n := by
  refine ⟨?_, fun h3 h4 => ?_, fun _ _ => ?_⟩
  · simp only [Bool.or_eq_false_iff, decide_eq_false_iff_not]
    omega
  · have hn : (1 : Int) ≤ n := by omega
    obtain ⟨m, rfl⟩ : ∃ m : Nat, n = (m : Int) := ⟨n.toNat, by omega⟩
    have h5 : a.length * m ≤ 1000000 := h
    have : (a.length : Int) * m ≤ 1000000 := by rw [← Int.natCast_mul]; omega
    have h6 : (a.length : Int) ≤ (2 ^ 63 - 1) / (m : Int) := (Int.le_ediv_iff_mul_le (by omega)).mpr (by omega)
    omega
  · have : sizeLine = 16777216 := sizeLine_eq
    exact decide_eq_false (by omega)

def fMul : F2
  | .int i, .int j => if small i || small j then some (.val (.int (i * j))) else none
  | .str a, .int n => if a.length * n.toNat ≤ 1000000 ∧ n < 1000000 ∧ -1000000 < n then some (.val (.str (Txt.mul a n))) else none
  | .tuple a, .int n => if a ≠ [] ∧ 2 ≤ n ∧ n ≤ 1000 ∧ a.length ≤ 1000 then some (.val (.tuple (List.replicate n.toNat a).flatten)) else none
  | _, _ => none
theorem RpA.rep {K : Fg} {F : Hp} {vs : List V} {ds : List D} (h : RpA K F vs ds) (n : Nat) : RpA K F (List.replicate n vs).flatten (List.replicate n ds).flatten := by
  induction n with
  | zero => exact .nil
  | succ n ih => rw [List.replicate_succ, List.replicate_succ, List.flatten_cons, List.flatten_cons]; exact h.append ih
theorem RpA.ne {K : Fg} {F : Hp} {vs : List V} {ds : List D} (h : RpA K F vs ds) (q : ds ≠ []) : vs ≠ [] := by
  rintro rfl; cases h; exact q rfl
theorem opd_mul : OpD X (binaryOp .Mult) fMul := by
  refine ⟨_, OpR.or op_mul (OpR.or op_mul_str op_repT), fun e F r s H v1 v2 d1 d2 z Q k l1 l2 ef w => ?_⟩
  unfold fMul at ef
  split at ef
  · split at ef
    · rename_i hz; cases ef
      refine .inl ⟨_, _, l1.int, l2.int, ?_, w _ F H k (Sub.refl F) (.val (.int _))⟩
      simp only [small, Bool.or_eq_true, Bool.and_eq_true, decide_eq_true_eq] at hz
      exact hz
    · cases ef
  · split at ef
    · rename_i hz; cases ef
      exact .inr (.inl ⟨_, _, l1.str, l2.int, mulOk_of hz.1 hz.2.1 hz.2.2, w _ F H k (Sub.refl F) (.val (.str _))⟩)
    · cases ef
  · split at ef
    · rename_i hz; cases ef
      obtain ⟨a, xs, e1, h1, r1, p1⟩ := l1.tup k.sub
      refine .inr (.inr ⟨a, _, xs, e1, l2.int, h1, r1.ne hz.1, hz.2.1, hz.2.2.1, by rw [r1.length]; exact hz.2.2.2, fun p hp => ?_⟩)
      exact w _ _ _ (k.lay hp) (Sub.new (k.free hp).1) (.newT k hp (r1.rep _))
    · cases ef
  · cases ef
def fDiv : F2
  | .int i, .int j => if 0 < j ∧ j < 1073741824 then some (.val (.int (i / j))) else none
  | _, _ => none
theorem opd_div : OpD X (binaryOp .FloorDiv) fDiv := by
  refine ⟨_, op_fdiv, fun e F r s H v1 v2 d1 d2 z Q k l1 l2 ef w => ?_⟩
  unfold fDiv at ef
  split at ef
  · split at ef
    · rename_i hz; cases ef
      exact ⟨_, _, l1.int, l2.int, hz, w _ F H k (Sub.refl F) (.val (.int _))⟩
    · cases ef
  · cases ef
def fMod : F2
  | .int i, .int j => if 0 < j then some (.val (.int (i % j))) else none
  | _, _ => none
theorem opd_mod : OpD X (binaryOp .Mod) fMod := by
  refine ⟨_, op_mod, fun e F r s H v1 v2 d1 d2 z Q k l1 l2 ef w => ?_⟩
  unfold fMod at ef
  split at ef
  · split at ef
    · rename_i hz; cases ef
      exact ⟨_, _, l1.int, l2.int, hz, w _ F H k (Sub.refl F) (.val (.int _))⟩
    · cases ef
  · cases ef
def fPow : F2
  | .int i, .int j => if 0 ≤ j ∧ j ≤ 100 ∧ i.natAbs < 2 ^ 4096 then some (.val (.int (i ^ j.toNat))) else none
  | _, _ => none
theorem op_powW : OpR X (binaryOp .Pow) (rI (fun i j => 0 ≤ j ∧ j ≤ 100 ∧ i.natAbs < 2 ^ 4096) fun i j => .int (i ^ j.toNat)) := opI fun i j _ _ _ _ _ hc q => by
  refine pow_int hc.1 ?_ q
  have h1 : Builtin.Int.intBits i ≤ 4096 := intBits_le hc.2.2
  have h2 := hc.1
  have h3 := hc.2.1
  have : (Builtin.Int.intBits i : Int) * j ≤ 4096 * 100 := Int.mul_le_mul (by omega) h3 h2 (by omega)
  omega
theorem opd_pow : OpD X (binaryOp .Pow) fPow := by
  refine ⟨_, op_powW, fun e F r s H v1 v2 d1 d2 z Q k l1 l2 ef w => ?_⟩
  unfold fPow at ef
  split at ef
  · split at ef
    · rename_i hz; cases ef
      exact ⟨_, _, l1.int, l2.int, hz, w _ F H k (Sub.refl F) (.val (.int _))⟩
    · cases ef
  · cases ef
end
/-! ### what they do, running -/
theorem rq_if {α : Type} {c A : Prop} [Decidable c] {x : α} (h : Rq c A) : (if c then some x else none) = some x := if_pos h.c
def kAdd : D → D → (R → Prop) → Prop
  | .int i, .int j, K => K (.val (.int (i + j)))
  | .str x, .str y, K => Rq (x.length + y.length ≤ sizeLine) (K (.val (.str (x ++ y))))
  | .list x, .list y, K => Rq (x.length + y.length ≤ sizeLine) (K (.own (.L (x ++ y))))
  | .tuple x, .tuple y, K => Rq (x.length + y.length ≤ sizeLine) (K (.val (.tuple (x ++ y))))
  | _, _, _ => False
def oAdd : OpK := ⟨fAdd, kAdd, fun d1 d2 K h => by
  cases d1 <;> cases d2 <;> first
    | exact h.elim
    | exact ⟨_, rfl, h⟩
    | exact ⟨_, rq_if h, Rq.a h⟩⟩
def kSub : D → D → (R → Prop) → Prop
  | .int i, .int j, K => K (.val (.int (i - j)))
  | _, _, _ => False
def oSub : OpK := ⟨fSub, kSub, fun d1 d2 K h => by
  cases d1 <;> cases d2 <;> first
    | exact h.elim
    | exact ⟨_, rfl, h⟩⟩
def kMul : D → D → (R → Prop) → Prop
  | .int i, .int j, K => Rq ((-(2 ^ 64) < i ∧ i < 2 ^ 64) ∨ (-(2 ^ 64) < j ∧ j < 2 ^ 64)) (K (.val (.int (i * j))))
  | .str a, .int n, K => Rq (a.length * n.toNat ≤ 1000000 ∧ n < 1000000 ∧ -1000000 < n) (K (.val (.str (Txt.mul a n))))
  | .tuple a, .int n, K => Rq (a ≠ [] ∧ 2 ≤ n ∧ n ≤ 1000 ∧ a.length ≤ 1000) (K (.val (.tuple (List.replicate n.toNat a).flatten)))
  | _, _, _ => False
def oMul : OpK := ⟨fMul, kMul, fun d1 d2 K h => by
  cases d1 <;> cases d2 <;> first
    | exact h.elim
    | exact ⟨_, rq_if h, Rq.a h⟩
    | (refine ⟨_, if_pos ?_, Rq.a h⟩
       simp only [small, Bool.or_eq_true, Bool.and_eq_true, decide_eq_true_eq]
       exact Rq.c h)⟩
def kDiv : D → D → (R → Prop) → Prop
  | .int i, .int j, K => Rq (0 < j ∧ j < 1073741824) (K (.val (.int (i / j))))
  | _, _, _ => False
def oDiv : OpK := ⟨fDiv, kDiv, fun d1 d2 K h => by
  cases d1 <;> cases d2 <;> first
    | exact h.elim
    | exact ⟨_, rq_if h, Rq.a h⟩⟩
def kMod : D → D → (R → Prop) → Prop
  | .int i, .int j, K => Rq (0 < j) (K (.val (.int (i % j))))
  | _, _, _ => False
def oMod : OpK := ⟨fMod, kMod, fun d1 d2 K h => by
  cases d1 <;> cases d2 <;> first
    | exact h.elim
    | exact ⟨_, rq_if h, Rq.a h⟩⟩
theorem big_pow {a : Int} (h1 : 0 ≤ a) (h2 : a ≤ 2 ^ 200) : a.natAbs < 2 ^ 4096 := by
  have h3 : a.natAbs ≤ 2 ^ 200 := by
    have : (a.natAbs : Int) ≤ ((2 ^ 200 : Nat) : Int) := by rw [Int.natAbs_of_nonneg h1]; exact h2
    exact Int.ofNat_le.mp this
  exact Nat.lt_of_le_of_lt h3 (Nat.pow_lt_pow_right (by decide) (by decide))
def kPow : D → D → (R → Prop) → Prop
  | .int i, .int j, K => Rq ((0 ≤ j ∧ j ≤ 100) ∧ 0 ≤ i ∧ i ≤ 2 ^ 200) (K (.val (.int (i ^ j.toNat))))
  | _, _, _ => False
def oPow : OpK := ⟨fPow, kPow, fun d1 d2 K h => by
  cases d1 <;> cases d2 <;> first
    | exact h.elim
    | exact ⟨_, if_pos ⟨(Rq.c h).1.1, (Rq.c h).1.2, big_pow (Rq.c h).2.1 (Rq.c h).2.2⟩, Rq.a h⟩⟩
end DL
namespace DL
open PySem L2 PyProof.Rows
section
variable {X : Cx}
/-! ### == -/
def flatD : D → Bool
  | .none | .bool _ | .int _ | .str _ => true
  | _ => false
def toV : D → V
  | .none => .non
  | .bool b => .bl b
  | .int i => .int i
  | .str x => .str x
  | _ => .non
theorem Lk.flat {K : Fg} {F H : Hp} {v : V} {d : D} (h : Lk K F H v d) (f : flatD d = true) : v = toV d := by
  cases d <;> first
    | exact h.non
    | exact h.bl
    | exact h.int
    | exact h.str
    | cases f
theorem flatV_toV (d : D) (f : flatD d = true) : flatV (toV d) = true := by cases d <;> first | rfl | cases f
theorem eqV_toV (a b : D) (fa : flatD a = true) (fb : flatD b = true) : eqV (toV a) (toV b) = PyData.eqv a b := by
  cases a <;> cases b <;> first | rfl | exact Bool.noConfusion (show false = true from fa) | exact Bool.noConfusion (show false = true from fb)
/-- pairs of flat data that == tells apart as data -/
def scalD (a b : D) : Bool := flatD a && flatD b && scal (toV a) (toV b)
theorem scal_eq (a b : D) (h : scalD a b = true) : decide (toV a = toV b) = PyData.eqv a b := by
  simp only [scalD, Bool.and_eq_true] at h
  obtain ⟨⟨fa, fb⟩, h⟩ := h
  cases a <;> cases b <;> first
    | exact Bool.noConfusion (show false = true from fa)
    | exact Bool.noConfusion (show false = true from fb)
    | (simp [toV, PyData.eqv]; done)
    | (simp [toV, PyData.eqv, Bool.beq_eq_decide_eq]; done)
    | (exact absurd (show false = true from h) Bool.false_ne_true)
mutual
theorem Rp.dp {K : Fg} {H : Hp} : ∀ {v : V} {d : D}, Rp K H v d → d.hasDict = false → Dp K H v d
  | _, _, .non, _ => .non
  | _, _, .bl b, _ => .bl b
  | _, _, .int i, _ => .int i
  | _, _, .str x, _ => .str x
  | _, _, .lst h r, q => .lst (.inl h) (RpA.dp r (by simpa [PyData.hasDict] using q))
  | _, _, .tup h r, q => .tup h (RpA.dp r (by simpa [PyData.hasDict] using q))
  | _, _, .dct _ _ _ _, q => by simp [PyData.hasDict] at q
theorem RpA.dp {K : Fg} {H : Hp} : ∀ {v : List V} {d : List D}, RpA K H v d → PyData.hasDictAll d = false → DpAll K H v d
  | _, _, .nil, _ => .nil
  | _, _, .cons h r, q => by
    simp only [PyData.hasDictAll, Bool.or_eq_false_iff] at q
    exact .cons (Rp.dp h q.1) (RpA.dp r q.2)
end
theorem shaped_nodict {d : D} (h : SeqAt.shaped d = true) : d.hasDict = false := PyData.hasDict_of_canLay d (SeqAt.canLay_of_shaped h)
def fEqB (neg : Bool) : F2 := fun a b => if scalD a b || (SeqAt.shaped a && SeqAt.shaped b) then some (.val (.bool (if neg then !PyData.eqv a b else PyData.eqv a b))) else none
abbrev fEq : F2 := fEqB false
abbrev fNe : F2 := fEqB true
theorem opd_eq (hu : X.A.units + 64 < cLine) : OpD X (compareOp .Eq) fEq := by
  refine ⟨_, OpR.or op_eq (op_eqD hu), fun e F r s H v1 v2 d1 d2 z Q k l1 l2 ef w => ?_⟩
  simp only [fEq, fEqB] at ef
  split at ef
  · rename_i hh
    cases ef
    rcases Bool.or_eq_true_iff.mp hh with h | h
    · have h0 := h
      simp only [scalD, Bool.and_eq_true] at h0
      refine .inl ?_
      rw [l1.flat h0.1.1, l2.flat h0.1.2]
      refine ⟨h0.2, ?_⟩
      rw [scal_eq _ _ h]
      exact w _ F H k (Sub.refl F) (.val (.bl _))
    · rw [Bool.and_eq_true] at h
      exact .inr ⟨d1, d2, (l1.all k.sub).dp (shaped_nodict h.1), (l2.all k.sub).dp (shaped_nodict h.2), h.1, h.2, w _ F H k (Sub.refl F) (.val (.bl _))⟩
  · cases ef
theorem opd_ne (hu : X.A.units + 64 < cLine) : OpD X (compareOp .NotEq) fNe := by
  refine ⟨_, OpR.or op_ne (op_neD hu), fun e F r s H v1 v2 d1 d2 z Q k l1 l2 ef w => ?_⟩
  simp only [fNe, fEqB] at ef
  split at ef
  · rename_i hh
    cases ef
    rcases Bool.or_eq_true_iff.mp hh with h | h
    · have h0 := h
      simp only [scalD, Bool.and_eq_true] at h0
      refine .inl ?_
      rw [l1.flat h0.1.1, l2.flat h0.1.2]
      refine ⟨h0.2, ?_⟩
      rw [scal_eq _ _ h]
      exact w _ F H k (Sub.refl F) (.val (.bl _))
    · rw [Bool.and_eq_true] at h
      exact .inr ⟨d1, d2, (l1.all k.sub).dp (shaped_nodict h.1), (l2.all k.sub).dp (shaped_nodict h.2), h.1, h.2, w _ F H k (Sub.refl F) (.val (.bl _))⟩
  · cases ef
/-! ### order -/
def fLt : F2
  | .int i, .int j => some (.val (.bool (decide (i < j))))
  | .str a, .str b => some (.val (.bool (decide (a.cps.toList < b.cps.toList))))
  | _, _ => none
theorem opd_lt : OpD X (compareOp .Lt) fLt := by
  refine ⟨_, OpR.or op_lt op_lt_str, fun e F r s H v1 v2 d1 d2 z Q k l1 l2 ef w => ?_⟩
  unfold fLt at ef
  split at ef
  · cases ef; exact .inl ⟨_, _, l1.int, l2.int, w _ F H k (Sub.refl F) (.val (.bl _))⟩
  · cases ef; exact .inr ⟨_, _, l1.str, l2.str, w _ F H k (Sub.refl F) (.val (.bl _))⟩
  · cases ef
def fLe : F2
  | .int i, .int j => some (.val (.bool (decide (i ≤ j))))
  | _, _ => none
theorem opd_le : OpD X (compareOp .LtE) fLe := by
  refine ⟨_, op_le, fun e F r s H v1 v2 d1 d2 z Q k l1 l2 ef w => ?_⟩
  unfold fLe at ef
  split at ef
  · cases ef; exact ⟨_, _, l1.int, l2.int, w _ F H k (Sub.refl F) (.val (.bl _))⟩
  · cases ef
def fGt : F2
  | .int i, .int j => some (.val (.bool (decide (j < i))))
  | _, _ => none
theorem opd_gt : OpD X (compareOp .Gt) fGt := by
  refine ⟨_, op_gt, fun e F r s H v1 v2 d1 d2 z Q k l1 l2 ef w => ?_⟩
  unfold fGt at ef
  split at ef
  · cases ef; exact ⟨_, _, l1.int, l2.int, w _ F H k (Sub.refl F) (.val (.bl _))⟩
  · cases ef
def fGe : F2
  | .int i, .int j => some (.val (.bool (decide (j ≤ i))))
  | _, _ => none
theorem opd_ge : OpD X (compareOp .GtE) fGe := by
  refine ⟨_, op_ge, fun e F r s H v1 v2 d1 d2 z Q k l1 l2 ef w => ?_⟩
  unfold fGe at ef
  split at ef
  · cases ef; exact ⟨_, _, l1.int, l2.int, w _ F H k (Sub.refl F) (.val (.bl _))⟩
  · cases ef
/-! ### in -/
def strIn (a b : Str) : Bool := !(Builtin.Str.occurrences b a 0 b.length 1).isEmpty
def flatIn (x : D) (ds : List D) : Bool := ds.any fun y => PyData.eqv y x
def fInB (neg : Bool) : F2 := fun x y => match y with
  | .str b => match x with
    | .str a => some (.val (.bool (if neg then !strIn a b else strIn a b)))
    | _ => none
  | .list ds => if flatD x && ds.all flatD then some (.val (.bool (if neg then !flatIn x ds else flatIn x ds))) else if SeqAt.shaped x && SeqAt.shaped (.list ds) then some (.val (.bool (if neg then !flatIn x ds else flatIn x ds))) else none
  | .tuple ds => if flatD x && ds.all flatD then some (.val (.bool (if neg then !flatIn x ds else flatIn x ds))) else none
  | _ => none
abbrev fIn : F2 := fInB false
abbrev fNotIn : F2 := fInB true
theorem RpA.flat {K : Fg} {F : Hp} : ∀ {vs : List V} {ds : List D}, RpA K F vs ds → ds.all flatD = true → vs = ds.map toV
  | _, _, .nil, _ => rfl
  | _, _, .cons h r, q => by
    simp only [List.all_cons, Bool.and_eq_true] at q
    rw [List.map_cons, RpA.flat r q.2, (Lk.rp h : Lk K F F _ _).flat q.1]
theorem inV_flat (x : D) (ds : List D) (f : flatD x = true) (q : ds.all flatD = true) : inV (toV x) (ds.map toV) = flatIn x ds := by
  unfold inV flatIn
  induction ds with
  | nil => rfl
  | cons d ds ih =>
    simp only [List.all_cons, Bool.and_eq_true] at q
    rw [List.map_cons, List.any_cons, List.any_cons, ih q.2, eqV_toV _ _ q.1 f]
theorem all_flatV (ds : List D) (q : ds.all flatD = true) : (ds.map toV).all flatV = true := by
  rw [List.all_map]
  rw [List.all_eq_true] at q ⊢
  exact fun d hd => flatV_toV d (q d hd)
theorem in_read {K : Fg} {neg : Bool} {e : En} {F : Hp} {r : Rho} {s : L2.St} {H : Hp} {v1 v2 : V} {x : D} {ds : List D} {Q : VK} {a : Addr} {xs : List V} (k : Ok K e F r s H) (l1 : Lk K F H v1 x) (e2 : v2 = .ref a) (h2 : SqL K H a xs ∨ SqT K H a xs) (r2 : RpA K F xs ds)
    (hf : (flatD x && ds.all flatD) = true) (w : ∀ v F' H', Ok K e F' r s H' → Sub F F' → RR K e F' r s H' (.val (.bool (if neg then !flatIn x ds else flatIn x ds))) v → Q v H') : rIn K neg v1 v2 H Q := by
  rw [Bool.and_eq_true] at hf
  have q := r2.flat hf.2
  subst q
  refine ⟨a, _, e2, h2, by rw [l1.flat hf.1]; exact flatV_toV x hf.1, all_flatV ds hf.2, ?_⟩
  rw [l1.flat hf.1, inV_flat x ds hf.1 hf.2]
  exact w _ F H k (Sub.refl F) (.val (.bl _))
theorem opd_in (hu : X.A.units + 65 < cLine) : OpD X (compareOp .In) fIn := by
  refine ⟨_, OpR.or op_in_str (OpR.or op_in_seq (op_inD hu)), fun e F r s H v1 v2 d1 d2 z Q k l1 l2 ef w => ?_⟩
  simp only [fIn, fInB] at ef
  split at ef
  · split at ef
    · cases ef; exact .inl ⟨_, _, l1.str, l2.str, w _ F H k (Sub.refl F) (.val (.bl _))⟩
    · cases ef
  · split at ef
    · rename_i hf; cases ef
      obtain ⟨a, xs, e2, h2, r2⟩ := l2.lst k.sub
      exact .inr (.inl (in_read (neg := false) k l1 e2 (.inl (.inl h2)) r2 hf w))
    · split at ef
      · rename_i hf; cases ef
        rw [Bool.and_eq_true] at hf
        exact .inr (.inr ⟨_, _, (l1.all k.sub).dp (shaped_nodict hf.1), (l2.all k.sub).dp (shaped_nodict hf.2), hf.1, hf.2, w _ F H k (Sub.refl F) (.val (.bl _))⟩)
      · cases ef
  · split at ef
    · rename_i hf; cases ef
      obtain ⟨a, xs, e2, h2, r2, _⟩ := l2.tup k.sub
      exact .inr (.inl (in_read (neg := false) k l1 e2 (.inr h2) r2 hf w))
    · cases ef
  · cases ef
theorem opd_notin (hu : X.A.units + 65 < cLine) : OpD X (compareOp .NotIn) fNotIn := by
  refine ⟨_, OpR.or op_notin_str (OpR.or op_notIn_seq (op_notInD hu)), fun e F r s H v1 v2 d1 d2 z Q k l1 l2 ef w => ?_⟩
  simp only [fNotIn, fInB] at ef
  split at ef
  · split at ef
    · cases ef; exact .inl ⟨_, _, l1.str, l2.str, w _ F H k (Sub.refl F) (.val (.bl _))⟩
    · cases ef
  · split at ef
    · rename_i hf; cases ef
      obtain ⟨a, xs, e2, h2, r2⟩ := l2.lst k.sub
      exact .inr (.inl (in_read (neg := true) k l1 e2 (.inl (.inl h2)) r2 hf w))
    · split at ef
      · rename_i hf; cases ef
        rw [Bool.and_eq_true] at hf
        exact .inr (.inr ⟨_, _, (l1.all k.sub).dp (shaped_nodict hf.1), (l2.all k.sub).dp (shaped_nodict hf.2), hf.1, hf.2, w _ F H k (Sub.refl F) (.val (.bl _))⟩)
      · cases ef
  · split at ef
    · rename_i hf; cases ef
      obtain ⟨a, xs, e2, h2, r2, _⟩ := l2.tup k.sub
      exact .inr (.inl (in_read (neg := true) k l1 e2 (.inr h2) r2 hf w))
    · cases ef
  · cases ef
/-! ### is -/
def isNone : D → Bool
  | .none => true
  | _ => false
theorem Lk.isN {K : Fg} {F H : Hp} {v : V} {d : D} (h : Lk K F H v d) : decide (v = .non) = isNone d := by
  cases h with
  | rp a => cases a <;> simp [isNone]
  | @mo p o m a b => cases m <;> simp [isNone, MB.toD]
def fIsB (neg : Bool) : F2 := fun a b => match b with
  | .none => some (.val (.bool (if neg then !isNone a else isNone a)))
  | .bool y => match a with
    | .bool x => some (.val (.bool (if neg then !decide (x = y) else decide (x = y))))
    | _ => none
  | _ => none
abbrev fIs : F2 := fIsB false
abbrev fIsNot : F2 := fIsB true
theorem opd_is : OpD X (compareOp .Is) fIs := by
  refine ⟨_, OpR.or op_isN op_is_bl, fun e F r s H v1 v2 d1 d2 z Q k l1 l2 ef w => ?_⟩
  simp only [fIs, fIsB] at ef
  split at ef
  · cases ef
    refine .inl ⟨l2.non, ?_⟩
    rw [l1.isN]
    exact w _ F H k (Sub.refl F) (.val (.bl _))
  · split at ef
    · cases ef; exact .inr ⟨_, _, l1.bl, l2.bl, w _ F H k (Sub.refl F) (.val (.bl _))⟩
    · cases ef
  · cases ef
theorem opd_isnot : OpD X (compareOp .IsNot) fIsNot := by
  refine ⟨_, OpR.or op_notN op_isnot_bl, fun e F r s H v1 v2 d1 d2 z Q k l1 l2 ef w => ?_⟩
  simp only [fIsNot, fIsB] at ef
  split at ef
  · cases ef
    refine .inl ⟨l2.non, ?_⟩
    rw [l1.isN]
    exact w _ F H k (Sub.refl F) (.val (.bl _))
  · split at ef
    · cases ef; exact .inr ⟨_, _, l1.bl, l2.bl, w _ F H k (Sub.refl F) (.val (.bl _))⟩
    · cases ef
  · cases ef
end
/-! ### running -/
def kEq : D → D → (R → Prop) → Prop
  | .int a, .int b, K => K (.val (.bool (decide (a = b))))
  | .str a, .str b, K => K (.val (.bool (decide (a = b))))
  | a, b, K => rqB (scalD a b || (SeqAt.shaped a && SeqAt.shaped b)) (K (.val (.bool (PyData.eqv a b))))
def kNe : D → D → (R → Prop) → Prop
  | .int a, .int b, K => K (.val (.bool (!decide (a = b))))
  | .str a, .str b, K => K (.val (.bool (!decide (a = b))))
  | a, b, K => rqB (scalD a b || (SeqAt.shaped a && SeqAt.shaped b)) (K (.val (.bool (!PyData.eqv a b))))
theorem f_eq_int {a b : Int} : fEq (.int a) (.int b) = some (.val (.bool (decide (a = b)))) := by
  have h : scalD (.int a) (.int b) = true := by rfl
  simp [fEqB, h, PyData.eqv, Bool.beq_eq_decide_eq]
theorem f_ne_int {a b : Int} : fNe (.int a) (.int b) = some (.val (.bool (!decide (a = b)))) := by
  have h : scalD (.int a) (.int b) = true := by rfl
  simp [fEqB, h, PyData.eqv, Bool.beq_eq_decide_eq]
theorem f_eq_str {x y : Str} : fEq (.str x) (.str y) = some (.val (.bool (decide (x = y)))) := by
  have h : scalD (.str x) (.str y) = true := by rfl
  simp [fEqB, h, PyData.eqv, Bool.beq_eq_decide_eq]
theorem f_ne_str {x y : Str} : fNe (.str x) (.str y) = some (.val (.bool (!decide (x = y)))) := by
  have h : scalD (.str x) (.str y) = true := by rfl
  simp [fEqB, h, PyData.eqv, Bool.beq_eq_decide_eq]
theorem eq_ok {a b : D} {K : R → Prop} (h : rqB (scalD a b || (SeqAt.shaped a && SeqAt.shaped b)) (K (.val (.bool (PyData.eqv a b))))) : ∃ z, fEq a b = some z ∧ K z := by
  obtain ⟨h1, h2⟩ := rqB.ex h
  exact ⟨_, by simp only [fEqB, h1, if_true]; rfl, h2⟩
theorem ne_ok {a b : D} {K : R → Prop} (h : rqB (scalD a b || (SeqAt.shaped a && SeqAt.shaped b)) (K (.val (.bool (!PyData.eqv a b))))) : ∃ z, fNe a b = some z ∧ K z := by
  obtain ⟨h1, h2⟩ := rqB.ex h
  exact ⟨_, by simp only [fEqB, h1, if_true], h2⟩
def oEq : OpK := ⟨fEq, kEq, fun d1 d2 K h => by
  unfold kEq at h
  split at h
  · exact ⟨_, f_eq_int, h⟩
  · exact ⟨_, f_eq_str, h⟩
  · exact eq_ok h⟩
def oNe : OpK := ⟨fNe, kNe, fun d1 d2 K h => by
  unfold kNe at h
  split at h
  · exact ⟨_, f_ne_int, h⟩
  · exact ⟨_, f_ne_str, h⟩
  · exact ne_ok h⟩
def kLt : D → D → (R → Prop) → Prop
  | .int i, .int j, K => K (.val (.bool (decide (i < j))))
  | .str a, .str b, K => K (.val (.bool (decide (a.cps.toList < b.cps.toList))))
  | _, _, _ => False
def oLt : OpK := ⟨fLt, kLt, fun d1 d2 K h => by
  cases d1 <;> cases d2 <;> first
    | exact h.elim
    | exact ⟨_, rfl, h⟩⟩
def kLe : D → D → (R → Prop) → Prop
  | .int i, .int j, K => K (.val (.bool (decide (i ≤ j))))
  | _, _, _ => False
def oLe : OpK := ⟨fLe, kLe, fun d1 d2 K h => by
  cases d1 <;> cases d2 <;> first
    | exact h.elim
    | exact ⟨_, rfl, h⟩⟩
def kGt : D → D → (R → Prop) → Prop
  | .int i, .int j, K => K (.val (.bool (decide (j < i))))
  | _, _, _ => False
def oGt : OpK := ⟨fGt, kGt, fun d1 d2 K h => by
  cases d1 <;> cases d2 <;> first
    | exact h.elim
    | exact ⟨_, rfl, h⟩⟩
def kGe : D → D → (R → Prop) → Prop
  | .int i, .int j, K => K (.val (.bool (decide (j ≤ i))))
  | _, _, _ => False
def oGe : OpK := ⟨fGe, kGe, fun d1 d2 K h => by
  cases d1 <;> cases d2 <;> first
    | exact h.elim
    | exact ⟨_, rfl, h⟩⟩
def kInB (neg : Bool) (x y : D) (K : R → Prop) : Prop := match y with
  | .str b => match x with
    | .str a => K (.val (.bool (xor neg (strIn a b))))
    | _ => False
  | .list ds => rqB ((flatD x && ds.all flatD) || (SeqAt.shaped x && SeqAt.shaped (.list ds))) (K (.val (.bool (xor neg (flatIn x ds)))))
  | .tuple ds => rqB (flatD x && ds.all flatD) (K (.val (.bool (xor neg (flatIn x ds)))))
  | _ => False
theorem xor_if (neg b : Bool) : (if neg = true then !b else b) = xor neg b := by cases neg <;> cases b <;> rfl
theorem inB_ok (neg : Bool) (x y : D) (K : R → Prop) (h : kInB neg x y K) : ∃ z, fInB neg x y = some z ∧ K z := by
  unfold kInB at h
  unfold fInB
  split at h
  · split at h
    · exact ⟨_, by simp only [xor_if], h⟩
    · exact h.elim
  · obtain ⟨h1, h2⟩ := rqB.ex h
    rw [Bool.or_eq_true] at h1
    refine ⟨_, ?_, h2⟩
    simp only [xor_if]
    split
    · rfl
    · rename_i n
      rcases h1 with h1 | h1
      · exact absurd h1 n
      · rw [if_pos h1]
  · obtain ⟨h1, h2⟩ := rqB.ex h
    exact ⟨_, by simp only [h1, if_true, xor_if], h2⟩
  · exact h.elim
def oIn : OpK := ⟨fIn, kInB false, inB_ok false⟩
def oNotIn : OpK := ⟨fNotIn, kInB true, inB_ok true⟩
def kIsB (neg : Bool) (a b : D) (K : R → Prop) : Prop := match b with
  | .none => K (.val (.bool (xor neg (isNone a))))
  | .bool y => match a with
    | .bool x => K (.val (.bool (xor neg (decide (x = y)))))
    | _ => False
  | _ => False
theorem isB_ok (neg : Bool) (x y : D) (K : R → Prop) (h : kIsB neg x y K) : ∃ z, fIsB neg x y = some z ∧ K z := by
  unfold kIsB at h
  unfold fIsB
  split at h
  · exact ⟨_, by simp only [xor_if], h⟩
  · split at h
    · exact ⟨_, by simp only [xor_if], h⟩
    · exact h.elim
  · exact h.elim
def oIs : OpK := ⟨fIs, kIsB false, isB_ok false⟩
def oIsNot : OpK := ⟨fIsNot, kIsB true, isB_ok true⟩
end DL
namespace DL
open PySem L2 PyProof.Rows
/-! ### tests -/
abbrev PoB := Bool → Rho → Prop
abbrev MT := Rho → PoB → Prop
def TB (K : Fg) (e : En) (m : MT) : TT := fun s H Q => ∃ F r, Ok K e F r s H ∧ ∃ P : PoB, m r P ∧ ∀ b r' F' H', P b r' → Ok K e F' r' s H' → Sub F F' → Q b H'
def DT (X : Cx) (a : Expr) (m : MT) : Prop := ∀ e, PT X a (TB X.K e m)
theorem PT.imp {X : Cx} {a : Expr} {t u : TT} (h : PT X a t) (i : ∀ s H Q, u s H Q → t s H Q) : PT X a u := ⟨fun pins s σ H Q I q => h.run pins s σ H Q I (i _ _ _ q)⟩
def DW (X : Cx) (a : Expr) (m : MT) : Prop := ∀ e, PW X a (TB X.K e m)
theorem PW.imp {X : Cx} {a : Expr} {t u : TT} (h : PW X a t) (i : ∀ s H Q, u s H Q → t s H Q) : PW X a u := ⟨fun wh pins s σ H Q I q => h.run wh pins s σ H Q I (i _ _ _ q)⟩
def truth : D → Option Bool
  | .none => some false
  | .bool b => some b
  | .int i => some (i != 0)
  | .str x => if x.length ≤ sizeLine then some ((x.length : Int) != 0) else none
  | .list ds => some (!ds.isEmpty)
  | .tuple ds => some (!ds.isEmpty)
  | .dict _ => none
theorem RpA.isEmpty {K : Fg} {F : Hp} {vs : List V} {ds : List D} (h : RpA K F vs ds) : vs.isEmpty = ds.isEmpty := by cases h <;> rfl
theorem Lk.tru {K : Fg} {F H : Hp} {v : V} {d : D} {b : Bool} (h : Lk K F H v d) (q : Sub F H) (t : truth d = some b) : TruV K v H b := by
  cases d with
  | none => cases t; rw [h.non]; exact rfl
  | bool b => cases t; rw [h.bl]; exact rfl
  | int i => cases t; rw [h.int]; exact rfl
  | str x =>
    simp only [truth] at t
    split at t
    · rename_i hz; cases t; rw [h.str]; exact ⟨hz, rfl⟩
    · cases t
  | list ds =>
    cases t
    obtain ⟨a, xs, e, h1, r⟩ := h.lst q
    subst e
    exact .inl ⟨xs, .inl h1, by rw [r.isEmpty]⟩
  | tuple ds =>
    cases t
    obtain ⟨a, xs, e, h1, r, _⟩ := h.tup q
    subst e
    exact .inr (.inl ⟨xs, h1, by rw [r.isEmpty]⟩)
  | dict ds => cases t
def KTru (P : PoB) (x : R) (r : Rho) : Prop := onO (look r x) fun d => onO (truth d) fun b => P b r
theorem KTru.ex {P : PoB} {x : R} {r : Rho} (h : KTru P x r) : ∃ d b, look r x = some d ∧ truth d = some b ∧ P b r := by
  obtain ⟨d, e1, h1⟩ := onO.ex h
  obtain ⟨b, e2, h2⟩ := onO.ex h1
  exact ⟨d, b, e1, e2, h2⟩
def mTru (m : ME) : MT := fun r P => m r fun x r' => KTru P x.tmp r'
section
variable {X : Cx} {a b c : Expr} {ma mb mc : ME} {pos : Pos}
theorem dt_of (h : DE X a ma) (he : ∀ whole, isTrue a X.env whole = (do let v ← whole; standAt a.pos; holding [v] (truthy v)) := by intro _; rfl) : DT X a (mTru ma) := fun e =>
  PT.imp (pt_truth (h.tmp e) he) fun s H Q ⟨F, r, k, P, hm, hP⟩ => ⟨F, r, k, fun x r' => KTru P x r', hm, fun x r' v F' H' hx k' q' t => by
    obtain ⟨d, b, e1, e2, hp⟩ := KTru.ex hx
    exact ⟨b, (t.look k' e1).tru k'.sub e2, hP b r' F' H' hp k' q'⟩⟩
/-- a bool's value -/
def blOf : R → Option Bool
  | .val (.bool b) => some b
  | _ => none
def mTest (m : ME) : MT := fun r P => m r fun x r' => onO (blOf x) fun b => P b r'
theorem blOf_of {x : R} {b : Bool} (h : blOf x = some b) : x = .val (.bool b) := by
  unfold blOf at h
  split at h
  · cases h; rfl
  · cases h
theorem tTest_of {K : Fg} {e : En} {m : ME} {t : TE} (i : ∀ s H Q, T K e m s H Q → t s H Q) {s : L2.St} {H : Hp} {Q : Bool → Hp → Prop} (h : TB K e (mTest m) s H Q) : tTest t s H Q := by
  obtain ⟨F, r, k, P, hm, hP⟩ := h
  refine i s H _ ⟨F, r, k, _, hm, fun x r' v F' H' hx k' q' t => ?_⟩
  obtain ⟨b, e1, hp⟩ := onO.ex hx
  have := blOf_of e1
  subst this
  cases t with | val a => cases a; exact ⟨b, rfl, hP b r' F' H' hp k' q'⟩
theorem dt_cmp {op : CmpOp} {o : OpK} (ho : OpD X (compareOp op) o.f) (ha : DE X a ma) (hb : DE X b mb) (hm : behindInMarks op b = false) : DT X (.Compare a [op] [b] pos) (mTest (mOp o ma mb)) := fun e => by
  obtain ⟨rr, hr, hq⟩ := ho
  exact PT.imp (pt_cmpR hr (ha.tmp e) (hb.tmp e) hm) fun s H Q h => tTest_of (fun s H Q h => mOp_read hq h) h
def mChain (f g : OpK) (ma mb mc : ME) : ME := fun r P => ma r fun x r1 => mb r1 fun y r2 => KOp f (fun w r2 => onO (blOf w) fun k => brK k (mc r2 fun z r3 => KOp g P y.tmp z.tmp r3) (P (.val (.bool false)) r2)) x.tmp y.tmp r2
theorem chain_read {e : En} {f g : OpK} {rr rr' : R2} (ho : ∀ (e : En) (F : Hp) (r : Rho) (s : L2.St) (H : Hp) (v1 v2 : V) (d1 d2 : D) (z : R) (Q : VK),
    Ok X.K e F r s H → Lk X.K F H v1 d1 → Lk X.K F H v2 d2 → f.f d1 d2 = some z → (∀ v F' H', Ok X.K e F' r s H' → Sub F F' → RR X.K e F' r s H' z v → Q v H') → rr v1 v2 H Q)
    (ho' : ∀ (e : En) (F : Hp) (r : Rho) (s : L2.St) (H : Hp) (v1 v2 : V) (d1 d2 : D) (z : R) (Q : VK),
    Ok X.K e F r s H → Lk X.K F H v1 d1 → Lk X.K F H v2 d2 → g.f d1 d2 = some z → (∀ v F' H', Ok X.K e F' r s H' → Sub F F' → RR X.K e F' r s H' z v → Q v H') → rr' v1 v2 H Q)
    {s : L2.St} {H : Hp} {Q : VK} (h : T X.K e (mChain f g ma mb mc) s H Q) : tChain rr rr' (Tt X.K e (mTmp ma)) (Tt X.K e (mTmp mb)) (Tt X.K e (mTmp mc)) s H Q := by
  obtain ⟨F, r, k, P, hm, hP⟩ := h
  refine ⟨F, r, k, fun x r1 => mb r1 fun y r2 => KOp f (fun w r2 => onO (blOf w) fun k => brK k (mc r2 fun z r3 => KOp g P y.tmp z.tmp r3) (P (.val (.bool false)) r2)) x y.tmp r2, hm, fun x r1 v1 F1 H1 hx k1 q1 t1 => ?_⟩
  refine ⟨F1, r1, k1, fun y r2 => KOp f (fun w r2 => onO (blOf w) fun k => brK k (mc r2 fun z r3 => KOp g P y z.tmp r3) (P (.val (.bool false)) r2)) x y r2, hx, fun y r2 v2 F2 H2 hy k2 q2 t2 => ?_⟩
  obtain ⟨d1, d2, zz, e1, e2, ef, hzz⟩ := KOp.ex hy
  obtain ⟨kk, ek, hz⟩ := onO.ex hzz
  cases blOf_of ek
  refine ho e F2 r2 s H2 v1 v2 d1 d2 _ _ k2 ((t1.mono q2).look k2 e1) (t2.look k2 e2) ef fun v F3 H3 k3 q3 hr => ?_
  cases hr with | val a => ?_
  cases a
  refine ⟨kk, rfl, ?_⟩
  cases kk with
  | false =>
    rw [if_neg Bool.false_ne_true]
    exact hP _ r2 _ F3 H3 hz k3 ((q1.trans q2).trans q3) (.val (.bl _))
  | true =>
    rw [if_pos rfl]
    refine ⟨F3, r2, k3, fun z r3 => KOp g P y z r3, hz, fun z r3 v3 F4 H4 hz4 k4 q4 t4 => ?_⟩
    obtain ⟨d2', d3, w, g1, g2, eg, hw⟩ := KOp.ex hz4
    exact ho' e F4 r3 s H4 v2 v3 d2' d3 w Q k4 (((t2.mono q3).mono q4).look k4 g1) (t4.look k4 g2) eg fun v F5 H5 k5 q5 hr5 => hP w r3 v F5 H5 hw k5 ((((q1.trans q2).trans q3).trans q4).trans q5) hr5
theorem de_chain {op op' : CmpOp} {f g : OpK} (ho : OpD X (compareOp op) f.f) (ho' : OpD X (compareOp op') g.f) (ha : DE X a ma) (hb : DE X b mb) (hc : DE X c mc) (hm : lastMarks [op, op'] [b, c] = false := by with_unfolding_all rfl) : DE X (.Compare a [op, op'] [b, c] pos) (mChain f g ma mb mc) := fun e => by
  obtain ⟨rr, hr, hq⟩ := ho
  obtain ⟨rr', hr', hq'⟩ := ho'
  exact PE.imp (pe_chain hr hr' (ha.tmp e) (hb.tmp e) (hc.tmp e) hm) fun s H Q h => chain_read hq hq' h
theorem dt_chain {op op' : CmpOp} {f g : OpK} (ho : OpD X (compareOp op) f.f) (ho' : OpD X (compareOp op') g.f) (ha : DE X a ma) (hb : DE X b mb) (hc : DE X c mc) (hm : lastMarks [op, op'] [b, c] = false := by with_unfolding_all rfl) : DT X (.Compare a [op, op'] [b, c] pos) (mTest (mChain f g ma mb mc)) := fun e => by
  obtain ⟨rr, hr, hq⟩ := ho
  obtain ⟨rr', hr', hq'⟩ := ho'
  exact PT.imp (pt_chain hr hr' (ha.tmp e) (hb.tmp e) (hc.tmp e) hm) fun s H Q h => tTest_of (fun s H Q h => chain_read hq hq' h) h
/-! and, or, not as tests -/
variable {ta tb : MT} {rest : List Expr}
def bAnd (t u : MT) : MT := fun r P => t r fun b r1 => brK b (u r1 P) (P false r1)
def bOr (t u : MT) : MT := fun r P => t r fun b r1 => brK b (P true r1) (u r1 P)
def bNot (t : MT) : MT := fun r P => t r fun b r1 => P (!b) r1
theorem dw_and1 (ha : DT X a ta) : DW X (.BoolOp .And [a] pos) ta := fun e => pw_and1 (ha e)
theorem dw_or1 (ha : DT X a ta) : DW X (.BoolOp .Or [a] pos) ta := fun e => pw_or1 (ha e)
theorem dw_and (ha : DT X a ta) (hb : DW X (.BoolOp .And (b :: rest) pos) tb) : DW X (.BoolOp .And (a :: b :: rest) pos) (bAnd ta tb) := fun e =>
  PW.imp (pw_and (ha e) (hb e)) fun s H Q ⟨F, r, k, P, hm, hP⟩ => ⟨F, r, k, _, hm, fun c r1 F1 H1 hc k1 q1 => by
    cases c with
    | true => rw [if_pos rfl]; exact ⟨F1, r1, k1, P, hc, fun b r' F' H' hp k' q' => hP b r' F' H' hp k' (q1.trans q')⟩
    | false => rw [if_neg Bool.false_ne_true]; exact hP _ r1 F1 H1 hc k1 q1⟩
theorem dw_or (ha : DT X a ta) (hb : DW X (.BoolOp .Or (b :: rest) pos) tb) : DW X (.BoolOp .Or (a :: b :: rest) pos) (bOr ta tb) := fun e =>
  PW.imp (pw_or (ha e) (hb e)) fun s H Q ⟨F, r, k, P, hm, hP⟩ => ⟨F, r, k, _, hm, fun c r1 F1 H1 hc k1 q1 => by
    cases c with
    | true => rw [if_pos rfl]; exact hP _ r1 F1 H1 hc k1 q1
    | false => rw [if_neg Bool.false_ne_true]; exact ⟨F1, r1, k1, P, hc, fun b r' F' H' hp k' q' => hP b r' F' H' hp k' (q1.trans q')⟩⟩
theorem dt_w (h : DW X a ta) : DT X a ta := fun e => (h e).pt
theorem dt_not (h : DT X a ta) : DT X (.UnaryOp .Not a pos) (bNot ta) := fun e =>
  PT.imp (pt_not (h e)) fun s H Q ⟨F, r, k, P, hm, hP⟩ => ⟨F, r, k, _, hm, fun b r' F' H' hp k' q' => hP (!b) r' F' H' hp k' q'⟩
/-! as values -/
def mAnd (ma mb : ME) : ME := fun r P => ma r fun x r1 => KTru (fun b r1 => brK b (mb r1 P) (P x.tmp r1)) x.tmp r1
def mOr (ma mb : ME) : ME := fun r P => ma r fun x r1 => KTru (fun b r1 => brK b (P x.tmp r1) (mb r1 P)) x.tmp r1
def mNot (ma : ME) : ME := fun r P => ma r fun x r1 => KTru (fun b r1 => P (.val (.bool (!b))) r1) x.tmp r1
theorem RT.rr {K : Fg} {e : En} {F : Hp} {r : Rho} {s : L2.St} {H : Hp} {x : R} {v : V} {d : D} (h : RT K F s x v) (k : Ok K e F r s H) (q : DL.look r x = some d) : RR K e F r s H x v := by
  cases h with
  | val a => exact .val a
  | @bor i v a =>
    simp only [DL.look] at q
    split at q
    · rename_i z; exact .bor a ⟨_, _, z⟩
    · cases q
  | scr a => cases q
theorem de_one {op : BoolOp} (ha : DE X a ma) : DE X (.BoolOp op [a] pos) ma := fun e => pe_one (ha e)
theorem de_and (ha : DE X a ma) (hb : DE X (.BoolOp .And (b :: rest) pos) mb) : DE X (.BoolOp .And (a :: b :: rest) pos) (mAnd ma mb) := fun e =>
  PE.imp (pe_andT (ha.tmp e) (hb e)) fun s H Q ⟨F, r, k, P, hm, hP⟩ => ⟨F, r, k, fun x r1 => KTru (fun b r1 => brK b (mb r1 P) (P x r1)) x r1, hm, fun x r1 v F1 H1 hx k1 q1 t1 => by
    obtain ⟨d, b, e1, e2, hc⟩ := KTru.ex hx
    refine ⟨b, (t1.look k1 e1).tru k1.sub e2, ?_⟩
    cases b with
    | true => rw [if_pos rfl]; exact ⟨F1, r1, k1, P, hc, fun x r' v F' H' hp k' q' hr => hP x r' v F' H' hp k' (q1.trans q') hr⟩
    | false => rw [if_neg Bool.false_ne_true]; exact hP x r1 v F1 H1 hc k1 q1 (t1.rr k1 e1)⟩
theorem de_or (ha : DE X a ma) (hb : DE X (.BoolOp .Or (b :: rest) pos) mb) : DE X (.BoolOp .Or (a :: b :: rest) pos) (mOr ma mb) := fun e =>
  PE.imp (pe_orT (ha.tmp e) (hb e)) fun s H Q ⟨F, r, k, P, hm, hP⟩ => ⟨F, r, k, fun x r1 => KTru (fun b r1 => brK b (P x r1) (mb r1 P)) x r1, hm, fun x r1 v F1 H1 hx k1 q1 t1 => by
    obtain ⟨d, b, e1, e2, hc⟩ := KTru.ex hx
    refine ⟨b, (t1.look k1 e1).tru k1.sub e2, ?_⟩
    cases b with
    | true => rw [if_pos rfl]; exact hP x r1 v F1 H1 hc k1 q1 (t1.rr k1 e1)
    | false => rw [if_neg Bool.false_ne_true]; exact ⟨F1, r1, k1, P, hc, fun x r' v F' H' hp k' q' hr => hP x r' v F' H' hp k' (q1.trans q') hr⟩⟩
theorem de_not (ha : DE X a ma) : DE X (.UnaryOp .Not a pos) (mNot ma) := fun e =>
  PE.imp (pe_notT (ha.tmp e)) fun s H Q ⟨F, r, k, P, hm, hP⟩ => ⟨F, r, k, fun x r1 => KTru (fun b r1 => P (.val (.bool (!b))) r1) x r1, hm, fun x r1 v F1 H1 hx k1 q1 t1 => by
    obtain ⟨d, b, e1, e2, hc⟩ := KTru.ex hx
    exact ⟨b, (t1.look k1 e1).tru k1.sub e2, hP _ r1 _ F1 H1 hc k1 q1 (.val (.bl _))⟩⟩
def mIf (t : MT) (ma mb : ME) : ME := fun r P => t r fun b r1 => brK b (ma r1 P) (mb r1 P)
theorem de_if (hc : DT X c ta) (ha : DE X a ma) (hb : DE X b mb) : DE X (.IfExp c a b pos) (mIf ta ma mb) := fun e =>
  PE.imp (pe_ifExp (hc e) (ha e) (hb e)) fun s H Q ⟨F, r, k, P, hm, hP⟩ => ⟨F, r, k, _, hm, fun c r1 F1 H1 hc k1 q1 => by
    cases c with
    | true => rw [if_pos rfl]; exact ⟨F1, r1, k1, P, hc, fun x r' v F' H' hp k' q' hr => hP x r' v F' H' hp k' (q1.trans q') hr⟩
    | false => rw [if_neg Bool.false_ne_true]; exact ⟨F1, r1, k1, P, hc, fun x r' v F' H' hp k' q' hr => hP x r' v F' H' hp k' (q1.trans q') hr⟩⟩
/-- an int -/
def inOf : R → Option Int
  | .val (.int i) => some i
  | _ => none
theorem inOf_of {x : R} {i : Int} (h : inOf x = some i) : x = .val (.int i) := by
  unfold inOf at h
  split at h
  · cases h; rfl
  · cases h
def mNeg (ma : ME) : ME := fun r P => ma r fun x r1 => onO (inOf x) fun i => P (.val (.int (-i))) r1
theorem de_neg (ha : DE X a ma) : DE X (.UnaryOp .USub a pos) (mNeg ma) := fun e =>
  PE.imp (pe_un un_neg (ha e)) fun s H Q ⟨F, r, k, P, hm, hP⟩ => ⟨F, r, k, _, hm, fun x r1 v F1 H1 hx k1 q1 t1 => by
    obtain ⟨i, ei, hc⟩ := onO.ex hx
    have e1 := inOf_of ei
    subst e1
    cases t1 with | val a => cases a; exact ⟨i, rfl, hP _ r1 _ F1 H1 hc k1 q1 (.val (.int _))⟩⟩
end
end DL
namespace DL
open PySem L2 PyProof.Rows
/-! ### several expressions, one after the other -/
abbrev PoA := List R → Rho → Prop
abbrev MA := Rho → PoA → Prop
inductive RTs (K : Fg) (F : Hp) (s : L2.St) : List R → List V → Prop
  | nil : RTs K F s [] []
  | cons {x : R} {v : V} {xs : List R} {vs : List V} : RT K F s x v → RTs K F s xs vs → RTs K F s (x :: xs) (v :: vs)
theorem RTs.mono {K : Fg} {F F' : Hp} {s : L2.St} {xs : List R} {vs : List V} (h : RTs K F s xs vs) (q : Sub F F') : RTs K F' s xs vs := by
  induction h with
  | nil => exact .nil
  | cons a _ ih => exact .cons (a.mono q) ih
def TAl (K : Fg) (e : En) (m : MA) : TA := fun s H Q => ∃ F r, Ok K e F r s H ∧ ∃ P : PoA, m r P ∧ ∀ xs r' vs F' H', P xs r' → Ok K e F' r' s H' → Sub F F' → RTs K F' s xs vs → Q vs H'
def DA (X : Cx) (as : List Expr) (m : MA) : Prop := ∀ e, PA X as (TAl X.K e m)
theorem PA.imp {X : Cx} {a : List Expr} {t u : TA} (h : PA X a t) (i : ∀ s H Q, u s H Q → t s H Q) : PA X a u := ⟨fun pos pins s σ H Q I q => h.run pos pins s σ H Q I (i _ _ _ q)⟩
def aNil : MA := fun r P => P [] r
def aCons (m : ME) (ms : MA) : MA := fun r P => m r fun x r1 => ms r1 fun xs r2 => P (x.tmp :: xs) r2
def looks (r : Rho) : List R → Option (List D)
  | [] => some []
  | x :: xs => match look r x, looks r xs with
    | some d, some ds => some (d :: ds)
    | _, _ => none
/-- values that look like data -/
inductive LkA (K : Fg) (F H : Hp) : List V → List D → Prop
  | nil : LkA K F H [] []
  | cons {v : V} {d : D} {vs : List V} {ds : List D} : Lk K F H v d → LkA K F H vs ds → LkA K F H (v :: vs) (d :: ds)
theorem RTs.looks {K : Fg} {e : En} {F : Hp} {r : Rho} {s : L2.St} {H : Hp} {xs : List R} {vs : List V} {ds : List D} (h : RTs K F s xs vs) (k : Ok K e F r s H) (q : DL.looks r xs = some ds) : LkA K F H vs ds := by
  induction h generalizing ds with
  | nil => cases q; exact .nil
  | cons a _ ih =>
    simp only [DL.looks] at q
    split at q
    · rename_i e1 e2; cases q; exact .cons (a.look k e1) (ih e2)
    · cases q
section
variable {X : Cx} {a b c : Expr} {ma mb mc : ME} {pos : Pos} {es : List Expr} {ms : MA}
theorem da_nil : DA X [] aNil := fun e => PA.imp pa_nil fun s H Q ⟨F, r, k, P, hm, hP⟩ => hP _ r _ F H hm k (Sub.refl F) .nil
theorem da_cons (ha : DE X a ma) (hr : DA X es ms) (hs : starEach (a :: es) X.env = (false, eval a X.env) :: starEach es X.env := by rfl) : DA X (a :: es) (aCons ma ms) := fun e =>
  PA.imp (pa_cons (ha.tmp e) (hr e) hs) fun s H Q ⟨F, r, k, P, hm, hP⟩ => ⟨F, r, k, fun x r1 => ms r1 fun xs r2 => P (x :: xs) r2, hm, fun x r1 v F1 H1 hx k1 q1 t1 =>
    ⟨F1, r1, k1, _, hx, fun xs r2 vs F2 H2 hxs k2 q2 t2 => hP _ r2 _ F2 H2 hxs k2 (q1.trans q2) (.cons (t1.mono q2) t2)⟩⟩
/-! ### freezing what is held -/
/-- x is held: its datum, the cells behind it -/
def hold (r : Rho) : R → Option (D × Rho)
  | .val d => some (d, r)
  | .own m => some (m.toD, r)
  | .bor i => match r[i]? with
    | some (some (.box false m)) => some (m.toD, r.set i (some (.val m.toD)))
    | _ => none
  | .scr _ => none
def holds (r : Rho) : List R → Option (List D × Rho)
  | [] => some ([], r)
  | x :: xs => match hold r x with
    | some (d, r1) => match holds r1 xs with
      | some (ds, r2) => some (d :: ds, r2)
      | none => none
    | none => none
end
section
variable {K : Fg} {e : En} {F : Hp} {r : Rho} {s : L2.St} {H : Hp}
theorem get_set {α : Type} {l : List α} {i j : Nat} {x y : α} (h : (l.set i x)[j]? = some y) : (i = j ∧ x = y) ∨ (i ≠ j ∧ l[j]? = some y) := by
  by_cases q : i = j
  · subst q
    have hl : i < l.length := by
      have := (List.getElem?_eq_some_iff.mp h).1
      simpa using this
    rw [List.getElem?_set_self hl] at h
    exact .inl ⟨rfl, Option.some.inj h⟩
  · rw [List.getElem?_set_ne q] at h
    exact .inr ⟨q, h⟩
/-- a box becomes a datum -/
theorem Ok.freezeBox {i : Nat} {m : MB} (k : Ok K e F r s H) (h : r[i]? = some (some (Ce.box false m))) : ∃ F' v, Ok K e F' (r.set i (some (.val m.toD))) s H ∧ Sub F F' ∧ s[i]? = some (some v) ∧ Rp K F' v m.toD := by
  obtain ⟨p, o, h1, h2, h3, h4, h5, h6⟩ := k.box i false m h
  have rp : Rp K (upd F p o) (.ref p) m.toD := h3.rp (Sub.new h4) upd_same
  have nb : ∀ (j : Nat) b m', r[j]? = some (some (Ce.box b m')) → s[j]? = some (some (V.ref p)) → j = i := fun j b m' z y => k.sep j i p b m' false m z h y h1
  refine ⟨upd F p o, .ref p, ⟨by rw [List.length_set]; exact k.len, ?_, ?_, k.prot, ?_, k.dom, ?_, ?_, ?_, ?_⟩, Sub.new h4, h1, rp⟩
  · intro a u q
    by_cases z : a = p
    · subst z; rw [upd_same] at q; cases q; exact h2
    · rw [upd_ne z] at q; exact k.sub a u q
  · exact k.f0.trans (Sub.new h4)
  · intro a u q
    by_cases z : a = p
    · subst z; exact .inr h5
    · rw [upd_ne z] at q; exact k.new a u q
  · intro j d z
    rcases get_set z with ⟨e1, e2⟩ | ⟨e1, e2⟩
    · cases e2; subst e1; exact ⟨_, h1, rp⟩
    · obtain ⟨v, g1, g2⟩ := k.slot j d e2
      exact ⟨v, g1, g2.mono (Sub.new h4)⟩
  · intro j b m' z
    rcases get_set z with ⟨e1, e2⟩ | ⟨e1, e2⟩
    · cases e2
    · obtain ⟨q, u, g1, g2, g3, g4, g5, g6⟩ := k.box j b m' e2
      have ne : q ≠ p := fun y => by subst y; exact e1 (nb j b m' e2 g1).symm
      exact ⟨q, u, g1, g2, g3.mono (Sub.new h4), by rw [upd_ne ne]; exact g4, g5, g6⟩
  · intro j ns z
    rcases get_set z with ⟨e1, e2⟩ | ⟨e1, e2⟩
    · cases e2
    · obtain ⟨a, g1, g2⟩ := k.scr j ns e2
      exact ⟨a, g1, (Sub.new h4).sqL g2⟩
  · intro j1 j2 q b m' b' m'' z1 z2
    rcases get_set z1 with ⟨_, e2⟩ | ⟨_, e2⟩
    · cases e2
    · rcases get_set z2 with ⟨_, e4⟩ | ⟨_, e4⟩
      · cases e4
      · exact k.sep j1 j2 q b m' b' m'' e2 e4
/-- what was looked at before a freezing is what it was -/
theorem RT.hold {x : R} {v : V} {d : D} {r1 : Rho} (t : RT K F s x v) (k : Ok K e F r s H) (q : DL.hold r x = some (d, r1)) : ∃ F', Ok K e F' r1 s H ∧ Sub F F' ∧ Rp K F' v d := by
  cases t with
  | val a => cases q; exact ⟨F, k, Sub.refl F, a⟩
  | @bor i v a =>
    simp only [DL.hold] at q
    split at q
    · rename_i z; cases q
      obtain ⟨F', v', k', s', g1, g2⟩ := k.freezeBox z
      rw [a] at g1; cases g1
      exact ⟨F', k', s', g2⟩
    · cases q
  | scr _ => cases q
theorem RTs.holds {xs : List R} : ∀ {F : Hp} {r : Rho} {vs : List V} {ds : List D} {r1 : Rho}, RTs K F s xs vs → Ok K e F r s H → DL.holds r xs = some (ds, r1) → ∃ F', Ok K e F' r1 s H ∧ Sub F F' ∧ RpA K F' vs ds := by
  induction xs with
  | nil => intro F r vs ds r1 t k q; cases t; cases q; exact ⟨F, k, Sub.refl F, .nil⟩
  | cons x xs ih =>
    intro F r vs ds r1 t k q
    cases t with
    | cons a t =>
      simp only [DL.holds] at q
      split at q
      · rename_i e1
        split at q
        · rename_i e2; cases q
          obtain ⟨F1, k1, s1, p1⟩ := a.hold k e1
          obtain ⟨F2, k2, s2, p2⟩ := ih (t.mono s1) k1 e2
          exact ⟨F2, k2, s1.trans s2, .cons (p1.mono s2) p2⟩
        · cases q
      · cases q
end
section
variable {X : Cx} {a b c : Expr} {ma mb mc : ME} {pos : Pos} {es : List Expr} {ms : MA}
/-! ### displays -/
def mTup (ms : MA) : ME := fun r P => ms r fun xs r1 => onP (holds r1 xs) fun qa qb => Rq (qa.length ≤ sizeLine) (P (.val (.tuple qa)) qb)
def mLst (ms : MA) : ME := fun r P => ms r fun xs r1 => onP (holds r1 xs) fun qa qb => Rq (qa.length ≤ sizeLine) (P (.own (.L qa)) qb)
theorem de_tup {x1} (h : DA X es ms) : DE X (.Tuple es x1 pos) (mTup ms) := fun e =>
  PE.imp (pe_tup (h e)) fun s H Q ⟨F, r, k, P, hm, hP⟩ => ⟨F, r, k, _, hm, fun xs r1 vs F1 H1 hx k1 q1 t1 => by
    obtain ⟨ds, r2, hh, hq⟩ := onP.ex hx
    have hz := Rq.c hq
    have hp := Rq.a hq
    obtain ⟨F2, k2, q2, p2⟩ := t1.holds k1 hh
    exact ⟨by rw [p2.length]; exact hz, fun p np => hP _ r2 _ _ _ hp (k2.lay np) ((q1.trans q2).trans (Sub.new (k2.free np).1)) (.newT k2 np p2)⟩⟩
theorem de_lst (h : DA X es ms) : DE X (.List es pos) (mLst ms) := fun e =>
  PE.imp (pe_lst (h e)) fun s H Q ⟨F, r, k, P, hm, hP⟩ => ⟨F, r, k, _, hm, fun xs r1 vs F1 H1 hx k1 q1 t1 => by
    obtain ⟨ds, r2, hh, hq⟩ := onP.ex hx
    have hz := Rq.c hq
    have hp := Rq.a hq
    obtain ⟨F2, k2, q2, p2⟩ := t1.holds k1 hh
    exact ⟨by rw [p2.length]; exact hz, fun p np => hP _ r2 _ _ _ hp (k2.alloc np) (q1.trans q2) (.newL k2 np p2)⟩⟩
/-! ### subscripts -/
def fIx : F2
  | .list ds, .int i => match atI ds i with
    | some d => some (.val d)
    | none => none
  | .tuple ds, .int i => match atI ds i with
    | some d => some (.val d)
    | none => none
  | .str x, .int i => if x.length ≤ sizeLine then match atI x.cps.toList i with
    | some c => some (.val (.str ⟨#[c]⟩))
    | none => none
    else none
  | _, _ => none
theorem RpA.at {K : Fg} {F : Hp} {vs : List V} {ds : List D} {i : Int} {d : D} (h : RpA K F vs ds) (q : atI ds i = some d) : ∃ v, atI vs i = some v ∧ Rp K F v d := by
  unfold atI at q ⊢
  rw [h.length]
  cases z : ixN ds.length i with
  | none => rw [z] at q; cases q
  | some j =>
    rw [z] at q
    obtain ⟨v, e1, e2⟩ := h.getD (show ds[j]? = some d from q)
    exact ⟨v, e1, e2⟩
theorem de_ix {o : OpK} (ho : o.f = fIx) (ha : DE X a ma) (hb : DE X b mb) (hs : PlainIx b := by intro _ _; rfl) : DE X (.Subscript a b pos) (mOp o ma mb) := fun e =>
  PE.imp (pe_ix (IxR.or ix_list (IxR.or ix_tup ix_str)) (ha.tmp e) (hb.tmp e) hs) fun s H Q h => mOp_read (fun e F r s H v1 v2 d1 d2 z Q k l1 l2 ef w => by
    rw [ho] at ef
    unfold fIx at ef
    split at ef
    · split at ef
      · rename_i hd; cases ef
        obtain ⟨p, xs, e1, h1, r1⟩ := l1.lst k.sub
        obtain ⟨v, g1, g2⟩ := r1.at hd
        exact .inl ⟨p, xs, _, v, e1, l2.int, .inl h1, g1, w _ F H k (Sub.refl F) (.val g2)⟩
      · cases ef
    · split at ef
      · rename_i hd; cases ef
        obtain ⟨p, xs, e1, h1, r1, _⟩ := l1.tup k.sub
        obtain ⟨v, g1, g2⟩ := r1.at hd
        exact .inr (.inl ⟨p, xs, _, v, e1, l2.int, h1, g1, w _ F H k (Sub.refl F) (.val g2)⟩)
      · cases ef
    · split at ef
      · rename_i hz
        split at ef
        · rename_i hd; cases ef
          exact .inr (.inr ⟨_, _, _, l1.str, l2.int, hz, hd, w _ F H k (Sub.refl F) (.val (.str _))⟩)
        · cases ef
      · cases ef
    · cases ef) h
/-! ### slices -/
abbrev MO' := Rho → (Option Int → Rho → Prop) → Prop
def TOp (K : Fg) (e : En) (m : MO') : TO := fun s H Q => ∃ F r, Ok K e F r s H ∧ ∃ P : Option Int → Rho → Prop, m r P ∧ ∀ o r' F' H', P o r' → Ok K e F' r' s H' → Sub F F' → Q o H'
def DO (X : Cx) (a : Option Expr) (m : MO') : Prop := ∀ e, PO X a (TOp X.K e m)
theorem PO.imp {X : Cx} {a : Option Expr} {t u : TO} (h : PO X a t) (i : ∀ s H Q, u s H Q → t s H Q) : PO X a u := ⟨fun pins s σ H Q I q => h.run pins s σ H Q I (i _ _ _ q)⟩
def oNone : MO' := fun r P => P none r
def oSome (m : ME) : MO' := fun r P => m r fun x r1 => onO (inOf x) fun i => P (some i) r1
theorem do_none : DO X none oNone := fun e => PO.imp po_none fun s H Q ⟨F, r, k, P, hm, hP⟩ => hP _ r F H hm k (Sub.refl F)
theorem do_some (ha : DE X a ma) : DO X (some a) (oSome ma) := fun e => PO.imp (po_some (ha e)) fun s H Q ⟨F, r, k, P, hm, hP⟩ => ⟨F, r, k, _, hm, fun x r1 v F1 H1 hx k1 q1 t1 => by
  obtain ⟨i, ei, hc⟩ := onO.ex hx
  have e1 := inOf_of ei
  subst e1
  cases t1 with | val a => cases a; exact ⟨i, rfl, hP _ r1 F1 H1 hc k1 q1⟩⟩
def cutD (xs : List D) (lo hi : Option Int) : List D := (xs.drop (HT.sIx xs.length 0 lo)).take (HT.sIx xs.length xs.length hi - HT.sIx xs.length 0 lo)
theorem RpA.cut {K : Fg} {F : Hp} {vs : List V} {ds : List D} (h : RpA K F vs ds) (lo hi : Option Int) : RpA K F (cutV vs lo hi) (cutD ds lo hi) := by
  unfold cutV cutD
  rw [h.length]
  exact (h.drop _).take _
def fSl (d : D) (lo hi : Option Int) : Option R := match d with
  | .list ds => some (.own (.L (cutD ds lo hi)))
  | .tuple ds => some (.val (.tuple (cutD ds lo hi)))
  | .str x => if x.length ≤ sizeLine then some (.val (.str (cutS x lo hi))) else none
  | _ => none
def kSl (d : D) (lo hi : Option Int) (K : R → Prop) : Prop := match d with
  | .list ds => K (.own (.L (cutD ds lo hi)))
  | .tuple ds => K (.val (.tuple (cutD ds lo hi)))
  | .str x => Rq (x.length ≤ sizeLine) (K (.val (.str (cutS x lo hi))))
  | _ => False
theorem kSl.ex {d : D} {lo hi : Option Int} {K : R → Prop} (h : kSl d lo hi K) : ∃ z, fSl d lo hi = some z ∧ K z := by
  cases d <;> first
    | exact h.elim
    | exact ⟨_, rfl, h⟩
    | exact ⟨_, rq_if h, Rq.a h⟩
def mSl (ma : ME) (ml mh : MO') : ME := fun r P => ma r fun x r1 => ml r1 fun l r2 => mh r2 fun h r3 => onO (look r3 x.tmp) fun d => kSl d l h fun z => P z r3
theorem cutD_whole {ds : List D} {lo hi : Option Int} (h : HT.sIx ds.length 0 lo = 0 ∧ HT.sIx ds.length ds.length hi = ds.length) : cutD ds lo hi = ds := by
  unfold cutD
  rw [h.1, h.2, List.drop_zero, Nat.sub_zero, List.take_length]
variable {lo hi : Option Expr} {ml mh : MO'} {p2 : Pos}
theorem de_slice (ha : DE X a ma) (hl : DO X lo ml) (hh : DO X hi mh) : DE X (.Subscript a (.Slice lo hi none p2) pos) (mSl ma ml mh) := fun e =>
  PE.imp (pe_slice (SlR.or sl_list (SlR.or sl_tupA sl_str)) (ha.tmp e) (hl e) (hh e)) fun s H Q ⟨F, r, k, P, hm, hP⟩ => ⟨F, r, k, fun x r1 => ml r1 fun l r2 => mh r2 fun h r3 => onO (look r3 x) fun d => kSl d l h fun z => P z r3, hm, fun x r1 v F1 H1 hx k1 q1 t1 =>
    ⟨F1, r1, k1, _, hx, fun l r2 F2 H2 hx2 k2 q2 => ⟨F2, r2, k2, _, hx2, fun h r3 F3 H3 hx3 k3 q3 => by
      obtain ⟨d, e1, hx4⟩ := onO.ex hx3
      obtain ⟨z, ef, hp⟩ := kSl.ex hx4
      have lk := ((t1.mono q2).mono q3).look k3 e1
      have q := (q1.trans q2).trans q3
      unfold fSl at ef
      split at ef
      · cases ef
        obtain ⟨p, xs, g1, g2, g3⟩ := lk.lst k3.sub
        exact .inl ⟨p, xs, g1, .inl g2, fun p np => hP _ r3 _ F3 _ hp (k3.alloc np) q (.newL k3 np (g3.cut l h))⟩
      · cases ef
        obtain ⟨p, xs, g1, g2, g3, g4⟩ := lk.tup k3.sub
        refine .inr (.inl ⟨p, xs, g1, g2, fun hw => ?_, fun _ p np => hP _ r3 _ _ _ hp (k3.lay np) (q.trans (Sub.new (k3.free np).1)) (.newT k3 np (g3.cut l h))⟩)
        rw [g3.length] at hw
        rw [cutD_whole hw] at hp
        subst g1
        exact hP _ r3 _ F3 H3 hp k3 q (.val g4)
      · split at ef
        · rename_i hz; cases ef
          exact .inr (.inr ⟨_, lk.str, hz, hP _ r3 _ F3 H3 hp k3 q (.val (.str _))⟩)
        · cases ef
      · cases ef⟩⟩⟩
/-! ### calls of built-ins by data -/
abbrev FA := List D → Option R
def CallD (X : Cx) (g : Value) (f : FA) : Prop := ∃ rr : List V → Hp → VK → Prop, CallR X g rr ∧ ∀ (e : En) (F : Hp) (r : Rho) (s : L2.St) (H : Hp) (vs : List V) (ds : List D) (z : R) (Q : VK),
  Ok X.K e F r s H → LkA X.K F H vs ds → f ds = some z → (∀ v F' H', Ok X.K e F' r s H' → Sub F F' → RR X.K e F' r s H' z v → Q v H') → rr vs H Q
theorem CallR.or {g : Value} {a b : List V → Hp → VK → Prop} (h : CallR X g a) (h' : CallR X g b) : CallR X g (fun x H Q => a x H Q ∨ b x H Q) := fun pins s σ H x v Q I rx q =>
  q.elim (h pins s σ H x v Q I rx) (h' pins s σ H x v Q I rx)
/-- a built-in and what it does, told so that it runs -/
structure CaK where
  f : FA
  k : List D → (R → Prop) → Prop
  ok : ∀ ds K, k ds K → ∃ z, f ds = some z ∧ K z
def mCall (o : CaK) (ms : MA) : ME := fun r P => ms r fun xs r1 => onO (looks r1 xs) fun ds => o.k ds fun z => P z r1
theorem call_read {e : En} {o : CaK} {rr : List V → Hp → VK → Prop} (hq : ∀ (e : En) (F : Hp) (r : Rho) (s : L2.St) (H : Hp) (vs : List V) (ds : List D) (z : R) (Q : VK),
    Ok X.K e F r s H → LkA X.K F H vs ds → o.f ds = some z → (∀ v F' H', Ok X.K e F' r s H' → Sub F F' → RR X.K e F' r s H' z v → Q v H') → rr vs H Q)
    {s : L2.St} {H : Hp} {Q : VK} (h : T X.K e (mCall o ms) s H Q) : tCB rr (TAl X.K e ms) s H Q := by
  obtain ⟨F, r, k, P, hm, hP⟩ := h
  refine ⟨F, r, k, _, hm, fun xs r1 vs F1 H1 hx k1 q1 t1 => ?_⟩
  obtain ⟨ds, e1, hx2⟩ := onO.ex hx
  obtain ⟨z, ef, hp⟩ := o.ok _ _ hx2
  exact hq e F1 r1 s H1 vs ds z Q k1 (t1.looks k1 e1) ef fun v F' H' k' q' hr => hP z r1 v F' H' hp k' (q1.trans q') hr
variable {x : Str} {p : Pos} {id : String}
theorem de_callB {o : CaK} (hc : CallD X (.builtin id) o.f) (hg : Gl X x) (hm : X.mg x = none) (hv : bootBuiltins x = some (.builtin id)) (ha : DA X (a :: es) ms) (hn : x ≠ "__name__" := by decide) (hdb : (x == ("__debug__" : Str)) = false := by decide)
    (he : starEach (a :: es) X.env = (false, eval a X.env) :: starEach es X.env := by rfl) (hpl : (backTo pos (starEach es X.env)).any (·.1) = false := by rfl) : DE X (.Call (.Name x p) (a :: es) [] pos) (mCall o ms) := fun e => by
  obtain ⟨rr, hr, hq⟩ := hc
  exact PE.imp (pe_callB hr hg hm hv (ha e) hn hdb he hpl) fun s H Q h => call_read hq h
theorem de_callTy {o : CaK} {T : String} (hc : CallD X (.type T) o.f) (hg : Gl X x) (hm : X.mg x = none) (hv : bootBuiltins x = some (.type T)) (ha : DA X (a :: es) ms) (hn : x ≠ "__name__" := by decide) (hdb : (x == ("__debug__" : Str)) = false := by decide)
    (he : starEach (a :: es) X.env = (false, eval a X.env) :: starEach es X.env := by rfl) (hpl : (backTo pos (starEach es X.env)).any (·.1) = false := by rfl) : DE X (.Call (.Name x p) (a :: es) [] pos) (mCall o ms) := fun e => by
  obtain ⟨rr, hr, hq⟩ := hc
  exact PE.imp (pe_callTy hr hg hm hv (ha e) hn hdb he hpl) fun s H Q h => call_read hq h
end
end DL
namespace DL
open PySem L2 PyProof.Rows
section
variable {X : Cx}
theorem LkA.one {K : Fg} {F H : Hp} {vs : List V} {d : D} (h : LkA K F H vs [d]) : ∃ v, vs = [v] ∧ Lk K F H v d := by
  cases h with | cons a b => cases b; exact ⟨_, rfl, a⟩
theorem LkA.two {K : Fg} {F H : Hp} {vs : List V} {d d' : D} (h : LkA K F H vs [d, d']) : ∃ v v', vs = [v, v'] ∧ Lk K F H v d ∧ Lk K F H v' d' := by
  cases h with | cons a b => obtain ⟨v', rfl, q⟩ := b.one; exact ⟨_, _, rfl, a, q⟩
/-! len -/
def fLen : FA
  | [.str x] => if x.length ≤ sizeLine then some (.val (.int x.length)) else none
  | [.list ds] => some (.val (.int ds.length))
  | [.tuple ds] => some (.val (.int ds.length))
  | _ => none
theorem calld_len : CallD X (.builtin "len") fLen := by
  refine ⟨_, call_len, fun e F r s H vs ds z Q k l ef w => ?_⟩
  unfold fLen at ef
  split at ef
  · split at ef
    · rename_i hz; cases ef
      obtain ⟨v, rfl, lk⟩ := l.one
      rw [lk.str]
      exact ⟨_, _, rfl, ⟨hz, rfl⟩, w _ F H k (Sub.refl F) (.val (.int _))⟩
    · cases ef
  · cases ef
    obtain ⟨v, rfl, lk⟩ := l.one
    obtain ⟨p, xs, rfl, g2, g3⟩ := lk.lst k.sub
    exact ⟨_, _, rfl, .inl ⟨xs, .inl g2, g3.length.symm⟩, w _ F H k (Sub.refl F) (.val (.int _))⟩
  · cases ef
    obtain ⟨v, rfl, lk⟩ := l.one
    obtain ⟨p, xs, rfl, g2, g3, _⟩ := lk.tup k.sub
    exact ⟨_, _, rfl, .inr ⟨xs, g2, g3.length.symm⟩, w _ F H k (Sub.refl F) (.val (.int _))⟩
  · cases ef
/-! list, tuple -/
def fList : FA
  | [.list ds] => some (.own (.L ds))
  | [.tuple ds] => some (.own (.L ds))
  | _ => none
theorem calld_list : CallD X (.type "list") fList := by
  refine ⟨_, call_list_of, fun e F r s H vs ds z Q k l ef w => ?_⟩
  unfold fList at ef
  split at ef
  · cases ef
    obtain ⟨v, rfl, lk⟩ := l.one
    obtain ⟨p, xs, rfl, g2, g3⟩ := lk.lst k.sub
    exact ⟨p, xs, rfl, .inl (.inl g2), fun q nq => w _ F _ (k.alloc nq) (Sub.refl F) (.newL k nq g3)⟩
  · cases ef
    obtain ⟨v, rfl, lk⟩ := l.one
    obtain ⟨p, xs, rfl, g2, g3, _⟩ := lk.tup k.sub
    exact ⟨p, xs, rfl, .inr g2, fun q nq => w _ F _ (k.alloc nq) (Sub.refl F) (.newL k nq g3)⟩
  · cases ef
def fTuple : FA
  | [.list ds] => some (.val (.tuple ds))
  | [.tuple ds] => some (.val (.tuple ds))
  | _ => none
theorem calld_tuple : CallD X (.type "tuple") fTuple := by
  refine ⟨_, call_tuple_of, fun e F r s H vs ds z Q k l ef w => ?_⟩
  unfold fTuple at ef
  split at ef
  · cases ef
    obtain ⟨v, rfl, lk⟩ := l.one
    obtain ⟨p, xs, rfl, g2, g3⟩ := lk.lst k.sub
    exact ⟨p, xs, rfl, .inl ⟨.inl g2, fun q nq => w _ _ _ (k.lay nq) (Sub.new (k.free nq).1) (.newT k nq g3)⟩⟩
  · cases ef
    obtain ⟨v, rfl, lk⟩ := l.one
    obtain ⟨p, xs, rfl, g2, g3, g4⟩ := lk.tup k.sub
    exact ⟨p, xs, rfl, .inr ⟨g2, w _ F H k (Sub.refl F) (.val g4)⟩⟩
  · cases ef
/-! all, any, sum -/
def blsOf : List D → Option (List Bool)
  | [] => some []
  | .bool b :: ds => (blsOf ds).map (b :: ·)
  | _ => none
theorem RpA.bls {K : Fg} {F : Hp} : ∀ {ds : List D} {vs : List V} {bs : List Bool}, RpA K F vs ds → blsOf ds = some bs → vs = bs.map V.bl
  | [], _, _, h, q => by cases h; cases q; rfl
  | .bool b :: ds, _, _, h, q => by
    cases h with | cons a r =>
    cases a
    simp only [blsOf, Option.map_eq_some_iff] at q
    obtain ⟨bs', q1, q2⟩ := q
    subst q2
    rw [RpA.bls r q1, List.map_cons]
  | .none :: _, _, _, _, q => by cases q
  | .int _ :: _, _, _, _, q => by cases q
  | .str _ :: _, _, _, _, q => by cases q
  | .list _ :: _, _, _, _, q => by cases q
  | .tuple _ :: _, _, _, _, q => by cases q
  | .dict _ :: _, _, _, _, q => by cases q
def intsOf : List D → Option (List Int)
  | [] => some []
  | .int b :: ds => (intsOf ds).map (b :: ·)
  | _ => none
theorem RpA.ints {K : Fg} {F : Hp} : ∀ {ds : List D} {vs : List V} {bs : List Int}, RpA K F vs ds → intsOf ds = some bs → vs = bs.map V.int
  | [], _, _, h, q => by cases h; cases q; rfl
  | .int b :: ds, _, _, h, q => by
    cases h with | cons a r =>
    cases a
    simp only [intsOf, Option.map_eq_some_iff] at q
    obtain ⟨bs', q1, q2⟩ := q
    subst q2
    rw [RpA.ints r q1, List.map_cons]
  | .none :: _, _, _, _, q => by cases q
  | .bool _ :: _, _, _, _, q => by cases q
  | .str _ :: _, _, _, _, q => by cases q
  | .list _ :: _, _, _, _, q => by cases q
  | .tuple _ :: _, _, _, _, q => by cases q
  | .dict _ :: _, _, _, _, q => by cases q
def strsOf : List D → Option (List Str)
  | [] => some []
  | .str b :: ds => (strsOf ds).map (b :: ·)
  | _ => none
theorem RpA.strs {K : Fg} {F : Hp} : ∀ {ds : List D} {vs : List V} {bs : List Str}, RpA K F vs ds → strsOf ds = some bs → vs = bs.map V.str
  | [], _, _, h, q => by cases h; cases q; rfl
  | .str b :: ds, _, _, h, q => by
    cases h with | cons a r =>
    cases a
    simp only [strsOf, Option.map_eq_some_iff] at q
    obtain ⟨bs', q1, q2⟩ := q
    subst q2
    rw [RpA.strs r q1, List.map_cons]
  | .none :: _, _, _, _, q => by cases q
  | .bool _ :: _, _, _, _, q => by cases q
  | .int _ :: _, _, _, _, q => by cases q
  | .list _ :: _, _, _, _, q => by cases q
  | .tuple _ :: _, _, _, _, q => by cases q
  | .dict _ :: _, _, _, _, q => by cases q
def fAll : FA
  | [.list ds] => (blsOf ds).map fun bs => .val (.bool (bs.all id))
  | _ => none
theorem calld_all (hc : X.calm = true) : CallD X (.builtin "all") fAll := by
  refine ⟨_, cr_all hc, fun e F r s H vs ds z Q k l ef w => ?_⟩
  unfold fAll at ef
  split at ef
  · rw [Option.map_eq_some_iff] at ef
    obtain ⟨bs, e1, rfl⟩ := ef
    obtain ⟨v, rfl, lk⟩ := l.one
    obtain ⟨p, xs, rfl, g2, g3⟩ := lk.lst k.sub
    have := g3.bls e1
    subst this
    exact ⟨p, bs, rfl, .inl g2, w _ F H k (Sub.refl F) (.val (.bl _))⟩
  · cases ef
def fAny : FA
  | [.list ds] => (blsOf ds).map fun bs => .val (.bool (bs.any id))
  | _ => none
theorem calld_any (hc : X.calm = true) : CallD X (.builtin "any") fAny := by
  refine ⟨_, cr_any hc, fun e F r s H vs ds z Q k l ef w => ?_⟩
  unfold fAny at ef
  split at ef
  · rw [Option.map_eq_some_iff] at ef
    obtain ⟨bs, e1, rfl⟩ := ef
    obtain ⟨v, rfl, lk⟩ := l.one
    obtain ⟨p, xs, rfl, g2, g3⟩ := lk.lst k.sub
    have := g3.bls e1
    subst this
    exact ⟨p, bs, rfl, .inl g2, w _ F H k (Sub.refl F) (.val (.bl _))⟩
  · cases ef
def fSum : FA
  | [.list ds] => (intsOf ds).map fun ns => .val (.int ns.sum)
  | _ => none
theorem calld_sum (hc : X.calm = true) : CallD X (.builtin "sum") fSum := by
  refine ⟨_, cr_sum hc, fun e F r s H vs ds z Q k l ef w => ?_⟩
  unfold fSum at ef
  split at ef
  · rw [Option.map_eq_some_iff] at ef
    obtain ⟨bs, e1, rfl⟩ := ef
    obtain ⟨v, rfl, lk⟩ := l.one
    obtain ⟨p, xs, rfl, g2, g3⟩ := lk.lst k.sub
    have := g3.ints e1
    subst this
    exact ⟨p, bs, rfl, .inl g2, w _ F H k (Sub.refl F) (.val (.int _))⟩
  · cases ef
/-! ints -/
def fAbs : FA
  | [.int i] => some (.val (.int (if i < 0 then -i else i)))
  | _ => none
theorem calld_abs : CallD X (.builtin "abs") fAbs := by
  refine ⟨_, call_abs, fun e F r s H vs ds z Q k l ef w => ?_⟩
  unfold fAbs at ef
  split at ef
  · cases ef
    obtain ⟨v, rfl, lk⟩ := l.one
    rw [lk.int]
    exact ⟨_, rfl, w _ F H k (Sub.refl F) (.val (.int _))⟩
  · cases ef
def fMax : FA
  | [.int i, .int j] => some (.val (.int (if j > i then j else i)))
  | _ => none
theorem calld_max (hc : X.calm = true) : CallD X (.builtin "max") fMax := by
  refine ⟨_, call_max2 hc, fun e F r s H vs ds z Q k l ef w => ?_⟩
  unfold fMax at ef
  split at ef
  · cases ef
    obtain ⟨v, v', rfl, lk, lk'⟩ := l.two
    rw [lk.int, lk'.int]
    exact ⟨_, _, rfl, w _ F H k (Sub.refl F) (.val (.int _))⟩
  · cases ef
def fMin : FA
  | [.int i, .int j] => some (.val (.int (if j < i then j else i)))
  | _ => none
theorem calld_min (hc : X.calm = true) : CallD X (.builtin "min") fMin := by
  refine ⟨_, call_min2 hc, fun e F r s H vs ds z Q k l ef w => ?_⟩
  unfold fMin at ef
  split at ef
  · cases ef
    obtain ⟨v, v', rfl, lk, lk'⟩ := l.two
    rw [lk.int, lk'.int]
    exact ⟨_, _, rfl, w _ F H k (Sub.refl F) (.val (.int _))⟩
  · cases ef
def fInt : FA
  | [.int i] => some (.val (.int i))
  | [.bool b] => some (.val (.int (if b then 1 else 0)))
  | _ => none
theorem calld_int : CallD X (.type "int") fInt := by
  refine ⟨_, call_int1, fun e F r s H vs ds z Q k l ef w => ?_⟩
  unfold fInt at ef
  split at ef
  · cases ef
    obtain ⟨v, rfl, lk⟩ := l.one
    rw [lk.int]
    exact .inl ⟨_, rfl, w _ F H k (Sub.refl F) (.val (.int _))⟩
  · cases ef
    obtain ⟨v, rfl, lk⟩ := l.one
    rw [lk.bl]
    exact .inr ⟨_, rfl, w _ F H k (Sub.refl F) (.val (.int _))⟩
  · cases ef
end
/-! ### running -/
def kLen : List D → (R → Prop) → Prop
  | [.str x], K => Rq (x.length ≤ sizeLine) (K (.val (.int x.length)))
  | [.list ds], K => K (.val (.int ds.length))
  | [.tuple ds], K => K (.val (.int ds.length))
  | _, _ => False
def cLen : CaK := ⟨fLen, kLen, fun ds K h => by
  unfold kLen at h
  split at h
  · exact ⟨_, rq_if h, Rq.a h⟩
  · exact ⟨_, rfl, h⟩
  · exact ⟨_, rfl, h⟩
  · exact h.elim⟩
def kList : List D → (R → Prop) → Prop
  | [.list ds], K => K (.own (.L ds))
  | [.tuple ds], K => K (.own (.L ds))
  | _, _ => False
def cList : CaK := ⟨fList, kList, fun ds K h => by
  unfold kList at h
  split at h
  · exact ⟨_, rfl, h⟩
  · exact ⟨_, rfl, h⟩
  · exact h.elim⟩
def kTuple : List D → (R → Prop) → Prop
  | [.list ds], K => K (.val (.tuple ds))
  | [.tuple ds], K => K (.val (.tuple ds))
  | _, _ => False
def cTuple : CaK := ⟨fTuple, kTuple, fun ds K h => by
  unfold kTuple at h
  split at h
  · exact ⟨_, rfl, h⟩
  · exact ⟨_, rfl, h⟩
  · exact h.elim⟩
def kAll : List D → (R → Prop) → Prop
  | [.list ds], K => onO (blsOf ds) fun bs => K (.val (.bool (bs.all id)))
  | _, _ => False
def cAll : CaK := ⟨fAll, kAll, fun ds K h => by
  unfold kAll at h
  split at h
  · obtain ⟨bs, e, q⟩ := onO.ex h
    exact ⟨_, by simp only [fAll, e, Option.map_some], q⟩
  · exact h.elim⟩
def kAny : List D → (R → Prop) → Prop
  | [.list ds], K => onO (blsOf ds) fun bs => K (.val (.bool (bs.any id)))
  | _, _ => False
def cAny : CaK := ⟨fAny, kAny, fun ds K h => by
  unfold kAny at h
  split at h
  · obtain ⟨bs, e, q⟩ := onO.ex h
    exact ⟨_, by simp only [fAny, e, Option.map_some], q⟩
  · exact h.elim⟩
def kSum : List D → (R → Prop) → Prop
  | [.list ds], K => onO (intsOf ds) fun bs => K (.val (.int bs.sum))
  | _, _ => False
def cSum : CaK := ⟨fSum, kSum, fun ds K h => by
  unfold kSum at h
  split at h
  · obtain ⟨bs, e, q⟩ := onO.ex h
    exact ⟨_, by simp only [fSum, e, Option.map_some], q⟩
  · exact h.elim⟩
def kAbs : List D → (R → Prop) → Prop
  | [.int i], K => K (.val (.int (if i < 0 then -i else i)))
  | _, _ => False
def cAbs : CaK := ⟨fAbs, kAbs, fun ds K h => by
  unfold kAbs at h
  split at h
  · exact ⟨_, rfl, h⟩
  · exact h.elim⟩
def kMax : List D → (R → Prop) → Prop
  | [.int i, .int j], K => K (.val (.int (if j > i then j else i)))
  | _, _ => False
def cMax : CaK := ⟨fMax, kMax, fun ds K h => by
  unfold kMax at h
  split at h
  · exact ⟨_, rfl, h⟩
  · exact h.elim⟩
def kMin : List D → (R → Prop) → Prop
  | [.int i, .int j], K => K (.val (.int (if j < i then j else i)))
  | _, _ => False
def cMin : CaK := ⟨fMin, kMin, fun ds K h => by
  unfold kMin at h
  split at h
  · exact ⟨_, rfl, h⟩
  · exact h.elim⟩
def kInt : List D → (R → Prop) → Prop
  | [.int i], K => K (.val (.int i))
  | [.bool b], K => K (.val (.int (if b then 1 else 0)))
  | _, _ => False
def cInt : CaK := ⟨fInt, kInt, fun ds K h => by
  unfold kInt at h
  split at h
  · exact ⟨_, rfl, h⟩
  · exact ⟨_, rfl, h⟩
  · exact h.elim⟩
end DL
namespace DL
open PySem L2 PyProof.Rows
section
variable {X : Cx} {a b : Expr} {ma mb : ME} {pos : Pos}
/-! ### isinstance -/
def kindD : D → String
  | .none => "NoneType"
  | .bool _ => "bool"
  | .int _ => "int"
  | .str _ => "str"
  | .list _ => "list"
  | .tuple _ => "tuple"
  | .dict _ => "dict"
def isK (T k : String) : Bool := k == T || (k == "bool" && T == "int")
def isI (T : String) (d : D) : Bool := isK T (kindD d)
def kinds : List String := ["NoneType", "bool", "int", "str", "list", "tuple", "dict"]
theorem kind_in (d : D) : kindD d ∈ kinds := by cases d <;> simp [kindD, kinds]
theorem Rp.ty {K : Fg} {H : Hp} {v : V} {d : D} (h : Rp K H v d) : TyX K H v (.type (kindD d)) := by
  cases h with
  | non => exact .base .non
  | bl => exact .base (.bl _)
  | int => exact .base (.int _)
  | str => exact .base (.str _)
  | lst h _ =>
    rcases h with h | ⟨o, h⟩
    · exact .base (.lst h)
    · exact .base (.frz h)
  | tup h _ =>
    rcases h with (h | ⟨o, h⟩) | ⟨o, its, n, h1, h2, _⟩
    · exact .base (.tup h)
    · exact .fTuple h
    · exact .kTuple h1 h2
  | dct h _ _ _ =>
    rcases h with ⟨k, h, _⟩ | ⟨k, h, _⟩
    · exact .base (.dK h)
    · exact .base (.dT h)

theorem kit_ok : ∀ T ∈ kinds, ∀ k ∈ kinds, kitB k T = some (isK T k) := by decide +kernel
theorem kit_str (d : D) : kitB (kindD d) "str" = some (isI "str" d) := kit_ok _ (by simp [kinds]) _ (kind_in d)
theorem kit_int (d : D) : kitB (kindD d) "int" = some (isI "int" d) := kit_ok _ (by simp [kinds]) _ (kind_in d)
theorem kit_bool (d : D) : kitB (kindD d) "bool" = some (isI "bool" d) := kit_ok _ (by simp [kinds]) _ (kind_in d)
theorem kit_list (d : D) : kitB (kindD d) "list" = some (isI "list" d) := kit_ok _ (by simp [kinds]) _ (kind_in d)
theorem kit_tuple (d : D) : kitB (kindD d) "tuple" = some (isI "tuple" d) := kit_ok _ (by simp [kinds]) _ (kind_in d)
theorem kit_dict (d : D) : kitB (kindD d) "dict" = some (isI "dict" d) := kit_ok _ (by simp [kinds]) _ (kind_in d)
def mIsI (T : String) (ma : ME) : ME := fun r P => ma r fun x r1 => onO (look r1 x.tmp) fun d => P (.val (.bool (isI T d))) r1
theorem de_isinst {T : String} {p q : Pos} (hk : ∀ d, kitB (kindD d) T = some (isI T d)) (hg : Gl X "isinstance") (hm : X.mg "isinstance" = none) (hv : bootBuiltins "isinstance" = some (.builtin "isinstance")) (hgT : Gl X (Str.ofString T)) (hmT : X.mg (Str.ofString T) = none) (hvT : bootBuiltins (Str.ofString T) = some (.type T))
    (ha : DE X a ma) (hnT : (Str.ofString T) ≠ "__name__" := by decide) (hdT : ((Str.ofString T) == ("__debug__" : Str)) = false := by decide)
    (he : starEach (a :: [.Name (Str.ofString T) q]) X.env = (false, eval a X.env) :: starEach [.Name (Str.ofString T) q] X.env := by rfl) : DE X (.Call (.Name "isinstance" p) [a, .Name (Str.ofString T) q] [] pos) (mIsI T ma) := fun e =>
  PE.imp (pe_callB call_isi hg hm hv (pa_cons (ha.tmp e) (pa_cons (pe_bltn (v := .ty T) hgT hmT hvT rfl hnT hdT) pa_nil) he) (he := he)) fun s H Q ⟨F, r, k, P, hm, hP⟩ => ⟨F, r, k, fun x r1 => onO (look r1 x) fun d => P (.val (.bool (isI T d))) r1, hm, fun x r1 v F1 H1 hx k1 q1 t1 => by
    obtain ⟨d, e1, hp⟩ := onO.ex hx
    exact ⟨v, .ty T, .type (kindD d), .type T, isI T d, rfl, .ty T, ((t1.look k1 e1).all k1.sub).ty, kit_ty (hk d), hP _ r1 _ F1 H1 hp k1 q1 (.val (.bl _))⟩⟩
/-! ### repr -/
mutual
def noList : D → Bool
  | .list _ => false
  | .tuple ds => noListA ds
  | .dict kvs => noListK kvs
  | .none | .bool _ | .int _ | .str _ => true
def noListA : List D → Bool
  | [] => true
  | d :: ds => noList d && noListA ds
def noListK : List (D × D) → Bool
  | [] => true
  | (a, b) :: r => noList a && noList b && noListK r
end
theorem noListK_vals : ∀ {kvs : List (D × D)}, noListK kvs = true → noListA (kvs.map (·.2)) = true
  | [], _ => rfl
  | (a, b) :: r, h => by
    simp only [noListK, Bool.and_eq_true] at h
    simp only [List.map_cons, noListA, h.1.2, noListK_vals h.2, Bool.and_self]
/-- what repr is told of here -/
def reprOk (d : D) : Bool := d.showable && decide (d.shown.length ≤ sizeLine) && decide (d.depth ≤ 64) && (!d.hasDict || noList d)
def fRepr : FA
  | [d] => if reprOk d then some (.val (.str d.shown)) else none
  | _ => none
theorem reads_key {h : Heap} {k : Key} {u : Value} (q : keyIs k u = true) : Reads h u (kD k) [] := by
  rcases keyIs_shape q with ⟨i, t, rfl, rfl⟩ | ⟨x, t, rfl, rfl⟩
  · exact .int i t
  · exact .str x t
end
section
variable {X : Cx} {pins : List (Addr × Obj)} {σ : L2.St} {H : Hp} {s : Shared}
theorem reads_keys {P : Program} {w : World} {h : Heap} {es : List DictEntry} {kvs : List (Key × Value)} (p : Pairs (mixKind P w) es kvs) : ReadsAll h (es.map (·.key)) (kvs.map fun p => kD p.1) [] ∧ es.map (·.val) = kvs.map (·.2) := by
  induction p with
  | nil => exact ⟨.nil, rfl⟩
  | cons a b _ ih =>
    refine ⟨.cons (as := []) (reads_key a) ih.1, ?_⟩
    rw [List.map_cons, List.map_cons, b, ih.2]
theorem kv_split {kvs : List (Key × V)} {vs : List (Key × Value)} (h : KV kvs vs) : kvs.map (fun p => kD p.1) = vs.map (fun p => kD p.1) ∧ Vals (kvs.map (·.2)) (vs.map (·.2)) := by
  unfold KV at h
  induction h with
  | nil => exact ⟨rfl, .nil⟩
  | cons a _ ih =>
    refine ⟨?_, .cons a.2 ih.2⟩
    rw [List.map_cons, List.map_cons, ih.1, a.1]
theorem reads_tkey (I : Inv X pins σ H s) : ∀ (k : List Key) (us : List Value), Vals (k.map kV) us → ReadsAll s.heap us (k.map kD) []
  | [], _, r => by cases r; exact .nil
  | .inl i :: k, _, r => by
    cases r with | cons a b =>
    obtain ⟨t, rfl⟩ := a
    exact .cons (as := []) (.int i t) (reads_tkey I k _ b)
  | .inr x :: k, _, r => by
    cases r with | cons a b =>
    obtain ⟨t, rfl⟩ := a
    exact .cons (as := []) (.str x t) (reads_tkey I k _ b)
theorem tkv_split (I : Inv X pins σ H s) {kvs : List (List Key × V)} {xs : List (List Key × Addr × Value)} (h : Paired (fun (p : List Key × V) (q : List Key × Addr × Value) => p.1 = q.1 ∧ H q.2.1 = some (.tup (p.1.map kV)) ∧ RelV p.2 q.2.2) kvs xs) :
    ReadsAll s.heap (xs.map fun x => Value.ref x.2.1) (kvs.map fun p => ktD p.1) [] ∧ Vals (kvs.map (·.2)) (xs.map fun x => x.2.2) := by
  induction h with
  | nil => exact ⟨.nil, .nil⟩
  | cons a _ ih =>
    obtain ⟨its, rv, ⟨o, e1, e2, n, e3⟩, _⟩ := I.tuple (SqT.of a.2.1)
    exact ⟨.cons (as := []) (.tuple e1 e2 e3 (by simpa using reads_tkey I _ _ rv)) ih.1, .cons a.2.2 ih.2⟩
mutual
theorem Rp.reads (I : Inv X pins σ H s) : ∀ {v : V} {d : D}, Rp X.K H v d → ∀ {u : Value}, RelV v u → ∃ as, Reads s.heap u d as ∧ (noList d = true → sysModules ∉ as)
  | _, _, .non, _, r => by cases r; exact ⟨[], .none, fun _ => by simp⟩
  | _, _, .bl b, _, r => by cases r; exact ⟨[], .bool b, fun _ => by simp⟩
  | _, _, .int i, _, r => by obtain ⟨t, rfl⟩ := r; exact ⟨[], .int i t, fun _ => by simp⟩
  | _, _, .str x, _, r => by obtain ⟨t, rfl⟩ := r; exact ⟨[], .str x t, fun _ => by simp⟩
  | _, _, .lst h q, _, r => by
    cases r
    obtain ⟨_, its, n, rv, e⟩ := rd_list h I.hok
    obtain ⟨as, ra, _⟩ := RpA.reads I q rv
    exact ⟨_, .list e rfl rfl (by simpa using ra), fun z => by simp [noList] at z⟩
  | _, _, .tup h q, _, r => by
    cases r
    obtain ⟨its, rv, ⟨o, e1, e2, n, e3⟩, _⟩ := I.tuple h
    obtain ⟨as, ra, ns⟩ := RpA.reads I q rv
    exact ⟨_, .tuple e1 e2 e3 (by simpa using ra), fun z => ns (by simpa [noList] using z)⟩
  | _, _, .dct h q e1 e2, _, r => by
    have ih := fun us (r : Vals _ us) => RpA.reads I q r
    cases r
    subst e1; subst e2
    rcases h with ⟨kvs, hh, ek, ev⟩ | ⟨kvs, hh, ek, ev⟩
    · obtain ⟨_, ns, vs, kv, o, es, ep, g1, g2, g3, _, g5, _⟩ := I.hok _ _ hh
      obtain ⟨w1, w2⟩ := kv_split kv
      obtain ⟨k1, k2⟩ := reads_keys (h := s.heap) g5
      obtain ⟨bs, rb, nb⟩ := ih _ (by rw [ev]; exact w2)
      refine ⟨_, .dict (as := []) (bs := bs) g1 g2.1 g3 ?_ ?_, fun z => ?_⟩
      · rw [ek, w1]; exact k1
      · rw [k2]; exact rb
      · rw [List.singleton_append, List.mem_cons]
        rintro (y | y)
        · rw [y] at ns; simp at ns
        · exact nb (noListK_vals (by simpa [noList] using z)) y
    · obtain ⟨_, ns, xs, pr, o, es, ep, g1, g2, g3, g4, _⟩ := I.hok _ _ hh
      obtain ⟨w1, w2⟩ := tkv_split I pr
      obtain ⟨bs, rb, nb⟩ := ih _ (by rw [ev]; exact w2)
      refine ⟨_, .dict (as := []) (bs := bs) g1 g2.1 g3 ?_ ?_, fun z => ?_⟩
      · rw [ek, g4, List.map_map]; exact w1
      · rw [g4, List.map_map]; exact rb
      · rw [List.singleton_append, List.mem_cons]
        rintro (y | y)
        · rw [y] at ns; simp at ns
        · exact nb (noListK_vals (by simpa [noList] using z)) y
theorem RpA.reads (I : Inv X pins σ H s) : ∀ {vs : List V} {ds : List D}, RpA X.K H vs ds → ∀ {us : List Value}, Vals vs us → ∃ as, ReadsAll s.heap us ds as ∧ (noListA ds = true → sysModules ∉ as)
  | _, _, .nil, _, r => by cases r; exact ⟨[], .nil, fun _ => by simp⟩
  | _, _, .cons a b, _, r => by
    cases r with | cons r1 r2 =>
    obtain ⟨as, h1, n1⟩ := Rp.reads I a r1
    obtain ⟨bs, h2, n2⟩ := RpA.reads I b r2
    refine ⟨_, .cons h1 h2, fun z => ?_⟩
    simp only [noListA, Bool.and_eq_true] at z
    rw [List.mem_append]
    exact fun y => y.elim (n1 z.1) (n2 z.2)
end
end
section
variable {X : Cx}
theorem call_repr (hg : X.A.guards = some []) (hu : X.A.units + 66 < cLine) : CallR X (.builtin "repr") (fun xs H Q => ∃ v d, xs = [v] ∧ Rp X.K H v d ∧ reprOk d = true ∧ Q (.str d.shown) H) := by
  rintro pins s σ H _ us Q I r ⟨v, d, rfl, h, ok, q⟩
  obtain ⟨u, rfl, ru⟩ := vals1 r
  simp only [reprOk, Bool.and_eq_true, decide_eq_true_eq] at ok
  obtain ⟨⟨⟨o1, o2⟩, o3⟩, o4⟩ := ok
  obtain ⟨as, hr, ns⟩ := h.reads I ru
  have fin : ∀ t h' k, (∀ b o, s.heap.get? b = some o → h'.get? b = some o) → EP X pins σ Q (.str d.shown t) { s with heap := h', toks := k } := fun t h' k kk => ⟨.str _, H, I.kept (t' := k) kk, ⟨_, rfl⟩, q⟩
  have fin0 : ∀ t k, EP X pins σ Q (.str d.shown t) { s with toks := k } := fun t k => fin t s.heap k fun _ _ e => e
  have ref : ∀ a, u = .ref a → wpAny (model X.prog X.w) X.A (call (.builtin "repr") [u]) (EP X pins σ Q) X.xe s := by
    rintro a rfl
    refine repr_of_reads' hr o1 (fun hd => ?_) hg (by omega) (fun _ _ e => e) (fun h' t tk k => fin t h' tk k) o2
    rw [hd] at o4
    exact ns (by simpa using o4)
  cases hr with
  | none => exact PySem.P.repr_of_none (fin0 _ _)
  | bool b => exact PySem.P.repr_of_bool (by first | exact fin0 _ _)
  | int i t => exact PySem.P.repr_of_int (by simpa [PyData.showable] using o1) (fin0 _ _)
  | str x t => exact PySem.P.repr_of_str (fin0 _ _) o2
  | list _ _ _ _ => exact ref _ rfl
  | tuple _ _ _ _ => exact ref _ rfl
  | dict _ _ _ _ _ => exact ref _ rfl
theorem calld_repr (hg : X.A.guards = some []) (hu : X.A.units + 66 < cLine) : CallD X (.builtin "repr") fRepr := by
  refine ⟨_, call_repr hg hu, fun e F r s H vs ds z Q k l ef w => ?_⟩
  unfold fRepr at ef
  split at ef
  · split at ef
    · rename_i ok; cases ef
      obtain ⟨v, rfl, lk⟩ := l.one
      exact ⟨v, _, rfl, lk.all k.sub, ok, w _ F H k (Sub.refl F) (.val (.str _))⟩
    · cases ef
  · cases ef
end
/-! ### running -/
def kRepr : List D → (R → Prop) → Prop
  | [d], K => rqB (reprOk d) (K (.val (.str d.shown)))
  | _, _ => False
def cRepr : CaK := ⟨fRepr, kRepr, fun ds K h => by
  unfold kRepr at h
  split at h
  · obtain ⟨h1, h2⟩ := rqB.ex h
    exact ⟨_, if_pos h1, h2⟩
  · exact h.elim⟩
end DL
namespace DL
open PySem L2 PyProof.Rows
/-! ### statements -/
structure Out where
  nx : Rho → Prop
  rt : R → Rho → Prop
  bk : Rho → Prop := fun _ => False
  ct : Rho → Prop := fun _ => False
abbrev MS := Rho → Out → Prop
/-- what the ends of a statement by data say of those by values -/
structure Hits (K : Fg) (e : En) (F : Hp) (O : Out) (D : Ends) : Prop where
  nx : ∀ r' s' F' H', O.nx r' → Ok K e F' r' s' H' → Sub F F' → D.nx s' H'
  rt : ∀ x r' v s' F' H', O.rt x r' → Ok K e F' r' s' H' → Sub F F' → RR K e F' r' s' H' x v → D.rt v H'
  bk : ∀ r' s' F' H', O.bk r' → Ok K e F' r' s' H' → Sub F F' → D.bk s' H'
  ct : ∀ r' s' F' H', O.ct r' → Ok K e F' r' s' H' → Sub F F' → D.ct s' H'
theorem Hits.mono {K : Fg} {e : En} {F G : Hp} {O : Out} {D : Ends} (h : Hits K e F O D) (q : Sub F G) : Hits K e G O D :=
  ⟨fun r' s' F' H' a b c => h.nx r' s' F' H' a b (q.trans c), fun x r' v s' F' H' a b c d => h.rt x r' v s' F' H' a b (q.trans c) d, fun r' s' F' H' a b c => h.bk r' s' F' H' a b (q.trans c), fun r' s' F' H' a b c => h.ct r' s' F' H' a b (q.trans c)⟩
def TSt (K : Fg) (e : En) (m : MS) : TS := fun D s H => ∃ F r, Ok K e F r s H ∧ ∃ O : Out, m r O ∧ Hits K e F O D
def DS (X : Cx) (a : Stmt) (m : MS) : Prop := ∀ e, PS X a (TSt X.K e m)
def DSs (X : Cx) (a : List Stmt) (m : MS) : Prop := ∀ e, PSs X a (TSt X.K e m)
theorem PS.imp {X : Cx} {a : Stmt} {t u : TS} (h : PS X a t) (i : ∀ D s H, u D s H → t D s H) : PS X a u := ⟨fun pins s σ H D I q => h.run pins s σ H D I (i _ _ _ q)⟩
theorem PSs.imp {X : Cx} {a : List Stmt} {t u : TS} (h : PSs X a t) (i : ∀ D s H, u D s H → t D s H) : PSs X a u := ⟨fun pins s σ H D I q => h.run pins s σ H D I (i _ _ _ q)⟩
def sNext : MS := fun r O => O.nx r
def sSeq (m n : MS) : MS := fun r O => m r { O with nx := fun r' => n r' O }
section
variable {X : Cx} {st : Stmt} {rest : List Stmt} {m n : MS} {a b c : Expr} {ma mb : ME} {ta : MT} {pos : Pos}
theorem dss_nil : DSs X [] sNext := fun e => PSs.imp pss_nil fun D s H ⟨F, r, k, O, hm, h⟩ => h.nx r s F H hm k (Sub.refl F)
theorem dss_one (h : DS X st m) : DSs X [st] m := fun e => pss_one (h e)
theorem dss_cons (h1 : DS X st m) (h2 : DSs X rest n) : DSs X (st :: rest) (sSeq m n) := fun e =>
  PSs.imp (pss_cons (h1 e) (h2 e)) fun D s H ⟨F, r, k, O, hm, h⟩ => ⟨F, r, k, _, hm, ⟨fun r' s' F' H' hn k' q => ⟨F', r', k', O, hn, h.mono q⟩, h.rt, h.bk, h.ct⟩⟩
def sPass : MS := sNext
theorem ds_pass : DS X (.Pass pos) sNext := fun e => PS.imp ps_pass fun D s H ⟨F, r, k, O, hm, h⟩ => h.nx r s F H hm k (Sub.refl F)
def sBreak : MS := fun r O => O.bk r
theorem ds_break : DS X (.Break pos) sBreak := fun e => PS.imp ps_break fun D s H ⟨F, r, k, O, hm, h⟩ => h.bk r s F H hm k (Sub.refl F)
def sCont : MS := fun r O => O.ct r
theorem ds_cont : DS X (.Continue pos) sCont := fun e => PS.imp ps_continue fun D s H ⟨F, r, k, O, hm, h⟩ => h.ct r s F H hm k (Sub.refl F)
def sExpr (m : ME) : MS := fun r O => m r fun _ r' => O.nx r'
theorem ds_expr (ha : DE X a ma) (hs : swapsWith a none pos.line X.env = pure false := by rfl) : DS X (.Expr a pos) (sExpr ma) := fun e =>
  PS.imp (ps_expr (ha e) hs) fun D s H ⟨F, r, k, O, hm, h⟩ => ⟨F, r, k, _, hm, fun x r' v F' H' hp k' q t => h.nx r' s F' H' hp k' q⟩
def sRet (m : ME) : MS := fun r O => m r fun x r' => O.rt x r'
theorem ds_ret (ha : DE X a ma) : DS X (.Return (some a) pos) (sRet ma) := fun e =>
  PS.imp (ps_ret (ha e)) fun D s H ⟨F, r, k, O, hm, h⟩ => ⟨F, r, k, _, hm, fun x r' v F' H' hp k' q t => h.rt x r' v s F' H' hp k' q t⟩
def sRetN : MS := fun r O => O.rt (.val .none) r
theorem ds_retN : DS X (.Return none pos) sRetN := fun e => PS.imp ps_retN fun D s H ⟨F, r, k, O, hm, h⟩ => h.rt _ r _ s F H hm k (Sub.refl F) (.val .non)
def sIf (t : MT) (m n : MS) : MS := fun r O => t r fun b r1 => brK b (m r1 O) (n r1 O)
theorem ds_if {sa sb : List Stmt} (hc : DT X c ta) (ha : DSs X sa m) (hb : DSs X sb n) : DS X (.If c sa sb pos) (sIf ta m n) := fun e =>
  PS.imp (ps_if (hc e) (ha e) (hb e)) fun D s H ⟨F, r, k, O, hm, h⟩ => ⟨F, r, k, _, hm, fun b r1 F1 H1 hp k1 q => by
    cases b with
    | true => rw [if_pos rfl]; exact ⟨F1, r1, k1, O, hp, h.mono q⟩
    | false => rw [if_neg Bool.false_ne_true]; exact ⟨F1, r1, k1, O, hp, h.mono q⟩⟩
end
/-! ### stores -/
section
variable {K : Fg} {e : En} {F : Hp} {r : Rho} {s : L2.St} {H : Hp}
/-- a datum is stored at a name -/
theorem Ok.store {i : Nat} {v : V} {d : D} (k : Ok K e F r s H) (h : Rp K F v d) : Ok K e F (r.set i (some (.val d))) (s.set i (some v)) H where
  len := by rw [List.length_set, List.length_set]; exact k.len
  sub := k.sub
  f0 := k.f0
  prot := k.prot
  new := k.new
  dom := k.dom
  slot := fun j d' z => by
    by_cases q : i = j
    · subst q
      have hl : i < r.length := by simpa using (List.getElem?_eq_some_iff.mp z).1
      rw [List.getElem?_set_self hl] at z
      cases z
      exact ⟨v, by rw [List.getElem?_set_self (by rw [← k.len]; exact hl)], h⟩
    · rw [List.getElem?_set_ne q] at z ⊢
      exact k.slot j d' z
  box := fun j b m z => by
    rcases get_set z with ⟨_, e2⟩ | ⟨q, e2⟩
    · cases e2
    · rw [List.getElem?_set_ne q]
      exact k.box j b m e2
  scr := fun j ns z => by
    rcases get_set z with ⟨_, e2⟩ | ⟨q, e2⟩
    · cases e2
    · rw [List.getElem?_set_ne q]
      exact k.scr j ns e2
  sep := fun j1 j2 p b m b' m' z1 z2 w1 w2 => by
    rcases get_set z1 with ⟨_, e2⟩ | ⟨q1, e2⟩
    · cases e2
    · rcases get_set z2 with ⟨_, e4⟩ | ⟨q2, e4⟩
      · cases e4
      · rw [List.getElem?_set_ne q1] at w1
        rw [List.getElem?_set_ne q2] at w2
        exact k.sep j1 j2 p b m b' m' e2 e4 w1 w2
/-- the script is stored at a name -/
theorem Ok.storeScr {i : Nat} {a : Addr} {ns : List Int} (k : Ok K e F r s H) (h : SqL K F a (ns.map V.int)) : Ok K e F (r.set i (some (.scr ns))) (s.set i (some (.ref a))) H where
  len := by rw [List.length_set, List.length_set]; exact k.len
  sub := k.sub
  f0 := k.f0
  prot := k.prot
  new := k.new
  dom := k.dom
  slot := fun j d' z => by
    rcases get_set z with ⟨_, e2⟩ | ⟨q, e2⟩
    · cases e2
    · rw [List.getElem?_set_ne q]
      exact k.slot j d' e2
  box := fun j b m z => by
    rcases get_set z with ⟨_, e2⟩ | ⟨q, e2⟩
    · cases e2
    · rw [List.getElem?_set_ne q]
      exact k.box j b m e2
  scr := fun j ns' z => by
    by_cases q : i = j
    · subst q
      have hl : i < r.length := by simpa using (List.getElem?_eq_some_iff.mp z).1
      rw [List.getElem?_set_self hl] at z
      cases z
      exact ⟨a, by rw [List.getElem?_set_self (by rw [← k.len]; exact hl)], h⟩
    · rw [List.getElem?_set_ne q] at z ⊢
      exact k.scr j ns' z
  sep := fun j1 j2 p b m b' m' z1 z2 w1 w2 => by
    rcases get_set z1 with ⟨_, e2⟩ | ⟨q1, e2⟩
    · cases e2
    · rcases get_set z2 with ⟨_, e4⟩ | ⟨q2, e4⟩
      · cases e4
      · rw [List.getElem?_set_ne q1] at w1
        rw [List.getElem?_set_ne q2] at w2
        exact k.sep j1 j2 p b m b' m' e2 e4 w1 w2
/-- a new object is stored at a name -/
theorem Ok.storeOwn {i : Nat} {p : Addr} {o : HO} {m : MB} (k : Ok K e F r s H) (h1 : H p = some o) (h2 : MO K F o m) (h3 : F p = none) (h4 : e.P p = none) (h5 : ¬ e.old p)
    (h6 : ∀ (i : Nat) b m', r[i]? = some (some (Ce.box b m')) → s[i]? ≠ some (some (V.ref p))) : Ok K e F (r.set i (some (.box false m))) (s.set i (some (.ref p))) H where
  len := by rw [List.length_set, List.length_set]; exact k.len
  sub := k.sub
  f0 := k.f0
  prot := k.prot
  new := k.new
  dom := k.dom
  slot := fun j d' z => by
    rcases get_set z with ⟨_, e2⟩ | ⟨q, e2⟩
    · cases e2
    · rw [List.getElem?_set_ne q]
      exact k.slot j d' e2
  box := fun j b m' z => by
    by_cases q : i = j
    · subst q
      have hl : i < r.length := by simpa using (List.getElem?_eq_some_iff.mp z).1
      rw [List.getElem?_set_self hl] at z
      cases z
      exact ⟨p, o, by rw [List.getElem?_set_self (by rw [← k.len]; exact hl)], h1, h2, h3, h4, fun _ => h5, fun z => Bool.noConfusion z⟩
    · rw [List.getElem?_set_ne q] at z ⊢
      exact k.box j b m' z
  scr := fun j ns z => by
    rcases get_set z with ⟨_, e2⟩ | ⟨q, e2⟩
    · cases e2
    · rw [List.getElem?_set_ne q]
      exact k.scr j ns e2
  sep := fun j1 j2 p' b m1 b' m2 z1 z2 w1 w2 => by
    rcases get_set z1 with ⟨q1, e2⟩ | ⟨q1, e2⟩
    · rcases get_set z2 with ⟨q2, e4⟩ | ⟨q2, e4⟩
      · exact q1.symm.trans q2
      · subst q1
        have hl : i < s.length := by rw [← k.len]; simpa using (List.getElem?_eq_some_iff.mp z1).1
        rw [List.getElem?_set_self hl] at w1
        cases w1
        rw [List.getElem?_set_ne q2] at w2
        exact absurd w2 (h6 j2 _ _ e4)
    · rw [List.getElem?_set_ne q1] at w1
      rcases get_set z2 with ⟨q2, e4⟩ | ⟨q2, e4⟩
      · subst q2
        have hl : i < s.length := by rw [← k.len]; simpa using (List.getElem?_eq_some_iff.mp z2).1
        rw [List.getElem?_set_self hl] at w2
        cases w2
        exact absurd w1 (h6 j1 _ _ e2)
      · rw [List.getElem?_set_ne q2] at w2
        exact k.sep j1 j2 p' b m1 b' m2 e2 e4 w1 w2
/-- the box of slot i holds another thing -/
theorem Ok.write {i : Nat} {b : Bool} {m m' : MB} {p : Addr} {o : HO} (k : Ok K e F r s H) (h : r[i]? = some (some (Ce.box b m))) (hp : s[i]? = some (some (V.ref p))) (h2 : MO K F o m') : Ok K e F (r.set i (some (.box b m'))) s (upd H p o) := by
  obtain ⟨p', o', g1, g2, g3, g4, g5, g6⟩ := k.box i b m h
  rw [hp] at g1; cases g1
  refine ⟨by rw [List.length_set]; exact k.len, ?_, k.f0, ?_, k.new, ?_, ?_, ?_, ?_, ?_⟩
  · intro a u q
    rw [upd_ne (ne_of_none q g4)]
    exact k.sub a u q
  · intro a u q
    rw [upd_ne (ne_of_none q g5)]
    exact k.prot a u q
  · intro a z
    by_cases q : a = p
    · subst q; rw [upd_same]; simp
    · rw [upd_ne q]; exact k.dom a z
  · intro j d z
    rcases get_set z with ⟨_, e2⟩ | ⟨q, e2⟩
    · cases e2
    · exact k.slot j d e2
  · intro j b' m1 z
    rcases get_set z with ⟨q, e2⟩ | ⟨q, e2⟩
    · cases e2
      subst q
      exact ⟨p, o, hp, upd_same, h2, g4, g5, g6⟩
    · obtain ⟨p1, o1, w1, w2, w3, w4, w5, w6⟩ := k.box j b' m1 e2
      have ne : p1 ≠ p := fun y => by subst y; exact q (k.sep i j p1 b m b' m1 h e2 hp w1)
      exact ⟨p1, o1, w1, by rw [upd_ne ne]; exact w2, w3, w4, w5, w6⟩
  · intro j ns z
    rcases get_set z with ⟨_, e2⟩ | ⟨q, e2⟩
    · cases e2
    · exact k.scr j ns e2
  · intro j1 j2 p' b1 m1 b2 m2 z1 z2 w1 w2
    have f : ∀ (j : Nat) b1 m1, (r.set i (some (Ce.box b m')))[j]? = some (some (Ce.box b1 m1)) → ∃ b2 m2, r[j]? = some (some (Ce.box b2 m2)) := fun j b1 m1 z => by
      rcases get_set z with ⟨q, e2⟩ | ⟨q, e2⟩
      · subst q; exact ⟨b, m, h⟩
      · exact ⟨b1, m1, e2⟩
    obtain ⟨_, _, y1⟩ := f j1 _ _ z1
    obtain ⟨_, _, y2⟩ := f j2 _ _ z2
    exact k.sep j1 j2 p' _ _ _ _ y1 y2 w1 w2
end
/-- what an expression gave is put into slot i -/
def put (r : Rho) (i : Nat) : R → Option Rho
  | .val d => some (r.set i (some (.val d)))
  | .own m => some (r.set i (some (.box false m)))
  | .bor j => match r[j]? with
    | some (some (.box false m)) => some ((r.set j (some (.val m.toD))).set i (some (.val m.toD)))
    | _ => none
  | .scr ns => some (r.set i (some (.scr ns)))
section
variable {K : Fg} {e : En} {F : Hp} {r : Rho} {s : L2.St} {H : Hp}
theorem RR.put {i : Nat} {x : R} {v : V} {r' : Rho} (h : RR K e F r s H x v) (k : Ok K e F r s H) (q : DL.put r i x = some r') : ∃ F', Ok K e F' r' (s.set i (some v)) H ∧ Sub F F' := by
  cases h with
  | val a => cases q; exact ⟨F, k.store a, Sub.refl F⟩
  | own h1 h2 h3 h4 h5 h6 => cases q; exact ⟨F, k.storeOwn h1 h2 h3 h4 h5 h6, Sub.refl F⟩
  | bor a b =>
    simp only [DL.put] at q
    split at q
    · rename_i z; cases q
      obtain ⟨F', v', k', s', g1, g2⟩ := k.freezeBox z
      rw [a] at g1; cases g1
      exact ⟨F', k'.store g2, s'⟩
    · cases q
  | scr a => cases q; exact ⟨F, k.storeScr a, Sub.refl F⟩
end
section
variable {X : Cx} {st : Stmt} {rest : List Stmt} {m n : MS} {a b c : Expr} {ma mb : ME} {ta : MT} {pos pos' : Pos} {x : Str}
/-- the cells one by one -/
def strict (r : Rho) (K : Rho → Prop) : Prop := match r with
  | [] => K []
  | c :: r => strict r fun r' => K (c :: r')
theorem strict.ex : ∀ {r : Rho} {K : Rho → Prop}, strict r K → K r
  | [], _, h => h
  | _ :: r, K, h => strict.ex (r := r) h
theorem strict.mk : ∀ {r : Rho} {K : Rho → Prop}, K r → strict r K
  | [], _, h => h
  | c :: r, K, h => strict.mk (r := r) (K := fun r' => K (c :: r')) h
def onS (o : Option Rho) (K : Rho → Prop) : Prop := onO o fun r => strict r K
theorem onS.ex {o : Option Rho} {K : Rho → Prop} (h : onS o K) : ∃ r, o = some r ∧ K r := by
  obtain ⟨r, e, q⟩ := onO.ex h
  exact ⟨r, e, q.ex⟩
def sSet (i : Nat) (m : ME) : MS := fun r O => m r fun x r1 => onS (put r1 i x) O.nx
theorem ds_set {i : Nat} (hN : X.N.Nodup) (hi : X.N[i]? = some x) (hx : Loc X.env.scope x) (ha : DE X a ma) (hs : swapsWith a (some (.Name x pos')) pos.line X.env = pure false := by rfl) (hf : X.fn x = true ∨ X.env.scope.names.lookup x = some .local := by first | exact .inl rfl | exact .inr rfl | assumption) :
    DS X (.Assign [.Name x pos'] a pos) (sSet i ma) := fun e =>
  PS.imp (ps_set hN hi hx (ha e) hs hf) fun D s H ⟨F, r, k, O, hm, h⟩ => ⟨F, r, k, _, hm, fun x r1 v F1 H1 hx k1 q t => by
    obtain ⟨r2, ep, hp⟩ := onS.ex hx
    obtain ⟨F2, k2, q2⟩ := t.put k1 ep
    exact h.nx r2 _ F2 H1 hp k2 (q.trans q2)⟩
end
end DL
namespace DL
open PySem L2 PyProof.Rows
/-! ### what is walked -/
def iAny (K : Fg) (tl : TE) : TI := fun σ H R => tl σ H fun x H1 => (∃ a, x = .ref a ∧ (∃ xs, SqL K H1 a xs) ∧ R (Itl K a) H1) ∨ (∃ a, x = .ref a ∧ (∃ xs, SqT K H1 a xs) ∧ R (Itt K a) H1) ∨ ∃ z, x = .str z ∧ R (Its z) H1
section
variable {X : Cx} {tg : Expr}
theorem pi_any {l : Expr} {tl : TE} (hl : PE X l tl) : PI X tg l (iAny X.K tl) := by
  refine ⟨fun pins s σ H R I h => thn (hl.run pins s σ H _ I h) ?_⟩
  rintro v s1 ⟨x, H1, I1, r1, q1⟩
  rcases q1 with ⟨a, rfl, ⟨xs, hq⟩, q⟩ | ⟨a, rfl, ⟨xs, hq⟩, q⟩ | ⟨z, rfl, q⟩
  · cases r1
    obtain ⟨its, _, p, _⟩ := I1.list hq
    exact wpAny_pyIter_list p.isList (pi_one (tk := s1.toks) I1 _ (turn_list a _) ⟨_, Heap.get?_push_size _ rfl, rfl, rfl⟩ q)
  · cases r1
    obtain ⟨its, _, p, _⟩ := I1.tuple hq
    exact wpAny_pyIter_tuple (show s1.heap.IsTuple a its.toArray from p) (pi_one (tk := s1.toks) I1 _ (turn_tuple a _) ⟨_, Heap.get?_push_size _ rfl, rfl, rfl⟩ q)
  · obtain ⟨t, rfl⟩ := r1
    cases ha : z.cps.all (· < 128) with
    | false => exact wpAny_pyIter_wide ha (pi_one (tk := s1.toks) I1 _ (turn_str _ z t "str_iterator" (.inr rfl)) ⟨_, Heap.get?_push_size _ rfl, rfl, rfl⟩ q)
    | true => exact wpAny_pyIter_ascii ha (pi_one (tk := s1.toks) I1 _ (turn_str _ z t "str_ascii_iterator" (.inl rfl)) ⟨_, Heap.get?_push_size _ rfl, rfl, rfl⟩ q)
end
/-- J walks the data ds, which stand in F0 -/
structure ItOk (K : Fg) (F0 : Hp) (J : It) (ds : List D) : Prop where
  go : ∀ i H, Sub F0 H → i < ds.length → J.go i H
  stop : ∀ i H, Sub F0 H → ds.length ≤ i → J.stop i H
  yld : ∀ i H x H', J.yld i H x H' → ∀ e F r s, Ok K e F r s H → Sub F0 F → i < ds.length → ∃ d, ds[i]? = some d ∧ ∃ F', Ok K e F' r s H' ∧ Sub F F' ∧ Rp K F' x d
abbrev MI := Rho → (List D → Rho → Prop) → Prop
def TIt (K : Fg) (e : En) (m : MI) : TI := fun s H Q => ∃ F r, Ok K e F r s H ∧ ∃ P : List D → Rho → Prop, m r P ∧ ∀ ds r' F' H' J, P ds r' → Ok K e F' r' s H' → Sub F F' → ItOk K F' J ds → Q J H'
def DI (X : Cx) (tg a : Expr) (m : MI) : Prop := ∀ e, PI X tg a (TIt X.K e m)
theorem PI.imp {X : Cx} {tg a : Expr} {t u : TI} (h : PI X tg a t) (i : ∀ s H Q, u s H Q → t s H Q) : PI X tg a u := ⟨fun pins s σ H Q I q => h.run pins s σ H Q I (i _ _ _ q)⟩
theorem itok_list {K : Fg} {F : Hp} {a : Addr} {xs : List V} {ds : List D} (h : Rd F a (.lst xs)) (r : RpA K F xs ds) : ItOk K F (Itl K a) ds where
  go := fun i H q hi => by
    have hl : i < xs.length := by rw [r.length]; exact hi
    exact ⟨xs, xs[i], .inl (q.rd h), List.getElem?_eq_getElem hl⟩
  stop := fun i H q hi => ⟨xs, .inl (q.rd h), by rw [r.length]; exact hi⟩
  yld := fun i H x H' ⟨e1, e2⟩ e F' r' s k q hi => by
    subst e1
    obtain ⟨d, g1, g2⟩ := r.get (e2 xs (.inl ((q.trans k.sub).rd h)))
    exact ⟨d, g1, F', k, Sub.refl _, g2.mono q⟩
theorem itok_tup {K : Fg} {F : Hp} {a : Addr} {xs : List V} {ds : List D} (h : SqT K F a xs) (r : RpA K F xs ds) : ItOk K F (Itt K a) ds where
  go := fun i H q hi => by
    have hl : i < xs.length := by rw [r.length]; exact hi
    exact ⟨xs, xs[i], q.sqT h, List.getElem?_eq_getElem hl⟩
  stop := fun i H q hi => ⟨xs, q.sqT h, by rw [r.length]; exact hi⟩
  yld := fun i H x H' ⟨e1, e2⟩ e F' r' s k q hi => by
    subst e1
    obtain ⟨d, g1, g2⟩ := r.get (e2 xs ((q.trans k.sub).sqT h))
    exact ⟨d, g1, F', k, Sub.refl _, g2.mono q⟩
/-- a text's signs -/
def signsD (x : Str) : List D := x.cps.toList.map fun c => .str ⟨#[c]⟩
theorem itok_str {K : Fg} {F : Hp} {x : Str} : ItOk K F (Its x) (signsD x) where
  go := fun i H q hi => by
    have hi' : i < x.cps.size := by simpa [signsD] using hi
    exact hi'
  stop := fun i H q hi => by
    have hi' : x.cps.size ≤ i := by simpa [signsD] using hi
    exact hi'
  yld := fun i H v H' ⟨e1, c, e2, e3⟩ e F' r' s k q hi => by
    subst e1; subst e3
    refine ⟨.str ⟨#[c]⟩, ?_, F', k, Sub.refl _, .str _⟩
    rw [signsD, List.getElem?_map, Array.getElem?_toList, e2]
    rfl
/-- the data that a datum is walked by -/
def itemsD : D → Option (List D)
  | .list ds => some ds
  | .tuple ds => some ds
  | .str x => some (signsD x)
  | _ => none
def iOf (m : ME) : MI := fun r P => m r fun x r1 => onP (hold r1 x.tmp) fun qa qb => onO (itemsD qa) fun ds => strict qb fun r2 => P ds r2
section
variable {X : Cx} {tg a b c : Expr} {ma mb : ME} {pos p : Pos} {es : List Expr} {ms : MA}
theorem di_of (h : DE X a ma) : DI X tg a (iOf ma) := fun e =>
  PI.imp (pi_any (h.tmp e)) fun s H Q ⟨F, r, k, P, hm, hP⟩ => ⟨F, r, k, fun x r1 => onP (hold r1 x) fun qa qb => onO (itemsD qa) fun ds => strict qb fun r2 => P ds r2, hm, fun x r1 v F1 H1 hx k1 q1 t => by
    obtain ⟨d, r2, eh, hx2⟩ := onP.ex hx
    obtain ⟨ds, ei, hx3⟩ := onO.ex hx2
    have hp := hx3.ex
    clear hx hx2 hx3
    obtain ⟨F2, k2, q2, rp⟩ := t.hold k1 eh
    have q := q1.trans q2
    cases d with
    | list ds' =>
      cases ei
      cases rp with | lst g1 g2 => exact .inl ⟨_, rfl, ⟨_, .inl (k2.sub.rd g1)⟩, hP _ r2 F2 H1 _ hp k2 q (itok_list g1 g2)⟩
    | tuple ds' =>
      cases ei
      cases rp with | tup g1 g2 => exact .inr (.inl ⟨_, rfl, ⟨_, k2.sub.sqT g1⟩, hP _ r2 F2 H1 _ hp k2 q (itok_tup g1 g2)⟩)
    | str x =>
      cases ei
      cases rp
      exact .inr (.inr ⟨x, rfl, hP _ r2 F2 H1 _ hp k2 q itok_str⟩)
    | none => cases ei
    | bool _ => cases ei
    | int _ => cases ei
    | dict _ => cases ei⟩
/-! range -/
def rangeD (lo : Int) (n : Nat) : List D := (List.range n).map fun i => .int (lo + (i : Nat))
theorem itok_range {K : Fg} {F : Hp} {lo : Int} {n : Nat} : ItOk K F (Itr lo n) (rangeD lo n) where
  go := fun i H q hi => by
    have hi' : i < n := by simpa [rangeD] using hi
    exact hi'
  stop := fun i H q hi => by
    have hi' : n ≤ i := by simpa [rangeD] using hi
    exact hi'
  yld := fun i H v H' ⟨e1, e2⟩ e F' r' s k q hi => by
    subst e1; subst e2
    have hi' : i < n := by simpa [rangeD] using hi
    refine ⟨.int (lo + (i : Nat)), ?_, F', k, Sub.refl _, .int _⟩
    rw [rangeD, List.getElem?_map, List.getElem?_range hi']
    rfl
def okR (i : Int) : Bool := Nat.ble i.natAbs 4000000000000000000
def iRange1 (m : ME) : MI := fun r P => m r fun x r1 => onO (inOf x) fun j => rqB (okR j) (P (rangeD 0 j.toNat) r1)
def iRange2 (m n : ME) : MI := fun r P => m r fun x r1 => n r1 fun y r2 => onO (inOf x) fun i => onO (inOf y) fun j => rqB (okR i && okR j) (P (rangeD i (j - i).toNat) r2)
theorem tmp_int {x : R} {j : Int} (h : x.tmp = .val (.int j)) : x = .val (.int j) := by
  cases x with
  | val d => exact h
  | own m => cases m <;> cases h
  | bor i => cases h
  | scr ns => cases h
theorem di_range1 (hg : Gl X "range") (hm : X.mg "range" = none) (ha : DE X a ma) (hs : starEach [a] X.env = [(false, eval a X.env)] := by rfl) : DI X tg (.Call (.Name "range" p) [a] [] pos) (iRange1 ma) := fun e =>
  PI.imp (pi_range1 hg hm (pa_cons (ha e) pa_nil hs) hs) fun s H Q ⟨F, r, k, P, hm, hP⟩ => ⟨F, r, k, _, hm, fun x r1 v F1 H1 hx k1 q1 t => by
    obtain ⟨j, ei, hx2⟩ := onO.ex hx
    obtain ⟨ok, hp⟩ := rqB.ex hx2
    have e1 := inOf_of ei
    subst e1
    cases t with | val a =>
    cases a
    have ok := Nat.le_of_ble_eq_true ok
    exact ⟨j, rfl, by omega, by omega, hP _ r1 F1 H1 _ hp k1 q1 itok_range⟩⟩
theorem di_range2 (hg : Gl X "range") (hm : X.mg "range" = none) (ha : DE X a ma) (hb : DE X b mb) (hs : starEach [a, b] X.env = [(false, eval a X.env), (false, eval b X.env)] := by rfl) (hs2 : starEach [b] X.env = [(false, eval b X.env)] := by rfl) : DI X tg (.Call (.Name "range" p) [a, b] [] pos) (iRange2 ma mb) := fun e =>
  PI.imp (pi_range2 hg hm (pa_cons (ha e) (pa_cons (hb e) pa_nil hs2) (by rw [hs, hs2])) hs hs2) fun s H Q ⟨F, r, k, P, hm, hP⟩ => ⟨F, r, k, _, hm, fun x r1 v F1 H1 hx k1 q1 t => ⟨F1, r1, k1, _, hx, fun y r2 v' F2 H2 hy k2 q2 t2 => by
    obtain ⟨i, ei, hy2⟩ := onO.ex hy
    obtain ⟨j, ej, hy3⟩ := onO.ex hy2
    obtain ⟨oo, hp⟩ := rqB.ex hy3
    rw [Bool.and_eq_true] at oo
    obtain ⟨o1, o2⟩ := oo
    have e1 := inOf_of ei
    have e2 := inOf_of ej
    subst e1; subst e2
    cases t with | val a =>
    cases a
    cases t2 with | val b =>
    cases b
    have o1 := Nat.le_of_ble_eq_true o1
    have o2 := Nat.le_of_ble_eq_true o2
    exact ⟨i, j, rfl, ⟨by omega, by omega, by omega, by omega⟩, hP _ r2 F2 H2 _ hp k2 (q1.trans q2) itok_range⟩⟩⟩
end
end DL
namespace DL
open PySem L2 PyProof.Rows
/-! ### targets -/
abbrev GT := D → Rho → Option Rho
def TGt (K : Fg) (e : En) (vs : List Nat) (g : GT) : TG := fun v s H Q => ∃ F r d r', Ok K e F r s H ∧ Rp K F v d ∧ g d r = some r' ∧ ∀ s' F' H', Ok K e F' r' s' H' → Sub F F' → wipe s' vs = wipe s vs → Q s' H'
def DG (X : Cx) (a : Expr) (vs : List Nat) (g : GT) : Prop := ∀ e, PG X a (TGt X.K e vs g)
theorem PG.imp {X : Cx} {a : Expr} {t u : TG} (h : PG X a t) (i : ∀ v s H Q, u v s H Q → t v s H Q) : PG X a u := ⟨fun pins s σ H v w Q I r q => h.run pins s σ H v w Q I r (i _ _ _ _ q)⟩
theorem wipe_get (s : L2.St) : ∀ (vs : List Nat) (j : Nat), (wipe s vs)[j]? = if j ∈ vs ∧ j < s.length then some none else s[j]?
  | [], j => by simp [wipe]
  | v :: vs, j => by
    unfold wipe
    have ih := wipe_get s vs j
    by_cases q : v = j
    · subst q
      by_cases hl : v < s.length
      · rw [List.getElem?_set_self (by rw [wipe_length]; exact hl), if_pos ⟨List.mem_cons_self, hl⟩]
      · rw [if_neg (fun z => hl z.2), List.getElem?_eq_none (by rw [List.length_set, wipe_length]; omega), List.getElem?_eq_none (by omega)]
    · rw [List.getElem?_set_ne q, ih]
      have : j ∈ v :: vs ↔ j ∈ vs := by rw [List.mem_cons]; exact ⟨fun z => z.elim (fun y => absurd y.symm q) id, .inr⟩
      simp only [this]
theorem wipe_set {s : L2.St} {i : Nat} {x : Option V} {vs : List Nat} (h : i ∈ vs) : wipe (s.set i x) vs = wipe s vs := by
  apply List.ext_getElem?
  intro j
  rw [wipe_get, wipe_get, List.length_set]
  by_cases q : i = j
  · subst q
    by_cases hl : i < s.length
    · rw [if_pos ⟨h, hl⟩, if_pos ⟨h, hl⟩]
    · rw [if_neg (fun z => hl z.2), if_neg (fun z => hl z.2), List.getElem?_eq_none (by rw [List.length_set]; omega), List.getElem?_eq_none (by omega)]
  · rw [List.getElem?_set_ne q]
def gNm (i : Nat) : GT := fun d r => some (r.set i (some (.val d)))
abbrev GTs := List D → Rho → Option Rho
def gNl : GTs := fun ds r => match ds with
  | [] => some r
  | _ => none
def gCs (g : GT) (gs : GTs) : GTs := fun ds r => match ds with
  | d :: ds => match g d r with
    | some r1 => gs ds r1
    | none => none
  | [] => none
def gTp (n : Nat) (gs : GTs) : GT := fun d r => match d with
  | .tuple ds => if ds.length = n then gs ds r else none
  | _ => none
def TGts (K : Fg) (e : En) (vs : List Nat) (g : GTs) : TGs := fun us s H Q => ∃ F r ds r', Ok K e F r s H ∧ RpA K F us ds ∧ g ds r = some r' ∧ ∀ s' F' H', Ok K e F' r' s' H' → Sub F F' → wipe s' vs = wipe s vs → Q s' H'
def DGs (X : Cx) (a : List Expr) (vs : List Nat) (g : GTs) : Prop := ∀ e, PGs X a (TGts X.K e vs g)
theorem PGs.imp {X : Cx} {a : List Expr} {t u : TGs} (h : PGs X a t) (i : ∀ v s H Q, u v s H Q → t v s H Q) : PGs X a u := ⟨fun pins s σ H v w Q I r q => h.run pins s σ H v w Q I r (i _ _ _ _ q)⟩
section
variable {X : Cx} {a b c : Expr} {es : List Expr} {x : Str} {pos : Pos} {vs : List Nat} {g : GT} {gs : GTs}
theorem dg_name {i : Nat} (hN : X.N.Nodup) (hi : X.N[i]? = some x) (hx : Loc X.env.scope x) (hv : i ∈ vs) (hf : X.fn x = true ∨ X.env.scope.names.lookup x = some .local := by first | exact .inl rfl | exact .inr rfl | assumption) : DG X (.Name x pos) vs (gNm i) := fun e =>
  PG.imp (pg_name hN hi hx hf) fun v s H Q ⟨F, r, d, r', k, rp, eg, hQ⟩ => by
    cases eg
    exact hQ _ F H (k.store rp) (Sub.refl F) (wipe_set hv)
theorem dgs_nil : DGs X [] vs gNl := fun e => PGs.imp pgs_nil fun v s H Q ⟨F, r, d, r', k, rp, eg, hQ⟩ => by
  cases rp with
  | nil => cases eg; exact ⟨rfl, hQ s F H k (Sub.refl F) rfl⟩
  | cons _ _ => cases eg
theorem dgs_cons (h1 : DG X a vs g) (h2 : DGs X es vs gs) (hs : (assignEach (a :: es) X.env).map (·.2) = assign a X.env :: (assignEach es X.env).map (·.2) := by rfl) : DGs X (a :: es) vs (gCs g gs) := fun e =>
  PGs.imp (pgs_cons (h1 e) (h2 e) hs) fun v s H Q ⟨F, r, d, r', k, rp, eg, hQ⟩ => by
    cases rp with
    | nil => cases eg
    | cons r1 r2 =>
      simp only [gCs] at eg
      split at eg
      · rename_i r1' e1
        refine ⟨_, _, rfl, F, r, _, r1', k, r1, e1, fun s1 F1 H1 k1 q1 w1 => ⟨F1, r1', _, r', k1, r2.mono q1, eg, fun s2 F2 H2 k2 q2 w2 => hQ s2 F2 H2 k2 (q1.trans q2) (w2.trans w1)⟩⟩
      · cases eg
theorem dg_tup {k : Nat} {n : Nat} (hc : X.calm = true) (h : DGs X es vs gs) (hn : (assignEach es X.env).length = n := by rfl) (hst : (assignEach es X.env).findIdx? (·.1) = none := by rfl) : DG X (.Tuple es k pos) vs (gTp n gs) := fun e =>
  PG.imp (pg_tup hc (h e) hn hst) fun v s H Q ⟨F, r, d, r', k, rp, eg, hQ⟩ => by
    cases d with
    | tuple ds =>
      simp only [gTp] at eg
      split at eg
      · rename_i hl
        cases rp with | tup g1 g2 => exact ⟨_, _, rfl, k.sub.sqT g1, by rw [g2.length]; exact hl, F, r, ds, r', k, g2, eg, hQ⟩
      · cases eg
    | _ => cases eg
end
/-! ### for -/
def loopM (g : GT) (body : MS) : List D → MS
  | [], r, O => O.nx r
  | d :: ds, r, O => onS (g d r) fun r1 => body r1 ⟨fun r' => loopM g body ds r' O, O.rt, O.nx, fun r' => loopM g body ds r' O⟩
/-- a loop: here a proof speaks -/
structure Lp (g : GT) (body : MS) (ds : List D) (r : Rho) (O : Out) : Prop where
  h : loopM g body ds r O
def sFor (mi : MI) (g : GT) (body : MS) : MS := fun r O => mi r fun ds r1 => Lp g body ds r1 O
theorem drop_cons {α : Type} {l : List α} {i : Nat} {d : α} (h : l[i]? = some d) : l.drop i = d :: l.drop (i + 1) := by
  obtain ⟨hi, e⟩ := List.getElem?_eq_some_iff.mp h
  rw [List.drop_eq_getElem_cons hi, e]
section
variable {X : Cx} {st : Stmt} {rest : List Stmt} {m n : MS} {a b c tg : Expr} {ma mb : ME} {ta : MT} {pos pos' : Pos} {x : Str} {body : List Stmt} {mi : MI} {g : GT} {vs : List Nat}
theorem ds_for (hp : PassesOwn (model X.prog X.w) X.A X.env X.xe) (hc : X.calm = true) (hi : DI X tg a mi) (hg : DG X tg vs g) (hb : DSs X body m) (hs : ∀ x, foldedSetIterable a X.env x = pure x := by intro _; rfl) : DS X (.For tg a body [] pos) (sFor mi g m) := fun e =>
  PS.imp (ps_for hp hc (hi e) (hg e) (hb e) hs) fun D s H ⟨F, r, k, O, hm, h⟩ => ⟨F, r, k, _, hm, fun ds r1 F1 H1 J hl k1 q1 ok => by
    have h1 := h.mono q1
    refine ⟨fun i m s H => ∃ F r, Ok X.K e F r s H ∧ Sub F1 F ∧ i ≤ ds.length ∧ m = ds.length - i ∧ loopM g _ (ds.drop i) r O, ⟨_, F1, r1, k1, Sub.refl _, Nat.zero_le _, rfl, by rw [List.drop_zero]; exact hl.h⟩, ?_⟩
    rintro i m s2 H2 ⟨F2, r2, k2, q2, hi, rfl, hl2⟩
    by_cases hn : i < ds.length
    · refine .inr ⟨ok.go i H2 (q2.trans k2.sub) hn, fun s H => ∃ F r, Ok X.K e F r s H ∧ Sub F1 F ∧ loopM g _ (ds.drop (i + 1)) r O, fun s3 H3 ⟨F3, r3, k3, q3, hl3⟩ => ⟨_, by omega, F3, r3, k3, q3, hn, rfl, hl3⟩, fun x H3 hy => ?_⟩
      obtain ⟨d, ed, F3, k3, q3, rp⟩ := ok.yld i H2 x H3 hy e F2 r2 s2 k2 q2 hn
      rw [drop_cons ed] at hl2
      obtain ⟨r4, eg, hb4⟩ := onS.ex hl2
      refine ⟨F3, r2, d, r4, k3, rp, eg, fun s5 F5 H5 k5 q5 _ => ⟨F5, r4, k5, _, hb4, ?_⟩⟩
      have q25 : Sub F1 F5 := (q2.trans q3).trans q5
      exact ⟨fun r' s' F' H' hn k' q' => ⟨F', r', k', q25.trans q', hn⟩, fun x r' v s' F' H' hr k' q' t => h1.rt x r' v s' F' H' hr k' (q25.trans q') t, fun r' s' F' H' hn k' q' => h1.nx r' s' F' H' hn k' (q25.trans q'), fun r' s' F' H' hn k' q' => ⟨F', r', k', q25.trans q', hn⟩⟩
    · have e0 : i = ds.length := by omega
      subst e0
      rw [List.drop_length] at hl2
      exact .inl ⟨ok.stop _ H2 (q2.trans k2.sub) (Nat.le_refl _), h1.nx r2 s2 F2 H2 hl2 k2 q2⟩⟩
/-! ### while -/
def sWhile (t : MT) (body : MS) : MS := fun r O => ∃ W : Nat → Rho → Prop, (∃ m, W m r) ∧ ∀ m r, W m r → t r fun b r1 => brK b (body r1 ⟨fun r' => ∃ m', m' < m ∧ W m' r', O.rt, O.nx, fun r' => ∃ m', m' < m ∧ W m' r'⟩) (O.nx r1)
theorem ds_while (hp : PassesOwn (model X.prog X.w) X.A X.env X.xe) (hc : DT X c ta) (hb : DSs X body m) : DS X (.While c body [] pos) (sWhile ta m) := fun e =>
  PS.imp (ps_while hp (hc e) (hb e)) fun D s H ⟨F, r, k, O, ⟨W, ⟨m0, w0⟩, turn⟩, h⟩ => by
    refine ⟨fun m s H => ∃ F1 r, Ok X.K e F1 r s H ∧ Sub F F1 ∧ W m r, ⟨m0, F, r, k, Sub.refl _, w0⟩, ?_⟩
    rintro m s1 H1 ⟨F1, r1, k1, q1, w1⟩
    refine ⟨F1, r1, k1, _, turn m r1 w1, fun b r2 F2 H2 hb2 k2 q2 => ?_⟩
    have q12 := q1.trans q2
    cases b with
    | true =>
      refine iteT ?_
      refine ⟨fun s H => ∃ m', m' < m ∧ ∃ F1 r, Ok X.K e F1 r s H ∧ Sub F F1 ∧ W m' r, fun s' H' z => z, F2, r2, k2, _, hb2, ⟨?_, fun x r' v s' F' H' hr k' q' t => h.rt x r' v s' F' H' hr k' (q12.trans q') t, fun r' s' F' H' hn k' q' => h.nx r' s' F' H' hn k' (q12.trans q'), ?_⟩⟩
      · rintro r' s' F' H' ⟨m', lt, w'⟩ k' q'
        exact ⟨m', lt, F', r', k', q12.trans q', w'⟩
      · rintro r' s' F' H' ⟨m', lt, w'⟩ k' q'
        exact ⟨m', lt, F', r', k', q12.trans q', w'⟩
    | false =>
      refine iteF ?_
      exact h.nx r2 s1 F2 H2 hb2 k2 q12
end
end DL
namespace DL
open PySem L2 PyProof.Rows
/-! ### comprehensions -/
def wipeR (r : Rho) : List Nat → Rho
  | [] => r
  | v :: vs => (wipeR r vs).set v none
/-- the slots vs as they were in r0 -/
def backR (r r0 : Rho) : List Nat → Rho
  | [] => r
  | v :: vs => (backR r r0 vs).set v (r0.getD v none)
theorem wipeR_length (r : Rho) : ∀ vs : List Nat, (wipeR r vs).length = r.length
  | [] => rfl
  | v :: vs => by unfold wipeR; rw [List.length_set, wipeR_length r vs]
theorem backR_length (r r0 : Rho) : ∀ vs : List Nat, (backR r r0 vs).length = r.length
  | [] => rfl
  | v :: vs => by unfold backR; rw [List.length_set, backR_length r r0 vs]
theorem wipeR_get (r : Rho) : ∀ (vs : List Nat) (j : Nat), (wipeR r vs)[j]? = if j ∈ vs ∧ j < r.length then some none else r[j]?
  | [], j => by simp [wipeR]
  | v :: vs, j => by
    unfold wipeR
    have ih := wipeR_get r vs j
    by_cases q : v = j
    · subst q
      by_cases hl : v < r.length
      · rw [List.getElem?_set_self (by rw [wipeR_length]; exact hl), if_pos ⟨List.mem_cons_self, hl⟩]
      · rw [if_neg (fun z => hl z.2), List.getElem?_eq_none (by rw [List.length_set, wipeR_length]; omega), List.getElem?_eq_none (by omega)]
    · rw [List.getElem?_set_ne q, ih]
      have : j ∈ v :: vs ↔ j ∈ vs := by rw [List.mem_cons]; exact ⟨fun z => z.elim (fun y => absurd y.symm q) id, .inr⟩
      simp only [this]
theorem backR_get (r r0 : Rho) : ∀ (vs : List Nat) (j : Nat), (backR r r0 vs)[j]? = if j ∈ vs ∧ j < r.length then some (r0.getD j none) else r[j]?
  | [], j => by simp [backR]
  | v :: vs, j => by
    unfold backR
    have ih := backR_get r r0 vs j
    by_cases q : v = j
    · subst q
      by_cases hl : v < r.length
      · rw [List.getElem?_set_self (by rw [backR_length]; exact hl), if_pos ⟨List.mem_cons_self, hl⟩]
      · rw [if_neg (fun z => hl z.2), List.getElem?_eq_none (by rw [List.length_set, backR_length]; omega), List.getElem?_eq_none (by omega)]
    · rw [List.getElem?_set_ne q, ih]
      have : j ∈ v :: vs ↔ j ∈ vs := by rw [List.mem_cons]; exact ⟨fun z => z.elim (fun y => absurd y.symm q) id, .inr⟩
      simp only [this]
section
variable {K : Fg} {e : En} {F : Hp} {r : Rho} {s : L2.St} {H : Hp}
/-- slots are forgotten -/
theorem Ok.wipe (k : Ok K e F r s H) (vs : List Nat) : Ok K e F (wipeR r vs) (L2.wipe s vs) H where
  len := by rw [wipeR_length, wipe_length]; exact k.len
  sub := k.sub
  f0 := k.f0
  prot := k.prot
  new := k.new
  dom := k.dom
  slot := fun i d z => by
    rw [wipeR_get] at z
    split at z
    · cases z
    · rename_i q
      rw [wipe_get, ← k.len, if_neg q]
      exact k.slot i d z
  box := fun i b m z => by
    rw [wipeR_get] at z
    split at z
    · cases z
    · rename_i q
      rw [wipe_get, ← k.len, if_neg q]
      exact k.box i b m z
  scr := fun i ns z => by
    rw [wipeR_get] at z
    split at z
    · cases z
    · rename_i q
      rw [wipe_get, ← k.len, if_neg q]
      exact k.scr i ns z
  sep := fun i j p b m b' m' z1 z2 w1 w2 => by
    rw [wipeR_get] at z1 z2
    split at z1
    · cases z1
    · split at z2
      · cases z2
      · rename_i q1 q2
        rw [wipe_get, ← k.len, if_neg q1] at w1
        rw [wipe_get, ← k.len, if_neg q2] at w2
        exact k.sep i j p b m b' m' z1 z2 w1 w2
def noBox (r : Rho) (vs : List Nat) : Bool := vs.all fun v => match r.getD v none with
  | some (.box _ _) => false
  | some (.scr _) => false
  | _ => true
/-- slots come back -/
theorem Ok.back {F0 : Hp} {r0 : Rho} {H0 : Hp} {vs : List Nat} (k0 : Ok K e F0 r0 s H0) (nb : noBox r0 vs = true) (k : Ok K e F r (L2.wipe s vs) H) (q : Sub F0 F) : Ok K e F (backR r r0 vs) s H := by
  have hl : r.length = s.length := k.len.trans (wipe_length s vs)
  have nob : ∀ j ∈ vs, ∀ b m, r0.getD j none ≠ some (Ce.box b m) := fun j hj b m z => by
    have := (List.all_eq_true.mp nb) j hj
    rw [z] at this
    exact Bool.noConfusion this
  have hb : ∀ (j : Nat) b m, (backR r r0 vs)[j]? = some (some (Ce.box b m)) → ¬ (j ∈ vs ∧ j < r.length) ∧ r[j]? = some (some (Ce.box b m)) := fun j b m z => by
    rw [backR_get] at z
    split at z
    · rename_i y; exact absurd (Option.some.inj z) (nob j y.1 b m)
    · rename_i y; exact ⟨y, z⟩
  refine ⟨(backR_length r r0 vs).trans hl, k.sub, k.f0, k.prot, k.new, k.dom, ?_, ?_, ?_, ?_⟩
  · intro j d z
    rw [backR_get] at z
    split at z
    · rename_i y
      have z' : r0[j]? = some (some (Ce.val d)) := by
        have h1 := Option.some.inj z
        rw [List.getD_eq_getElem?_getD] at h1
        cases w : r0[j]? with
        | none => rw [w] at h1; cases h1
        | some u => rw [w] at h1; rw [show u = some (Ce.val d) from h1]
      obtain ⟨v, g1, g2⟩ := k0.slot j d z'
      exact ⟨v, g1, g2.mono q⟩
    · rename_i y
      obtain ⟨v, g1, g2⟩ := k.slot j d z
      rw [wipe_get, ← hl, if_neg y] at g1
      exact ⟨v, g1, g2⟩
  · intro j b m z
    obtain ⟨y, z⟩ := hb j b m z
    obtain ⟨p, o, g1, g2⟩ := k.box j b m z
    rw [wipe_get, ← hl, if_neg y] at g1
    exact ⟨p, o, g1, g2⟩
  · intro j ns z
    rw [backR_get] at z
    split at z
    · rename_i y
      have := (List.all_eq_true.mp nb) j y.1
      rw [Option.some.inj z] at this
      exact Bool.noConfusion this
    · rename_i y
      obtain ⟨a, g1, g2⟩ := k.scr j ns z
      rw [wipe_get, ← hl, if_neg y] at g1
      exact ⟨a, g1, g2⟩
  · intro i j p b m b' m' z1 z2 w1 w2
    obtain ⟨y1, z1⟩ := hb i b m z1
    obtain ⟨y2, z2⟩ := hb j b' m' z2
    refine k.sep i j p b m b' m' z1 z2 ?_ ?_
    · rw [wipe_get, ← hl, if_neg y1]; exact w1
    · rw [wipe_get, ← hl, if_neg y2]; exact w2
/-- one more thing that stays -/
def En.keep (e : En) (p : Addr) (o : HO) : En := ⟨e.F0, upd e.P p o, e.old, e.prm⟩
theorem Ok.keep {p : Addr} {o : HO} (k : Ok K e F r s H) (h : H p = some o) (hF : F p = none) (hb : ∀ (i : Nat) b m', r[i]? = some (some (Ce.box b m')) → s[i]? ≠ some (some (V.ref p))) : Ok K (e.keep p o) F r s H where
  len := k.len
  sub := k.sub
  f0 := k.f0
  prot := fun a u q => by
    by_cases z : a = p
    · subst z; rw [show (e.keep a o).P = upd e.P a o from rfl, upd_same] at q; cases q; exact h
    · rw [show (e.keep p o).P = upd e.P p o from rfl, upd_ne z] at q; exact k.prot a u q
  new := fun a u q => by
    by_cases z : a = p
    · subst z; rw [hF] at q; cases q
    · rw [show (e.keep p o).P = upd e.P p o from rfl, upd_ne z]; exact k.new a u q
  dom := k.dom
  slot := k.slot
  box := fun i b m z => by
    obtain ⟨q, u, g1, g2, g3, g4, g5, g6⟩ := k.box i b m z
    have ne : q ≠ p := fun y => by subst y; exact hb i b m z g1
    exact ⟨q, u, g1, g2, g3, g4, by rw [show (e.keep p o).P = upd e.P p o from rfl, upd_ne ne]; exact g5, g6⟩
  scr := k.scr
  sep := k.sep
theorem Ok.unkeep {p : Addr} {o : HO} (k : Ok K (e.keep p o) F r s H) (hP : e.P p = none) (hF0 : e.F0 p = none) : Ok K e F r s H ∧ H p = some o ∧ F p = none ∧ ∀ (i : Nat) b m', r[i]? = some (some (Ce.box b m')) → s[i]? ≠ some (some (V.ref p)) := by
  have hp : (e.keep p o).P p = some o := upd_same
  have hF : F p = none := by
    cases q : F p with
    | none => rfl
    | some u =>
      rcases k.new p u q with z | z
      · rw [show (e.keep p o).F0 = e.F0 from rfl, hF0] at z; cases z
      · rw [hp] at z; cases z
  refine ⟨⟨k.len, k.sub, k.f0, fun a u q => ?_, fun a u q => ?_, k.dom, k.slot, fun i b m z => ?_, k.scr, k.sep⟩, k.prot p o hp, hF, fun i b m z y => ?_⟩
  · refine k.prot a u ?_
    rw [show (e.keep p o).P = upd e.P p o from rfl, upd_ne (ne_of_none q hP)]
    exact q
  · rcases k.new a u q with z | z
    · exact .inl z
    · by_cases y : a = p
      · subst y; rw [hp] at z; cases z
      · rw [show (e.keep p o).P = upd e.P p o from rfl, upd_ne y] at z; exact .inr z
  · obtain ⟨q, u, g1, g2, g3, g4, g5, g6⟩ := k.box i b m z
    have ne : q ≠ p := fun y => by subst y; rw [hp] at g5; cases g5
    exact ⟨q, u, g1, g2, g3, g4, by rw [show (e.keep p o).P = upd e.P p o from rfl, upd_ne ne] at g5; exact g5, g6⟩
  · obtain ⟨q, u, g1, _, _, _, g5, _⟩ := k.box i b m z
    rw [y] at g1; cases g1
    rw [hp] at g5; cases g5
/-- what is kept is changed -/
theorem Ok.rekeep {p : Addr} {o o' : HO} (k : Ok K (e.keep p o) F r s H) (hP : e.P p = none) (hF0 : e.F0 p = none) : Ok K (e.keep p o') F r s (upd H p o') := by
  obtain ⟨k1, g1, g2, g3⟩ := k.unkeep hP hF0
  have k2 : Ok K e F r s (upd H p o') := by
    refine ⟨k1.len, fun a u q => ?_, k1.f0, fun a u q => ?_, k1.new, fun a z => ?_, k1.slot, fun i b m z => ?_, k1.scr, k1.sep⟩
    · rw [upd_ne (ne_of_none q g2)]; exact k1.sub a u q
    · rw [upd_ne (ne_of_none q hP)]; exact k1.prot a u q
    · by_cases y : a = p
      · subst y; rw [upd_same]; simp
      · rw [upd_ne y]; exact k1.dom a z
    · obtain ⟨q, u, w1, w2, w3⟩ := k1.box i b m z
      have ne : q ≠ p := fun y => by subst y; exact g3 i b m z w1
      exact ⟨q, u, w1, by rw [upd_ne ne]; exact w2, w3⟩
  exact k2.keep upd_same g2 g3
end
def lcM (vs : List Nat) (g : GT) (tt : MT) (te : ME) (P : List D → Rho → Prop) : List D → List D → Rho → Prop
  | [], acc, r => P acc r
  | d :: ds, acc, r => onS (g d r) fun r1 => tt r1 fun b r2 => brK b (te r2 fun x r3 => onP (hold r3 x.tmp) fun qa qb => Rq (acc.length < sizeLine) (strict (wipeR qb vs) fun r4 => lcM vs g tt te P ds (acc ++ [qa]) r4)) (strict (wipeR r2 vs) fun r4 => lcM vs g tt te P ds acc r4)
/-- a comprehension: here a proof speaks -/
structure Lc (vs : List Nat) (g : GT) (tt : MT) (te : ME) (P : List D → Rho → Prop) (ds acc : List D) (r : Rho) : Prop where
  h : lcM vs g tt te P ds acc r
def mLc (vs : List Nat) (mi : MI) (g : GT) (tt : MT) (te : ME) : ME := fun r P => mi r fun ds r1 => rqB (noBox r1 vs) (strict (wipeR r1 vs) fun r0 => Lc vs g tt te (fun acc r2 => strict (backR r2 r1 vs) fun r3 => P (.own (.L acc)) r3) ds [] r0)
def bYes : MT := fun r P => P true r
def DTs (X : Cx) (ifs : List Expr) (m : MT) : Prop := ∀ e, PTs X ifs (TB X.K e m)
theorem PTs.imp {X : Cx} {a : List Expr} {t u : TT} (h : PTs X a t) (i : ∀ s H Q, u s H Q → t s H Q) : PTs X a u := ⟨fun pins s σ H Q I q => h.run pins s σ H Q I (i _ _ _ q)⟩
section
variable {X : Cx} {elt tg iter c : Expr} {ifs : List Expr} {scope : Scope} {own : List (Str × Nat)} {pos : Pos} {mi : MI} {g : GT} {tt : MT} {te : ME} {vs : List Nat}
theorem dts_nil : DTs X [] bYes := fun e => PTs.imp pts_nil fun s H Q ⟨F, r, k, P, hm, hP⟩ => hP _ r F H hm k (Sub.refl F)
theorem dts_one (h : DT X c tt) : DTs X [c] tt := fun e => pts_one (h e)
theorem lc_read {e : En} (hvs : vs = own.map (·.2)) {s : L2.St} {H : Hp} {Q : VK} (h : T X.K e (mLc vs mi g tt te) s H Q) :
    ∀ (tg' : TG) (tt' : TT) (te' : TE), (∀ e', ∀ v s H Q, TGt X.K e' vs g v s H Q → tg' v s H Q) → (∀ e', ∀ s H Q, TB X.K e' tt s H Q → tt' s H Q) → (∀ e', ∀ s H Q, Tt X.K e' (mTmp te) s H Q → te' s H Q) → tLc (TIt X.K e mi) tg' tt' te' (own.map (·.2)) s H Q := by
  intro tg' tt' te' i1 i2 i3
  rw [← hvs]
  obtain ⟨F, r, k, P, hm, hP⟩ := h
  refine ⟨F, r, k, _, hm, fun ds r1 F1 H1 J hx k1 q1 ok p hp => ?_⟩
  obtain ⟨nb, hx2⟩ := rqB.ex hx
  have hl := hx2.ex.h
  clear hx hx2
  have fr := k1.free hp
  have hF0 : e.F0 p = none := by
    cases q : e.F0 p with
    | none => rfl
    | some u => rw [k1.f0 p u q] at fr; cases fr.1
  have nb1 := k1.nobox hp
  refine ⟨fun i m H => ∃ F r xs acc, Ok X.K (e.keep p (.lst xs)) F r (wipe s vs) H ∧ Sub F1 F ∧ RpA X.K F xs acc ∧ i ≤ ds.length ∧ m = ds.length - i ∧ lcM vs g tt te (fun acc r2 => strict (backR r2 r1 vs) fun r3 => P (.own (.L acc)) r3) (ds.drop i) acc r, ?_, ?_⟩
  · have kw : Ok X.K e F1 (wipeR r1 vs) (wipe s vs) (upd H1 p (.lst [])) := (k1.wipe vs).alloc hp
    exact ⟨_, F1, _, [], [], kw.keep upd_same fr.1 ((k1.wipe vs).nobox hp), Sub.refl _, .nil, Nat.zero_le _, rfl, by rw [List.drop_zero]; exact hl⟩
  · rintro i m H2 ⟨F2, r2, xs, acc, k2, q2, ra, hi, rfl, hl2⟩
    by_cases hn : i < ds.length
    · refine .inr ⟨ok.go i H2 (q2.trans k2.sub) hn, fun H => ∃ F r xs acc, Ok X.K (e.keep p (.lst xs)) F r (wipe s vs) H ∧ Sub F1 F ∧ RpA X.K F xs acc ∧ lcM vs g tt te (fun acc r2 => strict (backR r2 r1 vs) fun r3 => P (.own (.L acc)) r3) (ds.drop (i + 1)) acc r, fun H3 ⟨F3, r3, xs3, acc3, k3, q3, ra3, hl3⟩ => ⟨_, by omega, F3, r3, xs3, acc3, k3, q3, ra3, hn, rfl, hl3⟩, fun x H3 hy => ?_⟩
      obtain ⟨d, ed, F3, k3, q3, rp⟩ := ok.yld i H2 x H3 hy _ F2 r2 _ k2 q2 hn
      rw [drop_cons ed] at hl2
      obtain ⟨r4, eg, hb4⟩ := onS.ex hl2
      refine i1 _ _ _ _ _ ⟨F3, r2, d, r4, k3, rp, eg, fun s5 F5 H5 k5 q5 w5 => ⟨w5.trans ?_, i2 _ _ _ _ ⟨F5, r4, k5, _, hb4, fun b r6 F6 H6 hb6 k6 q6 => ?_⟩⟩⟩
      · apply List.ext_getElem?
        intro j
        rw [wipe_get, wipe_get, wipe_length]
        split <;> rfl
      · have ww : wipe s5 vs = wipe s vs := w5.trans (by
          apply List.ext_getElem?
          intro j
          rw [wipe_get, wipe_get, wipe_length]
          split <;> rfl)
        have q16 : Sub F1 F6 := ((q2.trans q3).trans q5).trans q6
        have q26 : Sub F2 F6 := (q3.trans q5).trans q6
        cases b with
        | false =>
          have hb6 := strict.ex hb6
          refine iteF ?_
          refine ⟨F6, _, xs, acc, ?_, q16, ra.mono q26, hb6⟩
          rw [← ww]
          exact k6.wipe vs
        | true =>
          refine iteT ?_
          refine i3 _ _ _ _ ⟨F6, r6, k6, fun x r3 => onP (hold r3 x) fun qa qb => Rq (acc.length < sizeLine) (strict (wipeR qb vs) fun r4 => lcM vs g tt te (fun acc r2 => strict (backR r2 r1 vs) fun r3 => P (.own (.L acc)) r3) (ds.drop (i + 1)) (acc ++ [qa]) r4), hb6, fun y r7 v7 F7 H7 hx7 k7 q7 t7 => ?_⟩
          obtain ⟨d', r8, eh, hx8⟩ := onP.ex hx7
          have hz := Rq.c hx8
          have hl8 := (Rq.a hx8).ex
          obtain ⟨F8, k8, q8, rp8⟩ := t7.hold k7 eh
          obtain ⟨_, g1, _, _⟩ := k8.unkeep fr.2.1 hF0
          have q28 : Sub F2 F8 := (q26.trans q7).trans q8
          refine ⟨xs, g1, by rw [ra.length]; exact hz, F8, _, xs ++ [v7], acc ++ [d'], ?_, (q16.trans q7).trans q8, (ra.mono q28).append (.cons rp8 .nil), hl8⟩
          rw [← ww]
          exact (k8.rekeep fr.2.1 hF0).wipe vs
    · have e0 : i = ds.length := by omega
      subst e0
      rw [List.drop_length] at hl2
      obtain ⟨k3, g1, g2, g3⟩ := k2.unkeep fr.2.1 hF0
      have kb := k1.back nb k3 q2
      refine .inl ⟨ok.stop _ H2 (q2.trans k2.sub) (Nat.le_refl _), hP _ _ _ F2 H2 (strict.ex hl2) kb (q1.trans q2) (.own g1 (.L ra) g2 fr.2.1 fr.2.2 fun j b m' z y => ?_)⟩
      rw [backR_get] at z
      split at z
      · rename_i yy
        have := (List.all_eq_true.mp nb) j yy.1
        rw [Option.some.inj z] at this
        exact Bool.noConfusion this
      · rename_i yy
        refine g3 j b m' z ?_
        rw [wipe_get, ← (k2.len.trans (wipe_length s vs)), if_neg yy]
        exact y
theorem de_lc (hc : X.calm = true) (hN : X.N.Nodup) (hi : DI X tg iter mi) (ok : BlkOk X.N X.env.scope scope own)
    (hg : ∀ (s : Shared) (H : Hp) (C : Addr) (cl : List (Str × Addr)) (fp : List Addr), DG (X.blk s H scope (compEnvC scope cl C X.env) fp) tg (own.map (·.2)) g) (ht : ∀ (s : Shared) (H : Hp) (C : Addr) (cl : List (Str × Addr)) (fp : List Addr), DTs (X.blk s H scope (compEnvC scope cl C X.env) fp) ifs tt)
    (he : ∀ (s : Shared) (H : Hp) (C : Addr) (cl : List (Str × Addr)) (fp : List Addr), DE (X.blk s H scope (compEnvC scope cl C X.env) fp) elt te) (hs : ∀ x, foldedSetIterable iter X.env x = pure x := by intro _; rfl) :
    DE X (.ListComp elt [⟨tg, iter, ifs, 0⟩] scope pos) (mLc (own.map (·.2)) mi g tt te) := fun e => by
  refine PE.imp (pe_lc (g := fun v s H Q => ∃ e', TGt X.K e' (own.map (·.2)) g v s H Q) (tt := fun s H Q => ∃ e', TB X.K e' tt s H Q) (te := fun s H Q => ∃ e', Tt X.K e' (mTmp te) s H Q) hc hN (hi e) ok
    (fun s H C cl fp => ⟨fun pins s σ H v u Q I r ⟨e', q⟩ => (hg _ _ C cl fp e').run pins s σ H v u Q I r q⟩) (fun s H C cl fp => ⟨fun pins s σ H Q I ⟨e', q⟩ => (ht _ _ C cl fp e').run pins s σ H Q I q⟩) (fun s H C cl fp => ⟨fun pins s σ H Q I ⟨e', q⟩ => ((he _ _ C cl fp).tmp e').run pins s σ H Q I q⟩) hs) ?_
  exact fun s H Q h => lc_read rfl h _ _ _ (fun e' _ _ _ _ q => ⟨e', q⟩) (fun e' _ _ _ q => ⟨e', q⟩) fun e' _ _ _ q => ⟨e', q⟩
end
end DL
namespace DL
open PySem L2 PyProof.Rows
/-! ### defs: contracts over data -/
/-- an argument -/
inductive Ar where
  | val (d : D) | box (m : MB) | scr (ns : List Int)
/-- a contract: the arguments; what is wanted of the answer and of the arguments behind -/
abbrev Ct := List Ar → (R → List Ar → Prop) → Prop
inductive ArOk (K : Fg) (F H : Hp) : Ar → V → Prop
  | val {v : V} {d : D} : Rp K F v d → ArOk K F H (.val d) v
  | box {p : Addr} {o : HO} {m : MB} : H p = some o → MO K F o m → F p = none → ArOk K F H (.box m) (.ref p)
  | scr {a : Addr} {ns : List Int} : SqL K F a (ns.map V.int) → ArOk K F H (.scr ns) (.ref a)
inductive ArsOk (K : Fg) (F H : Hp) : List Ar → List V → Prop
  | nil : ArsOk K F H [] []
  | cons {a : Ar} {v : V} {as : List Ar} {vs : List V} : ArOk K F H a v → ArsOk K F H as vs → ArsOk K F H (a :: as) (v :: vs)
/-- p is the address of a box among the arguments -/
def IsBox (as : List Ar) (vs : List V) (p : Addr) : Prop := ∃ (i : Nat) (m : MB), as[i]? = some (.box m) ∧ vs[i]? = some (.ref p)
/-- no two boxes are one -/
def Apart (as : List Ar) (vs : List V) : Prop := ∀ (i j : Nat) p m m', as[i]? = some (Ar.box m) → as[j]? = some (Ar.box m') → vs[i]? = some (V.ref p) → vs[j]? = some (V.ref p) → i = j
theorem ArsOk.get {K : Fg} {F H : Hp} : ∀ {as : List Ar} {vs : List V} {i : Nat} {a : Ar}, ArsOk K F H as vs → as[i]? = some a → ∃ v, vs[i]? = some v ∧ ArOk K F H a v
  | _, _, _, _, .nil, e => by simp at e
  | _, _, 0, _, .cons h _, e => by simp at e; subst e; exact ⟨_, rfl, h⟩
  | _, _, i + 1, a, .cons _ r, e => by
    obtain ⟨v, e1, h⟩ := ArsOk.get (i := i) (a := a) r (by simpa using e)
    exact ⟨v, by simpa using e1, h⟩
theorem ArsOk.length {K : Fg} {F H : Hp} : ∀ {as : List Ar} {vs : List V}, ArsOk K F H as vs → as.length = vs.length
  | _, _, .nil => rfl
  | _, _, .cons _ r => by rw [List.length_cons, List.length_cons, ArsOk.length r]
/-- the answer of a call: what stood at its entry is H -/
inductive ReOk (K : Fg) (F' H H' : Hp) : R → V → Prop
  | val {v : V} {d : D} : Rp K F' v d → ReOk K F' H H' (.val d) v
  | own {p : Addr} {o : HO} {m : MB} : H p = none → H' p = some o → MO K F' o m → F' p = none → ReOk K F' H H' (.own m) (.ref p)
/-- what a call has done -/
structure Did (K : Fg) (F H : Hp) (as : List Ar) (vs : List V) (F' H' : Hp) (as' : List Ar) : Prop where
  sub : Sub F F'
  subH : Sub F' H'
  new : ∀ a o, F' a = some o → F a = some o ∨ H a = none
  keep : ∀ a o, H a = some o → ¬ IsBox as vs a → H' a = some o
  dom : ∀ a, H a ≠ none → H' a ≠ none
  len : as'.length = as.length
  box : ∀ (i : Nat) m p, as[i]? = some (.box m) → vs[i]? = some (.ref p) → ∃ m' o, as'[i]? = some (.box m') ∧ H' p = some o ∧ MO K F' o m' ∧ F' p = none
def spD (K : Fg) (n : Nat) (c : Ct) : Sp := fun vs H Q _ => ∃ F as, vs.length = n ∧ Sub F H ∧ ArsOk K F H as vs ∧ Apart as vs ∧ ∃ P, c as P ∧ ∀ x as' v F' H', P x as' → Did K F H as vs F' H' as' → ReOk K F' H H' x v → Q v H'
structure FnD (P : Program) (w : World) (K : Fg) (mg : Str → Option Value) (base : Heap) (k : Nat) (f : Addr) (fd : FuncData) (ps : List Str) (c : Ct) : Prop where
  run : ∀ (A : Around) (outer : List Env) (s : Shared) (H : Hp) (args : Args) (us : List Value) (vs : List V) (Q : VK) (E : XK), Room k A → A.guards = some [] → Env0 P w K mg base A outer s H → BindsTo s fd args (ps.zip us) → Vals vs us → spD K ps.length c vs H Q E →
    codeAny (model P w) A (.call (.ref f) args) (CR CX0 outer P w H s Q E) s
theorem FnD.mono {P : Program} {w : World} {K : Fg} {mg : Str → Option Value} {base : Heap} {j k : Nat} {f : Addr} {fd : FuncData} {ps : List Str} {c : Ct} (F : FnD P w K mg base j f fd ps c) (h : j ≤ k) : FnD P w K mg base k f fd ps c :=
  ⟨fun A outer s H args us vs Q E hr => F.run A outer s H args us vs Q E (hr.mono h)⟩
/-- a stronger contract -/
theorem FnD.imp {P : Program} {w : World} {K : Fg} {mg : Str → Option Value} {base : Heap} {k : Nat} {f : Addr} {fd : FuncData} {ps : List Str} {c c' : Ct} (F : FnD P w K mg base k f fd ps c) (h : ∀ as P, c' as P → c as P) : FnD P w K mg base k f fd ps c' :=
  ⟨fun A outer s H args us vs Q E hr hg he hb hv ⟨G, as, h1, h2, h3, h4, P, h5, h6⟩ => F.run A outer s H args us vs Q E hr hg he hb hv ⟨G, as, h1, h2, h3, h4, P, h _ _ h5, h6⟩⟩

/-! ### the entry -/
def cellOf : Ar → Ce
  | .val d => .val d
  | .box m => .box true m
  | .scr ns => .scr ns
def startR (n : Nat) (as : List Ar) : Rho := as.map (fun a => some (cellOf a)) ++ List.replicate (n - as.length) none
open Classical in
noncomputable def enOf (F H : Hp) (as : List Ar) (vs : List V) : En := ⟨F, fun a => if IsBox as vs a then none else H a, fun a => H a ≠ none, fun i => match as[i]?, vs[i]? with
  | some (.box _), some (.ref p) => some p
  | _, _ => none⟩
theorem startR_get {n : Nat} {as : List Ar} {i : Nat} {c : Ce} (h : (startR n as)[i]? = some (some c)) : ∃ a, as[i]? = some a ∧ c = cellOf a := by
  unfold startR at h
  by_cases hi : i < as.length
  · rw [List.getElem?_append_left (by simpa using hi), List.getElem?_map, List.getElem?_eq_getElem hi] at h
    exact ⟨_, List.getElem?_eq_getElem hi, (Option.some.inj (Option.some.inj h)).symm⟩
  · rw [List.getElem?_append_right (by simpa using hi), List.getElem?_replicate] at h
    split at h <;> cases h
theorem start_get {N : List Str} {vs : List V} {i : Nat} {v : V} (h : vs[i]? = some v) : (start N vs)[i]? = some (some v) := by
  unfold L2.start
  have hi := (List.getElem?_eq_some_iff.mp h).1
  rw [List.getElem?_append_left (by simpa using hi), List.getElem?_map, h]
  rfl
theorem start_of {N : List Str} {vs : List V} {i : Nat} {v : V} (h : (start N vs)[i]? = some (some v)) : vs[i]? = some v := by
  unfold L2.start at h
  by_cases hi : i < vs.length
  · rw [List.getElem?_append_left (by simpa using hi), List.getElem?_map] at h
    cases q : vs[i]? with
    | none => rw [q] at h; cases h
    | some u => rw [q] at h; cases h; rfl
  · rw [List.getElem?_append_right (by simpa using hi), List.getElem?_replicate] at h
    split at h <;> cases h
section
variable {K : Fg} {F H : Hp} {as : List Ar} {vs : List V} {N : List Str}
theorem Ok.start (hs : Sub F H) (ha : ArsOk K F H as vs) (hp : Apart as vs) : Ok K (enOf F H as vs) F (startR N.length as) (L2.start N vs) H where
  len := by
    unfold startR L2.start
    rw [List.length_append, List.length_append, List.length_map, List.length_map, List.length_replicate, List.length_replicate, ha.length]
  sub := hs
  f0 := Sub.refl F
  prot := fun a o q => by
    simp only [enOf] at q
    split at q
    · cases q
    · exact q
  new := fun a o q => .inl q
  dom := fun a z => z
  slot := fun i d z => by
    obtain ⟨a, e1, e2⟩ := startR_get z
    cases a with
    | val d' =>
      cases e2
      obtain ⟨v, g1, g2⟩ := ha.get e1
      cases g2 with | val rp => exact ⟨v, start_get g1, rp⟩
    | box m => cases e2
    | scr ns => cases e2
  box := fun i b m z => by
    obtain ⟨a, e1, e2⟩ := startR_get z
    cases a with
    | val d' => cases e2
    | scr ns => cases e2
    | box m' =>
      cases e2
      obtain ⟨v, g1, g2⟩ := ha.get e1
      cases g2 with
      | @box p o _ h1 h2 h3 =>
        refine ⟨p, o, start_get g1, h1, h2, h3, if_pos ⟨i, _, e1, g1⟩, fun z => Bool.noConfusion z, fun _ => ?_⟩
        simp only [enOf, e1, g1]
  scr := fun i ns z => by
    obtain ⟨a, e1, e2⟩ := startR_get z
    cases a with
    | val d' => cases e2
    | box m => cases e2
    | scr ns' =>
      cases e2
      obtain ⟨v, g1, g2⟩ := ha.get e1
      cases g2 with | scr h => exact ⟨_, start_get g1, h⟩
  sep := fun i j p b m b' m' z1 z2 w1 w2 => by
    obtain ⟨a, e1, e2⟩ := startR_get z1
    obtain ⟨a', e3, e4⟩ := startR_get z2
    cases a with
    | val d' => cases e2
    | scr ns => cases e2
    | box m1 =>
      cases a' with
      | val d' => cases e4
      | scr ns => cases e4
      | box m2 => exact hp i j p _ _ e1 e3 (start_of w1) (start_of w2)
end
/-! ### the answer -/
def retOf (r : Rho) : R → Option R
  | .val d => some (.val d)
  | .own m => some (.own m)
  | .bor i => match r[i]? with
    | some (some (.box false m)) => some (.own m)
    | _ => none
  | .scr _ => none
/-- the arguments behind: the boxes as they are now -/
def endArs : Nat → List Ar → Rho → Option (List Ar)
  | _, [], _ => some []
  | i, .box _ :: as, r => match r[i]?, endArs (i + 1) as r with
    | some (some (.box true m)), some as' => some (.box m :: as')
    | _, _ => none
  | i, a :: as, r => (endArs (i + 1) as r).map (a :: ·)
theorem endArs_get : ∀ {as as' : List Ar} {j : Nat} {r : Rho}, endArs j as r = some as' → as'.length = as.length ∧ ∀ (i : Nat) m, as[i]? = some (Ar.box m) → ∃ m', as'[i]? = some (.box m') ∧ r[j + i]? = some (some (.box true m'))
  | [], as', j, r, h => by cases h; exact ⟨rfl, fun i m z => by simp at z⟩
  | .box m0 :: as, as', j, r, h => by
    simp only [endArs] at h
    split at h
    · rename_i m1 as1 e1 e2
      cases h
      obtain ⟨l, q⟩ := endArs_get e2
      refine ⟨by rw [List.length_cons, List.length_cons, l], fun i m z => ?_⟩
      cases i with
      | zero => exact ⟨m1, rfl, e1⟩
      | succ i =>
        obtain ⟨m', g1, g2⟩ := q i m (by simpa using z)
        exact ⟨m', by simpa using g1, by rw [← g2]; congr 1; omega⟩
    · cases h
  | .val d :: as, as', j, r, h => by
    simp only [endArs, Option.map_eq_some_iff] at h
    obtain ⟨as1, e2, rfl⟩ := h
    obtain ⟨l, q⟩ := endArs_get e2
    refine ⟨by rw [List.length_cons, List.length_cons, l], fun i m z => ?_⟩
    cases i with
    | zero => simp at z
    | succ i =>
      obtain ⟨m', g1, g2⟩ := q i m (by simpa using z)
      exact ⟨m', by simpa using g1, by rw [← g2]; congr 1; omega⟩
  | .scr d :: as, as', j, r, h => by
    simp only [endArs, Option.map_eq_some_iff] at h
    obtain ⟨as1, e2, rfl⟩ := h
    obtain ⟨l, q⟩ := endArs_get e2
    refine ⟨by rw [List.length_cons, List.length_cons, l], fun i m z => ?_⟩
    cases i with
    | zero => simp at z
    | succ i =>
      obtain ⟨m', g1, g2⟩ := q i m (by simpa using z)
      exact ⟨m', by simpa using g1, by rw [← g2]; congr 1; omega⟩
section
variable {K : Fg} {F H F' H' : Hp} {as as' : List Ar} {vs : List V} {r : Rho} {s : L2.St}
theorem Ok.did (hs : Sub F H) (ha : ArsOk K F H as vs) (k : Ok K (enOf F H as vs) F' r s H') (q : endArs 0 as r = some as') : Did K F H as vs F' H' as' := by
  obtain ⟨hl, hb⟩ := endArs_get q
  have bx : ∀ (i : Nat) m p, as[i]? = some (Ar.box m) → vs[i]? = some (V.ref p) → ∃ m' o, as'[i]? = some (.box m') ∧ H' p = some o ∧ MO K F' o m' ∧ F' p = none := fun i m p e1 e2 => by
    obtain ⟨m', g1, g2⟩ := hb i m e1
    rw [Nat.zero_add] at g2
    obtain ⟨p', o, w1, w2, w3, w4, w5, w6, w7⟩ := k.box i true m' g2
    have e := w7 rfl
    simp only [enOf, e1, e2] at e
    cases e
    exact ⟨m', o, g1, w2, w3, w4⟩
  refine ⟨k.f0, k.sub, fun a o z => ?_, fun a o z nb => ?_, fun a z => k.dom a z, hl, bx⟩
  · rcases k.new a o z with y | y
    · exact .inl y
    · simp only [enOf] at y
      split at y
      · rename_i ib
        obtain ⟨i, m, e1, e2⟩ := ib
        obtain ⟨_, _, _, _, _, w⟩ := bx i m a e1 e2
        rw [w] at z; cases z
      · exact .inr y
  · refine k.prot a o ?_
    simp only [enOf]
    rw [if_neg nb]
    exact z
theorem RR.ret {x x' : R} {v : V} (h : RR K (enOf F H as vs) F' r s H' x v) (k : Ok K (enOf F H as vs) F' r s H') (q : retOf r x = some x') : ReOk K F' H H' x' v := by
  cases h with
  | val a => cases q; exact .val a
  | own h1 h2 h3 h4 h5 h6 =>
    cases q
    exact .own (Classical.byContradiction fun z => h5 z) h1 h2 h3
  | bor a b =>
    simp only [retOf] at q
    split at q
    · rename_i m z
      cases q
      obtain ⟨p, o, g1, g2, g3, g4, g5, g6, g7⟩ := k.box _ _ _ z
      rw [a] at g1; cases g1
      exact .own (Classical.byContradiction fun z => g6 rfl z) g2 g3 g4
    · cases q
  | scr a => cases q
end
/-- what a body does, as a contract -/
def ctOf (n : Nat) (m : MS) : Ct := fun as P => strict (startR n as) fun r => m r ⟨fun r => onO (endArs 0 as r) fun as' => P (.val .none) as', fun x r => onO (retOf r x) fun x' => onO (endArs 0 as r) fun as' => P x' as', fun _ => False, fun _ => False⟩
section
variable {P : Program} {w : World} {K : Fg} {mg : Str → Option Value} {base : Heap}
/-- THE RULE: a def by its body -/
theorem fnd_of {k : Nat} {f : Addr} {name qual : Str} {params : Arguments} {body : List Stmt} {scope : Scope} {dV kV doc pm cdv ct oc : Value} {an od : Option Addr} {osl : Array (Option Value)} {N ps : List Str} {m : MS}
    (lk : K.lookup f = some ⟨oc, od, .func (PySem.W.fnOf name qual params body scope dV kV doc pm an cdv ct), osl⟩) (hcd : PySem.W.codeIn K cdv qual = true) (S : FnScope N ps scope)
    (hbody : ∀ (A : Around) (outer : List Env) (s : Shared) (H : Hp) (E : XK), Room k (A.deeper (envOfC qual scope s.heap.objs.size f cdv)) → A.guards = some [] → DSs (cxOf CX0 P w K mg base N qual scope f cdv A outer s H E).nox body m) :
    FnD P w K mg base (k + 1) f (PySem.W.fnOf name qual params body scope dV kV doc pm an cdv ct) ps (ctOf N.length m) := by
  refine ⟨fun A outer s H args us vs Q E hr hgu e0 hb r ⟨F, as, hl, hs, ha, hap, Pp, hc, hP⟩ => ?_⟩
  have KX : K.In s.heap := e0.mod.kin.keeps fun b o e => (e0.bs b o e).1
  have lim : s.heap.NoLimit := e0.mod.nolimit.keeps fun b o e => (e0.bs b o e).1
  have hkind : ∀ y ∈ ps.zip us, scope.names.lookup y.1 = some .local ∨ (scope.names.lookup y.1 = some .cell ∧ ((cellsFrom (s.heap.objs.size + 1) scope.names []).lookup y.1).isSome = true) := by
    rintro ⟨n, v⟩ hy
    rcases S.par n (List.of_mem_zip hy).1 with q | q
    · exact .inl q
    · exact .inr ⟨q, PySem.W.cellsFrom_some _ _ _ (.inl q)⟩
  refine codeAny_call_function hr.depth (KX _ _ lk) rfl S.co S.gen rfl (PySem.W.codeRec_of KX hcd) (hb _ _ _ _ (wpAny_newFunctionEnv_cells S.kind hkind ?_))
  rintro env rfl s1 x
  refine ⟨lim.keeps x.toInCall.keep, codeAny_func ?_⟩
  have I : L2.Inv (cxOf CX0 P w K mg base N qual scope f cdv A outer s H E) [] (L2.start N vs) H s1 := inv_start S hr.hd e0 hl r x
  have ok : Ok K (enOf F H as vs) F (startR N.length as) (L2.start N vs) H := Ok.start hs ha hap
  have hit : TSt K (enOf F H as vs) m { nx := fun _ H' => Q .non H', rt := Q } (L2.start N vs) H := by
    refine ⟨F, _, ok, _, hc.ex, ⟨?_, ?_, fun _ _ _ _ z => z.elim, fun _ _ _ _ z => z.elim⟩⟩
    · intro r' s' F' H' hx k' q'
      obtain ⟨as', ea, hp⟩ := onO.ex hx
      exact hP _ as' _ F' H' hp (k'.did hs ha ea) (.val .non)
    · intro y r' v s' F' H' hx k' q' t
      obtain ⟨y', er, hx2⟩ := onO.ex hx
      obtain ⟨as', ea, hp⟩ := onO.ex hx2
      exact hP _ as' _ F' H' hp (k'.did hs ha ea) (t.ret k' er)
  have run := ((hbody A outer s H E (hr.deeper _) hgu (enOf F H as vs)).nox).run [] s1 (L2.start N vs) H _ I hit
  refine wpAny_mono run (fun fl s' z => ?_) fun _ _ z => z
  cases fl with
  | ret u =>
    obtain ⟨v, σ', H', J, rv, q⟩ := z
    exact ⟨v, H', J.os, J.bare, J.base, J.hok, rv, q⟩
  | next =>
    obtain ⟨σ', H', J, q⟩ := z
    exact ⟨.non, H', J.os, J.bare, J.base, J.hok, rfl, q⟩
  | brk => obtain ⟨_, _, _, q⟩ := z; exact q.elim
  | cont => obtain ⟨_, _, _, q⟩ := z; exact q.elim
end
end DL
namespace DL
open PySem L2 PyProof.Rows
/-! ### the call of a def -/
def arOf (r : Rho) : R → Option Ar
  | .val d => some (.val d)
  | .own m => some (.val m.toD)
  | .bor i => match r[i]? with
    | some (some (.box _ m)) => some (.box m)
    | _ => none
  | .scr ns => some (.scr ns)
def arsOf (r : Rho) : List R → Option (List Ar)
  | [] => some []
  | x :: xs => match arOf r x, arsOf r xs with
    | some a, some as => some (a :: as)
    | _, _ => none
/-- the slots whose boxes are handed in -/
def borSlots : List R → List Nat
  | [] => []
  | .bor i :: xs => i :: borSlots xs
  | _ :: xs => borSlots xs
/-- no box is handed in twice -/
def once : List Nat → Bool
  | [] => true
  | i :: is => !is.contains i && once is
/-- the boxes behind the call -/
def backArs : Rho → List R → List Ar → Option Rho
  | r, [], [] => some r
  | r, .bor i :: xs, .box m :: as => match r[i]? with
    | some (some (.box b _)) => backArs (r.set i (some (.box b m))) xs as
    | _ => none
  | r, .val _ :: xs, _ :: as => backArs r xs as
  | r, .own _ :: xs, _ :: as => backArs r xs as
  | r, .scr _ :: xs, _ :: as => backArs r xs as
  | _, _, _ => none
/-- a call: here a proof speaks -/
structure Cl (c : Ct) (as : List Ar) (K : R → List Ar → Prop) : Prop where
  h : c as K
def mFn (c : Ct) (ms : MA) : ME := fun r P => ms r fun xs r1 => rqB (once (borSlots xs)) (onO (arsOf r1 xs) fun as => Cl c as fun x as' => onS (backArs r1 xs as') fun r2 => P x r2)
theorem borSlots_mem : ∀ {xs : List R} {j i : Nat}, xs[j]? = some (.bor i) → i ∈ borSlots xs
  | [], _, _, h => by simp at h
  | .bor i' :: xs, 0, i, h => by simp at h; subst h; exact List.mem_cons_self
  | .bor i' :: xs, j + 1, i, h => List.mem_cons_of_mem _ (borSlots_mem (by simpa using h))
  | .val _ :: xs, 0, i, h => by simp at h
  | .own _ :: xs, 0, i, h => by simp at h
  | .scr _ :: xs, 0, i, h => by simp at h
  | .val _ :: xs, j + 1, i, h => borSlots_mem (xs := xs) (by simpa using h)
  | .own _ :: xs, j + 1, i, h => borSlots_mem (xs := xs) (by simpa using h)
  | .scr _ :: xs, j + 1, i, h => borSlots_mem (xs := xs) (by simpa using h)
theorem once_apart : ∀ {xs : List R}, once (borSlots xs) = true → ∀ {j j' i : Nat}, xs[j]? = some (.bor i) → xs[j']? = some (.bor i) → j = j'
  | [], _, _, _, _, h, _ => by simp at h
  | .bor i' :: xs, hn, j, j', i, h, h' => by
    simp only [borSlots, once, Bool.and_eq_true, Bool.not_eq_true', List.contains_eq_mem, decide_eq_false_iff_not] at hn
    cases j with
    | zero =>
      cases j' with
      | zero => rfl
      | succ j' =>
        simp at h; subst h
        exact absurd (borSlots_mem (by simpa using h')) hn.1
    | succ j =>
      cases j' with
      | zero =>
        simp at h'; subst h'
        exact absurd (borSlots_mem (by simpa using h)) hn.1
      | succ j' => exact congrArg (· + 1) (once_apart (i := i) hn.2 (by simpa using h) (by simpa using h'))
  | .val _ :: xs, hn, j, j', i, h, h' => by
    cases j with
    | zero => simp at h
    | succ j => cases j' with
      | zero => simp at h'
      | succ j' => exact congrArg (· + 1) (once_apart (xs := xs) (i := i) hn (by simpa using h) (by simpa using h'))
  | .own _ :: xs, hn, j, j', i, h, h' => by
    cases j with
    | zero => simp at h
    | succ j => cases j' with
      | zero => simp at h'
      | succ j' => exact congrArg (· + 1) (once_apart (xs := xs) (i := i) hn (by simpa using h) (by simpa using h'))
  | .scr _ :: xs, hn, j, j', i, h, h' => by
    cases j with
    | zero => simp at h
    | succ j => cases j' with
      | zero => simp at h'
      | succ j' => exact congrArg (· + 1) (once_apart (xs := xs) (i := i) hn (by simpa using h) (by simpa using h'))
section
variable {K : Fg} {e : En} {F H : Hp} {r : Rho} {s : L2.St}
theorem RTs.get {xs : List R} {vs : List V} (t : RTs K F s xs vs) : ∀ {j : Nat} {x : R}, xs[j]? = some x → ∃ v, vs[j]? = some v ∧ RT K F s x v := by
  induction t with
  | nil => intro j x h; simp at h
  | cons a _ ih =>
    intro j x h
    cases j with
    | zero => simp at h; subst h; exact ⟨_, rfl, a⟩
    | succ j => obtain ⟨v, g1, g2⟩ := ih (by simpa using h); exact ⟨v, by simpa using g1, g2⟩
theorem RTs.ars {xs : List R} {vs : List V} {as : List Ar} (t : RTs K F s xs vs) (k : Ok K e F r s H) (q : arsOf r xs = some as) : ArsOk K F H as vs ∧ ∀ (j : Nat) m, as[j]? = some (Ar.box m) → ∃ i b, xs[j]? = some (.bor i) ∧ r[i]? = some (some (.box b m)) := by
  induction t generalizing as with
  | nil => cases q; exact ⟨.nil, fun j m z => by simp at z⟩
  | @cons x v xs vs a _ ih =>
    simp only [arsOf] at q
    split at q
    · rename_i a' as' e1 e2
      cases q
      obtain ⟨h1, h2⟩ := ih e2
      cases a with
      | val rp =>
        cases e1
        exact ⟨.cons (.val rp) h1, fun j m z => by
          cases j with
          | zero => simp at z
          | succ j => obtain ⟨i, b, g1, g2⟩ := h2 j m (by simpa using z); exact ⟨i, b, by simpa using g1, g2⟩⟩
      | scr rp =>
        cases e1
        exact ⟨.cons (.scr rp) h1, fun j m z => by
          cases j with
          | zero => simp at z
          | succ j => obtain ⟨i, b, g1, g2⟩ := h2 j m (by simpa using z); exact ⟨i, b, by simpa using g1, g2⟩⟩
      | @bor i _ g =>
        simp only [arOf] at e1
        split at e1
        · rename_i b m z
          cases e1
          obtain ⟨p, o, w1, w2, w3, w4, _⟩ := k.box _ _ _ z
          rw [g] at w1; cases w1
          exact ⟨.cons (.box w2 w3 w4) h1, fun j m' z' => by
            cases j with
            | zero => simp at z'; subst z'; exact ⟨i, b, rfl, z⟩
            | succ j => obtain ⟨i', b', g1, g2⟩ := h2 j m' (by simpa using z'); exact ⟨i', b', by simpa using g1, g2⟩⟩
        · cases e1
    · cases q
/-- the cells behind a call -/
theorem backArs_get : ∀ {xs : List R} {as' : List Ar} {r r2 : Rho}, once (borSlots xs) = true → backArs r xs as' = some r2 → r2.length = r.length ∧ (∀ i, i ∉ borSlots xs → r2[i]? = r[i]?) ∧
    (∀ (j i : Nat), xs[j]? = some (.bor i) → ∃ b m m', r[i]? = some (some (.box b m)) ∧ as'[j]? = some (.box m') ∧ r2[i]? = some (some (.box b m')))
  | [], as', r, r2, _, h => by
    cases as' with
    | nil => cases h; exact ⟨rfl, fun _ _ => rfl, fun j i z => by simp at z⟩
    | cons => cases h
  | .bor i :: xs, as', r, r2, hn, h => by
    cases as' with
    | nil => cases h
    | cons a as' =>
      cases a with
      | val => cases h
      | scr => cases h
      | box m' =>
        simp only [backArs] at h
        split at h
        · rename_i b m z
          simp only [borSlots, once, Bool.and_eq_true, Bool.not_eq_true', List.contains_eq_mem, decide_eq_false_iff_not] at hn
          obtain ⟨l, g1, g2⟩ := backArs_get hn.2 h
          have hi : i < r.length := (List.getElem?_eq_some_iff.mp z).1
          refine ⟨by rw [l, List.length_set], fun i' hi' => ?_, fun j i' e => ?_⟩
          · simp only [borSlots, List.mem_cons, not_or] at hi'
            rw [g1 i' hi'.2, List.getElem?_set_ne (Ne.symm hi'.1)]
          · cases j with
            | zero =>
              simp at e; subst e
              exact ⟨b, m, m', z, rfl, by rw [g1 i hn.1, List.getElem?_set_self hi]⟩
            | succ j =>
              obtain ⟨b1, m1, m1', w1, w2, w3⟩ := g2 j i' (by simpa using e)
              have ne : i ≠ i' := fun q => by subst q; exact hn.1 (borSlots_mem (by simpa using e))
              rw [List.getElem?_set_ne ne] at w1
              exact ⟨b1, m1, m1', w1, by simpa using w2, w3⟩
        · cases h
  | .val _ :: xs, as', r, r2, hn, h => by
    cases as' with
    | nil => cases h
    | cons a as' =>
      obtain ⟨l, g1, g2⟩ := backArs_get (xs := xs) hn (by simpa only [backArs] using h)
      exact ⟨l, g1, fun j i' e => by
        cases j with
        | zero => simp at e
        | succ j => obtain ⟨b1, m1, m1', w1, w2, w3⟩ := g2 j i' (by simpa using e); exact ⟨b1, m1, m1', w1, by simpa using w2, w3⟩⟩
  | .own _ :: xs, as', r, r2, hn, h => by
    cases as' with
    | nil => cases h
    | cons a as' =>
      obtain ⟨l, g1, g2⟩ := backArs_get (xs := xs) hn (by simpa only [backArs] using h)
      exact ⟨l, g1, fun j i' e => by
        cases j with
        | zero => simp at e
        | succ j => obtain ⟨b1, m1, m1', w1, w2, w3⟩ := g2 j i' (by simpa using e); exact ⟨b1, m1, m1', w1, by simpa using w2, w3⟩⟩
  | .scr _ :: xs, as', r, r2, hn, h => by
    cases as' with
    | nil => cases h
    | cons a as' =>
      obtain ⟨l, g1, g2⟩ := backArs_get (xs := xs) hn (by simpa only [backArs] using h)
      exact ⟨l, g1, fun j i' e => by
        cases j with
        | zero => simp at e
        | succ j => obtain ⟨b1, m1, m1', w1, w2, w3⟩ := g2 j i' (by simpa using e); exact ⟨b1, m1, m1', w1, by simpa using w2, w3⟩⟩
theorem borSlots_ix : ∀ {xs : List R} {i : Nat}, i ∈ borSlots xs → ∃ j : Nat, xs[j]? = some (R.bor i)
  | [], _, h => by simp [borSlots] at h
  | .bor i' :: xs, i, h => by
    rcases List.mem_cons.mp h with rfl | h
    · exact ⟨0, rfl⟩
    · obtain ⟨j, q⟩ := borSlots_ix h; exact ⟨j + 1, by simpa using q⟩
  | .val _ :: xs, i, h => by obtain ⟨j, q⟩ := borSlots_ix (xs := xs) h; exact ⟨j + 1, by simpa using q⟩
  | .own _ :: xs, i, h => by obtain ⟨j, q⟩ := borSlots_ix (xs := xs) h; exact ⟨j + 1, by simpa using q⟩
  | .scr _ :: xs, i, h => by obtain ⟨j, q⟩ := borSlots_ix (xs := xs) h; exact ⟨j + 1, by simpa using q⟩
theorem call_ok {xs : List R} {vs : List V} {as as' : List Ar} {F' H' : Hp} {r2 : Rho} (t : RTs K F s xs vs) (k : Ok K e F r s H) (ho : once (borSlots xs) = true) (q : arsOf r xs = some as) (d : Did K F H as vs F' H' as') (qb : backArs r xs as' = some r2) :
    Ok K e F' r2 s H' := by
  obtain ⟨ha, hb⟩ := t.ars k q
  obtain ⟨hl, g1, g2⟩ := backArs_get ho qb
  -- a box of r2 is a box of r
  have bx : ∀ (i : Nat) b m, r2[i]? = some (some (Ce.box b m)) → ∃ m0, r[i]? = some (some (Ce.box b m0)) := fun i b m z => by
    by_cases hi : i ∈ borSlots xs
    · obtain ⟨j, ej⟩ := borSlots_ix hi
      obtain ⟨b1, m1, m1', w1, w2, w3⟩ := g2 j i ej
      rw [w3] at z
      cases z
      exact ⟨m1, w1⟩
    · rw [g1 i hi] at z; exact ⟨m, z⟩
  have nf : ∀ p o, H p = some o → F p = none → F' p = none := fun p o h1 h2 => by
    cases w : F' p with
    | none => rfl
    | some u =>
      rcases d.new p u w with y | y
      · rw [h2] at y; cases y
      · rw [h1] at y; cases y
  -- the address of a handed box
  have ib : ∀ p, IsBox as vs p → ∃ (j i : Nat) (m : MB) (b : Bool), as[j]? = some (.box m) ∧ vs[j]? = some (.ref p) ∧ xs[j]? = some (.bor i) ∧ r[i]? = some (some (.box b m)) ∧ s[i]? = some (some (.ref p)) := fun p ⟨j, m, e1, e2⟩ => by
    obtain ⟨i, b, e3, e4⟩ := hb j m e1
    obtain ⟨v, w1, w2⟩ := t.get e3
    rw [e2] at w1; cases w1
    cases w2 with | bor w2 => exact ⟨j, i, m, b, e1, e2, e3, e4, w2⟩
  refine ⟨hl.trans k.len, d.subH, k.f0.trans d.sub, fun a o z => ?_, fun a o z => ?_, fun a z => d.dom a (k.dom a z), fun i v z => ?_, fun i b m z => ?_, fun i ns z => ?_, fun i j p b m b' m' z1 z2 w1 w2 => ?_⟩
  · refine d.keep a o (k.prot a o z) fun y => ?_
    obtain ⟨_, i, m, b, _, _, _, e4, e5⟩ := ib a y
    obtain ⟨p, _, w1, _, _, _, w5, _⟩ := k.box i b m e4
    rw [e5] at w1; cases w1
    rw [z] at w5; cases w5
  · rcases d.new a o z with y | y
    · exact k.new a o y
    · refine .inr ?_
      cases w : e.P a with
      | none => rfl
      | some u => rw [k.prot a u w] at y; cases y
  · have hi : i ∉ borSlots xs := fun hi => by
      obtain ⟨j, ej⟩ := borSlots_ix hi
      obtain ⟨_, _, _, _, _, w3⟩ := g2 j i ej
      rw [w3] at z; cases z
    rw [g1 i hi] at z
    obtain ⟨u, y1, y2⟩ := k.slot i v z
    exact ⟨u, y1, y2.mono d.sub⟩
  · by_cases hi : i ∈ borSlots xs
    · obtain ⟨j, ej⟩ := borSlots_ix hi
      obtain ⟨b1, m1, m1', w1, w2, w3⟩ := g2 j i ej
      rw [w3] at z
      cases z
      obtain ⟨p, o, y1, y2, y3, y4, y5, y6⟩ := k.box i b m1 w1
      obtain ⟨v, u1, u2⟩ := t.get ej
      cases u2 with | bor u2 =>
      rw [y1] at u2; cases u2
      have ej' : ∃ m2, as[j]? = some (.box m2) := by
        have hlen : j < as.length := by rw [ha.length]; exact (List.getElem?_eq_some_iff.mp u1).1
        have : ∀ {xs : List R} {as : List Ar} {j : Nat}, arsOf r xs = some as → xs[j]? = some (.bor i) → ∃ m2, as[j]? = some (.box m2) := by
          intro xs
          induction xs with
          | nil => intro as j _ h; simp at h
          | cons x xs ih =>
            intro as j h1 h2
            simp only [arsOf] at h1
            split at h1
            · rename_i a1 as1 f1 f2
              cases h1
              cases j with
              | zero =>
                simp at h2; subst h2
                simp only [arOf] at f1
                split at f1
                · cases f1; exact ⟨_, rfl⟩
                · cases f1
              | succ j => obtain ⟨m2, f3⟩ := ih f2 (by simpa using h2); exact ⟨m2, by simpa using f3⟩
            · cases h1
        exact this q ej
      obtain ⟨m2, ej'⟩ := ej'
      obtain ⟨m3, o3, f1, f2, f3, f4⟩ := d.box j m2 p ej' u1
      rw [w2] at f1; cases f1
      exact ⟨p, o3, y1, f2, f3, f4, y5, y6⟩
    · rw [g1 i hi] at z
      obtain ⟨p, o, y1, y2, y3, y4, y5, y6⟩ := k.box i b m z
      refine ⟨p, o, y1, d.keep p o y2 fun y => ?_, y3.mono d.sub, nf p o y2 y4, y5, y6⟩
      obtain ⟨j, i', m', b', _, _, e3, e4, e5⟩ := ib p y
      have := k.sep i i' p b m b' m' z e4 y1 e5
      subst this
      exact hi (borSlots_mem e3)
  · have hi : i ∉ borSlots xs := fun hi => by
      obtain ⟨j, ej⟩ := borSlots_ix hi
      obtain ⟨_, _, _, _, _, w3⟩ := g2 j i ej
      rw [w3] at z; cases z
    rw [g1 i hi] at z
    obtain ⟨u, y1, y2⟩ := k.scr i ns z
    exact ⟨u, y1, d.sub.sqL y2⟩
  · obtain ⟨_, y1⟩ := bx i b m z1
    obtain ⟨_, y2⟩ := bx j b' m' z2
    exact k.sep i j p _ _ _ _ y1 y2 w1 w2
theorem call_rr {xs : List R} {vs : List V} {as as' : List Ar} {F' H' : Hp} {r2 : Rho} {x : R} {v : V} (k : Ok K e F r s H) (ho : once (borSlots xs) = true) (qb : backArs r xs as' = some r2) (h : ReOk K F' H H' x v) : RR K e F' r2 s H' x v := by
  obtain ⟨hl, g1, g2⟩ := backArs_get ho qb
  cases h with
  | val a => exact .val a
  | @own p o m h1 h2 h3 h4 =>
    have fr := k.free h1
    refine .own h2 h3 h4 fr.2.1 fr.2.2 fun i b m' z y => ?_
    have : ∃ m0, r[i]? = some (some (Ce.box b m0)) := by
      by_cases hi : i ∈ borSlots xs
      · obtain ⟨j, ej⟩ := borSlots_ix hi
        obtain ⟨b1, m1, m1', w1, w2, w3⟩ := g2 j i ej
        rw [w3] at z
        cases z
        exact ⟨m1, w1⟩
      · rw [g1 i hi] at z; exact ⟨m', z⟩
    obtain ⟨m0, w⟩ := this
    exact k.nobox h1 i b m0 w y
end
end DL
namespace DL
open PySem L2 PyProof.Rows
/-! ### calls of defs, by places and by names -/
def TAk (X : Cx) (kws : List Keyword) (m : MA) : Prop := ∀ e, PK X kws (TAl X.K e m)
theorem PK.imp {X : Cx} {a : List Keyword} {t u : TA} (h : PK X a t) (i : ∀ s H Q, u s H Q → t s H Q) : PK X a u := ⟨fun pos pins s σ H Q I q => h.run pos pins s σ H Q I (i _ _ _ q)⟩
section
variable {X : Cx} {a : Expr} {es : List Expr} {ma : ME} {ms mk : MA} {kws : List Keyword} {nm : Option Str} {kpos : Pos}
theorem dk_nil : TAk X [] aNil := fun e => PK.imp pk_nil fun s H Q ⟨F, r, k, P, hm, hP⟩ => hP _ r _ F H hm k (Sub.refl F) .nil
theorem dk_cons (ha : DE X a ma) (hr : TAk X kws ms) : TAk X (⟨nm, a, kpos⟩ :: kws) (aCons ma ms) := fun e =>
  PK.imp (pk_cons (ha.tmp e) (hr e)) fun s H Q ⟨F, r, k, P, hm, hP⟩ => ⟨F, r, k, fun x r1 => ms r1 fun xs r2 => P (x :: xs) r2, hm, fun x r1 v F1 H1 hx k1 q1 t1 =>
    ⟨F1, r1, k1, _, hx, fun xs r2 vs F2 H2 hxs k2 q2 t2 => hP _ r2 _ F2 H2 hxs k2 (q1.trans q2) (.cons (t1.mono q2) t2)⟩⟩
end
/-- how a call binds: n values by places, those named ks by names; G puts them, and the defaults, in the parameters' order -/
structure Bd (K : Fg) (fd : FuncData) (ps : List Str) (n : Nat) (ks : List Str) (G : List R → List R → List R) : Prop where
  ex : ∃ (g : List Value → List Value → List Value) (gV : List V → List V → List V), KBn K fd ps n ks g gV ∧ (∀ vs zs, vs.length = n → zs.length = ks.length → (gV vs zs).length = ps.length) ∧
    ∀ (F : Hp) (s : L2.St) xs vs zs ws, RTs K F s xs vs → RTs K F s zs ws → vs.length = n → ws.length = ks.length → RTs K F s (G xs zs) (gV vs ws)
theorem RTs.length {K : Fg} {F : Hp} {s : L2.St} {xs : List R} {vs : List V} (t : RTs K F s xs vs) : xs.length = vs.length := by
  induction t with
  | nil => rfl
  | cons _ _ ih => rw [List.length_cons, List.length_cons, ih]
theorem RTs.append {K : Fg} {F : Hp} {s : L2.St} {xs ys : List R} {vs us : List V} (t : RTs K F s xs vs) (u : RTs K F s ys us) : RTs K F s (xs ++ ys) (vs ++ us) := by
  induction t with
  | nil => exact u
  | cons a _ ih => exact .cons a ih
/-- data that stand by themselves -/
inductive Flat : V → D → Prop
  | non : Flat .non .none
  | bl (b : Bool) : Flat (.bl b) (.bool b)
  | int (i : Int) : Flat (.int i) (.int i)
  | str (x : Str) : Flat (.str x) (.str x)
theorem Flat.rp {K : Fg} {F : Hp} {v : V} {d : D} (h : Flat v d) : Rp K F v d := by
  cases h with
  | non => exact .non
  | bl b => exact .bl b
  | int i => exact .int i
  | str x => exact .str x
inductive Flats : List V → List D → Prop
  | nil : Flats [] []
  | cons {v : V} {d : D} {vs : List V} {ds : List D} : Flat v d → Flats vs ds → Flats (v :: vs) (d :: ds)
theorem Flats.rts {K : Fg} {F : Hp} {s : L2.St} {vs : List V} {ds : List D} (h : Flats vs ds) : RTs K F s (ds.map R.val) vs := by
  induction h with
  | nil => exact .nil
  | cons a _ ih => exact .cons (.val a.rp) ih
/-- by places, the rest by defaults -/
theorem Bd.of {K : Fg} {fd : FuncData} {ps : List Str} {n : Nat} {dvs : List V} {dds : List D} {ds : List Value} (hb : Binds K fd ps ds) (hd : Vals dvs ds) (hf : Flats dvs dds) (hn : n + dvs.length = ps.length) : Bd K fd ps n [] (fun xs _ => xs ++ dds.map R.val) := by
  refine ⟨fun us _ => us ++ ds, fun vs _ => vs ++ dvs, ⟨fun s us ws KX h1 h2 => ?_, fun r _ => r.append hd⟩, fun vs zs h1 h2 => ?_, fun F s xs vs zs ws t _ _ _ => t.append hf.rts⟩
  · have hl : (us ++ ds).length = ps.length := by rw [List.length_append, h1, ← hd.length]; exact hn
    exact hb s us KX hl
  · rw [List.length_append, h1, hn]
theorem Bd.ofK {K : Fg} {fd : FuncData} {ps ks : List Str} {n : Nat} {g : List Value → List Value → List Value} {gV : List V → List V → List V} {G : List R → List R → List R} (hb : KBn K fd ps n ks g gV) (hl : ∀ vs zs, vs.length = n → zs.length = ks.length → (gV vs zs).length = ps.length)
    (h : ∀ (F : Hp) (s : L2.St) xs vs zs ws, RTs K F s xs vs → RTs K F s zs ws → vs.length = n → ws.length = ks.length → RTs K F s (G xs zs) (gV vs ws)) : Bd K fd ps n ks G := ⟨g, gV, hb, hl, h⟩
def mFnK (c : Ct) (G : List R → List R → List R) (n m : Nat) (ms mk : MA) : ME := mFn c fun r P => ms r fun xs r1 => mk r1 fun zs r2 => rqB (decide (xs.length = n) && decide (zs.length = m)) (P (G xs zs) r2)
section
variable {X : Cx} {a : Expr} {es : List Expr} {ma : ME} {ms mk : MA} {kws : List Keyword} {k n : Nat} {f : Addr} {fd : FuncData} {ps ks : List Str} {c : Ct} {x : Str} {p pos : Pos} {G : List R → List R → List R}
theorem run_fnd {pins : List (Addr × Obj)} {σ : L2.St} {H : Hp} {s : Shared} {Q : VK} {us ws : List Value} {vs zs : List V} {g : List Value → List Value → List Value} {gV : List V → List V → List V} (F : FnD X.prog X.w X.K X.mg X.base k f fd ps c) (hr : Room k X.A) (hgu : X.A.guards = some []) (hb : KBn X.K fd ps n ks g gV)
    (I : L2.Inv X pins σ H s) (r : Vals vs us) (rz : Vals zs ws) (l1 : vs.length = n) (l2 : zs.length = ks.length) (h : spD X.K ps.length c (gV vs zs) H Q E0) : wpAny (model X.prog X.w) X.A (call (.ref f) us (ks.zip ws)) (EP X pins σ Q) X.xe s := by
  refine wpAny_call (codeAny_mono (F.run X.A X.stack s H ⟨us, ks.zip ws⟩ (g us ws) (gV vs zs) Q E0 hr hgu I.env0 (hb.to s us ws I.kIn (r.length.symm.trans l1) (rz.length.symm.trans l2)) (hb.rel r rz) h) fun y s' hq => ?_)
  cases y with
  | error e => exact False.elim hq
  | ok fl =>
    cases fl with
    | ret u => exact I.after hq
    | next => exact False.elim hq
    | brk => exact False.elim hq
    | cont => exact False.elim hq
theorem fn_read {e : En} {gV : List V → List V → List V} (hl : ∀ vs zs, vs.length = n → zs.length = ks.length → (gV vs zs).length = ps.length) (hG : ∀ (F : Hp) (s : L2.St) xs vs zs ws, RTs X.K F s xs vs → RTs X.K F s zs ws → vs.length = n → ws.length = ks.length → RTs X.K F s (G xs zs) (gV vs ws))
    {s : L2.St} {H : Hp} {Q : VK} (h : T X.K e (mFnK c G n ks.length ms mk) s H Q) : (TAl X.K e ms) s H fun vs H1 => (TAl X.K e mk) s H1 fun zs H2 => vs.length = n ∧ zs.length = ks.length ∧ spD X.K ps.length c (gV vs zs) H2 Q E0 := by
  obtain ⟨F, r, k, P, hm, hP⟩ := h
  refine ⟨F, r, k, _, hm, fun xs r1 vs F1 H1 hx k1 q1 t1 => ⟨F1, r1, k1, _, hx, fun zs r2 ws F2 H2 hz k2 q2 t2 => ?_⟩⟩
  obtain ⟨nn, hz2⟩ := rqB.ex hz
  rw [Bool.and_eq_true, decide_eq_true_eq, decide_eq_true_eq] at nn
  obtain ⟨n1, n2⟩ := nn
  obtain ⟨ho, hz3⟩ := rqB.ex hz2
  obtain ⟨as, ea, hz4⟩ := onO.ex hz3
  have hc := hz4.h
  have l1 : vs.length = n := t1.length.symm.trans n1
  have l2 : ws.length = ks.length := t2.length.symm.trans n2
  have t := hG F2 s xs vs zs ws (t1.mono q2) t2 l1 l2
  obtain ⟨ha, hb⟩ := t.ars k2 ea
  refine ⟨l1, l2, F2, as, hl _ _ l1 l2, k2.sub, ha, ?_, _, hc, fun x as' v F' H' hx d re => by
    obtain ⟨r3, eb, hp⟩ := onS.ex hx
    exact hP x r3 v F' H' hp (call_ok t k2 ho ea d eb) ((q1.trans q2).trans d.sub) (call_rr (as := as) (vs := gV vs ws) k2 ho eb re)⟩
  intro i j p m m' e1 e2 e3 e4
  obtain ⟨i1, b1, g1, g2⟩ := hb i m e1
  obtain ⟨i2, b2, g3, g4⟩ := hb j m' e2
  obtain ⟨v1, u1, u2⟩ := t.get g1
  obtain ⟨v2, u3, u4⟩ := t.get g3
  rw [e3] at u1; cases u1
  rw [e4] at u3; cases u3
  cases u2 with | bor u2 =>
  cases u4 with | bor u4 =>
  have := k2.sep i1 i2 p _ _ _ _ g2 g4 u2 u4
  subst this
  exact once_apart ho g1 g3
theorem de_fn (F : FnD X.prog X.w X.K X.mg X.base k f fd ps c) (hr : Room k X.A) (hgu : X.A.guards = some []) (hg : Gl X x) (hm : X.mg x = some (.ref f)) (hk : PySem.W.keepIn X.K (.ref f) = true) (hb : Bd X.K fd ps n [] G)
    (ha : DA X (a :: es) ms) (hdb : (x == ("__debug__" : Str)) = false := by decide) (he : starEach (a :: es) X.env = (false, eval a X.env) :: starEach es X.env := by rfl) (hpl : (backTo pos (starEach es X.env)).any (·.1) = false := by rfl) :
    DE X (.Call (.Name x p) (a :: es) [] pos) (mFnK c G n 0 ms aNil) := fun e => by
  obtain ⟨g, gV, hB, hl, hG⟩ := hb.ex
  refine ⟨fun pins s σ H Q I h => wpAny_Call_Name_kw (ld_glob I hg hm (PySem.W.callWith_K (h₀ := X.base) I.ok.mod.kin hk (thn ((ha e).run pos pins s σ H _ I (fn_read (ks := []) hl hG h)) ?_) he hpl) hdb)⟩
  rintro us s1 ⟨vs, H1, I1, r, q⟩
  obtain ⟨F1, r1, k1, P1, hm1, h1⟩ := q
  obtain ⟨l1, l2, q2⟩ := h1 _ r1 [] F1 H1 hm1 k1 (Sub.refl _) .nil
  exact ⟨I1.kIn, run_fnd F hr hgu hB I1 r .nil l1 rfl q2⟩
theorem de_fn0 (F : FnD X.prog X.w X.K X.mg X.base k f fd ps c) (hr : Room k X.A) (hgu : X.A.guards = some []) (hg : Gl X x) (hm : X.mg x = some (.ref f)) (hk : PySem.W.keepIn X.K (.ref f) = true) (hb : Bd X.K fd ps 0 [] G) (hdb : (x == ("__debug__" : Str)) = false := by decide) :
    DE X (.Call (.Name x p) [] [] pos) (mFnK c G 0 0 aNil aNil) := fun e => by
  obtain ⟨g, gV, hB, hl, hG⟩ := hb.ex
  refine ⟨fun pins s σ H Q I h => wpAny_Call_Name_kw (ld_glob I hg hm (PySem.W.callWith_K0 I.kIn hk ?_) hdb)⟩
  obtain ⟨F0, r0, k0, P0, hm0, h0⟩ := fn_read (ks := []) hl hG h
  obtain ⟨F1, r1, k1, P1, hm1, h1⟩ := h0 _ r0 [] F0 H hm0 k0 (Sub.refl _) .nil
  obtain ⟨l1, l2, q2⟩ := h1 _ r1 [] F1 H hm1 k1 (Sub.refl _) .nil
  exact run_fnd (us := []) (ws := []) F hr hgu hB I .nil .nil l1 rfl q2
theorem de_fnK (F : FnD X.prog X.w X.K X.mg X.base k f fd ps c) (hr : Room k X.A) (hgu : X.A.guards = some []) (hg : Gl X x) (hm : X.mg x = some (.ref f)) (hk : PySem.W.keepIn X.K (.ref f) = true) (hb : Bd X.K fd ps n ks G)
    (ha : DA X (a :: es) ms) (hkw : TAk X kws mk) (hall : (backToKw pos (keywordEach kws X.env)).all (·.1.isSome) = true := by rfl) (hks : (backToKw pos (keywordEach kws X.env)).filterMap (·.1) = ks := by rfl)
    (hdb : (x == ("__debug__" : Str)) = false := by decide) (he : starEach (a :: es) X.env = (false, eval a X.env) :: starEach es X.env := by rfl)
    (hpl : ((backTo pos (starEach (a :: es) X.env)).any (·.1) || (backToKw pos (keywordEach kws X.env)).any (·.1.isNone)) = false := by rfl) : DE X (.Call (.Name x p) (a :: es) kws pos) (mFnK c G n ks.length ms mk) := fun e => by
  obtain ⟨g, gV, hB, hl, hG⟩ := hb.ex
  refine ⟨fun pins s σ H Q I h => wpAny_Call_Name_kw (ld_glob I hg hm (PySem.W.callWith_KW (h₀ := X.base) I.ok.mod.kin hk hall (thn ((ha e).run pos pins s σ H _ I (fn_read hl hG h)) ?_) hpl he) hdb)⟩
  rintro us s1 ⟨vs, H1, I1, r, q⟩
  refine thn ((hkw e).run pos pins s1 σ H1 _ I1 q) ?_
  rintro ws s2 ⟨zs, H2, I2, rz, l1, l2, q2⟩
  refine ⟨I2.kIn, ?_⟩
  rw [hks]
  exact run_fnd F hr hgu hB I2 r rz l1 l2 q2
theorem de_fnK0 (F : FnD X.prog X.w X.K X.mg X.base k f fd ps c) (hr : Room k X.A) (hgu : X.A.guards = some []) (hg : Gl X x) (hm : X.mg x = some (.ref f)) (hk : PySem.W.keepIn X.K (.ref f) = true) (hb : Bd X.K fd ps 0 ks G)
    (hkw : TAk X kws mk) (hall : (backToKw pos (keywordEach kws X.env)).all (·.1.isSome) = true := by rfl) (hks : (backToKw pos (keywordEach kws X.env)).filterMap (·.1) = ks := by rfl)
    (hdb : (x == ("__debug__" : Str)) = false := by decide)
    (hpl : ((backTo pos (starEach [] X.env)).any (·.1) || (backToKw pos (keywordEach kws X.env)).any (·.1.isNone)) = false := by rfl) : DE X (.Call (.Name x p) [] kws pos) (mFnK c G 0 ks.length aNil mk) := fun e => by
  obtain ⟨g, gV, hB, hl, hG⟩ := hb.ex
  refine ⟨fun pins s σ H Q I h => wpAny_Call_Name_kw (ld_glob I hg hm (PySem.W.callWith_KW0 (h₀ := X.base) I.ok.mod.kin hk hall ?_ hpl) hdb)⟩
  obtain ⟨F0, r0, k0, P0, hm0, h0⟩ := fn_read hl hG h
  refine thn ((hkw e).run pos pins s σ H _ I (h0 _ r0 [] F0 H hm0 k0 (Sub.refl _) .nil)) ?_
  rintro ws s2 ⟨zs, H2, I2, rz, l1, l2, q2⟩
  refine ⟨I2.kIn, ?_⟩
  rw [hks]
  exact run_fnd (us := []) F hr hgu hB I2 .nil rz l1 l2 q2
end
/-! ### methods of a box: x.append(..) and its like; x stands in slot i -/
section
variable {X : Cx} {a : Expr} {es : List Expr} {ma : ME} {ms : MA} {x : Str} {p pos apos : Pos} {i : Nat}
/-- what a method does to a box's list -/
abbrev FM := List D → List D → Option (D × List D)
/-- a method of lists and what it does, told so that it runs -/
structure MtK where
  f : FM
  k : List D → List D → (D → List D → Prop) → Prop
  ok : ∀ ds as K, k ds as K → ∃ d ds', f ds as = some (d, ds') ∧ K d ds'
def isL (r : Rho) (i : Nat) : Bool := match r[i]? with
  | some (some (.box _ (.L _))) => true
  | _ => false
theorem isL_of {r : Rho} {i : Nat} (h : isL r i = true) : ∃ b ds, r[i]? = some (some (Ce.box b (.L ds))) := by
  unfold isL at h
  split at h
  · exact ⟨_, _, by assumption⟩
  · cases h
def bxL (r : Rho) (i : Nat) : Option (Bool × List D) := match r[i]? with
  | some (some (.box b (.L ds))) => some (b, ds)
  | _ => none
theorem bxL_of {r : Rho} {i : Nat} {q : Bool × List D} (h : bxL r i = some q) : r[i]? = some (some (.box q.1 (.L q.2))) := by
  unfold bxL at h
  split at h
  · rename_i e; cases h; exact e
  · cases h
def mMeth (i : Nat) (o : MtK) (ms : MA) : ME := fun r P => rqB (isL r i) (ms r fun xs r1 => onP (holds r1 xs) fun qa qb => onP (bxL qb i) fun ba bb => o.k bb qa fun d ds' => strict (qb.set i (some (.box ba (.L ds')))) fun r3 => P (.val d) r3)
def MetD (X : Cx) (id : String) (f : FM) : Prop := ∃ rr : V → List V → Hp → VK → Prop, MtR X id rr ∧ ∀ (F H : Hp) (p : Addr) (xs vs : List V) (ds as : List D) (d : D) (ds' : List D) (Q : VK), Sub F H → H p = some (.lst xs) → RpA X.K F xs ds → RpA X.K F vs as → f ds as = some (d, ds') →
  (∀ v xs', RpA X.K F xs' ds' → Rp X.K F v d → Q v (upd H p (.lst xs'))) → rr (.ref p) vs H Q
theorem meth_read {e : En} {o : MtK} {rr : V → List V → Hp → VK → Prop} (hq : ∀ (F H : Hp) (p : Addr) (xs vs : List V) (ds as : List D) (d : D) (ds' : List D) (Q : VK), Sub F H → H p = some (.lst xs) → RpA X.K F xs ds → RpA X.K F vs as → o.f ds as = some (d, ds') →
    (∀ v xs', RpA X.K F xs' ds' → Rp X.K F v d → Q v (upd H p (.lst xs'))) → rr (.ref p) vs H Q) {s : L2.St} {H : Hp} {Q : VK} (h : T X.K e (mMeth i o ms) s H Q) :
    ∃ v, s[i]? = some (some v) ∧ tyV X.K "list" v H ∧ TAl X.K e ms s H fun vs H2 => rr v vs H2 Q := by
  obtain ⟨F, r, k, P, hx, hP⟩ := h
  obtain ⟨hi, hm⟩ := rqB.ex hx
  obtain ⟨b, ds, hb⟩ := isL_of hi
  obtain ⟨p, ob, g1, g2, g3, _⟩ := k.box i b _ hb
  cases g3 with | L g3 =>
  refine ⟨.ref p, g1, .inl ⟨rfl, _, SqL.of g2⟩, F, r, k, _, hm, ?_⟩
  intro xs r1 vs F1 H1 hx1 k1 q1 t1
  obtain ⟨as, r2, eh, hx2⟩ := onP.ex hx1
  obtain ⟨b2, ds2, er', hx3⟩ := onP.ex hx2
  obtain ⟨d, ds', ef, hx4⟩ := o.ok _ _ _ hx3
  have er := bxL_of er'
  have hp := hx4.ex
  simp only at er ef hp
  obtain ⟨F2, k2, q2, ra⟩ := t1.holds k1 eh
  obtain ⟨p2, o2, w1, w2, w3, w4, w5, w6⟩ := k2.box i b2 _ er
  rw [g1] at w1; cases w1
  cases w3 with | L w3 =>
  exact hq F2 H1 p _ vs ds2 as d ds' Q k2.sub w2 w3 ra ef fun v xs' h1 h2 => hP _ _ v F2 _ hp (k2.write er g1 (.L h1)) (q1.trans q2) (.val h2)
theorem de_meth {id : String} {name : Str} {o : MtK} (hm : MetD X id o.f) (slot : Slot "list" name id) (hty : typeOf (.builtin id) = pure (.type "method_descriptor")) (hN : X.N[i]? = some x) (hv : Vis X.env.scope x) (ha : DA X (a :: es) ms)
    (hd : (x == ("__debug__" : Str)) = false := by decide) (hcd : (x == ("__classdict__" : Str)) = false := by decide) (hbase : attributeBase (.Name x p) name X.env (eval (.Name x p) X.env) = eval (.Name x p) X.env := by rfl)
    (hfew : ((backTo pos (starEach (a :: es) X.env)).all (fun x => !x.1) && (backToKw pos (keywordEach [] X.env)).all (fun x => x.1.isSome) && decide ((a :: es).length + ([] : List Keyword).length + (if ([] : List Keyword).isEmpty then 0 else 1) < 30)) = true := by rfl)
    (hline : (apos.endLine == pos.line) = true := by rfl) (hs : starEach (a :: es) X.env = (false, eval a X.env) :: starEach es X.env := by rfl) (hplain : (backTo pos (starEach es X.env)).any (·.1) = false := by rfl) : DE X (.Call (.Attribute (.Name x p) name apos) (a :: es) [] pos) (mMeth i o ms) := fun e => by
  obtain ⟨rr, hr, hq⟩ := hm
  exact PE.imp (pe_bm PySem.F.plainAttrs_list slot hty hr (pe_var hN hv hd hcd) (ha e) hbase hfew hline hs hplain) fun s H Q h => by
    obtain ⟨v, h1, h2, h3⟩ := meth_read hq h
    exact ⟨v, h1, h2, h3⟩
theorem de_meth0 {id : String} {name : Str} {o : MtK} (hm : MetD X id o.f) (slot : Slot "list" name id) (hty : typeOf (.builtin id) = pure (.type "method_descriptor")) (hN : X.N[i]? = some x) (hv : Vis X.env.scope x)
    (hd : (x == ("__debug__" : Str)) = false := by decide) (hcd : (x == ("__classdict__" : Str)) = false := by decide) (hbase : attributeBase (.Name x p) name X.env (eval (.Name x p) X.env) = eval (.Name x p) X.env := by rfl)
    (hline : (apos.endLine == pos.line) = true := by rfl) : DE X (.Call (.Attribute (.Name x p) name apos) [] [] pos) (mMeth i o aNil) := fun e => by
  obtain ⟨rr, hr, hq⟩ := hm
  exact PE.imp (pe_bm0 PySem.F.plainAttrs_list slot hty hr (pe_var hN hv hd hcd) hbase hline) fun s H Q h => by
    obtain ⟨v, h1, h2, F, r, k, P, hm, hP⟩ := meth_read hq h
    exact ⟨v, h1, h2, hP _ r [] F H hm k (Sub.refl F) .nil⟩
def fAppend : FM := fun ds as => match as with
  | [d] => if ds.length < sizeLine then some (.none, ds ++ [d]) else none
  | _ => none
theorem met_append : MetD X "list.append" fAppend := by
  refine ⟨_, mt_append, fun F H p xs vs ds as d ds' Q sb hp r1 r2 ef w => ?_⟩
  unfold fAppend at ef
  split at ef
  · split at ef
    · rename_i hz; cases ef
      cases r2 with | cons a b =>
      cases b
      exact ⟨p, xs, _, rfl, rfl, hp, by rw [r1.length]; exact hz, w _ _ (r1.append (.cons a .nil)) .non⟩
    · cases ef
  · cases ef
def rExtR : V → List V → Hp → VK → Prop := fun x vs H Q => ∃ l b xs zs, x = .ref l ∧ vs = [.ref b] ∧ H l = some (.lst xs) ∧ Rd H b (.lst zs) ∧ xs.length + zs.length ≤ sizeLine ∧ Q .non (upd H l (.lst (xs ++ zs)))
theorem mt_extendR : MtM X "list.extend" rExtR := by
  rintro pins s σ H _ _ v us Q I rx rv ⟨l, b, xs, zs, rfl, rfl, hH, hB, hz, q⟩
  cases rx
  obtain ⟨u, rfl, ru⟩ := rv.one
  cases ru
  obtain ⟨z, its, n, r, hl, e⟩ := I.lstM hH
  obtain ⟨_, i2, n2, r2, e2⟩ := rd_list hB I.hok
  have l2 := r2.length
  have hsz : its.toArray.size + i2.toArray.size ≤ sizeLine := by rw [List.size_toArray, List.size_toArray]; omega
  have hlong : ¬ (!its.toArray.isEmpty && Builtin.List.listTooLong (its.toArray.size + i2.toArray.size)) = true := by
    rw [notLongL hsz, Bool.and_false]; exact Bool.false_ne_true
  refine call_meets PySem.F.slot_list_extend ⟨_, e, rfl⟩ PySem.F.entry_list_extend (PySem.F.args_list_extend_2 _ _) (AutoSeq1.list_extend_list_list_0 l its.toArray n b i2.toArray n2 hlong (by rw [List.size_toArray]; omega) (by omega)) ⟨e, e2, ?_⟩
  exact ⟨.non, _, I.lset (its' := its ++ i2) hH e (by simp) (r.append r2) (by rw [List.length_append]; omega), rfl, q⟩
def fExtend : FM := fun ds as => match as with
  | [.list es] => if ds.length + es.length ≤ sizeLine then some (.none, ds ++ es) else none
  | _ => none
theorem met_extend : MetD X "list.extend" fExtend := by
  refine ⟨_, mt_extendR, fun F H p xs vs ds as d ds' Q sb hp r1 r2 ef w => ?_⟩
  unfold fExtend at ef
  split at ef
  · split at ef
    · rename_i hz; cases ef
      cases r2 with | cons a b =>
      cases b
      cases a with | lst g1 g2 => exact ⟨p, _, xs, _, rfl, rfl, hp, sb.rd g1, by rw [r1.length, g2.length]; exact hz, w _ _ (r1.append g2) .non⟩
    · cases ef
  · cases ef
def fClear : FM := fun ds as => match as with
  | [] => some (.none, [])
  | _ => none
theorem met_clear : MetD X "list.clear" fClear := by
  refine ⟨_, mt_clear, fun F H p xs vs ds as d ds' Q sb hp r1 r2 ef w => ?_⟩
  unfold fClear at ef
  split at ef
  · cases ef; cases r2; exact ⟨p, xs, rfl, rfl, hp, w _ _ .nil .non⟩
  · cases ef
def fReverse : FM := fun ds as => match as with
  | [] => some (.none, ds.reverse)
  | _ => none
theorem met_reverse : MetD X "list.reverse" fReverse := by
  refine ⟨_, mt_reverse, fun F H p xs vs ds as d ds' Q sb hp r1 r2 ef w => ?_⟩
  unfold fReverse at ef
  split at ef
  · cases ef; cases r2; exact ⟨p, xs, rfl, rfl, hp, w _ _ r1.rev .non⟩
  · cases ef
def fPop : FM := fun ds as => match as with
  | [] => match ds.getLast? with
    | some d => some (d, ds.dropLast)
    | none => none
  | _ => none
theorem RpA.last {K : Fg} {F : Hp} {vs : List V} {ds : List D} {d : D} (h : RpA K F vs ds) (q : ds.getLast? = some d) : ∃ v, vs[vs.length - 1]? = some v ∧ Rp K F v d ∧ RpA K F vs.dropLast ds.dropLast := by
  rw [List.getLast?_eq_getElem?] at q
  rw [← h.length] at q
  obtain ⟨v, e1, e2⟩ := h.getD q
  refine ⟨v, e1, e2, ?_⟩
  rw [List.dropLast_eq_take, List.dropLast_eq_take, h.length]
  exact h.take _
theorem met_pop : MetD X "list.pop" fPop := by
  refine ⟨_, mt_pop, fun F H p xs vs ds as d ds' Q sb hp r1 r2 ef w => ?_⟩
  unfold fPop at ef
  split at ef
  · split at ef
    · rename_i hd; cases ef; cases r2
      obtain ⟨v, e1, e2, e3⟩ := r1.last hd
      exact ⟨p, xs, v, rfl, rfl, hp, e1, w _ _ e3 e2⟩
    · cases ef
  · cases ef
end
/-! ### running -/
def kAppend (ds as : List D) (K : D → List D → Prop) : Prop := match as with
  | [d] => Rq (ds.length < sizeLine) (K .none (ds ++ [d]))
  | _ => False
def tAppend : MtK := ⟨fAppend, kAppend, fun ds as K h => by
  unfold kAppend at h
  split at h
  · exact ⟨_, _, rq_if h, Rq.a h⟩
  · exact h.elim⟩
def kExtend (ds as : List D) (K : D → List D → Prop) : Prop := match as with
  | [.list es] => Rq (ds.length + es.length ≤ sizeLine) (K .none (ds ++ es))
  | _ => False
def tExtend : MtK := ⟨fExtend, kExtend, fun ds as K h => by
  unfold kExtend at h
  split at h
  · exact ⟨_, _, rq_if h, Rq.a h⟩
  · exact h.elim⟩
def kClear (ds as : List D) (K : D → List D → Prop) : Prop := match as with
  | [] => K .none []
  | _ => False
def tClear : MtK := ⟨fClear, kClear, fun ds as K h => by
  unfold kClear at h
  split at h
  · exact ⟨_, _, rfl, h⟩
  · exact h.elim⟩
def kReverse (ds as : List D) (K : D → List D → Prop) : Prop := match as with
  | [] => K .none ds.reverse
  | _ => False
def tReverse : MtK := ⟨fReverse, kReverse, fun ds as K h => by
  unfold kReverse at h
  split at h
  · exact ⟨_, _, rfl, h⟩
  · exact h.elim⟩
def kPop (ds as : List D) (K : D → List D → Prop) : Prop := match as with
  | [] => onO ds.getLast? fun d => K d ds.dropLast
  | _ => False
def tPop : MtK := ⟨fPop, kPop, fun ds as K h => by
  unfold kPop at h
  split at h
  · obtain ⟨d, e, q⟩ := onO.ex h
    exact ⟨_, _, by simp only [fPop, e], q⟩
  · exact h.elim⟩
end DL
namespace DL
open PySem L2 PyProof.Rows
/-! ### a, *b = e -/
section
variable {prog : Program} {w : World} {A : Around} {E : Value → Shared → Prop} {s : Shared}
theorem star_fin {items : Array Value} {n i : Nat} {Q : List Value → Shared → Prop} {h2 : Heap} {tk : Nat} (hi : i < n) (hn : n ≤ items.size + 1) (hz : items.size ≤ sizeLine)
    (hQ : Q (items.toList.take i ++ [.ref h2.objs.size] ++ (items.toList.drop i).drop (items.size + 1 - n)) { s with heap := h2.push { cls := .type "list", data := .seq ((items.toList.drop i).take (items.size + 1 - n)).toArray }, toks := tk }) :
    wpAny (model prog w) A (do
      if (items.toList.drop i).length < n - 1 - i then
        rule "unpack.star.too-few"
        raiseError "ValueError" s!"not enough values to unpack (expected at least {n - 1}, got {i + (items.toList.drop i).length})"
      pure (items.toList.take i ++ [← newList ((items.toList.drop i).take ((items.toList.drop i).length - (n - 1 - i)))] ++ (items.toList.drop i).drop ((items.toList.drop i).length - (n - 1 - i)))) Q E { s with heap := h2, toks := tk } := by
  have hrl : (items.toList.drop i).length = items.size - i := by rw [List.length_drop, Array.length_toList]
  have hmid : (items.toList.drop i).length - (n - 1 - i) = items.size + 1 - n := by rw [hrl]; omega
  rw [if_neg (by rw [hrl]; omega), hmid]
  exact wpAny_bind (wpAny_newList (wpAny_pure hQ) (by rw [List.length_take, hrl]; omega))
theorem star_tuple {t : Addr} {items : Array Value} {n i : Nat} {Q : List Value → Shared → Prop} (hh : A.handled = none) (ht : IsTup s.heap t items) (hi : i < n) (hn : n ≤ items.size + 1) (hz : items.size ≤ sizeLine)
    (hQ : ∀ (h' : Heap) (tk : Nat), (∀ b o, s.heap.get? b = some o → h'.get? b = some o) → Q (items.toList.take i ++ [.ref h'.objs.size] ++ (items.toList.drop i).drop (items.size + 1 - n)) { s with heap := h'.push { cls := .type "list", data := .seq ((items.toList.drop i).take (items.size + 1 - n)).toArray }, toks := tk }) :
    wpAny (model prog w) A (unpackItems (.ref t) n (some i)) Q E s := by
  have lt : t < s.heap.objs.size := by obtain ⟨o, ho, _⟩ := ht; exact Heap.lt_size ho
  have hlt : t ≠ s.heap.objs.size := Nat.ne_of_lt lt
  unfold unpackItems notIterableAtAll
  refine wpAny_bind (wpAny_bind (wpAny_specialOf ht.typeIs slot_tuple_iter.lookup (wpAny_pure ?_)))
  simp only [Bool.false_eq_true, if_false]
  refine wpAny_bind (wpAny_holding (iter_tuple ht (wpAny_bind (wpAny_holding (draw_tuple hlt i 0 _ _ ⟨_, Heap.get?_push_size _ rfl, rfl, rfl⟩ (ht.push _) (by omega) fun h1 it1 sb1 => ?_)))))
  have t1 : IsTup h1 t items := (ht.push _).extBut sb1.extBut hlt
  rw [Nat.zero_add] at it1
  have hI : s.heap.objs.size < h1.objs.size := by obtain ⟨oi, hoi, _⟩ := id it1; exact Heap.lt_size hoi
  have hT : t < h1.objs.size := by obtain ⟨ol, hol, _⟩ := id t1; exact Heap.lt_size hol
  rw [List.drop_zero]
  have hfl : (items.toList.take i).length = i := by rw [List.length_take, Array.length_toList]; omega
  rw [if_neg (show ¬ ((items.toList.take i).length < i) by rw [hfl]; omega)]
  refine wpAny_bind (wpAny_holding (PySem.W.kun_collect (s := { s with heap := h1 }) (T := "tuple_iterator") (.inr (.inr (.inr rfl))) (Walks.tuple (A := A.in1) hh s.heap.objs.size t hlt items) (fun j u st => st.1.typeIs) (k := i) (by omega) ⟨it1, t1⟩ hI hT (fun h2 tk hk => ?_) hz))
  exact star_fin hi hn hz (hQ h2 tk fun b o e => hk b o (Nat.ne_of_lt (Heap.lt_size e)) (sb1.extBut b o (Nat.ne_of_lt (Heap.lt_size e)) (Heap.get?_push_of_some _ e)))
theorem star_list {t : Addr} {items : Array Value} {n i : Nat} {Q : List Value → Shared → Prop} (hh : A.handled = none) (ht : s.heap.IsList t items) (hi : i < n) (hn : n ≤ items.size + 1) (hz : items.size ≤ sizeLine)
    (hQ : ∀ (h' : Heap) (tk : Nat), (∀ b o, s.heap.get? b = some o → h'.get? b = some o) → Q (items.toList.take i ++ [.ref h'.objs.size] ++ (items.toList.drop i).drop (items.size + 1 - n)) { s with heap := h'.push { cls := .type "list", data := .seq ((items.toList.drop i).take (items.size + 1 - n)).toArray }, toks := tk }) :
    wpAny (model prog w) A (unpackItems (.ref t) n (some i)) Q E s := by
  have lt : t < s.heap.objs.size := by obtain ⟨o, ho, _⟩ := ht; exact Heap.lt_size ho
  have hlt : t ≠ s.heap.objs.size := Nat.ne_of_lt lt
  unfold unpackItems notIterableAtAll
  refine wpAny_bind (wpAny_bind (wpAny_specialOf ht.typeIs slot_list_iter.lookup (wpAny_pure ?_)))
  simp only [Bool.false_eq_true, if_false]
  refine wpAny_bind (wpAny_holding (wpAny_pyIter_list ht (wpAny_bind (wpAny_holding (PySem.W.kun_draw hlt i 0 _ _ ⟨_, Heap.get?_push_size _ rfl, rfl, rfl⟩ (ht.push _) (by omega) fun h1 it1 sb1 => ?_)))))
  have t1 : h1.IsList t items := (ht.push _).extBut sb1.extBut hlt
  rw [Nat.zero_add] at it1
  have hI : s.heap.objs.size < h1.objs.size := by obtain ⟨oi, hoi, _⟩ := id it1; exact Heap.lt_size hoi
  have hT : t < h1.objs.size := by obtain ⟨ol, hol, _⟩ := id t1; exact Heap.lt_size hol
  rw [List.drop_zero]
  have hfl : (items.toList.take i).length = i := by rw [List.length_take, Array.length_toList]; omega
  rw [if_neg (show ¬ ((items.toList.take i).length < i) by rw [hfl]; omega)]
  refine wpAny_bind (wpAny_holding (PySem.W.kun_collect (s := { s with heap := h1 }) (T := "list_iterator") (.inr (.inr (.inl rfl))) (Walks.list (A := A.in1) hh s.heap.objs.size t hlt items) (fun j u st => st.1.typeIs) (k := i) (by omega) ⟨it1, t1⟩ hI hT (fun h2 tk hk => ?_) hz))
  exact star_fin hi hn hz (hQ h2 tk fun b o e => hk b o (Nat.ne_of_lt (Heap.lt_size e)) (sb1.extBut b o (Nat.ne_of_lt (Heap.lt_size e)) (Heap.get?_push_of_some _ e)))
end

section
variable {X : Cx} {a b c t : Expr} {es : List Expr} {x : Str} {pos : Pos} {vs : List Nat} {g : GT} {gs : GTs}
def starL {α : Type} (n i : Nat) (mk : List α → α) (xs : List α) : List α := xs.take i ++ [mk ((xs.drop i).take (xs.length + 1 - n))] ++ (xs.drop i).drop (xs.length + 1 - n)
def gStarV (K : PySem.W.Frag) (n i : Nat) (t : TGs) : TG := fun v σ H Q => ∃ a xs, v = .ref a ∧ (SqT K H a xs ∨ SqL K H a xs) ∧ i < n ∧ n ≤ xs.length + 1 ∧ ∀ p, H p = none → t (starL n i (fun _ => .ref p) xs) σ (upd H p (.lst ((xs.drop i).take (xs.length + 1 - n)))) Q
theorem pg_star {k : Nat} {t : TGs} {n i : Nat} (hc : X.calm = true) (h : PGs X es t)
    (hn : (assignEach es X.env).length = n := by rfl) (hst : (assignEach es X.env).findIdx? (·.1) = some i := by rfl) : PG X (.Tuple es k pos) (gStarV X.K n i t) := by
  refine ⟨fun pins s σ H v u Q I r hw => ?_⟩
  obtain ⟨a, xs, e1, hq, hi, hl, hw⟩ := hw
  subst e1
  cases r
  have fin : ∀ (its : List Value) (h' : Heap) (tk : Nat), Vals xs its → xs.length ≤ sizeLine → (∀ b o, s.heap.get? b = some o → h'.get? b = some o) →
      wpAny (model X.prog X.w) X.A (assignInOrder ((assignEach es X.env).map (·.2)) (its.take i ++ [.ref h'.objs.size] ++ (its.drop i).drop (its.length + 1 - n))) (fun _ s' => ∃ σ' H', L2.Inv X pins σ' H' s' ∧ Q σ' H') X.xe { s with heap := h'.push { cls := .type "list", data := .seq ((its.drop i).take (its.length + 1 - n)).toArray }, toks := tk } := by
    intro its h' tk rv hz hk
    have I1 : L2.Inv X pins σ H { s with heap := h', toks := tk } := I.kept hk
    have le := rv.length
    have I2 : L2.Inv X pins σ (upd H h'.objs.size (.lst ((xs.drop i).take (xs.length + 1 - n)))) { s with heap := h'.push { cls := .type "list", data := .seq ((its.drop i).take (its.length + 1 - n)).toArray }, toks := tk } := by
      refine I1.laid (t' := tk) (fun b ob q => Heap.get?_push_of_some _ q) (Nat.le_refl _) ?_
      refine ⟨by rw [List.length_take, List.length_drop]; omega, _, 0, ?_, Heap.get?_push_size _ rfl⟩
      rw [le]
      exact (rv.drop i).take _
    refine h.run pins _ σ _ _ _ Q I2 ?_ (hw _ (I1.hok.fresh (Nat.le_refl _)))
    unfold starL
    rw [le]
    exact ((rv.take i).append (.cons (show L2.RelV (V.ref h'.objs.size) (.ref h'.objs.size) from rfl) .nil)).append ((rv.drop i).drop _)
  rw [assign_Tuple]
  refine wpAny_bind (wpAny_standAt ?_)
  unfold unpack
  rw [hn, hst]
  rcases hq with hq | hq
  · obtain ⟨its, rv, ht, hz⟩ := I.tuple hq
    have le := rv.length
    refine wpAny_bind (wpAny_holding (star_tuple (I.ok.hd hc) ht hi (by rw [List.size_toArray]; omega) (by rw [List.size_toArray]; omega) fun h' tk hk => ?_))
    have := fin its h' tk rv hz hk
    simpa using this
  · obtain ⟨its, rv, ht, hz⟩ := I.list hq
    have le := rv.length
    refine wpAny_bind (wpAny_holding (star_list (I.ok.hd hc) ht.isList hi (by rw [List.size_toArray]; omega) (by rw [List.size_toArray]; omega) fun h' tk hk => ?_))
    have := fin its h' tk rv hz hk
    simpa using this
def seqD : D → Option (List D)
  | .tuple ds => some ds
  | .list ds => some ds
  | _ => none
def gStar (n i : Nat) (gs : GTs) : GT := fun d r => match seqD d with
  | some ds => if i < n ∧ n ≤ ds.length + 1 then gs (starL n i .list ds) r else none
  | none => none
theorem dg_star {k : Nat} {n i : Nat} (hc : X.calm = true) (h : DGs X es vs gs) (hn : (assignEach es X.env).length = n := by rfl) (hst : (assignEach es X.env).findIdx? (·.1) = some i := by rfl) : DG X (.Tuple es k pos) vs (gStar n i gs) := fun e =>
  PG.imp (pg_star hc (h e) hn hst) fun v s H Q ⟨F, r, d, r', k, rp, eg, hQ⟩ => by
    unfold gStar at eg
    split at eg
    · rename_i ds ed
      split at eg
      · rename_i hl
        have fin : ∀ (a : Addr) (xs : List V), RpA X.K F xs ds → (SqT X.K H a xs ∨ SqL X.K H a xs) → gStarV X.K n i (TGts X.K e vs gs) (.ref a) s H Q := by
          intro a xs ra hq
          have le := ra.length
          refine ⟨a, xs, rfl, hq, hl.1, by omega, fun p hp => ?_⟩
          have fr := k.free hp
          have k1 := k.lay (o := .lst ((xs.drop i).take (xs.length + 1 - n))) hp
          have sb : Sub F (upd F p (.lst ((xs.drop i).take (xs.length + 1 - n)))) := Sub.new fr.1
          refine ⟨_, r, _, r', k1, ?_, eg, fun s' F' H' k' q' w' => hQ s' F' H' k' (sb.trans q') w'⟩
          have rb := ra.mono sb
          unfold starL
          rw [← le]
          exact ((rb.take i).append (.cons (.lst (.inl upd_same) ((rb.drop i).take _)) .nil)).append ((rb.drop i).drop _)
        cases rp with
        | tup g1 g2 => cases ed; exact fin _ _ g2 (.inl (k.sub.sqT g1))
        | lst g1 g2 => cases ed; exact fin _ _ g2 (.inr (.inl (k.sub.rd g1)))
        | _ => cases ed
      · cases eg
    · cases eg
theorem dgs_star {p : Pos} (h1 : DG X t vs g) (h2 : DGs X es vs gs) (hs : (assignEach (.Starred t p :: es) X.env).map (·.2) = assign t X.env :: (assignEach es X.env).map (·.2) := by rfl) : DGs X (.Starred t p :: es) vs (gCs g gs) := fun e => by
  refine ⟨fun pins s σ H us ws Q I r ⟨F, r0, d, r', k, rp, eg, hQ⟩ => ?_⟩
  cases rp with
  | nil => cases eg
  | cons r1 r2 =>
    simp only [gCs] at eg
    split at eg
    · rename_i r1' e1
      cases r with
      | cons rv rr =>
        rw [hs]
        refine assignInOrder_cons (thn ((h1 e).run pins s σ H _ _ _ I rv ⟨F, r0, _, r1', k, r1, e1, fun s1 F1 H1 k1 q1 w1 => (⟨F1, r1', _, r', k1, r2.mono q1, eg, fun s2 F2 H2 k2 q2 w2 => hQ s2 F2 H2 k2 (q1.trans q2) (w2.trans w1)⟩ : TGts X.K e vs gs _ s1 H1 Q)⟩) fun _ s1 ⟨σ1, H1, I1, q1⟩ => ?_)
        exact (h2 e).run pins s1 σ1 H1 _ _ Q I1 rr q1
    · cases eg
/-! ### target = e -/
def sAsg (m : ME) (g : GT) : MS := fun r O => m r fun x r1 => onP (hold r1 x.tmp) fun qa qb => onS (g qa qb) O.nx
theorem ds_asg {ma : ME} (ha : DE X a ma) (hg : DG X b vs g) (hs : swapsWithSole [b] a pos.line X.env = pure false := by rfl) (hw : swappedStores [b] a X.env = pure none := by rfl)
    (h1 : (assignEach [b] X.env).map (·.2) = [assign b X.env] := by rfl) : DS X (.Assign [b] a pos) (sAsg ma g) := fun e =>
  PS.imp (ps_asg (ha.tmp e) (hg e) hs hw h1) fun D s H ⟨F, r, k, O, hm, h⟩ => ⟨F, r, k, fun x r1 => onP (hold r1 x) fun qa qb => onS (g qa qb) O.nx, hm, fun x r1 v F1 H1 hx k1 q t => by
    obtain ⟨d, r2, eh, hx2⟩ := onP.ex hx
    obtain ⟨r3, eg, hp⟩ := onS.ex hx2
    obtain ⟨F2, k2, q2, rp⟩ := t.hold k1 eh
    exact ⟨F2, r2, d, r3, k2, rp, eg, fun s' F' H' k' q' w' => h.nx r3 s' F' H' hp k' ((q.trans q2).trans q')⟩⟩
end
end DL
namespace DL
open PySem L2 PyProof.Rows
section
variable {X : Cx} {elt tg iter c : Expr} {ifs : List Expr} {scope : Scope} {own : List (Str × Nat)} {pos spos py : Pos} {mi : MI} {g : GT} {tt : MT} {te : ME} {vs : List Nat} {y : Str} {i : Nat}
/-- name = [.. for ..] -/
theorem ds_setLc (hc : X.calm = true) (hN : X.N.Nodup) (hy : X.N[i]? = some y) (hyl : X.env.scope.names.lookup y = some .local) (hk : X.env.scope.kind = .function) (hi : DI X tg iter mi) (ok : BlkOk X.N X.env.scope scope own)
    (hg : ∀ (s : Shared) (H : Hp) (C : Addr) (cl : List (Str × Addr)) (fp : List Addr), DG (X.blk s H scope (compEnvC scope cl C X.env) fp) tg (own.map (·.2)) g) (ht : ∀ (s : Shared) (H : Hp) (C : Addr) (cl : List (Str × Addr)) (fp : List Addr), DTs (X.blk s H scope (compEnvC scope cl C X.env) fp) ifs tt)
    (he : ∀ (s : Shared) (H : Hp) (C : Addr) (cl : List (Str × Addr)) (fp : List Addr), DE (X.blk s H scope (compEnvC scope cl C X.env) fp) elt te) (hs : ∀ x, foldedSetIterable iter X.env x = pure x := by intro _; rfl)
    (hl : (py.line == pos.line) = true := by rfl) (ha : (scope.names.any fun (n, k) => n == y && (k == .local || k == .cell)) = false := by rfl) :
    DS X (.Assign [.Name y py] (.ListComp elt [⟨tg, iter, ifs, 0⟩] scope pos) spos) (sSet i (mLc (own.map (·.2)) mi g tt te)) := fun e => by
  refine PS.imp (ps_setLc (g := fun v s H Q => ∃ e', TGt X.K e' (own.map (·.2)) g v s H Q) (tt := fun s H Q => ∃ e', TB X.K e' tt s H Q) (te := fun s H Q => ∃ e', Tt X.K e' (mTmp te) s H Q) hc hN hy hyl (sw_true hk hyl hl ha) (hi e) ok
    (fun s H C cl fp => ⟨fun pins s σ H v u Q I r ⟨e', q⟩ => (hg _ _ C cl fp e').run pins s σ H v u Q I r q⟩) (fun s H C cl fp => ⟨fun pins s σ H Q I ⟨e', q⟩ => (ht _ _ C cl fp e').run pins s σ H Q I q⟩) (fun s H C cl fp => ⟨fun pins s σ H Q I ⟨e', q⟩ => ((he _ _ C cl fp).tmp e').run pins s σ H Q I q⟩) hs) ?_
  rintro D s H ⟨F, r, k, O, hm, h⟩
  refine lc_read rfl ⟨F, r, k, _, hm, ?_⟩ _ _ _ (fun e' _ _ _ _ q => ⟨e', q⟩) (fun e' _ _ _ q => ⟨e', q⟩) fun e' _ _ _ q => ⟨e', q⟩
  intro x r1 v F1 H1 hx k1 q t
  obtain ⟨r2, ep, hp⟩ := onS.ex hx
  obtain ⟨F2, k2, q2⟩ := t.put k1 ep
  exact h.nx r2 _ F2 H1 hp k2 (q.trans q2)
end
section
variable {X : Cx} {a b : Expr} {ma mb : ME} {pos pos' p : Pos} {x : Str} {i : Nat}
/-! ### x[b] = a, x a box -/
def itOf : D → Option Int
  | .int i => some i
  | _ => none
theorem itOf_of {d : D} {i : Int} (h : itOf d = some i) : d = .int i := by
  unfold itOf at h
  split at h
  · cases h; rfl
  · cases h
/-- the items of a list, one by one -/
def strictL (l : List D) (K : List D → Prop) : Prop := match l with
  | [] => K []
  | d :: l => strictL l fun l' => K (d :: l')
theorem strictL.ex : ∀ {l : List D} {K : List D → Prop}, strictL l K → K l
  | [], _, h => h
  | _ :: l, K, h => strictL.ex (l := l) h
def KPut (i : Nat) (d : D) (O : Out) (y : R) (r : Rho) : Prop := onO (look r y) fun z => onO (itOf z) fun k => onP (bxL r i) fun ba bb => onO (ixN bb.length k) fun j => strictL (bb.set j d) fun l => strict (r.set i (some (.box ba (.L l)))) O.nx
theorem KPut.ex {i : Nat} {d : D} {O : Out} {y : R} {r : Rho} (h : KPut i d O y r) : ∃ k bo ds j, look r y = some (.int k) ∧ r[i]? = some (some (.box bo (.L ds))) ∧ ixN ds.length k = some j ∧ O.nx (r.set i (some (.box bo (.L (ds.set j d))))) := by
  obtain ⟨z, e1, h1⟩ := onO.ex h
  obtain ⟨k, e2, h2⟩ := onO.ex h1
  obtain ⟨ba, bb, e3, h3⟩ := onP.ex h2
  obtain ⟨j, e4, h4⟩ := onO.ex h3
  cases itOf_of e2
  exact ⟨k, ba, bb, j, e1, bxL_of e3, e4, h4.ex.ex⟩
def sPut (i : Nat) (ma mb : ME) : MS := fun r O => ma r fun x r1 => onP (hold r1 x.tmp) fun qa qb => rqB (isL qb i) (mb qb fun y r3 => KPut i qa O y.tmp r3)
theorem ds_put (hN : X.N[i]? = some x) (hv : Vis X.env.scope x) (ha : DE X a ma) (hb : DE X b mb) (hd : (x == ("__debug__" : Str)) = false := by decide) (hcd : (x == ("__classdict__" : Str)) = false := by decide)
    (hsub : ∀ v, assign (.Subscript (.Name x p) b pos') X.env v = (do
      let ov ← holding [v] (eval (.Name x p) X.env)
      let iv ← holding [v, ov] (eval b X.env)
      standAt pos'
      holding [v, ov, iv] (setItem ov iv v)
      release [v, ov, iv] []) := by intro _; rfl)
    (hs : swapsWithSole [.Subscript (.Name x p) b pos'] a pos.line X.env = pure false := by rfl) (hw : swappedStores [.Subscript (.Name x p) b pos'] a X.env = pure none := by rfl)
    (h1 : (assignEach [.Subscript (.Name x p) b pos'] X.env).map (·.2) = [assign (.Subscript (.Name x p) b pos') X.env] := by rfl) : DS X (.Assign [.Subscript (.Name x p) b pos'] a pos) (sPut i ma mb) := fun e =>
  PS.imp (ps_asg (ha.tmp e) (pg_sub (pe_var hN hv hd hcd) (hb.tmp e) set_list hsub) hs hw h1) fun D s H ⟨F, r, k, O, hm, h⟩ => ⟨F, r, k, fun x r1 => onP (hold r1 x) fun qa qb => rqB (isL qb i) (mb qb fun y r3 => KPut i qa O y.tmp r3), hm, fun x r1 v F1 H1 hx k1 q t => by
    obtain ⟨d, r2, eh, hx2⟩ := onP.ex hx
    obtain ⟨hl, hp⟩ := rqB.ex hx2
    obtain ⟨F2, k2, q2, rp⟩ := t.hold k1 eh
    obtain ⟨bo, ds, hbx⟩ := isL_of hl
    obtain ⟨pp, o, g1, g2, g3, g4⟩ := k2.box i bo _ hbx
    refine ⟨.ref pp, g1, F2, r2, k2, fun y r3 => KPut i d O y r3, hp, ?_⟩
    intro y r3 v3 F3 H3 hy k3 q3 t3
    obtain ⟨k, bo', ds', j, el, er, ej, hn⟩ := KPut.ex hy
    obtain ⟨pp', o', w1, w2, w3, w4⟩ := k3.box i bo' _ er
    rw [g1] at w1; cases w1
    cases w3 with | L w3 =>
    have ei := (t3.look k3 el).int
    refine ⟨pp, _, k, j, rfl, ei, w2, by rw [w3.length]; exact ej, ?_⟩
    exact h.nx _ s F3 _ hn (k3.write er g1 (.L (w3.set (rp.mono q3) j))) ((q.trans q2).trans q3)⟩
/-! ### op= -/
def IpD (X : Cx) (op : Operator) (f : F2) : Prop := ∃ t : TIp, PIp X op t ∧ ∀ (F H : Hp) (v1 v2 : V) (d1 d2 z : D) (Q : VK), Lk X.K F H v1 d1 → Lk X.K F H v2 d2 → f d1 d2 = some (.val z) → (∀ v, Rp X.K F v z → Q v H) → t v1 v2 H Q
def fIAdd : F2
  | .int i, .int j => some (.val (.int (i + j)))
  | .str x, .str y => if x.length + y.length ≤ sizeLine then some (.val (.str (x ++ y))) else none
  | _, _ => none
def fISub : F2
  | .int i, .int j => some (.val (.int (i - j)))
  | _, _ => none
theorem ip_str : PIp X .Add (fun x y H Q => ∃ a b : Str, x = .str a ∧ y = .str b ∧ a.length + b.length ≤ sizeLine ∧ Q (.str (a ++ b)) H) := by
  rintro pins s σ H _ _ v u Q I r1 r2 ⟨a, b, rfl, rfl, hz, q⟩
  obtain ⟨t, rfl⟩ := r1
  obtain ⟨t', rfl⟩ := r2
  exact PyProof.Rows.SBL.iadd (fun t' k _ => ⟨.str _, H, I.tok _, ⟨_, rfl⟩, q⟩) hz
theorem ipd_add : IpD X .Add fIAdd := by
  refine ⟨fun x y H Q => (ipI fun i j => i + j) x y H Q ∨ ∃ a b : Str, x = .str a ∧ y = .str b ∧ a.length + b.length ≤ sizeLine ∧ Q (.str (a ++ b)) H, fun pins s σ H x y v u Q I r1 r2 h => h.elim (ip_add pins s σ H x y v u Q I r1 r2) (ip_str pins s σ H x y v u Q I r1 r2), fun F H v1 v2 d1 d2 z Q l1 l2 ef w => ?_⟩
  unfold fIAdd at ef
  split at ef
  · cases ef; exact .inl ⟨_, _, l1.int, l2.int, w _ (.int _)⟩
  · split at ef
    · rename_i hz; cases ef; exact .inr ⟨_, _, l1.str, l2.str, hz, w _ (.str _)⟩
    · cases ef
  · cases ef
theorem ipd_sub : IpD X .Sub fISub := by
  refine ⟨_, ip_sub, fun F H v1 v2 d1 d2 z Q l1 l2 ef w => ?_⟩
  unfold fISub at ef
  split at ef
  · cases ef; exact ⟨_, _, l1.int, l2.int, w _ (.int _)⟩
  · cases ef
/-- an operation with a datum as its answer -/
structure IpK where
  f : F2
  k : D → D → (D → Prop) → Prop
  ok : ∀ d1 d2 K, k d1 d2 K → ∃ z, f d1 d2 = some (.val z) ∧ K z
def kIAdd : D → D → (D → Prop) → Prop
  | .int i, .int j, K => K (.int (i + j))
  | .str x, .str y, K => Rq (x.length + y.length ≤ sizeLine) (K (.str (x ++ y)))
  | _, _, _ => False
def pAdd : IpK := ⟨fIAdd, kIAdd, fun d1 d2 K h => by
  cases d1 <;> cases d2 <;> first
    | exact h.elim
    | exact ⟨_, rfl, h⟩
    | exact ⟨_, rq_if h, Rq.a h⟩⟩
def kISub : D → D → (D → Prop) → Prop
  | .int i, .int j, K => K (.int (i - j))
  | _, _, _ => False
def pSub : IpK := ⟨fISub, kISub, fun d1 d2 K h => by
  cases d1 <;> cases d2 <;> first
    | exact h.elim
    | exact ⟨_, rfl, h⟩⟩
def vlOf (r : Rho) (i : Nat) : Option D := match r[i]? with
  | some (some (.val d)) => some d
  | _ => none
theorem vlOf_of {r : Rho} {i : Nat} {d : D} (h : vlOf r i = some d) : r[i]? = some (some (.val d)) := by
  unfold vlOf at h
  split at h
  · rename_i e; cases h; exact e
  · cases h
def sAug (i : Nat) (o : IpK) (mb : ME) : MS := fun r O => onO (vlOf r i) fun d0 => mb r fun y r1 => onO (look r1 y.tmp) fun d1 => o.k d0 d1 fun z => strict (r1.set i (some (.val z))) O.nx
theorem ds_aug {op : Operator} {o : IpK} (hN : X.N.Nodup) (hi : X.N[i]? = some x) (hx : Loc X.env.scope x) (ho : IpD X op o.f) (hb : DE X b mb) (hf : X.fn x = true ∨ X.env.scope.names.lookup x = some .local := by first | exact .inl rfl | exact .inr rfl | assumption) :
    DS X (.AugAssign (.Name x pos') op b pos) (sAug i o mb) := fun e => by
  obtain ⟨t, ht, hq⟩ := ho
  exact PS.imp (ps_aug hN hi hx (hb.tmp e) ht hf) fun D s H ⟨F, r, k, O, hx, h⟩ => by
    obtain ⟨d0, e0', hm⟩ := onO.ex hx
    have e0 := vlOf_of e0'
    obtain ⟨v0, g1, g2⟩ := k.slot i d0 e0
    refine ⟨v0, g1, F, r, k, fun y r1 => onO (look r1 y) fun d1 => o.k d0 d1 fun z => strict (r1.set i (some (.val z))) O.nx, hm, ?_⟩
    intro y r1 v1 F1 H1 hx1 k1 q1 t1
    obtain ⟨d1, el, hx2⟩ := onO.ex hx1
    obtain ⟨z, ef, hx3⟩ := o.ok _ _ _ hx2
    have hn := hx3.ex
    exact hq F1 H1 v0 v1 d0 d1 z _ (.rp (g2.mono q1)) (t1.look k1 el) ef fun v rv => h.nx _ _ F1 H1 hn (k1.store rv) q1
theorem get_list : PGet X (rIxL X.K) := by
  rintro pins s σ H _ _ v u Q I rx ry ⟨p, xs, i, z, rfl, rfl, hq, he, q⟩
  cases rx
  obtain ⟨t, rfl⟩ := ry
  obtain ⟨its, r, pl, hz⟩ := I.list hq
  obtain ⟨j, h1, h2, h3, h4, h5⟩ := atI_get he
  obtain ⟨w, ew, rw'⟩ := r.get h2
  have hl := r.length
  have hn := line63
  have fin : EP X pins σ Q w s := ⟨z, H, I, rw', q⟩
  by_cases h0 : 0 ≤ i
  · have hj : i.toNat = j := by
      rw [seqIndex_of h0 h5] at h1
      exact Option.some.inj h1
    exact wpAny_getItem_list pl.isList h0 (by omega) (by rw [hj]; simpa using ew) fin
  · have hj : (i + (its.toArray.size : Int)).toNat = j := by
      rw [seqIndex_neg (by omega) h4] at h1
      rw [List.size_toArray, ← hl]
      exact Option.some.inj h1
    exact wpAny_getItem_list_neg pl.isList (by omega) (by rw [List.size_toArray] <;> omega) (by omega) (by rw [hj]; simpa using ew) fin
/-- x[a] op= b, x a box -/
def KAugS2 (i : Nat) (o : IpK) (k : Int) (d0 : D) (O : Out) (y : R) (r : Rho) : Prop := onO (look r y) fun d1 => o.k d0 d1 fun z => onP (bxL r i) fun ba bb => onO (ixN bb.length k) fun j => strictL (bb.set j z) fun l => strict (r.set i (some (.box ba (.L l)))) O.nx
theorem KAugS2.ex {i : Nat} {o : IpK} {k : Int} {d0 : D} {O : Out} {y : R} {r : Rho} (h : KAugS2 i o k d0 O y r) : ∃ d1 z ds' j bo', look r y = some d1 ∧ o.f d0 d1 = some (.val z) ∧ r[i]? = some (some (.box bo' (.L ds'))) ∧ ixN ds'.length k = some j ∧ O.nx (r.set i (some (.box bo' (.L (ds'.set j z))))) := by
  obtain ⟨d1, e1, h1⟩ := onO.ex h
  obtain ⟨z, e2, h2⟩ := o.ok _ _ _ h1
  obtain ⟨ba, bb, e3, h3⟩ := onP.ex h2
  obtain ⟨j, e4, h4⟩ := onO.ex h3
  exact ⟨d1, z, bb, j, ba, e1, e2, bxL_of e3, e4, h4.ex.ex⟩
def KAugS1 (i : Nat) (o : IpK) (mb : ME) (O : Out) (x : R) (r : Rho) : Prop := onO (look r x) fun w => onO (itOf w) fun k => onP (bxL r i) fun ba bb => onO (atI bb k) fun d0 => mb r fun y r2 => KAugS2 i o k d0 O y.tmp r2
theorem KAugS1.ex {i : Nat} {o : IpK} {mb : ME} {O : Out} {x : R} {r : Rho} (h : KAugS1 i o mb O x r) : ∃ k bo ds d0, look r x = some (.int k) ∧ r[i]? = some (some (.box bo (.L ds))) ∧ atI ds k = some d0 ∧ mb r fun y r2 => KAugS2 i o k d0 O y.tmp r2 := by
  obtain ⟨w, e1, h1⟩ := onO.ex h
  obtain ⟨k, e2, h2⟩ := onO.ex h1
  obtain ⟨ba, bb, e3, h3⟩ := onP.ex h2
  obtain ⟨d0, e4, h4⟩ := onO.ex h3
  cases itOf_of e2
  exact ⟨k, ba, bb, d0, e1, bxL_of e3, e4, h4⟩
def sAugS (i : Nat) (o : IpK) (ma mb : ME) : MS := fun r O => rqB (isL r i) (ma r fun x r1 => KAugS1 i o mb O x.tmp r1)
theorem ds_augS {op : Operator} {o : IpK} (hN : X.N[i]? = some x) (hv : Vis X.env.scope x) (ho : IpD X op o.f) (ha : DE X a ma) (hb : DE X b mb) (hd : (x == ("__debug__" : Str)) = false := by decide) (hcd : (x == ("__classdict__" : Str)) = false := by decide)
    (hs : ∀ ov iv new, augStore a ov iv new = (do holding [new, ov, iv] (setItem ov iv new); release [new, ov, iv] []; pure .next) := by intros; rfl) : DS X (.AugAssign (.Subscript (.Name x p) a pos') op b pos) (sAugS i o ma mb) := fun e => by
  obtain ⟨t, ht, hq⟩ := ho
  refine PS.imp (ps_augS (pe_var hN hv hd hcd) (ha.tmp e) get_list (hb.tmp e) ht set_list hs) fun D s H ⟨F, r, k, O, hx0, h⟩ => ?_
  obtain ⟨hl, hm⟩ := rqB.ex hx0
  obtain ⟨bo, ds, hbx⟩ := isL_of hl
  obtain ⟨pp, ob, g1, g2, g3, g4⟩ := k.box i bo _ hbx
  refine ⟨.ref pp, g1, F, r, k, fun x r1 => KAugS1 i o mb O x r1, hm, ?_⟩
  intro y r1 v1 F1 H1 hx1 k1 q1 t1
  obtain ⟨kk, bo1, ds1, d0, el, er, ea, hp⟩ := KAugS1.ex hx1
  obtain ⟨p1, o1, w1, w2, w3, w4⟩ := k1.box i bo1 _ er
  rw [g1] at w1; cases w1
  cases w3 with | L w3 =>
  obtain ⟨v0, ev, rv0⟩ := w3.at ea
  have ei := (t1.look k1 el).int
  refine ⟨pp, _, kk, v0, rfl, ei, .inl (.inl w2), ev, F1, r1, k1, fun y r2 => KAugS2 i o kk d0 O y r2, hp, ?_⟩
  intro y2 r2 v2 F2 H2 hx2 k2 q2 t2
  obtain ⟨d1, z, ds2, j, bo2, el2, ef, er2, ej, hn⟩ := KAugS2.ex hx2
  obtain ⟨p2, o2, u1, u2, u3, u4⟩ := k2.box i bo2 _ er2
  rw [g1] at u1; cases u1
  cases u3 with | L u3 =>
  refine hq F2 H2 v0 v2 d0 d1 z _ (.rp (rv0.mono q2)) (t2.look k2 el2) ef fun v rv => ⟨pp, _, kk, j, rfl, ei, u2, by rw [u3.length]; exact ej, ?_⟩
  exact h.nx _ s F2 _ hn (k2.write er2 g1 (.L (u3.set rv j))) (q1.trans q2)
end
end DL
namespace DL
open PySem L2 PyProof.Rows
/-! ### constants of the module -/
mutual
/-- u is the datum d, all of it in K -/
def rpB (K : Fg) : Nat → Value → D → Bool
  | 0, _, _ => false
  | n + 1, u, d => match d, u with
    | .none, .none => true
    | .bool a, .bool b => a == b
    | .int a, .int b _ => a == b
    | .str a, .str b _ => a == b
    | .tuple ds, .ref a => match K.lookup a with
      | some ⟨.type "tuple", _, .seq its _, _⟩ => decide (its.size ≤ sizeLine) && rpBs K n its.toList ds
      | _ => false
    | _, _ => false
def rpBs (K : Fg) : Nat → List Value → List D → Bool
  | 0, _, _ => false
  | n + 1, us, ds => match us, ds with
    | [], [] => true
    | u :: us, d :: ds => rpB K n u d && rpBs K n us ds
    | _, _ => false
end
theorem rpB_ok (K : Fg) : ∀ n, (∀ u d, rpB K n u d = true → ∃ v, RelV v u ∧ ∀ F, Rp K F v d) ∧ (∀ us ds, rpBs K n us ds = true → ∃ vs, Vals vs us ∧ ∀ F, RpA K F vs ds)
  | 0 => ⟨fun u d h => (by unfold rpB at h; cases h), fun u d h => (by unfold rpBs at h; cases h)⟩
  | n + 1 => by
    obtain ⟨i1, i2⟩ := rpB_ok K n
    refine ⟨fun u d h => ?_, fun us ds h => ?_⟩
    · unfold rpB at h
      split at h
      · exact ⟨.non, rfl, fun F => .non⟩
      · rename_i a b; rw [beq_iff_eq.mp h]; exact ⟨.bl b, rfl, fun F => .bl _⟩
      · rename_i a b t; rw [beq_iff_eq.mp h]; exact ⟨.int b, ⟨t, rfl⟩, fun F => .int _⟩
      · rename_i a b t; rw [eq_of_beq h]; exact ⟨.str b, ⟨t, rfl⟩, fun F => .str _⟩
      · rename_i ds a
        split at h
        · rename_i dd its nn sl hl
          rw [Bool.and_eq_true] at h
          obtain ⟨vs, r, w⟩ := i2 _ _ h.2
          exact ⟨.ref a, rfl, fun F => .tup (.inr ⟨_, its, nn, hl, rfl, rfl, of_decide_eq_true h.1, r⟩) (w F)⟩
        · cases h
      · cases h
    · unfold rpBs at h
      split at h
      · exact ⟨[], .nil, fun F => .nil⟩
      · rw [Bool.and_eq_true] at h
        obtain ⟨v, r1, w1⟩ := i1 _ _ h.1
        obtain ⟨vs, r2, w2⟩ := i2 _ _ h.2
        exact ⟨v :: vs, .cons r1 r2, fun F => .cons (w1 F) (w2 F)⟩
      · cases h
section
variable {X : Cx} {a b c : Expr} {ma mb mc : ME} {pos p p' apos : Pos} {x : Str} {i : Nat}
theorem de_glob {u : Value} {d : D} (n : Nat) (hg : Gl X x) (hm : X.mg x = some u) (hr : rpB X.K n u d = true) (hd : (x == ("__debug__" : Str)) = false := by decide) : DE X (.Name x pos) (mVal d) := by
  obtain ⟨v, r, w⟩ := (rpB_ok X.K n).1 u d hr
  exact de_const (pe_glob hg hm r hd) w
/-! ### dicts of the module, texts to texts -/
abbrev Tab := List (Str × Str)
def tLook : Tab → Str → Option Str
  | [], _ => none
  | p :: r, x => if p.1 = x then some p.2 else tLook r x
def tabB (P : Params) : List DictEntry → Tab → Bool
  | [], [] => true
  | ⟨h, .str a _, .str b _⟩ :: r, (x, y) :: t => a == x && b == y && h == PyData.keyHash P x && tabB P r t
  | _, _ => false
theorem tab_lit {P : Params} : ∀ {es : List DictEntry} {t : Tab}, tabB P es t = true → PySem.W.KeysLit P es ∧ ∀ x, (es.find? fun e => Value.isStrOf x e.key).map (·.val) = none ∧ tLook t x = none ∨ ∃ y k, (es.find? fun e => Value.isStrOf x e.key).map (·.val) = some (.str y k) ∧ tLook t x = some y
  | [], [], _ => ⟨trivial, fun x => .inl ⟨rfl, rfl⟩⟩
  | [], _ :: _, h => by unfold tabB at h; cases h
  | e :: es, [], h => by unfold tabB at h; simp at h
  | e :: es, (x0, y0) :: t, h => by
    unfold tabB at h
    split at h
    · rename_i z1 z2; cases z2
    · rename_i h0 a0 k0 b0 k1 r1 x1 y1 t1 e1 e2
      injection e1 with q1 q2
      injection e2 with q3 q4
      injection q3 with q5 q6
      subst q1 q2 q4 q5 q6
      simp only [Bool.and_eq_true, beq_iff_eq] at h
      obtain ⟨⟨⟨g1, g2⟩, g3⟩, g4⟩ := h
      subst g1 g2
      obtain ⟨i1, i2⟩ := tab_lit g4
      refine ⟨⟨⟨_, _, rfl, g3⟩, i1⟩, fun x => ?_⟩
      by_cases q : a0 = x
      · subst q
        refine .inr ⟨b0, k1, ?_, by simp [tLook]⟩
        simp [List.find?_cons, Value.isStrOf]
      · rcases i2 x with ⟨j1, j2⟩ | ⟨y, k, j1, j2⟩
        · refine .inl ⟨?_, by simp [tLook, q, j2]⟩
          rw [List.find?_cons, show Value.isStrOf x (Value.str a0 k0) = false from by simp [Value.isStrOf, q]]
          exact j1
        · refine .inr ⟨y, k, ?_, by simp [tLook, q, j2]⟩
          rw [List.find?_cons, show Value.isStrOf x (Value.str a0 k0) = false from by simp [Value.isStrOf, q]]
          exact j1
    · cases h
/-- at a the dict t of the module -/
structure KTab (X : Cx) (a : Addr) (t : Tab) : Prop where
  ex : ∃ es n, X.K.lookup a = some ⟨.type "dict", none, .dict es n, #[]⟩ ∧ tabB X.w.params es.toList t = true
  sys : (a == sysModules) = false
theorem KTab.of {ad : Addr} {t : Tab} {es : Array DictEntry} {n : Nat} (hl : X.K.lookup ad = some ⟨.type "dict", none, .dict es n, #[]⟩) (hb : tabB X.w.params es.toList t = true) (hs : (ad == sysModules) = false) : KTab X ad t := ⟨⟨es, n, hl, hb⟩, hs⟩
theorem KTab.map {ad : Addr} {t : Tab} {pins : List (Addr × Obj)} {σ : L2.St} {H : Hp} {s : Shared} (k : KTab X ad t) (I : L2.Inv X pins σ H s) : ∃ f : Str → Option Value, s.heap.MapOf (strKind X.prog X.w) ad f ∧ ∀ x, f x = none ∧ tLook t x = none ∨ ∃ y k, f x = some (.str y k) ∧ tLook t x = some y := by
  obtain ⟨es, n, hl, hb⟩ := k.ex
  obtain ⟨h1, h2⟩ := tab_lit hb
  refine ⟨_, PySem.W.mapOf_K (prog := X.prog) (w := X.w) I.kIn hl h1, fun x => ?_⟩
  obtain ⟨l⟩ := es
  have := h2 x
  unfold findBy
  rw [List.find?_toArray]
  exact this
theorem ix_ktab {ad : Addr} {t : Tab} (k : KTab X ad t) : IxR X (fun x y H Q => ∃ z w, x = .ref ad ∧ y = .str z ∧ tLook t z = some w ∧ Q (.str w) H) := by
  rintro value slice pins s σ H _ _ v u Q I rx ry ⟨z, w, rfl, rfl, hl, q⟩ hs
  obtain rfl : v = Value.ref ad := rx
  obtain ⟨tk, rfl⟩ := ry
  obtain ⟨f, hm, hf⟩ := k.map I
  rcases hf z with ⟨_, g⟩ | ⟨y, kk, g1, g2⟩
  · rw [hl] at g; cases g
  · rw [hl] at g2; cases g2
    exact tail_any hm.typeIs slot_dict_getitem.lookup (wpAny_getItem_of (strKind_is X.prog X.w z tk) hm g1 ⟨.str w, H, I.tok _, ⟨_, rfl⟩, q⟩) hs
theorem in_ktab {ad : Addr} {t : Tab} (k : KTab X ad t) : OpR X (compareOp .In) (fun y x H Q => ∃ z, y = .str z ∧ x = .ref ad ∧ Q (.bl (tLook t z).isSome) H) := by
  rintro pins s σ H _ _ v u Q I rx ry ⟨z, rfl, rfl, q⟩
  obtain rfl : u = Value.ref ad := ry
  obtain ⟨tk, rfl⟩ := rx
  obtain ⟨f, hm, hf⟩ := k.map I
  refine wpAny_in_of (strKind_is X.prog X.w z tk) k.sys hm ?_
  refine ⟨.bl (tLook t z).isSome, H, I.tok _, ?_, q⟩
  rcases hf z with ⟨g1, g2⟩ | ⟨y, kk, g1, g2⟩
  · rw [g1, g2]; rfl
  · rw [g1, g2]; rfl
theorem notin_ktab {ad : Addr} {t : Tab} (k : KTab X ad t) : OpR X (compareOp .NotIn) (fun y x H Q => ∃ z, y = .str z ∧ x = .ref ad ∧ Q (.bl (!(tLook t z).isSome)) H) := by
  rintro pins s σ H _ _ v u Q I rx ry ⟨z, rfl, rfl, q⟩
  obtain rfl : u = Value.ref ad := ry
  obtain ⟨tk, rfl⟩ := rx
  obtain ⟨f, hm, hf⟩ := k.map I
  refine wpAny_notIn_of (strKind_is X.prog X.w z tk) k.sys hm ?_
  refine ⟨.bl (!(tLook t z).isSome), H, I.tok _, ?_, q⟩
  rcases hf z with ⟨g1, g2⟩ | ⟨y, kk, g1, g2⟩
  · rw [g1, g2]; rfl
  · rw [g1, g2]; rfl
def tsOf : D → Option Str
  | .str x => some x
  | _ => none
theorem tsOf_of {d : D} {x : Str} (h : tsOf d = some x) : d = .str x := by
  unfold tsOf at h
  split at h
  · cases h; rfl
  · cases h
/-- what is looked at is a text -/
def onT (r : Rho) (x : R) (K : Str → Prop) : Prop := onO (look r x) fun d => onO (tsOf d) K
theorem onT.ex {r : Rho} {x : R} {K : Str → Prop} (h : onT r x K) : ∃ z, look r x = some (.str z) ∧ K z := by
  obtain ⟨d, e1, h1⟩ := onO.ex h
  obtain ⟨z, e2, h2⟩ := onO.ex h1
  cases tsOf_of e2
  exact ⟨z, e1, h2⟩
def mKix (t : Tab) (mb : ME) : ME := fun r P => mb r fun y r1 => onT r1 y.tmp fun z => onO (tLook t z) fun w => P (.val (.str w)) r1
def mKin (neg : Bool) (t : Tab) (mb : ME) : ME := fun r P => mb r fun y r1 => onT r1 y.tmp fun z => P (.val (.bool (if neg then !(tLook t z).isSome else (tLook t z).isSome))) r1
def mKget (t : Tab) (mb mc : ME) : ME := fun r P => mb r fun y r1 => mc r1 fun z r2 => onT r2 y.tmp fun k => onP (hold r2 z.tmp) fun qa qb => P (.val (match tLook t k with | some w => .str w | none => qa)) qb
theorem de_kix {ad : Addr} {t : Tab} (hg : Gl X x) (hm : X.mg x = some (.ref ad)) (k : KTab X ad t) (hb : DE X b mb) (hs : PlainIx b := by intro _ _; rfl) (hd : (x == ("__debug__" : Str)) = false := by decide) : DE X (.Subscript (.Name x p) b pos) (mKix t mb) := fun e =>
  PE.imp (pe_ix (ix_ktab k) (pe_glob (v := .ref ad) hg hm rfl hd) (hb.tmp e) hs) fun s H Q ⟨F, r, ko, P, hm, hP⟩ => ⟨F, r, ko, fun y r1 => onT r1 y fun z => onO (tLook t z) fun w => P (.val (.str w)) r1, hm, by
    intro y r1 v F1 H1 hx k1 q1 t1
    obtain ⟨z, el, hx2⟩ := onT.ex hx
    obtain ⟨w, et, hp⟩ := onO.ex hx2
    exact ⟨z, w, rfl, (t1.look k1 el).str, et, hP _ r1 _ F1 H1 hp k1 q1 (.val (.str w))⟩⟩
theorem de_kin {ad : Addr} {t : Tab} (hg : Gl X x) (hm : X.mg x = some (.ref ad)) (k : KTab X ad t) (hb : DE X b mb) (hmk : behindInMarks .In (.Name x p) = false := by rfl) (hd : (x == ("__debug__" : Str)) = false := by decide) : DE X (.Compare b [.In] [.Name x p] pos) (mKin false t mb) := fun e =>
  PE.imp (pe_cmpR (in_ktab k) (hb.tmp e) (pe_glob (v := .ref ad) hg hm rfl hd) hmk) fun s H Q ⟨F, r, ko, P, hm, hP⟩ => ⟨F, r, ko, fun y r1 => onT r1 y fun z => P (.val (.bool (tLook t z).isSome)) r1, hm, by
    intro y r1 v F1 H1 hx k1 q1 t1
    obtain ⟨z, el, hp⟩ := onT.ex hx
    exact ⟨z, (t1.look k1 el).str, rfl, hP _ r1 _ F1 H1 hp k1 q1 (.val (.bl _))⟩⟩
theorem de_knotin {ad : Addr} {t : Tab} (hg : Gl X x) (hm : X.mg x = some (.ref ad)) (k : KTab X ad t) (hb : DE X b mb) (hmk : behindInMarks .NotIn (.Name x p) = false := by rfl) (hd : (x == ("__debug__" : Str)) = false := by decide) : DE X (.Compare b [.NotIn] [.Name x p] pos) (mKin true t mb) := fun e =>
  PE.imp (pe_cmpR (notin_ktab k) (hb.tmp e) (pe_glob (v := .ref ad) hg hm rfl hd) hmk) fun s H Q ⟨F, r, ko, P, hm, hP⟩ => ⟨F, r, ko, fun y r1 => onT r1 y fun z => P (.val (.bool (!(tLook t z).isSome))) r1, hm, by
    intro y r1 v F1 H1 hx k1 q1 t1
    obtain ⟨z, el, hp⟩ := onT.ex hx
    exact ⟨z, (t1.look k1 el).str, rfl, hP _ r1 _ F1 H1 hp k1 q1 (.val (.bl _))⟩⟩
theorem de_kget {ad : Addr} {t : Tab} (hg : Gl X x) (hm : X.mg x = some (.ref ad)) (k : KTab X ad t) (hb : DE X b mb) (hc : DE X c mc) (m : M2 X (.Name x p) "get" apos b c pos := by exact ⟨rfl, rfl, rfl, rfl⟩) (hd : (x == ("__debug__" : Str)) = false := by decide) :
    DE X (.Call (.Attribute (.Name x p) "get" apos) [b, c] [] pos) (mKget t mb mc) := fun e => by
  refine ⟨fun pins s σ H Q I ⟨F, r, ko, P, hm1, hP⟩ => ?_⟩
  refine wpAny_Call_method m.base m.few m.line PySem.F.plainAttrs_dict PySem.F.slot_dict_get PySem.F.type_dict_get (ld_glob I hg hm ?_ hd)
  obtain ⟨es, n, hl, hbb⟩ := k.ex
  obtain ⟨f, hmp, hf⟩ := k.map I
  refine ⟨hmp.typeIs, fun b e => by cases e; exact ⟨_, I.kIn _ _ hl, rfl⟩, ?_⟩
  rw [m.trees]
  refine Calls.callWith_builtin rfl (Calls.evalArgs_plain (Calls.spliced_cons (thn ((hb.tmp e).run pins s σ H _ I ⟨F, r, ko, fun y r1 => mc r1 fun z r2 => onT r2 y fun k => onP (hold r2 z.tmp) fun qa qb => P (.val (match tLook t k with | some w => .str w | none => qa)) qb, hm1, fun y r1 v F1 H1 hp k1 q1 t1 => (⟨F1, r1, k1, fun z r2 => onT r2 y fun k => onP (hold r2 z) fun qa qb => P (.val (match tLook t k with | some w => .str w | none => qa)) qb, hp, ?_⟩ : Tt X.K e (mTmp mc) σ H1 fun v2 H2 => ∃ k d F2 r2, v = .str k ∧ Rp X.K F2 v2 d ∧ Ok X.K e F2 r2 σ H2 ∧ Sub F F2 ∧ P (.val (match tLook t k with | some w => .str w | none => d)) r2)⟩) fun iv s2 ⟨y, H2, I2, ry, q2⟩ =>
    Calls.spliced_cons (thn ((hc.tmp e).run pins s2 σ H2 _ I2 q2) fun fv s3 ⟨z, H3, I3, rz, k3, d3, F3, r3, e3, rp3, ok3, sb3, hp3⟩ => Calls.spliced_nil ?_))))
  · intro z r2 v2 F2 H2 hx k2 q2 t2
    obtain ⟨k, el, hx2⟩ := onT.ex hx
    obtain ⟨d, r3, ed, hp2⟩ := onP.ex hx2
    have lv := ((t1.mono q2).look k2 el).str
    obtain ⟨F3, k3, q3, rp3⟩ := t2.hold k2 ed
    exact ⟨k, d, F3, r3, lv, rp3, k3, (q1.trans q2).trans q3, hp2⟩
  · subst e3
    obtain ⟨tk, rfl⟩ := ry
    obtain ⟨f, hmp, hf⟩ := k.map I3
    refine call_meetsIn PySem.F.slot_dict_get hmp.typeIs PySem.F.entry_dict_get (PySem.F.args_dict_get_3 _ _ _) (meets_dict_get_default (strKind X.prog X.w) ad (strKind_is X.prog X.w k3 tk) k.sys fv) ⟨_, hmp, ?_⟩
    rcases hf k3 with ⟨g1, g2⟩ | ⟨y, kk, g1, g2⟩
    · rw [g2] at hp3
      rw [g1]
      exact ⟨z, H3, I3.tok _, rz, hP _ r3 z F3 H3 hp3 ok3 sb3 (.val rp3)⟩
    · rw [g2] at hp3
      rw [g1]
      exact ⟨.str y, H3, I3.tok _, ⟨_, rfl⟩, hP _ r3 _ F3 H3 hp3 ok3 sb3 (.val (.str y))⟩
end
end DL
namespace DL
open PySem L2 PyProof.Rows
/-! ### dicts -/
def kOf : D → Option Key
  | .int i => some (.inl i)
  | .str x => some (.inr x)
  | _ => none
theorem kOf_kD (k : Key) : kOf (kD k) = some k := by cases k <;> rfl
theorem kOf_some {d : D} {k : Key} (h : kOf d = some k) : d = kD k := by
  cases d <;> simp [kOf] at h <;> subst h <;> rfl
theorem Rp.key {K : Fg} {F : Hp} {v : V} {k : Key} (h : Rp K F v (kD k)) : v = kV k := by
  cases k with
  | inl i => cases h; rfl
  | inr i => cases h; rfl
theorem Lk.key {K : Fg} {F H : Hp} {v : V} {d : D} {k : Key} (h : Lk K F H v d) (e : kOf d = some k) : v = kV k := by
  cases kOf_some e
  cases k with
  | inl i => exact h.int
  | inr i => exact h.str
def dGet (kvs : List (D × D)) (k : Key) : Option D := (kvs.find? fun p => decide (kOf p.1 = some k)).map (·.2)
def keyed (kvs : List (D × D)) : Bool := kvs.all fun p => (kOf p.1).isSome
theorem val_get {K : Fg} {F : Hp} {k : Key} : ∀ {kvs : List (Key × V)} {ds : List (D × D)}, ds.map (·.1) = kvs.map (fun p => kD p.1) → RpA K F (kvs.map (·.2)) (ds.map (·.2)) →
    (valV kvs k = none ∧ dGet ds k = none) ∨ ∃ v d, valV kvs k = some v ∧ dGet ds k = some d ∧ Rp K F v d
  | [], [], _, _ => .inl ⟨rfl, rfl⟩
  | [], _ :: _, e, _ => by cases e
  | _ :: _, [], e, _ => by cases e
  | (k0, v0) :: kvs, (dk, dv) :: ds, e, r => by
    simp only [List.map_cons, List.cons.injEq] at e
    cases r with | cons r1 r2 =>
    obtain ⟨e1, e2⟩ := e
    simp only at e1 r1
    subst e1
    by_cases q : k0 = k
    · subst q
      exact .inr ⟨v0, dv, valV_pos rfl, by simp [dGet, List.find?_cons, kOf_kD], r1⟩
    · have := val_get (k := k) e2 r2
      rw [valV_neg (show ¬ (k0, v0).1 = k from q)]
      have hh : dGet ((kD k0, dv) :: ds) k = dGet ds k := by simp [dGet, List.find?_cons, kOf_kD, q]
      rw [hh]
      exact this
theorem kD_ne {k : Key} {l : List Key} : kD k ≠ ktD l := by cases k <;> simp [kD, ktD]
/-- a dict with plain keys, seen -/
theorem Lk.dk {K : Fg} {F H : Hp} {v : V} {ds : List (D × D)} (h : Lk K F H v (.dict ds)) (hs : Sub F H) (hk : keyed ds = true) (hn : ds ≠ []) : ∃ a kvs, v = .ref a ∧ H a = some (.dK kvs) ∧ ds.map (·.1) = kvs.map (fun p => kD p.1) ∧ RpA K F (kvs.map (·.2)) (ds.map (·.2)) := by
  have no : ∀ kvs : List (List Key × V), ds.map (·.1) = kvs.map (fun p => ktD p.1) → False := by
    intro kvs e
    cases ds with
    | nil => exact hn rfl
    | cons d ds =>
      cases kvs with
      | nil => cases e
      | cons p kvs =>
        simp only [List.map_cons, List.cons.injEq] at e
        simp only [keyed, List.all_cons, Bool.and_eq_true] at hk
        rw [e.1] at hk
        simp [ktD, kOf] at hk
  generalize hd : (PyData.dict ds : D) = d at h
  cases h with
  | rp a =>
    subst hd
    cases a with
    | dct g1 g2 g3 g4 =>
      rcases g1 with ⟨kvs, w1, w2, w3⟩ | ⟨kvs, w1, w2, w3⟩
      · subst w2 w3 g4
        exact ⟨_, kvs, rfl, hs _ _ w1, g3, g2⟩
      · subst w2 w3 g4
        exact (no kvs g3).elim
  | @mo p o m a b =>
    cases b with
    | L _ => cases hd
    | K w1 w2 => cases hd; exact ⟨p, _, rfl, a, w1, w2⟩
    | T w1 w2 => cases hd; exact (no _ w1).elim
section
variable {X : Cx} {a b c : Expr} {ma mb mc : ME} {pos p p' apos : Pos} {x : Str} {i : Nat}
theorem ix_dict (hu : X.A.units + 1 < cLine) : IxR X (fun x y H Q => ∃ a v, x = .ref a ∧ DGet H a y (some v) ∧ Q v H) := by
  rintro value slice pins s σ H _ y v u Q I rx ry ⟨a, w, rfl, hg, q⟩ hs
  obtain rfl : v = Value.ref a := rx
  exact tail_any (dict_typeIs I hg) slot_dict_getitem.lookup (d_getItem hu I hg ry fun w' s' I' r' => ⟨w, H, I', r', q⟩) hs
def fIxD : F2 := fun a b => match a with
  | .dict kvs => if keyed kvs then match kOf b with
    | some k => match dGet kvs k with
      | some d => some (.val d)
      | none => none
    | none => none
    else none
  | _ => none
def fIxA : F2 := orF fIx fIxD
theorem dGet_ne {kvs : List (D × D)} {k : Key} {d : D} (h : dGet kvs k = some d) : kvs ≠ [] := fun e => by subst e; cases h
def kIxA : D → D → (R → Prop) → Prop
  | .list ds, .int i, K => onO (atI ds i) fun d => K (.val d)
  | .tuple ds, .int i, K => onO (atI ds i) fun d => K (.val d)
  | .str x, .int i, K => Rq (x.length ≤ sizeLine) (onO (atI x.cps.toList i) fun c => K (.val (.str ⟨#[c]⟩)))
  | .dict kvs, b, K => rqB (keyed kvs) (onO (kOf b) fun k => onO (dGet kvs k) fun d => K (.val d))
  | _, _, _ => False
def oIxA : OpK := ⟨fIxA, kIxA, fun d1 d2 K h => by
  unfold kIxA at h
  split at h
  · obtain ⟨d, e, q⟩ := onO.ex h
    exact ⟨_, by simp only [fIxA, orF, fIx, e], q⟩
  · obtain ⟨d, e, q⟩ := onO.ex h
    exact ⟨_, by simp only [fIxA, orF, fIx, e], q⟩
  · obtain ⟨c, e, q⟩ := onO.ex (Rq.a h)
    exact ⟨_, by simp only [fIxA, orF, fIx, if_pos (Rq.c h), e], q⟩
  · obtain ⟨h1, h2⟩ := rqB.ex h
    obtain ⟨k, e, q⟩ := onO.ex h2
    obtain ⟨d, e2, q2⟩ := onO.ex q
    exact ⟨_, by simp only [fIxA, orF, fIx, fIxD, h1, if_true, e, e2], q2⟩
  · exact h.elim⟩
theorem de_ixA (hu : X.A.units + 1 < cLine) (ha : DE X a ma) (hb : DE X b mb) (hs : PlainIx b := by intro _ _; rfl) : DE X (.Subscript a b pos) (mOp oIxA ma mb) := fun e =>
  PE.imp (pe_ix (IxR.or (ix_dict hu) (IxR.or ix_list (IxR.or ix_tup ix_str))) (ha.tmp e) (hb.tmp e) hs) fun s H Q h => mOp_read (fun e F r s H v1 v2 d1 d2 z Q k l1 l2 ef w => by
    simp only [oIxA] at ef
    unfold fIxA orF at ef
    split at ef
    · rename_i y hy
      cases ef
      unfold fIx at hy
      split at hy
      · split at hy
        · rename_i hd; cases hy
          obtain ⟨p, xs, e1, h1, r1⟩ := l1.lst k.sub
          obtain ⟨v, g1, g2⟩ := r1.at hd
          exact .inr (.inl ⟨p, xs, _, v, e1, l2.int, .inl h1, g1, w _ F H k (Sub.refl F) (.val g2)⟩)
        · cases hy
      · split at hy
        · rename_i hd; cases hy
          obtain ⟨p, xs, e1, h1, r1, _⟩ := l1.tup k.sub
          obtain ⟨v, g1, g2⟩ := r1.at hd
          exact .inr (.inr (.inl ⟨p, xs, _, v, e1, l2.int, h1, g1, w _ F H k (Sub.refl F) (.val g2)⟩))
        · cases hy
      · split at hy
        · rename_i hz
          split at hy
          · rename_i hd; cases hy
            exact .inr (.inr (.inr ⟨_, _, _, l1.str, l2.int, hz, hd, w _ F H k (Sub.refl F) (.val (.str _))⟩))
          · cases hy
        · cases hy
      · cases hy
    · unfold fIxD at ef
      split at ef
      · split at ef
        · rename_i hk
          split at ef
          · rename_i k0 ek
            split at ef
            · rename_i d ed; cases ef
              obtain ⟨ad, kvs, e1, h1, h2, h3⟩ := l1.dk k.sub hk (dGet_ne ed)
              rcases val_get (k := k0) h2 h3 with ⟨_, n⟩ | ⟨v, d', g1, g2, g3⟩
              · rw [ed] at n; cases n
              · rw [ed] at g2; cases g2
                have ey := l2.key ek
                subst ey
                refine .inl ⟨ad, v, e1, ?_, w _ F H k (Sub.refl F) (.val g3)⟩
                have := DGet.k (k := k0) h1
                rw [g1] at this
                exact this
            · cases ef
          · cases ef
        · cases ef
      · cases ef) h
/-! ### {k: v, ..} -/
inductive DPs (X : Cx) : List (Option Expr) → List Expr → List (ME × ME) → Prop
  | nil : DPs X [] [] []
  | cons {k v : Expr} {ks : List (Option Expr)} {vs : List Expr} {mk mv : ME} {ms : List (ME × ME)} : DE X k mk → DE X v mv → DPs X ks vs ms → DPs X (some k :: ks) (v :: vs) ((mk, mv) :: ms)
def tEx (K : Fg) (m : ME) : TE := fun s H Q => ∃ e, Tt K e (mTmp m) s H Q
theorem DPs.pps {ks : List (Option Expr)} {vs : List Expr} {ms : List (ME × ME)} (h : DPs X ks vs ms) : PPs X pos ks vs (ms.map fun p => (tEx X.K p.1, tEx X.K p.2)) := by
  induction h with
  | nil => exact pps_nil
  | cons h1 h2 _ ih => exact pps_cons ⟨fun pins s σ H Q I ⟨e, q⟩ => (h1.tmp e).run pins s σ H Q I q⟩ ⟨fun pins s σ H Q I ⟨e, q⟩ => (h2.tmp e).run pins s σ H Q I q⟩ ih
def mPairs : List (ME × ME) → Rho → (List (D × D) → Rho → Prop) → Prop
  | [], r, P => P [] r
  | m :: ms, r, P => m.1 r fun x r1 => onP (hold r1 x.tmp) fun qa qb => m.2 qb fun y r3 => onP (hold r3 y.tmp) fun qc qd => mPairs ms qd fun ps r5 => P ((qa, qc) :: ps) r5
theorem pairs_read {e : En} {s : L2.St} : ∀ {ms : List (ME × ME)} {F : Hp} {r : Rho} {H : Hp} {P : List (D × D) → Rho → Prop} {Q : List (V × V) → Hp → Prop}, Ok X.K e F r s H → mPairs ms r P →
    (∀ ps r' vs F' H', P ps r' → Ok X.K e F' r' s H' → Sub F F' → RpA X.K F' (vs.map (·.1)) (ps.map (·.1)) → RpA X.K F' (vs.map (·.2)) (ps.map (·.2)) → Q vs H') → tPairs (ms.map fun p => (tEx X.K p.1, tEx X.K p.2)) s H Q
  | [], F, r, H, P, Q, k, hm, w => w [] r [] F H hm k (Sub.refl F) .nil .nil
  | m :: ms, F, r, H, P, Q, k, hm, w => by
    refine ⟨e, F, r, k, fun x r1 => onP (hold r1 x) fun qa qb => m.2 qb fun y r3 => onP (hold r3 y.tmp) fun qc qd => mPairs ms qd fun ps r5 => P ((qa, qc) :: ps) r5, hm, ?_⟩
    intro x r1 v1 F1 H1 hx1 k1 q1 t1
    obtain ⟨dk, r2, eh, hm2⟩ := onP.ex hx1
    obtain ⟨F2, k2, q2, rp2⟩ := t1.hold k1 eh
    refine ⟨e, F2, r2, k2, fun y r3 => onP (hold r3 y) fun qc qd => mPairs ms qd fun ps r5 => P ((dk, qc) :: ps) r5, hm2, ?_⟩
    intro y r3 v3 F3 H3 hx3 k3 q3 t3
    obtain ⟨dv, r4, eh4, hm4⟩ := onP.ex hx3
    obtain ⟨F4, k4, q4, rp4⟩ := t3.hold k3 eh4
    refine pairs_read k4 hm4 fun ps r' vs F' H' hp k' q' ra rb => w _ r' _ F' H' hp k' ((((q1.trans q2).trans q3).trans q4).trans q') ?_ ?_
    · exact .cons (rp2.mono ((q3.trans q4).trans q')) ra
    · exact .cons (rp4.mono q') rb
def keysOf : List (D × D) → Option (List Key)
  | [] => some []
  | p :: ps => match kOf p.1, keysOf ps with
    | some k, some ks => some (k :: ks)
    | _, _ => none
theorem keysOf_read {K : Fg} {F : Hp} : ∀ {ps : List (D × D)} {ks : List Key} {vs : List (V × V)}, keysOf ps = some ks → RpA K F (vs.map (·.1)) (ps.map (·.1)) → RpA K F (vs.map (·.2)) (ps.map (·.2)) →
    ∃ kvs : List (Key × V), vs = kvs.map (fun kv => (kV kv.1, kv.2)) ∧ kvs.map (·.1) = ks ∧ ps.map (·.1) = kvs.map (fun p => kD p.1) ∧ RpA K F (kvs.map (·.2)) (ps.map (·.2))
  | [], ks, vs, e, r1, r2 => by
    cases e
    cases vs with
    | nil => exact ⟨[], rfl, rfl, rfl, .nil⟩
    | cons _ _ => cases r1
  | (dk, dv) :: ps, ks, vs, e, r1, r2 => by
    cases vs with
    | nil => cases r1
    | cons v vs =>
      cases r1 with | cons a1 a2 =>
      cases r2 with | cons b1 b2 =>
      simp only [keysOf] at e
      split at e
      · rename_i k ks' e1 e2
        cases e
        obtain ⟨kvs, g1, g2, g3, g4⟩ := keysOf_read e2 a2 b2
        cases kOf_some e1
        have := a1.key
        refine ⟨(k, v.2) :: kvs, ?_, ?_, ?_, ?_⟩
        · simp only [List.map_cons, ← g1]
          congr 1
          obtain ⟨v1, v2⟩ := v
          exact Prod.ext this rfl
        · simp [g2]
        · simp [g3]
        · exact .cons b1 g4
      · cases e
theorem merge_new : ∀ (more kvs : List (Key × V)), (kvs.map (·.1) ++ more.map (·.1)).Nodup → mergeK kvs more = kvs ++ more
  | [], kvs, _ => by simp [mergeK]
  | p :: r, kvs, h => by
    have hn : valV kvs p.1 = none := by
      rw [← Option.isNone_iff_eq_none, ← Option.not_isSome, Bool.not_eq_true', ← valV_any]
      rw [List.any_eq_false]
      intro q hq e
      have e := of_decide_eq_true e
      rw [List.map_cons] at h
      have := (List.nodup_append.mp h).2.2 q.1 (List.mem_map_of_mem hq) p.1 List.mem_cons_self
      exact this e
    show mergeK (putK kvs p.1 p.2) r = _
    rw [putK_new _ hn, merge_new r]
    · simp
    · simpa using h
def mDisp (ms : List (ME × ME)) : ME := fun r P => mPairs ms r fun ps r1 => onO (keysOf ps) fun ks => Rq (ks.Nodup ∧ ps.length ≤ 15) (P (.own (.K ps)) r1)
theorem de_disp {ks : List (Option Expr)} {vs : List Expr} {ms : List (ME × ME)} (h : DPs X ks vs ms) (hall : ks.all (·.isSome) = true := by rfl) (hl : ks.length = vs.length := by rfl) (h0 : ks ≠ [] := by simp) (h15 : ks.length ≤ 15 := by decide) : DE X (.Dict ks vs pos) (mDisp ms) := fun e => by
  refine PE.imp (pe_disp (h.pps (pos := pos)) hall hl h0 h15) fun s H Q ⟨F, r, k, P, hm, hP⟩ p hp => ?_
  have fr := k.free hp
  have hF0 : e.F0 p = none := by
    cases q : e.F0 p with
    | none => rfl
    | some u => rw [k.f0 p u q] at fr; cases fr.1
  have k1 : Ok X.K (e.keep p (.dK [])) F r s (upd H p (.dK [])) := (k.alloc hp).keep upd_same fr.1 (k.nobox hp)
  refine pairs_read k1 hm ?_
  intro ps r' vs F' H' hx k' q' ra rb
  obtain ⟨ks, ek, hx2⟩ := onO.ex hx
  obtain ⟨nd, h15⟩ := Rq.c hx2
  have hp2 := Rq.a hx2
  obtain ⟨kvs, g1, g2, g3, g4⟩ := keysOf_read ek ra rb
  obtain ⟨_, w1, _⟩ := k'.unkeep fr.2.1 hF0
  have hlen : kvs.length = ps.length := by
    have := congrArg List.length g3
    simpa using this.symm
  refine ⟨w1, kvs, g1, by omega, ?_⟩
  rw [merge_new kvs [] (by simpa [g2] using nd), List.nil_append]
  obtain ⟨k2, u1, u2, u3⟩ := (k'.rekeep (o' := .dK kvs) fr.2.1 hF0).unkeep fr.2.1 hF0
  exact hP _ r' _ F' _ hp2 k2 q' (.own u1 (.K g3 g4) u2 fr.2.1 fr.2.2 u3)
end
end DL
namespace DL
open PySem L2 PyProof.Rows
/-! ### methods of texts -/
abbrev FS := Str → List D → Option R
def SmD (X : Cx) (id : String) (f : FS) : Prop := ∃ rr : V → List V → Hp → VK → Prop, MtR X id rr ∧ ∀ (e : En) (F : Hp) (r : Rho) (s : L2.St) (H : Hp) (x : Str) (vs : List V) (ds : List D) (z : R) (Q : VK),
  Ok X.K e F r s H → LkA X.K F H vs ds → f x ds = some z → (∀ v F' H', Ok X.K e F' r s H' → Sub F F' → RR X.K e F' r s H' z v → Q v H') → rr (.str x) vs H Q
/-- a method of texts and what it does, told so that it runs -/
structure SmK where
  f : FS
  k : Str → List D → (R → Prop) → Prop
  ok : ∀ x ds K, k x ds K → ∃ z, f x ds = some z ∧ K z
def stOf : R → Option Str
  | .val (.str x) => some x
  | _ => none
theorem stOf_of {x : R} {z : Str} (h : stOf x = some z) : x = .val (.str z) := by
  unfold stOf at h
  split at h
  · cases h; rfl
  · cases h
def mSm (o : SmK) (ma : ME) (ms : MA) : ME := fun r P => ma r fun x r1 => onO (stOf x) fun z => ms r1 fun xs r2 => onO (looks r2 xs) fun ds => o.k z ds fun w => P w r2
section
variable {X : Cx} {a b c : Expr} {ma mb mc : ME} {pos p p' apos : Pos} {x : Str} {i : Nat} {es : List Expr} {ms : MA}
theorem de_sm {id : String} {name : Str} {o : SmK} (hm : SmD X id o.f) (slot : Slot "str" name id) (hty : typeOf (.builtin id) = pure (.type "method_descriptor")) (ho : DE X b mb) (ha : DA X (a :: es) ms)
    (hbase : attributeBase b name X.env (eval b X.env) = eval b X.env := by rfl)
    (hfew : ((backTo pos (starEach (a :: es) X.env)).all (fun x => !x.1) && (backToKw pos (keywordEach [] X.env)).all (fun x => x.1.isSome) && decide ((a :: es).length + ([] : List Keyword).length + (if ([] : List Keyword).isEmpty then 0 else 1) < 30)) = true := by rfl)
    (hline : (apos.endLine == pos.line) = true := by rfl) (hs : starEach (a :: es) X.env = (false, eval a X.env) :: starEach es X.env := by rfl) (hplain : (backTo pos (starEach es X.env)).any (·.1) = false := by rfl) : DE X (.Call (.Attribute b name apos) (a :: es) [] pos) (mSm o mb ms) := fun e => by
  obtain ⟨rr, hr, hq⟩ := hm
  refine PE.imp (pe_bm PySem.F.plainAttrs_str slot hty hr (ho e) (ha e) hbase hfew hline hs hplain) fun s H Q ⟨F, r, k, P, hm, hP⟩ => ⟨F, r, k, _, hm, ?_⟩
  intro x r1 v F1 H1 hx1 k1 q1 t1
  obtain ⟨z, ez, hms⟩ := onO.ex hx1
  have e1 := stOf_of ez
  subst e1
  cases t1 with | val t1 =>
  cases t1
  refine ⟨rfl, F1, r1, k1, _, hms, ?_⟩
  intro xs r2 vs F2 H2 hx2 k2 q2 t2
  obtain ⟨ds, el, hx3⟩ := onO.ex hx2
  obtain ⟨w, ef, hp⟩ := o.ok _ _ _ hx3
  exact hq e F2 r2 s H2 z vs ds w Q k2 (t2.looks k2 el) ef fun v F' H' k' q' t' => hP w r2 v F' H' hp k' ((q1.trans q2).trans q') t'
theorem de_sm0 {id : String} {name : Str} {o : SmK} (hm : SmD X id o.f) (slot : Slot "str" name id) (hty : typeOf (.builtin id) = pure (.type "method_descriptor")) (ho : DE X b mb)
    (hbase : attributeBase b name X.env (eval b X.env) = eval b X.env := by rfl) (hline : (apos.endLine == pos.line) = true := by rfl) : DE X (.Call (.Attribute b name apos) [] [] pos) (mSm o mb aNil) := fun e => by
  obtain ⟨rr, hr, hq⟩ := hm
  refine PE.imp (pe_bm0 PySem.F.plainAttrs_str slot hty hr (ho e) hbase hline) fun s H Q ⟨F, r, k, P, hm, hP⟩ => ⟨F, r, k, _, hm, ?_⟩
  intro x r1 v F1 H1 hx1 k1 q1 t1
  obtain ⟨z, ez, hx2⟩ := onO.ex hx1
  have e1 := stOf_of ez
  subst e1
  obtain ⟨ds, el, hx3⟩ := onO.ex (show onO (looks r1 []) fun ds => o.k z ds fun w => P w r1 from hx2)
  cases el
  obtain ⟨w, ef, hp⟩ := o.ok _ _ _ hx3
  cases t1 with | val t1 =>
  cases t1
  exact ⟨rfl, hq e F1 r1 s H1 z [] [] w Q k1 .nil ef fun v F' H' k' q' t' => hP w r1 v F' H' hp k' (q1.trans q') t'⟩
/-- the lengths of a join -/
def joinLen (a : Str) (ys : List Str) : Nat := (ys.map (·.length)).sum + ys.length * a.length
def fJoin : FS := fun x ds => match ds with
  | [d] => match seqD d with
    | some es => match strsOf es with
      | some ys => if joinLen x ys ≤ 16777216 then some (.val (.str (Txt.join x ys))) else none
      | none => none
    | none => none
  | _ => none
theorem smd_join : SmD X "str.join" fJoin := by
  refine ⟨_, mt_join, fun e F r s H x vs ds z Q k l ef w => ?_⟩
  unfold fJoin at ef
  split at ef
  · rename_i d
    split at ef
    · rename_i es' e1
      split at ef
      · rename_i ys e2
        split at ef
        · rename_i hz; cases ef
          cases l with | cons l1 l2 =>
          cases l2
          cases d with
          | list ds =>
            cases e1
            obtain ⟨p, xs, g1, g2, g3⟩ := l1.lst k.sub
            subst g1
            refine ⟨x, p, ys, rfl, rfl, .inl ?_, hz, w _ F H k (Sub.refl F) (.val (.str _))⟩
            rw [← g3.strs e2]
            exact .inl g2
          | tuple ds =>
            cases e1
            obtain ⟨p, xs, g1, g2, g3, _⟩ := l1.tup k.sub
            subst g1
            refine ⟨x, p, ys, rfl, rfl, .inr ?_, hz, w _ F H k (Sub.refl F) (.val (.str _))⟩
            rw [← g3.strs e2]
            exact g2
          | _ => cases e1
        · cases ef
      · cases ef
    · cases ef
  · cases ef
def fSm1 (g : Str → Str → D) : FS := fun x ds => match ds with
  | [.str y] => some (.val (g x y))
  | _ => none
theorem smd_1 {id : String} {g : Str → Str → D} {gv : Str → Str → V} (hm : MtR X id (fun x xs H Q => ∃ a b, x = .str a ∧ xs = [.str b] ∧ Q (gv a b) H)) (hg : ∀ a b F, Rp X.K F (gv a b) (g a b)) : SmD X id (fSm1 g) := by
  refine ⟨_, hm, fun e F r s H x vs ds z Q k l ef w => ?_⟩
  unfold fSm1 at ef
  split at ef
  · rename_i y
    cases ef
    cases l with | cons l1 l2 =>
    cases l2
    have := l1.str
    subst this
    exact ⟨x, y, rfl, rfl, w _ F H k (Sub.refl F) (.val (hg _ _ _))⟩
  · cases ef
def fFind : FS := fSm1 fun a b => .int (Txt.find a b)
def fEnds : FS := fSm1 fun a b => .bool (Txt.endswith a b)
def fStarts : FS := fSm1 fun a b => .bool (Txt.startswith a b)
def fCount : FS := fSm1 fun a b => .int (Txt.count a b)
theorem smd_find : SmD X "str.find" fFind := smd_1 mt_find fun _ _ _ => .int _
theorem smd_endswith : SmD X "str.endswith" fEnds := smd_1 mt_endswith fun _ _ _ => .bl _
theorem smd_startswith : SmD X "str.startswith" fStarts := smd_1 mt_startswith fun _ _ _ => .bl _
theorem smd_count : SmD X "str.count" fCount := smd_1 mt_count fun _ _ _ => .int _
/-! ### f-strings -/
def kFmt (x : R) (K : R → Prop) : Prop := match x with
  | .val (.str y) => Rq (y.length ≤ sizeLine) (K (.val (.str y)))
  | .val (.int i) => Rq (i.natAbs.log2 < 1920) (K (.val (.str (toString i))))
  | _ => False
def mFmt (m : ME) : ME := fun r P => m r fun x r1 => kFmt x fun z => P z r1
theorem de_fmt (ha : DE X a ma) : DE X (.FormattedValue a (-1) none pos) (mFmt ma) := fun e =>
  PE.imp (pe_fmt (ha e)) fun s H Q ⟨F, r, k, P, hm, hP⟩ => ⟨F, r, k, _, hm, fun x r1 v F1 H1 hx k1 q1 t1 => by
    unfold kFmt at hx
    split at hx
    · cases t1 with | val t1 =>
      cases t1
      exact .inl ⟨_, rfl, Rq.c hx, hP _ r1 _ F1 H1 (Rq.a hx) k1 q1 (.val (.str _))⟩
    · cases t1 with | val t1 =>
      cases t1
      exact .inr ⟨_, rfl, Rq.c hx, hP _ r1 _ F1 H1 (Rq.a hx) k1 q1 (.val (.str _))⟩
    · exact hx.elim⟩
inductive DJ (X : Cx) : List Expr → List ME → Prop
  | nil : DJ X [] []
  | cons {e : Expr} {m : ME} {es : List Expr} {ms : List ME} : DE X e m → DJ X es ms → DJ X (e :: es) (m :: ms)
theorem DJ.pj {es : List Expr} {ms : List ME} (h : DJ X es ms) (e : En) : PJ X es (ms.map (T X.K e)) := by
  induction h with
  | nil => exact .nil
  | cons h1 _ ih => exact .cons (h1 e) ih
def mJs : List ME → Str → ME
  | [], acc => fun r P => P (.val (.str acc)) r
  | m :: ms, acc => fun r P => m r fun x r1 => onO (stOf x) fun y => Rq ((acc ++ y).length ≤ sizeLine) (mJs ms (acc ++ y) r1 P)
theorem js_read {e : En} {s : L2.St} : ∀ {ms : List ME} {acc : Str} {F : Hp} {r : Rho} {H : Hp} {P : Po} {Q : Str → Hp → Prop}, Ok X.K e F r s H → mJs ms acc r P →
    (∀ y r' F' H', P (.val (.str y)) r' → Ok X.K e F' r' s H' → Sub F F' → Q y H') → tJs (ms.map (T X.K e)) acc s H Q
  | [], acc, F, r, H, P, Q, k, hm, w => w acc r F H hm k (Sub.refl F)
  | m :: ms, acc, F, r, H, P, Q, k, hm, w => by
    refine ⟨F, r, k, _, hm, ?_⟩
    intro x r1 v F1 H1 hx1 k1 q1 t1
    obtain ⟨y, ey, hx2⟩ := onO.ex hx1
    have e1 := stOf_of ey
    subst e1
    have hz := Rq.c hx2
    have hm1 := Rq.a hx2
    cases t1 with | val t1 =>
    cases t1
    exact ⟨y, rfl, hz, js_read k1 hm1 fun z r' F' H' hp k' q' => w z r' F' H' hp k' (q1.trans q')⟩
theorem de_joined {v1 v2 : Expr} {rest : List Expr} {ms : List ME} (h : DJ X (v1 :: v2 :: rest) ms) : DE X (.JoinedStr (v1 :: v2 :: rest) pos) (mJs ms Str.empty) := fun e =>
  PE.imp (pe_joined (h.pj e)) fun s H Q ⟨F, r, k, P, hm, hP⟩ => js_read k hm fun y r' F' H' hp k' q' => hP _ r' _ F' H' hp k' q' (.val (.str y))
theorem de_joined1 (ha : DE X a ma) : DE X (.JoinedStr [a] pos) ma := fun e => pe_joined1 (ha e)
end
/-! ### running -/
def kJoin (x : Str) (ds : List D) (K : R → Prop) : Prop := match ds with
  | [d] => onO (seqD d) fun es => onO (strsOf es) fun ys => Rq (joinLen x ys ≤ 16777216) (K (.val (.str (Txt.join x ys))))
  | _ => False
def jJoin : SmK := ⟨fJoin, kJoin, fun x ds K h => by
  unfold kJoin at h
  split at h
  · obtain ⟨es, e1, h1⟩ := onO.ex h
    obtain ⟨ys, e2, h2⟩ := onO.ex h1
    exact ⟨_, by simp only [fJoin, e1, e2, if_pos (Rq.c h2)], Rq.a h2⟩
  · exact h.elim⟩
def kSm1 (g : Str → Str → D) (x : Str) (ds : List D) (K : R → Prop) : Prop := match ds with
  | [.str y] => K (.val (g x y))
  | _ => False
theorem sm1_ok (g : Str → Str → D) (x : Str) (ds : List D) (K : R → Prop) (h : kSm1 g x ds K) : ∃ z, fSm1 g x ds = some z ∧ K z := by
  unfold kSm1 at h
  split at h
  · exact ⟨_, rfl, h⟩
  · exact h.elim
def jFind : SmK := ⟨fFind, kSm1 fun a b => .int (Txt.find a b), sm1_ok _⟩
def jEnds : SmK := ⟨fEnds, kSm1 fun a b => .bool (Txt.endswith a b), sm1_ok _⟩
def jStarts : SmK := ⟨fStarts, kSm1 fun a b => .bool (Txt.startswith a b), sm1_ok _⟩
def jCount : SmK := ⟨fCount, kSm1 fun a b => .int (Txt.count a b), sm1_ok _⟩
end DL
namespace DL
open PySem L2 PyProof.Rows
/-! ### a slice of the script -/
theorem RpA.ofInts {K : Fg} {F : Hp} : ∀ (ns : List Int), RpA K F (ns.map V.int) (ns.map PyData.int)
  | [] => .nil
  | n :: ns => .cons (.int n) (RpA.ofInts ns)
def cutI (ns : List Int) (lo hi : Option Int) : List Int := (ns.drop (HT.sIx ns.length 0 lo)).take (HT.sIx ns.length ns.length hi - HT.sIx ns.length 0 lo)
theorem cutI_D (ns : List Int) (lo hi : Option Int) : cutD (ns.map PyData.int) lo hi = (cutI ns lo hi).map PyData.int := by
  unfold cutD cutI
  rw [List.length_map, List.map_take, List.map_drop]
def scOf : R → Option (List Int)
  | .scr ns => some ns
  | _ => none
theorem scOf_of {x : R} {ns : List Int} (h : scOf x = some ns) : x = .scr ns := by
  unfold scOf at h
  split at h
  · cases h; rfl
  · cases h
def mSlS (ma : ME) (ml mh : MO') : ME := fun r P => ma r fun x r1 => ml r1 fun l r2 => mh r2 fun h r3 => onO (scOf x) fun ns => P (.own (.L ((cutI ns l h).map .int))) r3
section
variable {X : Cx} {a b c : Expr} {ma mb mc : ME} {pos p p' apos : Pos} {x : Str} {i : Nat} {es : List Expr} {ms : MA} {lo hi : Option Expr} {ml mh : MO'} {p2 : Pos}
theorem de_sliceS (ha : DE X a ma) (hl : DO X lo ml) (hh : DO X hi mh) : DE X (.Subscript a (.Slice lo hi none p2) pos) (mSlS ma ml mh) := fun e =>
  PE.imp (pe_slice sl_list (ha e) (hl e) (hh e)) fun s H Q ⟨F, r, k, P, hm, hP⟩ => ⟨F, r, k, _, hm, fun x r1 v F1 H1 hx k1 q1 t1 =>
    ⟨F1, r1, k1, _, hx, fun l r2 F2 H2 hx2 k2 q2 => ⟨F2, r2, k2, _, hx2, fun h r3 F3 H3 hx3 k3 q3 => by
      obtain ⟨ns, en, hp⟩ := onO.ex hx3
      have e1 := scOf_of en
      subst e1
      cases t1 with | scr g =>
      have q := (q1.trans q2).trans q3
      refine ⟨_, _, rfl, ((q2.trans q3).trans k3.sub).sqL g, fun p np => hP _ r3 _ F3 _ hp (k3.alloc np) q ?_⟩
      rw [← cutI_D]
      exact .newL k3 np ((RpA.ofInts ns).cut l h)⟩⟩⟩
end
end DL
namespace DL
open PySem L2 PyProof.Rows
section
variable {P : Program} {w : World} {K : Fg} {mg : Str → Option Value} {base : Heap} {x qual : Str} {params : Arguments} {body : List Stmt} {scope : Scope} {dvs : List V} {kws : List (Str × V)} {f : Addr} {fd : FuncData}
/-- a def of the text by its body -/
theorem fnd_def {N ps : List Str} {k : Nat} {m : MS} (F : FunD K x qual params body scope dvs kws f fd) (S : FnScope N ps scope)
    (hbody : ∀ (cdv : Value) (A : Around) (outer : List Env) (s : Shared) (H : Hp) (E : XK), Room k (A.deeper (envOfC qual scope s.heap.objs.size f cdv)) → A.guards = some [] → DSs (cxOf CX0 P w K mg base N qual scope f cdv A outer s H E).nox body m) : FnD P w K mg base (k + 1) f fd ps (ctOf N.length m) := by
  obtain ⟨oc, od, dV, kV, doc, pm, an, cdv, ct, osl, rfl, lk, hcd, _, _⟩ := F.ex
  exact fnd_of lk hcd S fun A outer s H E hr hg => hbody cdv A outer s H E hr hg
end
/-! ### the law's end -/
section
variable {P : Program} {w : World} {K : Fg} {mg mb : Str → Option Value} {k : Nat} {fa a : Addr} {fd : FuncData} {x : Str} {c : Ct} {s1 : Shared} {vs : List Value} {ns : List Int}
/-- one call of the law in a heap that tracks at most the script -/
theorem law_run {H : Hp} (KX : K.In s1.heap) (n1 : s1.heap.Ns mainGlobals mg) (n2 : s1.heap.Ns builtinsNs mb) (n3 : ∀ x : Str, x ≠ "__name__" → mb x = bootBuiltins x) (n4 : s1.heap.NoLimit) (hg : s1.gens = #[])
    (ha : s1.heap.get? a = some { cls := .type "list", data := .seq vs.toArray }) (hr : Room k callerA)
    (F : ∀ base : Heap, K.In base → base.Ns mainGlobals mg → FnD P w K mg base k fa fd [x] c) (hbind : ∀ (s : Shared) (u : Value), BindsTo s fd ⟨[u], []⟩ [(x, u)])
    (hc : c [.scr ns] fun y _ => y = .val (.bool true)) (hO : Only H) (hS : SqL K H a (ns.map V.int)) (hok : HOk P w H s1.heap) (hA : ∀ b, H b ≠ none → b = a) (hK : H a ≠ none → K.lookup a = none) :
    codeAny (model P w) callerA (.call (.ref fa) ⟨[.ref a], []⟩) (fun r s' => r = .ok (.ret (.bool true)) ∧ OldK s1.heap s'.heap ∧ s'.os = s1.os ∧ AllBare s'.gens) s1 := by
  have free : ∀ {b : Addr} {o : Obj} {es : Array DictEntry} {ep : Nat}, s1.heap.get? b = some o → o.data = .dict es ep → H b = none := by
    intro b o es ep e d
    by_cases q : H b = none
    · exact q
    · cases hA b q
      rw [ha] at e; cases e; cases d
  have ns' : ∀ {b : Addr} {m : Str → Option Value}, s1.heap.Ns b m → (hidT s1.heap H).Ns b m := by
    rintro b m ⟨o, es, ep, e, d, r⟩
    exact ⟨o, es, ep, hidT_get e (free e d), d, r⟩
  have kin : K.In (hidT s1.heap H) := by
    intro b o e
    refine hidT_get (KX b o e) ?_
    by_cases q : H b = none
    · exact q
    · cases hA b q
      rw [hK q] at e; cases e
  obtain ⟨mc, l1, l2⟩ := n4
  have md : Mod K mg (hidT s1.heap H) := ⟨kin, ns' n1, ⟨mb, ns' n2, n3⟩, mc, ns' l1, l2⟩
  have ev : Env0 P w K mg (hidT s1.heap H) callerA [] s1 H := ⟨rfl, md, fun b o e => of_hidT e, Nat.le_of_eq (hidT_size _ _), trivial, fun b z => (by cases z), hok, .of_eq hg⟩
  have got := (F _ kin (ns' n1)).run callerA [] s1 H ⟨[.ref a], []⟩ [.ref a] [.ref a] (fun v _ => v = .bl true) (fun _ _ _ => False) hr rfl ev (hbind s1 (.ref a)) (.cons rfl .nil)
    ⟨H, [.scr ns], rfl, Sub.refl H, .cons (.scr hS) .nil, fun i j p m m' z => (by cases i <;> simp at z), _, hc, fun y as' v F' H' e1 did re => by
      subst e1
      cases re with | val rp => cases rp; rfl⟩
  refine codeAny_mono got fun r s' h => ?_
  match r, h with
  | .error e, h => exact h.elim
  | .ok .next, h => exact h.elim
  | .ok .brk, h => exact h.elim
  | .ok .cont, h => exact h.elim
  | .ok (.ret u), ⟨v, H', os, bare, un, hok', rv, q⟩ =>
    have q' : v = .bl true := q
    subst q'
    obtain rfl : u = Value.bool true := rv
    refine ⟨rfl, OldK.of_keep fun b o e => ?_, os, bare⟩
    rcases hO b with z | ⟨ob, xs, z⟩
    · exact un.keep b o e z (fun y => by cases y) (fun y => by cases y)
    · have e1 := (hok b _ z).1
      rw [e] at e1; cases e1
      exact (hok' b _ (un.frzs b _ _ z)).1
theorem law_end (KX : K.In s1.heap) (n1 : s1.heap.Ns mainGlobals mg) (n2 : s1.heap.Ns builtinsNs mb) (n3 : ∀ x : Str, x ≠ "__name__" → mb x = bootBuiltins x) (n4 : s1.heap.NoLimit) (hg : s1.gens = #[])
    (ha : s1.heap.get? a = some { cls := .type "list", data := .seq vs.toArray }) (hi : IntsAre vs ns) (hl : ns.length ≤ sizeLine) (hr : Room k callerA)
    (F : ∀ base : Heap, K.In base → base.Ns mainGlobals mg → FnD P w K mg base k fa fd [x] c) (hbind : ∀ (s : Shared) (u : Value), BindsTo s fd ⟨[u], []⟩ [(x, u)])
    (hc : c [.scr ns] fun y _ => y = .val (.bool true)) :
    codeAny (model P w) callerA (.call (.ref fa) ⟨[.ref a], []⟩) (fun r s' => r = .ok (.ret (.bool true)) ∧ OldK s1.heap s'.heap ∧ s'.os = s1.os ∧ AllBare s'.gens) s1 := by
  have go := fun {H : Hp} => law_run (H := H) KX n1 n2 n3 n4 hg ha hr F hbind hc
  have rv := vals_ints hi
  have len := hi.length
  cases hk : K.lookup a with
  | some o =>
    have e := KX a o hk
    rw [ha] at e; cases e
    refine go (H := fun _ => none) (fun _ => .inl rfl) (.inr ⟨_, vs.toArray, _, hk, rfl, rfl, rfl, ?_, rv⟩) (fun b u z => by cases z) (fun b z => (z rfl).elim) fun z => (z rfl).elim
    rw [List.size_toArray, len]; exact hl
  | none =>
    refine go (H := upd (fun _ => none) a (.frz { cls := .type "list", data := .seq vs.toArray } (.lst (ns.map V.int)))) (fun b => ?_) (.inl (.inr ⟨_, upd_same⟩)) (fun b u z => ?_) (fun b z => ?_) fun _ => hk
    · by_cases q : b = a
      · subst q; exact .inr ⟨_, _, upd_same⟩
      · exact .inl (upd_ne q)
    · by_cases q : b = a
      · subst q
        rw [upd_same] at z
        cases z
        exact ⟨ha, by rw [List.length_map]; exact hl, vs, _, rv, ha⟩
      · rw [upd_ne q] at z; cases z
    · by_cases q : b = a
      · exact q
      · exact absurd (upd_ne q) z
end
theorem walk_d {l : PySem.W.OpenLaw} {n k : Nat} {q : Program} {loose : List Str} {XP : (Str → Option Value) → Heap → Prop} {YP : World → Heap → Prop} {d : DefRec} {x : Str}
    (hn : l.most = some n) (hn2 : n ≤ sizeLine) (hdf : d.params.defaults = []) (hr : Room k callerA)
    (F : ∀ (w : World) (mg : Str → Option Value) (fa : Addr) (h : Heap), YP w h → h.Ns mainGlobals mg → mg d.name = some (.ref fa) →
      ∃ (K : Fg) (fd : FuncData) (c : Ct), K.In h ∧ (∀ (s : Shared) (u : Value), BindsTo s fd ⟨[u], []⟩ [(x, u)]) ∧ (∀ ns : List Int, ns.length ≤ n → c [.scr ns] fun y _ => y = .val (.bool true)) ∧
        ∀ base : Heap, K.In base → base.Ns mainGlobals mg → FnD l.prog w K mg base k fa fd [x] c) :
    PySem.W.WalkO q loose XP YP l.row.toRowW d [] (fun f vs => PySem.call f vs) := by
  refine Att.attach_call hn hdf fun w s0 s1 mg mb fa o pm cd doc a vs ns G Y ho hd hcd hmg hobj hints hlen hg => ?_
  obtain ⟨K, fd, c, KX, hb, hc, hF⟩ := F w mg fa _ Y G.T.g hmg
  exact law_end KX G.T.g G.T.b G.T.builtins G.T.nolimit hg hobj hints (Nat.le_trans hlen hn2) hr hF hb (hc ns hlen)
end DL
namespace DL
open PySem L2 PyProof.Rows
theorem u66 {k : Nat} {A : Around} (r : Room k A) : A.units + 66 < cLine := by have := r.un; omega
theorem u65 {k : Nat} {A : Around} (r : Room k A) : A.units + 65 < cLine := by have := r.un; omega
theorem u64 {k : Nat} {A : Around} (r : Room k A) : A.units + 64 < cLine := by have := r.un; omega
theorem u1 {k : Nat} {A : Around} (r : Room k A) : A.units + 1 < cLine := by have := r.un; omega
/-- the module's name x is the datum d -/
def Con (K : Fg) (mg : Str → Option Value) (x : Str) (d : D) : Prop := ∃ u n, mg x = some u ∧ rpB K n u d = true
/-- the module's name x is the table t -/
def TabAt (w : World) (K : Fg) (mg : Str → Option Value) (x : Str) (t : Tab) : Prop := ∃ a es n, mg x = some (.ref a) ∧ K.lookup a = some ⟨.type "dict", none, .dict es n, #[]⟩ ∧ tabB w.params es.toList t = true ∧ (a == sysModules) = false
/-- the module's name x is a def that keeps the contract c -/
structure Def (P : Program) (w : World) (K : Fg) (mg : Str → Option Value) (base : Heap) (k : Nat) (x : Str) (n : Nat) (ks : List Str) (G : List R → List R → List R) (c : Ct) : Prop where
  ex : ∃ f fd ps, mg x = some (.ref f) ∧ PySem.W.keepIn K (.ref f) = true ∧ FnD P w K mg base k f fd ps c ∧ Bd K fd ps n ks G
section
variable {X : Cx} {a b c : Expr} {ma mb mc : ME} {pos p p' apos : Pos} {x : Str} {i : Nat} {es : List Expr} {ms mk : MA} {kws : List Keyword} {k n : Nat} {ks : List Str} {G : List R → List R → List R} {ct : Ct} {t : Tab}
theorem de_con {d : D} (h : Con X.K X.mg x d) (hg : Gl X x) (hd : (x == ("__debug__" : Str)) = false := by decide) : DE X (.Name x pos) (mVal d) := by
  obtain ⟨u, n, h1, h2⟩ := h
  exact de_glob n hg h1 h2 hd
theorem de_tix (h : TabAt X.w X.K X.mg x t) (hg : Gl X x) (hb : DE X b mb) (hs : PlainIx b := by intro _ _; rfl) (hd : (x == ("__debug__" : Str)) = false := by decide) : DE X (.Subscript (.Name x p) b pos) (mKix t mb) := by
  obtain ⟨ad, es, n, h1, h2, h3, h4⟩ := h
  exact de_kix hg h1 (.of h2 h3 h4) hb hs hd
theorem de_tin (h : TabAt X.w X.K X.mg x t) (hg : Gl X x) (hb : DE X b mb) (hmk : behindInMarks .In (.Name x p) = false := by rfl) (hd : (x == ("__debug__" : Str)) = false := by decide) : DE X (.Compare b [.In] [.Name x p] pos) (mKin false t mb) := by
  obtain ⟨ad, es, n, h1, h2, h3, h4⟩ := h
  exact de_kin hg h1 (.of h2 h3 h4) hb hmk hd
theorem de_tnotin (h : TabAt X.w X.K X.mg x t) (hg : Gl X x) (hb : DE X b mb) (hmk : behindInMarks .NotIn (.Name x p) = false := by rfl) (hd : (x == ("__debug__" : Str)) = false := by decide) : DE X (.Compare b [.NotIn] [.Name x p] pos) (mKin true t mb) := by
  obtain ⟨ad, es, n, h1, h2, h3, h4⟩ := h
  exact de_knotin hg h1 (.of h2 h3 h4) hb hmk hd
theorem kin_read {e : En} {neg : Bool} {ad : Addr} {s : L2.St} {H : Hp} {Q : VK} (h : T X.K e (mKin neg t mb) s H Q) : tOp (fun y x H Q => ∃ z, y = .str z ∧ x = .ref ad ∧ Q (.bl (if neg = true then !(tLook t z).isSome else (tLook t z).isSome)) H) (Tt X.K e (mTmp mb)) (tC (.ref ad)) s H Q := by
  obtain ⟨F, r, ko, P, hm, hP⟩ := h
  refine ⟨F, r, ko, fun y r1 => onT r1 y fun z => P (.val (.bool (if neg = true then !(tLook t z).isSome else (tLook t z).isSome))) r1, hm, ?_⟩
  intro y r1 v F1 H1 hx k1 q1 t1
  obtain ⟨z, el, hp⟩ := onT.ex hx
  exact ⟨z, (t1.look k1 el).str, rfl, hP _ r1 _ F1 H1 hp k1 q1 (.val (.bl _))⟩
theorem dt_tin (h : TabAt X.w X.K X.mg x t) (hg : Gl X x) (hb : DE X b mb) (hmk : behindInMarks .In (.Name x p) = false := by rfl) (hd : (x == ("__debug__" : Str)) = false := by decide) : DT X (.Compare b [.In] [.Name x p] pos) (mTest (mKin false t mb)) := fun e => by
  obtain ⟨ad, es, n, h1, h2, h3, h4⟩ := h
  exact PT.imp (pt_cmpR (in_ktab (.of h2 h3 h4)) (hb.tmp e) (pe_glob (v := .ref ad) hg h1 rfl hd) hmk) fun s H Q h => tTest_of (fun s H Q h => kin_read h) h
theorem dt_tnotin (h : TabAt X.w X.K X.mg x t) (hg : Gl X x) (hb : DE X b mb) (hmk : behindInMarks .NotIn (.Name x p) = false := by rfl) (hd : (x == ("__debug__" : Str)) = false := by decide) : DT X (.Compare b [.NotIn] [.Name x p] pos) (mTest (mKin true t mb)) := fun e => by
  obtain ⟨ad, es, n, h1, h2, h3, h4⟩ := h
  exact PT.imp (pt_cmpR (notin_ktab (.of h2 h3 h4)) (hb.tmp e) (pe_glob (v := .ref ad) hg h1 rfl hd) hmk) fun s H Q h => tTest_of (fun s H Q h => kin_read h) h
theorem de_tget (h : TabAt X.w X.K X.mg x t) (hg : Gl X x) (hb : DE X b mb) (hc : DE X c mc) (m : M2 X (.Name x p) "get" apos b c pos := by exact ⟨rfl, rfl, rfl, rfl⟩) (hd : (x == ("__debug__" : Str)) = false := by decide) :
    DE X (.Call (.Attribute (.Name x p) "get" apos) [b, c] [] pos) (mKget t mb mc) := by
  obtain ⟨ad, es, n, h1, h2, h3, h4⟩ := h
  exact de_kget hg h1 (.of h2 h3 h4) hb hc m hd
theorem de_def (h : Def X.prog X.w X.K X.mg X.base k x n [] G ct) (hr : Room k X.A) (hgu : X.A.guards = some []) (hg : Gl X x)
    (ha : DA X (a :: es) ms) (hdb : (x == ("__debug__" : Str)) = false := by decide) (he : starEach (a :: es) X.env = (false, eval a X.env) :: starEach es X.env := by rfl) (hpl : (backTo pos (starEach es X.env)).any (·.1) = false := by rfl) :
    DE X (.Call (.Name x p) (a :: es) [] pos) (mFnK ct G n 0 ms aNil) := by
  obtain ⟨f, fd, ps, h1, h2, h3, h4⟩ := h.ex
  exact de_fn h3 hr hgu hg h1 h2 h4 ha hdb he hpl
theorem de_def0 (h : Def X.prog X.w X.K X.mg X.base k x 0 [] G ct) (hr : Room k X.A) (hgu : X.A.guards = some []) (hg : Gl X x) (hdb : (x == ("__debug__" : Str)) = false := by decide) : DE X (.Call (.Name x p) [] [] pos) (mFnK ct G 0 0 aNil aNil) := by
  obtain ⟨f, fd, ps, h1, h2, h3, h4⟩ := h.ex
  exact de_fn0 h3 hr hgu hg h1 h2 h4 hdb
theorem de_defK (h : Def X.prog X.w X.K X.mg X.base k x n ks G ct) (hr : Room k X.A) (hgu : X.A.guards = some []) (hg : Gl X x)
    (ha : DA X (a :: es) ms) (hkw : TAk X kws mk) (hall : (backToKw pos (keywordEach kws X.env)).all (·.1.isSome) = true := by rfl) (hks : (backToKw pos (keywordEach kws X.env)).filterMap (·.1) = ks := by rfl)
    (hdb : (x == ("__debug__" : Str)) = false := by decide) (he : starEach (a :: es) X.env = (false, eval a X.env) :: starEach es X.env := by rfl)
    (hpl : ((backTo pos (starEach (a :: es) X.env)).any (·.1) || (backToKw pos (keywordEach kws X.env)).any (·.1.isNone)) = false := by rfl) : DE X (.Call (.Name x p) (a :: es) kws pos) (mFnK ct G n ks.length ms mk) := by
  obtain ⟨f, fd, ps, h1, h2, h3, h4⟩ := h.ex
  exact de_fnK h3 hr hgu hg h1 h2 h4 ha hkw hall hks hdb he hpl
theorem de_defK0 (h : Def X.prog X.w X.K X.mg X.base k x 0 ks G ct) (hr : Room k X.A) (hgu : X.A.guards = some []) (hg : Gl X x)
    (hkw : TAk X kws mk) (hall : (backToKw pos (keywordEach kws X.env)).all (·.1.isSome) = true := by rfl) (hks : (backToKw pos (keywordEach kws X.env)).filterMap (·.1) = ks := by rfl)
    (hdb : (x == ("__debug__" : Str)) = false := by decide)
    (hpl : ((backTo pos (starEach [] X.env)).any (·.1) || (backToKw pos (keywordEach kws X.env)).any (·.1.isNone)) = false := by rfl) : DE X (.Call (.Name x p) [] kws pos) (mFnK ct G 0 ks.length aNil mk) := by
  obtain ⟨f, fd, ps, h1, h2, h3, h4⟩ := h.ex
  exact de_fnK0 h3 hr hgu hg h1 h2 h4 hkw hall hks hdb hpl
end
/-! ### the head's hook: defs, facts, constants, tables -/
def conB (K : Fg) (c : Str × D) : Bool := match PySem.W.nsIn K mainGlobals c.1 with
  | some (some u) => rpB K 40 u c.2
  | _ => false
def entV (e : DictEntry) : Option (Str × Int × Str) := match e.key, e.val with
  | .str x _, .str y _ => some (x, e.hash, y)
  | _, _ => none
def tabV (K : Fg) (x : Str) : Option (List (Option (Str × Int × Str))) := match PySem.W.nsIn K mainGlobals x with
  | some (some (.ref a)) => match K.lookup a with
    | some ⟨.type c, none, .dict es _, sl⟩ => (match decide (c = "dict") && (sl.isEmpty && !(a == sysModules)) with
      | true => some (es.toList.map entV)
      | false => none)
    | _ => none
  | _ => none
def tabW (P : Params) (t : Tab) : List (Option (Str × Int × Str)) := t.map fun p => some (p.1, PyData.keyHash P p.1, p.2)
theorem tabB_of {P : Params} : ∀ {es : List DictEntry} {t : Tab}, es.map entV = tabW P t → tabB P es t = true
  | [], [], _ => by rfl
  | [], _ :: _, h => by cases h
  | _ :: _, [], h => by cases h
  | e :: es, p :: t, h => by
    have h1 : entV e :: es.map entV = some (p.1, PyData.keyHash P p.1, p.2) :: tabW P t := h
    injection h1 with h2 h3
    have ih := tabB_of h3
    obtain ⟨hh, kk, vv⟩ := e
    obtain ⟨x, y⟩ := p
    unfold entV at h2
    split at h2
    · rename_i a ta b tb e1 e2
      simp only at e1 e2
      subst e1 e2
      have h4 := Option.some.inj h2
      simp only [Prod.mk.injEq] at h4
      obtain ⟨q1, q2, q3⟩ := h4
      subst q1 q2 q3
      unfold tabB
      simp [ih]
    · cases h2
abbrev AlX : Type := He.AlD × Bool × List (Option (List (Option (Str × Int × Str))))
def obsX (fa : List He.Fa) (fn : List He.DefD) (cs : List (Str × D)) (ts : List (Str × Tab)) (K : Fg) : AlX := (He.obsD fa fn K, cs.all (conB K), ts.map fun t => tabV K t.1)
def valX (fn : List He.DefD) (ts : List (Str × Tab)) (w : World) : AlX := (He.valD fn, true, ts.map fun t => some (tabW w.params t.2))
def obsXG (n : Nat) (fa : List He.Fa) (fn : List He.DefD) (cs : List (Str × D)) (ts : List (Str × Tab)) (g : Addr → Option Obj) : AlX := obsX fa fn cs ts (He.frG g (He.asD g n))
def SaysX (fa : List He.Fa) (fn : List He.DefD) (cs : List (Str × D)) (ts : List (Str × Tab)) (w : World) (K : Fg) : Prop := obsX fa fn cs ts K = valX fn ts w
def hookX (n : Nat) (fa : List He.Fa) (fn : List He.DefD) (cs : List (Str × D)) (ts : List (Str × Tab)) : PySem.W.Hook where
  α := AlX
  obs := fun s => obsXG n fa fn cs ts s.heap.get?
  val := fun w => valX fn ts w
  says := fun w h => ∃ K : Fg, K.In h ∧ SaysX fa fn cs ts w K
  of := fun _ _ e => ⟨_, He.frG_in, e⟩
  keeps := fun _ _ _ ⟨K, hK, c⟩ k => ⟨K, PySem.W.Frag.In.keeps hK k, c⟩
theorem obsXG_eq {n : Nat} {fa : List He.Fa} {fn : List He.DefD} {cs : List (Str × D)} {ts : List (Str × Tab)} {g : Addr → Option Obj} {s : Shared} (h : ∀ a, g a = s.heap.get? a) : obsXG n fa fn cs ts g = (hookX n fa fn cs ts).obs s := by
  have e : g = s.heap.get? := funext h
  rw [e] <;> rfl
section
variable {fa : List He.Fa} {fn : List He.DefD} {cs : List (Str × D)} {ts : List (Str × Tab)} {w : World} {K : Fg} {h : Heap} {mg : Str → Option Value}
theorem SaysX.defs (c : SaysX fa fn cs ts w K) : He.SaysD fa fn K := congrArg (fun z : AlX => z.1) c
theorem SaysX.con (c : SaysX fa fn cs ts w K) (X : K.In h) (G : h.Ns mainGlobals mg) (i : Nat) {x : Str} {d : D} (e : cs[i]? = some (x, d) := by rfl) : Con K mg x d := by
  have c1 : cs.all (conB K) = true := congrArg (fun z : AlX => z.2.1) c
  have c2 := List.all_eq_true.mp c1 _ (List.mem_of_getElem? e)
  unfold conB at c2
  split at c2
  · rename_i u hu
    exact ⟨u, 40, PySem.W.mg_of X G hu, c2⟩
  · cases c2
theorem SaysX.tab (c : SaysX fa fn cs ts w K) (X : K.In h) (G : h.Ns mainGlobals mg) (i : Nat) {x : Str} {t : Tab} (e : ts[i]? = some (x, t) := by rfl) : TabAt w K mg x t := by
  have c1 : ts.map (fun t => tabV K t.1) = ts.map fun t => some (tabW w.params t.2) := congrArg (fun z : AlX => z.2.2) c
  have c2 : tabV K x = some (tabW w.params t) := by
    have a1 : (ts.map (fun t => tabV K t.1))[i]? = some (tabV K x) := by rw [List.getElem?_map, e]; rfl
    have a2 : (ts.map fun t => some (tabW w.params t.2))[i]? = some (some (tabW w.params t)) := by rw [List.getElem?_map, e]; rfl
    rw [c1, a2] at a1
    exact (Option.some.inj a1).symm
  unfold tabV at c2
  split at c2
  · rename_i a ha
    split at c2
    · rename_i cc es n sl hl
      split at c2
      · rename_i hq
        simp only [Bool.and_eq_true, decide_eq_true_eq] at hq
        obtain ⟨q1, q2, q3⟩ := hq
        have e2 : sl = #[] := Array.isEmpty_iff.mp q2
        subst q1 e2
        refine ⟨a, es, n, PySem.W.mg_of X G ha, hl, tabB_of (Option.some.inj c2), ?_⟩
        simpa using q3
      · cases c2
    · cases c2
  · cases c2
end
end DL
namespace DL
open PySem L2 PyProof.Rows
/-- values by places (false) and by names (true), put in order -/
def pick {α : Type} (ix : List (Bool × Nat)) (us ws : List α) : List α := match ix with
  | [] => []
  | p :: ix => match (if p.1 = true then ws[p.2]? else us[p.2]?) with
    | some u => u :: pick ix us ws
    | none => pick ix us ws
def ixOk (n m : Nat) (ix : List (Bool × Nat)) : Bool := ix.all fun p => if p.1 = true then decide (p.2 < m) else decide (p.2 < n)
theorem pick_length {α : Type} {us ws : List α} : ∀ {ix : List (Bool × Nat)}, ixOk us.length ws.length ix = true → (pick ix us ws).length = ix.length
  | [], _ => rfl
  | p :: ix, h => by
    simp only [ixOk, List.all_cons, Bool.and_eq_true] at h
    have ih := pick_length (us := us) (ws := ws) (ix := ix) (by simpa [ixOk] using h.2)
    obtain ⟨b, i⟩ := p
    cases b with
    | true =>
      have hi : i < ws.length := by simpa using h.1
      simp [pick, List.getElem?_eq_getElem hi, ih]
    | false =>
      have hi : i < us.length := by simpa using h.1
      simp [pick, List.getElem?_eq_getElem hi, ih]
theorem vals_none {vs : List V} {us : List Value} {i : Nat} (r : Vals vs us) (h : vs[i]? = none) : us[i]? = none := by
  rw [List.getElem?_eq_none_iff] at h ⊢
  rw [← r.length]; exact h
theorem pick_vals {vs zs : List V} {us ws : List Value} (r : Vals vs us) (q : Vals zs ws) : ∀ ix : List (Bool × Nat), Vals (pick ix vs zs) (pick ix us ws)
  | [] => .nil
  | p :: ix => by
    have ih := pick_vals r q ix
    obtain ⟨b, i⟩ := p
    cases b with
    | true =>
      cases e : zs[i]? with
      | none => simp [pick, e, vals_none q e, ih]
      | some z =>
        obtain ⟨u, e2, ru⟩ := q.get e
        simp only [pick, if_pos, e, e2]
        exact .cons ru ih
    | false =>
      cases e : vs[i]? with
      | none => simp [pick, e, vals_none r e, ih]
      | some z =>
        obtain ⟨u, e2, ru⟩ := r.get e
        simp only [pick, Bool.false_eq_true, if_false, e, e2]
        exact .cons ru ih
theorem rts_get {K : Fg} {F : Hp} {s : L2.St} {xs : List R} {vs : List V} (t : RTs K F s xs vs) (i : Nat) : (xs[i]? = none ∧ vs[i]? = none) ∨ ∃ x v, xs[i]? = some x ∧ vs[i]? = some v ∧ RT K F s x v := by
  induction t generalizing i with
  | nil => exact .inl ⟨by simp, by simp⟩
  | cons a _ ih =>
    cases i with
    | zero => exact .inr ⟨_, _, rfl, rfl, a⟩
    | succ i => simpa using ih i
theorem pick_rts {K : Fg} {F : Hp} {s : L2.St} {xs zs : List R} {vs ws : List V} (t : RTs K F s xs vs) (q : RTs K F s zs ws) : ∀ ix : List (Bool × Nat), RTs K F s (pick ix xs zs) (pick ix vs ws)
  | [] => .nil
  | p :: ix => by
    have ih := pick_rts t q ix
    obtain ⟨b, i⟩ := p
    cases b with
    | true =>
      rcases rts_get q i with ⟨e1, e2⟩ | ⟨x, v, e1, e2, r⟩
      · simp [pick, e1, e2, ih]
      · simp only [pick, if_pos, e1, e2]
        exact .cons r ih
    | false =>
      rcases rts_get t i with ⟨e1, e2⟩ | ⟨x, v, e1, e2, r⟩
      · simp [pick, e1, e2, ih]
      · simp only [pick, Bool.false_eq_true, if_false, e1, e2]
        exact .cons r ih
section
variable {K : Fg} {x qual : Str} {params : Arguments} {body : List Stmt} {scope : Scope} {dvs : List V} {kws : List (Str × V)} {f : Addr} {fd : FuncData} {ps : List Str}
/-- every parameter is written, by place or by name; no defaults but keyword-only ones -/
theorem Bd.pick (F : FunD K x qual params body scope [] kws f fd) (n : Nat) (ks : List Str) (ix : List (Bool × Nat)) (hl : ix.length = ps.length) (ho : ixOk n ks.length ix = true)
    (h : ∀ (kV doc pm : Value) (an : Option Addr) (cdv ct : Value) (us ws : List Value), us.length = n → ws.length = ks.length → bindArgs (PySem.W.fnOf x qual params body scope .none kV doc pm an cdv ct) ⟨us, ks.zip ws⟩ = pure (ps.zip (DL.pick ix us ws))) : Bd K fd ps n ks (DL.pick ix) := by
  obtain ⟨oc, od, dV, kV, doc, pm, an, cdv, ct, osl, rfl, lk, hcd, hD, hK⟩ := F.ex
  rcases hD with ⟨_, rfl⟩ | ⟨e, _⟩
  · exact ⟨fun us ws => DL.pick ix us ws, fun vs zs => DL.pick ix vs zs, ⟨fun s us ws X l1 l2 => .of_eq (h kV doc pm an cdv ct us ws l1 l2), fun r q => pick_vals r q ix⟩, fun vs zs l1 l2 => by rw [pick_length (by rw [l1, l2]; exact ho), hl], fun F s xs vs zs ws t q _ _ => pick_rts t q ix⟩
  · exact absurd rfl e
/-- n values by place, the keyword-only ones lack -/
theorem Bd.dflt {dds : List D} (F : FunD K x qual params body scope [] kws f fd) (n : Nat) (hk : kws ≠ []) (hn : n + kws.length = ps.length) (hf : Flats (kws.map (·.2)) dds)
    (h : ∀ (D : Addr) (doc pm : Value) (an : Option Addr) (cdv ct : Value) (us ks : List Value), us.length = n → ks.length = kws.length →
      KwChain D ((kws.map (·.1)).zip ks) (bindArgs (PySem.W.fnOf x qual params body scope .none (.ref D) doc pm an cdv ct) ⟨us, []⟩) (ps.zip (us ++ ks))) : Bd K fd ps n [] (fun xs _ => xs ++ dds.map R.val) := by
  obtain ⟨ds, h1, h2⟩ := F.binds0 n hk hn h
  exact Bd.of h2 h1 hf (by rw [List.length_map]; exact hn)
end
theorem Def.of {P : Program} {w : World} {K : Fg} {mg : Str → Option Value} {base : Heap} {k n : Nat} {x : Str} {ks : List Str} {G : List R → List R → List R} {c : Ct} {f : Addr} {fd : FuncData} {ps : List Str} (hm : mg x = some (.ref f)) (hk : PySem.W.keepIn K (.ref f) = true) (F : FnD P w K mg base k f fd ps c) (hb : Bd K fd ps n ks G) : Def P w K mg base k x n ks G c := ⟨⟨f, fd, ps, hm, hk, F, hb⟩⟩
end DL
namespace DL
open PySem L2 PyProof.Rows
/-! ### where a running body stops -/
theorem br_b {b : Bool} {A B : Prop} (h : b = true → A) (g : b = false → B) : brK b A B := by
  cases b with
  | true => exact h rfl
  | false => exact g rfl
theorem br_d {A B p : Prop} [Decidable p] (h : p → A) (g : ¬ p → B) : brK (decide p) A B := br_b (fun e => h (of_decide_eq_true e)) fun e => g (of_decide_eq_false e)
theorem br_nd {A B p : Prop} [Decidable p] (h : ¬ p → A) (g : p → B) : brK (!decide p) A B := br_b (fun e => h (by simpa using e)) fun e => g (by simpa using e)
theorem on_i {α : Type} {o : Option α} {K : α → Prop} {a : α} (e : o = some a) (h : K a) : onO o K := by subst e; exact h
theorem brT {b : Bool} {A B : Prop} (e : b = true) (h : A) : brK b A B := by subst e; exact h
theorem brF {b : Bool} {A B : Prop} (e : b = false) (h : B) : brK b A B := by subst e; exact h
/-! ### loops -/
theorem loop_by {g : GT} {body : MS} {O : Out} (I : List D → Rho → Prop) (h : ∀ d ds r, I (d :: ds) r → (∀ r', I ds r' → loopM g body ds r' O) → loopM g body (d :: ds) r O) (h0 : ∀ r, I [] r → O.nx r) : ∀ ds r, I ds r → loopM g body ds r O
  | [], r, q => h0 r q
  | d :: ds, r, q => h d ds r q fun r' q' => loop_by I h h0 ds r' q'
theorem lc_by {vs : List Nat} {g : GT} {tt : MT} {te : ME} {P : List D → Rho → Prop} (I : List D → List D → Rho → Prop) (h : ∀ d ds acc r, I (d :: ds) acc r → (∀ acc' r', I ds acc' r' → lcM vs g tt te P ds acc' r') → lcM vs g tt te P (d :: ds) acc r) (h0 : ∀ acc r, I [] acc r → P acc r) : ∀ ds acc r, I ds acc r → lcM vs g tt te P ds acc r
  | [], acc, r, q => h0 acc r q
  | d :: ds, acc, r, q => h d ds acc r q fun acc' r' q' => lc_by I h h0 ds acc' r' q'
/-! ### values -/
theorem shaped_ints (cs : List Int) : SeqAt.shaped (.list (cs.map PyData.int)) = true := by
  have h1 : ∀ cs : List Int, PyData.canLayAll0 (cs.map PyData.int) = true := fun cs => by
    induction cs with
    | nil => rfl
    | cons c cs ih => simp [PyData.canLayAll0, PyData.canLay0, ih]
  have h2 : ∀ cs : List Int, PyData.depthAll (cs.map PyData.int) = 0 := fun cs => by
    induction cs with
    | nil => rfl
    | cons c cs ih => simp [PyData.depthAll, PyData.depth, ih]
  simp [SeqAt.shaped, PyData.canLay0, PyData.depth, h1, h2]
theorem at_ints (cs : List Int) {i : Int} (h0 : 0 ≤ i) (h1 : i < cs.length) : ∃ c, atI (cs.map PyData.int) i = some (.int c) := by
  have hl : i.toNat < cs.length := by omega
  refine ⟨cs[i.toNat], ?_⟩
  unfold atI ixN
  rw [List.length_map, if_pos h0, if_pos h1]
  simp [hl]
theorem mul_bd {a b A B : Int} (h1 : 0 ≤ a) (h2 : a ≤ A) (h3 : 0 ≤ b) (h4 : b ≤ B) : 0 ≤ a * b ∧ a * b ≤ A * B := ⟨Int.mul_nonneg h1 h3, Int.mul_le_mul h2 h4 h3 (by omega)⟩
theorem at_lt {α : Type} {ds : List α} {v : Int} (h0 : 0 ≤ v) (h1 : v < ds.length) : ∃ d, atI ds v = some d ∧ d ∈ ds := by
  have hl : v.toNat < ds.length := by omega
  refine ⟨ds[v.toNat], ?_, List.getElem_mem hl⟩
  unfold atI ixN
  rw [if_pos h0, if_pos h1]
  simp [hl]
theorem at_all {α : Type} {ds : List α} {v : Int} (p : α → Prop) (h0 : 0 ≤ v) (h1 : v < ds.length) (h : ∀ d ∈ ds, p d) : ∃ d, atI ds v = some d ∧ p d := by
  obtain ⟨d, e, m⟩ := at_lt h0 h1
  exact ⟨d, e, h d m⟩
/-! ### loops whose states hang on one thing, on two -/
theorem lc_st {vs : List Nat} {g : GT} {tt : MT} {te : ME} {P : List D → Rho → Prop} {S : Type} {F : S → Rho} (J : List D → List D → S → Prop) {ds acc : List D} {p : S} (hj : J ds acc p)
    (h : ∀ d ds acc p, J (d :: ds) acc p → (∀ acc' p', J ds acc' p' → lcM vs g tt te P ds acc' (F p')) → lcM vs g tt te P (d :: ds) acc (F p)) (h0 : ∀ acc p, J [] acc p → P acc (F p)) : Lc vs g tt te P ds acc (F p) := by
  refine ⟨lc_by (fun ds acc r => ∃ p, r = F p ∧ J ds acc p) ?_ ?_ ds acc (F p) ⟨p, rfl, hj⟩⟩
  · rintro d ds acc r ⟨p, rfl, q⟩ ih
    exact h d ds acc p q fun acc' p' q' => ih acc' _ ⟨p', rfl, q'⟩
  · rintro acc r ⟨p, rfl, q⟩
    exact h0 acc p q
theorem lc_st2 {vs : List Nat} {g : GT} {tt : MT} {te : ME} {P : List D → Rho → Prop} {S T : Type} {F : S → T → Rho} (J : List D → List D → S → T → Prop) {ds acc : List D} {p : S} {q : T} (hj : J ds acc p q)
    (h : ∀ d ds acc p q, J (d :: ds) acc p q → (∀ acc' p' q', J ds acc' p' q' → lcM vs g tt te P ds acc' (F p' q')) → lcM vs g tt te P (d :: ds) acc (F p q)) (h0 : ∀ acc p q, J [] acc p q → P acc (F p q)) : Lc vs g tt te P ds acc (F p q) := by
  refine ⟨lc_by (fun ds acc r => ∃ p q, r = F p q ∧ J ds acc p q) ?_ ?_ ds acc (F p q) ⟨p, q, rfl, hj⟩⟩
  · rintro d ds acc r ⟨p, q, rfl, z⟩ ih
    exact h d ds acc p q z fun acc' p' q' z' => ih acc' _ ⟨p', q', rfl, z'⟩
  · rintro acc r ⟨p, q, rfl, z⟩
    exact h0 acc p q z
theorem lp_st {g : GT} {body : MS} {O : Out} {S : Type} {F : S → Rho} (J : List D → S → Prop) {ds : List D} {p : S} (hj : J ds p)
    (h : ∀ d ds p, J (d :: ds) p → (∀ p', J ds p' → loopM g body ds (F p') O) → loopM g body (d :: ds) (F p) O) (h0 : ∀ p, J [] p → O.nx (F p)) : Lp g body ds (F p) O := by
  refine ⟨loop_by (fun ds r => ∃ p, r = F p ∧ J ds p) ?_ ?_ ds (F p) ⟨p, rfl, hj⟩⟩
  · rintro d ds r ⟨p, rfl, q⟩ ih
    exact h d ds p q fun p' q' => ih _ ⟨p', rfl, q'⟩
  · rintro r ⟨p, rfl, q⟩
    exact h0 p q
theorem okR_of {i : Int} (h1 : -1000000000000000000 ≤ i) (h2 : i ≤ 1000000000000000000) : okR i = true := Nat.ble_eq_true_of_le (by omega)
end DL
namespace DL
open PySem L2 PyProof.Rows
/-! ### texts -/
def okS (x : Str) : Prop := ∀ c ∈ x.cps.toList, c < 1114112
theorem okS.ok {x : Str} (h : okS x) : PyData.strOk x = true := by
  unfold PyData.strOk
  rw [Array.all_eq_true']
  intro c hc
  exact decide_eq_true (h c (Array.mem_toList_iff.mpr hc))
theorem okS_append {x y : Str} (h : okS x) (g : okS y) : okS (x ++ y) := by
  intro c hc
  have e : (x ++ y).cps.toList = x.cps.toList ++ y.cps.toList := by
    show (x.cps ++ y.cps).toList = _
    simp
  rw [e, List.mem_append] at hc
  rcases hc with hc | hc
  · exact h c hc
  · exact g c hc
theorem okS_empty : okS Str.empty := fun c hc => by simp [Str.empty] at hc
theorem okS_one {c : Nat} (h : c < 1114112) : okS ⟨#[c]⟩ := fun d hd => by simp at hd; subst hd; exact h
theorem okS_join {sep : Str} (hs : okS sep) : ∀ {xs : List Str}, (∀ x ∈ xs, okS x) → okS (Str.join sep xs)
  | [], _ => okS_empty
  | [x], h => h x List.mem_cons_self
  | x :: y :: r, h => okS_append (okS_append (h x List.mem_cons_self) hs) (okS_join hs fun z hz => h z (List.mem_cons_of_mem _ hz))
theorem strsOf_map : ∀ xs : List Str, strsOf (xs.map PyData.str) = some xs
  | [] => rfl
  | x :: xs => by simp [strsOf, strsOf_map xs]
theorem sum_le {xs : List Str} {m : Nat} (h : ∀ x ∈ xs, x.length ≤ m) : (xs.map (·.length)).sum ≤ xs.length * m := by
  induction xs with
  | nil => simp
  | cons x xs ih =>
    have h1 := h x List.mem_cons_self
    have h2 := ih fun y hy => h y (List.mem_cons_of_mem _ hy)
    simp only [List.map_cons, List.sum_cons, List.length_cons, Nat.succ_mul]
    omega
theorem joinLen_le {a : Str} {xs : List Str} {m : Nat} (h : ∀ x ∈ xs, x.length ≤ m) : joinLen a xs ≤ xs.length * (m + a.length) := by
  have := sum_le h
  unfold joinLen
  rw [Nat.mul_add]
  omega
theorem join_len {a : Str} {xs : List Str} : (Txt.join a xs).length ≤ joinLen a xs := by
  rw [show Txt.join a xs = Str.join a xs from StrLaws.glued_eq_join a xs]
  exact StrLaws.join_length_le a xs
theorem okS_txt {sep : Str} (hs : okS sep) {xs : List Str} (h : ∀ x ∈ xs, okS x) : okS (Txt.join sep xs) := by
  rw [show Txt.join sep xs = Str.join sep xs from StrLaws.glued_eq_join sep xs]
  exact okS_join hs h
/-- of a written text -/
def okSB (x : Str) : Bool := x.cps.all (· < 1114112)
theorem okS_of {x : Str} (h : okSB x = true) : okS x := by
  intro c hc
  unfold okSB at h
  rw [Array.all_eq_true'] at h
  exact of_decide_eq_true (h c (Array.mem_toList_iff.mp hc))
/-! ### slices -/
theorem cutD_hi (ds : List D) (k : Nat) : cutD ds none (some (k : Int)) = ds.take k := by
  unfold cutD
  rw [HT.sIx_none, HT.sIx_nat, List.drop_zero, Nat.sub_zero]
  apply List.ext_getElem?
  intro i
  simp only [List.getElem?_take]
  by_cases h : i < k
  · by_cases h2 : i < ds.length
    · rw [if_pos (by omega), if_pos h]
    · rw [if_neg (by omega), if_pos h, List.getElem?_eq_none (by omega)]
  · rw [if_neg (by omega), if_neg h]
end DL
namespace DL
open PySem L2 PyProof.Rows
/-! ### readers -/
inductive W0 | nothing | never
inductive W1 | sign | but | name | again
inductive WM | row | choice
inductive WO | many | maybe | ahead | not
inductive W2 | hold | tag | make
def W0.s : W0 → Str
  | .nothing => "nothing"
  | .never => "never"
def W1.s : W1 → Str
  | .sign => "sign"
  | .but => "but"
  | .name => "name"
  | .again => "again"
def WM.s : WM → Str
  | .row => "row"
  | .choice => "choice"
def WO.s : WO → Str
  | .many => "many"
  | .maybe => "maybe"
  | .ahead => "ahead"
  | .not => "not"
def W2.s : W2 → Str
  | .hold => "hold"
  | .tag => "tag"
  | .make => "make"
inductive Rdr where
  | l0 (w : W0)
  | l1 (w : W1) (x : Str)
  | ps (w : WM) (rs : List Rdr)
  | un (w : WO) (r : Rdr)
  | bi (w : W2) (x : Str) (r : Rdr)
mutual
def Rdr.toD : Rdr → D
  | .l0 w => .tuple [.str w.s]
  | .l1 w x => .tuple [.str w.s, .str x]
  | .ps w rs => .tuple [.str w.s, .tuple (toDs rs)]
  | .un w r => .tuple [.str w.s, r.toD]
  | .bi w x r => .tuple [.str w.s, .str x, r.toD]
def toDs : List Rdr → List D
  | [] => []
  | r :: rs => r.toD :: toDs rs
end
mutual
def Rdr.dep : Rdr → Nat
  | .l0 _ => 1
  | .l1 _ _ => 1
  | .ps _ rs => deps rs + 1
  | .un _ r => r.dep + 1
  | .bi _ _ r => r.dep + 1
def deps : List Rdr → Nat
  | [] => 0
  | r :: rs => max r.dep (deps rs)
end
mutual
/-- how many parts it has -/
def Rdr.cnt : Rdr → Nat
  | .l0 _ => 1
  | .l1 _ _ => 1
  | .ps _ rs => cnts rs + 1
  | .un _ r => r.cnt + 1
  | .bi _ _ r => r.cnt + 1
def cnts : List Rdr → Nat
  | [] => 0
  | r :: rs => r.cnt + cnts rs
end
/-- a text of at most n signs -/
def Tx (n : Nat) (x : Str) : Prop := x.length ≤ n ∧ okS x
theorem Tx.mono {a b : Nat} {x : Str} (h : Tx a x) (q : a ≤ b) : Tx b x := ⟨Nat.le_trans h.1 q, h.2⟩
mutual
def Rdr.good (n : Nat) : Rdr → Prop
  | .l0 _ => True
  | .l1 _ x => Tx n x
  | .ps _ rs => rs.length ≤ 6 ∧ goods n rs
  | .un _ r => r.good n
  | .bi _ x r => Tx n x ∧ r.good n
def goods (n : Nat) : List Rdr → Prop
  | [] => True
  | r :: rs => r.good n ∧ goods n rs
end
example (w : WO) (r : Rdr) : (Rdr.un w r).toD = .tuple [.str w.s, r.toD] := by rfl
theorem toDs_map : ∀ rs : List Rdr, toDs rs = rs.map Rdr.toD
  | [] => rfl
  | r :: rs => by rw [toDs, toDs_map rs, List.map_cons]
theorem goods_iff {n : Nat} : ∀ {rs : List Rdr}, goods n rs ↔ ∀ r ∈ rs, r.good n
  | [] => by simp [goods]
  | r :: rs => by simp [goods, goods_iff (rs := rs)]
theorem deps_le {n : Nat} : ∀ {rs : List Rdr}, deps rs ≤ n ↔ ∀ r ∈ rs, r.dep ≤ n
  | [] => by simp [deps]
  | r :: rs => by simp [deps, Nat.max_le, deps_le (rs := rs)]
theorem cnts_le {n : Nat} : ∀ {rs : List Rdr}, ∀ r ∈ rs, r.cnt ≤ cnts rs
  | [], r, h => by cases h
  | q :: rs, r, h => by
    rw [cnts]
    rcases List.mem_cons.mp h with rfl | h
    · omega
    · have := cnts_le (n := n) (rs := rs) r h; omega
theorem FnD.never {P : Program} {w : World} {K : Fg} {mg : Str → Option Value} {base : Heap} {k : Nat} {f : Addr} {fd : FuncData} {ps : List Str} {c : Ct} (h : ∀ as Q, ¬ c as Q) : FnD P w K mg base k f fd ps c :=
  ⟨fun A outer s H args us vs Q E hr hg he hb hv ⟨G, as, h1, h2, h3, h4, P, h5, h6⟩ => (h _ _ h5).elim⟩
/-! ### a comprehension over known items that leaves the state -/
theorem lc_list {vs : List Nat} {g : GT} {tt : MT} {te : ME} {P : List D → Rho → Prop} {r : Rho} {α : Type} (f gv : α → D) {as : List α} (h : ∀ a ∈ as, ∀ ds acc, acc.length < sizeLine → lcM vs g tt te P ds (acc ++ [gv a]) r → lcM vs g tt te P (f a :: ds) acc r)
    (hz : as.length < sizeLine) (hp : P (as.map gv) r) : Lc vs g tt te P (as.map f) [] r := by
  have go : ∀ (bs : List α) (acc : List D), (∀ b ∈ bs, b ∈ as) → acc.length + bs.length < sizeLine → P (acc ++ bs.map gv) r → lcM vs g tt te P (bs.map f) acc r := by
    intro bs
    induction bs with
    | nil => intro acc _ _ q; simpa [lcM] using q
    | cons b bs ih =>
      intro acc hm hl q
      simp only [List.length_cons] at hl
      refine h b (hm b List.mem_cons_self) _ acc (by omega) (ih _ (fun x hx => hm x (List.mem_cons_of_mem _ hx)) ?_ (by simpa using q))
      simp only [List.length_append, List.length_cons, List.length_nil]; omega
  exact ⟨go as [] (fun _ h => h) (by simpa using hz) (by simpa using hp)⟩
theorem intsOf_map {α : Type} (f : α → Int) : ∀ as : List α, intsOf (as.map fun a => PyData.int (f a)) = some (as.map f)
  | [] => rfl
  | a :: as => by simp [intsOf, intsOf_map f as]
theorem strsOf_mapf {α : Type} (f : α → Str) : ∀ as : List α, strsOf (as.map fun a => PyData.str (f a)) = some (as.map f)
  | [] => rfl
  | a :: as => by simp [strsOf, strsOf_mapf f as]
theorem cnts_sum : ∀ rs : List Rdr, (rs.map fun r => (r.cnt : Int)).sum = (cnts rs : Int)
  | [] => rfl
  | r :: rs => by simp [cnts, cnts_sum rs]
/-! ### texts, once more -/
theorem str_ext {x y : Str} (h : x.cps.toList = y.cps.toList) : x = y := by
  obtain ⟨a⟩ := x
  obtain ⟨b⟩ := y
  simp only at h
  rw [Array.toList_inj.mp h]
theorem app_list (x y : Str) : (x ++ y).cps.toList = x.cps.toList ++ y.cps.toList := by
  show (x.cps ++ y.cps).toList = _
  simp
theorem app_len (x y : Str) : (x ++ y).length = x.length + y.length := by
  show (x.cps ++ y.cps).size = _
  simp [Str.length]
theorem app_assoc (x y z : Str) : x ++ y ++ z = x ++ (y ++ z) := str_ext (by simp [app_list])
theorem emp_app (x : Str) : Str.empty ++ x = x := str_ext (by simp [app_list, Str.empty])
theorem emp2_app (x : Str) : Str.ofString "" ++ x = x := str_ext (by rw [app_list]; rfl)
theorem app_emp2 (x : Str) : x ++ Str.ofString "" = x := str_ext (by rw [app_list, show (Str.ofString "").cps.toList = [] from rfl, List.append_nil])
theorem one_eq {c d : Nat} {s : Str} (hs : s.cps.toList = [d]) (h : (⟨#[c]⟩ : Str) = s) : c = d := by
  subst h
  simpa using hs
theorem strIn_one (c : Nat) (x : Str) : strIn ⟨#[c]⟩ x = decide (c ∈ x.cps.toList) := StrLaws.found_one x c
end DL
namespace DL
open PySem L2 PyProof.Rows
/-! ### how long what repr shows is -/
mutual
def wt : D → Nat
  | .none => 5
  | .bool _ => 6
  | .int _ => 30
  | .str x => 10 * x.length + 2
  | .list xs => wts xs + 4
  | .tuple xs => wts xs + 4
  | .dict kvs => wtk kvs + 4
def wts : List D → Nat
  | [] => 0
  | d :: ds => wt d + 2 + wts ds
def wtk : List (D × D) → Nat
  | [] => 0
  | (a, b) :: r => wt a + wt b + 4 + wtk r
end
mutual
/-- texts of signs, ints below 10^10 -/
def okD : D → Prop
  | .none => True
  | .bool _ => True
  | .int i => -10000000000 < i ∧ i < 10000000000
  | .str x => okS x
  | .list xs => okDs xs
  | .tuple xs => okDs xs
  | .dict kvs => okDk kvs
def okDs : List D → Prop
  | [] => True
  | d :: ds => okD d ∧ okDs ds
def okDk : List (D × D) → Prop
  | [] => True
  | (a, b) :: r => okD a ∧ okD b ∧ okDk r
end
theorem okDs_iff : ∀ {ds : List D}, okDs ds ↔ ∀ d ∈ ds, okD d
  | [] => by simp [okDs]
  | d :: ds => by simp [okDs, okDs_iff (ds := ds)]
theorem wts_le {n : Nat} : ∀ {ds : List D}, (∀ d ∈ ds, wt d ≤ n) → wts ds ≤ ds.length * (n + 2)
  | [], _ => by simp [wts]
  | d :: ds, h => by
    have h1 := h d List.mem_cons_self
    have h2 := wts_le (n := n) (ds := ds) fun x hx => h x (List.mem_cons_of_mem _ hx)
    rw [wts, List.length_cons, Nat.succ_mul]; omega
theorem int_len {i : Int} (h : -10000000000 < i ∧ i < 10000000000) : (toString i : String).length ≤ 11 := by
  have hlt : i.natAbs < 10 ^ 10 := by omega
  have e := (Nat.length_repr_le_iff (n := i.natAbs) (by decide : 0 < 10)).mpr hlt
  cases i with
  | ofNat m =>
    have e2 : (toString (Int.ofNat m) : String) = Nat.repr m := rfl
    rw [e2]
    have : m = (Int.ofNat m).natAbs := rfl
    rw [this]; omega
  | negSucc m =>
    have e2 : (toString (Int.negSucc m) : String) = "-" ++ Nat.repr (m + 1) := rfl
    rw [e2, String.length_append]
    have : m + 1 = (Int.negSucc m).natAbs := rfl
    rw [this]
    have : ("-" : String).length = 1 := rfl
    omega
theorem str_len (x : String) : (x : Str).length = x.length := by
  show (Str.ofString x).cps.size = _
  simp [Str.ofString, cpsOfBytes_string, String.length_toList]
theorem joinL (sep : Str) : ∀ ts : List Str, (Str.join sep ts).length ≤ (ts.map fun t => t.length + sep.length).sum
  | [] => Nat.zero_le _
  | [x] => by simp [Str.join]
  | x :: y :: r => by
    have ih := joinL sep (y :: r)
    have e : (Str.join sep (x :: y :: r)).length = x.length + sep.length + (Str.join sep (y :: r)).length := by
      show (x ++ sep ++ Str.join sep (y :: r)).length = _
      rw [app_len, app_len]
    rw [e]
    simp only [List.map_cons, List.sum_cons] at ih ⊢
    omega
theorem textFromL : ∀ (ts : List Str) (k : Nat) (acc : Str), (textFrom k acc ts).length ≤ acc.length + (ts.map fun t => t.length + 2).sum
  | [], k, acc => by show acc.length ≤ _; simp
  | t :: r, k, acc => by
    have ih := textFromL r (k + 1) (acc ++ (if k > 0 then ", " else "" : String) ++ t)
    have e : (textFrom k acc (t :: r)) = textFrom (k + 1) (acc ++ (if k > 0 then ", " else "" : String) ++ t) r := rfl
    rw [e]
    have h2 : ((if k > 0 then ", " else "" : String) : Str).length ≤ 2 := by
      split
      · decide
      · decide
    rw [app_len, app_len] at ih
    simp only [List.map_cons, List.sum_cons]
    omega
mutual
theorem shown_le : ∀ d : D, okD d → d.shown.length ≤ wt d
  | .none, _ => by decide
  | .bool b, _ => by cases b <;> decide
  | .int i, h => by
    have := int_len h
    show ((toString i : String) : Str).length ≤ 30
    rw [str_len]; omega
  | .str x, h => by
    have := StrLaws.reprText_len x fun c hc => Nat.lt_of_lt_of_le (h c hc) (by decide)
    show (reprText x).length ≤ 10 * x.length + 2
    exact this
  | .list xs, h => by
    have := shownAll_le xs h
    show (textFrom 0 "[" (PyData.shownAll xs) ++ ("]" : Str)).length ≤ wts xs + 4
    have t := textFromL (PyData.shownAll xs) 0 ("[" : Str)
    rw [app_len, show (Str.ofString "]").length = 1 from rfl]
    rw [show (Str.ofString "[").length = 1 from rfl] at t
    omega
  | .tuple xs, h => by
    have := shownAll_le xs h
    show (("(" : Str) ++ Str.join ", " (PyData.shownAll xs) ++ (if (PyData.shownAll xs).length == 1 then ",)" else ")" : String)).length ≤ wts xs + 4
    have t := joinL ", " (PyData.shownAll xs)
    have h2 : ((if (PyData.shownAll xs).length == 1 then ",)" else ")" : String) : Str).length ≤ 2 := by
      split
      · decide
      · decide
    rw [app_len, app_len, show (Str.ofString "(").length = 1 from rfl]
    rw [show (Str.ofString ", ").length = 2 from rfl] at t
    omega
  | .dict kvs, h => by
    have := shownKv_le kvs h
    show (("{" : Str) ++ Str.join ", " (PyData.shownKv kvs) ++ ("}" : Str)).length ≤ wtk kvs + 4
    have t := joinL ", " (PyData.shownKv kvs)
    rw [app_len, app_len, show (Str.ofString "{").length = 1 from rfl, show (Str.ofString "}").length = 1 from rfl]
    rw [show (Str.ofString ", ").length = 2 from rfl] at t
    omega
theorem shownAll_le : ∀ ds : List D, okDs ds → ((PyData.shownAll ds).map fun t => t.length + 2).sum ≤ wts ds
  | [], _ => by simp [PyData.shownAll, wts]
  | d :: ds, h => by
    have h1 := shown_le d h.1
    have h2 := shownAll_le ds h.2
    simp only [PyData.shownAll, wts, List.map_cons, List.sum_cons]
    omega
theorem shownKv_le : ∀ ds : List (D × D), okDk ds → ((PyData.shownKv ds).map fun t => t.length + 2).sum ≤ wtk ds
  | [], _ => by simp [PyData.shownKv, wtk]
  | (a, b) :: ds, h => by
    have h1 := shown_le a h.1
    have h3 := shown_le b h.2.1
    have h2 := shownKv_le ds h.2.2
    simp only [PyData.shownKv, wtk, List.map_cons, List.sum_cons]
    rw [app_len, app_len, show (Str.ofString ": ").length = 2 from rfl]
    omega
end
theorem log_le {i : Int} (h : -10000000000 < i ∧ i < 10000000000) : i.natAbs.log2 < 1920 := by
  by_cases z : i.natAbs = 0
  · rw [z]; decide
  · have h1 : i.natAbs < 2 ^ 40 := by
      have : (2 : Nat) ^ 40 = 1099511627776 := by decide
      omega
    have := (Nat.log2_lt z).mpr h1
    omega
mutual
theorem ok_showable : ∀ d : D, okD d → d.showable = true
  | .none, _ => rfl
  | .bool b, _ => rfl
  | .int i, h => decide_eq_true (log_le h)
  | .str x, _ => rfl
  | .list xs, h => ok_showableAll xs h
  | .tuple xs, h => ok_showableAll xs h
  | .dict kvs, h => ok_showableKv kvs h
theorem ok_showableAll : ∀ d : List D, okDs d → PyData.showableAll d = true
  | [], _ => rfl
  | d :: ds, h => by
    rw [PyData.showableAll, ok_showable d h.1, ok_showableAll ds h.2]; rfl
theorem ok_showableKv : ∀ d : List (D × D), okDk d → PyData.showableKv d = true
  | [], _ => rfl
  | (a, b) :: ds, h => by
    rw [PyData.showableKv, ok_showable a h.1, ok_showable b h.2.1, ok_showableKv ds h.2.2]; rfl
end
mutual
theorem ok_lay : ∀ d : D, okD d → d.hasDict = false → d.canLay0 = true
  | .none, _, _ => rfl
  | .bool b, _, _ => rfl
  | .int i, h, _ => rfl
  | .str x, h, _ => okS.ok h
  | .list xs, h, q => ok_layAll xs h (by simpa [PyData.hasDict] using q)
  | .tuple xs, h, q => ok_layAll xs h (by simpa [PyData.hasDict] using q)
  | .dict kvs, h, q => by simp [PyData.hasDict] at q
theorem ok_layAll : ∀ d : List D, okDs d → PyData.hasDictAll d = false → PyData.canLayAll0 d = true
  | [], _, _ => rfl
  | d :: ds, h, q => by
    simp only [PyData.hasDictAll, Bool.or_eq_false_iff] at q
    rw [PyData.canLayAll0, ok_lay d h.1 q.1, ok_layAll ds h.2 q.2]; rfl
end
/-- what repr and == ask -/
theorem repr_ok {d : D} (h : okD d) (h1 : wt d ≤ 16777216) (h2 : d.depth ≤ 64) (h3 : d.hasDict = false) : reprOk d = true := by
  have := shown_le d h
  have e : sizeLine = 16777216 := sizeLine_eq
  unfold reprOk
  rw [ok_showable d h, decide_eq_true (by omega : d.shown.length ≤ sizeLine), decide_eq_true h2, h3]; rfl
theorem shaped_ok {d : D} (h : okD d) (h2 : d.depth ≤ 64) (h3 : d.hasDict = false) : SeqAt.shaped d = true := by
  unfold SeqAt.shaped
  rw [ok_lay d h h3, decide_eq_true h2]; rfl
/-! ### readers -/
theorem W0.ok (w : W0) : okS w.s ∧ w.s.length ≤ 8 := by cases w <;> exact ⟨okS_of (by decide +kernel), by decide⟩
theorem W1.ok (w : W1) : okS w.s ∧ w.s.length ≤ 8 := by cases w <;> exact ⟨okS_of (by decide +kernel), by decide⟩
theorem WM.ok (w : WM) : okS w.s ∧ w.s.length ≤ 8 := by cases w <;> exact ⟨okS_of (by decide +kernel), by decide⟩
theorem WO.ok (w : WO) : okS w.s ∧ w.s.length ≤ 8 := by cases w <;> exact ⟨okS_of (by decide +kernel), by decide⟩
theorem W2.ok (w : W2) : okS w.s ∧ w.s.length ≤ 8 := by cases w <;> exact ⟨okS_of (by decide +kernel), by decide⟩
mutual
theorem Rdr.okD {n : Nat} : ∀ r : Rdr, r.good n → DL.okD r.toD
  | .l0 w, _ => ⟨w.ok.1, trivial⟩
  | .l1 w x, h => ⟨w.ok.1, h.2, trivial⟩
  | .ps w rs, h => ⟨w.ok.1, goods_okD rs h.2, trivial⟩
  | .un w r, h => ⟨w.ok.1, Rdr.okD r h, trivial⟩
  | .bi w x r, h => ⟨w.ok.1, h.1.2, Rdr.okD r h.2, trivial⟩
theorem goods_okD {n : Nat} : ∀ rs : List Rdr, goods n rs → okDs (toDs rs)
  | [], _ => trivial
  | r :: rs, h => ⟨Rdr.okD r h.1, goods_okD rs h.2⟩
end
mutual
theorem Rdr.wt {n : Nat} : ∀ r : Rdr, r.good n → DL.wt r.toD ≤ (10 * n + 110) * r.cnt
  | .l0 w, _ => by
    have := w.ok.2
    simp only [Rdr.toD, DL.wt, wts, Rdr.cnt]; omega
  | .l1 w x, h => by
    have := w.ok.2
    have := h.1
    simp only [Rdr.toD, DL.wt, wts, Rdr.cnt]; omega
  | .ps w rs, h => by
    have := w.ok.2
    have := goods_wt rs h.2
    have h6 := h.1
    simp only [Rdr.toD, DL.wt, wts, Rdr.cnt, Nat.mul_succ]; omega
  | .un w r, h => by
    have := w.ok.2
    have := Rdr.wt r h
    simp only [Rdr.toD, DL.wt, wts, Rdr.cnt, Nat.mul_succ]; omega
  | .bi w x r, h => by
    have := w.ok.2
    have := Rdr.wt r h.2
    have := h.1.1
    simp only [Rdr.toD, DL.wt, wts, Rdr.cnt, Nat.mul_succ]; omega
theorem goods_wt {n : Nat} : ∀ rs : List Rdr, goods n rs → wts (toDs rs) ≤ (10 * n + 110) * cnts rs + 2 * rs.length
  | [], _ => by simp [toDs, wts]
  | r :: rs, h => by
    have h1 := Rdr.wt r h.1
    have h2 := goods_wt rs h.2
    simp only [toDs, wts, cnts, List.length_cons, Nat.mul_add]; omega
end
mutual
theorem Rdr.depth : ∀ r : Rdr, r.toD.depth ≤ 2 * r.dep
  | .l0 w => by simp [Rdr.toD, PyData.depth, PyData.depthAll, Rdr.dep]
  | .l1 w x => by simp [Rdr.toD, PyData.depth, PyData.depthAll, Rdr.dep]
  | .ps w rs => by
    have := depths rs
    simp [Rdr.toD, PyData.depth, PyData.depthAll, Rdr.dep]; omega
  | .un w r => by
    have := Rdr.depth r
    simp [Rdr.toD, PyData.depth, PyData.depthAll, Rdr.dep]; omega
  | .bi w x r => by
    have := Rdr.depth r
    simp [Rdr.toD, PyData.depth, PyData.depthAll, Rdr.dep]; omega
theorem depths : ∀ rs : List Rdr, PyData.depthAll (toDs rs) ≤ 2 * deps rs
  | [] => by simp [toDs, PyData.depthAll]
  | r :: rs => by
    have h1 := Rdr.depth r
    have h2 := depths rs
    simp only [toDs, PyData.depthAll, deps]; omega
end
mutual
theorem Rdr.noDict : ∀ r : Rdr, r.toD.hasDict = false
  | .l0 w => by simp [Rdr.toD, PyData.hasDict, PyData.hasDictAll]
  | .l1 w x => by simp [Rdr.toD, PyData.hasDict, PyData.hasDictAll]
  | .ps w rs => by simp [Rdr.toD, PyData.hasDict, PyData.hasDictAll, noDicts rs]
  | .un w r => by simp [Rdr.toD, PyData.hasDict, PyData.hasDictAll, Rdr.noDict r]
  | .bi w x r => by simp [Rdr.toD, PyData.hasDict, PyData.hasDictAll, Rdr.noDict r]
theorem noDicts : ∀ rs : List Rdr, PyData.hasDictAll (toDs rs) = false
  | [] => by simp [toDs, PyData.hasDictAll]
  | r :: rs => by simp [toDs, PyData.hasDictAll, Rdr.noDict r, noDicts rs]
end
theorem hasDictAll_iff : ∀ {ds : List D}, PyData.hasDictAll ds = false ↔ ∀ d ∈ ds, d.hasDict = false
  | [] => by simp [PyData.hasDictAll]
  | d :: ds => by simp [PyData.hasDictAll, hasDictAll_iff (ds := ds)]
theorem depthAll_le {n : Nat} : ∀ {ds : List D}, PyData.depthAll ds ≤ n ↔ ∀ d ∈ ds, d.depth ≤ n
  | [] => by simp [PyData.depthAll]
  | d :: ds => by simp [PyData.depthAll, Nat.max_le, depthAll_le (ds := ds)]
end DL
namespace DL
open PySem L2 PyProof.Rows
/-! ### loops by a wish about their states -/
theorem lp_by {g : GT} {body : MS} {O : Out} {ds : List D} {r : Rho} (I : List D → Rho → Prop) (hi : I ds r) (h : ∀ d ds r, I (d :: ds) r → (∀ r', I ds r' → loopM g body ds r' O) → loopM g body (d :: ds) r O) (h0 : ∀ r, I [] r → O.nx r) : Lp g body ds r O := ⟨loop_by I h h0 ds r hi⟩
theorem lcc_by {vs : List Nat} {g : GT} {tt : MT} {te : ME} {P : List D → Rho → Prop} {ds acc : List D} {r : Rho} (I : List D → List D → Rho → Prop) (hi : I ds acc r) (h : ∀ d ds acc r, I (d :: ds) acc r → (∀ acc' r', I ds acc' r' → lcM vs g tt te P ds acc' r') → lcM vs g tt te P (d :: ds) acc r) (h0 : ∀ acc r, I [] acc r → P acc r) : Lc vs g tt te P ds acc r := ⟨lc_by I h h0 ds acc r hi⟩
theorem range_len (lo : Int) (n : Nat) : (rangeD lo n).length = n := by simp [rangeD]
theorem flatD_strs (xs : List Str) : (xs.map PyData.str).all flatD = true := by
  induction xs with
  | nil => rfl
  | cons x xs ih => simp [flatD, ih]
end DL
namespace DL
open PySem L2 PyProof.Rows
/-! ### zip over lists, tuples and texts -/
inductive Sqn where
  | L (a : Addr) (xs : List V) | T (a : Addr) (xs : List V) | S (x : Str)
def Sqn.holds (K : Fg) (H : Hp) : Sqn → Prop
  | .L a xs => SqL K H a xs
  | .T a xs => SqT K H a xs
  | .S _ => True
def Sqn.items : Sqn → List V
  | .L _ xs => xs
  | .T _ xs => xs
  | .S x => x.cps.toList.map fun c => V.str ⟨#[c]⟩
def Sqn.v : Sqn → V
  | .L a _ => .ref a
  | .T a _ => .ref a
  | .S x => .str x
def Sqn.tn (c : Sqn) (it : Addr) (i : Nat) (h : Heap) : Prop := match c with
  | .L a _ => h.IsListIter it a i
  | .T a _ => h.IsTupleIter it a i
  | .S x => ∃ t, h.IsStrIter it (strIterType x) x t i
def Sqn.ap (c : Sqn) (b : Addr) : Prop := match c with
  | .L a _ => a ≠ b
  | .T a _ => a ≠ b
  | .S _ => True
theorem Sqn.tn.obj {c : Sqn} {it : Addr} {i : Nat} {h : Heap} (t : c.tn it i h) : ∃ o, h.get? it = some o ∧ ∀ v, o.data ≠ .cell v := by
  cases c with
  | L a xs => obtain ⟨o, e, _, d⟩ := t; exact ⟨o, e, fun v q => by rw [d] at q; cases q⟩
  | T a xs => obtain ⟨o, e, _, d⟩ := t; exact ⟨o, e, fun v q => by rw [d] at q; cases q⟩
  | S x => obtain ⟨_, o, e, _, d⟩ := t; exact ⟨o, e, fun v q => by rw [d] at q; cases q⟩
theorem Sqn.tn.at {c : Sqn} {it : Addr} {i : Nat} {h h' : Heap} (t : c.tn it i h) (k : ∀ o, h.get? it = some o → h'.get? it = some o) : c.tn it i h' := by
  cases c with
  | L a xs => exact Heap.IsListIter.at t k
  | T a xs => exact Heap.IsTupleIter.at t k
  | S x => obtain ⟨u, o, e, r⟩ := t; exact ⟨u, o, k o e, r⟩
theorem Sqn.draws {X : Cx} {pins : List (Addr × Obj)} {σ : L2.St} {H : Hp} {s : Shared} {A : Around} (I : Inv X pins σ H s) (hh : A.handled = none) {c : Sqn} (h : c.holds X.K H) {it : Addr} {i : Nat} (ha : c.ap it) (t : c.tn it i s.heap) :
    ∃ (fp : List Addr) (P : Nat → Value → Prop) (St : Nat → Heap → Prop), Draws X.prog X.w A it fp c.items.length P St ∧ St i s.heap ∧ it ∈ fp ∧ (∀ j u, P j u → ∃ v, c.items[j]? = some v ∧ RelV v u) ∧ (∀ j h, St j h → c.tn it j h) ∧ ∀ b, b ≠ it → c.ap b → b ∉ fp := by
  cases c with
  | L a xs =>
    obtain ⟨its, rv, p, _⟩ := I.list h
    have hl := rv.length
    have D := Draws.list (prog := X.prog) (w := X.w) hh it a ha its.toArray
    rw [List.size_toArray, ← hl] at D
    refine ⟨_, _, _, D, ⟨t, p.isList⟩, by simp, fun j u q => ?_, fun j h q => q.1, fun b h1 h2 => ?_⟩
    · have q' : its[j]? = some u := by simpa using q
      cases e : xs[j]? with
      | none => rw [vals_none rv e] at q'; cases q'
      | some v =>
        obtain ⟨u', e1, e2⟩ := rv.get e
        rw [q'] at e1; cases e1
        exact ⟨v, e, e2⟩
    · have h2' : a ≠ b := h2
      simp only [List.mem_cons, List.not_mem_nil, or_false, not_or]
      exact ⟨h1, fun e => h2' e.symm⟩
  | T a xs =>
    obtain ⟨its, rv, p, _⟩ := I.tuple h
    have hl := rv.length
    have D := Draws.tuple (prog := X.prog) (w := X.w) hh it a ha its.toArray
    rw [List.size_toArray, ← hl] at D
    refine ⟨_, _, _, D, ⟨t, p⟩, by simp, fun j u q => ?_, fun j h q => q.1, fun b h1 h2 => ?_⟩
    · have q' : its[j]? = some u := by simpa using q
      cases e : xs[j]? with
      | none => rw [vals_none rv e] at q'; cases q'
      | some v =>
        obtain ⟨u', e1, e2⟩ := rv.get e
        rw [q'] at e1; cases e1
        exact ⟨v, e, e2⟩
    · have h2' : a ≠ b := h2
      simp only [List.mem_cons, List.not_mem_nil, or_false, not_or]
      exact ⟨h1, fun e => h2' e.symm⟩
  | S x =>
    obtain ⟨u, t⟩ := t
    have D := Draws.text (prog := X.prog) (w := X.w) hh it x u
    have hl : (Sqn.S x).items.length = x.cps.size := by simp [Sqn.items]
    rw [← hl] at D
    refine ⟨_, _, _, D, t, by simp, fun j v q => ?_, fun j h q => ⟨u, q⟩, fun b h1 h2 => by simpa using h1⟩
    obtain ⟨c, w, e1, rfl⟩ := q
    refine ⟨.str ⟨#[c]⟩, ?_, ⟨w, rfl⟩⟩
    simp only [Sqn.items, List.getElem?_map, Array.getElem?_toList, e1, Option.map_some]
def ItzG (K : Fg) (c1 c2 : Sqn) : It :=
  ⟨fun i H => c1.holds K H ∧ c2.holds K H ∧ i < c1.items.length ∧ i < c2.items.length,
    fun i H v H' => ∃ T x y, v = .ref T ∧ H T = none ∧ H' = upd H T (.tup [x, y]) ∧ c1.items[i]? = some x ∧ c2.items[i]? = some y,
    fun i H => c1.holds K H ∧ c2.holds K H ∧ (c1.items.length ≤ i ∨ c2.items.length ≤ i)⟩
/-- the cells of a zip lie apart -/
structure ZAp (z TI TO i1 i2 : Addr) (c1 c2 : Sqn) : Prop where
  TIz : TI ≠ z
  TOz : TO ≠ z
  TITO : TI ≠ TO
  TIi1 : TI ≠ i1
  TIi2 : TI ≠ i2
  TOi1 : TO ≠ i1
  TOi2 : TO ≠ i2
  i1z : i1 ≠ z
  i2z : i2 ≠ z
  i12 : i1 ≠ i2
  p1 : ∀ b ∈ [z, TI, TO, i1, i2], c1.ap b
  p2 : ∀ b ∈ [z, TI, TO, i1, i2], c2.ap b
theorem ZAp.sep {z TI TO i1 i2 : Addr} {c1 c2 : Sqn} {fp1 fp2 : List Addr} (D : ZAp z TI TO i1 i2 c1 c2) (m1 : i1 ∈ fp1) (m2 : i2 ∈ fp2) (n1 : ∀ b, b ≠ i1 → c1.ap b → b ∉ fp1) (n2 : ∀ b, b ≠ i2 → c2.ap b → b ∉ fp2) : ZipSep2 z TI TO i1 i2 fp1 fp2 where
  TIz := D.TIz
  TOz := D.TOz
  TITO := D.TITO
  TIi1 := D.TIi1
  mem1 := m1
  zf1 := n1 z (Ne.symm D.i1z) (D.p1 z (by simp))
  Tf1 := n1 TO D.TOi1 (D.p1 TO (by simp))
  TIi2 := D.TIi2
  mem2 := m2
  zf2 := n2 z (Ne.symm D.i2z) (D.p2 z (by simp))
  Tf2 := n2 TO D.TOi2 (D.p2 TO (by simp))
  sep1_2 := n2 i1 D.i12 (D.p2 i1 (by simp))
  sep2_1 := n1 i2 (Ne.symm D.i12) (D.p1 i2 (by simp))
theorem turn_zipG {P : Program} {w : World} {K : Fg} {elts : List Expr} {kk : Nat} {tpos : Pos} {z TI TO i1 i2 : Addr} {c1 c2 : Sqn} (D : ZAp z TI TO i1 i2 c1 c2) :
    Turn P w K (.Tuple elts kk tpos) (ItzG K c1 c2) [z, TI, TO, i1, i2] z (fun i h => IsZip h z TI TO .none ∧ IsTupOf2 h TI (.ref i1) (.ref i2) ∧ (∃ x y, IsTupOf2 h TO x y) ∧ c1.tn i1 i h ∧ c2.tn i2 i h ∧ i ≤ c1.items.length ∧ i ≤ c2.items.length) where
  mem := by simp
  obj := fun i h st c hc => by
    obtain ⟨hz, hTI, ⟨x, y, hTO⟩, t1, t2, _⟩ := st
    have e' : c = z ∨ c = TI ∨ c = TO ∨ c = i1 ∨ c = i2 := by simpa using hc
    rcases e' with q | q | q | q | q
    · rw [q]; exact ⟨_, hz, fun v q => nomatch q⟩
    · rw [q]; exact ⟨_, hTI, fun v q => nomatch q⟩
    · rw [q]; exact ⟨_, hTO, fun v q => nomatch q⟩
    · rw [q]; exact t1.obj
    · rw [q]; exact t2.obj
  keep := fun i h h' st k => by
    obtain ⟨hz, hTI, ⟨x, y, hTO⟩, h1, h2, h3⟩ := st
    exact ⟨k z (by simp) _ hz, k TI (by simp) _ hTI, ⟨x, y, k TO (by simp) _ hTO⟩, h1.at fun o q => k i1 (by simp) o q, h2.at fun o q => k i2 (by simp) o q, h3⟩
  item := by
    intro X hP hw hK hc i pins s σ H E I hf st hg
    subst hP hw hK
    obtain ⟨hz, hTI, ⟨x0, y0, hTO⟩, h1, h2, _⟩ := st
    obtain ⟨g1, g2, l1, l2⟩ := hg
    have hh : X.A.in1.handled = none := I.ok.hd hc
    obtain ⟨fp1, P1, St1, D1, st1, m1, r1, b1, n1⟩ := Sqn.draws I hh g1 (D.p1 i1 (by simp)) h1
    obtain ⟨fp2, P2, St2, D2, st2, m2, r2, b2, n2⟩ := Sqn.draws I hh g2 (D.p2 i2 (by simp)) h2
    have hzl : z < s.heap.objs.size := Heap.lt_size hz
    refine wpAny_pyNext_zipD2_item (D.sep m1 m2 n1 n2) D1 D2 hz hTI hTO st1 st2 l1 l2 fun u u2 h' tk p1 p2 z' TO' h1' h2' hT hsz hk => ?_
    obtain ⟨x, ex, ru⟩ := r1 i u p1
    obtain ⟨y, ey, ru2⟩ := r2 i u2 p2
    refine ⟨_, rfl, wpAny_letOwnedTupleGo_zip (s := { s with heap := h', toks := tk }) z' fun h'' z'' sb => ?_⟩
    have hT2 : h''.get? s.heap.objs.size = some { cls := .type "tuple", data := .seq #[u, u2] } := (sb.2 _ (Nat.ne_of_gt hzl)).trans hT
    have new : ObjOk X.prog X.w (upd H s.heap.objs.size (.tup [x, y])) h'' s.heap.objs.size (.tup [x, y]) :=
      ⟨by show 2 ≤ sizeLine; decide, [u, u2], .cons ru (.cons ru2 .nil), ⟨_, hT2, rfl, _, rfl⟩⟩
    have I1 : Inv X pins σ (upd H s.heap.objs.size (.tup [x, y])) { s with heap := h'', toks := tk } :=
      I.turnedNew (t' := tk) (ch := [z, TI, TO, i1, i2]) (fun c o hb q => (sb.2 c (fun q' => hb (by simp [q']))).trans (hk c o (fun q' => hb (by simp [q'])) (fun q' => hb (by simp [q'])) (fun q' => hb (by simp [q'])) (fun q' => hb (by simp [q'])) q)) hf (Nat.le_refl _) new
    refine ⟨.ref s.heap.objs.size, _, I1, rfl, ⟨_, x, y, rfl, I.hok.fresh (Nat.le_refl _), rfl, ex, ey⟩, ⟨z'', ?_, ⟨u, u2, ?_⟩, ?_, ?_, l1, l2⟩, fun c hcm => ?_⟩
    · exact (sb.2 _ D.TIz).trans (hk _ _ D.TIz D.TITO D.TIi1 D.TIi2 hTI)
    · exact (sb.2 _ D.TOz).trans TO'
    · exact (b1 _ _ h1').at fun o q => (sb.2 _ D.i1z).trans q
    · exact (b2 _ _ h2').at fun o q => (sb.2 _ D.i2z).trans q
    · have hlt : c < s.heap.objs.size := by
        have e' : c = z ∨ c = TI ∨ c = TO ∨ c = i1 ∨ c = i2 := by simpa using hcm
        rcases e' with q | q | q | q | q
        · rw [q]; exact hzl
        · rw [q]; exact Heap.lt_size hTI
        · rw [q]; exact Heap.lt_size hTO
        · rw [q]; obtain ⟨_, e1, _⟩ := h1.obj; exact Heap.lt_size e1
        · rw [q]; obtain ⟨_, e2, _⟩ := h2.obj; exact Heap.lt_size e2
      rw [upd_ne (Nat.ne_of_lt hlt)]
      exact (hf c hcm).1
  done := by
    intro X hP hw hK hc i pins s σ H E I hf st hg
    subst hP hw hK
    obtain ⟨hz, hTI, ⟨x0, y0, hTO⟩, h1, h2, l1, l2⟩ := st
    obtain ⟨g1, g2, he⟩ := hg
    have hh : X.A.in1.handled = none := I.ok.hd hc
    obtain ⟨fp1, P1, St1, D1, st1, m1, r1, b1, n1⟩ := Sqn.draws I hh g1 (D.p1 i1 (by simp)) h1
    obtain ⟨fp2, P2, St2, D2, st2, m2, r2, b2, n2⟩ := Sqn.draws I hh g2 (D.p2 i2 (by simp)) h2
    exact wpAny_pyNext_zipD2_end (D.sep m1 m2 n1 n2) D1 D2 hz hTI hTO st1 st2 l1 l2 (by omega) fun h' tk hk => ⟨rfl, I.turnedL (t' := tk) (ch := [z, TI, TO, i1, i2]) (fun c o hb q =>
      hk c o (fun q' => hb (by simp [q'])) (fun q' => hb (by simp [q'])) (fun q' => hb (by simp [q'])) (fun q' => hb (by simp [q'])) q) hf⟩
  self := fun A i s Q E st h => wpAny_pyIter_zip st.1 h
/-- the iterator of such a thing -/
theorem Sqn.begins {X : Cx} {pins : List (Addr × Obj)} {σ : L2.St} {H : Hp} {s : Shared} (I : Inv X pins σ H s) {c : Sqn} (h : c.holds X.K H) {u : Value} (r : RelV c.v u) :
    ∃ (o : Obj) (G : Heap → Prop), Begins u o G ∧ G s.heap ∧ (∀ (h : Heap) (it : Addr), h.get? it = some o → c.tn it 0 h) ∧ ∀ b, s.heap.objs.size ≤ b → c.ap b := by
  cases c with
  | L a xs =>
    obtain ⟨its, rv, p, _⟩ := I.list h
    obtain rfl : u = Value.ref a := r
    exact ⟨_, _, begins_list a its.toArray, p.isList, fun h it e => ⟨_, e, rfl, rfl⟩, fun b hb => Nat.ne_of_lt (Nat.lt_of_lt_of_le p.lt hb)⟩
  | T a xs =>
    obtain ⟨its, rv, p, _⟩ := I.tuple h
    obtain rfl : u = Value.ref a := r
    obtain ⟨o1, ho1, _⟩ := id p
    exact ⟨_, _, begins_tuple a its.toArray, p, fun h it e => ⟨_, e, rfl, rfl⟩, fun b hb => Nat.ne_of_lt (Nat.lt_of_lt_of_le (Heap.lt_size ho1) hb)⟩
  | S x =>
    obtain ⟨t, rfl⟩ := r
    exact ⟨_, _, begins_text x t, trivial, fun h it e => ⟨t, _, e, rfl, rfl⟩, fun _ _ => trivial⟩
def iZipG (K : Fg) (ta : TA) : TI := fun σ H R => ta σ H fun vs H1 => ∃ c1 c2 : Sqn, vs = [c1.v, c2.v] ∧ c1.holds K H1 ∧ c2.holds K H1 ∧ R (ItzG K c1 c2) H1
theorem pi_zipG {X : Cx} {e e2 : Expr} {ta : TA} {p pos tpos : Pos} {elts : List Expr} {kk : Nat} (hg : Gl X "zip") (hm : X.mg "zip" = none) (ha : PA X [e, e2] ta)
    (hs : starEach [e, e2] X.env = (false, eval e X.env) :: starEach [e2] X.env := by rfl) (hpl : (backTo pos (starEach [e2] X.env)).any (·.1) = false := by rfl) :
    PI X (.Tuple elts kk tpos) (.Call (.Name "zip" p) [e, e2] [] pos) (iZipG X.K ta) := by
  refine ⟨fun pins s σ H R I h => ?_⟩
  refine Call_ (ld_blt I hg hm PyProof.Rows.boot_zip (PyProof.Rows.callWith_type1 (thn (ha.run pos pins s σ H _ I h) fun us s1 ⟨vs, H1, I1, r1, q1⟩ => ?_) hs hpl))
  obtain ⟨c1, c2, ex, g1, g2, q⟩ := q1
  subst ex
  cases r1 with
  | cons r rr =>
    cases rr with
    | cons r' rr =>
      cases rr
      obtain ⟨o1, G1, B1, w1, t1, a1⟩ := Sqn.begins I1 g1 r
      obtain ⟨o2, G2, B2, w2, t2, a2⟩ := Sqn.begins I1 g2 r'
      have le5 : ∀ c, c ∈ [s1.heap.objs.size + 4, s1.heap.objs.size + 2, s1.heap.objs.size + 3, s1.heap.objs.size, s1.heap.objs.size + 1] → s1.heap.objs.size ≤ c := fun c hcm => by
        simp only [List.mem_cons, List.not_mem_nil, or_false] at hcm
        omega
      refine zip_begins2 B1 B2 w1 w2 fun h' hz hTI hTO h1 h2 hsz hk => wpAny_pyIter_zip hz ?_
      have I2 : Inv X pins σ H1 { s1 with heap := h' } := I1.kept (t' := s1.toks) hk
      have D : ZAp (s1.heap.objs.size + 4) (s1.heap.objs.size + 2) (s1.heap.objs.size + 3) s1.heap.objs.size (s1.heap.objs.size + 1) c1 c2 := by
        refine ⟨?_, ?_, ?_, ?_, ?_, ?_, ?_, ?_, ?_, ?_, fun b hb => a1 b (le5 b hb), fun b hb => a2 b (le5 b hb)⟩ <;> (intro e; have e' : (_ : Nat) = _ := e; omega)
      exact ⟨s1.heap.objs.size + 4, [s1.heap.objs.size + 4, s1.heap.objs.size + 2, s1.heap.objs.size + 3, s1.heap.objs.size, s1.heap.objs.size + 1], _, _, H1, rfl, I2, turn_zipG D, ⟨hz, hTI, ⟨_, _, hTO⟩, t1 _ _ h1, t2 _ _ h2, Nat.zero_le _, Nat.zero_le _⟩, fun c hcm => I1.fpOk (le5 c hcm) (I1.hok.fresh (le5 c hcm)), q⟩
/-! by data -/
def zipD : List D → List D → List D
  | a :: as, b :: bs => .tuple [a, b] :: zipD as bs
  | _, _ => []
theorem zipD_get : ∀ {as bs : List D} {i : Nat} {a b : D}, as[i]? = some a → bs[i]? = some b → (zipD as bs)[i]? = some (.tuple [a, b])
  | [], _, _, _, _, h, _ => by simp at h
  | _ :: _, [], _, _, _, _, h => by simp at h
  | a :: as, b :: bs, 0, _, _, h, g => by simp at h g; subst h g; rfl
  | a :: as, b :: bs, i + 1, x, y, h, g => by
    simpa [zipD] using zipD_get (i := i) (as := as) (bs := bs) (a := x) (b := y) (by simpa using h) (by simpa using g)
theorem zipD_len : ∀ {as bs : List D}, (zipD as bs).length = min as.length bs.length
  | [], _ => by simp [zipD]
  | _ :: _, [] => by simp [zipD]
  | a :: as, b :: bs => by simp only [zipD, List.length_cons, zipD_len (as := as) (bs := bs)]; omega
/-- what is walked, as such a thing that stands in F -/
theorem Rp.sqn {K : Fg} {F : Hp} {v : V} {d : D} {ds : List D} (h : Rp K F v d) (q : itemsD d = some ds) : ∃ c : Sqn, v = c.v ∧ c.holds K F ∧ RpA K F c.items ds := by
  cases h with
  | lst a r => cases q; exact ⟨.L _ _, rfl, .inl a, r⟩
  | tup a r => cases q; exact ⟨.T _ _, rfl, a, r⟩
  | str x =>
    cases q
    refine ⟨.S x, rfl, trivial, ?_⟩
    show RpA K F (x.cps.toList.map fun c => V.str ⟨#[c]⟩) (x.cps.toList.map fun c => PyData.str ⟨#[c]⟩)
    induction x.cps.toList with
    | nil => exact .nil
    | cons c cs ih => exact .cons (.str _) ih
  | non => cases q
  | bl => cases q
  | int => cases q
  | dct => cases q
theorem Sqn.up {K : Fg} {F H : Hp} (s : Sub F H) {c : Sqn} (h : c.holds K F) : c.holds K H := by
  cases c with
  | L a xs => exact s.sqL h
  | T a xs => exact s.sqT h
  | S x => trivial
theorem itok_zip {K : Fg} {F : Hp} {c1 c2 : Sqn} {as bs : List D} (h1 : c1.holds K F) (h2 : c2.holds K F) (r1 : RpA K F c1.items as) (r2 : RpA K F c2.items bs) : ItOk K F (ItzG K c1 c2) (zipD as bs) where
  go := fun i H s hi => by
    rw [zipD_len] at hi
    refine ⟨Sqn.up s h1, Sqn.up s h2, ?_, ?_⟩
    · rw [r1.length]; omega
    · rw [r2.length]; omega
  stop := fun i H s hi => by
    rw [zipD_len] at hi
    refine ⟨Sqn.up s h1, Sqn.up s h2, ?_⟩
    rw [r1.length, r2.length]; omega
  yld := fun i H x H' y e G r s k sub hi => by
    obtain ⟨T, u, v, rfl, hT, rfl, e1, e2⟩ := y
    obtain ⟨d1, q1, p1⟩ := r1.get e1
    obtain ⟨d2, q2, p2⟩ := r2.get e2
    refine ⟨_, zipD_get q1 q2, upd G T (.tup [u, v]), k.lay hT, Sub.new (k.free hT).1, ?_⟩
    exact .tup (.inl (.inl upd_same)) (.cons ((p1.mono sub).mono (Sub.new (k.free hT).1)) (.cons ((p2.mono sub).mono (Sub.new (k.free hT).1)) .nil))
def iZip (ma mb : ME) : MI := fun r P => ma r fun x r1 => mb r1 fun y r2 => onP (holds r2 [x.tmp, y.tmp]) fun qs qb => match qs with
  | [d1, d2] => onO (itemsD d1) fun as => onO (itemsD d2) fun bs => strict qb fun r3 => P (zipD as bs) r3
  | _ => False
theorem di_zip {X : Cx} {a b : Expr} {ma mb : ME} {p pos tpos : Pos} {elts : List Expr} {kk : Nat} (hg : Gl X "zip") (hm : X.mg "zip" = none) (ha : DE X a ma) (hb : DE X b mb)
    (h1 : starEach [a, b] X.env = (false, eval a X.env) :: starEach [b] X.env := by rfl) (h2 : starEach [b] X.env = (false, eval b X.env) :: starEach [] X.env := by rfl) (hpl : (backTo pos (starEach [b] X.env)).any (·.1) = false := by rfl) :
    DI X (.Tuple elts kk tpos) (.Call (.Name "zip" p) [a, b] [] pos) (iZip ma mb) := fun e =>
  PI.imp (pi_zipG hg hm (da_cons ha (da_cons hb da_nil h2) h1 e) h1 hpl) fun s H Q ⟨F, r, k, P, hm, hP⟩ => by
    refine ⟨F, r, k, fun xs r2 => onP (holds r2 xs) fun qs qb => match qs with
      | [d1, d2] => onO (itemsD d1) fun as => onO (itemsD d2) fun bs => strict qb fun r3 => P (zipD as bs) r3
      | _ => False, hm, ?_⟩
    · intro xs r2 vs F2 H2 hx k2 q2 t2
      obtain ⟨qs, qb, e1, hq⟩ := onP.ex hx
      obtain ⟨F3, k3, q3, rp⟩ := RTs.holds t2 k2 e1
      cases rp with
      | nil => exact hq.elim
      | cons p1 rp =>
        cases rp with
        | nil => exact hq.elim
        | cons p2 rp =>
          cases rp with
          | cons _ _ => exact hq.elim
          | nil =>
            obtain ⟨as, ea, h1⟩ := onO.ex hq
            obtain ⟨bs, eb, h2⟩ := onO.ex h1
            obtain ⟨c1, rfl, g1, r1⟩ := p1.sqn ea
            obtain ⟨c2, rfl, g2, r2⟩ := p2.sqn eb
            exact ⟨c1, c2, rfl, Sqn.up k3.sub g1, Sqn.up k3.sub g2, hP _ _ F3 H2 _ h2.ex k3 (q2.trans q3) (itok_zip g1 g2 r1 r2)⟩
/-! ### enumerate(list) -/
def enumD (n : Nat) : List D → List D
  | [] => []
  | d :: ds => .tuple [.int (n : Nat), d] :: enumD (n + 1) ds
theorem enumD_get : ∀ {ds : List D} {n i : Nat} {d : D}, ds[i]? = some d → (enumD n ds)[i]? = some (.tuple [.int ((n + i : Nat) : Int), d])
  | [], _, _, _, h => by simp at h
  | a :: as, n, 0, _, h => by simp at h; subst h; rfl
  | a :: as, n, i + 1, x, h => by
    have := enumD_get (n := n + 1) (i := i) (ds := as) (d := x) (by simpa using h)
    rw [show n + 1 + i = n + (i + 1) by omega] at this
    simpa [enumD] using this
theorem enumD_len : ∀ {ds : List D} {n : Nat}, (enumD n ds).length = ds.length
  | [], _ => rfl
  | _ :: ds, n => by simp [enumD, enumD_len (ds := ds)]
theorem itok_enum {K : Fg} {F : Hp} {a : Addr} {xs : List V} {ds : List D} (h : Rd F a (.lst xs)) (r : RpA K F xs ds) : ItOk K F (Ite K a) (enumD 0 ds) where
  go := fun i H s hi => by
    rw [enumD_len, ← r.length] at hi
    exact ⟨xs, xs[i], .inl (s.rd h), by simp [hi]⟩
  stop := fun i H s hi => by
    rw [enumD_len, ← r.length] at hi
    exact ⟨xs, .inl (s.rd h), hi⟩
  yld := fun i H x H' y e G r' s k sub hi => by
    obtain ⟨T, u, rfl, hT, rfl, e1⟩ := y
    obtain ⟨d1, q1, p1⟩ := r.get (e1 xs (.inl ((sub.trans k.sub).rd h)))
    refine ⟨_, enumD_get q1, upd G T (.tup [.int (i : Nat), u]), k.lay hT, Sub.new (k.free hT).1, ?_⟩
    rw [Nat.zero_add]
    exact .tup (.inl (.inl upd_same)) (.cons (.int _) (.cons ((p1.mono sub).mono (Sub.new (k.free hT).1)) .nil))
def ltOf : D → Option (List D)
  | .list ds => some ds
  | _ => none
theorem ltOf_of {d : D} {ds : List D} (h : ltOf d = some ds) : d = .list ds := by
  cases d <;> first | (cases h; rfl) | cases h
def iEnm (ma : ME) : MI := fun r P => ma r fun x r1 => onP (holds r1 [x.tmp]) fun qs qb => match qs with
  | [d] => onO (ltOf d) fun ds => strict qb fun r3 => P (enumD 0 ds) r3
  | _ => False
theorem di_enum {X : Cx} {a : Expr} {ma : ME} {p pos tpos : Pos} {elts : List Expr} {kk : Nat} (hg : Gl X "enumerate") (hm : X.mg "enumerate" = none) (ha : DE X a ma)
    (h1 : starEach [a] X.env = [(false, eval a X.env)] := by rfl) : DI X (.Tuple elts kk tpos) (.Call (.Name "enumerate" p) [a] [] pos) (iEnm ma) := fun e =>
  PI.imp (pi_enum hg hm (da_cons ha da_nil h1 e) h1) fun s H Q ⟨F, r, k, P, hm, hP⟩ => by
    refine ⟨F, r, k, fun xs r2 => onP (holds r2 xs) fun qs qb => match qs with
      | [d] => onO (ltOf d) fun ds => strict qb fun r3 => P (enumD 0 ds) r3
      | _ => False, hm, ?_⟩
    intro xs r2 vs F2 H2 hx k2 q2 t2
    obtain ⟨qs, qb, e1, hq⟩ := onP.ex hx
    obtain ⟨F3, k3, q3, rp⟩ := RTs.holds t2 k2 e1
    cases rp with
    | nil => exact hq.elim
    | cons p1 rp =>
      cases rp with
      | cons _ _ => exact hq.elim
      | nil =>
        obtain ⟨ds, ea, h2⟩ := onO.ex hq
        have e3 := ltOf_of ea
        subst e3
        cases p1 with
        | lst a r => exact ⟨_, _, rfl, .inl (k3.sub.rd a), hP _ _ F3 H2 _ h2.ex k3 (q2.trans q3) (itok_enum a r)⟩
end DL
namespace DL
open PySem L2 PyProof.Rows
/-! ### a new object handed to a def that changes it -/
section
variable {K : Fg} {e : En} {F : Hp} {r : Rho} {s : L2.St} {H : Hp}
/-- a new object as one more slot -/
theorem Ok.ext {p : Addr} {o : HO} {m : MB} (k : Ok K e F r s H) (h1 : H p = some o) (h2 : MO K F o m) (h3 : F p = none) (h4 : e.P p = none) (h5 : ¬ e.old p)
    (h6 : ∀ (i : Nat) b m', r[i]? = some (some (Ce.box b m')) → s[i]? ≠ some (some (V.ref p))) : Ok K e F (r ++ [some (.box false m)]) (s ++ [some (.ref p)]) H := by
  have get : ∀ {α : Type} {l : List α} {x y : α} {i : Nat}, (l ++ [x])[i]? = some y → l[i]? = some y ∨ (i = l.length ∧ x = y) := by
    intro α l x y i h
    rw [List.getElem?_append] at h
    split at h
    · exact .inl h
    · rename_i q
      cases z : i - l.length with
      | zero => rw [z] at h; simp at h; exact .inr ⟨by omega, h⟩
      | succ j => rw [z] at h; simp at h
  have put : ∀ {α : Type} {l : List α} {x y : α} {i : Nat}, l[i]? = some y → (l ++ [x])[i]? = some y := by
    intro α l x y i h
    rw [List.getElem?_append_left (List.getElem?_eq_some_iff.mp h).1]; exact h
  have last : (s ++ [some (V.ref p)])[r.length]? = some (some (V.ref p)) := by rw [k.len]; simp
  refine ⟨by rw [List.length_append, List.length_append, k.len]; rfl, k.sub, k.f0, k.prot, k.new, k.dom, fun i d z => ?_, fun i b m' z => ?_, fun i ns z => ?_, fun i j q b m1 b' m2 z z' y y' => ?_⟩
  · rcases get z with z | ⟨_, z⟩
    · obtain ⟨v, g1, g2⟩ := k.slot i d z; exact ⟨v, put g1, g2⟩
    · cases z
  · rcases get z with z | ⟨rfl, zz⟩
    · obtain ⟨q, u, g1, g2⟩ := k.box i b m' z; exact ⟨q, u, put g1, g2.1, g2.2.1, g2.2.2.1, g2.2.2.2.1, g2.2.2.2.2⟩
    · cases zz
      exact ⟨p, o, last, h1, h2, h3, h4, fun _ => h5, fun q => by cases q⟩
  · rcases get z with z | ⟨_, z⟩
    · obtain ⟨a, g1, g2⟩ := k.scr i ns z; exact ⟨a, put g1, g2⟩
    · cases z
  · have sl : ∀ {i : Nat} {b : Bool} {m : MB}, r[i]? = some (some (Ce.box b m)) → (s ++ [some (V.ref p)])[i]? = some (some (V.ref q)) → s[i]? = some (some (V.ref q)) := by
      intro i b m z y
      rcases get y with y | ⟨y, _⟩
      · exact y
      · have := (List.getElem?_eq_some_iff.mp z).1
        rw [k.len] at this; omega
    rcases get z with z | ⟨rfl, z⟩
    · rcases get z' with z' | ⟨rfl, z'⟩
      · exact k.sep i j q b m1 b' m2 z z' (sl z y) (sl z' y')
      · rw [last] at y'; cases y'
        exact absurd (sl z y) (h6 i b m1 z)
    · rw [last] at y; cases y
      rcases get z' with z' | ⟨rfl, z'⟩
      · exact absurd (sl z' y') (h6 j b' m2 z')
      · rfl
theorem Ok.cut {n : Nat} (k : Ok K e F r s H) : Ok K e F (r.take n) (s.take n) H := by
  have get : ∀ {α : Type} {l : List α} {y : α} {i : Nat}, (l.take n)[i]? = some y → i < n ∧ l[i]? = some y := by
    intro α l y i h
    rw [List.getElem?_take] at h
    split at h
    · rename_i q; exact ⟨q, h⟩
    · cases h
  have put : ∀ {α : Type} {l : List α} {y : α} {i : Nat}, i < n → l[i]? = some y → (l.take n)[i]? = some y := by
    intro α l y i q h
    rw [List.getElem?_take, if_pos q]; exact h
  refine ⟨by rw [List.length_take, List.length_take, k.len], k.sub, k.f0, k.prot, k.new, k.dom, fun i d z => ?_, fun i b m' z => ?_, fun i ns z => ?_, fun i j q b m1 b' m2 z z' y y' => ?_⟩
  · obtain ⟨q, z⟩ := get z
    obtain ⟨v, g1, g2⟩ := k.slot i d z; exact ⟨v, put q g1, g2⟩
  · obtain ⟨q, z⟩ := get z
    obtain ⟨p, u, g1, g2⟩ := k.box i b m' z; exact ⟨p, u, put q g1, g2⟩
  · obtain ⟨q, z⟩ := get z
    obtain ⟨a, g1, g2⟩ := k.scr i ns z; exact ⟨a, put q g1, g2⟩
  · exact k.sep i j q b m1 b' m2 (get z).2 (get z').2 (get y).2 (get y').2
theorem RT.ext {x : R} {v : V} {t : L2.St} (h : RT K F s x v) : RT K F (s ++ t) x v := by
  cases h with
  | val a => exact .val a
  | bor a => exact .bor (by rw [List.getElem?_append_left (List.getElem?_eq_some_iff.mp a).1]; exact a)
  | scr a => exact .scr a
theorem RTs.ext {xs : List R} {vs : List V} {t : L2.St} (h : RTs K F s xs vs) : RTs K F (s ++ t) xs vs := by
  induction h with
  | nil => exact .nil
  | cons a _ ih => exact .cons a.ext ih
/-- values of arguments, one of them a new object -/
inductive RTw (K : Fg) (e : En) (F : Hp) (r : Rho) (s : L2.St) (H : Hp) : List R → List V → Prop
  | own {m : MB} {v : V} {xs : List R} {vs : List V} : RR K e F r s H (.own m) v → RTs K F s xs vs → RTw K e F r s H (.own m :: xs) (v :: vs)
  | cons {x : R} {v : V} {xs : List R} {vs : List V} : RT K F s x v → RTw K e F r s H xs vs → RTw K e F r s H (x :: xs) (v :: vs)
/-- the new object's place in the list is slot n -/
def splitO (n : Nat) : List R → Option (List R × MB)
  | [] => none
  | .own m :: xs => some (.bor n :: xs, m)
  | .val d :: xs => match splitO n xs with
    | some q => some (.val d :: q.1, q.2)
    | none => none
  | .bor i :: xs => match splitO n xs with
    | some q => some (.bor i :: q.1, q.2)
    | none => none
  | .scr ns :: xs => match splitO n xs with
    | some q => some (.scr ns :: q.1, q.2)
    | none => none
theorem RTw.split {xs : List R} {vs : List V} (t : RTw K e F r s H xs vs) (k : Ok K e F r s H) : ∃ (zs : List R) (m : MB) (p : Addr), splitO r.length xs = some (zs, m) ∧ RTs K F (s ++ [some (.ref p)]) zs vs ∧ Ok K e F (r ++ [some (.box false m)]) (s ++ [some (.ref p)]) H := by
  induction t with
  | own h t =>
    cases h with
    | own h1 h2 h3 h4 h5 h6 =>
      refine ⟨_, _, _, rfl, .cons (.bor ?_) t.ext, k.ext h1 h2 h3 h4 h5 h6⟩
      rw [k.len]; simp
  | cons a t ih =>
    obtain ⟨zs, m, p, e1, t1, k1⟩ := ih
    cases a with
    | val q => exact ⟨_, m, p, by simp only [splitO, e1], .cons (.val q) t1, k1⟩
    | bor q => exact ⟨_, m, p, by simp only [splitO, e1], .cons (RT.bor q).ext t1, k1⟩
    | scr q => exact ⟨_, m, p, by simp only [splitO, e1], .cons (.scr q) t1, k1⟩
theorem RTw.length {xs : List R} {vs : List V} (t : RTw K e F r s H xs vs) : xs.length = vs.length := by
  induction t with
  | own h t => rw [List.length_cons, List.length_cons, t.length]
  | cons a t ih => rw [List.length_cons, List.length_cons, ih]
theorem RR.mono {x : R} {v : V} {m : MB} {F' : Hp} {r' : Rho} {H' : Hp} {p : Addr} {o : HO} (k : Ok K (e.keep p o) F' r' s H') (hm : MO K F' o m) (hP : e.P p = none) (hF0 : e.F0 p = none) (ho : ¬ e.old p) : RR K e F' r' s H' (.own m) (.ref p) := by
  obtain ⟨k', h1, h2, h3⟩ := k.unkeep hP hF0
  exact .own h1 hm h2 hP ho h3
end
def TAw (K : Fg) (e : En) (m : MA) : TA := fun s H Q => ∃ F r, Ok K e F r s H ∧ ∃ P : PoA, m r P ∧ ∀ xs r' vs F' H', P xs r' → Ok K e F' r' s H' → Sub F F' → RTw K e F' r' s H' xs vs → Q vs H'
def DAw (X : Cx) (as : List Expr) (m : MA) : Prop := ∀ e, PA X as (TAw X.K e m)
def TAx (K : Fg) (m : MA) : TA := fun s H Q => ∃ e, TAl K e m s H Q
def ownOf : R → Option MB
  | .own m => some m
  | _ => none
theorem ownOf_of {x : R} {m : MB} (h : ownOf x = some m) : x = .own m := by
  cases x <;> first | (cases h; rfl) | cases h
/-- the argument is a new object, handed over -/
def aOwn (ma : ME) (ms : MA) : MA := fun r P => ma r fun x r1 => onO (ownOf x) fun m => ms r1 fun xs r2 => P (.own m :: xs) r2
section
variable {X : Cx} {a : Expr} {es : List Expr} {ma : ME} {ms : MA}
theorem pa_ex (h : DA X es ms) : PA X es (TAx X.K ms) := ⟨fun pos pins s σ H Q I ⟨e, q⟩ => (h e).run pos pins s σ H Q I q⟩
theorem da_own (ha : DE X a ma) (hr : DA X es ms) (hs : starEach (a :: es) X.env = (false, eval a X.env) :: starEach es X.env := by rfl) : DAw X (a :: es) (aOwn ma ms) := fun e => by
  refine PA.imp (pa_cons (ha e) (pa_ex hr) hs) ?_
  rintro s H Q ⟨F, r, k, P, hm, hP⟩
  refine ⟨F, r, k, _, hm, fun x r1 v F1 H1 hx k1 q1 rr => ?_⟩
  obtain ⟨m, e1, hx2⟩ := onO.ex hx
  have e2 := ownOf_of e1
  subst e2
  cases rr with
  | @own p o _ h1 h2 h3 h4 h5 h6 =>
    have hF0 : e.F0 p = none := by
      cases z : e.F0 p with
      | none => rfl
      | some u => rw [k1.f0 p u z] at h3; cases h3
    refine ⟨e.keep p o, F1, r1, k1.keep h1 h3 h6, _, hx2, fun xs r2 vs F2 H2 hxs k2 q2 t2 => ?_⟩
    exact hP _ r2 _ F2 H2 hxs (k2.unkeep h4 hF0).1 (q1.trans q2) (.own (RR.mono (x := .own m) (v := .ref p) k2 (h2.mono q2) h4 hF0 h5) t2)
theorem daw_cons (ha : DE X a ma) (hr : DAw X es ms) (hs : starEach (a :: es) X.env = (false, eval a X.env) :: starEach es X.env := by rfl) : DAw X (a :: es) (aCons ma ms) := fun e => by
  refine PA.imp (pa_cons (ha.tmp e) (hr e) hs) ?_
  rintro s H Q ⟨F, r, k, P, hm, hP⟩
  refine ⟨F, r, k, fun x r1 => ms r1 fun xs r2 => P (x :: xs) r2, hm, fun x r1 v F1 H1 hx k1 q1 t1 => ⟨F1, r1, k1, _, hx, fun xs r2 vs F2 H2 hxs k2 q2 t2 => ?_⟩⟩
  exact hP _ r2 _ F2 H2 hxs k2 (q1.trans q2) (.cons (t1.mono q2) t2)
end
def fnO (c : Ct) (zs : List R) (m : MB) (r : Rho) (P : Po) : Prop := rqB (once (borSlots zs)) (onO (arsOf (r ++ [some (.box false m)]) zs) fun as => Cl c as fun z as' => onO (backArs (r ++ [some (.box false m)]) zs as') fun r2 => strict (r2.take r.length) fun r3 => P z r3)
def mFnO (c : Ct) (n : Nat) (ms : MA) : ME := fun r P => ms r fun xs r1 => rqB (decide (xs.length = n)) (onP (splitO r1.length xs) fun zs m => fnO c zs m r1 P)
section
variable {X : Cx} {a : Expr} {es : List Expr} {ma : ME} {ms : MA} {k n : Nat} {f : Addr} {fd : FuncData} {ps : List Str} {c : Ct} {x : Str} {p pos : Pos}
theorem fnO_read {e : En} {s : L2.St} {H : Hp} {Q : VK} (h : T X.K e (mFnO c ps.length ms) s H Q) : (TAw X.K e ms) s H fun vs H1 => vs.length = ps.length ∧ spD X.K ps.length c vs H1 Q E0 := by
  obtain ⟨F, r, k, P, hm, hP⟩ := h
  refine ⟨F, r, k, _, hm, fun xs r1 vs F1 H1 hx k1 q1 t1 => ?_⟩
  obtain ⟨nn, hx2⟩ := rqB.ex hx
  rw [decide_eq_true_eq] at nn
  obtain ⟨zs, m, p, e1, t2, k2⟩ := t1.split k1
  obtain ⟨zs', m', e1', hx3⟩ := onP.ex hx2
  rw [e1] at e1'
  cases e1'
  obtain ⟨ho, hz3⟩ := rqB.ex hx3
  obtain ⟨as, ea, hz4⟩ := onO.ex hz3
  have hc := hz4.h
  have l1 : vs.length = ps.length := t1.length.symm.trans nn
  obtain ⟨ha, hb⟩ := t2.ars k2 ea
  refine ⟨l1, F1, as, l1, k2.sub, ha, ?_, _, hc, fun x as' v F' H' hx d re => ?_⟩
  · intro i j p m m' e1 e2 e3 e4
    obtain ⟨i1, b1, g1, g2⟩ := hb i m e1
    obtain ⟨i2, b2, g3, g4⟩ := hb j m' e2
    obtain ⟨v1, u1, u2⟩ := t2.get g1
    obtain ⟨v2, u3, u4⟩ := t2.get g3
    rw [e3] at u1; cases u1
    rw [e4] at u3; cases u3
    cases u2 with | bor u2 =>
    cases u4 with | bor u4 =>
    have := k2.sep i1 i2 p _ _ _ _ g2 g4 u2 u4
    subst this
    exact once_apart ho g1 g3
  · obtain ⟨r3, eb, hp⟩ := onO.ex hx
    have hp := hp.ex
    have k3 := call_ok t2 k2 ho ea d eb
    have rr := call_rr (as := as) (vs := vs) k2 ho eb re
    have k4 := k3.cut (n := r1.length)
    have es : (s ++ [some (V.ref p)]).take r1.length = s := by rw [k1.len]; simp
    rw [es] at k4
    refine hP x _ v F' H' hp k4 (q1.trans d.sub) ?_
    cases rr with
    | val a => exact .val a
    | own a1 a2 a3 a4 a5 a6 =>
      refine .own a1 a2 a3 a4 a5 fun i b m'' z y => ?_
      rw [List.getElem?_take] at z
      split at z
      · rename_i hi
        refine a6 i b m'' z ?_
        rw [List.getElem?_append_left (by rw [← k1.len]; exact hi)]; exact y
      · cases z
    | bor a b => cases re
    | scr a => cases re
/-- the module's name x is a def that keeps the contract c, called by places -/
structure DefP (P : Program) (w : World) (K : Fg) (mg : Str → Option Value) (base : Heap) (k : Nat) (x : Str) (n : Nat) (c : Ct) : Prop where
  ex : ∃ f fd ps, mg x = some (.ref f) ∧ PySem.W.keepIn K (.ref f) = true ∧ FnD P w K mg base k f fd ps c ∧ Binds K fd ps [] ∧ ps.length = n
theorem de_fnO (h : DefP X.prog X.w X.K X.mg X.base k x n c) (hr : Room k X.A) (hgu : X.A.guards = some []) (hg : Gl X x)
    (ha : DAw X (a :: es) ms) (hdb : (x == ("__debug__" : Str)) = false := by decide) (he : starEach (a :: es) X.env = (false, eval a X.env) :: starEach es X.env := by rfl) (hpl : (backTo pos (starEach es X.env)).any (·.1) = false := by rfl) :
    DE X (.Call (.Name x p) (a :: es) [] pos) (mFnO c n ms) := fun e => by
  obtain ⟨f, fd, ps, hm, hk, F, hb, rfl⟩ := h.ex
  have hB : KBn X.K fd ps ps.length [] (fun us _ => us ++ []) (fun vs _ => vs ++ []) := ⟨fun s us ws KX h1 h2 => hb s us KX (by rw [List.append_nil]; exact h1), fun r _ => by rw [List.append_nil, List.append_nil]; exact r⟩
  refine ⟨fun pins s σ H Q I h => wpAny_Call_Name_kw (ld_glob I hg hm (PySem.W.callWith_K (h₀ := X.base) I.ok.mod.kin hk (thn ((ha e).run pos pins s σ H _ I (fnO_read h)) ?_) he hpl) hdb)⟩
  rintro us s1 ⟨vs, H1, I1, r, l1, q2⟩
  exact ⟨I1.kIn, run_fnd F hr hgu hB I1 r .nil l1 rfl (by rw [List.append_nil]; exact q2)⟩
theorem DefP.of {P : Program} {w : World} {K : Fg} {mg : Str → Option Value} {base : Heap} {k : Nat} {x : Str} {c : Ct} {f : Addr} {fd : FuncData} {ps : List Str} (hm : mg x = some (.ref f)) (hk : PySem.W.keepIn K (.ref f) = true) (F : FnD P w K mg base k f fd ps c) (hb : Binds K fd ps []) : DefP P w K mg base k x ps.length c := ⟨⟨f, fd, ps, hm, hk, F, hb, rfl⟩⟩
end
end DL
namespace DL
open PySem L2 PyProof.Rows
/-! ### max, min: of two, of three, of a list -/
def maxI : List Int → Int
  | [] => 0
  | a :: r => r.foldl (fun m x => if m < x then x else m) a
def minI : List Int → Int
  | [] => 0
  | a :: r => r.foldl (fun m x => if x < m then x else m) a
theorem fold_max : ∀ (r : List Int) (a : Int), (r.foldl (fun m x => if m < x then x else m) a) ∈ a :: r ∧ ∀ x ∈ a :: r, x ≤ r.foldl (fun m x => if m < x then x else m) a
  | [], a => by simp
  | b :: r, a => by
    rw [List.foldl_cons]
    by_cases h : a < b
    · rw [if_pos h]
      obtain ⟨h1, h2⟩ := fold_max r b
      refine ⟨List.mem_cons_of_mem _ h1, fun x hx => ?_⟩
      rcases List.mem_cons.mp hx with rfl | hx
      · have := h2 b List.mem_cons_self; omega
      · exact h2 x hx
    · rw [if_neg h]
      obtain ⟨h1, h2⟩ := fold_max r a
      refine ⟨?_, fun x hx => ?_⟩
      · rcases List.mem_cons.mp h1 with h1 | h1
        · rw [h1]; exact List.mem_cons_self
        · exact List.mem_cons_of_mem _ (List.mem_cons_of_mem _ h1)
      · rcases List.mem_cons.mp hx with rfl | hx
        · exact h2 _ List.mem_cons_self
        · rcases List.mem_cons.mp hx with rfl | hx
          · have := h2 a List.mem_cons_self; omega
          · exact h2 x (List.mem_cons_of_mem _ hx)
theorem fold_min : ∀ (r : List Int) (a : Int), (r.foldl (fun m x => if x < m then x else m) a) ∈ a :: r ∧ ∀ x ∈ a :: r, r.foldl (fun m x => if x < m then x else m) a ≤ x
  | [], a => by simp
  | b :: r, a => by
    rw [List.foldl_cons]
    by_cases h : b < a
    · rw [if_pos h]
      obtain ⟨h1, h2⟩ := fold_min r b
      refine ⟨List.mem_cons_of_mem _ h1, fun x hx => ?_⟩
      rcases List.mem_cons.mp hx with rfl | hx
      · have := h2 b List.mem_cons_self; omega
      · exact h2 x hx
    · rw [if_neg h]
      obtain ⟨h1, h2⟩ := fold_min r a
      refine ⟨?_, fun x hx => ?_⟩
      · rcases List.mem_cons.mp h1 with h1 | h1
        · rw [h1]; exact List.mem_cons_self
        · exact List.mem_cons_of_mem _ (List.mem_cons_of_mem _ h1)
      · rcases List.mem_cons.mp hx with rfl | hx
        · exact h2 _ List.mem_cons_self
        · rcases List.mem_cons.mp hx with rfl | hx
          · have := h2 a List.mem_cons_self; omega
          · exact h2 x (List.mem_cons_of_mem _ hx)
theorem maxI_mem {ns : List Int} (h : ns ≠ []) : maxI ns ∈ ns ∧ ∀ x ∈ ns, x ≤ maxI ns := by
  cases ns with
  | nil => exact absurd rfl h
  | cons a r => exact fold_max r a
theorem minI_mem {ns : List Int} (h : ns ≠ []) : minI ns ∈ ns ∧ ∀ x ∈ ns, minI ns ≤ x := by
  cases ns with
  | nil => exact absurd rfl h
  | cons a r => exact fold_min r a
section
variable {X : Cx}
theorem LkA.three {K : Fg} {F H : Hp} {vs : List V} {d d' d'' : D} (h : LkA K F H vs [d, d', d'']) : ∃ v v' v'', vs = [v, v', v''] ∧ Lk K F H v d ∧ Lk K F H v' d' ∧ Lk K F H v'' d'' := by
  cases h with
  | cons a h =>
    obtain ⟨v', v'', rfl, b, c⟩ := h.two
    exact ⟨_, _, _, rfl, a, b, c⟩
def fMaxA : FA
  | [.int i, .int j] => some (.val (.int (if j > i then j else i)))
  | [.list ds] => match intsOf ds with
    | some ns => if ns ≠ [] then some (.val (.int (maxI ns))) else none
    | none => none
  | _ => none
theorem calld_maxA (hc : X.calm = true) : CallD X (.builtin "max") fMaxA := by
  refine ⟨_, CallR.or (call_max2 hc) (cr_max hc), fun e F r s H vs ds z Q k l ef w => ?_⟩
  unfold fMaxA at ef
  split at ef
  · cases ef
    obtain ⟨v, v', rfl, lk, lk'⟩ := l.two
    rw [lk.int, lk'.int]
    exact .inl ⟨_, _, rfl, w _ F H k (Sub.refl F) (.val (.int _))⟩
  · rename_i ds
    split at ef
    · rename_i ns hn
      split at ef
      · rename_i hne
        cases ef
        obtain ⟨v, rfl, lk⟩ := l.one
        obtain ⟨a, xs, rfl, h1, h2⟩ := lk.lst k.sub
        have e3 := h2.ints hn
        subst e3
        refine .inr ⟨a, ns, rfl, .inl h1, List.length_pos_iff.mpr hne, fun m h1 h2 => ?_⟩
        obtain ⟨g1, g2⟩ := maxI_mem hne
        have : m = maxI ns := Int.le_antisymm (g2 m h1) (h2 _ g1)
        rw [this]
        exact w _ F H k (Sub.refl F) (.val (.int _))
      · cases ef
    · cases ef
  · cases ef
def kMaxA : List D → (R → Prop) → Prop
  | [.int i, .int j], K => K (.val (.int (if j > i then j else i)))
  | [.list ds], K => onO (intsOf ds) fun ns => Rq (ns ≠ []) (K (.val (.int (maxI ns))))
  | _, _ => False
def cMaxA : CaK := ⟨fMaxA, kMaxA, fun ds K h => by
  unfold kMaxA at h
  split at h
  · exact ⟨_, rfl, h⟩
  · obtain ⟨ns, e, h2⟩ := onO.ex h
    exact ⟨_, by simp only [fMaxA, e]; exact rq_if h2, Rq.a h2⟩
  · exact h.elim⟩
def fMinA : FA
  | [.int i, .int j] => some (.val (.int (if j < i then j else i)))
  | [.int i, .int j, .int l] => some (.val (.int (if l < (if j < i then j else i) then l else (if j < i then j else i))))
  | [.list ds] => match intsOf ds with
    | some ns => if ns ≠ [] then some (.val (.int (minI ns))) else none
    | none => none
  | _ => none
theorem nuMin3_int (i j l : Int) : nuMin3 (V.int i) (.int j) (.int l) = some (.int (if l < (if j < i then j else i) then l else (if j < i then j else i))) := by
  have e1 : nuMin2 (V.int i) (V.int j) = some (V.int (if j < i then j else i)) := by
    show some (if decide (j < i) = true then V.int j else V.int i) = _
    by_cases h : j < i <;> simp [h]
  have e2 : ∀ m : Int, nuMin2 (V.int m) (V.int l) = some (V.int (if l < m then l else m)) := fun m => by
    show some (if decide (l < m) = true then V.int l else V.int m) = _
    by_cases h : l < m <;> simp [h]
  unfold nuMin3
  rw [e1, Option.bind_some, e2]
theorem calld_minA (hc : X.calm = true) : CallD X (.builtin "min") fMinA := by
  refine ⟨_, CallR.or (call_min2 hc) (CallR.or (cr_min hc) (call_min3Nu hc)), fun e F r s H vs ds z Q k l ef w => ?_⟩
  unfold fMinA at ef
  split at ef
  · cases ef
    obtain ⟨v, v', rfl, lk, lk'⟩ := l.two
    rw [lk.int, lk'.int]
    exact .inl ⟨_, _, rfl, w _ F H k (Sub.refl F) (.val (.int _))⟩
  · cases ef
    obtain ⟨v, v', v'', rfl, lk, lk', lk''⟩ := l.three
    rw [lk.int, lk'.int, lk''.int]
    exact .inr (.inr ⟨_, _, _, _, rfl, nuMin3_int _ _ _, w _ F H k (Sub.refl F) (.val (.int _))⟩)
  · rename_i ds
    split at ef
    · rename_i ns hn
      split at ef
      · rename_i hne
        cases ef
        obtain ⟨v, rfl, lk⟩ := l.one
        obtain ⟨a, xs, rfl, h1, h2⟩ := lk.lst k.sub
        have e3 := h2.ints hn
        subst e3
        refine .inr (.inl ⟨a, ns, rfl, .inl h1, List.length_pos_iff.mpr hne, fun m h1 h2 => ?_⟩)
        obtain ⟨g1, g2⟩ := minI_mem hne
        have : m = minI ns := Int.le_antisymm (h2 _ g1) (g2 m h1)
        rw [this]
        exact w _ F H k (Sub.refl F) (.val (.int _))
      · cases ef
    · cases ef
  · cases ef
def kMinA : List D → (R → Prop) → Prop
  | [.int i, .int j], K => K (.val (.int (if j < i then j else i)))
  | [.int i, .int j, .int l], K => K (.val (.int (if l < (if j < i then j else i) then l else (if j < i then j else i))))
  | [.list ds], K => onO (intsOf ds) fun ns => Rq (ns ≠ []) (K (.val (.int (minI ns))))
  | _, _ => False
def cMinA : CaK := ⟨fMinA, kMinA, fun ds K h => by
  unfold kMinA at h
  split at h
  · exact ⟨_, rfl, h⟩
  · exact ⟨_, rfl, h⟩
  · obtain ⟨ns, e, h2⟩ := onO.ex h
    exact ⟨_, by simp only [fMinA, e]; exact rq_if h2, Rq.a h2⟩
  · exact h.elim⟩
end
end DL
namespace DL
open PySem L2 PyProof.Rows
section
variable {K : Fg} {x qual : Str} {params : Arguments} {body : List Stmt} {scope : Scope} {kws : List (Str × V)} {f : Addr} {fd : FuncData} {ps : List Str}
/-- by places and by names, some keyword-only ones lack -/
theorem Bd.lack {dds : List D} (F : FunD K x qual params body scope [] kws f fd) (n : Nat) (ks : List Str) (ms : List (Str × V)) (ix : List (Bool × Nat)) (hk : kws ≠ []) (hms : ∀ q ∈ ms, q ∈ kws) (hf : Flats (ms.map (·.2)) dds) (hl : ix.length = ps.length) (ho : ixOk n (ks.length + ms.length) ix = true)
    (h : ∀ (D : Addr) (doc pm : Value) (an : Option Addr) (cdv ct : Value) (us ws mv : List Value), us.length = n → ws.length = ks.length → mv.length = ms.length →
      KwChain D ((ms.map (·.1)).zip mv) (bindArgs (PySem.W.fnOf x qual params body scope .none (.ref D) doc pm an cdv ct) ⟨us, ks.zip ws⟩) (ps.zip (DL.pick ix us (ws ++ mv)))) : Bd K fd ps n ks (fun xs zs => DL.pick ix xs (zs ++ dds.map R.val)) := by
  obtain ⟨oc, od, dV, kV, doc, pm, an, cdv, ct, osl, rfl, lk, hcd, hD, hK⟩ := F.ex
  rcases hD with ⟨_, rfl⟩ | ⟨e, _⟩
  · rcases hK with e | ⟨D, rfl, hq⟩
    · exact absurd e hk
    · obtain ⟨mv, hl2, rk, hks⟩ := kwd_vals (ms := ms) fun q hm => hq q (hms q hm)
      refine ⟨fun us ws => DL.pick ix us (ws ++ mv), fun vs zs => DL.pick ix vs (zs ++ ms.map (·.2)), ⟨fun s us ws X l1 l2 => ?_, fun r q => pick_vals r (q.append rk) ix⟩, fun vs zs l1 l2 => ?_, fun F s xs vs zs ws t q _ _ => pick_rts t (q.append hf.rts) ix⟩
      · exact BindsTo.of_looks fun M => KwChain.looks X hks (h D doc pm an cdv ct us ws mv l1 l2 hl2)
      · rw [pick_length (by rw [l1, List.length_append, l2, List.length_map]; exact ho), hl]
  · exact absurd rfl e
end
end DL
namespace DL
open PySem L2 PyProof.Rows
/-! ### the readers' rules, as plain words over data -/
def SIGNS : Str := "\n !\"#$&'()*+,-./0123456789:;<=>?@ABCDEFGHIJKLMNOPQRSTUVWXYZ[\\]^_`abcdefghijklmnopqrstuvwxyz{|}~"
def LETTERS : Str := "abcdefghijklmnopqrstuvwxyz"
def inS (c : Nat) : Bool := decide (c ∈ SIGNS.cps.toList)
def inL (c : Nat) : Bool := decide (c ∈ LETTERS.cps.toList)
def isTextX (most : Int) (x : Str) : Bool := decide ((x.length : Int) ≤ most) && x.cps.toList.all inS
def isText (most : Int) : D → Bool
  | .str x => isTextX most x
  | _ => false
def rising : List Nat → Bool
  | a :: b :: r => decide (a < b) && rising (b :: r)
  | _ => true
def isSigns (least : Int) : D → Bool
  | .str x => isTextX 94 x && (!decide ((x.length : Int) < least) && rising x.cps.toList)
  | _ => false
def isName : D → Bool
  | .str x => decide (1 ≤ (x.length : Int)) && (decide ((x.length : Int) ≤ 8) && x.cps.toList.all inL)
  | _ => false
def FORMS : Tab := [("nothing", ""), ("never", ""), ("sign", "s"), ("but", "b"), ("row", "p"), ("choice", "p"), ("many", "r"), ("maybe", "r"), ("ahead", "r"), ("not", "r"), ("name", "n"), ("hold", "nr"), ("again", "n"), ("tag", "nr"), ("make", "wr")]
def isMake : D → Bool
  | .str x => flatIn (.str x) [.str "text", .str "drop", .str "count", .str "number"]
  | _ => false
/-- one piece by its letter: s 115, b 98, n 110, w 119, r 114, p 112 -/
def isPiece (g : D → Bool) (f : Nat) (d : D) : Bool :=
  if f = 115 then isSigns 1 d else if f = 98 then isSigns 0 d else if f = 110 then isName d else if f = 119 then isMake d else if f = 114 then g d else match d with
    | .tuple ds => decide (2 ≤ (ds.length : Int)) && (decide ((ds.length : Int) ≤ 6) && ds.all g)
    | _ => false
def isForm : Nat → D → Bool
  | 0, _ => false
  | n + 1, .tuple (.str w :: ps) => match tLook FORMS w with
    | some fs => decide (ps.length = fs.length) && (fs.cps.toList.zip ps).all fun q => isPiece (isForm n) q.1 q.2
    | none => false
  | _ + 1, _ => false
/-! ### what fits -/
def Fit (d : D) : Prop := okD d ∧ wt d ≤ 1000000 ∧ d.depth ≤ 64
theorem wts_mem {d : D} : ∀ {ds : List D}, d ∈ ds → wt d + 2 ≤ wts ds
  | [], h => by cases h
  | e :: ds, h => by
    rw [wts]
    rcases List.mem_cons.mp h with rfl | h
    · omega
    · have := wts_mem h; omega
theorem Fit.tup {ds : List D} (h : Fit (.tuple ds)) : ∀ d ∈ ds, Fit d := fun d hd => by
  obtain ⟨h1, h2, h3⟩ := h
  refine ⟨okDs_iff.mp h1 d hd, ?_, ?_⟩
  · have := wts_mem hd
    rw [wt] at h2; omega
  · have h5 : PyData.depthAll ds ≤ 63 := by
      simp only [PyData.depth] at h3; omega
    exact Nat.le_trans (depthAll_le.mp h5 d hd) (by omega)
theorem Fit.str {x : Str} (h : Fit (.str x)) : x.length ≤ 1000000 := by
  have := h.2.1
  rw [wt] at this; omega
theorem Fit.len {ds : List D} (h : Fit (.tuple ds)) : ds.length ≤ 1000000 := by
  have h2 := h.2.1
  rw [wt] at h2
  have : ∀ ds : List D, ds.length ≤ wts ds := fun ds => by
    induction ds with
    | nil => simp
    | cons d ds ih => rw [wts, List.length_cons]; omega
  have := this ds
  omega
theorem Fit.shaped {d : D} (h : Fit d) (hd : d.hasDict = false) : SeqAt.shaped d = true := shaped_ok h.1 h.2.2 hd
/-! ### small words -/
theorem blsOf_map {α : Type} (f : α → Bool) : ∀ as : List α, blsOf (as.map fun a => PyData.bool (f a)) = some (as.map f)
  | [] => rfl
  | a :: as => by simp [blsOf, blsOf_map f as]
theorem all_map {α : Type} (f : α → Bool) (as : List α) : (as.map f).all id = as.all f := by simp [List.all_map]
theorem lt_one (c d : Nat) : decide ((⟨#[c]⟩ : Str).cps.toList < (⟨#[d]⟩ : Str).cps.toList) = decide (c < d) := by
  have : ((⟨#[c]⟩ : Str).cps.toList < (⟨#[d]⟩ : Str).cps.toList) ↔ c < d := by
    show [c] < [d] ↔ c < d
    constructor
    · intro h
      cases h with
      | rel h => exact h
      | cons h => cases h
    · intro h
      exact List.Lex.rel h
  simp only [this]
theorem rising_zip : ∀ l : List Nat, rising l = (l.zip (l.drop 1)).all fun q => decide (q.1 < q.2)
  | [] => rfl
  | [a] => rfl
  | a :: b :: r => by
    have ih := rising_zip (b :: r)
    simp only [List.drop_succ_cons, List.drop_zero] at ih
    simp only [rising, List.drop_succ_cons, List.drop_zero, List.zip_cons_cons, List.all_cons, ih]
theorem zipD_map {α β : Type} (f : α → D) (g : β → D) : ∀ (as : List α) (bs : List β), zipD (as.map f) (bs.map g) = (as.zip bs).map fun q => .tuple [f q.1, g q.2]
  | [], _ => rfl
  | _ :: _, [] => rfl
  | a :: as, b :: bs => by simp [zipD, zipD_map f g as bs]
theorem cutS_lo (x : Str) (k : Nat) : (cutS x (some (k : Int)) none).cps.toList = x.cps.toList.drop k := by
  unfold cutS
  rw [HT.sIx_none, HT.sIx_nat]
  show ((x.cps.toList.drop (min k x.length)).take (x.length - min k x.length)) = _
  have hl : x.cps.toList.length = x.length := Array.length_toList
  rw [List.take_of_length_le (by rw [List.length_drop, hl]; omega)]
  by_cases h : k ≤ x.length
  · rw [Nat.min_eq_left h]
  · rw [Nat.min_eq_right (by omega), List.drop_of_length_le (by omega), List.drop_of_length_le (by omega)]
theorem cutS_hi (x : Str) (k : Nat) : (cutS x none (some (k : Int))).cps.toList = x.cps.toList.take k := by
  unfold cutS
  rw [HT.sIx_none, HT.sIx_nat]
  show ((x.cps.toList.drop 0).take (min k x.length - 0)) = _
  have hl : x.cps.toList.length = x.length := Array.length_toList
  rw [List.drop_zero, Nat.sub_zero]
  by_cases h : k ≤ x.length
  · rw [Nat.min_eq_left h]
  · rw [Nat.min_eq_right (by omega), List.take_of_length_le (by omega), List.take_of_length_le (by omega)]
theorem cutS_lohi (x : Str) (k l : Nat) : (cutS x (some (k : Int)) (some (l : Int))).cps.toList = (x.cps.toList.drop k).take (l - k) := by
  unfold cutS
  rw [HT.sIx_nat, HT.sIx_nat]
  show ((x.cps.toList.drop (min k x.length)).take (min l x.length - min k x.length)) = _
  have hl : x.cps.toList.length = x.length := Array.length_toList
  apply List.ext_getElem?
  intro i
  rw [List.getElem?_take, List.getElem?_take, List.getElem?_drop, List.getElem?_drop]
  by_cases h : k ≤ x.length
  · rw [Nat.min_eq_left h]
    by_cases h2 : i < l - k
    · rw [if_pos h2]
      by_cases h3 : i < min l x.length - k
      · rw [if_pos h3]
      · rw [if_neg h3, List.getElem?_eq_none (by omega)]
    · rw [if_neg h2, if_neg (by omega)]
  · rw [if_neg (by omega)]
    split
    · rw [List.getElem?_eq_none (by omega)]
    · rfl
theorem cutD_lo (ds : List D) (k : Nat) : cutD ds (some (k : Int)) none = ds.drop k := by
  unfold cutD
  rw [HT.sIx_none, HT.sIx_nat]
  rw [List.take_of_length_le (by rw [List.length_drop]; omega)]
  by_cases h : k ≤ ds.length
  · rw [Nat.min_eq_left h]
  · rw [Nat.min_eq_right (by omega), List.drop_of_length_le (by omega), List.drop_of_length_le (by omega)]
theorem at_0 {α : Type} (x : α) (xs : List α) : atI (x :: xs) 0 = some x := by
  unfold atI ixN
  rw [if_pos (by omega), if_pos (by rw [List.length_cons]; omega)]
  rfl
theorem at_nat {α : Type} {xs : List α} {i : Nat} {x : α} (h : xs[i]? = some x) : atI xs (i : Int) = some x := by
  have hl := (List.getElem?_eq_some_iff.mp h).1
  unfold atI ixN
  rw [if_pos (by omega), if_pos (by omega)]
  simpa using h
theorem star21 {gs : GTs} {a : D} {ps : List D} {r : Rho} : gStar 2 1 gs (.tuple (a :: ps)) r = gs [a, .list ps] r := by
  unfold gStar
  show (if 1 < 2 ∧ 2 ≤ (a :: ps).length + 1 then gs (starL 2 1 .list (a :: ps)) r else none) = _
  rw [if_pos ⟨by omega, by rw [List.length_cons]; omega⟩]
  have : starL 2 1 PyData.list (a :: ps) = [a, .list ps] := by
    simp [starL]
  rw [this]
theorem lc_id {vs : List Nat} {g : GT} {tt : MT} {te : ME} {P : List D → Rho → Prop} {r : Rho} (gv : D → D) {as : List D} (h : ∀ a ∈ as, ∀ ds acc, acc.length < sizeLine → lcM vs g tt te P ds (acc ++ [gv a]) r → lcM vs g tt te P (a :: ds) acc r)
    (hz : as.length < sizeLine) (hp : P (as.map gv) r) : Lc vs g tt te P as [] r := by
  have := lc_list (P := P) (vs := vs) (g := g) (tt := tt) (te := te) (r := r) (fun d : D => d) gv (as := as) h hz hp
  rwa [List.map_id'] at this
end DL
namespace DL
open PySem L2 PyProof.Rows
/-! ### texts of signs, names -/
theorem rising_iff : ∀ l : List Nat, rising l = true ↔ l.Pairwise (· < ·)
  | [] => by simp [rising]
  | [a] => by simp [rising]
  | a :: b :: r => by
    have ih := rising_iff (b :: r)
    simp only [rising, Bool.and_eq_true, decide_eq_true_eq, ih]
    constructor
    · rintro ⟨h1, h2⟩
      refine List.pairwise_cons.mpr ⟨fun x hx => ?_, h2⟩
      rcases List.mem_cons.mp hx with rfl | hx
      · exact h1
      · exact Nat.lt_trans h1 ((List.pairwise_cons.mp h2).1 x hx)
    · intro h
      obtain ⟨h1, h2⟩ := List.pairwise_cons.mp h
      exact ⟨h1 b List.mem_cons_self, h2⟩
theorem SIGNS_rising : SIGNS.cps.toList.Pairwise (· < ·) := (rising_iff _).mp (by decide +kernel)
theorem SIGNS_len : SIGNS.length = 95 := by decide +kernel
/-- a rising text of at most 94 signs -/
def Sg0 (x : Str) : Prop := x.cps.toList.Sublist SIGNS.cps.toList ∧ x.length ≤ 94
def Sg1 (x : Str) : Prop := Sg0 x ∧ 1 ≤ x.length
def Nm (x : Str) : Prop := x.cps.toList.all inL = true ∧ 1 ≤ x.length ∧ x.length ≤ 8
def Mk (x : Str) : Prop := x = "text" ∨ x = "drop" ∨ x = "count" ∨ x = "number"
theorem Sg0.is {x : Str} (h : Sg0 x) {n : Int} (hn : n ≤ x.length) : isSigns n (.str x) = true := by
  have h1 : x.cps.toList.all inS = true := List.all_eq_true.mpr fun c hc => decide_eq_true (h.1.subset hc)
  have h2 : rising x.cps.toList = true := (rising_iff _).mpr (SIGNS_rising.sublist h.1)
  have h3 := h.2
  show (decide ((x.length : Int) ≤ 94) && x.cps.toList.all inS && (!decide ((x.length : Int) < n) && rising x.cps.toList)) = true
  rw [h1, h2, decide_eq_true (by omega), decide_eq_false (by omega)]; rfl
theorem Nm.is {x : Str} (h : Nm x) : isName (.str x) = true := by
  obtain ⟨h1, h2, h3⟩ := h
  show (decide (1 ≤ (x.length : Int)) && (decide ((x.length : Int) ≤ 8) && x.cps.toList.all inL)) = true
  rw [h1, decide_eq_true (by omega), decide_eq_true (by omega)]; rfl
theorem SIGNS_ok : ∀ c ∈ SIGNS.cps.toList, c < 1114112 := by decide +kernel
theorem LETTERS_ok : ∀ c ∈ LETTERS.cps.toList, c < 1114112 := by decide +kernel
theorem Sg0.ok {x : Str} (h : Sg0 x) : Tx 94 x := ⟨h.2, fun c hc => SIGNS_ok c (h.1.subset hc)⟩
theorem Nm.ok {x : Str} (h : Nm x) : Tx 8 x := ⟨h.2.2, fun c hc => LETTERS_ok c (of_decide_eq_true (List.all_eq_true.mp h.1 c hc))⟩
theorem Mk.ok {x : Str} (h : Mk x) : Tx 8 x := by
  rcases h with rfl | rfl | rfl | rfl <;> exact ⟨by decide, okS_of (by decide +kernel)⟩
theorem Mk.is {x : Str} (h : Mk x) : isMake (.str x) = true := by
  rcases h with rfl | rfl | rfl | rfl <;> decide +kernel
/-- a join of signs -/
theorem joinS (l : List Nat) : (Str.join (Str.ofString "") (l.map fun c => (⟨#[c]⟩ : Str))).cps.toList = l := by
  induction l with
  | nil => rfl
  | cons c l ih =>
    cases l with
    | nil => rfl
    | cons d l =>
      have e : Str.join (Str.ofString "") ((c :: d :: l).map fun c => (⟨#[c]⟩ : Str)) = (⟨#[c]⟩ : Str) ++ Str.ofString "" ++ Str.join (Str.ofString "") ((d :: l).map fun c => (⟨#[c]⟩ : Str)) := rfl
      rw [e, app_list, app_list, ih]; rfl
theorem joinOnes (l : List Nat) : (Txt.join (Str.ofString "") (l.map fun c => (⟨#[c]⟩ : Str))).cps.toList = l := by
  rw [show Txt.join (Str.ofString "") (l.map fun c => (⟨#[c]⟩ : Str)) = Str.join (Str.ofString "") (l.map fun c => (⟨#[c]⟩ : Str)) from StrLaws.glued_eq_join _ _]
  exact joinS l
theorem join_ones_fit {l : List Nat} (h : l.length ≤ 1000000) : joinLen (Str.ofString "") (l.map fun c => (⟨#[c]⟩ : Str)) ≤ 16777216 := by
  have := joinLen_le (a := Str.ofString "") (xs := l.map fun c => (⟨#[c]⟩ : Str)) (m := 1) (by
    intro y hy
    rw [List.mem_map] at hy
    obtain ⟨c, _, rfl⟩ := hy
    exact Nat.le_refl _)
  rw [show (Str.ofString "").length = 0 from rfl, List.length_map] at this
  omega
theorem strsOf_ones (l : List Nat) : strsOf (l.map fun c => PyData.str ⟨#[c]⟩) = some (l.map fun c => (⟨#[c]⟩ : Str)) := strsOf_mapf (fun c => (⟨#[c]⟩ : Str)) l
theorem slen (x : Str) : x.length = x.cps.toList.length := (Array.length_toList).symm
/-! ### right readers -/
mutual
def Rdr.wf : Rdr → Prop
  | .l0 _ => True
  | .l1 .sign x => Sg1 x
  | .l1 .but x => Sg0 x
  | .l1 .name x => Nm x
  | .l1 .again x => Nm x
  | .ps _ rs => 2 ≤ rs.length ∧ rs.length ≤ 6 ∧ wfs rs
  | .un _ r => r.wf
  | .bi .make x r => Mk x ∧ r.wf
  | .bi .hold x r => Nm x ∧ r.wf
  | .bi .tag x r => Nm x ∧ r.wf
def wfs : List Rdr → Prop
  | [] => True
  | r :: rs => r.wf ∧ wfs rs
end
theorem wfs_iff : ∀ {rs : List Rdr}, wfs rs ↔ ∀ r ∈ rs, r.wf
  | [] => by simp [wfs]
  | r :: rs => by simp [wfs, wfs_iff (rs := rs)]
mutual
theorem Rdr.wf.good : ∀ {r : Rdr}, r.wf → r.good 94
  | .l0 _, _ => trivial
  | .l1 .sign x, h => h.1.ok
  | .l1 .but x, h => Sg0.ok h
  | .l1 .name x, h => (Nm.ok h).mono (by omega)
  | .l1 .again x, h => (Nm.ok h).mono (by omega)
  | .ps _ rs, h => ⟨h.2.1, wfs.good h.2.2⟩
  | .un _ r, h => Rdr.wf.good (r := r) h
  | .bi .make x r, h => ⟨h.1.ok.mono (by omega), Rdr.wf.good h.2⟩
  | .bi .hold x r, h => ⟨(Nm.ok h.1).mono (by omega), Rdr.wf.good h.2⟩
  | .bi .tag x r, h => ⟨(Nm.ok h.1).mono (by omega), Rdr.wf.good h.2⟩
theorem wfs.good : ∀ {rs : List Rdr}, wfs rs → goods 94 rs
  | [], _ => trivial
  | r :: rs, h => ⟨Rdr.wf.good h.1, wfs.good h.2⟩
end
theorem Rdr.dep_pos (r : Rdr) : 1 ≤ r.dep := by cases r <;> simp only [Rdr.dep] <;> omega
theorem form_0 (d : D) : isForm 0 d = false := by unfold isForm; rfl
/-- a right reader is one as far as it is no deeper -/
theorem forms_wf : ∀ (n : Nat) (r : Rdr), r.wf → isForm n r.toD = decide (r.dep ≤ n)
  | 0, r, _ => by
    have := r.dep_pos
    rw [form_0, decide_eq_false (by omega)]
  | n + 1, r, h => by
    have ih := forms_wf n
    cases r with
    | l0 w =>
      have e : isForm (n + 1) (Rdr.l0 w).toD = true := by cases w <;> rfl
      rw [e, decide_eq_true (by rw [Rdr.dep]; omega)]
    | l1 w x =>
      rw [show decide ((Rdr.l1 w x).dep ≤ n + 1) = true from decide_eq_true (by rw [Rdr.dep]; omega)]
      cases w with
      | sign =>
        have e : isForm (n + 1) (Rdr.l1 .sign x).toD = (isSigns 1 (.str x) && true) := rfl
        rw [e, Sg0.is h.1 (by have := h.2; omega)]; rfl
      | but =>
        have e : isForm (n + 1) (Rdr.l1 .but x).toD = (isSigns 0 (.str x) && true) := rfl
        rw [e, Sg0.is h (by omega)]; rfl
      | name =>
        have e : isForm (n + 1) (Rdr.l1 .name x).toD = (isName (.str x) && true) := rfl
        rw [e, Nm.is h]; rfl
      | again =>
        have e : isForm (n + 1) (Rdr.l1 .again x).toD = (isName (.str x) && true) := rfl
        rw [e, Nm.is h]; rfl
    | ps w rs =>
      have hl := h.1
      have hl2 := h.2.1
      have e : isForm (n + 1) (Rdr.ps w rs).toD = ((decide (2 ≤ ((toDs rs).length : Int)) && (decide (((toDs rs).length : Int) ≤ 6) && (toDs rs).all (isForm n))) && true) := by cases w <;> rfl
      have e2 : (toDs rs).all (isForm n) = decide (deps rs ≤ n) := by
        rw [toDs_map, List.all_map, Bool.eq_iff_iff, List.all_eq_true, decide_eq_true_eq, deps_le]
        constructor
        · intro q r hr
          have := q r hr
          simp only [Function.comp_apply] at this
          rw [ih r (wfs_iff.mp h.2.2 r hr), decide_eq_true_eq] at this
          exact this
        · intro q r hr
          simp only [Function.comp_apply]
          rw [ih r (wfs_iff.mp h.2.2 r hr), decide_eq_true_eq]
          exact q r hr
      have e3 : (toDs rs).length = rs.length := by rw [toDs_map, List.length_map]
      rw [e, e2, e3, decide_eq_true (show 2 ≤ (rs.length : Int) by omega), decide_eq_true (show (rs.length : Int) ≤ 6 by omega)]
      simp only [Bool.true_and, Bool.and_true]
      rw [Bool.eq_iff_iff, decide_eq_true_eq, decide_eq_true_eq, Rdr.dep]
      omega
    | un w r =>
      have e : isForm (n + 1) (Rdr.un w r).toD = (isForm n r.toD && true) := by cases w <;> rfl
      rw [e, ih r h, Bool.and_true, Rdr.dep, Bool.eq_iff_iff, decide_eq_true_eq, decide_eq_true_eq]
      omega
    | bi w x r =>
      have k : ∀ b : Bool, b = true → r.wf → (b && (isForm n r.toD && true)) = decide ((Rdr.bi w x r).dep ≤ n + 1) := by
        intro b hb hr
        rw [hb, ih r hr, Bool.and_true, Bool.true_and, Rdr.dep, Bool.eq_iff_iff, decide_eq_true_eq, decide_eq_true_eq]
        omega
      cases w with
      | hold => exact k (isName (.str x)) (Nm.is h.1) h.2
      | tag => exact k (isName (.str x)) (Nm.is h.1) h.2
      | make => exact k (isMake (.str x)) (Mk.is h.1) h.2
def kids : Rdr → List Rdr
  | .ps _ rs => rs
  | .un _ r => [r]
  | .bi _ _ r => [r]
  | _ => []
theorem kids_wf {r : Rdr} (h : r.wf) : ∀ k ∈ kids r, k.wf := by
  cases r with
  | l0 w => intro k hk; cases hk
  | l1 w x => intro k hk; cases hk
  | ps w rs => exact wfs_iff.mp h.2.2
  | un w r => intro k hk; rw [List.mem_singleton.mp hk]; exact h
  | bi w x r => intro k hk; rw [List.mem_singleton.mp hk]; cases w <;> exact h.2
theorem kids_dep {r : Rdr} {n : Nat} (h : r.dep ≤ n + 1) : ∀ k ∈ kids r, k.dep ≤ n := by
  cases r with
  | l0 w => intro k hk; cases hk
  | l1 w x => intro k hk; cases hk
  | ps w rs =>
    rw [Rdr.dep] at h
    exact (deps_le (n := n) (rs := rs)).mp (by omega)
  | un w r => intro k hk; rw [List.mem_singleton.mp hk]; rw [Rdr.dep] at h; omega
  | bi w x r => intro k hk; rw [List.mem_singleton.mp hk]; rw [Rdr.dep] at h; omega
theorem kids_cnt {r : Rdr} : ∀ k ∈ kids r, k.cnt < r.cnt := by
  cases r with
  | l0 w => intro k hk; cases hk
  | l1 w x => intro k hk; cases hk
  | ps w rs =>
    intro k hk
    have := cnts_le (n := 0) (rs := rs) k hk
    rw [Rdr.cnt]; omega
  | un w r => intro k hk; rw [List.mem_singleton.mp hk, Rdr.cnt]; omega
  | bi w x r => intro k hk; rw [List.mem_singleton.mp hk, Rdr.cnt]; omega
theorem kids_len {r : Rdr} (h : r.wf) : (kids r).length ≤ 6 := by
  cases r with
  | l0 w => simp [kids]
  | l1 w x => simp [kids]
  | ps w rs => exact h.2.1
  | un w r => simp [kids]
  | bi w x r => simp [kids]
theorem cnts_mem {rs : List Rdr} {m : Nat} (h : ∀ r ∈ rs, r.cnt ≤ m) : cnts rs ≤ rs.length * m := by
  induction rs with
  | nil => simp [cnts]
  | cons r rs ih =>
    have h1 := h r List.mem_cons_self
    have h2 := ih fun x hx => h x (List.mem_cons_of_mem _ hx)
    rw [cnts, List.length_cons, Nat.succ_mul]; omega
/-- what fits -/
theorem Rdr.fit {r : Rdr} (h : r.wf) (hc : r.cnt ≤ 500) (hd : r.dep ≤ 30) : Fit r.toD := by
  have a1 := Rdr.okD r h.good
  have a2 := Rdr.wt r h.good
  have a3 := Rdr.depth r
  exact ⟨a1, by omega, by omega⟩
theorem Rdr.reprOk {r : Rdr} (h : r.wf) (hc : r.cnt ≤ 500) (hd : r.dep ≤ 30) : reprOk r.toD = true := by
  obtain ⟨h1, h2, h3⟩ := Rdr.fit h hc hd
  exact repr_ok h1 (by omega) h3 (Rdr.noDict r)
theorem reprL_ok {rs : List Rdr} (hl : rs.length ≤ 10) (h : ∀ r ∈ rs, r.wf ∧ r.cnt ≤ 500 ∧ r.dep ≤ 30) : DL.reprOk (.list (rs.map Rdr.toD)) = true := by
  have k : ∀ d ∈ rs.map Rdr.toD, Fit d := by
    intro d hd
    rw [List.mem_map] at hd
    obtain ⟨r, hr, rfl⟩ := hd
    obtain ⟨g1, g2, g3⟩ := h r hr
    exact Rdr.fit g1 g2 g3
  have k2 : ∀ d ∈ rs.map Rdr.toD, d.depth ≤ 60 := by
    intro d hd
    rw [List.mem_map] at hd
    obtain ⟨r, hr, rfl⟩ := hd
    obtain ⟨g1, g2, g3⟩ := h r hr
    have a3 := Rdr.depth r
    omega
  refine repr_ok (okDs_iff.mpr fun d hd => (k d hd).1) ?_ ?_ ?_
  · have := wts_le (n := 1000000) fun d hd => (k d hd).2.1
    rw [List.length_map] at this
    rw [wt]; omega
  · have := (depthAll_le (n := 60)).mpr k2
    simp only [PyData.depth]; omega
  · refine hasDictAll_iff.mpr fun d hd => ?_
    rw [List.mem_map] at hd
    obtain ⟨r, hr, rfl⟩ := hd
    exact Rdr.noDict r
end DL
namespace DL
open PySem L2 PyProof.Rows
theorem strictL_mk : ∀ {l : List D} {K : List D → Prop}, K l → strictL l K
  | [], _, h => h
  | d :: l, K, h => strictL_mk (l := l) (K := fun l' => K (d :: l')) h
theorem ix_nat {n : Nat} {i : Int} (h0 : 0 ≤ i) (h1 : i < n) : ixN n i = some i.toNat := by
  unfold ixN
  rw [if_pos h0, if_pos h1]
theorem range_ints {lo : Int} {n : Nat} : ∀ d ∈ rangeD lo n, ∃ i : Int, d = .int i ∧ lo ≤ i ∧ i < lo + n := by
  intro d hd
  unfold rangeD at hd
  rw [List.mem_map] at hd
  obtain ⟨k, hk, rfl⟩ := hd
  rw [List.mem_range] at hk
  exact ⟨_, rfl, by omega, by omega⟩
theorem letter_at {v : Int} (h0 : 0 ≤ v) (h1 : v < 26) : ∃ c : Nat, atI (Str.ofString "abcdefghijklmnopqrstuvwxyz").cps.toList v = some c ∧ inL c = true := by
  refine at_all (fun c => inL c = true) h0 h1 ?_
  decide +kernel
theorem nm_of {x : Str} (h1 : x.cps.toList.all inL = true) (h2 : 1 ≤ x.length) (h3 : x.length ≤ 8) : Nm x := ⟨h1, h2, h3⟩
/-- a letter put in -/
theorem nm_put {x : Str} {c s : Nat} (h : x.cps.toList.all inL = true) (hl : x.length ≤ 7) (hc : inL c = true) (hs : s ≤ x.length) : Nm (cutS x none (some (s : Int)) ++ (⟨#[c]⟩ : Str) ++ cutS x (some (s : Int)) none) := by
  have e : (cutS x none (some (s : Int)) ++ (⟨#[c]⟩ : Str) ++ cutS x (some (s : Int)) none).cps.toList = x.cps.toList.take s ++ [c] ++ x.cps.toList.drop s := by
    rw [app_list, app_list, cutS_hi, cutS_lo]
  have el : (cutS x none (some (s : Int)) ++ (⟨#[c]⟩ : Str) ++ cutS x (some (s : Int)) none).length = x.length + 1 := by
    rw [slen, e]
    simp only [List.length_append, List.length_take, List.length_drop, List.length_cons, List.length_nil, ← slen]
    omega
  refine ⟨?_, by omega, by omega⟩
  rw [e, List.all_append, List.all_append, Bool.and_eq_true, Bool.and_eq_true]
  rw [List.all_eq_true] at h
  refine ⟨⟨?_, by simp [hc]⟩, ?_⟩
  · exact List.all_eq_true.mpr fun d hd => h d (List.mem_of_mem_take hd)
  · exact List.all_eq_true.mpr fun d hd => h d (List.mem_of_mem_drop hd)
theorem cutS_len (x : Str) (a b : Option Int) : (cutS x a b).length ≤ x.length := by
  rw [slen, slen]
  unfold cutS
  show ((x.cps.toList.drop _).take _).length ≤ _
  rw [List.length_take, List.length_drop]; omega
end DL
namespace DL
open PySem L2 PyProof.Rows
theorem cnt_pos (q : Rdr) : 1 ≤ q.cnt := by cases q <;> simp only [Rdr.cnt] <;> omega
theorem cnts_app (rs qs : List Rdr) : cnts (rs ++ qs) = cnts rs + cnts qs := by
  induction rs with
  | nil => simp [cnts]
  | cons q rs ih => simp only [List.cons_append, cnts, ih]; omega
theorem cnts_ge (rs : List Rdr) : rs.length ≤ cnts rs := by
  induction rs with
  | nil => simp [cnts]
  | cons q rs ih =>
    have := cnt_pos q
    simp only [cnts, List.length_cons]; omega
end DL
namespace DL
open PySem L2 PyProof.Rows
/-! ### x == () -/
section
variable {X : Cx}
def rEqT0 (K : Fg) : R2 := fun x y H Q => ∃ a b xs, x = .ref a ∧ y = .ref b ∧ SqT K H a xs ∧ SqT K H b [] ∧ Q (.bl xs.isEmpty) H
theorem op_eqT0 (hu : X.A.units + 64 < cLine) : OpR X (compareOp .Eq) (rEqT0 X.K) := by
  intro pins s σ H x y v u Q I rx ry h
  obtain ⟨a, b, xs, rfl, rfl, h1, h2, q⟩ := h
  obtain rfl : v = Value.ref a := rx
  obtain rfl : u = Value.ref b := ry
  obtain ⟨its, rv, p, _⟩ := I.tuple h1
  obtain ⟨its2, rv2, p2, _⟩ := I.tuple h2
  cases rv2
  have z := SeqAt.RcAt.tuples (A := X.A) (e := fun _ => true) (show s.heap.IsTuple a its.toArray from p) (show s.heap.IsTuple b ([] : List Value).toArray from p2) (by omega) (fun j j1 j2 => by simp at j2)
  refine z X.prog X.w X.xe _ ⟨.bl xs.isEmpty, H, I, ?_, q⟩
  have hl := rv.length
  have e : ((List.range (min its.toArray.size ([] : List Value).toArray.size)).all (fun _ => true) && its.toArray.size == ([] : List Value).toArray.size) = xs.isEmpty := by
    cases xs with
    | nil => cases rv; rfl
    | cons x xs => cases rv; simp
  rw [e]; rfl
def fEqT0 : F2 := fun a b => match a, b with
  | .tuple ds, .tuple [] => some (.val (.bool ds.isEmpty))
  | _, _ => none
theorem opd_eqT0 (hu : X.A.units + 64 < cLine) : OpD X (compareOp .Eq) fEqT0 := by
  refine ⟨_, op_eqT0 hu, fun e F r s H v1 v2 d1 d2 z Q k l1 l2 ef w => ?_⟩
  unfold fEqT0 at ef
  split at ef
  · rename_i ds
    cases ef
    obtain ⟨a, xs, rfl, h1, h2, _⟩ := l1.tup k.sub
    obtain ⟨b, ys, rfl, h3, h4, _⟩ := l2.tup k.sub
    cases h4
    refine ⟨a, b, xs, rfl, rfl, h1, h3, ?_⟩
    rw [h2.isEmpty]
    exact w _ F H k (Sub.refl F) (.val (.bl _))
  · cases ef
def rEqL0 (K : Fg) : R2 := fun x y H Q => ∃ a b xs, x = .ref a ∧ y = .ref b ∧ SqL K H a xs ∧ SqL K H b [] ∧ Q (.bl xs.isEmpty) H
theorem op_eqL0 (hu : X.A.units + 64 < cLine) : OpR X (compareOp .Eq) (rEqL0 X.K) := by
  intro pins s σ H x y v u Q I rx ry h
  obtain ⟨a, b, xs, rfl, rfl, h1, h2, q⟩ := h
  obtain rfl : v = Value.ref a := rx
  obtain rfl : u = Value.ref b := ry
  obtain ⟨its, rv, p, _⟩ := I.list h1
  obtain ⟨its2, rv2, p2, _⟩ := I.list h2
  cases rv2
  have hl := rv.length
  cases xs with
  | nil =>
    cases rv
    have z := SeqAt.RcAt.lists (A := X.A) (e := fun _ => true) p.isList p2.isList rfl (by omega) (fun j j1 j2 => by simp at j2)
    exact z X.prog X.w X.xe _ ⟨.bl true, H, I, rfl, q⟩
  | cons x xs =>
    have z := SeqAt.RcAt.lists_lengths (A := X.A) p.isList p2.isList (by rw [List.size_toArray, ← hl]; rfl) (by omega)
    exact z X.prog X.w X.xe _ ⟨.bl false, H, I, rfl, q⟩
def fEqL0 : F2 := fun a b => match a, b with
  | .list ds, .list [] => some (.val (.bool ds.isEmpty))
  | _, _ => none
theorem opd_eqL0 (hu : X.A.units + 64 < cLine) : OpD X (compareOp .Eq) fEqL0 := by
  refine ⟨_, op_eqL0 hu, fun e F r s H v1 v2 d1 d2 z Q k l1 l2 ef w => ?_⟩
  unfold fEqL0 at ef
  split at ef
  · rename_i ds
    cases ef
    obtain ⟨a, xs, rfl, h1, h2⟩ := l1.lst k.sub
    obtain ⟨b, ys, rfl, h3, h4⟩ := l2.lst k.sub
    cases h4
    refine ⟨a, b, xs, rfl, rfl, .inl h1, .inl h3, ?_⟩
    rw [h2.isEmpty]
    exact w _ F H k (Sub.refl F) (.val (.bl _))
  · cases ef
def fEqU : F2 := orF (orF fEqT0 fEqL0) fEq
theorem opd_eqU (hu : X.A.units + 64 < cLine) : OpD X (compareOp .Eq) fEqU := OpD.or (OpD.or (opd_eqT0 hu) (opd_eqL0 hu)) (opd_eq hu)
def kEqU : D → D → (R → Prop) → Prop
  | .tuple ds, .tuple [], K => K (.val (.bool ds.isEmpty))
  | .list ds, .list [], K => K (.val (.bool ds.isEmpty))
  | a, b, K => kEq a b K
def oEqU : OpK := ⟨fEqU, kEqU, fun d1 d2 K h => by
  have key : (∃ ds, d1 = .tuple ds ∧ d2 = .tuple []) ∨ (∃ ds, d1 = .list ds ∧ d2 = .list []) ∨ (orF fEqT0 fEqL0 d1 d2 = none ∧ kEqU d1 d2 K = kEq d1 d2 K) := by
    cases d1 <;> cases d2 <;> first
      | exact .inr (.inr ⟨rfl, rfl⟩)
      | (rename_i a b
         cases b with
         | nil => first | exact .inl ⟨_, rfl, rfl⟩ | exact .inr (.inl ⟨_, rfl, rfl⟩)
         | cons x y => exact .inr (.inr ⟨rfl, rfl⟩))
  rcases key with ⟨ds, rfl, rfl⟩ | ⟨ds, rfl, rfl⟩ | ⟨e1, e2⟩
  · exact ⟨_, rfl, h⟩
  · exact ⟨_, rfl, h⟩
  · rw [e2] at h
    obtain ⟨z, e, hz⟩ := oEq.ok _ _ _ h
    refine ⟨z, ?_, hz⟩
    show (match orF fEqT0 fEqL0 d1 d2 with | some z => some z | none => fEq d1 d2) = some z
    rw [e1]
    exact e⟩
/-! ### {} -/
def mDNew : ME := fun r P => P (.own (.K [])) r
theorem de_dnew {pos : Pos} : DE X (.Dict [] [] pos) mDNew := fun e => PE.imp pe_dnewK fun s H Q ⟨F, r, k, P, hm, hP⟩ p hp => by
  refine hP _ r _ F (upd H p (.dK [])) hm (k.alloc hp) (Sub.refl F) ?_
  obtain ⟨h1, h2, h3⟩ := k.free hp
  exact .own upd_same (.K rfl .nil) h1 h2 h3 (k.nobox hp)
end
/-! ### where a sign stands -/
def fnd (c : Nat) : Int := Txt.find SIGNS ⟨#[c]⟩
theorem find_one (x : Str) (c : Nat) : (Txt.find x ⟨#[c]⟩ = -1 ∧ c ∉ x.cps.toList) ∨ ∃ i : Nat, Txt.find x ⟨#[c]⟩ = (i : Int) ∧ x.cps.toList[i]? = some c := by
  rcases find_whole x ⟨#[c]⟩ with ⟨h1, h2⟩ | ⟨i, h1, h2, _⟩
  · refine .inl ⟨h1, fun hm => ?_⟩
    obtain ⟨i, hi, e⟩ := List.getElem_of_mem hm
    exact h2 i ((StrLaws.subAt_one x c i).mpr (by rw [List.getElem?_eq_getElem hi, e]))
  · exact .inr ⟨i, h1, (StrLaws.subAt_one x c i).mp h2⟩
theorem fnd_neg (c : Nat) : fnd c = -1 ↔ inS c = false := by
  unfold fnd inS
  rcases find_one SIGNS c with ⟨h1, h2⟩ | ⟨i, h1, h2⟩
  · rw [h1, decide_eq_false h2]; simp
  · rw [h1, decide_eq_true (List.mem_of_getElem? h2)]
    constructor
    · intro h; omega
    · intro h; cases h
theorem fnd_lt {c d : Nat} (hc : inS c = true) (hd : inS d = true) : fnd c < fnd d ↔ c < d := by
  have hc' : ¬ fnd c = -1 := fun e => by rw [(fnd_neg c).mp e] at hc; cases hc
  have hd' : ¬ fnd d = -1 := fun e => by rw [(fnd_neg d).mp e] at hd; cases hd
  unfold fnd at *
  rcases find_one SIGNS c with ⟨h1, h2⟩ | ⟨i, h1, h2⟩
  · exact absurd h1 hc'
  rcases find_one SIGNS d with ⟨g1, g2⟩ | ⟨j, g1, g2⟩
  · exact absurd g1 hd'
  rw [h1, g1]
  have P := List.pairwise_iff_getElem.mp SIGNS_rising
  obtain ⟨hi, e1⟩ := List.getElem?_eq_some_iff.mp h2
  obtain ⟨hj, e2⟩ := List.getElem?_eq_some_iff.mp g2
  constructor
  · intro h
    have := P i j hi hj (by omega)
    rw [e1, e2] at this; exact this
  · intro h
    rcases Nat.lt_trichotomy i j with q | q | q
    · omega
    · subst q; rw [e1] at e2; omega
    · have := P j i hj hi q
      rw [e1, e2] at this; omega
theorem in_fnd (l : List Nat) : flatIn (.int (-1)) (l.map fun c => PyData.int (fnd c)) = !l.all inS := by
  induction l with
  | nil => rfl
  | cons c l ih =>
    have e : flatIn (.int (-1)) ((c :: l).map fun c => PyData.int (fnd c)) = (PyData.eqv (.int (fnd c)) (.int (-1)) || flatIn (.int (-1)) (l.map fun c => PyData.int (fnd c))) := rfl
    have e2 : PyData.eqv (.int (fnd c)) (.int (-1)) = !inS c := by
      have h := fnd_neg c
      show (fnd c == -1) = !inS c
      cases hc : inS c with
      | true =>
        rw [hc] at h
        have : ¬ fnd c = -1 := fun z => by have := h.mp z; cases this
        simpa using this
      | false => simpa using h.mpr hc
    rw [e, e2, ih, List.all_cons, Bool.not_and]
/-- no place stands at or ahead of the one before it -/
theorem rising_at : ∀ l : List Nat, l.all inS = true → (((List.range (l.length - 1)).filter fun i => decide (fnd (l.getD (i + 1) 0) ≤ fnd (l.getD i 0))) = [] ↔ rising l = true) := by
  intro l hl
  rw [List.all_eq_true] at hl
  rw [List.filter_eq_nil_iff, rising_iff, List.pairwise_iff_getElem]
  have g : ∀ i (h : i < l.length), l.getD i 0 = l[i] := fun i h => by simp [List.getD, h]
  constructor
  · intro h i j hi hj hij
    have step : ∀ k, i + k + 1 < l.length → l.getD i 0 < l.getD (i + k + 1) 0 := by
      intro k
      induction k with
      | zero =>
        intro hk
        have := h i (List.mem_range.mpr (by omega))
        rw [decide_eq_true_eq, Int.not_le] at this
        have q := (fnd_lt (hl _ (by rw [g i (by omega)]; exact List.getElem_mem _)) (hl _ (by rw [g (i + 1) hk]; exact List.getElem_mem _))).mp this
        exact q
      | succ k ih =>
        intro hk
        have a := ih (by omega)
        have := h (i + k + 1) (List.mem_range.mpr (by omega))
        rw [decide_eq_true_eq, Int.not_le] at this
        have q := (fnd_lt (hl _ (by rw [g (i + k + 1) (by omega)]; exact List.getElem_mem _)) (hl _ (by rw [g (i + k + 1 + 1) (by omega)]; exact List.getElem_mem _))).mp this
        exact Nat.lt_trans a q
    have := step (j - i - 1) (by omega)
    rw [show i + (j - i - 1) + 1 = j by omega, g i hi, g j hj] at this
    exact this
  · intro h i hi
    rw [List.mem_range] at hi
    rw [decide_eq_true_eq, Int.not_le]
    rw [g i (by omega), g (i + 1) (by omega)]
    exact (fnd_lt (hl _ (List.getElem_mem _)) (hl _ (List.getElem_mem _))).mpr (h i (i + 1) (by omega) (by omega) (by omega))
/-! ### a comprehension with a test -/
theorem lc_filt {vs : List Nat} {g : GT} {tt : MT} {te : ME} {P : List D → Rho → Prop} {r : Rho} {α : Type} (f gv : α → D) (p : α → Bool) {as : List α}
    (h : ∀ a ∈ as, ∀ ds acc, acc.length < sizeLine → (p a = true → lcM vs g tt te P ds (acc ++ [gv a]) r) → (p a = false → lcM vs g tt te P ds acc r) → lcM vs g tt te P (f a :: ds) acc r)
    (hz : as.length < sizeLine) (hp : P ((as.filter p).map gv) r) : Lc vs g tt te P (as.map f) [] r := by
  have go : ∀ (bs : List α) (acc : List D), (∀ b ∈ bs, b ∈ as) → acc.length + bs.length < sizeLine → P (acc ++ (bs.filter p).map gv) r → lcM vs g tt te P (bs.map f) acc r := by
    intro bs
    induction bs with
    | nil => intro acc _ _ q; simpa [lcM] using q
    | cons b bs ih =>
      intro acc hm hl q
      simp only [List.length_cons] at hl
      have hm' := fun x hx => hm x (List.mem_cons_of_mem _ hx)
      refine h b (hm b List.mem_cons_self) _ acc (by omega) (fun e => ih _ hm' ?_ ?_) (fun e => ih _ hm' (by omega) ?_)
      · simp only [List.length_append, List.length_cons, List.length_nil]; omega
      · rw [List.filter_cons, if_pos e] at q; simpa using q
      · rw [List.filter_cons, if_neg (by rw [e]; simp)] at q; exact q
  exact ⟨go as [] (fun _ h => h) (by simpa using hz) (by simpa using hp)⟩
theorem flatD_ints {α : Type} (f : α → Int) (as : List α) : (as.map fun a => PyData.int (f a)).all flatD = true := by
  induction as with
  | nil => rfl
  | cons x xs ih => simp [flatD, ih]
theorem shaped_intsf {α : Type} (f : α → Int) (as : List α) : SeqAt.shaped (.list (as.map fun a => PyData.int (f a))) = true := by
  have := shaped_ints (as.map f)
  rwa [List.map_map] at this
end DL
namespace DL
theorem okR2_of {i j : Int} (h1 : -1000000000000000000 ≤ i) (h2 : i ≤ 1000000000000000000) (h3 : -1000000000000000000 ≤ j) (h4 : j ≤ 1000000000000000000) : (okR i && okR j) = true := by rw [okR_of h1 h2, okR_of h3 h4]; rfl
end DL
namespace DL
theorem map_getD {l : List Nat} {i : Nat} (h : i < l.length) (f : Nat → D) : (l.map f)[i]? = some (f (l.getD i 0)) := by
  have e : l.getD i 0 = l[i] := by rw [List.getD_eq_getElem?_getD, List.getElem?_eq_getElem h]; rfl
  rw [List.getElem?_map, List.getElem?_eq_getElem h, e]; rfl
end DL
namespace DL
open PySem L2 PyProof.Rows
theorem eqv_str {a w : Str} (h : ¬ w = a) : PyData.eqv (.str a) (.str w) = false := by
  show (a == w) = false
  have : ¬ a = w := fun e => h e.symm
  simpa using this
/-- the words, or none of them -/
theorem word_cases (w : Str) : (w = "nothing" ∨ w = "never") ∨ (w = "sign" ∨ w = "but") ∨ (w = "name" ∨ w = "again") ∨ (w = "row" ∨ w = "choice") ∨ (w = "many" ∨ w = "maybe" ∨ w = "ahead" ∨ w = "not") ∨ (w = "hold" ∨ w = "tag") ∨ w = "make" ∨
    (tLook FORMS w = none ∧ flatIn (.str w) [.str "nothing", .str "never"] = false ∧ flatIn (.str w) [.str "sign", .str "but"] = false ∧ flatIn (.str w) [.str "name", .str "again"] = false ∧ flatIn (.str w) [.str "row", .str "choice"] = false ∧ flatIn (.str w) [.str "many", .str "maybe", .str "ahead", .str "not"] = false ∧ flatIn (.str w) [.str "hold", .str "tag"] = false ∧ ¬ w = "make") := by
  by_cases h1 : w = "nothing"
  · exact .inl (.inl h1)
  by_cases h2 : w = "never"
  · exact .inl (.inr h2)
  by_cases h3 : w = "sign"
  · exact .inr (.inl (.inl h3))
  by_cases h4 : w = "but"
  · exact .inr (.inl (.inr h4))
  by_cases h5 : w = "name"
  · exact .inr (.inr (.inl (.inl h5)))
  by_cases h6 : w = "again"
  · exact .inr (.inr (.inl (.inr h6)))
  by_cases h7 : w = "row"
  · exact .inr (.inr (.inr (.inl (.inl h7))))
  by_cases h8 : w = "choice"
  · exact .inr (.inr (.inr (.inl (.inr h8))))
  by_cases h9 : w = "many"
  · exact .inr (.inr (.inr (.inr (.inl (.inl h9)))))
  by_cases h10 : w = "maybe"
  · exact .inr (.inr (.inr (.inr (.inl (.inr (.inl h10))))))
  by_cases h11 : w = "ahead"
  · exact .inr (.inr (.inr (.inr (.inl (.inr (.inr (.inl h11)))))))
  by_cases h12 : w = "not"
  · exact .inr (.inr (.inr (.inr (.inl (.inr (.inr (.inr h12)))))))
  by_cases h13 : w = "hold"
  · exact .inr (.inr (.inr (.inr (.inr (.inl (.inl h13))))))
  by_cases h14 : w = "tag"
  · exact .inr (.inr (.inr (.inr (.inr (.inl (.inr h14))))))
  by_cases h15 : w = "make"
  · exact .inr (.inr (.inr (.inr (.inr (.inr (.inl h15))))))
  refine .inr (.inr (.inr (.inr (.inr (.inr (.inr ⟨?_, ?_, ?_, ?_, ?_, ?_, ?_, h15⟩))))))
  · have k : ∀ (a b : Str) (t : Tab), ¬ w = a → tLook ((a, b) :: t) w = tLook t w := fun a b t h => by
      rw [tLook, if_neg (fun e => h e.symm)]
    unfold FORMS
    rw [k _ _ _ h1, k _ _ _ h2, k _ _ _ h3, k _ _ _ h4, k _ _ _ h7, k _ _ _ h8, k _ _ _ h9, k _ _ _ h10, k _ _ _ h11, k _ _ _ h12, k _ _ _ h5, k _ _ _ h13, k _ _ _ h6, k _ _ _ h14, k _ _ _ h15]
    rfl
  · simp only [flatIn, List.any_cons, List.any_nil, eqv_str h1, eqv_str h2, Bool.or_self]
  · simp only [flatIn, List.any_cons, List.any_nil, eqv_str h3, eqv_str h4, Bool.or_self]
  · simp only [flatIn, List.any_cons, List.any_nil, eqv_str h5, eqv_str h6, Bool.or_self]
  · simp only [flatIn, List.any_cons, List.any_nil, eqv_str h7, eqv_str h8, Bool.or_self]
  · simp only [flatIn, List.any_cons, List.any_nil, eqv_str h9, eqv_str h10, eqv_str h11, eqv_str h12, Bool.or_self]
  · simp only [flatIn, List.any_cons, List.any_nil, eqv_str h13, eqv_str h14, Bool.or_self]
end DL
namespace DL
open PySem L2 PyProof.Rows
/-! ### data bent at a place -/
mutual
def okDB : D → Bool
  | .none => true
  | .bool _ => true
  | .int i => decide (-10000000000 < i) && decide (i < 10000000000)
  | .str x => okSB x
  | .list xs => okDBs xs
  | .tuple xs => okDBs xs
  | .dict kvs => okDBk kvs
def okDBs : List D → Bool
  | [] => true
  | d :: ds => okDB d && okDBs ds
def okDBk : List (D × D) → Bool
  | [] => true
  | (a, b) :: r => okDB a && okDB b && okDBk r
end
mutual
theorem okDB_ok : ∀ {d : D}, okDB d = true → okD d
  | .none, _ => trivial
  | .bool _, _ => trivial
  | .int i, h => by
    have h2 : -10000000000 < i ∧ i < 10000000000 := by simpa [okDB] using h
    exact h2
  | .str x, h => okS_of h
  | .list xs, h => okDBs_ok h
  | .tuple xs, h => okDBs_ok h
  | .dict kvs, h => okDBk_ok h
theorem okDBs_ok : ∀ {ds : List D}, okDBs ds = true → okDs ds
  | [], _ => trivial
  | d :: ds, h => by
    simp only [okDBs, Bool.and_eq_true] at h
    exact ⟨okDB_ok h.1, okDBs_ok h.2⟩
theorem okDBk_ok : ∀ {ds : List (D × D)}, okDBk ds = true → okDk ds
  | [], _ => trivial
  | (a, b) :: ds, h => by
    simp only [okDBk, Bool.and_eq_true] at h
    exact ⟨okDB_ok h.1.1, okDB_ok h.1.2, okDBk_ok h.2⟩
end
/-- plain: texts of signs, no list, no dict -/
def Pl (d : D) : Prop := okD d ∧ noList d = true ∧ d.hasDict = false
def Pls (ds : List D) : Prop := ∀ d ∈ ds, Pl d
theorem noListA_iff : ∀ {ds : List D}, noListA ds = true ↔ ∀ d ∈ ds, noList d = true
  | [] => by simp [noListA]
  | d :: ds => by simp [noListA, noListA_iff (ds := ds)]
theorem Pl.tup {ds : List D} : Pl (.tuple ds) ↔ Pls ds := by
  unfold Pl Pls
  constructor
  · rintro ⟨h1, h2, h3⟩ d hd
    exact ⟨okDs_iff.mp h1 d hd, noListA_iff.mp h2 d hd, hasDictAll_iff.mp (by simpa [PyData.hasDict] using h3) d hd⟩
  · intro h
    refine ⟨okDs_iff.mpr fun d hd => (h d hd).1, noListA_iff.mpr fun d hd => (h d hd).2.1, ?_⟩
    have := hasDictAll_iff.mpr fun d hd => (h d hd).2.2
    simpa [PyData.hasDict] using this
mutual
theorem Rdr.noList : ∀ r : Rdr, DL.noList r.toD = true
  | .l0 w => by simp [Rdr.toD, DL.noList, noListA]
  | .l1 w x => by simp [Rdr.toD, DL.noList, noListA]
  | .ps w rs => by simp [Rdr.toD, DL.noList, noListA, noLists rs]
  | .un w r => by simp [Rdr.toD, DL.noList, noListA, Rdr.noList r]
  | .bi w x r => by simp [Rdr.toD, DL.noList, noListA, Rdr.noList r]
theorem noLists : ∀ rs : List Rdr, noListA (toDs rs) = true
  | [] => by simp [toDs, noListA]
  | r :: rs => by simp [toDs, noListA, Rdr.noList r, noLists rs]
end
theorem Rdr.pl {r : Rdr} (h : r.wf) : Pl r.toD := ⟨Rdr.okD r h.good, Rdr.noList r, Rdr.noDict r⟩
/-- what comes of a plain thing of size n and depth k by one change -/
def Bt (n k : Nat) (o : D) : Prop := okD o ∧ wt o ≤ n ∧ o.depth ≤ k ∧ (noList o = true ∨ o.hasDict = false)
theorem Bt.mono {n k n' k' : Nat} {o : D} (h : Bt n k o) (h1 : n ≤ n') (h2 : k ≤ k') : Bt n' k' o := ⟨h.1, Nat.le_trans h.2.1 h1, Nat.le_trans h.2.2.1 h2, h.2.2.2⟩
theorem Pl.bt {d : D} (h : Pl d) : Bt (wt d) d.depth d := ⟨h.1, Nat.le_refl _, Nat.le_refl _, .inl h.2.1⟩
theorem Bt.fit {n k : Nat} {o : D} (h : Bt n k o) (h1 : n ≤ 1000000) (h2 : k ≤ 64) : Fit o := ⟨h.1, Nat.le_trans h.2.1 h1, Nat.le_trans h.2.2.1 h2⟩
theorem Bt.repr {n k : Nat} {o : D} (h : Bt n k o) (h1 : n ≤ 1000000) (h2 : k ≤ 64) : reprOk o = true := by
  obtain ⟨a, b, c, d⟩ := h
  have := shown_le o a
  have e : sizeLine = 16777216 := sizeLine_eq
  unfold reprOk
  rw [ok_showable o a, decide_eq_true (by omega : o.shown.length ≤ sizeLine), decide_eq_true (by omega : o.depth ≤ 64)]
  rcases d with d | d
  · rw [d]; simp
  · rw [d]; rfl
theorem wts_app (a b : List D) : wts (a ++ b) = wts a + wts b := by
  induction a with
  | nil => simp [wts]
  | cons x a ih => simp only [List.cons_append, wts, ih]; omega
theorem depthAll_app (a b : List D) : PyData.depthAll (a ++ b) = max (PyData.depthAll a) (PyData.depthAll b) := by
  induction a with
  | nil => simp [PyData.depthAll]
  | cons x a ih => simp only [List.cons_append, PyData.depthAll, ih]; omega
theorem okDs_app {a b : List D} (h : okDs a) (g : okDs b) : okDs (a ++ b) := okDs_iff.mpr fun d hd => by
  rcases List.mem_append.mp hd with hd | hd
  · exact okDs_iff.mp h d hd
  · exact okDs_iff.mp g d hd
/-- one thing of a plain tuple is another -/
theorem Bt.swap {A B : List D} {o : D} {n k : Nat} (hA : Pls A) (hB : Pls B) (h : Bt n k o) : Bt (wts A + wts B + n + 6) (max (max (PyData.depthAll A) (PyData.depthAll B)) k + 1) (.tuple (A ++ [o] ++ B)) := by
  obtain ⟨a, b, c, d⟩ := h
  refine ⟨okDs_app (okDs_app (okDs_iff.mpr fun d hd => (hA d hd).1) ⟨a, trivial⟩) (okDs_iff.mpr fun d hd => (hB d hd).1), ?_, ?_, ?_⟩
  · rw [wt, wts_app, wts_app, wts, wts]; omega
  · simp only [PyData.depth, depthAll_app, PyData.depthAll]; omega
  · have nl : ∀ {C : List D}, Pls C → noListA C = true := fun hC => noListA_iff.mpr fun d hd => (hC d hd).2.1
    have nd : ∀ {C : List D}, Pls C → PyData.hasDictAll C = false := fun hC => hasDictAll_iff.mpr fun d hd => (hC d hd).2.2
    rcases d with d | d
    · refine .inl (noListA_iff.mpr fun x hx => ?_)
      rcases List.mem_append.mp hx with hx | hx
      · rcases List.mem_append.mp hx with hx | hx
        · exact (hA x hx).2.1
        · rw [List.mem_singleton.mp hx]; exact d
      · exact (hB x hx).2.1
    · refine .inr (hasDictAll_iff.mpr fun x hx => ?_)
      rcases List.mem_append.mp hx with hx | hx
      · rcases List.mem_append.mp hx with hx | hx
        · exact (hA x hx).2.2
        · rw [List.mem_singleton.mp hx]; exact d
      · exact (hB x hx).2.2
theorem Bt.plain {C : List D} (hC : Pls C) : Bt (wts C + 4) (PyData.depthAll C + 1) (.tuple C) := by
  have := (Pl.tup.mpr hC).bt
  exact this.mono (by rw [wt]; omega) (by simp only [PyData.depth]; omega)
theorem Bt.list {C : List D} (hC : Pls C) : Bt (wts C + 4) (PyData.depthAll C + 1) (.list C) := by
  refine ⟨okDs_iff.mpr fun d hd => (hC d hd).1, by rw [wt]; omega, by simp only [PyData.depth]; omega, .inr ?_⟩
  have := hasDictAll_iff.mpr fun d hd => (hC d hd).2.2
  simpa [PyData.hasDict] using this
/-- a list at a place -/
theorem split_at {ds : List D} {v : Int} (h0 : 0 ≤ v) (h1 : v < ds.length) : ∃ (A B : List D) (x : D), ds = A ++ x :: B ∧ cutD ds none (some v) = A ∧ cutD ds (some (v + 1)) none = B ∧ cutD ds (some v) none = x :: B ∧ atI ds v = some x := by
  obtain ⟨i, rfl⟩ := Int.eq_ofNat_of_zero_le h0
  have hi : i < ds.length := by omega
  refine ⟨ds.take i, ds.drop (i + 1), ds[i], ?_, cutD_hi ds i, ?_, ?_, at_nat (List.getElem?_eq_getElem hi)⟩
  · rw [← List.drop_eq_getElem_cons hi, List.take_append_drop]
  · rw [show (i : Int) + 1 = ((i + 1 : Nat) : Int) by omega, cutD_lo]
  · rw [cutD_lo, List.drop_eq_getElem_cons hi]
def constB (n k : Nat) (o : D) : Bool := okDB o && decide (wt o ≤ n) && decide (o.depth ≤ k) && (noList o || !o.hasDict)
theorem constB_ok {n k : Nat} {o : D} (h : constB n k o = true) : Bt n k o := by
  simp only [constB, Bool.and_eq_true, decide_eq_true_eq, Bool.or_eq_true, Bool.not_eq_true'] at h
  exact ⟨okDB_ok h.1.1.1, h.1.1.2, h.1.2, h.2⟩
end DL
namespace DL
open PySem L2 PyProof.Rows
/-! ### dicts in boxes: keys ints and texts -/
def dPut (kvs : List (D × D)) (k : Key) (d : D) : List (D × D) :=
  if (kvs.any fun p => decide (kOf p.1 = some k)) = true then kvs.map (fun p => if kOf p.1 = some k then (p.1, d) else p) else kvs ++ [(kD k, d)]
theorem put_ok {K : Fg} {F : Hp} {kvs : List (Key × V)} {ds : List (D × D)} {k : Key} {v : V} {d : D} (h1 : ds.map (·.1) = kvs.map (fun p => kD p.1)) (h2 : RpA K F (kvs.map (·.2)) (ds.map (·.2))) (hv : Rp K F v d) :
    (dPut ds k d).map (·.1) = (putK kvs k v).map (fun p => kD p.1) ∧ RpA K F ((putK kvs k v).map (·.2)) ((dPut ds k d).map (·.2)) := by
  have hany : ∀ {kvs : List (Key × V)} {ds : List (D × D)}, ds.map (·.1) = kvs.map (fun p => kD p.1) → (ds.any fun p => decide (kOf p.1 = some k)) = kvs.any fun p => decide (p.1 = k) := by
    intro kvs
    induction kvs with
    | nil => intro ds h; cases ds with | nil => rfl | cons _ _ => cases h
    | cons q kvs ih =>
      intro ds h
      cases ds with
      | nil => cases h
      | cons p ds =>
        simp only [List.map_cons, List.cons.injEq] at h
        have e : decide (kOf p.1 = some k) = decide (q.1 = k) := by rw [h.1, kOf_kD]; simp
        rw [List.any_cons, List.any_cons, ih h.2, e]
  have hmap : ∀ {kvs : List (Key × V)} {ds : List (D × D)}, ds.map (·.1) = kvs.map (fun p => kD p.1) → RpA K F (kvs.map (·.2)) (ds.map (·.2)) →
      (ds.map (fun p => if kOf p.1 = some k then (p.1, d) else p)).map (·.1) = (kvs.map (fun kv => if kv.1 = k then (kv.1, v) else kv)).map (fun p => kD p.1) ∧
      RpA K F ((kvs.map (fun kv => if kv.1 = k then (kv.1, v) else kv)).map (·.2)) ((ds.map (fun p => if kOf p.1 = some k then (p.1, d) else p)).map (·.2)) := by
    intro kvs
    induction kvs with
    | nil => intro ds h _; cases ds with | nil => exact ⟨rfl, .nil⟩ | cons _ _ => cases h
    | cons q kvs ih =>
      intro ds h r
      cases ds with
      | nil => cases h
      | cons p ds =>
        simp only [List.map_cons, List.cons.injEq] at h
        cases r with
        | cons r1 r2 =>
          obtain ⟨g1, g2⟩ := ih h.2 r2
          simp only [List.map_cons]
          by_cases e : q.1 = k
          · have e2 : kOf p.1 = some k := by rw [h.1, kOf_kD, e]
            rw [if_pos e, if_pos e2]
            exact ⟨by rw [g1]; simp only [h.1], .cons hv g2⟩
          · have e2 : ¬ kOf p.1 = some k := by rw [h.1, kOf_kD]; intro z; exact e (Option.some.inj z)
            rw [if_neg e, if_neg e2]
            exact ⟨by rw [g1]; simp only [h.1], .cons r1 g2⟩
  unfold dPut putK
  rw [hany h1]
  split
  · exact hmap h1 h2
  · rw [List.map_append, List.map_append, List.map_append, List.map_append, h1]
    exact ⟨rfl, h2.append (.cons hv .nil)⟩
/-- the dict of slot i -/
def bxD (r : Rho) (i : Nat) : Option (Bool × List (D × D)) := match r[i]? with
  | some (some (.box b (.K kvs))) => some (b, kvs)
  | _ => none
theorem bxD_of {r : Rho} {i : Nat} {q : Bool × List (D × D)} (h : bxD r i = some q) : r[i]? = some (some (.box q.1 (.K q.2))) := by
  unfold bxD at h
  split at h
  · rename_i b kvs e; cases h; exact e
  · cases h
def isDc (r : Rho) (i : Nat) : Bool := (bxD r i).isSome
theorem Ok.dct {K : Fg} {e : En} {F : Hp} {r : Rho} {s : L2.St} {H : Hp} {i : Nat} {b : Bool} {ds : List (D × D)} (k : Ok K e F r s H) (h : r[i]? = some (some (Ce.box b (.K ds)))) :
    ∃ p kvs, s[i]? = some (some (V.ref p)) ∧ H p = some (.dK kvs) ∧ ds.map (·.1) = kvs.map (fun p => kD p.1) ∧ RpA K F (kvs.map (·.2)) (ds.map (·.2)) ∧ F p = none := by
  obtain ⟨p, o, h1, h2, h3, h4, _⟩ := k.box i b _ h
  cases h3 with
  | K q1 q2 => exact ⟨p, _, h1, h2, q1, q2, h4⟩
section
variable {X : Cx} {a b c : Expr} {ma mb mc : ME} {pos pos' p p' apos : Pos} {x : Str} {i : Nat}
/-- k in x, k not in x -/
def mDIn (neg : Bool) (i : Nat) (mb : ME) : ME := fun r P => mb r fun y r1 => onP (bxD r1 i) fun _ kvs => onO (look r1 y.tmp) fun d => onO (kOf d) fun k => P (.val (.bool (xor neg (dGet kvs k).isSome))) r1
theorem din_read {e : En} {neg : Bool} {s : L2.St} {H : Hp} {Q : VK} (h : T X.K e (mDIn neg i mb) s H Q) :
    (Tt X.K e (mTmp mb)) s H fun y H1 => tVar i s H1 fun x H2 => ∃ a o, x = .ref a ∧ DGet H2 a y o ∧ Q (.bl (xor neg o.isSome)) H2 := by
  obtain ⟨F, r, k, P, hm, hP⟩ := h
  refine ⟨F, r, k, fun y r1 => onP (bxD r1 i) fun _ kvs => onO (look r1 y) fun d => onO (kOf d) fun k => P (.val (.bool (xor neg (dGet kvs k).isSome))) r1, hm, fun y r1 v F1 H1 hy k1 q1 t1 => ?_⟩
  obtain ⟨bb, kvs, e1, h1⟩ := onP.ex hy
  obtain ⟨d, e2, h2⟩ := onO.ex h1
  obtain ⟨kk, e3, h3⟩ := onO.ex h2
  obtain ⟨ad, vs, g1, g2, g3, g4, _⟩ := k1.dct (bxD_of e1)
  have lk := (t1.look k1 e2).key e3
  subst lk
  refine ⟨.ref ad, g1, ad, valV vs kk, rfl, .k g2, ?_⟩
  have : (valV vs kk).isSome = (dGet kvs kk).isSome := by
    rcases val_get (k := kk) g3 g4 with ⟨z1, z2⟩ | ⟨_, _, z1, z2, _⟩ <;> rw [z1, z2] <;> rfl
  rw [this]
  exact hP _ r1 _ F1 H1 h3 k1 q1 (.val (.bl _))
theorem de_din (hu : X.A.units + 1 < cLine) (hN : X.N[i]? = some x) (hv : Vis X.env.scope x) (hb : DE X b mb) (hmk : behindInMarks .In (.Name x p) = false := by rfl) (hd : (x == ("__debug__" : Str)) = false := by decide) (hcd : (x == ("__classdict__" : Str)) = false := by decide) : DE X (.Compare b [.In] [.Name x p] pos) (mDIn false i mb) := fun e =>
  PE.imp (pe_cmp (pc_din hu (hb.tmp e) (pe_var hN hv hd hcd)) hmk) fun s H Q h => by
    have := din_read h
    simp only [Bool.false_xor] at this
    exact this
theorem de_dnotin (hu : X.A.units + 1 < cLine) (hN : X.N[i]? = some x) (hv : Vis X.env.scope x) (hb : DE X b mb) (hmk : behindInMarks .NotIn (.Name x p) = false := by rfl) (hd : (x == ("__debug__" : Str)) = false := by decide) (hcd : (x == ("__classdict__" : Str)) = false := by decide) : DE X (.Compare b [.NotIn] [.Name x p] pos) (mDIn true i mb) := fun e =>
  PE.imp (pe_cmp (pc_dnotin hu (hb.tmp e) (pe_var hN hv hd hcd)) hmk) fun s H Q h => by
    have := din_read h
    simp only [Bool.true_xor] at this
    exact this
theorem dt_din (hu : X.A.units + 1 < cLine) (hN : X.N[i]? = some x) (hv : Vis X.env.scope x) (hb : DE X b mb) (hmk : behindInMarks .In (.Name x p) = false := by rfl) (hd : (x == ("__debug__" : Str)) = false := by decide) (hcd : (x == ("__classdict__" : Str)) = false := by decide) : DT X (.Compare b [.In] [.Name x p] pos) (mTest (mDIn false i mb)) := fun e =>
  PT.imp (pt_cmp (pc_din hu (hb.tmp e) (pe_var hN hv hd hcd)) hmk) fun s H Q h => tTest_of (t := tDIn (Tt X.K e (mTmp mb)) (tVar i)) (fun s H Q h => by
    have := din_read h
    simp only [Bool.false_xor] at this
    exact this) h
theorem dt_dnotin (hu : X.A.units + 1 < cLine) (hN : X.N[i]? = some x) (hv : Vis X.env.scope x) (hb : DE X b mb) (hmk : behindInMarks .NotIn (.Name x p) = false := by rfl) (hd : (x == ("__debug__" : Str)) = false := by decide) (hcd : (x == ("__classdict__" : Str)) = false := by decide) : DT X (.Compare b [.NotIn] [.Name x p] pos) (mTest (mDIn true i mb)) := fun e =>
  PT.imp (pt_cmp (pc_dnotin hu (hb.tmp e) (pe_var hN hv hd hcd)) hmk) fun s H Q h => tTest_of (t := tDNotIn (Tt X.K e (mTmp mb)) (tVar i)) (fun s H Q h => by
    have := din_read h
    simp only [Bool.true_xor] at this
    exact this) h
/-! in, by what stands in the slot: a dict, or anything else -/
theorem PE.or {t u : TE} (h : PE X a t) (g : PE X a u) : PE X a (fun s H Q => t s H Q ∨ u s H Q) := ⟨fun pins s σ H Q I q => q.elim (h.run pins s σ H Q I) (g.run pins s σ H Q I)⟩
theorem PT.or {t u : TT} (h : PT X a t) (g : PT X a u) : PT X a (fun s H Q => t s H Q ∨ u s H Q) := ⟨fun pins s σ H Q I q => q.elim (h.run pins s σ H Q I) (g.run pins s σ H Q I)⟩
theorem PS.or {st : Stmt} {t u : TS} (h : PS X st t) (g : PS X st u) : PS X st (fun D s H => t D s H ∨ u D s H) := ⟨fun pins s σ H D I q => q.elim (h.run pins s σ H D I) (g.run pins s σ H D I)⟩
def mSel (i : Nat) (m n : ME) : ME := fun r P => match isDc r i with
  | true => m r P
  | false => n r P
theorem de_sel {m n : ME} (h : DE X a m) (g : DE X a n) : DE X a (mSel i m n) := fun e => PE.imp (PE.or (h e) (g e)) fun s H Q ⟨F, r, k, P, hm, hP⟩ => by
  unfold mSel at hm
  split at hm
  · exact .inl ⟨F, r, k, P, hm, hP⟩
  · exact .inr ⟨F, r, k, P, hm, hP⟩
def tSel (i : Nat) (m n : MT) : MT := fun r P => match isDc r i with
  | true => m r P
  | false => n r P
theorem dt_sel {m n : MT} (h : DT X a m) (g : DT X a n) : DT X a (tSel i m n) := fun e => PT.imp (PT.or (h e) (g e)) fun s H Q ⟨F, r, k, P, hm, hP⟩ => by
  unfold tSel at hm
  split at hm
  · exact .inl ⟨F, r, k, P, hm, hP⟩
  · exact .inr ⟨F, r, k, P, hm, hP⟩
def sSel (i : Nat) (m n : MS) : MS := fun r O => match isDc r i with
  | true => m r O
  | false => n r O
theorem ds_sel {st : Stmt} {m n : MS} (h : DS X st m) (g : DS X st n) : DS X st (sSel i m n) := fun e => PS.imp (PS.or (h e) (g e)) fun D s H ⟨F, r, k, O, hm, hP⟩ => by
  unfold sSel at hm
  split at hm
  · exact .inl ⟨F, r, k, O, hm, hP⟩
  · exact .inr ⟨F, r, k, O, hm, hP⟩
/-! x[k] = v -/
/-- the pairs, one by one -/
def strictK (l : List (D × D)) (K : List (D × D) → Prop) : Prop := match l with
  | [] => K []
  | (a, b) :: l => strictK l fun l' => K ((a, b) :: l')
theorem strictK.ex : ∀ {l : List (D × D)} {K : List (D × D) → Prop}, strictK l K → K l
  | [], _, h => h
  | d :: l, K, h => strictK.ex (l := l) (K := fun l' => K (d :: l')) h
theorem strictK_mk : ∀ {l : List (D × D)} {K : List (D × D) → Prop}, K l → strictK l K
  | [], _, h => h
  | d :: l, K, h => strictK_mk (l := l) (K := fun l' => K (d :: l')) h
def KDPut (i : Nat) (d : D) (O : Out) (y : R) (r : Rho) : Prop := onO (look r y) fun z => onO (kOf z) fun k => onP (bxD r i) fun ba kvs => Rq (kvs.length < sizeLine) (strictK (dPut kvs k d) fun l => strict (r.set i (some (.box ba (.K l)))) O.nx)
def sDPutK (i : Nat) (ma mb : ME) : MS := fun r O => ma r fun x r1 => onP (hold r1 x.tmp) fun qa qb => rqB (isDc qb i) (mb qb fun y r3 => KDPut i qa O y.tmp r3)
theorem ds_dput (hu : X.A.units + 1 < cLine) (hN : X.N[i]? = some x) (hv : Vis X.env.scope x) (ha : DE X a ma) (hb : DE X b mb) (hd : (x == ("__debug__" : Str)) = false := by decide) (hcd : (x == ("__classdict__" : Str)) = false := by decide)
    (hs : swapsWith a (some (.Subscript (.Name x p) b pos')) pos.line X.env = pure false := by rfl) : DS X (.Assign [.Subscript (.Name x p) b pos'] a pos) (sDPutK i ma mb) := fun e =>
  PS.imp (ps_dput hu (pe_var hN hv hd hcd) (hb.tmp e) (ha.tmp e) hs) fun D s H ⟨F, r, k, O, hm, h⟩ => ⟨F, r, k, fun x r1 => onP (hold r1 x) fun qa qb => rqB (isDc qb i) (mb qb fun y r3 => KDPut i qa O y.tmp r3), hm, fun x r1 v F1 H1 hx k1 q t => by
    obtain ⟨d, r2, eh, hx2⟩ := onP.ex hx
    obtain ⟨hl, hp⟩ := rqB.ex hx2
    obtain ⟨F2, k2, q2, rp⟩ := t.hold k1 eh
    cases hb0 : bxD r2 i with
    | none => unfold isDc at hl; rw [hb0] at hl; cases hl
    | some q0 =>
    obtain ⟨pp, vs0, g1, _⟩ := k2.dct (bxD_of hb0)
    refine ⟨.ref pp, g1, F2, r2, k2, fun y r3 => KDPut i d O y r3, hp, ?_⟩
    intro y r3 v3 F3 H3 hy k3 q3 t3
    obtain ⟨z, e1, hy1⟩ := onO.ex hy
    obtain ⟨kk, e2, hy2⟩ := onO.ex hy1
    obtain ⟨ba, kvs, e3, hy3⟩ := onP.ex hy2
    have hlen := Rq.c hy3
    have hn := (Rq.a hy3).ex.ex
    obtain ⟨pp', vs, w1, w2, w3, w4, w5⟩ := k3.dct (bxD_of e3)
    rw [g1] at w1; cases w1
    have lk := (t3.look k3 e1).key e2
    subst lk
    have l2 : vs.length = kvs.length := by
      have := congrArg List.length w3
      simpa using this.symm
    obtain ⟨p1, p2⟩ := put_ok (k := kk) w3 w4 (rp.mono q3)
    refine ⟨pp, _, rfl, .k w2 (by omega), ?_⟩
    exact h.nx _ s F3 _ hn (k3.write (bxD_of e3) g1 (.K p1 p2)) ((q.trans q2).trans q3)⟩
/-! x.get(k), x.get(k, z) -/
def mDGet1 (i : Nat) (mb : ME) : ME := fun r P => rqB (isDc r i) (mb r fun y r1 => onP (bxD r1 i) fun _ kvs => onO (look r1 y.tmp) fun d => onO (kOf d) fun k => P (.val ((dGet kvs k).getD .none)) r1)
theorem isDc_of {r : Rho} (h : isDc r i = true) : ∃ q, bxD r i = some q := by
  unfold isDc at h
  exact Option.isSome_iff_exists.mp h
theorem de_dget1 (hu : X.A.units + 1 < cLine) (hN : X.N[i]? = some x) (hv : Vis X.env.scope x) (hb : DE X b mb) (m : M1 X (.Name x p) "get" apos b pos := by exact ⟨rfl, rfl, rfl, rfl⟩) (hd : (x == ("__debug__" : Str)) = false := by decide) (hcd : (x == ("__classdict__" : Str)) = false := by decide) :
    DE X (.Call (.Attribute (.Name x p) "get" apos) [b] [] pos) (mDGet1 i mb) := fun e => PE.imp (pe_dget1 hu (pe_var hN hv hd hcd) (hb.tmp e) m) fun s H Q ⟨F, r, k, P, hm, hP⟩ => by
  obtain ⟨h0, hm⟩ := rqB.ex hm
  obtain ⟨q0, e0⟩ := isDc_of h0
  obtain ⟨ad, vs0, g1, g2, _⟩ := k.dct (bxD_of e0)
  refine ⟨.ref ad, g1, ad, rfl, .inl ⟨vs0, .inl g2⟩, F, r, k, fun y r1 => onP (bxD r1 i) fun _ kvs => onO (look r1 y) fun d => onO (kOf d) fun k => P (.val ((dGet kvs k).getD .none)) r1, hm, fun y r1 v F1 H1 hy k1 q1 t1 => ?_⟩
  obtain ⟨bb, kvs, e1, h1⟩ := onP.ex hy
  obtain ⟨d, e2, h2⟩ := onO.ex h1
  obtain ⟨kk, e3, h3⟩ := onO.ex h2
  obtain ⟨ad', vs, w1, w2, w3, w4, _⟩ := k1.dct (bxD_of e1)
  rw [g1] at w1; cases w1
  have lk := (t1.look k1 e2).key e3
  subst lk
  refine ⟨valV vs kk, .k w2, ?_⟩
  rcases val_get (k := kk) w3 w4 with ⟨z1, z2⟩ | ⟨vv, dd, z1, z2, z3⟩
  · rw [z1]; rw [z2] at h3
    exact hP _ r1 _ F1 H1 h3 k1 q1 (.val .non)
  · rw [z1]; rw [z2] at h3
    exact hP _ r1 _ F1 H1 h3 k1 q1 (.val z3)
def mDGet2 (i : Nat) (mb mc : ME) : ME := fun r P => rqB (isDc r i) (mb r fun y r1 => mc r1 fun z r2 => onP (bxD r2 i) fun _ kvs => onO (look r2 y.tmp) fun d => onO (kOf d) fun k => onP (hold r2 z.tmp) fun qa qb => P (.val ((dGet kvs k).getD qa)) qb)
theorem de_dget2 (hu : X.A.units + 1 < cLine) (hN : X.N[i]? = some x) (hv : Vis X.env.scope x) (hb : DE X b mb) (hc : DE X c mc) (m : M2 X (.Name x p) "get" apos b c pos := by exact ⟨rfl, rfl, rfl, rfl⟩) (hd : (x == ("__debug__" : Str)) = false := by decide) (hcd : (x == ("__classdict__" : Str)) = false := by decide) :
    DE X (.Call (.Attribute (.Name x p) "get" apos) [b, c] [] pos) (mDGet2 i mb mc) := fun e => PE.imp (pe_dget2 hu (pe_var hN hv hd hcd) (hb.tmp e) (hc.tmp e) m) fun s H Q ⟨F, r, k, P, hm, hP⟩ => by
  obtain ⟨h0, hm⟩ := rqB.ex hm
  obtain ⟨q0, e0⟩ := isDc_of h0
  obtain ⟨ad, vs0, g1, g2, _⟩ := k.dct (bxD_of e0)
  refine ⟨.ref ad, g1, ad, rfl, .inl ⟨vs0, .inl g2⟩, F, r, k, fun y r1 => mc r1 fun z r2 => onP (bxD r2 i) fun _ kvs => onO (look r2 y) fun d => onO (kOf d) fun k => onP (hold r2 z.tmp) fun qa qb => P (.val ((dGet kvs k).getD qa)) qb, hm, fun y r1 v F1 H1 hy k1 q1 t1 => ?_⟩
  refine ⟨F1, r1, k1, fun z r2 => onP (bxD r2 i) fun _ kvs => onO (look r2 y) fun d => onO (kOf d) fun k => onP (hold r2 z) fun qa qb => P (.val ((dGet kvs k).getD qa)) qb, hy, fun z r2 v2 F2 H2 hz k2 q2 t2 => ?_⟩
  obtain ⟨bb, kvs, e1, h1⟩ := onP.ex hz
  obtain ⟨d, e2, h2⟩ := onO.ex h1
  obtain ⟨kk, e3, h3⟩ := onO.ex h2
  obtain ⟨qa, qb, e4, h4⟩ := onP.ex h3
  obtain ⟨ad', vs, w1, w2, w3, w4, _⟩ := k2.dct (bxD_of e1)
  rw [g1] at w1; cases w1
  have lk := ((t1.mono q2).look k2 e2).key e3
  subst lk
  obtain ⟨F3, k3, q3, rp⟩ := t2.hold k2 e4
  refine ⟨valV vs kk, .k w2, ?_⟩
  rcases val_get (k := kk) w3 w4 with ⟨z1, z2⟩ | ⟨vv, dd, z1, z2, z3⟩
  · rw [z1]; rw [z2] at h4
    exact hP _ qb _ F3 H2 h4 k3 ((q1.trans q2).trans q3) (.val rp)
  · rw [z1]; rw [z2] at h4
    exact hP _ qb _ F3 H2 h4 k3 ((q1.trans q2).trans q3) (.val (z3.mono q3))
/-! len(x), list(x) of a dict -/
theorem Lk.dK {K : Fg} {F H : Hp} {v : V} {m : MB} {ds : List (D × D)} (h : ∃ p o, v = .ref p ∧ H p = some o ∧ MO K F o m) (e : m = .K ds) : ∃ a kvs, v = .ref a ∧ H a = some (.dK kvs) ∧ ds.map (·.1) = kvs.map (fun p => kD p.1) ∧ RpA K F (kvs.map (·.2)) (ds.map (·.2)) := by
  obtain ⟨p, o, h1, h2, h3⟩ := h
  subst e
  cases h3 with
  | K q1 q2 => exact ⟨p, _, h1, h2, q1, q2⟩
def mDLen (i : Nat) : ME := fun r P => onP (bxD r i) fun _ kvs => P (.val (.int kvs.length)) r
theorem de_dlen (hg : Gl X "len") (hm : X.mg "len" = none) (hN : X.N[i]? = some x) (hv : Vis X.env.scope x) (hs : starEach [.Name x p] X.env = [(false, eval (.Name x p) X.env)] := by rfl) (hpl : (backTo pos (starEach [] X.env)).any (·.1) = false := by rfl) (hd : (x == ("__debug__" : Str)) = false := by decide) (hcd : (x == ("__classdict__" : Str)) = false := by decide) :
    DE X (.Call (.Name "len" p') [.Name x p] [] pos) (mDLen i) := fun e =>
  PE.imp (pe_callB call_lenD hg hm boot_len (pa_cons (pe_var hN hv hd hcd) pa_nil hs)) fun s H Q ⟨F, r, k, P, hm, hP⟩ => by
    obtain ⟨bb, kvs, e1, h1⟩ := onP.ex hm
    obtain ⟨ad, vs, w1, w2, w3, w4, _⟩ := k.dct (bxD_of e1)
    have l2 : vs.length = kvs.length := by
      have := congrArg List.length w3
      simpa using this.symm
    refine ⟨.ref ad, w1, ad, vs, rfl, w2, ?_⟩
    rw [l2]
    exact hP _ r _ F H h1 k (Sub.refl F) (.val (.int _))
def mDList (i : Nat) : ME := fun r P => onP (bxD r i) fun _ kvs => P (.own (.L (kvs.map (·.1)))) r
theorem rpA_keys {K : Fg} {F : Hp} : ∀ kvs : List (Key × V), RpA K F (kvs.map fun kv => kV kv.1) (kvs.map fun p => kD p.1)
  | [] => .nil
  | (k, v) :: r => by
    refine .cons ?_ (rpA_keys r)
    cases k with
    | inl i => exact .int i
    | inr s => exact .str s
theorem de_dlist (hc : X.calm = true) (hg : Gl X "list") (hm : X.mg "list" = none) (hN : X.N[i]? = some x) (hv : Vis X.env.scope x) (hs : starEach [.Name x p] X.env = [(false, eval (.Name x p) X.env)] := by rfl) (hd : (x == ("__debug__" : Str)) = false := by decide) (hcd : (x == ("__classdict__" : Str)) = false := by decide) :
    DE X (.Call (.Name "list" p') [.Name x p] [] pos) (mDList i) := fun e =>
  PE.imp (pe_callTy (call_listD hc) hg hm boot_list (pa_cons (pe_var hN hv hd hcd) pa_nil hs)) fun s H Q ⟨F, r, k, P, hm, hP⟩ => by
    obtain ⟨bb, kvs, e1, h1⟩ := onP.ex hm
    obtain ⟨ad, vs, w1, w2, w3, w4, _⟩ := k.dct (bxD_of e1)
    refine ⟨.ref ad, w1, ad, vs, rfl, .inl w2, fun q hq => ?_⟩
    refine hP _ r _ F _ h1 (k.alloc hq) (Sub.refl F) ?_
    have : RpA X.K F (vs.map fun kv => kV kv.1) (kvs.map (·.1)) := by rw [w3]; exact rpA_keys vs
    exact RR.newL k hq this
end
end DL
namespace DL
open PySem L2 PyProof.Rows
/-! ### sorted(list) -/
def isTup1 : D → Bool
  | .tuple (_ :: _) => true
  | _ => false
def notNT : D → Bool
  | .none => false
  | .tuple _ => false
  | _ => true
def srtB (ds : List D) : Bool := (ds.all fun d => ds.all fun e => PySem.W.alike d e) && (ds.all isTup1 || ds.all notNT) && ds.all fun d => decide (d.depth ≤ 60)
def sortD (ds : List D) : List D := ds.mergeSort (PySem.W.dataLe false id)
theorem srtB_alike {ds : List D} (h : srtB ds = true) : PySem.W.AllAlike ds ∧ PySem.W.Sortable ds ∧ ∀ d ∈ ds, d.depth ≤ 60 := by
  unfold srtB at h
  rw [Bool.and_eq_true, Bool.and_eq_true, Bool.or_eq_true] at h
  obtain ⟨⟨h1, h2⟩, h3⟩ := h
  refine ⟨fun d hd e he => List.all_eq_true.mp (List.all_eq_true.mp h1 d hd) e he, ?_, fun d hd => of_decide_eq_true (List.all_eq_true.mp h3 d hd)⟩
  rcases h2 with h2 | h2
  · refine .inl fun d hd => ?_
    have := List.all_eq_true.mp h2 d hd
    cases d with
    | tuple xs => cases xs with
      | nil => cases this
      | cons x r => exact ⟨x, r, rfl⟩
    | _ => cases this
  · refine .inr fun d hd => ?_
    have := List.all_eq_true.mp h2 d hd
    exact ⟨fun e => (by subst e; cases this), fun xs e => (by subst e; cases this)⟩
theorem rpA_pairs {K : Fg} {F : Hp} : ∀ {qs : List (V × D)}, (∀ q ∈ qs, Rp K F q.1 q.2) → RpA K F (qs.map (·.1)) (qs.map (·.2))
  | [], _ => .nil
  | q :: qs, h => .cons (h q List.mem_cons_self) (rpA_pairs fun x hx => h x (List.mem_cons_of_mem _ hx))
theorem pairs_of {K : Fg} {F : Hp} : ∀ {vs : List V} {ds : List D}, RpA K F vs ds → ∃ qs : List (V × D), qs.map (·.1) = vs ∧ qs.map (·.2) = ds ∧ ∀ q ∈ qs, Rp K F q.1 q.2
  | _, _, .nil => ⟨[], rfl, rfl, fun q h => by cases h⟩
  | _, _, .cons (v := v) (d := d) h r => by
    obtain ⟨qs, e1, e2, e3⟩ := pairs_of r
    exact ⟨(v, d) :: qs, by simp [e1], by simp [e2], fun q hq => by
      rcases List.mem_cons.mp hq with rfl | hq
      · exact h
      · exact e3 q hq⟩
theorem each_vals : ∀ {qs : List (V × D)} {us : List Value}, Vals (qs.map (·.1)) us → PySem.W.EachIs (fun u (q : V × D) => RelV q.1 u) us qs
  | [], _, h => by cases h; exact .nil
  | q :: qs, _, h => by
    cases h with
    | cons a b => exact .cons a (each_vals b)
theorem vals_each : ∀ {qs : List (V × D)} {us : List Value}, PySem.W.EachIs (fun u (q : V × D) => RelV q.1 u) us qs → Vals (qs.map (·.1)) us
  | _, _, .nil => .nil
  | _, _, .cons a b => .cons a (vals_each b)
section
variable {X : Cx}
theorem each_reads {pins : List (Addr × Obj)} {σ : L2.St} {H : Hp} {s : Shared} (I : Inv X pins σ H s) : ∀ {qs : List (V × D)} {us : List Value}, Vals (qs.map (·.1)) us → (∀ q ∈ qs, Rp X.K H q.1 q.2) → PySem.W.EachIs (fun u (q : V × D) => ∃ as, Reads s.heap u q.2 as) us qs
  | [], _, h, _ => by cases h; exact .nil
  | q :: qs, _, h, g => by
    cases h with
    | cons a b =>
      obtain ⟨as, r, _⟩ := Rp.reads I (g q List.mem_cons_self) a
      exact .cons ⟨as, r⟩ (each_reads I b fun x hx => g x (List.mem_cons_of_mem _ hx))
def rSortA (K : Fg) : List V → Hp → VK → Prop := fun xs H Q => ∃ (a : Addr) (qs : List (V × D)), xs = [.ref a] ∧ SqL K H a (qs.map (·.1)) ∧ (∀ q ∈ qs, Rp K H q.1 q.2) ∧ srtB (qs.map (·.2)) = true ∧ ∀ p, H p = none → Q (.ref p) (upd H p (.lst ((qs.mergeSort (PySem.W.dataLe false (·.2))).map (·.1))))
theorem cr_sortA (hu : X.A.units + 66 < cLine) : CallR X (.builtin "sorted") (rSortA X.K) := by
  intro pins s σ H vs us Q I r h
  obtain ⟨a, qs, rfl, hs, hr, hb, q⟩ := h
  obtain ⟨its, rv, hl, hz⟩ := I.list hs
  rw [Vals.ref1 r]
  obtain ⟨h1, h2, h3⟩ := srtB_alike hb
  rw [List.length_map] at hz
  refine PySem.W.sorted_data (R := fun u (q : V × D) => RelV q.1 u) (enc := fun q : V × D => q.2) hl.isList (each_vals rv) (each_reads I rv hr) h1 h2 hz (fun q hq => ?_) fun out hlen ho => ?_
  · have := h3 q.2 (List.mem_map.mpr ⟨q, hq, rfl⟩)
    omega
  · obtain ⟨ep, he'⟩ := PyProof.Rows.sortedAll_at s.heap its out.toArray
    have hv := vals_each ho
    have hlen2 : ((qs.mergeSort (PySem.W.dataLe false (·.2))).map (·.1)).length ≤ sizeLine := by rw [List.length_map, List.length_mergeSort]; exact hz
    exact ⟨.ref _, upd H (s.heap.objs.size + 1) (.lst _), I.laid (t' := s.toks) (fun _ _ => PyProof.Rows.sortedAll_old) (Nat.le_succ _) ⟨hlen2, out, ep, hv, he'⟩, rfl, q _ (I.hok.fresh (Nat.le_succ _))⟩
def fSorted : FA
  | [.list ds] => if srtB ds then some (.own (.L (sortD ds))) else none
  | _ => none
theorem calld_sorted (hu : X.A.units + 66 < cLine) : CallD X (.builtin "sorted") fSorted := by
  refine ⟨_, cr_sortA hu, fun e F r s H vs ds z Q k l ef w => ?_⟩
  unfold fSorted at ef
  split at ef
  · rename_i ds
    split at ef
    · rename_i hb
      cases ef
      obtain ⟨v, rfl, lk⟩ := l.one
      obtain ⟨a, xs, rfl, h1, h2⟩ := lk.lst k.sub
      obtain ⟨qs, rfl, rfl, e3⟩ := pairs_of h2
      refine ⟨a, qs, rfl, .inl h1, fun q hq => (e3 q hq).mono k.sub, hb, fun p hp => ?_⟩
      have e4 : (qs.mergeSort (PySem.W.dataLe false (·.2))).map (·.2) = sortD (qs.map (·.2)) := by
        unfold sortD
        exact List.map_mergeSort (fun a _ b _ => rfl)
      have h5 : RpA X.K F ((qs.mergeSort (PySem.W.dataLe false (·.2))).map (·.1)) (sortD (qs.map (·.2))) := by
        rw [← e4]
        exact rpA_pairs fun q hq => e3 q ((List.mem_mergeSort).mp hq)
      exact w _ F _ (k.alloc hp) (Sub.refl F) (RR.newL k hp h5)
    · cases ef
  · cases ef
def kSorted : List D → (R → Prop) → Prop
  | [.list ds], K => rqB (srtB ds) (K (.own (.L (sortD ds))))
  | _, _ => False
def cSorted : CaK := ⟨fSorted, kSorted, fun ds K h => by
  unfold kSorted at h
  split at h
  · obtain ⟨h1, h2⟩ := rqB.ex h
    exact ⟨_, if_pos h1, h2⟩
  · exact h.elim⟩
end
end DL
namespace DL
open PySem L2 PyProof.Rows
/-! ### [.. for .. for ..] -/
def lcM2 (vs vs1 : List Nat) (g : GT) (tt : MT) (mi1 : MI) (g1 : GT) (tt1 : MT) (te : ME) (P : List D → Rho → Prop) : List D → List D → Rho → Prop
  | [], acc, r => P acc r
  | d :: ds, acc, r => onS (g d r) fun r1 => tt r1 fun b r2 => brK b (mi1 r2 fun ds1 r3 => strict (wipeR r3 vs1) fun r4 => Lc vs1 g1 tt1 te (fun acc' r' => strict (wipeR r' vs) fun r5 => lcM2 vs vs1 g tt mi1 g1 tt1 te P ds acc' r5) ds1 acc r4) (strict (wipeR r2 vs) fun r4 => lcM2 vs vs1 g tt mi1 g1 tt1 te P ds acc r4)
structure Lc2 (vs vs1 : List Nat) (g : GT) (tt : MT) (mi1 : MI) (g1 : GT) (tt1 : MT) (te : ME) (P : List D → Rho → Prop) (ds acc : List D) (r : Rho) : Prop where
  h : lcM2 vs vs1 g tt mi1 g1 tt1 te P ds acc r
def mLc2 (vs vs1 : List Nat) (mi : MI) (g : GT) (tt : MT) (mi1 : MI) (g1 : GT) (tt1 : MT) (te : ME) : ME := fun r P => mi r fun ds r1 => rqB (noBox r1 vs) (strict (wipeR r1 vs) fun r0 => Lc2 vs vs1 g tt mi1 g1 tt1 te (fun acc r2 => strict (backR r2 r1 vs) fun r3 => P (.own (.L acc)) r3) ds [] r0)
theorem wipe_sub {s : L2.St} {vs vs1 : List Nat} (h : ∀ i ∈ vs1, i ∈ vs) : wipe (wipe s vs1) vs = wipe s vs := by
  apply List.ext_getElem?
  intro j
  rw [wipe_get, wipe_get, wipe_get, wipe_length]
  by_cases h1 : j ∈ vs ∧ j < s.length
  · rw [if_pos h1, if_pos h1]
  · rw [if_neg h1, if_neg h1, if_neg fun z => h1 ⟨h j z.1, z.2⟩]
section
variable {X : Cx} {elt tg iter tg1 iter1 c : Expr} {ifs ifs1 : List Expr} {scope : Scope} {own : List (Str × Nat)} {pos : Pos} {mi mi1 : MI} {g g1 : GT} {tt tt1 : MT} {te : ME} {vs vs1 : List Nat}
theorem lc2_read {e : En} (hvs : vs = own.map (·.2)) (hsub : ∀ i ∈ vs1, i ∈ vs) {s : L2.St} {H : Hp} {Q : VK} (h : T X.K e (mLc2 vs vs1 mi g tt mi1 g1 tt1 te) s H Q) :
    ∀ (tg' : TG) (tt' : TT) (wi' : TI) (tg1' : TG) (tt1' : TT) (te' : TE), (∀ e', ∀ v s H Q, TGt X.K e' vs g v s H Q → tg' v s H Q) → (∀ e', ∀ s H Q, TB X.K e' tt s H Q → tt' s H Q) → (∀ e', ∀ s H Q, TIt X.K e' mi1 s H Q → wi' s H Q) →
      (∀ e', ∀ v s H Q, TGt X.K e' vs1 g1 v s H Q → tg1' v s H Q) → (∀ e', ∀ s H Q, TB X.K e' tt1 s H Q → tt1' s H Q) → (∀ e', ∀ s H Q, Tt X.K e' (mTmp te) s H Q → te' s H Q) → tLc2 (TIt X.K e mi) tg' tt' wi' tg1' tt1' te' (own.map (·.2)) vs1 s H Q := by
  intro tg' tt' wi' tg1' tt1' te' i1 i2 i6 i4 i5 i3
  rw [← hvs]
  obtain ⟨F, r, k, P, hm, hP⟩ := h
  refine ⟨F, r, k, _, hm, fun ds r1 F1 H1 J hx k1 q1 ok p hp => ?_⟩
  obtain ⟨nb, hx2⟩ := rqB.ex hx
  have hl := hx2.ex.h
  clear hx hx2
  have fr := k1.free hp
  have hF0 : e.F0 p = none := by
    cases q : e.F0 p with
    | none => rfl
    | some u => rw [k1.f0 p u q] at fr; cases fr.1
  generalize hPP : (fun (acc : List D) (r2 : Rho) => strict (backR r2 r1 vs) fun r3 => P (.own (.L acc)) r3) = PP at hl
  refine ⟨fun i m H => ∃ F r xs acc, Ok X.K (e.keep p (.lst xs)) F r (wipe s vs) H ∧ Sub F1 F ∧ RpA X.K F xs acc ∧ i ≤ ds.length ∧ m = ds.length - i ∧ lcM2 vs vs1 g tt mi1 g1 tt1 te PP (ds.drop i) acc r, ?_, ?_⟩
  · have kw : Ok X.K e F1 (wipeR r1 vs) (wipe s vs) (upd H1 p (.lst [])) := (k1.wipe vs).alloc hp
    exact ⟨_, F1, _, [], [], kw.keep upd_same fr.1 ((k1.wipe vs).nobox hp), Sub.refl _, .nil, Nat.zero_le _, rfl, by rw [List.drop_zero]; exact hl⟩
  · rintro i m H2 ⟨F2, r2, xs, acc, k2, q2, ra, hi, rfl, hl2⟩
    by_cases hn : i < ds.length
    · refine .inr ⟨ok.go i H2 (q2.trans k2.sub) hn, fun H => ∃ F r xs acc, Ok X.K (e.keep p (.lst xs)) F r (wipe s vs) H ∧ Sub F1 F ∧ RpA X.K F xs acc ∧ lcM2 vs vs1 g tt mi1 g1 tt1 te PP (ds.drop (i + 1)) acc r, fun H3 ⟨F3, r3, xs3, acc3, k3, q3, ra3, hl3⟩ => ⟨_, by omega, F3, r3, xs3, acc3, k3, q3, ra3, hn, rfl, hl3⟩, fun x H3 hy => ?_⟩
      obtain ⟨d, ed, F3, k3, q3, rp⟩ := ok.yld i H2 x H3 hy _ F2 r2 _ k2 q2 hn
      rw [drop_cons ed] at hl2
      obtain ⟨r4, eg, hb4⟩ := onS.ex hl2
      refine i1 _ _ _ _ _ ⟨F3, r2, d, r4, k3, rp, eg, fun s5 F5 H5 k5 q5 w5 => ⟨w5.trans ?_, i2 _ _ _ _ ⟨F5, r4, k5, _, hb4, fun b r6 F6 H6 hb6 k6 q6 => ?_⟩⟩⟩
      · apply List.ext_getElem?
        intro j
        rw [wipe_get, wipe_get, wipe_length]
        split <;> rfl
      · have ww : wipe s5 vs = wipe s vs := w5.trans (by
          apply List.ext_getElem?
          intro j
          rw [wipe_get, wipe_get, wipe_length]
          split <;> rfl)
        have q16 : Sub F1 F6 := ((q2.trans q3).trans q5).trans q6
        have q26 : Sub F2 F6 := (q3.trans q5).trans q6
        cases b with
        | false =>
          have hb6 := strict.ex hb6
          refine iteF ?_
          refine ⟨F6, _, xs, acc, ?_, q16, ra.mono q26, hb6⟩
          rw [← ww]
          exact k6.wipe vs
        | true =>
          refine iteT ?_
          refine i6 _ _ _ _ ⟨F6, r6, k6, _, hb6, fun ds1 r7 F7 H7 J1 hx7 k7 q7 ok1 => ?_⟩
          have hl7 := (strict.ex hx7).h
          have q17 : Sub F1 F7 := q16.trans q7
          have q27 : Sub F2 F7 := q26.trans q7
          generalize hRR : (fun (acc' : List D) (r' : Rho) => strict (wipeR r' vs) fun r5 => lcM2 vs vs1 g tt mi1 g1 tt1 te PP (ds.drop (i + 1)) acc' r5) = RR at hl7
          refine ⟨fun j m H => ∃ F r xs acc, Ok X.K (e.keep p (.lst xs)) F r (wipe s5 vs1) H ∧ Sub F7 F ∧ RpA X.K F xs acc ∧ j ≤ ds1.length ∧ m = ds1.length - j ∧ lcM vs1 g1 tt1 te RR (ds1.drop j) acc r, ?_, ?_⟩
          · exact ⟨_, F7, _, xs, acc, k7.wipe vs1, Sub.refl _, ra.mono q27, Nat.zero_le _, rfl, by rw [List.drop_zero]; exact hl7⟩
          · rintro j m H8 ⟨F8, r8, xs8, acc8, k8, q8, ra8, hj, rfl, hl8⟩
            by_cases hn1 : j < ds1.length
            · refine .inr ⟨ok1.go j H8 (q8.trans k8.sub) hn1, fun H => ∃ F r xs acc, Ok X.K (e.keep p (.lst xs)) F r (wipe s5 vs1) H ∧ Sub F7 F ∧ RpA X.K F xs acc ∧ lcM vs1 g1 tt1 te RR (ds1.drop (j + 1)) acc r, fun H9 ⟨F9, r9, xs9, acc9, k9, q9, ra9, hl9⟩ => ⟨_, by omega, F9, r9, xs9, acc9, k9, q9, ra9, hn1, rfl, hl9⟩, fun x9 H9 hy9 => ?_⟩
              obtain ⟨d9, ed9, F9, k9, q9, rp9⟩ := ok1.yld j H8 x9 H9 hy9 _ F8 r8 _ k8 q8 hn1
              rw [drop_cons ed9] at hl8
              obtain ⟨ra4, eg9, hb9⟩ := onS.ex hl8
              refine i4 _ _ _ _ _ ⟨F9, r8, d9, ra4, k9, rp9, eg9, fun s10 F10 H10 k10 q10 w10 => ⟨w10.trans ?_, i5 _ _ _ _ ⟨F10, ra4, k10, _, hb9, fun b r11 F11 H11 hb11 k11 q11 => ?_⟩⟩⟩
              · apply List.ext_getElem?
                intro j
                rw [wipe_get, wipe_get, wipe_length]
                split <;> rfl
              · have ww1 : wipe s10 vs1 = wipe s5 vs1 := w10.trans (by
                  apply List.ext_getElem?
                  intro j
                  rw [wipe_get, wipe_get, wipe_length]
                  split <;> rfl)
                have q711 : Sub F7 F11 := ((q8.trans q9).trans q10).trans q11
                have q811 : Sub F8 F11 := (q9.trans q10).trans q11
                cases b with
                | false =>
                  have hb11 := strict.ex hb11
                  refine iteF ?_
                  refine ⟨F11, _, xs8, acc8, ?_, q711, ra8.mono q811, hb11⟩
                  rw [← ww1]
                  exact k11.wipe vs1
                | true =>
                  refine iteT ?_
                  refine i3 _ _ _ _ ⟨F11, r11, k11, fun x r3 => onP (hold r3 x) fun qa qb => Rq (acc8.length < sizeLine) (strict (wipeR qb vs1) fun r4 => lcM vs1 g1 tt1 te RR (ds1.drop (j + 1)) (acc8 ++ [qa]) r4), hb11, fun y r12 v12 F12 H12 hx12 k12 q12 t12 => ?_⟩
                  obtain ⟨d', r13, eh, hx13⟩ := onP.ex hx12
                  have hz := Rq.c hx13
                  have hl13 := (Rq.a hx13).ex
                  obtain ⟨F13, k13, q13, rp13⟩ := t12.hold k12 eh
                  obtain ⟨_, gg1, _, _⟩ := k13.unkeep fr.2.1 hF0
                  have q813 : Sub F8 F13 := (q811.trans q12).trans q13
                  refine ⟨xs8, gg1, by rw [ra8.length]; exact hz, F13, _, xs8 ++ [v12], acc8 ++ [d'], ?_, (q711.trans q12).trans q13, (ra8.mono q813).append (.cons rp13 .nil), hl13⟩
                  rw [← ww1]
                  exact (k13.rekeep fr.2.1 hF0).wipe vs1
            · have e0 : j = ds1.length := by omega
              subst e0
              rw [List.drop_length] at hl8
              refine .inl ⟨ok1.stop _ H8 (q8.trans k8.sub) (Nat.le_refl _), F8, wipeR r8 vs, xs8, acc8, ?_, q17.trans q8, ra8, ?_⟩
              · have := k8.wipe vs
                rw [wipe_sub hsub, ww] at this
                exact this
              · have h9 : RR acc8 r8 := hl8
                rw [← hRR] at h9
                exact strict.ex h9
    · have e0 : i = ds.length := by omega
      subst e0
      rw [List.drop_length] at hl2
      have hl2' : PP acc r2 := hl2
      rw [← hPP] at hl2'
      obtain ⟨k3, g1, g2, g3⟩ := k2.unkeep fr.2.1 hF0
      have kb := k1.back nb k3 q2
      refine .inl ⟨ok.stop _ H2 (q2.trans k2.sub) (Nat.le_refl _), hP _ _ _ F2 H2 (strict.ex hl2') kb (q1.trans q2) (.own g1 (.L ra) g2 fr.2.1 fr.2.2 fun j b m' z y => ?_)⟩
      rw [backR_get] at z
      split at z
      · rename_i yy
        have := (List.all_eq_true.mp nb) j yy.1
        rw [Option.some.inj z] at this
        exact Bool.noConfusion this
      · rename_i yy
        refine g3 j b m' z ?_
        rw [wipe_get, ← (k2.len.trans (wipe_length s vs)), if_neg yy]
        exact y
theorem de_lc2 (hc : X.calm = true) (hN : X.N.Nodup) (hi : DI X tg iter mi) (ok : BlkOk X.N X.env.scope scope own) (hv : ∀ i ∈ vs1, i ∈ own.map (·.2))
    (hg : ∀ (s : Shared) (H : Hp) (C : Addr) (cl : List (Str × Addr)) (fp : List Addr), DG (X.blk s H scope (compEnvC scope cl C X.env) fp) tg (own.map (·.2)) g) (ht : ∀ (s : Shared) (H : Hp) (C : Addr) (cl : List (Str × Addr)) (fp : List Addr), DTs (X.blk s H scope (compEnvC scope cl C X.env) fp) ifs tt)
    (hi1 : ∀ (s : Shared) (H : Hp) (C : Addr) (cl : List (Str × Addr)) (fp : List Addr), DI (X.blk s H scope (compEnvC scope cl C X.env) fp) tg1 iter1 mi1)
    (hg1 : ∀ (s : Shared) (H : Hp) (C : Addr) (cl : List (Str × Addr)) (fp : List Addr), DG (X.blk s H scope (compEnvC scope cl C X.env) fp) tg1 vs1 g1) (ht1 : ∀ (s : Shared) (H : Hp) (C : Addr) (cl : List (Str × Addr)) (fp : List Addr), DTs (X.blk s H scope (compEnvC scope cl C X.env) fp) ifs1 tt1)
    (he : ∀ (s : Shared) (H : Hp) (C : Addr) (cl : List (Str × Addr)) (fp : List Addr), DE (X.blk s H scope (compEnvC scope cl C X.env) fp) elt te) (hs : ∀ x, foldedSetIterable iter X.env x = pure x := by intro _; rfl) (hs1 : ∀ env x, foldedSetIterable iter1 env x = pure x := by intro _ _; rfl) :
    DE X (.ListComp elt [⟨tg, iter, ifs, 0⟩, ⟨tg1, iter1, ifs1, 0⟩] scope pos) (mLc2 (own.map (·.2)) vs1 mi g tt mi1 g1 tt1 te) := fun e => by
  refine PE.imp (pe_lc2 (vs1 := vs1) (g := fun v s H Q => ∃ e', TGt X.K e' (own.map (·.2)) g v s H Q) (tt := fun s H Q => ∃ e', TB X.K e' tt s H Q) (wi1 := fun s H Q => ∃ e', TIt X.K e' mi1 s H Q) (g1 := fun v s H Q => ∃ e', TGt X.K e' vs1 g1 v s H Q) (tt1 := fun s H Q => ∃ e', TB X.K e' tt1 s H Q) (te := fun s H Q => ∃ e', Tt X.K e' (mTmp te) s H Q) hc hN (hi e) ok hv
    (fun s H C cl fp => ⟨fun pins s σ H v u Q I r ⟨e', q⟩ => (hg _ _ C cl fp e').run pins s σ H v u Q I r q⟩) (fun s H C cl fp => ⟨fun pins s σ H Q I ⟨e', q⟩ => (ht _ _ C cl fp e').run pins s σ H Q I q⟩)
    (fun s H C cl fp => ⟨fun pins s σ H R I ⟨e', q⟩ => (hi1 _ _ C cl fp e').run pins s σ H R I q⟩)
    (fun s H C cl fp => ⟨fun pins s σ H v u Q I r ⟨e', q⟩ => (hg1 _ _ C cl fp e').run pins s σ H v u Q I r q⟩) (fun s H C cl fp => ⟨fun pins s σ H Q I ⟨e', q⟩ => (ht1 _ _ C cl fp e').run pins s σ H Q I q⟩)
    (fun s H C cl fp => ⟨fun pins s σ H Q I ⟨e', q⟩ => ((he _ _ C cl fp).tmp e').run pins s σ H Q I q⟩) hs hs1) ?_
  exact fun s H Q h => lc2_read rfl hv h _ _ _ _ _ _ (fun e' _ _ _ _ q => ⟨e', q⟩) (fun e' _ _ _ q => ⟨e', q⟩) (fun e' _ _ _ q => ⟨e', q⟩) (fun e' _ _ _ _ q => ⟨e', q⟩) (fun e' _ _ _ q => ⟨e', q⟩) fun e' _ _ _ q => ⟨e', q⟩
end
end DL
namespace DL
open PySem L2 PyProof.Rows
/-! ### {k: v for ..} -/
def dcM (vs : List Nat) (g : GT) (tt : MT) (tk tv : ME) (P : List (D × D) → Rho → Prop) : List D → List (D × D) → Rho → Prop
  | [], acc, r => P acc r
  | d :: ds, acc, r => onS (g d r) fun r1 => tt r1 fun b r2 => brK b (tk r2 fun y r3 => tv r3 fun z r4 => onO (look r4 y.tmp) fun dk => onO (kOf dk) fun k => onP (hold r4 z.tmp) fun qa qb => Rq (acc.length < sizeLine) (strict (wipeR qb vs) fun r5 => dcM vs g tt tk tv P ds (dPut acc k qa) r5)) (strict (wipeR r2 vs) fun r4 => dcM vs g tt tk tv P ds acc r4)
structure Dc (vs : List Nat) (g : GT) (tt : MT) (tk tv : ME) (P : List (D × D) → Rho → Prop) (ds : List D) (acc : List (D × D)) (r : Rho) : Prop where
  h : dcM vs g tt tk tv P ds acc r
def mDc (vs : List Nat) (mi : MI) (g : GT) (tt : MT) (tk tv : ME) : ME := fun r P => mi r fun ds r1 => rqB (noBox r1 vs) (strict (wipeR r1 vs) fun r0 => Dc vs g tt tk tv (fun acc r2 => strict (backR r2 r1 vs) fun r3 => P (.own (.K acc)) r3) ds [] r0)
section
variable {X : Cx} {kx vx tg iter c : Expr} {ifs : List Expr} {scope : Scope} {own : List (Str × Nat)} {pos : Pos} {mi : MI} {g : GT} {tt : MT} {tk tv : ME} {vs : List Nat}
theorem dc_read {e : En} (hvs : vs = own.map (·.2)) {s : L2.St} {H : Hp} {Q : VK} (h : T X.K e (mDc vs mi g tt tk tv) s H Q) :
    ∀ (tg' : TG) (tt' : TT) (tk' tv' : TE), (∀ e', ∀ v s H Q, TGt X.K e' vs g v s H Q → tg' v s H Q) → (∀ e', ∀ s H Q, TB X.K e' tt s H Q → tt' s H Q) → (∀ e', ∀ s H Q, Tt X.K e' (mTmp tk) s H Q → tk' s H Q) → (∀ e', ∀ s H Q, Tt X.K e' (mTmp tv) s H Q → tv' s H Q) → tDc (TIt X.K e mi) tg' tt' tk' tv' (own.map (·.2)) s H Q := by
  intro tg' tt' tk' tv' i1 i2 i3 i4
  rw [← hvs]
  obtain ⟨F, r, k, P, hm, hP⟩ := h
  refine ⟨F, r, k, _, hm, fun ds r1 F1 H1 J hx k1 q1 ok p hp => ?_⟩
  obtain ⟨nb, hx2⟩ := rqB.ex hx
  have hl := hx2.ex.h
  clear hx hx2
  have fr := k1.free hp
  have hF0 : e.F0 p = none := by
    cases q : e.F0 p with
    | none => rfl
    | some u => rw [k1.f0 p u q] at fr; cases fr.1
  generalize hPP : (fun (acc : List (D × D)) (r2 : Rho) => strict (backR r2 r1 vs) fun r3 => P (.own (.K acc)) r3) = PP at hl
  refine ⟨fun i m H => ∃ F r xs acc, Ok X.K (e.keep p (.dK xs)) F r (wipe s vs) H ∧ Sub F1 F ∧ (acc.map (·.1) = xs.map (fun p => kD p.1) ∧ RpA X.K F (xs.map (·.2)) (acc.map (·.2))) ∧ i ≤ ds.length ∧ m = ds.length - i ∧ dcM vs g tt tk tv PP (ds.drop i) acc r, ?_, ?_⟩
  · have kw : Ok X.K e F1 (wipeR r1 vs) (wipe s vs) (upd H1 p (.dK [])) := (k1.wipe vs).alloc hp
    exact ⟨_, F1, _, [], [], kw.keep upd_same fr.1 ((k1.wipe vs).nobox hp), Sub.refl _, ⟨rfl, .nil⟩, Nat.zero_le _, rfl, by rw [List.drop_zero]; exact hl⟩
  · rintro i m H2 ⟨F2, r2, xs, acc, k2, q2, ⟨ra0, ra⟩, hi, rfl, hl2⟩
    by_cases hn : i < ds.length
    · refine .inr ⟨ok.go i H2 (q2.trans k2.sub) hn, fun H => ∃ F r xs acc, Ok X.K (e.keep p (.dK xs)) F r (wipe s vs) H ∧ Sub F1 F ∧ (acc.map (·.1) = xs.map (fun p => kD p.1) ∧ RpA X.K F (xs.map (·.2)) (acc.map (·.2))) ∧ dcM vs g tt tk tv PP (ds.drop (i + 1)) acc r, fun H3 ⟨F3, r3, xs3, acc3, k3, q3, ra3, hl3⟩ => ⟨_, by omega, F3, r3, xs3, acc3, k3, q3, ra3, hn, rfl, hl3⟩, fun x H3 hy => ?_⟩
      obtain ⟨d, ed, F3, k3, q3, rp⟩ := ok.yld i H2 x H3 hy _ F2 r2 _ k2 q2 hn
      rw [drop_cons ed] at hl2
      obtain ⟨r4, eg, hb4⟩ := onS.ex hl2
      refine i1 _ _ _ _ _ ⟨F3, r2, d, r4, k3, rp, eg, fun s5 F5 H5 k5 q5 w5 => ⟨w5.trans ?_, i2 _ _ _ _ ⟨F5, r4, k5, _, hb4, fun b r6 F6 H6 hb6 k6 q6 => ?_⟩⟩⟩
      · apply List.ext_getElem?
        intro j
        rw [wipe_get, wipe_get, wipe_length]
        split <;> rfl
      · have ww : wipe s5 vs = wipe s vs := w5.trans (by
          apply List.ext_getElem?
          intro j
          rw [wipe_get, wipe_get, wipe_length]
          split <;> rfl)
        have q16 : Sub F1 F6 := ((q2.trans q3).trans q5).trans q6
        have q26 : Sub F2 F6 := (q3.trans q5).trans q6
        cases b with
        | false =>
          have hb6 := strict.ex hb6
          refine iteF ?_
          refine ⟨F6, _, xs, acc, ?_, q16, ⟨ra0, ra.mono q26⟩, hb6⟩
          rw [← ww]
          exact k6.wipe vs
        | true =>
          refine iteT ?_
          refine i3 _ _ _ _ ⟨F6, r6, k6, fun y r3 => tv r3 fun z r4 => onO (look r4 y) fun dk => onO (kOf dk) fun k => onP (hold r4 z.tmp) fun qa qb => Rq (acc.length < sizeLine) (strict (wipeR qb vs) fun r5 => dcM vs g tt tk tv PP (ds.drop (i + 1)) (dPut acc k qa) r5), hb6, fun y r7 v7 F7 H7 hx7 k7 q7 t7 => ?_⟩
          refine i4 _ _ _ _ ⟨F7, r7, k7, fun z r4 => onO (look r4 y) fun dk => onO (kOf dk) fun k => onP (hold r4 z) fun qa qb => Rq (acc.length < sizeLine) (strict (wipeR qb vs) fun r5 => dcM vs g tt tk tv PP (ds.drop (i + 1)) (dPut acc k qa) r5), hx7, fun z r8 v8 F8 H8 hx8 k8 q8 t8 => ?_⟩
          obtain ⟨dk, e1, h1⟩ := onO.ex hx8
          obtain ⟨kk, e2, h2⟩ := onO.ex h1
          obtain ⟨qa, qb, e3, h3⟩ := onP.ex h2
          have hz := Rq.c h3
          have hl9 := (Rq.a h3).ex
          have lk := ((t7.mono q8).look k8 e1).key e2
          obtain ⟨F9, k9, q9, rp9⟩ := t8.hold k8 e3
          obtain ⟨_, g1, _, _⟩ := k9.unkeep fr.2.1 hF0
          have q29 : Sub F2 F9 := ((q26.trans q7).trans q8).trans q9
          have l2 : xs.length = acc.length := by
            have := congrArg List.length ra0
            simpa using this.symm
          obtain ⟨p1, p2⟩ := put_ok (k := kk) ra0 (ra.mono q29) rp9
          refine ⟨xs, kk, lk, g1, by omega, F9, _, _, _, ?_, ((q16.trans q7).trans q8).trans q9, ⟨p1, p2⟩, hl9⟩
          rw [← ww]
          exact (k9.rekeep fr.2.1 hF0).wipe vs
    · have e0 : i = ds.length := by omega
      subst e0
      rw [List.drop_length] at hl2
      have hl2' : PP acc r2 := hl2
      rw [← hPP] at hl2'
      obtain ⟨k3, g1, g2, g3⟩ := k2.unkeep fr.2.1 hF0
      have kb := k1.back nb k3 q2
      refine .inl ⟨ok.stop _ H2 (q2.trans k2.sub) (Nat.le_refl _), hP _ _ _ F2 H2 (strict.ex hl2') kb (q1.trans q2) (.own g1 (.K ra0 ra) g2 fr.2.1 fr.2.2 fun j b m' z y => ?_)⟩
      rw [backR_get] at z
      split at z
      · rename_i yy
        have := (List.all_eq_true.mp nb) j yy.1
        rw [Option.some.inj z] at this
        exact Bool.noConfusion this
      · rename_i yy
        refine g3 j b m' z ?_
        rw [wipe_get, ← (k2.len.trans (wipe_length s vs)), if_neg yy]
        exact y
theorem de_dc (hc : X.calm = true) (hN : X.N.Nodup) (hi : DI X tg iter mi) (ok : BlkOk X.N X.env.scope scope own)
    (hg : ∀ (s : Shared) (H : Hp) (C : Addr) (cl : List (Str × Addr)) (fp : List Addr), DG (X.blk s H scope (compEnvC scope cl C X.env) fp) tg (own.map (·.2)) g) (ht : ∀ (s : Shared) (H : Hp) (C : Addr) (cl : List (Str × Addr)) (fp : List Addr), DTs (X.blk s H scope (compEnvC scope cl C X.env) fp) ifs tt)
    (hk : ∀ (s : Shared) (H : Hp) (C : Addr) (cl : List (Str × Addr)) (fp : List Addr), DE (X.blk s H scope (compEnvC scope cl C X.env) fp) kx tk)
    (he : ∀ (s : Shared) (H : Hp) (C : Addr) (cl : List (Str × Addr)) (fp : List Addr), DE (X.blk s H scope (compEnvC scope cl C X.env) fp) vx tv) (hs : ∀ x, foldedSetIterable iter X.env x = pure x := by intro _; rfl) :
    DE X (.DictComp kx vx [⟨tg, iter, ifs, 0⟩] scope pos) (mDc (own.map (·.2)) mi g tt tk tv) := fun e => by
  refine PE.imp (pe_dc (g := fun v s H Q => ∃ e', TGt X.K e' (own.map (·.2)) g v s H Q) (tt := fun s H Q => ∃ e', TB X.K e' tt s H Q) (tk := fun s H Q => ∃ e', Tt X.K e' (mTmp tk) s H Q) (tv := fun s H Q => ∃ e', Tt X.K e' (mTmp tv) s H Q) hc hN (hi e) ok
    (fun s H C cl fp => ⟨fun pins s σ H v u Q I r ⟨e', q⟩ => (hg _ _ C cl fp e').run pins s σ H v u Q I r q⟩) (fun s H C cl fp => ⟨fun pins s σ H Q I ⟨e', q⟩ => (ht _ _ C cl fp e').run pins s σ H Q I q⟩) (fun s H C cl fp => ⟨fun pins s σ H Q I ⟨e', q⟩ => ((hk _ _ C cl fp).tmp e').run pins s σ H Q I q⟩) (fun s H C cl fp => ⟨fun pins s σ H Q I ⟨e', q⟩ => ((he _ _ C cl fp).tmp e').run pins s σ H Q I q⟩) hs) ?_
  exact fun s H Q h => dc_read rfl h _ _ _ _ (fun e' _ _ _ _ q => ⟨e', q⟩) (fun e' _ _ _ q => ⟨e', q⟩) (fun e' _ _ _ q => ⟨e', q⟩) fun e' _ _ _ q => ⟨e', q⟩
end
end DL
namespace DL
open PySem L2 PyProof.Rows
/-! ### dict([(k, v), ..]) -/
def prOf : D → Option (Key × D)
  | .tuple [k, v] => match kOf k with
    | some q => some (q, v)
    | none => none
  | _ => none
def prsOf : List D → Option (List (Key × D))
  | [] => some []
  | d :: ds => match prOf d, prsOf ds with
    | some p, some ps => some (p :: ps)
    | _, _ => none
def dMerge (kvs : List (D × D)) (ps : List (Key × D)) : List (D × D) := ps.foldl (fun acc p => dPut acc p.1 p.2) kvs
theorem merge_ok {K : Fg} {F : Hp} : ∀ {more : List (Key × V)} {ps : List (Key × D)} {kvs : List (Key × V)} {ds : List (D × D)}, more.map (·.1) = ps.map (·.1) → RpA K F (more.map (·.2)) (ps.map (·.2)) → ds.map (·.1) = kvs.map (fun p => kD p.1) → RpA K F (kvs.map (·.2)) (ds.map (·.2)) →
    (dMerge ds ps).map (·.1) = (mergeK kvs more).map (fun p => kD p.1) ∧ RpA K F ((mergeK kvs more).map (·.2)) ((dMerge ds ps).map (·.2))
  | [], [], _, _, _, _, h1, h2 => ⟨h1, h2⟩
  | [], _ :: _, _, _, e, _, _, _ => by cases e
  | _ :: _, [], _, _, e, _, _, _ => by cases e
  | m :: more, p :: ps, kvs, ds, e, r, h1, h2 => by
    simp only [List.map_cons, List.cons.injEq] at e
    cases r with
    | cons r1 r2 =>
      obtain ⟨g1, g2⟩ := put_ok (k := p.1) h1 h2 r1
      have := merge_ok (K := K) (F := F) (more := more) (ps := ps) (kvs := putK kvs m.1 m.2) (ds := dPut ds p.1 p.2) e.2 r2 (by rw [e.1]; exact g1) (by rw [e.1]; exact g2)
      exact this
theorem prs_read {K : Fg} {F H : Hp} (hs : Sub F H) : ∀ {xs : List V} {ds : List D} {ps : List (Key × D)}, RpA K F xs ds → prsOf ds = some ps → ∃ (as : List Addr) (kvs : List (Key × V)), xs = as.map V.ref ∧ Paired (fun p kv => SqT K H p [kV kv.1, kv.2]) as kvs ∧ kvs.map (·.1) = ps.map (·.1) ∧ RpA K F (kvs.map (·.2)) (ps.map (·.2))
  | _, _, _, .nil, e => by cases e; exact ⟨[], [], rfl, .nil, rfl, .nil⟩
  | _, _, ps, .cons (d := d) (ds := ds) (v := v) h r, e => by
    simp only [prsOf] at e
    split at e
    · rename_i p ps' e1 e2
      cases e
      obtain ⟨as, kvs, q1, q2, q3, q4⟩ := prs_read hs r e2
      unfold prOf at e1
      split at e1
      · rename_i kd vd
        split at e1
        · rename_i kk ek
          cases e1
          cases h with
          | tup a b =>
            cases b with
            | cons b1 b2 =>
              cases b2 with
              | cons b2 b3 =>
                cases b3
                rename_i ad v1 v2
                have ev := (Lk.rp b1 : Lk K F F _ _).key ek
                subst ev
                exact ⟨ad :: as, (kk, v2) :: kvs, by rw [q1]; rfl, .cons (hs.sqT a) q2, by simp [q3], .cons b2 q4⟩
        · cases e1
      · cases e1
    · cases e
section
variable {X : Cx}
def fDictP : FA
  | [.list ds] => match prsOf ds with
    | some ps => some (.own (.K (dMerge [] ps)))
    | none => none
  | _ => none
theorem calld_dict (hc : X.calm = true) : CallD X (.type "dict") fDictP := by
  refine ⟨_, call_dictP hc, fun e F r s H vs ds z Q k l ef w => ?_⟩
  unfold fDictP at ef
  split at ef
  · rename_i ds
    split at ef
    · rename_i ps hp
      cases ef
      obtain ⟨v, rfl, lk⟩ := l.one
      obtain ⟨a, xs, rfl, h1, h2⟩ := lk.lst k.sub
      obtain ⟨as, kvs, rfl, q2, q3, q4⟩ := prs_read k.sub h2 hp
      obtain ⟨g1, g2⟩ := merge_ok (kvs := []) (ds := []) q3 q4 rfl .nil
      refine ⟨a, as, kvs, rfl, .inl h1, q2, fun p hp => ?_⟩
      obtain ⟨f1, f2, f3⟩ := k.free hp
      exact w _ F _ (k.alloc hp) (Sub.refl F) (.own upd_same (.K g1 g2) f1 f2 f3 (k.nobox hp))
    · cases ef
  · cases ef
def kDictP : List D → (R → Prop) → Prop
  | [.list ds], K => onO (prsOf ds) fun ps => K (.own (.K (dMerge [] ps)))
  | _, _ => False
def cDict : CaK := ⟨fDictP, kDictP, fun ds K h => by
  unfold kDictP at h
  split at h
  · obtain ⟨ps, e, h2⟩ := onO.ex h
    exact ⟨_, by simp only [fDictP, e], h2⟩
  · exact h.elim⟩
end
end DL
namespace DL
open PySem PySem.Spec L2 PyProof.Rows
theorem sw_trueD {kx vx : Expr} {gs : List Comprehension} {scope : Scope} {pos py : Pos} {y : Str} {l : Nat} {env : Env} (hk : env.scope.kind = .function) (hy : env.scope.names.lookup y = some .local) (hl : (py.line == pos.line) = true)
    (ha : (scope.names.any fun (n, k) => n == y && (k == .local || k == .cell)) = false) : swapsWith (.DictComp kx vx gs scope pos) (some (.Name y py)) l env = pure true := by
  have ky : env.kindOf y = some .local := hy
  have hb : env.blockKind = .function := by unfold Env.blockKind; rw [hk]; rfl
  unfold swapsWith
  simp only [hb, ky, ha, Expr.pos, hl]
  rfl
section
variable {X : Cx}
/-- name = {k: v for ..} on one line, the name a local -/
theorem ps_setDc {i : Nat} {y : Str} {py : Pos} {kx vx tg iter : Expr} {ifs : List Expr} {scope : Scope} {own : List (Str × Nat)} {pos spos : Pos} {wi : TI} {g : TG} {tt : TT} {tk tv : TE} (hc : X.calm = true) (hN : X.N.Nodup) (hy : X.N[i]? = some y) (hyl : X.env.scope.names.lookup y = some .local)
    (hsw : swapsWith (.DictComp kx vx [⟨tg, iter, ifs, 0⟩] scope pos) (some (.Name y py)) spos.line X.env = pure true) (hi : PI X tg iter wi) (ok : BlkOk X.N X.env.scope scope own)
    (hg : ∀ (s : Shared) (H : Hp) (C : Addr) (cl : List (Str × Addr)) (fp : List Addr), PG (X.blk s H scope (compEnvC scope cl C X.env) fp) tg g) (ht : ∀ (s : Shared) (H : Hp) (C : Addr) (cl : List (Str × Addr)) (fp : List Addr), PTs (X.blk s H scope (compEnvC scope cl C X.env) fp) ifs tt)
    (hkk : ∀ (s : Shared) (H : Hp) (C : Addr) (cl : List (Str × Addr)) (fp : List Addr), PE (X.blk s H scope (compEnvC scope cl C X.env) fp) kx tk)
    (he : ∀ (s : Shared) (H : Hp) (C : Addr) (cl : List (Str × Addr)) (fp : List Addr), PE (X.blk s H scope (compEnvC scope cl C X.env) fp) vx tv) (hs : ∀ x, foldedSetIterable iter X.env x = pure x := by intro _; rfl) :
    PS X (.Assign [.Name y py] (.DictComp kx vx [⟨tg, iter, ifs, 0⟩] scope pos) spos) (tAsg (tDc wi g tt tk tv (own.map (·.2))) (gName i)) := by
  refine ⟨fun pins s σ H D I h => ?_⟩
  rw [exec_Assign_Name_used _ _ _ _ hsw]
  refine wpAny_bind (wpAny_standAt (wpAny_bind ?_))
  show wpAny _ X.A (do let _ ← comprehension (.DictComp kx vx [⟨tg, iter, ifs, 0⟩] scope pos) scope X.env (firstIterPos [⟨tg, iter, ifs, 0⟩] pos) newDict false (eval iter X.env) (some (assign (.Name y py) X.env))) _ _ s
  have h : tDc wi g tt tk tv (own.map (·.2)) σ H (fun x H1 => gName i x σ H1 D.nx) := h
  refine wpAny_bind (thn (dc_core (Qf := fun _ s' => SP X pins D .next s') hc hN I hi ok hg ht hkk he hs h fun L C s' m H' I' q hn f => ?_) fun _ s' hq => wpAny_pure (wpAny_pure hq))
  show wpAny _ _ (assign (.Name y py) X.env (.ref L)) _ _ _
  refine wpAny_assign_Name (store_ok2 (v := V.ref L) I' hN hy (.inl hyl) rfl (fun s2 I2 ⟨a, sb, ha⟩ => ?_) (.inr hyl))
  obtain ⟨f0, f1, f2, f3, f4, f5⟩ := f
  have haC : C ≠ a := by
    rcases ha with z | z
    · rw [z]; exact f1
    · exact fun e => f4 y a z e.symm
  refine ⟨m, hn.sameBut sb haC, fun h3 sb3 => ?_⟩
  exact ⟨_, H', I2.turned (t' := s2.toks) (fun b o hb e => (sb3.2 b hb).trans e) f0 f1 f3 f4 f5, q⟩
end
section
variable {X : Cx} {kx vx tg iter : Expr} {ifs : List Expr} {scope : Scope} {own : List (Str × Nat)} {pos spos py : Pos} {mi : MI} {g : GT} {tt : MT} {tk tv : ME} {vs : List Nat} {y : Str} {i : Nat}
theorem ds_setDc (hc : X.calm = true) (hN : X.N.Nodup) (hy : X.N[i]? = some y) (hyl : X.env.scope.names.lookup y = some .local) (hk : X.env.scope.kind = .function) (hi : DI X tg iter mi) (ok : BlkOk X.N X.env.scope scope own)
    (hg : ∀ (s : Shared) (H : Hp) (C : Addr) (cl : List (Str × Addr)) (fp : List Addr), DG (X.blk s H scope (compEnvC scope cl C X.env) fp) tg (own.map (·.2)) g) (ht : ∀ (s : Shared) (H : Hp) (C : Addr) (cl : List (Str × Addr)) (fp : List Addr), DTs (X.blk s H scope (compEnvC scope cl C X.env) fp) ifs tt)
    (hkk : ∀ (s : Shared) (H : Hp) (C : Addr) (cl : List (Str × Addr)) (fp : List Addr), DE (X.blk s H scope (compEnvC scope cl C X.env) fp) kx tk)
    (he : ∀ (s : Shared) (H : Hp) (C : Addr) (cl : List (Str × Addr)) (fp : List Addr), DE (X.blk s H scope (compEnvC scope cl C X.env) fp) vx tv) (hs : ∀ x, foldedSetIterable iter X.env x = pure x := by intro _; rfl)
    (hl : (py.line == pos.line) = true := by rfl) (ha : (scope.names.any fun (n, k) => n == y && (k == .local || k == .cell)) = false := by rfl) :
    DS X (.Assign [.Name y py] (.DictComp kx vx [⟨tg, iter, ifs, 0⟩] scope pos) spos) (sSet i (mDc (own.map (·.2)) mi g tt tk tv)) := fun e => by
  refine PS.imp (ps_setDc (g := fun v s H Q => ∃ e', TGt X.K e' (own.map (·.2)) g v s H Q) (tt := fun s H Q => ∃ e', TB X.K e' tt s H Q) (tk := fun s H Q => ∃ e', Tt X.K e' (mTmp tk) s H Q) (tv := fun s H Q => ∃ e', Tt X.K e' (mTmp tv) s H Q) hc hN hy hyl (sw_trueD hk hyl hl ha) (hi e) ok
    (fun s H C cl fp => ⟨fun pins s σ H v u Q I r ⟨e', q⟩ => (hg _ _ C cl fp e').run pins s σ H v u Q I r q⟩) (fun s H C cl fp => ⟨fun pins s σ H Q I ⟨e', q⟩ => (ht _ _ C cl fp e').run pins s σ H Q I q⟩) (fun s H C cl fp => ⟨fun pins s σ H Q I ⟨e', q⟩ => ((hkk _ _ C cl fp).tmp e').run pins s σ H Q I q⟩) (fun s H C cl fp => ⟨fun pins s σ H Q I ⟨e', q⟩ => ((he _ _ C cl fp).tmp e').run pins s σ H Q I q⟩) hs) ?_
  rintro D s H ⟨F, r, k, O, hm, h⟩
  refine dc_read rfl ⟨F, r, k, _, hm, ?_⟩ _ _ _ _ (fun e' _ _ _ _ q => ⟨e', q⟩) (fun e' _ _ _ q => ⟨e', q⟩) (fun e' _ _ _ q => ⟨e', q⟩) fun e' _ _ _ q => ⟨e', q⟩
  intro x r1 v F1 H1 hx k1 q t
  obtain ⟨r2, ep, hp⟩ := onS.ex hx
  obtain ⟨F2, k2, q2⟩ := t.put k1 ep
  exact h.nx r2 _ F2 H1 hp k2 (q.trans q2)
end
section
variable {X : Cx} {elt tg iter tg1 iter1 : Expr} {ifs ifs1 : List Expr} {scope : Scope} {own : List (Str × Nat)} {vs1 : List Nat} {pos spos py : Pos} {mi mi1 : MI} {g g1 : GT} {tt tt1 : MT} {te : ME} {y : Str} {i : Nat}
theorem ds_setLc2 (hc : X.calm = true) (hN : X.N.Nodup) (hy : X.N[i]? = some y) (hyl : X.env.scope.names.lookup y = some .local) (hk : X.env.scope.kind = .function) (hi : DI X tg iter mi) (ok : BlkOk X.N X.env.scope scope own) (hv : ∀ i ∈ vs1, i ∈ own.map (·.2))
    (hg : ∀ (s : Shared) (H : Hp) (C : Addr) (cl : List (Str × Addr)) (fp : List Addr), DG (X.blk s H scope (compEnvC scope cl C X.env) fp) tg (own.map (·.2)) g) (ht : ∀ (s : Shared) (H : Hp) (C : Addr) (cl : List (Str × Addr)) (fp : List Addr), DTs (X.blk s H scope (compEnvC scope cl C X.env) fp) ifs tt)
    (hi1 : ∀ (s : Shared) (H : Hp) (C : Addr) (cl : List (Str × Addr)) (fp : List Addr), DI (X.blk s H scope (compEnvC scope cl C X.env) fp) tg1 iter1 mi1)
    (hg1 : ∀ (s : Shared) (H : Hp) (C : Addr) (cl : List (Str × Addr)) (fp : List Addr), DG (X.blk s H scope (compEnvC scope cl C X.env) fp) tg1 vs1 g1) (ht1 : ∀ (s : Shared) (H : Hp) (C : Addr) (cl : List (Str × Addr)) (fp : List Addr), DTs (X.blk s H scope (compEnvC scope cl C X.env) fp) ifs1 tt1)
    (he : ∀ (s : Shared) (H : Hp) (C : Addr) (cl : List (Str × Addr)) (fp : List Addr), DE (X.blk s H scope (compEnvC scope cl C X.env) fp) elt te) (hs : ∀ x, foldedSetIterable iter X.env x = pure x := by intro _; rfl) (hs1 : ∀ env x, foldedSetIterable iter1 env x = pure x := by intro _ _; rfl)
    (hl : (py.line == pos.line) = true := by rfl) (ha : (scope.names.any fun (n, k) => n == y && (k == .local || k == .cell)) = false := by rfl) :
    DS X (.Assign [.Name y py] (.ListComp elt [⟨tg, iter, ifs, 0⟩, ⟨tg1, iter1, ifs1, 0⟩] scope pos) spos) (sSet i (mLc2 (own.map (·.2)) vs1 mi g tt mi1 g1 tt1 te)) := fun e => by
  refine PS.imp (ps_setLc2 (vs1 := vs1) (g := fun v s H Q => ∃ e', TGt X.K e' (own.map (·.2)) g v s H Q) (tt := fun s H Q => ∃ e', TB X.K e' tt s H Q) (wi1 := fun s H Q => ∃ e', TIt X.K e' mi1 s H Q) (g1 := fun v s H Q => ∃ e', TGt X.K e' vs1 g1 v s H Q) (tt1 := fun s H Q => ∃ e', TB X.K e' tt1 s H Q) (te := fun s H Q => ∃ e', Tt X.K e' (mTmp te) s H Q) hc hN hy hyl (sw_true hk hyl hl ha) (hi e) ok hv
    (fun s H C cl fp => ⟨fun pins s σ H v u Q I r ⟨e', q⟩ => (hg _ _ C cl fp e').run pins s σ H v u Q I r q⟩) (fun s H C cl fp => ⟨fun pins s σ H Q I ⟨e', q⟩ => (ht _ _ C cl fp e').run pins s σ H Q I q⟩)
    (fun s H C cl fp => ⟨fun pins s σ H R I ⟨e', q⟩ => (hi1 _ _ C cl fp e').run pins s σ H R I q⟩)
    (fun s H C cl fp => ⟨fun pins s σ H v u Q I r ⟨e', q⟩ => (hg1 _ _ C cl fp e').run pins s σ H v u Q I r q⟩) (fun s H C cl fp => ⟨fun pins s σ H Q I ⟨e', q⟩ => (ht1 _ _ C cl fp e').run pins s σ H Q I q⟩)
    (fun s H C cl fp => ⟨fun pins s σ H Q I ⟨e', q⟩ => ((he _ _ C cl fp).tmp e').run pins s σ H Q I q⟩) hs hs1) ?_
  rintro D s H ⟨F, r, k, O, hm, h⟩
  refine lc2_read rfl hv ⟨F, r, k, _, hm, ?_⟩ _ _ _ _ _ _ (fun e' _ _ _ _ q => ⟨e', q⟩) (fun e' _ _ _ q => ⟨e', q⟩) (fun e' _ _ _ q => ⟨e', q⟩) (fun e' _ _ _ _ q => ⟨e', q⟩) (fun e' _ _ _ q => ⟨e', q⟩) fun e' _ _ _ q => ⟨e', q⟩
  intro x r1 v F1 H1 hx k1 q t
  obtain ⟨r2, ep, hp⟩ := onS.ex hx
  obtain ⟨F2, k2, q2⟩ := t.put k1 ep
  exact h.nx r2 _ F2 H1 hp k2 (q.trans q2)
end
end DL
namespace DL
open PySem L2 PyProof.Rows
theorem dGet_cons (p : D × D) (kvs : List (D × D)) (k : Key) : dGet (p :: kvs) k = if kOf p.1 = some k then some p.2 else dGet kvs k := by
  unfold dGet
  rw [List.find?_cons]
  by_cases h : kOf p.1 = some k
  · simp [h]
  · simp [h]
theorem dGet_map (k : Key) (d : D) (k' : Key) : ∀ kvs : List (D × D), dGet (kvs.map fun p => if kOf p.1 = some k then (p.1, d) else p) k' = if k = k' then (if (kvs.any fun p => decide (kOf p.1 = some k)) = true then some d else none) else dGet kvs k'
  | [] => by simp [dGet]
  | p :: kvs => by
    rw [List.map_cons, dGet_cons, dGet_map k d k' kvs, List.any_cons, dGet_cons]
    by_cases h : kOf p.1 = some k
    · by_cases hk : k = k'
      · subst hk; simp [h]
      · have : ¬ kOf p.1 = some k' := by rw [h]; simpa using hk
        simp [h, hk]
    · by_cases hk : k = k'
      · subst hk
        rw [if_neg h, if_neg h, if_pos rfl, if_pos rfl, decide_eq_false h, Bool.false_or]
      · simp [h, hk]
theorem dGet_any (k : Key) : ∀ kvs : List (D × D), (kvs.any fun p => decide (kOf p.1 = some k)) = (dGet kvs k).isSome
  | [] => by simp [dGet]
  | p :: kvs => by
    rw [List.any_cons, dGet_any k kvs, dGet_cons]
    by_cases h : kOf p.1 = some k <;> simp [h]
theorem dGet_app (k : Key) (d : D) (k' : Key) : ∀ kvs : List (D × D), dGet (kvs ++ [(kD k, d)]) k' = match dGet kvs k' with
    | some z => some z
    | none => if k = k' then some d else none
  | [] => by
    rw [List.nil_append, dGet_cons]
    by_cases h : k = k' <;> simp [kOf_kD, dGet, h]
  | p :: kvs => by
    rw [List.cons_append, dGet_cons, dGet_cons, dGet_app k d k' kvs]
    by_cases h : kOf p.1 = some k' <;> simp [h]
theorem dGet_put (kvs : List (D × D)) (k k' : Key) (d : D) : dGet (dPut kvs k d) k' = if k = k' then some d else dGet kvs k' := by
  unfold dPut
  split
  · rename_i h
    rw [dGet_map]
    simp only [h, if_true]
  · rename_i h
    rw [dGet_app]
    rw [dGet_any, Bool.not_eq_true, Option.isSome_eq_false_iff, Option.isNone_iff_eq_none] at h
    by_cases hk : k = k'
    · subst hk; rw [h]
    · simp only [hk, if_false]
      cases dGet kvs k' <;> rfl
theorem keyed_put (kvs : List (D × D)) (k : Key) (d : D) (h : keyed kvs = true) : keyed (dPut kvs k d) = true := by
  unfold keyed at h ⊢
  unfold dPut
  rw [List.all_eq_true] at h ⊢
  split
  · intro p hp
    obtain ⟨q, hq, rfl⟩ := List.mem_map.mp hp
    have := h q hq
    split <;> exact this
  · intro p hp
    rcases List.mem_append.mp hp with hp | hp
    · exact h p hp
    · rw [List.mem_singleton.mp hp]
      show (kOf (kD k)).isSome = true
      rw [kOf_kD]; rfl
theorem len_put (kvs : List (D × D)) (k : Key) (d : D) : (dPut kvs k d).length = kvs.length + (if (dGet kvs k).isSome = true then 0 else 1) := by
  unfold dPut
  rw [dGet_any]
  split <;> rename_i h
  · simp
  · simp
end DL
namespace DL
open PySem L2 PySem.Spec PyProof.Rows
/-! ### keys, each once -/
def ddpS (acc : List Key) (k : Key) : List Key := if acc.any (fun j => decide (j = k)) = true then acc else acc ++ [k]
def ddp (xs : List Key) : List Key := xs.foldl ddpS []
theorem ddp_snoc (xs : List Key) (k : Key) : ddp (xs ++ [k]) = ddpS (ddp xs) k := by unfold ddp; rw [List.foldl_append]; rfl
theorem ddp_nil : ddp [] = [] := rfl
theorem ddpS_any (a : List Key) (v k : Key) : ((ddpS a v).any fun j => decide (j = k)) = ((a.any fun j => decide (j = k)) || decide (k = v)) := by
  unfold ddpS
  split
  · rename_i h
    by_cases e : k = v
    · subst e; rw [h]; simp
    · simp [e]
  · rw [List.any_append]
    by_cases e : k = v
    · subst e; simp
    · have e' : ¬ v = k := fun q => e q.symm
      simp [e, e']
theorem ddpS_len (a : List Key) (v : Key) : (ddpS a v).length = if (a.any fun j => decide (j = v)) = true then a.length else a.length + 1 := by
  unfold ddpS; split <;> simp
theorem ddp_le (xs : List Key) : (ddp xs).length ≤ xs.length := by
  have go : ∀ (ys acc : List Key), (ys.foldl ddpS acc).length ≤ acc.length + ys.length := by
    intro ys
    induction ys with
    | nil => intro acc; simp
    | cons y ys ih =>
      intro acc
      have h1 := ih (ddpS acc y)
      have h2 := ddpS_len acc y
      rw [List.foldl_cons, List.length_cons]
      split at h2 <;> omega
  simpa [ddp] using go xs []
theorem ddp_mem (xs : List Key) (k : Key) : k ∈ ddp xs ↔ k ∈ xs := by
  have go : ∀ (ys acc : List Key), k ∈ ys.foldl ddpS acc ↔ k ∈ acc ∨ k ∈ ys := by
    intro ys
    induction ys with
    | nil => intro acc; simp
    | cons y ys ih =>
      intro acc
      rw [List.foldl_cons, ih]
      unfold ddpS
      split
      · rename_i h
        rw [List.any_eq_true] at h
        obtain ⟨j, hj, e⟩ := h
        have e := of_decide_eq_true e
        subst e
        constructor
        · rintro (h | h)
          · exact .inl h
          · exact .inr (List.mem_cons_of_mem _ h)
        · rintro (h | h)
          · exact .inl h
          · rcases List.mem_cons.mp h with rfl | h
            · exact .inl hj
            · exact .inr h
      · simp [or_assoc]
  simpa [ddp] using go xs []
theorem ddp_all {xs : List Key} (h : xs.Nodup) : ddp xs = xs := by
  have go : ∀ (ys acc : List Key), (acc ++ ys).Nodup → ys.foldl ddpS acc = acc ++ ys := by
    intro ys
    induction ys with
    | nil => intro acc _; simp
    | cons y ys ih =>
      intro acc hn
      have hy : y ∉ acc := fun q => (List.nodup_append.mp hn).2.2 y q y List.mem_cons_self rfl
      have : ddpS acc y = acc ++ [y] := by
        unfold ddpS
        rw [if_neg]
        rw [List.any_eq_true]
        rintro ⟨j, hj, e⟩
        have e := of_decide_eq_true e
        subst e
        exact hy hj
      rw [List.foldl_cons, this, ih _ (by simpa using hn)]
      simp
  simpa [ddp] using go xs [] (by simpa using h)
theorem ddp_full (xs : List Key) : (ddp xs).length = xs.length ↔ xs.Nodup := by
  constructor
  · intro h
    have go : ∀ (ys acc : List Key), (ys.foldl ddpS acc).length = acc.length + ys.length → acc.Nodup → (acc ++ ys).Nodup := by
      intro ys
      induction ys with
      | nil => intro acc _ h; simpa using h
      | cons y ys ih =>
        intro acc hl hn
        have up : ∀ (zs acc : List Key), (zs.foldl ddpS acc).length ≤ acc.length + zs.length := by
          intro zs
          induction zs with
          | nil => intro acc; simp
          | cons z zs ih =>
            intro acc
            have h1 := ih (ddpS acc z)
            have h2 := ddpS_len acc z
            rw [List.foldl_cons, List.length_cons]
            split at h2 <;> omega
        rw [List.foldl_cons, List.length_cons] at hl
        have h1 := up ys (ddpS acc y)
        have h2 := ddpS_len acc y
        by_cases hy : (acc.any fun j => decide (j = y)) = true
        · rw [if_pos hy] at h2; omega
        · rw [if_neg hy] at h2
          have e : ddpS acc y = acc ++ [y] := if_neg hy
          have hm : y ∉ acc := fun q => hy (List.any_eq_true.mpr ⟨y, q, by simp⟩)
          have := ih (acc ++ [y]) (by rw [← e, hl, h2]; omega) (by
            rw [List.nodup_append]
            exact ⟨hn, by simp, by intro a ha b hb q; rw [List.mem_singleton] at hb; subst q hb; exact hm ha⟩)
          simpa using this
    simpa using go xs [] (by simpa [ddp] using h) List.nodup_nil
  · intro h; rw [ddp_all h]
/-! ### set(xs) of keys -/
theorem setK_congr {prog : Program} {w : World} {h : Heap} {a : Addr} {S T : Key → Bool} {m n : Nat} (z : h.SetOf (mixKind prog w) a S m) (e : ∀ k, S k = T k) (q : m = n) : h.SetOf (mixKind prog w) a T n := by
  obtain rfl : S = T := funext e
  subst q
  exact z
section
variable {prog : Program} {w : World} {A : Around} {R : Result → Shared → Prop} {I : Addr} {fp wr : List Addr} {G : Array GenState → Array GenState → Prop} {n : Nat} {P : Nat → Value → Prop} {St : Nat → Shared → Prop}
theorem kloop (W : WalksS prog w A.in1 I fp wr G n P St) (Z : Addr) (zf : Z ∉ fp) (ks : List Key) (kz : ks.length = n) (kb : n + 1 < scanBound)
    (kv : ∀ i v, P i v → ∃ k, ks[i]? = some k ∧ (mixKind prog w).is k v = true ∧ v.scannable = true) :
    ∀ (left i : Nat) (s : Shared), n - i = left → i ≤ n → St i s →
      s.heap.SetOf (mixKind prog w) Z (fun j => (ddp (ks.take i)).any fun q => decide (q = j)) (ddp (ks.take i)).length →
      (∀ s', Moved (Z :: wr) G s s' → s'.heap.SetOf (mixKind prog w) Z (fun j => (ddp ks).any fun q => decide (q = j)) (ddp ks).length → R (.ok (.ret .none)) s') →
      codeAny (model prog w) A (.builtin "set.update.loop" ⟨[.ref Z, .ref I], []⟩) R s := by
  have zw : Z ∉ wr := fun q => zf (W.sub _ q)
  have up : ∀ b ∈ wr, b ∈ Z :: wr := fun b q => List.mem_cons_of_mem _ q
  intro left
  induction left with
  | zero =>
    intro i s e1 e2 st zs fin
    obtain rfl : i = n := by omega
    rw [List.take_of_length_le (Nat.le_of_eq kz)] at zs
    refine codeAny_builtin PyProof.Rows.F.entry_set_update_loop ?_
    rw [Around.under_plainId PyProof.Rows.F.plain_set_update_loop _]
    show wpAny _ A.in1 (pyNext (.ref I) >>= _) _ _ s
    refine wpAny_bind (W.done s _ _ st fun s' mv => ?_)
    show wpAny _ A.in1 (ret Value.none) _ _ s'
    refine wpAny_pure (fin s' (mv.mono up) ?_)
    obtain ⟨o, es, ep, t, ho, rest⟩ := zs
    exact ⟨o, es, ep, t, mv.heap Z _ zw ho, rest⟩
  | succ left ih =>
    intro i s e1 e2 st zs fin
    have il : i < n := by omega
    refine codeAny_builtin PyProof.Rows.F.entry_set_update_loop ?_
    rw [Around.under_plainId PyProof.Rows.F.plain_set_update_loop _]
    show wpAny _ A.in1 (pyNext (.ref I) >>= _) _ _ s
    refine wpAny_bind (W.item i s _ _ il st fun v s' pv st' mv => ?_)
    obtain ⟨k, ek, is, sc⟩ := kv i v pv
    have zs' : s'.heap.SetOf (mixKind prog w) Z (fun j => (ddp (ks.take i)).any fun q => decide (q = j)) (ddp (ks.take i)).length := by
      obtain ⟨o, es, ep, tb, ho, rest⟩ := zs
      exact ⟨o, es, ep, tb, mv.heap Z _ zw ho, rest⟩
    show wpAny _ A.in1 (holding [v] (setAdd Z v) >>= _) _ _ s'
    refine wpAny_bind (wpAny_holding ?_)
    unfold setAdd
    refine wpAny_holding ?_
    refine wpAny_bind ((mixKind prog w).pyHash (k := k) is ?_)
    have rm : (ddp (ks.take i)).length + 1 < scanBound := by
      have := ddp_le (ks.take i)
      rw [List.length_take] at this
      omega
    refine wpAny_setAddHashed_of (knd := mixKind prog w) (s := { s' with toks := s'.toks + 1 }) is sc zs' rm fun h' sb z2 => ?_
    have et : ks.take (i + 1) = ks.take i ++ [k] := by rw [List.take_add_one, ek]; rfl
    have zi : h'.SetOf (mixKind prog w) Z (fun j => (ddp (ks.take (i + 1))).any fun q => decide (q = j)) (ddp (ks.take (i + 1))).length :=
      setK_congr z2 (fun j => by rw [et, ddp_snoc, ddpS_any]) (by rw [et, ddp_snoc, ddpS_len])
    refine wpAny_pure ⟨plainId_quiet PyProof.Rows.F.plain_set_update_loop _, ih (i + 1) _ (by omega) il (W.frame _ s' _ _ st' (Nat.le_succ _) fun b q o e => ?_) zi fun s'' mv' z3 => ?_⟩
    · rw [sb.2 b (fun y : b = Z => zf (by rw [← y]; exact q))]; exact e
    · refine fin s'' (Moved.trans W.gtrans ((mv.mono up).then_heap (Nat.le_succ _) fun b o q e => ?_) mv') z3
      rw [sb.2 b (fun y : b = Z => q (by rw [y]; exact List.mem_cons_self))]; exact e
end
section
variable {prog : Program} {w : World} {A : Around} {E : Value → Shared → Prop} {s : Shared}
abbrev frZ (led : Bool) : Obj := { cls := .type "set", dict := none, data := .set #[] 0 (.fresh 0 0 led) }
theorem set_of_keys {l : Addr} {items : Array Value} {ks : List Key} {Q : Value → Shared → Prop} (nh : A.handled = none) (hl : s.heap.IsList l items)
    (kv : ∀ (i : Nat) v, items[i]? = some v → ∃ k, ks[i]? = some k ∧ (mixKind prog w).is k v = true ∧ v.scannable = true) (kz : ks.length = items.size) (kb : items.size + 1 < scanBound)
    (h : ∀ (h' : Heap) (tk : Nat), h'.SetOf (mixKind prog w) s.heap.objs.size (fun j => (ddp ks).any fun q => decide (q = j)) (ddp ks).length →
      (∀ b o, b < s.heap.objs.size → s.heap.get? b = some o → h'.get? b = some o) → Q (.ref s.heap.objs.size) { s with heap := h', toks := tk }) :
    wpAny (model prog w) A (call (.type "set") [.ref l]) Q E s := by
  obtain ⟨c, tl, mro⟩ := PySem.F.called_set.mro
  have made := PySem.F.called_set.made
  have sub := PySem.F.called_set.sub
  refine wpAny_call (codeAny_of_tree ?_)
  show wpAny _ _ (callAny (.type "set") _) _ _ _
  refine wpAny_pure ⟨Code.quiet_builtin _ (by decide +kernel), codeAny_builtin PySem.F.entry_type_call ?_⟩
  rw [Around.under_plain (weight_type_call_type "set" [.ref l] []) rfl]
  have f1 := PySem.F.called_set.notType
  have f2 := PySem.F.called_set.canCreate
  have f3 := PySem.F.typeCall_set_1 (.ref l)
  repeat (any_goals (first | assumption | wp_step))
  refine codeAny_mono (code_set_new_1 (.ref l) (E := E) (Q₁ := fun z t => ∃ led : Bool, z = .ref s.heap.objs.size ∧ t = { s with heap := s.heap.push (frZ led) }) fun led => ⟨led, rfl, rfl⟩) fun r t hr => ?_
  cases r with
  | error e => exact hr
  | ok fl =>
    cases fl with
    | ret z =>
      obtain ⟨led, rfl, rfl⟩ := hr
      have gz : (s.heap.push (frZ led)).get? s.heap.objs.size = some (frZ led) := Heap.get?_push_size _ rfl
      have tz : Shared.TypeIs { s with heap := s.heap.push (frZ led) } (.ref s.heap.objs.size) "set" := ⟨_, gz, rfl⟩
      have f4 := PySem.F.called_set.init.lookup
      have f5 := PySem.F.called_set.init.bind (.ref s.heap.objs.size)
      repeat (any_goals (first | assumption | wp_step))
      refine codeAny_mono (codeAny_call_builtin (R := wants (fun r t => r = .none ∧ ∃ h' tk, t = { s with heap := h', toks := tk } ∧
          h'.SetOf (mixKind prog w) s.heap.objs.size (fun j => (ddp ks).any fun q => decide (q = j)) (ddp ks).length ∧
          (∀ b o, b < s.heap.objs.size → s.heap.get? b = some o → h'.get? b = some o)) E) PySem.F.called_set.init.plain PySem.F.entry_set_init (check_set_init_1 tz ?_)) fun r2 t2 hr2 => ?_
      · obtain ⟨ol, hol, hcl, nl, hdl⟩ := hl
        obtain ⟨ocls, odict, odata, oslots⟩ := ol
        simp only at hcl hdl
        subst hcl; subst hdl
        have ol' : (s.heap.push (frZ led)).get? l = some { cls := .type "list", dict := odict, data := .seq items nl, slots := oslots } := Heap.get?_push_of_some _ hol
        have f6 := PySem.F.sub_list_set
        have f7 := PySem.F.sub_list_frozenset
        have f8 : (Value.type "list" == Value.type "dict") = false := by decide
        have l1 : (s.heap.push (frZ led)).IsList l items := ⟨_, ol', rfl, nl, rfl⟩
        unfold Builtin.«set.__init__» noKeywords Builtin.Frozenset.updateFrom
        generalize hPI : pyIter = PI
        wp_walk
        subst hPI
        refine wpAny_pyIter_list l1 ?_
        refine wpAny_bind (wpAny_runValue ?_)
        have ll : l < s.heap.objs.size := Heap.lt_size hol
        have nh3 : A.in1.in1.in1.handled = none := by simp [nh]
        have ne1 : l ≠ (s.heap.push (frZ led)).objs.size := by
          rw [Heap.size_push]; exact Nat.ne_of_lt (Nat.lt_succ_of_lt ll)
        have nz : s.heap.objs.size ∉ [(s.heap.push (frZ led)).objs.size, l] := by
          rw [Heap.size_push]; simp only [List.mem_cons, List.mem_singleton, List.not_mem_nil, or_false, not_or]
          exact ⟨Nat.ne_of_lt (Nat.lt_succ_self _), Nat.ne_of_gt ll⟩
        refine kloop ((Walks.list nh3 _ l ne1 items).toS) s.heap.objs.size nz ks kz kb kv (items.size - 0) 0 _ (by omega) (Nat.zero_le _) ⟨⟨_, Heap.get?_push_size _ rfl, rfl, rfl⟩, (l1.push _)⟩ ?_ ?_
        · have gg : ((s.heap.push (frZ led)).push { cls := .type "list_iterator", data := .fields #[.ref l, .int 0 0] }).get? s.heap.objs.size = some (frZ led) := Heap.get?_push_of_some _ gz
          exact ⟨_, #[], 0, _, gg, ⟨rfl, rfl, rfl⟩, rfl, (fun e q => by simp at q), (fun k => by simp [ddp]), (by decide), (by rfl), rfl⟩
        · intro t3 mv z3
          obtain ⟨h', g', d', tk', os'⟩ := t3
          have eg : g' = s.gens := mv.gens
          have ed : d' = s.drawn := mv.drawn
          have eo : os' = s.os := mv.os
          subst eg; subst ed; subst eo
          show wpAny _ _ _ _ _ _
          refine wpAny_pure ?_
          show wpAny _ _ (ret Value.none) _ _ _
          refine wpAny_pure ⟨rfl, h', tk', rfl, z3, fun b o lb e => ?_⟩
          have n1 : b ≠ s.heap.objs.size := Nat.ne_of_lt lb
          have n2 : b ≠ (s.heap.push (frZ led)).objs.size := by
            rw [Heap.size_push]; exact Nat.ne_of_lt (Nat.lt_succ_of_lt lb)
          exact mv.heap b o (by simp only [List.mem_cons, List.mem_singleton, List.not_mem_nil, or_false, not_or]; exact ⟨n1, n2⟩) (Heap.get?_push_of_some _ (Heap.get?_push_of_some _ e))
      · cases r2 with
        | error e => exact hr2
        | ok fl2 =>
          cases fl2 with
          | ret r =>
            obtain ⟨rfl, h', tk, rfl, z3, k3⟩ := hr2
            repeat (any_goals (first | assumption | wp_step))
            exact h _ _ z3 k3
          | _ => exact hr2.elim
    | _ => exact hr.elim
end
end DL
namespace DL
open PySem L2 PyProof.Rows PpSet
section
variable {X : Cx}
abbrev kset (X : Cx) (D : Addr) (ks : List Key) : HO := SetK X.prog X.w D (fun j => (ddp ks).any fun q => decide (q = j)) (ddp ks).length
/-! ### len of a set, set(xs) -/
def tLenZ (X : Cx) (ta : TE) : TE := fun σ H Q => ta σ H fun x H1 => ∃ D S n, x = .ref D ∧ H1 D = some (SetK X.prog X.w D S n) ∧ n < 4096 ∧ Q (.int (n : Nat)) H1
theorem pe_lenZ {a : Expr} {ta : TE} {p pos : Pos} (hg : Gl X "len") (hm : X.mg "len" = none) (ha : PE X a ta) (na : starEach [a] X.env = (false, eval a X.env) :: starEach [] X.env := by rfl) : PE X (.Call (.Name "len" p) [a] [] pos) (tLenZ X ta) := by
  refine ⟨fun pins s σ H Q I h => Call_ (ld_blt I hg hm boot_len ?_)⟩
  refine PyProof.Rows.callWith_builtin1 (PyProof.Rows.args_cons (thn (ha.run pins s σ H _ I h) fun v s1 ⟨x, H1, I1, r1, q1⟩ => PyProof.Rows.args_nil ?_) na) na rfl
  obtain ⟨D, S, n, rfl, hD, hn4, q2⟩ := q1
  cases r1
  obtain ⟨o, es, ep, t, ho, hex, hd, _, _, _, hf, hn⟩ := setK_get I1 hD
  exact call_len_set ho hex hd hf (by rw [hn] <;> omega) ⟨.int (n : Nat), H1, I1.tok _, ⟨_, by rw [hn]⟩, q2⟩
def tSetZ (X : Cx) (ta : TE) : TE := fun σ H Q => ta σ H fun x H1 => ∃ (l : Addr) (ks : List Key), x = .ref l ∧ SqL X.K H1 l (ks.map kV) ∧ ks.length ≤ 4000 ∧ ∀ D, H1 D = none → Q (.ref D) (upd H1 D (kset X D ks))
theorem vals_at : ∀ {vs : List V} {us : List Value}, Vals vs us → ∀ (i : Nat) (u : Value), us[i]? = some u → ∃ v, vs[i]? = some v ∧ RelV v u
  | _, _, .nil, i, u, h => by simp at h
  | _, _, .cons r t, 0, u, h => by simp at h; subst h; exact ⟨_, rfl, r⟩
  | _, _, .cons r t, i + 1, u, h => by
    obtain ⟨v, e, q⟩ := vals_at t i u (by simpa using h)
    exact ⟨v, by simpa using e, q⟩
theorem pe_setZ {a : Expr} {ta : TE} {p pos : Pos} (hc : X.calm = true) (hg : Gl X "set") (hm : X.mg "set" = none) (ha : PE X a ta) (na : starEach [a] X.env = (false, eval a X.env) :: starEach [] X.env := by rfl) : PE X (.Call (.Name "set" p) [a] [] pos) (tSetZ X ta) := by
  refine ⟨fun pins s σ H Q I h => Call_ (ld_blt I hg hm boot_set ?_)⟩
  refine PyProof.Rows.callWith_type1 (PyProof.Rows.args_cons (thn (ha.run pins s σ H _ I h) fun v s1 ⟨x, H1, I1, r1, q1⟩ => PyProof.Rows.args_nil ?_) na) na rfl
  obtain ⟨l, ks, rfl, hq, hl, q2⟩ := q1
  cases r1
  obtain ⟨its, r, pl, hz⟩ := I1.list hq
  have hlen : ks.length = its.toArray.size := by rw [List.size_toArray, ← r.length, List.length_map]
  refine set_of_keys (ks := ks) (I1.ok.hd hc) pl.isList (fun i u hu => ?_) hlen (by rw [← hlen]; unfold scanBound; omega) fun h' tk z kp => ?_
  · obtain ⟨v, e, rv⟩ := vals_at r i u (by simpa using hu)
    rw [List.getElem?_map] at e
    cases ek : ks[i]? with
    | none => rw [ek] at e; cases e
    | some k => rw [ek] at e; cases e; exact ⟨k, rfl, kV_is rv, key_scan rv⟩
  · exact ⟨.ref _, _, I1.laid (t' := tk) (fun b o e => kp b o (Heap.lt_size e) e) (Nat.le_refl _) (setK_new z), rfl, q2 _ (I1.hok.fresh (Nat.le_refl _))⟩
/-! ### {e for ..} of keys -/
def tScZ (X : Cx) (wi : TI) (g : TG) (tt : TT) (te : TE) (vs : List Nat) : TE := fun σ H Q => wi σ H fun J H1 => ∀ D, H1 D = none → ∃ W : Nat → Nat → Hp → Prop, (∃ m, W 0 m (upd H1 D (kset X D []))) ∧ ∀ i m H, W i m H →
  (J.stop i H ∧ Q (.ref D) H) ∨ (J.go i H ∧ ∃ Nx : Hp → Prop, (∀ H', Nx H' → ∃ m', m' < m ∧ W (i + 1) m' H') ∧ ∀ x H', J.yld i H x H' → g x (wipe σ vs) H' fun σ2 H2 => wipe σ2 vs = wipe σ vs ∧ tt σ2 H2 fun b H3 =>
    if b = true then te σ2 H3 fun y H4 => ∃ (c : Key) (ks : List Key), y = kV c ∧ H4 D = some (kset X D ks) ∧ (ddp ks).length + 1 < scanBound ∧ Nx (upd H4 D (kset X D (ks ++ [c]))) else Nx H3)
theorem addZ {pins : List (Addr × Obj)} {σ : L2.St} {H : Hp} {s : Shared} {E : Value → Shared → Prop} {D : Addr} {ks : List Key} {c : Key} {u : Value} {Q : Value → Shared → Prop} (I : Inv X pins σ H s) (hD : H D = some (kset X D ks)) (room : (ddp ks).length + 1 < scanBound) (rc : RelV (kV c) u)
    (h : ∀ s', Inv X pins σ (upd H D (kset X D (ks ++ [c]))) s' → Q .none s') : wpAny (model X.prog X.w) X.A (call (.builtin "set.add") [.ref D, u]) Q E s := by
  refine call_set_add (kV_is rc) (key_scan rc) (setK_get I hD) room fun h' sb new => ?_
  have new' : h'.SetOf (mixKind X.prog X.w) D (fun j => (ddp (ks ++ [c])).any fun q => decide (q = j)) (ddp (ks ++ [c])).length :=
    setK_congr new (fun j => by rw [ddp_snoc, ddpS_any]) (by rw [ddp_snoc, ddpS_len])
  have he : ∃ u, h'.get? D = some u := by
    have ⟨o, _, _, _, ho, _⟩ := new
    exact ⟨o, ho⟩
  exact h _ (I.write (e := D) (t' := s.toks + 1) (by rw [hD]; trivial) (.inl rfl) (fun b u hb hu => (sb.2 b hb).trans hu) he (setK_new new'))
theorem freshZ {h : Heap} {w : World} {P : Program} : (h.push (frZ (!w.params.followText "set-order"))).SetOf (mixKind P w) h.objs.size (fun j => (ddp []).any fun q => decide (q = j)) (ddp []).length :=
  ⟨_, #[], 0, _, Heap.get?_push_size _ rfl, ⟨rfl, rfl, rfl⟩, rfl, (fun e he => by simp at he), (fun k => by simp [ddp]), (by decide), (by rfl), rfl⟩
theorem scZ_core {pins : List (Addr × Obj)} {s : Shared} {σ : L2.St} {H : Hp} {Q : VK} {elt tg iter : Expr} {ifs : List Expr} {scope : Scope} {own : List (Str × Nat)} {pos pos' : Pos} {wi : TI} {g : TG} {tt : TT} {te : TE} {use : Option (Value → Sem Unit)} {Qf : Value → Shared → Prop}
    (hc : X.calm = true) (hN : X.N.Nodup) (I : Inv X pins σ H s) (hi : PI X tg iter wi) (ok : BlkOk X.N X.env.scope scope own)
    (hg : ∀ (s : Shared) (H : Hp) (C : Addr) (cl : List (Str × Addr)) (fp : List Addr), PG (X.blk s H scope (compEnvC scope cl C X.env) fp) tg g) (ht : ∀ (s : Shared) (H : Hp) (C : Addr) (cl : List (Str × Addr)) (fp : List Addr), PTs (X.blk s H scope (compEnvC scope cl C X.env) fp) ifs tt)
    (he : ∀ (s : Shared) (H : Hp) (C : Addr) (cl : List (Str × Addr)) (fp : List Addr), PE (X.blk s H scope (compEnvC scope cl C X.env) fp) elt te) (hs : ∀ x, foldedSetIterable iter X.env x = pure x)
    (h : tScZ X wi g tt te (own.map (·.2)) σ H Q)
    (hRR : ∀ D C s' m H', Inv X pins σ H' s' → Q (.ref D) H' → s'.heap.Ns C m → FpOk X pins H' C → compPost (model X.prog X.w) X.A X.xe use Qf (.ref D) C (.ok .next) s') :
    wpAny (model X.prog X.w) X.A (comprehension (.SetComp elt [⟨tg, iter, ifs, 0⟩] scope pos) scope X.env pos' (newSet (.type "set")) false (eval iter X.env) use) Qf X.xe s := by
  have fr0 : ∀ y ∈ scope.names, y.2 = .free → ∃ c, X.env.cells.lookup y.1 = some c := fun y hy e => by
    rcases ok.free y hy e with k | k
    · exact I.ok.has _ (.inl k)
    · exact I.ok.has _ (.inr k)
  refine wpAny_comprehension_free (use := use) rfl hs (closure_ok fr0) ok.kind (fun y hy e => by rw [ok.uniq y hy, e])
    (thn (hi.run pins s σ H _ I h) fun xv s1 hx => thn hx fun itv s2 h2 => ?_)
  obtain ⟨it, fp, tn, J, H2, e, I2, T, st2, f2, q⟩ := h2
  subst e
  refine newSet_ok (newEnv_comp ?_)
  generalize hD : s2.heap.objs.size = D
  have nD : H2 D = none := I2.hok.fresh (Nat.le_of_eq hD)
  obtain ⟨W, ⟨m0, w0⟩, turn⟩ := q D nD
  generalize hs3 : ({ s2 with heap := s2.heap.push (frZ (!X.w.params.followText "set-order")) } : Shared) = s3
  have I3 : Inv X pins σ (upd H2 D (kset X D [])) s3 := by
    rw [← hs3]
    refine I2.laid (t' := s2.toks) (fun b o e => Heap.get?_push_of_some _ e) (Nat.le_of_eq hD) ?_
    rw [← hD]
    exact setK_new freshZ
  have h3 : s3.heap = s2.heap.push (frZ (!X.w.params.followText "set-order")) := by rw [← hs3]
  have sz : ∀ b ∈ fp, b < s2.heap.objs.size := fun b hb => by
    obtain ⟨o, e, _⟩ := T.obj _ _ st2 b hb
    exact Heap.lt_size e
  have f3 : ∀ b ∈ fp, FpOk X pins (upd H2 D (kset X D [])) b ∧ b < s3.heap.objs.size := fun b hb => by
    have lb := sz b hb
    refine ⟨⟨?_, (f2 b hb).2⟩, by rw [h3, Heap.size_push]; exact Nat.lt_succ_of_lt lb⟩
    rw [upd_ne (by rw [← hD]; exact Nat.ne_of_lt lb)]
    exact (f2 b hb).1
  have st3 : tn 0 s3.heap := T.keep _ _ _ st2 fun b _ o e => by rw [h3]; exact Heap.get?_push_of_some _ e
  have I4 := block_start I3 ok hN f3
  have pg := hg s3 (upd H2 D (kset X D [])) s3.heap.objs.size (cellsFrom (s3.heap.objs.size + 1) scope.names (cloFrom X.env.cells scope.names [])) fp
  have pt := ht s3 (upd H2 D (kset X D [])) s3.heap.objs.size (cellsFrom (s3.heap.objs.size + 1) scope.names (cloFrom X.env.cells scope.names [])) fp
  have pe := he s3 (upd H2 D (kset X D [])) s3.heap.objs.size (cellsFrom (s3.heap.objs.size + 1) scope.names (cloFrom X.env.cells scope.names [])) fp
  show codeAny _ _ (.compStart (.SetComp elt [⟨tg, iter, ifs, 0⟩] scope pos) 0 (.ref it) (.ref D) (compEnvC scope (cellsFrom (s3.heap.objs.size + 1) scope.names (cloFrom X.env.cells scope.names [])) s3.heap.objs.size X.env)) (compPost (model X.prog X.w) X.A X.xe use Qf (.ref D) s3.heap.objs.size) { s3 with heap := pushCells (s3.heap.push { cls := .type "dict", data := .dict #[] }) scope.names }
  have nfp : ∀ b ∈ fp, (upd H2 D (kset X D [])) b = none := fun b hb => (f3 b hb).1.1
  generalize hce : compEnvC scope (cellsFrom (s3.heap.objs.size + 1) scope.names (cloFrom X.env.cells scope.names [])) s3.heap.objs.size X.env = ce at I4 pg pt pe ⊢
  have cL : ce.locals = s3.heap.objs.size := by subst hce; rfl
  generalize hH3 : upd H2 D (kset X D []) = H3 at I3 I4 pg pt pe w0 nfp f3
  generalize hs4 : ({ s3 with heap := pushCells (s3.heap.push { cls := .type "dict", data := .dict #[] }) scope.names } : Shared) = s4 at I4 ⊢
  have st4 : tn 0 s4.heap := T.keep _ _ _ st3 fun b _ o e => by rw [← hs4]; exact pushCells_keeps _ _ _ _ (Heap.get?_push_of_some _ e)
  have stat : ∀ {σ' : L2.St} {H' : Hp} {s' : Shared}, Inv (X.blk s3 H3 scope ce fp) [] σ' H' s' → (∀ b ∈ fp, H' b = none) → ∀ b ∈ fp, FpOk (X.blk s3 H3 scope ce fp) [] H' b := fun {σ' H' s'} J' hn b hb =>
    ⟨hn b hb, (J'.ok.exf b hb).1, J'.ok.exfs b hb, .inl hb, fun x c e => (J'.ok.exf b hb).2 x c e, fun p hp => absurd (show p ∈ ([] : List (Addr × Obj)) ++ [] from hp) (by simp)⟩
  have loop : codeAny (model X.prog X.w) X.A (.compLoop (.SetComp elt [⟨tg, iter, ifs, 0⟩] scope pos) 0 (.ref it) (.ref D) ce) (compPost (model X.prog X.w) X.A X.xe use Qf (.ref D) s3.heap.objs.size) s4 := by
    refine compLoopS_any (fun n s' => ∃ i H', Inv (X.blk s3 H3 scope ce fp) [] (wipe σ (own.map (·.2))) H' s' ∧ tn i s'.heap ∧ (∀ b ∈ fp, H' b = none) ∧ W i n H') ?_ m0 ⟨0, H3, I4, st4, nfp, w0⟩
    rintro n s5 ⟨i, H5, I5, st5, n5, w5⟩
    rcases turn i n H5 w5 with ⟨stop, qq⟩ | ⟨go, Nx, hNx, step⟩
    · have td := T.done (X.blk s3 H3 scope ce fp) rfl rfl rfl hc i [] s5 _ H5 (fun _ _ => False) I5 (stat I5 n5) st5 stop
      refine thnF td fun r s6 ⟨hr, I6⟩ => ?_
      subst hr
      have I7 : Inv X pins σ H5 s6 := I3.call' (ch := fp) I6.os I6.base I6.hok I6.bare fun b hb => ⟨(f3 b hb).1.2.2.2.1, (f3 b hb).1.2.1, (f3 b hb).1.2.2.2.2.1, (f3 b hb).1.2.2.2.2.2⟩
      have nC : H5 s3.heap.objs.size = none := by
        have z : H5 ce.locals = none := I6.free
        rw [cL] at z
        exact z
      obtain ⟨m, hn, _⟩ := I6.loc
      have hn : s6.heap.Ns ce.locals m := hn
      rw [cL] at hn
      exact hRR D s3.heap.objs.size s6 m H5 I7 qq hn (I3.fpOk (Nat.le_refl _) nC)
    · have ti := T.item (X.blk s3 H3 scope ce fp) rfl rfl rfl hc i [] s5 _ H5 (fun _ _ => False) I5 (stat I5 n5) st5 go
      refine thnF ti fun r s6 ⟨u, hr, h6⟩ => ?_
      subst hr
      refine thnF h6 fun _ s7 ⟨x, H7, I7, r7, y7, st7, n7⟩ => ?_
      have I7' := I7.pinned (stat I7 n7) (T.obj _ _ st7)
      refine thnF (pg.run _ s7 _ H7 x u _ I7' r7 (step x H7 y7)) fun _ s8 ⟨σ8, H8, I8, hw8, q8⟩ => ?_
      refine thnF (pt.run _ s8 σ8 H8 _ I8 q8) fun b s9 ⟨H9, I9, q9⟩ => ?_
      have fin : ∀ {s' : Shared} {H' : Hp}, Inv (X.blk s3 H3 scope ce fp) ([] ++ pinsAt fp s7.heap) σ8 H' s' → Nx H' → ∃ m, m < n ∧ ∃ i H', Inv (X.blk s3 H3 scope ce fp) [] (wipe σ (own.map (·.2))) H' s' ∧ tn i s'.heap ∧ (∀ b ∈ fp, H' b = none) ∧ W i m H' := fun {s' H'} J' nx => by
        obtain ⟨m', hm, w'⟩ := hNx H' nx
        have pin' : ∀ b ∈ fp, ∀ o, s7.heap.get? b = some o → s'.heap.get? b = some o ∧ H' b = none := fun b hb o e =>
          let z := J'.pin (b, o) (List.mem_append_right _ (List.mem_append_right _ (mem_pinsAt hb e)))
          ⟨z.1, z.2.1⟩
        have hl : (wipe σ (own.map (·.2))).length = σ8.length := by rw [← hw8, wipe_length]
        refine ⟨m', hm, i + 1, H', (J'.unpinned (pins := [])).weak hl (fun j v e => ?_), T.keep _ _ _ st7 fun b hb o e => (pin' b hb o e).1, fun b hb => ?_, w'⟩
        · rw [← hw8] at e
          exact (wipe_some e).1
        · obtain ⟨o, e, _⟩ := T.obj _ _ st7 b hb
          exact (pin' b hb o e).2
      cases b with
      | false =>
        simp only [Bool.false_eq_true, if_false] at q9 ⊢
        exact fin I9 q9
      | true =>
        simp only [if_true] at q9 ⊢
        refine thnF (pe.run _ s9 σ8 H9 _ I9 q9) fun z s10 ⟨yv, H10, I10, r10, cb, ks0, ey, hD10, hz10, nx⟩ => ?_
        subst ey
        exact addZ (X := X.blk s3 H3 scope ce fp) I10 hD10 hz10 r10 fun s11 I11 => fin I11 nx
  exact codeAny_compStart_set loop (T.self X.A 0 _ _ _ st4 loop)
theorem pe_scZ {elt tg iter : Expr} {ifs : List Expr} {scope : Scope} {own : List (Str × Nat)} {pos : Pos} {wi : TI} {g : TG} {tt : TT} {te : TE} (hc : X.calm = true) (hN : X.N.Nodup) (hi : PI X tg iter wi) (ok : BlkOk X.N X.env.scope scope own)
    (hg : ∀ (s : Shared) (H : Hp) (C : Addr) (cl : List (Str × Addr)) (fp : List Addr), PG (X.blk s H scope (compEnvC scope cl C X.env) fp) tg g) (ht : ∀ (s : Shared) (H : Hp) (C : Addr) (cl : List (Str × Addr)) (fp : List Addr), PTs (X.blk s H scope (compEnvC scope cl C X.env) fp) ifs tt)
    (he : ∀ (s : Shared) (H : Hp) (C : Addr) (cl : List (Str × Addr)) (fp : List Addr), PE (X.blk s H scope (compEnvC scope cl C X.env) fp) elt te) (hs : ∀ x, foldedSetIterable iter X.env x = pure x := by intro _; rfl) :
    PE X (.SetComp elt [⟨tg, iter, ifs, 0⟩] scope pos) (tScZ X wi g tt te (own.map (·.2))) := by
  refine ⟨fun pins s σ H Q I h => ?_⟩
  rw [eval_SetComp]
  refine scZ_core hc hN I hi ok hg ht he hs h fun D C s' m H' J' q hn f => ⟨m, hn, fun h'' sb => ?_⟩
  obtain ⟨f0, f1, f2, f3, f4, f5⟩ := f
  exact ⟨.ref D, H', J'.turned (t' := s'.toks) (fun b o hb e => (sb.2 b hb).trans e) f0 f1 f3 f4 f5, rfl, q⟩
end
end DL
namespace DL
open PySem L2 PyProof.Rows
/-! ### len(set(xs)) -/
def ksOf : List D → Option (List Key)
  | [] => some []
  | d :: ds => match kOf d, ksOf ds with
    | some k, some ks => some (k :: ks)
    | _, _ => none
theorem ksOf_map : ∀ ks : List Key, ksOf (ks.map kD) = some ks
  | [] => rfl
  | k :: ks => by rw [List.map_cons, ksOf, kOf_kD, ksOf_map ks]
theorem rp_key {K : Fg} {F : Hp} {v : V} {d : D} {k : Key} (h : Rp K F v d) (e : kOf d = some k) : v = kV k := by
  have := kOf_some e
  subst this
  cases k with
  | inl i => cases h; rfl
  | inr x => cases h; rfl
theorem rpA_ks {K : Fg} {F : Hp} : ∀ {vs : List V} {ds : List D} {ks : List Key}, RpA K F vs ds → ksOf ds = some ks → vs = ks.map kV
  | _, _, _, .nil, e => by cases e; rfl
  | _, _, ks, .cons (d := d) (ds := ds) h r, e => by
    rw [ksOf] at e
    cases e1 : kOf d with
    | none => rw [e1] at e; cases e
    | some k =>
      cases e2 : ksOf ds with
      | none => rw [e1, e2] at e; cases e
      | some q =>
        rw [e1, e2] at e
        cases e
        rw [List.map_cons, rp_key h e1, rpA_ks r e2]
def KLenSet (P : Po) (x : R) (r : Rho) : Prop := onO (look r x) fun d => onO (ltOf d) fun ds => onO (ksOf ds) fun ks => Rq (ks.length ≤ 4000) (P (.val (.int ((ddp ks).length : Nat))) r)
def mLenSet (ma : ME) : ME := fun r P => ma r fun x r1 => KLenSet P x.tmp r1
section
variable {X : Cx} {a : Expr} {ma : ME} {p p2 q pos : Pos}
theorem de_lenSet (hc : X.calm = true) (hg : Gl X "len") (hm : X.mg "len" = none) (hg2 : Gl X "set") (hm2 : X.mg "set" = none) (ha : DE X a ma) (na : starEach [a] X.env = (false, eval a X.env) :: starEach [] X.env := by rfl)
    (nb : starEach [.Call (.Name "set" p2) [a] [] q] X.env = (false, eval (.Call (.Name "set" p2) [a] [] q) X.env) :: starEach [] X.env := by rfl) : DE X (.Call (.Name "len" p) [.Call (.Name "set" p2) [a] [] q] [] pos) (mLenSet ma) := fun e => by
  refine PE.imp (pe_lenZ hg hm (pe_setZ hc hg2 hm2 (ha.tmp e) na) nb) fun s H Q ⟨F, r, k, P, hm, hP⟩ => ?_
  refine ⟨F, r, k, fun x r1 => KLenSet P x r1, hm, fun x r1 v F1 H1 hx k1 q1 t1 => ?_⟩
  obtain ⟨d, e1, h1⟩ := onO.ex hx
  obtain ⟨ds, e2, h2⟩ := onO.ex h1
  obtain ⟨ks, e3, h3⟩ := onO.ex h2
  have := ltOf_of e2
  subst this
  obtain ⟨l, xs, rfl, g1, g2⟩ := (t1.look k1 e1).lst k1.sub
  have ex := rpA_ks g2 e3
  subst ex
  refine ⟨l, ks, rfl, .inl g1, Rq.c h3, fun D hD => ?_⟩
  refine ⟨D, _, (ddp ks).length, rfl, upd_same, ?_, ?_⟩
  · have := ddp_le ks
    have := Rq.c h3
    omega
  · exact hP _ r1 _ F1 _ (Rq.a h3) (k1.alloc hD) q1 (.val (.int _))
end
/-! ### len({e for ..}) -/
def scM (vs : List Nat) (g : GT) (tt : MT) (te : ME) (P : List Key → Rho → Prop) : List D → List Key → Rho → Prop
  | [], acc, r => P acc r
  | d :: ds, acc, r => onS (g d r) fun r1 => tt r1 fun b r2 => brK b (te r2 fun y r3 => onO (look r3 y.tmp) fun dk => onO (kOf dk) fun k => Rq (acc.length < 4000) (strict (wipeR r3 vs) fun r5 => scM vs g tt te P ds (acc ++ [k]) r5)) (strict (wipeR r2 vs) fun r4 => scM vs g tt te P ds acc r4)
structure Sc (vs : List Nat) (g : GT) (tt : MT) (te : ME) (P : List Key → Rho → Prop) (ds : List D) (acc : List Key) (r : Rho) : Prop where
  h : scM vs g tt te P ds acc r
theorem sc_by {vs : List Nat} {g : GT} {tt : MT} {te : ME} {P : List Key → Rho → Prop} {ds : List D} {acc : List Key} {r : Rho} (I : List D → List Key → Rho → Prop) (hi : I ds acc r) (h : ∀ d ds acc r, I (d :: ds) acc r → (∀ acc' r', I ds acc' r' → scM vs g tt te P ds acc' r') → scM vs g tt te P (d :: ds) acc r) (h0 : ∀ acc r, I [] acc r → P acc r) : Sc vs g tt te P ds acc r := by
  have go : ∀ ds acc r, I ds acc r → scM vs g tt te P ds acc r := by
    intro ds
    induction ds with
    | nil => intro acc r q; exact h0 acc r q
    | cons d ds ih => intro acc r q; exact h d ds acc r q fun acc' r' q' => ih acc' r' q'
  exact ⟨go ds acc r hi⟩
theorem sc_list {vs : List Nat} {g : GT} {tt : MT} {te : ME} {P : List Key → Rho → Prop} {r : Rho} {α : Type} (f : α → D) (gv : α → Key) {as : List α}
    (h : ∀ a ∈ as, ∀ ds acc, acc.length < 4000 → scM vs g tt te P ds (acc ++ [gv a]) r → scM vs g tt te P (f a :: ds) acc r)
    (hz : as.length ≤ 4000) (hp : P (as.map gv) r) : Sc vs g tt te P (as.map f) [] r := by
  refine sc_by (fun ds acc ρ => ∃ dn rest : List α, as = dn ++ rest ∧ ds = rest.map f ∧ acc = dn.map gv ∧ ρ = r) ⟨[], as, rfl, rfl, rfl, rfl⟩ ?_ ?_
  · rintro d ds acc ρ ⟨dn, rest, k1, k2, rfl, rfl⟩ ih
    cases rest with
    | nil => cases k2
    | cons a rest =>
    simp only [List.map_cons, List.cons.injEq] at k2
    obtain ⟨rfl, rfl⟩ := k2
    refine h a (by rw [k1]; simp) _ _ (by rw [List.length_map]; rw [k1] at hz; simp at hz; omega) (ih _ _ ⟨dn ++ [a], rest, by rw [k1]; simp, rfl, by simp, rfl⟩)
  · rintro acc ρ ⟨dn, rest, k1, k2, rfl, rfl⟩
    have e0 : rest = [] := by simpa using k2.symm
    subst e0
    rw [List.append_nil] at k1
    subst k1
    exact hp
def mLenSc (vs : List Nat) (mi : MI) (g : GT) (tt : MT) (te : ME) : ME := fun r P => mi r fun ds r1 => rqB (noBox r1 vs) (strict (wipeR r1 vs) fun r0 => Sc vs g tt te (fun acc r2 => strict (backR r2 r1 vs) fun r3 => Rq (acc.length ≤ 4000) (P (.val (.int ((ddp acc).length : Nat))) r3)) ds [] r0)
section
variable {X : Cx} {elt tg iter : Expr} {ifs : List Expr} {scope : Scope} {own : List (Str × Nat)} {pos p cpos : Pos} {mi : MI} {g : GT} {tt : MT} {te : ME} {vs : List Nat}
theorem lenSc_read {e : En} (hvs : vs = own.map (·.2)) {s : L2.St} {H : Hp} {Q : VK} (h : T X.K e (mLenSc vs mi g tt te) s H Q) :
    ∀ (tg' : TG) (tt' : TT) (te' : TE), (∀ e', ∀ v s H Q, TGt X.K e' vs g v s H Q → tg' v s H Q) → (∀ e', ∀ s H Q, TB X.K e' tt s H Q → tt' s H Q) → (∀ e', ∀ s H Q, Tt X.K e' (mTmp te) s H Q → te' s H Q) → tLenZ X (tScZ X (TIt X.K e mi) tg' tt' te' (own.map (·.2))) s H Q := by
  intro tg' tt' te' i1 i2 i3
  rw [← hvs]
  obtain ⟨F, r, k, P, hm, hP⟩ := h
  refine ⟨F, r, k, _, hm, fun ds r1 F1 H1 J hx k1 q1 ok p hp => ?_⟩
  obtain ⟨nb, hx2⟩ := rqB.ex hx
  have hl := hx2.ex.h
  clear hx hx2
  have fr := k1.free hp
  have hF0 : e.F0 p = none := by
    cases q : e.F0 p with
    | none => rfl
    | some u => rw [k1.f0 p u q] at fr; cases fr.1
  generalize hPP : (fun (acc : List Key) (r2 : Rho) => strict (backR r2 r1 vs) fun r3 => Rq (acc.length ≤ 4000) (P (.val (.int ((ddp acc).length : Nat))) r3)) = PP at hl
  refine ⟨fun i m H => ∃ F r acc, Ok X.K (e.keep p (kset X p acc)) F r (wipe s vs) H ∧ Sub F1 F ∧ i ≤ ds.length ∧ m = ds.length - i ∧ scM vs g tt te PP (ds.drop i) acc r, ?_, ?_⟩
  · have kw : Ok X.K e F1 (wipeR r1 vs) (wipe s vs) (upd H1 p (kset X p [])) := (k1.wipe vs).alloc hp
    exact ⟨_, F1, _, [], kw.keep upd_same fr.1 ((k1.wipe vs).nobox hp), Sub.refl _, Nat.zero_le _, rfl, by rw [List.drop_zero]; exact hl⟩
  · rintro i m H2 ⟨F2, r2, acc, k2, q2, hi, rfl, hl2⟩
    by_cases hn : i < ds.length
    · refine .inr ⟨ok.go i H2 (q2.trans k2.sub) hn, fun H => ∃ F r acc, Ok X.K (e.keep p (kset X p acc)) F r (wipe s vs) H ∧ Sub F1 F ∧ scM vs g tt te PP (ds.drop (i + 1)) acc r, fun H3 ⟨F3, r3, acc3, k3, q3, hl3⟩ => ⟨_, by omega, F3, r3, acc3, k3, q3, hn, rfl, hl3⟩, fun x H3 hy => ?_⟩
      obtain ⟨d, ed, F3, k3, q3, rp⟩ := ok.yld i H2 x H3 hy _ F2 r2 _ k2 q2 hn
      rw [drop_cons ed] at hl2
      obtain ⟨r4, eg, hb4⟩ := onS.ex hl2
      refine i1 _ _ _ _ _ ⟨F3, r2, d, r4, k3, rp, eg, fun s5 F5 H5 k5 q5 w5 => ⟨w5.trans ?_, i2 _ _ _ _ ⟨F5, r4, k5, _, hb4, fun b r6 F6 H6 hb6 k6 q6 => ?_⟩⟩⟩
      · apply List.ext_getElem?
        intro j
        rw [wipe_get, wipe_get, wipe_length]
        split <;> rfl
      · have ww : wipe s5 vs = wipe s vs := w5.trans (by
          apply List.ext_getElem?
          intro j
          rw [wipe_get, wipe_get, wipe_length]
          split <;> rfl)
        have q16 : Sub F1 F6 := ((q2.trans q3).trans q5).trans q6
        cases b with
        | false =>
          have hb6 := strict.ex hb6
          refine iteF ?_
          refine ⟨F6, _, acc, ?_, q16, hb6⟩
          rw [← ww]
          exact k6.wipe vs
        | true =>
          refine iteT ?_
          refine i3 _ _ _ _ ⟨F6, r6, k6, fun y r3 => onO (look r3 y) fun dk => onO (kOf dk) fun k => Rq (acc.length < 4000) (strict (wipeR r3 vs) fun r5 => scM vs g tt te PP (ds.drop (i + 1)) (acc ++ [k]) r5), hb6, fun y r7 v7 F7 H7 hx7 k7 q7 t7 => ?_⟩
          obtain ⟨dk, e1, h1⟩ := onO.ex hx7
          obtain ⟨kk, e2, h2⟩ := onO.ex h1
          have hz := Rq.c h2
          have hl9 := (Rq.a h2).ex
          have lk := (t7.look k7 e1).key e2
          obtain ⟨_, g1, _, _⟩ := k7.unkeep fr.2.1 hF0
          have hle := ddp_le acc
          refine ⟨kk, acc, lk, g1, by unfold scanBound; omega, F7, _, _, ?_, q16.trans q7, hl9⟩
          rw [← ww]
          exact (k7.rekeep fr.2.1 hF0).wipe vs
    · have e0 : i = ds.length := by omega
      subst e0
      rw [List.drop_length] at hl2
      have hl2' : PP acc r2 := hl2
      rw [← hPP] at hl2'
      obtain ⟨k3, g1, g2, g3⟩ := k2.unkeep fr.2.1 hF0
      have kb := k1.back nb k3 q2
      have fin := strict.ex hl2'
      have hle := ddp_le acc
      have h4 := Rq.c fin
      exact .inl ⟨ok.stop _ H2 (q2.trans k2.sub) (Nat.le_refl _), p, _, (ddp acc).length, rfl, g1, by omega, hP _ _ _ F2 H2 (Rq.a fin) kb (q1.trans q2) (.val (.int _))⟩
theorem de_lenSc (hc : X.calm = true) (hg0 : Gl X "len") (hm0 : X.mg "len" = none) (hN : X.N.Nodup) (hi : DI X tg iter mi) (ok : BlkOk X.N X.env.scope scope own)
    (hg : ∀ (s : Shared) (H : Hp) (C : Addr) (cl : List (Str × Addr)) (fp : List Addr), DG (X.blk s H scope (compEnvC scope cl C X.env) fp) tg (own.map (·.2)) g) (ht : ∀ (s : Shared) (H : Hp) (C : Addr) (cl : List (Str × Addr)) (fp : List Addr), DTs (X.blk s H scope (compEnvC scope cl C X.env) fp) ifs tt)
    (he : ∀ (s : Shared) (H : Hp) (C : Addr) (cl : List (Str × Addr)) (fp : List Addr), DE (X.blk s H scope (compEnvC scope cl C X.env) fp) elt te) (hs : ∀ x, foldedSetIterable iter X.env x = pure x := by intro _; rfl)
    (na : starEach [.SetComp elt [⟨tg, iter, ifs, 0⟩] scope pos] X.env = (false, eval (.SetComp elt [⟨tg, iter, ifs, 0⟩] scope pos) X.env) :: starEach [] X.env := by rfl) :
    DE X (.Call (.Name "len" p) [.SetComp elt [⟨tg, iter, ifs, 0⟩] scope pos] [] cpos) (mLenSc (own.map (·.2)) mi g tt te) := fun e => by
  refine PE.imp (pe_lenZ hg0 hm0 (pe_scZ (g := fun v s H Q => ∃ e', TGt X.K e' (own.map (·.2)) g v s H Q) (tt := fun s H Q => ∃ e', TB X.K e' tt s H Q) (te := fun s H Q => ∃ e', Tt X.K e' (mTmp te) s H Q) hc hN (hi e) ok
    (fun s H C cl fp => ⟨fun pins s σ H v u Q I r ⟨e', q⟩ => (hg _ _ C cl fp e').run pins s σ H v u Q I r q⟩) (fun s H C cl fp => ⟨fun pins s σ H Q I ⟨e', q⟩ => (ht _ _ C cl fp e').run pins s σ H Q I q⟩) (fun s H C cl fp => ⟨fun pins s σ H Q I ⟨e', q⟩ => ((he _ _ C cl fp).tmp e').run pins s σ H Q I q⟩) hs) na) ?_
  exact fun s H Q h => lenSc_read rfl h _ _ _ (fun e' _ _ _ _ q => ⟨e', q⟩) (fun e' _ _ _ q => ⟨e', q⟩) fun e' _ _ _ q => ⟨e', q⟩
end
end DL
namespace DL
open PySem L2 PyProof.Rows
/-! ### x[::-1] of tuples and lists -/
section
variable {prog : Program} {w : World} {A : Around} {E : Value → Shared → Prop} {s : Shared}
theorem adjust_rev (n : Nat) : Builtin.Slice.sliceAdjust none none (-1) (n : Int) = ((n : Int) - 1, -1) := by
  simp [Builtin.Slice.sliceAdjust]
theorem places_rev (n : Nat) : Builtin.Slice.slicePlaces ((n : Int) - 1) (-1) (-1) = n := by
  unfold Builtin.Slice.slicePlaces
  cases n with
  | zero => rfl
  | succ n => simp; try omega
theorem applied_rev {sl : Addr} {vs : Value} {n : Nat} {Q : Int × Int × Nat → Shared → Prop} (hs : s.heap.IsSliceOf sl .none .none vs) (ps : IsPart vs (some (-1)))
    (h : Q ((n : Int) - 1, -1, n) s) : wpAny (model prog w) A (Builtin.Slice.sliceApplied (.ref sl) (pure (n : Int))) Q E s := by
  obtain ⟨os, hos, hcs, hds⟩ := id hs
  unfold Builtin.Slice.sliceApplied Builtin.Slice.sliceFields
  refine wpAny_bind (wpAny_bind (wpAny_field hos hds (x := .none) rfl (wpAny_bind (wpAny_field hos hds (x := .none) rfl (wpAny_bind (wpAny_field hos hds (x := vs) rfl (wpAny_pure ?_)))))))
  refine wpAny_bind (HT.slicePart_ ps ?_)
  show wpAny _ _ (if ((-1 : Int) == 0) = true then _ else _) _ _ s
  rw [if_neg (by decide)]
  refine wpAny_bind (HT.slicePart_ .none (wpAny_bind (HT.slicePart_ .none (wpAny_bind (wpAny_pure ?_)))))
  show wpAny _ _ (match Builtin.Slice.sliceAdjust none none (-1) (n : Int) with | (lo, hi) => pure (lo, (-1 : Int), Builtin.Slice.slicePlaces lo hi (-1))) _ _ s
  rw [adjust_rev n]
  show wpAny _ _ (pure ((n : Int) - 1, (-1 : Int), Builtin.Slice.slicePlaces ((n : Int) - 1) (-1) (-1))) _ _ s
  rw [places_rev]
  exact wpAny_pure h
theorem pick_rev (items : Array Value) : ((List.range items.size).filterMap fun (k : Nat) => items[((items.size : Int) - 1 + (k : Int) * (-1)).toNat]?).toArray = items.toList.reverse.toArray := by
  have e : (List.range items.size).filterMap (fun (k : Nat) => items[((items.size : Int) - 1 + (k : Int) * (-1)).toNat]?) = ((List.range items.size).map fun k => items.size - 1 - k).filterMap (items[·]?) := by
    rw [List.filterMap_map]
    have go : ∀ l : List Nat, (∀ k ∈ l, k < items.size) → l.filterMap (fun (k : Nat) => items[((items.size : Int) - 1 + (k : Int) * (-1)).toNat]?) = l.filterMap ((items[·]?) ∘ fun k => items.size - 1 - k) := by
      intro l
      induction l with
      | nil => intro _; rfl
      | cons k l ih =>
        intro hl
        have hk := hl k List.mem_cons_self
        have e1 : ((items.size : Int) - 1 + (k : Int) * (-1)).toNat = items.size - 1 - k := by omega
        rw [List.filterMap_cons, List.filterMap_cons, ih fun j hj => hl j (List.mem_cons_of_mem _ hj), e1]
        rfl
    exact go _ fun k hk => List.mem_range.mp hk
  rw [e, PySem.W.krv_range, List.filterMap_reverse, PySem.W.krv_all]
theorem get_tup_rev {t sl : Addr} {items : Array Value} {vs : Value} {Q : Value → Shared → Prop} (ht : IsTup s.heap t items) (hs : s.heap.IsSliceOf sl .none .none vs) (ps : IsPart vs (some (-1)))
    (h : Q (.ref s.heap.objs.size) { s with heap := s.heap.push { cls := .type "tuple", data := .seq items.toList.reverse.toArray } })
    (hsz : items.size ≤ sizeLine) : wpAny (model prog w) A (getItem (.ref t) (.ref sl)) Q E s := by
  have fit : sizeOk (.seq items.toList.reverse.toArray) := by
    show items.toList.reverse.toArray.size ≤ sizeLine
    rw [List.size_toArray, List.length_reverse, Array.length_toList]
    exact hsz
  obtain ⟨os, hos, hcs, hds⟩ := id hs
  have ty : s.TypeIs (.ref sl) "slice" := ⟨os, hos, hcs⟩
  unfold getItem
  try with_reducible refine wpAny_holding ?_
  first | refine wpAny_bind (wpAny_pure ?_) | skip
  refine wpAny_bind (wpAny_sequenceKey ht.typeIs (by decide) ?_)
  refine wpAny_bind (wpAny_callSpecial?_slot (name := Str.ofString "__getitem__") ht.typeIs PyProof.Rows.slot_tuple_getitem (wpAny_call_entry PyProof.Rows.slot_tuple_getitem ht.typeIs entry_tuple_getitem ?_ (args_tuple_getitem _ _)))
  show wpAny _ _ (Builtin.Tuple.tupleItemsOf (.ref t) >>= _) _ _ s
  refine wpAny_bind (PyProof.Rows.tupleItemsOf_ ht ?_)
  refine wpAny_bind (wpAny_typeOf ty ?_)
  rw [if_pos (by decide)]
  refine wpAny_bind (applied_rev hs ps ?_)
  have no : ¬ ((((items.size : Int) - 1 == 0 && (-1 : Int) == 1 && items.size == items.size)) = true) := by
    intro q
    rw [Bool.and_eq_true, Bool.and_eq_true] at q
    exact absurd q.1.2 (by decide)
  show wpAny _ _ (if ((items.size : Int) - 1 == 0 && (-1 : Int) == 1 && items.size == items.size) = true then _ else _) _ _ s
  rw [if_neg no, pick_rev]
  first
    | exact wpAny_bind (m := Builtin.Tuple.tupleExact _) (wpAny_newObj_type (wpAny_pure ⟨_, rfl, wpAny_pure h⟩) fit)
    | exact wpAny_bind (m := Builtin.Tuple.tupleExact _) (wpAny_newObj_type (wpAny_bind (wpAny_pure (wpAny_pure ⟨_, rfl, wpAny_pure h⟩))) fit)
    | exact wpAny_bind (wpAny_bind (m := Builtin.Tuple.tupleExact _) (wpAny_newObj_type (wpAny_pure (wpAny_pure ⟨_, rfl, wpAny_pure h⟩)) fit))
    | exact wpAny_bind (wpAny_bind (m := Builtin.Tuple.tupleExact _) (wpAny_newObj_type (wpAny_pure ⟨_, rfl, wpAny_pure h⟩) fit))
end
section
variable {X : Cx}
def tRevA (K : Fg) (te : TE) : TE := fun σ H Q => te σ H fun x H1 => ∃ a xs, x = .ref a ∧ ((SqT K H1 a xs ∧ ∀ p, H1 p = none → Q (.ref p) (upd H1 p (.tup xs.reverse))) ∨ (SqL K H1 a xs ∧ ∀ p, H1 p = none → Q (.ref p) (upd H1 p (.lst xs.reverse))))
theorem pe_revA {e : Expr} {te : TE} {k : Nat} {p1 p2 p3 pos : Pos} (he : PE X e te) : PE X (.Subscript e (.Slice none none (some (.UnaryOp .USub (.Constant (.int 1) k p1) p2)) p3) pos) (tRevA X.K te) := by
  refine ⟨fun pins s σ H Q I h => Subscript_ (thn (he.run pins s σ H _ I h) fun v s1 ⟨x, H1, I1, r1, q1⟩ => ?_)⟩
  obtain ⟨a, xs, ex, hx⟩ := q1
  subst ex
  cases r1
  have st : PO X (some (.UnaryOp .USub (.Constant (.int 1) k p1) p2)) (tPart (tUn (rU fun i => .int (-i)) (tC (.int 1)))) := po_some (pe_un un_neg pe_int)
  refine wpAny_Slice (thn (po_none.run pins s1 σ H1 (fun o H2 => o = none ∧ H2 = H1) I1 ⟨rfl, rfl⟩) fun vl s2 ⟨l, H2, I2, pl, el, e2⟩ => ?_)
  subst el e2
  refine thn (po_none.run pins s2 σ H2 (fun o H3 => o = none ∧ H3 = H2) I2 ⟨rfl, rfl⟩) fun vu s3 ⟨u, H3, I3, pu, eu, e3⟩ => ?_
  subst eu e3
  refine thn (st.run pins s3 σ H3 (fun o H4 => o = some (-1) ∧ H4 = H3) I3 ⟨1, rfl, -1, rfl, rfl, rfl⟩) fun vs s4 ⟨o, H4, I4, ps, eo, e4⟩ => ?_
  subst eo e4
  cases pl
  cases pu
  have I5 : Inv X pins σ H4 { s4 with heap := s4.heap.push { cls := .type "slice", data := .fields #[.none, .none, vs] } } := I4.kept (t' := s4.toks) fun b ob q => Heap.get?_push_of_some _ q
  show wpAny (model X.prog X.w) X.A (subscriptTail e (.Slice none none (some (.UnaryOp .USub (.Constant (.int 1) k p1) p2)) p3) (.ref a) (.ref s4.heap.objs.size)) (EP X pins σ Q) X.xe { s4 with heap := s4.heap.push { cls := .type "slice", data := .fields #[.none, .none, vs] } }
  rcases hx with ⟨hx, q⟩ | ⟨hx, q⟩
  · obtain ⟨its, r, ht, hz⟩ := I5.tuple hx
    have hlen := r.length
    refine tail_any (ops := [.ref a, .ref s4.heap.objs.size]) ht.typeIs (PyProof.Rows.slot_tuple_getitem.lookup) ?_ (by with_unfolding_all rfl)
    refine get_tup_rev ht (Heap.IsSliceOf.new _ .none .none vs) ps ?_ (by rw [List.size_toArray]; omega)
    exact ⟨.ref _, _, I5.laid (t' := s4.toks) (o := .tup xs.reverse) (fun b ob q => Heap.get?_push_of_some _ q) (Nat.le_refl _) ⟨by rw [List.length_reverse]; exact hz, _, r.reverse, IsTup.new _ _⟩, rfl, q _ (I5.hok.fresh (Nat.le_refl _))⟩
  · obtain ⟨its, r, ht, hz⟩ := I5.list hx
    have hlen := r.length
    refine tail_any (ops := [.ref a, .ref s4.heap.objs.size]) ht.isList.typeIs (PySem.slot_list_getitem.lookup) ?_ (by with_unfolding_all rfl)
    refine wpAny_getItem_list_slice ht.isList (Heap.IsSliceOf.new _ .none .none vs) .none .none ps (by decide) ?_ (by rw [List.size_toArray]; omega)
    rw [PySem.W.krv_pick]
    exact ⟨.ref _, _, I5.laid (t' := s4.toks) (o := .lst xs.reverse) (fun b ob q => Heap.get?_push_of_some _ q) (Nat.le_refl _) ⟨by rw [List.length_reverse]; exact hz, _, 0, r.reverse, Heap.get?_push_size _ rfl⟩, rfl, q _ (I5.hok.fresh (Nat.le_refl _))⟩
def KRev (P : Po) (x : R) (r : Rho) : Prop := onO (look r x) fun d => match d with
  | .tuple ds => P (.val (.tuple ds.reverse)) r
  | .list ds => P (.own (.L ds.reverse)) r
  | _ => False
def mRev (ma : ME) : ME := fun r P => ma r fun x r1 => KRev P x.tmp r1
theorem de_rev {a : Expr} {ma : ME} {k : Nat} {p1 p2 p3 pos : Pos} (ha : DE X a ma) : DE X (.Subscript a (.Slice none none (some (.UnaryOp .USub (.Constant (.int 1) k p1) p2)) p3) pos) (mRev ma) := fun e => by
  refine PE.imp (pe_revA (ha.tmp e)) fun s H Q ⟨F, r, k, P, hm, hP⟩ => ?_
  refine ⟨F, r, k, fun x r1 => KRev P x r1, hm, fun x r1 v F1 H1 hx k1 q1 t1 => ?_⟩
  obtain ⟨d, e1, h1⟩ := onO.ex hx
  have lk := t1.look k1 e1
  split at h1
  · obtain ⟨a, xs, rfl, g1, g2, _⟩ := lk.tup k1.sub
    refine ⟨a, xs, rfl, .inl ⟨g1, fun p hp => ?_⟩⟩
    have kf := k1.free hp
    exact hP _ r1 _ _ _ h1 (k1.lay hp) (q1.trans (Sub.new kf.1)) (.val (.tup (.inl (.inl upd_same)) (g2.rev.mono (Sub.new kf.1))))
  · obtain ⟨a, xs, rfl, g1, g2⟩ := lk.lst k1.sub
    refine ⟨a, xs, rfl, .inr ⟨.inl g1, fun p hp => ?_⟩⟩
    exact hP _ r1 _ F1 _ h1 (k1.alloc hp) q1 (RR.newL k1 hp g2.rev)
  · exact h1.elim
end
end DL
namespace DL
open PySem L2 PyProof.Rows
section
variable {X : Cx} {st : Stmt}
/-- a statement that is never come to -/
def sNo : MS := fun _ _ => False
theorem ds_no : DS X st sNo := fun e => ⟨fun pins s σ H D I h => by
  obtain ⟨F, r, k, O, hm, _⟩ := h
  exact hm.elim⟩
end
/-! ### == of a datum and itself -/
mutual
theorem eqv_self : ∀ d : D, d.hasDict = false → PyData.eqv d d = true
  | .none, _ => by simp [PyData.eqv]
  | .bool b, _ => by simp [PyData.eqv]
  | .int i, _ => by simp [PyData.eqv]
  | .str x, _ => by simp [PyData.eqv]
  | .list xs, h => by rw [PyData.eqv]; exact eqvAll_self xs (by simpa [PyData.hasDict] using h)
  | .tuple xs, h => by rw [PyData.eqv]; exact eqvAll_self xs (by simpa [PyData.hasDict] using h)
  | .dict kvs, h => by simp [PyData.hasDict] at h
theorem eqvAll_self : ∀ ds : List D, PyData.hasDictAll ds = false → PyData.eqvAll ds ds = true
  | [], _ => by simp [PyData.eqvAll]
  | d :: ds, h => by
    simp only [PyData.hasDictAll, Bool.or_eq_false_iff] at h
    rw [PyData.eqvAll, eqv_self d h.1, eqvAll_self ds h.2]; rfl
end
end DL
namespace DL
open PySem L2 PyProof.Rows
section
variable {K : Fg} {x qual : Str} {params : Arguments} {body : List Stmt} {scope : Scope} {dvs : List V} {kws : List (Str × V)} {f : Addr} {fd : FuncData} {ps : List Str}
/-- by places and by names, of a def with defaults by place (behind the keywords' values stand all of them); no keyword-only one lacks -/
theorem Bd.pos {dds : List D} (F : FunD K x qual params body scope dvs kws f fd) (n : Nat) (ks : List Str) (ix : List (Bool × Nat)) (hd : dvs ≠ []) (hf : Flats dvs dds) (hl : ix.length = ps.length) (ho : ixOk n (ks.length + dvs.length) ix = true)
    (h : ∀ (T : Addr) (kV doc pm : Value) (an : Option Addr) (cdv ct : Value) (us ws its : List Value), us.length = n → ws.length = ks.length → its.length = dvs.length →
      ∃ k, bindArgs (PySem.W.fnOf x qual params body scope (.ref T) kV doc pm an cdv ct) ⟨us, ks.zip ws⟩ = seqItems? (.ref T) >>= k ∧ k (some its.toArray) = pure (ps.zip (DL.pick ix us (ws ++ its)))) : Bd K fd ps n ks (fun xs zs => DL.pick ix xs (zs ++ dds.map R.val)) := by
  obtain ⟨oc, od, dV, kV, doc, pm, an, cdv, ct, osl, rfl, lk, hcd, hD, hK⟩ := F.ex
  rcases hD with ⟨e, _⟩ | ⟨_, T, o, its, m, rfl, lT, oT, rT⟩
  · exact absurd e hd
  · have l3 : its.length = dvs.length := rT.length.symm
    refine ⟨fun us ws => DL.pick ix us (ws ++ its), fun vs zs => DL.pick ix vs (zs ++ dvs), ⟨fun s us ws X l1 l2 => ?_, fun r q => pick_vals r (q.append rT) ix⟩, fun vs zs l1 l2 => ?_, fun F s xs vs zs ws t q _ _ => pick_rts t (q.append hf.rts) ix⟩
    · obtain ⟨k, e1, e2⟩ := h T kV doc pm an cdv ct us ws its l1 l2 l3
      refine BindsTo.of_looks fun M => ?_
      rw [e1]
      exact looks_items X lT oT (.of_pure e2)
    · rw [pick_length (by rw [l1, List.length_append, l2]; exact ho), hl]
/-- the same where keyword-only ones lack -/
theorem Bd.posk {dds : List D} (F : FunD K x qual params body scope dvs kws f fd) (n : Nat) (ks : List Str) (ms : List (Str × V)) (ix : List (Bool × Nat)) (hd : dvs ≠ []) (hk : kws ≠ []) (hms : ∀ q ∈ ms, q ∈ kws) (hf : Flats (dvs ++ ms.map (·.2)) dds) (hl : ix.length = ps.length) (ho : ixOk n (ks.length + (dvs.length + ms.length)) ix = true)
    (h : ∀ (T D : Addr) (doc pm : Value) (an : Option Addr) (cdv ct : Value) (us ws its mv : List Value), us.length = n → ws.length = ks.length → its.length = dvs.length → mv.length = ms.length →
      ∃ k, bindArgs (PySem.W.fnOf x qual params body scope (.ref T) (.ref D) doc pm an cdv ct) ⟨us, ks.zip ws⟩ = seqItems? (.ref T) >>= k ∧ KwChain D ((ms.map (·.1)).zip mv) (k (some its.toArray)) (ps.zip (DL.pick ix us (ws ++ (its ++ mv))))) : Bd K fd ps n ks (fun xs zs => DL.pick ix xs (zs ++ dds.map R.val)) := by
  obtain ⟨oc, od, dV, kV, doc, pm, an, cdv, ct, osl, rfl, lk, hcd, hD, hK⟩ := F.ex
  rcases hD with ⟨e, _⟩ | ⟨_, T, o, its, m, rfl, lT, oT, rT⟩
  · exact absurd e hd
  · rcases hK with e | ⟨D, rfl, hq⟩
    · exact absurd e hk
    · obtain ⟨mv, hl2, rk, hks⟩ := kwd_vals (ms := ms) fun q hm => hq q (hms q hm)
      have l3 : its.length = dvs.length := rT.length.symm
      refine ⟨fun us ws => DL.pick ix us (ws ++ (its ++ mv)), fun vs zs => DL.pick ix vs (zs ++ (dvs ++ ms.map (·.2))), ⟨fun s us ws X l1 l2 => ?_, fun r q => pick_vals r (q.append (rT.append rk)) ix⟩, fun vs zs l1 l2 => ?_, fun F s xs vs zs ws t q _ _ => pick_rts t (q.append hf.rts) ix⟩
      · obtain ⟨k, e1, e2⟩ := h T D doc pm an cdv ct us ws its mv l1 l2 l3 hl2
        refine BindsTo.of_looks fun M => ?_
        rw [e1]
        exact looks_items X lT oT (KwChain.looks X hks e2)
      · rw [pick_length (by rw [l1, List.length_append, l2, List.length_append, List.length_map]; exact ho), hl]
end
end DL
namespace DL
open PySem L2 PyProof.Rows
section
variable {X : Cx}
/-! ### max(xs, default=d) of ints -/
theorem maxOf_int : ∀ (ys : List Int) (y : Int), PySem.W.maxOf y ys ∈ y :: ys ∧ ∀ z ∈ y :: ys, z ≤ PySem.W.maxOf y ys := by
  intro ys
  induction ys with
  | nil => intro y; exact ⟨List.mem_cons_self, fun z hz => by rw [List.mem_singleton.mp hz]; exact Int.le_refl _⟩
  | cons a ys ih =>
    intro y
    have e : PySem.W.maxOf y (a :: ys) = PySem.W.maxOf (if y < a then a else y) ys := by
      show List.foldl _ _ _ = List.foldl _ _ _
      rw [List.foldl_cons]
      congr 1
      by_cases h : y < a
      · rw [if_pos h, if_pos (show (PySem.W.DatumOrd.lt y a) = true from decide_eq_true h)]
      · rw [if_neg h, if_neg (show ¬ (PySem.W.DatumOrd.lt y a) = true from fun q => h (of_decide_eq_true q))]
    rw [e]
    obtain ⟨h1, h2⟩ := ih (if y < a then a else y)
    generalize PySem.W.maxOf (if y < a then a else y) ys = M at *
    constructor
    · rcases List.mem_cons.mp h1 with h | h
      · rw [h]; split <;> simp
      · exact List.mem_cons_of_mem _ (List.mem_cons_of_mem _ h)
    · intro z hz
      have h3 := h2 _ List.mem_cons_self
      rcases List.mem_cons.mp hz with rfl | hz
      · split at h3 <;> omega
      · rcases List.mem_cons.mp hz with rfl | hz
        · split at h3 <;> omega
        · exact h2 z (List.mem_cons_of_mem _ hz)
def rMaxK (K : Fg) : List V → List V → Hp → VK → Prop := fun xs zs H Q => ∃ (a : Addr) (ns : List Int) (d : Int), xs = [.ref a] ∧ zs = [.int d] ∧ SqL K H a (ns.map V.int) ∧ ∀ m, (ns = [] → m = d) → (ns ≠ [] → m ∈ ns ∧ ∀ y ∈ ns, y ≤ m) → Q (.int m) H
theorem cr_maxK (hc : X.calm = true) (hu : X.A.units + 66 < cLine) : CallRK X (.builtin "max") [Str.ofString "default"] (rMaxK X.K) := by
  intro pins s σ H xs zs us ws Q I r1 r2 h
  obtain ⟨a, ns, d, rfl, rfl, hs, q⟩ := h
  rw [Vals.ref1 r1]
  obtain ⟨u, rfl, ru⟩ := vals1 r2
  obtain ⟨its, rv, hl, _⟩ := I.list hs
  have ii := rv.ints
  refine PySem.W.max_list_datum_default (α := Int) (xs := ns) (I.ok.hd hc) hl.isList (by simpa using PySem.W.HoldAll.of_ints ii) (by show X.A.units + 1 + _ < _; have : PySem.W.Datum.depth Int = 0 := rfl; omega) (fun e h' tk hk => ?_) fun y ys i v h' tk e hi hv hk => ?_
  · exact ⟨.int d, H, I.kept hk, ru, q d (fun _ => rfl) (fun z => absurd e z)⟩
  · have this := maxOf_int ys y
    generalize PySem.W.maxOf y ys = M at *
    obtain ⟨bs, rd⟩ := hv
    have rd' : Reads h' v (.int M) bs := rd
    obtain ⟨t, rfl⟩ : ∃ t, v = Value.int M t := by cases rd'; exact ⟨_, rfl⟩
    exact ⟨.int _, H, I.kept hk, ⟨t, rfl⟩, q _ (fun z => by rw [e] at z; cases z) fun _ => by rw [e]; exact this⟩
def maxDf (d : Int) (ns : List Int) : Int := match ns with
  | [] => d
  | n :: r => maxI (n :: r)
theorem maxDf_of {d m : Int} {ns : List Int} (h0 : ns = [] → m = d) (h1 : ns ≠ [] → m ∈ ns ∧ ∀ y ∈ ns, y ≤ m) : m = maxDf d ns := by
  cases ns with
  | nil => exact h0 rfl
  | cons n r =>
    obtain ⟨a, b⟩ := h1 (by simp)
    obtain ⟨g1, g2⟩ := maxI_mem (ns := n :: r) (by simp)
    exact Int.le_antisymm (g2 m a) (b _ g1)
def KMaxK (P : Po) (x z : R) (r : Rho) : Prop := onO (look r x) fun d => onO (ltOf d) fun ds => onO (intsOf ds) fun ns => onO (look r z) fun d' => onO (itOf d') fun k => P (.val (.int (maxDf k ns))) r
def mMaxK (ma mb : ME) : ME := fun r P => ma r fun x r1 => mb r1 fun z r2 => KMaxK P x.tmp z.tmp r2
theorem de_maxK {a b : Expr} {ma mb : ME} {p pos kp : Pos} (hc : X.calm = true) (hu : X.A.units + 66 < cLine) (hg : Gl X "max") (hm : X.mg "max" = none) (ha : DA X [a] (aCons ma aNil)) (hb : TAk X [⟨some (Str.ofString "default"), b, kp⟩] (aCons mb aNil))
    (he : backTo pos (starEach [a] X.env) = (false, eval a X.env) :: backTo pos (starEach [] X.env) := by rfl) (hpl : (backTo pos (starEach [a] X.env)).any (·.1) = false := by rfl)
    (hall : (backToKw pos (keywordEach [⟨some (Str.ofString "default"), b, kp⟩] X.env)).all (·.1.isSome) = true := by rfl) (hnone : (backToKw pos (keywordEach [⟨some (Str.ofString "default"), b, kp⟩] X.env)).any (·.1.isNone) = false := by rfl) (hks : (backToKw pos (keywordEach [⟨some (Str.ofString "default"), b, kp⟩] X.env)).filterMap (·.1) = [Str.ofString "default"] := by rfl) :
    DE X (.Call (.Name "max" p) [a] [⟨some (Str.ofString "default"), b, kp⟩] pos) (mMaxK ma mb) := fun e => by
  refine PE.imp (pe_callBK (cr_maxK hc hu) hg hm (by rfl) (ha e) (hb e) (he := he) (hpl := hpl) (hall := hall) (hnone := hnone) (hks := hks)) fun s H Q ⟨F, r, k, P, hm, hP⟩ => ?_
  refine ⟨F, r, k, fun xs r1 => match xs with | [x] => mb r1 fun z r2 => KMaxK P x z.tmp r2 | _ => False, hm, fun xs r1 vs F1 H1 hx k1 q1 t1 => ?_⟩
  dsimp only at hx
  split at hx
  · rename_i x
    refine ⟨F1, r1, k1, fun zs r2 => match zs with | [z] => KMaxK P x z r2 | _ => False, hx, fun zs r2 ws F2 H2 hz k2 q2 t2 => ?_⟩
    dsimp only at hz
    split at hz
    · rename_i z
      obtain ⟨d, e1, h1⟩ := onO.ex hz
      obtain ⟨ds, e2, h2⟩ := onO.ex h1
      obtain ⟨ns, e3, h3⟩ := onO.ex h2
      obtain ⟨d', e4, h4⟩ := onO.ex h3
      obtain ⟨kk, e5, h5⟩ := onO.ex h4
      have z1 := ltOf_of e2
      subst z1
      cases t1 with
      | cons a1 b1 =>
        cases b1
        cases t2 with
        | cons a2 b2 =>
          cases b2
          obtain ⟨l, xs, rfl, g1, g2⟩ := ((a1.mono q2).look k2 e1).lst k2.sub
          have ex := g2.ints e3
          subst ex
          have lk := a2.look k2 e4
          have z2 := itOf_of e5
          subst z2
          rw [lk.int]
          refine ⟨l, ns, kk, rfl, rfl, .inl g1, fun m h0 h1 => ?_⟩
          rw [maxDf_of h0 h1]
          exact hP _ r2 _ F2 H2 h5 k2 (q1.trans q2) (.val (.int _))
    · exact hz.elim
  · exact hx.elim
/-! ### xs.index(y) -/
def ixOf (y : D) : List D → Option Nat
  | [] => none
  | d :: ds => if PyData.eqv d y = true then some 0 else (ixOf y ds).map (· + 1)
theorem ixOf_spec (y : D) : ∀ {ds : List D} {j : Nat}, ixOf y ds = some j → (∃ z, ds[j]? = some z ∧ PyData.eqv z y = true) ∧ ∀ (m : Nat) z, m < j → ds[m]? = some z → PyData.eqv z y = false
  | [], j, h => by cases h
  | d :: ds, j, h => by
    rw [ixOf] at h
    split at h
    · rename_i e
      cases h
      exact ⟨⟨d, rfl, e⟩, fun m z hm => by omega⟩
    · rename_i e
      cases q : ixOf y ds with
      | none => rw [q] at h; cases h
      | some i =>
        rw [q] at h
        have h : i + 1 = j := Option.some.inj h
        subst h
        obtain ⟨⟨z, g1, g2⟩, g3⟩ := ixOf_spec y q
        refine ⟨⟨z, by simpa using g1, g2⟩, fun m z' hm hz => ?_⟩
        cases m with
        | zero => simp at hz; subst hz; simpa using e
        | succ m => exact g3 m z' (by omega) (by simpa using hz)
def KIndex (P : Po) (x y : R) (r : Rho) : Prop := onO (look r x) fun d => onO (ltOf d) fun ds => onO (look r y) fun d' => rqB (flatD d' && ds.all flatD) (onO (ixOf d' ds) fun j => P (.val (.int (j : Nat))) r)
def mIndex (ma mb : ME) : ME := fun r P => ma r fun x r1 => onO (look r1 x.tmp) fun d => onO (ltOf d) fun _ => mb r1 fun y r2 => KIndex P x.tmp y.tmp r2
theorem de_index {a b : Expr} {ma mb : ME} {apos pos : Pos} (ho : DE X a ma) (hb : DA X [b] (aCons mb aNil))
    (hbase : attributeBase a "index" X.env (eval a X.env) = eval a X.env := by rfl)
    (hfew : ((backTo pos (starEach [b] X.env)).all (fun x => !x.1) && (backToKw pos (keywordEach [] X.env)).all (fun x => x.1.isSome) && decide ([b].length + ([] : List Keyword).length + (if ([] : List Keyword).isEmpty then 0 else 1) < 30)) = true := by rfl)
    (hline : (apos.endLine == pos.line) = true := by rfl) (hs : starEach [b] X.env = (false, eval b X.env) :: starEach [] X.env := by rfl) (hplain : (backTo pos (starEach [] X.env)).any (·.1) = false := by rfl) : DE X (.Call (.Attribute a "index" apos) [b] [] pos) (mIndex ma mb) := fun e => by
  refine PE.imp (pe_bm PySem.F.plainAttrs_list PySem.F.slot_list_index PySem.F.type_list_index mt_index (ho.tmp e) (hb e) hbase hfew hline hs hplain) fun s H Q ⟨F, r, k, P, hm, hP⟩ => ?_
  refine ⟨F, r, k, fun x r1 => onO (look r1 x) fun d => onO (ltOf d) fun _ => mb r1 fun y r2 => KIndex P x y.tmp r2, hm, fun x r1 v F1 H1 hx k1 q1 t1 => ?_⟩
  obtain ⟨d, e1, h1⟩ := onO.ex hx
  obtain ⟨ds, e2, h2⟩ := onO.ex h1
  have z1 := ltOf_of e2
  subst z1
  obtain ⟨l, xs, rfl, g1, g2⟩ := (t1.look k1 e1).lst k1.sub
  refine ⟨.inl ⟨rfl, xs, .inl g1⟩, F1, r1, k1, fun ys r2 => match ys with | [y] => KIndex P x y r2 | _ => False, h2, fun ys r2 ws F2 H2 hy k2 q2 t2 => ?_⟩
  dsimp only at hy
  split at hy
  · rename_i y
    obtain ⟨d', f1, p1⟩ := onO.ex hy
    obtain ⟨ds', f2, p2⟩ := onO.ex p1
    obtain ⟨dy, f3, p3⟩ := onO.ex p2
    obtain ⟨f4, p4⟩ := rqB.ex p3
    obtain ⟨j, f5, p5⟩ := onO.ex p4
    have z2 := ltOf_of f2
    subst z2
    rw [Bool.and_eq_true] at f4
    cases t2 with
    | cons a2 b2 =>
      cases b2
      obtain ⟨l', xs', el, g3, g4⟩ := ((t1.mono q2).look k2 f1).lst k2.sub
      cases el
      have ex := g4.flat f4.2
      subst ex
      have ly := (a2.look k2 f3).flat f4.1
      subst ly
      obtain ⟨⟨z, w1, w2⟩, w3⟩ := ixOf_spec dy f5
      have fz : ∀ (m : Nat) z, ds'[m]? = some z → flatD z = true := fun m z hz => List.all_eq_true.mp f4.2 z (List.mem_of_getElem? hz)
      refine ⟨l, _, _, j, toV z, rfl, rfl, .inl g3, flatV_toV _ f4.1, all_flatV _ f4.2, by rw [List.getElem?_map, w1]; rfl, by rw [eqV_toV _ _ (fz j z w1) f4.1]; exact w2, fun m z' hm hz => ?_, hP _ r2 _ F2 H2 p5 k2 (q1.trans q2) (.val (.int _))⟩
      rw [List.getElem?_map] at hz
      cases q : ds'[m]? with
      | none => rw [q] at hz; cases hz
      | some u =>
        rw [q] at hz
        cases hz
        rw [eqV_toV _ _ (fz m u q) f4.1]
        exact w3 m u hm q
  · exact hy.elim
end
end DL
namespace DL
open PySem L2 PyProof.Rows
section
variable {X : Cx} {a : Expr} {m : ME} {i : Nat}
/-- the box of slot i is held as a datum before -/
def fzR (r : Rho) (i : Nat) : Rho := match r[i]? with
  | some (some (.box false b)) => r.set i (some (.val b.toD))
  | _ => r
def mFz (i : Nat) (m : ME) : ME := fun r P => strict (fzR r i) fun r' => m r' P
theorem de_fz (h : DE X a m) : DE X a (mFz i m) := fun e => PE.imp (h e) fun s H Q ⟨F, r, k, P, hm, hP⟩ => by
  have hm := strict.ex hm
  unfold fzR at hm
  split at hm
  · rename_i b z
    obtain ⟨F', v, k', q, _, _⟩ := k.freezeBox z
    exact ⟨F', _, k', P, hm, fun x r' v F2 H2 hx k2 q2 t => hP x r' v F2 H2 hx k2 (q.trans q2) t⟩
  · exact ⟨F, r, k, P, hm, hP⟩
end
theorem range_cons (lo : Int) (n : Nat) : rangeD lo (n + 1) = .int lo :: rangeD (lo + 1) n := by
  unfold rangeD
  rw [List.range_succ_eq_map, List.map_cons, List.map_map]
  simp only [List.cons.injEq, List.map_inj_left, Function.comp]
  refine ⟨by simp, fun a _ => ?_⟩
  congr 1
  omega
end DL
namespace DL
open PySem L2 PyProof.Rows PpSet
/-! ### sets of texts whose order may be walked -/
def GoodT (w : World) (e : Int × Value) : Prop := ∃ x tk, e.2 = Value.str x tk ∧ e.1 = hashStr w x
def tOf (e : Int × Value) : Str := match e.2 with
  | .str x _ => x
  | _ => ⟨#[]⟩
def SetT (w : World) (h : Heap) (a : Addr) (S : Str → Bool) (n : Nat) : Prop :=
  ∃ o es ep t, h.get? a = some o ∧ o.ExactSet ∧ o.data = .set es ep t ∧ (∀ e ∈ es.toList, GoodT w e) ∧ (es.toList.map tOf).Nodup ∧ (∀ k, S k = true ↔ k ∈ es.toList.map tOf) ∧
    es.size < scanBound ∧ t.fits es.size = true ∧ es.size = n ∧ Ris t.place.toList ∧ (w.params.followText "set-order" = true ∨ t.led = true)
section
variable {P : Program} {w : World} {h h' : Heap} {a : Addr} {S : Str → Bool} {n : Nat}
theorem SetT.at (R : SetT w h a S n) (k : ∀ o, h.get? a = some o → h'.get? a = some o) : SetT w h' a S n := by
  obtain ⟨o, es, ep, t, ho, r⟩ := R
  exact ⟨o, es, ep, t, k o ho, r⟩
theorem SetT.congr {S' : Str → Bool} {n' : Nat} (R : SetT w h a S n) (e : ∀ k, S' k = S k) (en : n' = n) : SetT w h a S' n' := by
  have q : S' = S := funext e
  rw [q, en]; exact R
theorem goodT_elems {l : List (Int × Value)} (g : ∀ e ∈ l, GoodT w e) : ElemsOf (mixKind P w) l := fun e he => by
  obtain ⟨x, tk, h1, h2⟩ := g e he
  exact ⟨⟨.inr x, by rw [h1]; exact mixKind_str P w x tk, h2⟩, by rw [h1] <;> rfl⟩
theorem goodT_is {e : Int × Value} (g : GoodT w e) (k : Str) : (mixKind P w).is (.inr k) e.2 = true ↔ tOf e = k := by
  obtain ⟨x, tk, h1, _⟩ := g
  unfold tOf
  rw [h1]
  show (Value.isStrOf k (.str x tk) = true) ↔ x = k
  constructor
  · intro q
    rcases keyIs_shape (k := .inr k) (v := .str x tk) q with ⟨i, t, e1, _⟩ | ⟨y, t, e1, e2⟩
    · cases e1
    · cases e1; cases e2; rfl
  · intro q
    rw [q]; exact mixKind_str P w k tk
theorem goodT_mem {l : List (Int × Value)} (g : ∀ e ∈ l, GoodT w e) (k : Str) : k ∈ l.map tOf ↔ ∃ e ∈ l, (mixKind P w).is (.inr k) e.2 = true := by
  rw [List.mem_map]
  constructor
  · rintro ⟨e, he, q⟩
    exact ⟨e, he, (goodT_is (g e he) k).2 q⟩
  · rintro ⟨e, he, q⟩
    exact ⟨e, he, (goodT_is (g e he) k).1 q⟩
end
section
variable {P : Program} {w : World} {A : Around} {E : Value → Shared → Prop} {s : Shared} {a : Addr} {S : Str → Bool} {n : Nat}
theorem setT_add_tail {g : Bool → Sem Unit} (hg : ∀ (b : Bool) (s₁ : Shared) (Q' : Unit → Shared → Prop), Q' () s₁ → wpAny (model P w) A (g b) Q' E s₁)
    {o : Obj} {es : Array (Int × Value)} {ep : Nat} {t : SetTable} (ho : s.heap.get? a = some o) (hex : o.ExactSet) (hd : o.data = .set es ep t)
    {es1 : Array (Int × Value)} {t2 : SetTable} {S' : Str → Bool} (g1 : ∀ e ∈ es1.toList, GoodT w e) (nd1 : (es1.toList.map tOf).Nodup) (m1 : ∀ k, S' k = true ↔ k ∈ es1.toList.map tOf)
    (hb1 : es1.size < scanBound) (hf2 : t2.fits es1.size = true) (hr : Ris t2.place.toList) (hl : w.params.followText "set-order" = true ∨ t2.led = true) {wasDummy : Bool} {R : Option Bool → Shared → Prop}
    (hR : ∀ h', Heap.SameBut a s.heap h' → SetT w h' a S' es1.size → R (some true) { s with heap := h' }) :
    wpAny (model P w) A (do
        storeSet a es1 t2
        if (!wasDummy && t2.tooFull) = true then do
            g (relayAll t2 es1 (SetTable.grown es1.size)).2.2
            storeSet a (relayAll t2 es1 (SetTable.grown es1.size)).1 (relayAll t2 es1 (SetTable.grown es1.size)).2.1
            pure (some true)
          else pure (some true)) R E s := by
  refine wpAny_bind (wpAny_storeSet_of ho hd ?_ (fits_of_scanBound hb1))
  have ho1 := store_at (es' := es1) (t' := t2) ho hd
  have sb1 := Heap.SameBut.update s.heap a (Obj.putSet es1 t2)
  split
  · have pm := relayAll_perm t2 es1 (SetTable.grown es1.size)
    have hf3 := relayAll_fits t2 es1 (SetTable.grown es1.size)
    have hr3 := relayAll_ris t2 es1 (SetTable.grown es1.size)
    have hl3 := relayAll_led t2 es1 (SetTable.grown es1.size)
    generalize relayAll t2 es1 (SetTable.grown es1.size) = Z at pm hf3 hr3 hl3 ⊢
    obtain ⟨es2, t3, gave⟩ := Z
    dsimp only at pm hf3 hr3 hl3 ⊢
    have hsz : es2.size = es1.size := by rw [← Array.length_toList, pm.length_eq, Array.length_toList]
    have hb2 : es2.size < scanBound := by rw [hsz]; exact hb1
    refine wpAny_bind (hg _ _ _ ?_)
    refine wpAny_bind (wpAny_storeSet_of ho1 rfl ?_ (fits_of_scanBound hb2))
    have ho2 := store_at (es' := es2) (t' := t3) ho1 rfl
    refine wpAny_pure (hR _ (sb1.trans (Heap.SameBut.update _ a _)) ?_)
    exact ⟨_, es2, _, t3, ho2, hex, rfl, fun e he => g1 e (pm.mem_iff.mp he), (pm.map tOf).nodup_iff.mpr nd1, fun k => (m1 k).trans (pm.map tOf).mem_iff.symm, hb2, hf3, hsz, hr3,
      hl.imp id fun z => by rw [hl3]; exact z⟩
  · exact wpAny_pure (hR _ sb1 ⟨_, es1, _, t2, ho1, hex, rfl, g1, nd1, m1, hb1, hf2, rfl, hr, hl⟩)
theorem setT_add_hashed {k : Str} {tk : Tok} {Q : Bool → Shared → Prop} (R : SetT w s.heap a S n) (room : n + 1 < scanBound)
    (hQ : ∀ h', Heap.SameBut a s.heap h' → SetT w h' a (fun j => S j || decide (j = k)) (if S k = true then n else n + 1) → Q (!S k) { s with heap := h' }) :
    wpAny (model P w) A (setAddHashed a (.str k tk) ((mixKind P w).hash (.inr k))) Q E s := by
  obtain ⟨o, es, ep, t, ho, hex, hd, g, nd, hm, hb, hf, hn, hr, hl⟩ := R
  have hkey : (mixKind P w).is (.inr k) (.str k tk) = true := mixKind_str P w k tk
  have hsc : (Value.str k tk).scannable = true := rfl
  have hel : ElemsOf (mixKind P w) es.toList := goodT_elems g
  unfold setAddHashed setAddHashedIn
  refine wpAny_holding (wpAny_bind (wpAny_setState_of ho hd hf ?_))
  dsimp only
  rw [byScan_of hsc hb hel]
  simp only [↓reduceIte]
  unfold setAddByScan
  refine wpAny_bind ?_
  refine wpAny_bind (wpAny_rule ?_)
  refine wpAny_bind (wpAny_setScan_of hkey ho hd hf hel ?_)
  cases hfi : List.findIdx? (fun e => (mixKind P w).is (.inr k) e.2) es.toList with
  | some j =>
    dsimp only
    obtain ⟨hj, pj, _⟩ := List.findIdx?_eq_some_iff_getElem.mp hfi
    have hSk : S k = true := (hm k).2 ((goodT_mem (P := P) (w := w) g k).2 ⟨es.toList[j], List.getElem_mem hj, pj⟩)
    refine wpAny_pure (wpAny_pure ?_)
    have q := hQ s.heap (Heap.SameBut.refl a s.heap) ⟨o, es, ep, t, ho, hex, hd, g, nd, fun i => by
      rw [Bool.or_eq_true, decide_eq_true_eq, ← hm i]
      exact ⟨fun z => z.elim id (fun e => e ▸ hSk), .inl⟩, hb, hf, by rw [if_pos hSk]; exact hn, hr, hl⟩
    rw [hSk] at q
    exact q
  | none =>
    dsimp only
    have hnk : k ∉ es.toList.map tOf := fun z => by
      obtain ⟨e, he, q⟩ := (goodT_mem (P := P) (w := w) g k).1 z
      have c := List.findIdx?_eq_none_iff.mp hfi e he
      rw [q] at c
      cases c
    have hSk : S k = false := by
      cases q : S k with
      | false => rfl
      | true => exact absurd ((hm k).1 q) hnk
    have hgw : ∀ (b : Bool) {s₁ : Shared} {Q' : Unit → Shared → Prop}, Q' () s₁ → wpAny (model P w) A (match b with | true => rule "set.scan.the-table-gave-way" | false => pure ()) Q' E s₁ :=
      fun b s₁ Q' q => by cases b <;> first | exact wpAny_pure q | exact wpAny_rule q
    have pm := layNew_perm t es ((mixKind P w).hash (.inr k)) (.str k tk)
    have hf1 := layNew_fits t es ((mixKind P w).hash (.inr k)) (.str k tk)
    have hr1 := layNew_ris t es ((mixKind P w).hash (.inr k)) (.str k tk) hr
    have hl1 := layNew_led t es ((mixKind P w).hash (.inr k)) (.str k tk)
    generalize layNew t es ((mixKind P w).hash (.inr k)) (.str k tk) = Z at pm hf1 hr1 hl1 ⊢
    obtain ⟨es1, t1, wasDummy, gave⟩ := Z
    dsimp only at pm hf1 hr1 hl1 ⊢
    rw [Array.toList_push] at pm
    have pc : es1.toList.Perm (((mixKind P w).hash (.inr k), Value.str k tk) :: es.toList) := pm.trans (List.perm_append_singleton _ _)
    have pk : (es1.toList.map tOf).Perm (k :: es.toList.map tOf) := pc.map tOf
    have g1 : ∀ e ∈ es1.toList, GoodT w e := fun e he => by
      rcases List.mem_cons.mp (pc.mem_iff.mp he) with z | z
      · rw [z]; exact ⟨k, tk, rfl, rfl⟩
      · exact g e z
    have nd1 : (es1.toList.map tOf).Nodup := pk.nodup_iff.mpr (List.nodup_cons.mpr ⟨hnk, nd⟩)
    have m1 : ∀ i, (S i || decide (i = k)) = true ↔ i ∈ es1.toList.map tOf := fun i => by
      rw [Bool.or_eq_true, decide_eq_true_eq, hm i, pk.mem_iff, List.mem_cons]
      exact Or.comm
    have hsz : es1.size = n + 1 := by rw [← Array.length_toList, pc.length_eq, List.length_cons, Array.length_toList, hn]
    have hb1 : es1.size < scanBound := by rw [hsz]; exact room
    have hled : w.params.followText "set-order" = true ∨ t1.led = true := hl.imp id fun z => by rw [hl1]; exact z
    have fin : ∀ h', Heap.SameBut a s.heap h' → SetT w h' a (fun j => S j || decide (j = k)) es1.size → Q true { s with heap := h' } := fun h' sb r => by
      have q := hQ h' sb
      rw [hSk] at q
      rw [hsz] at r
      exact q r
    refine wpAny_bind (hgw _ ?_)
    split
    · refine wpAny_bind ?_
      rw [hashByValue_scannable 8 hsc]
      refine wpAny_pure ?_
      refine setT_add_tail ?_ ho hex hd g1 nd1 m1 hb1 ?_ ?_ ?_ ?_
      · intro b s₁ Q' q; cases b <;> first | exact wpAny_pure q | exact wpAny_rule q
      · first | (split <;> first | exact hf1 | exact SetTable.fits_plain_off hf1) | exact hf1
      · first | (split <;> exact hr1) | exact hr1
      · first | (split <;> exact hled) | exact hled
      · intro h' sb r; dsimp only; exact wpAny_pure (fin h' sb r)
    · refine wpAny_bind (wpAny_pure ?_)
      simp only [↓reduceIte]
      refine setT_add_tail ?_ ho hex hd g1 nd1 m1 hb1 hf1 hr1 hled ?_
      · intro b s₁ Q' q; cases b <;> first | exact wpAny_pure q | exact wpAny_rule q
      · intro h' sb r; dsimp only; exact wpAny_pure (fin h' sb r)
end
end DL
namespace DL
open PySem L2 PyProof.Rows PpSet
/-! ### set(text) -/
def oneT (c : Nat) : Str := ⟨#[c]⟩
def inT (l : List Nat) : Str → Bool := fun k => l.any fun c => decide (oneT c = k)
theorem inT_snoc (l : List Nat) (c : Nat) (k : Str) : inT (l ++ [c]) k = (inT l k || decide (k = oneT c)) := by
  unfold inT
  rw [List.any_append]
  simp only [List.any_cons, List.any_nil, Bool.or_false]
  congr 1
  by_cases h : oneT c = k
  · rw [decide_eq_true h, decide_eq_true h.symm]
  · rw [decide_eq_false h, decide_eq_false fun q => h q.symm]
section
variable {prog : Program} {w : World} {A : Around} {R : Result → Shared → Prop} {I : Addr} {fp wr : List Addr} {G : Array GenState → Array GenState → Prop} {n : Nat} {St : Nat → Shared → Prop} {x : Str}
theorem tloop (W : WalksS prog w A.in1 I fp wr G n (SignAt x) St) (Z : Addr) (zf : Z ∉ fp) (kz : x.cps.size = n) (kb : n + 1 < scanBound) :
    ∀ (left i : Nat) (s : Shared), n - i = left → i ≤ n → St i s →
      (∃ m, m ≤ i ∧ SetT w s.heap Z (inT (x.cps.toList.take i)) m) →
      (∀ s' m, Moved (Z :: wr) G s s' → m ≤ n → SetT w s'.heap Z (inT x.cps.toList) m → R (.ok (.ret .none)) s') →
      codeAny (model prog w) A (.builtin "set.update.loop" ⟨[.ref Z, .ref I], []⟩) R s := by
  have zw : Z ∉ wr := fun q => zf (W.sub _ q)
  have up : ∀ b ∈ wr, b ∈ Z :: wr := fun b q => List.mem_cons_of_mem _ q
  intro left
  induction left with
  | zero =>
    intro i s e1 e2 st zs fin
    obtain rfl : i = n := by omega
    obtain ⟨m, hm, zs⟩ := zs
    rw [List.take_of_length_le (by rw [Array.length_toList]; omega)] at zs
    refine codeAny_builtin PyProof.Rows.F.entry_set_update_loop ?_
    rw [Around.under_plainId PyProof.Rows.F.plain_set_update_loop _]
    show wpAny _ A.in1 (pyNext (.ref I) >>= _) _ _ s
    refine wpAny_bind (W.done s _ _ st fun s' mv => ?_)
    show wpAny _ A.in1 (ret Value.none) _ _ s'
    exact wpAny_pure (fin s' m (mv.mono up) hm (zs.at fun o ho => mv.heap Z _ zw ho))
  | succ left ih =>
    intro i s e1 e2 st zs fin
    have il : i < n := by omega
    obtain ⟨m, hm, zs⟩ := zs
    refine codeAny_builtin PyProof.Rows.F.entry_set_update_loop ?_
    rw [Around.under_plainId PyProof.Rows.F.plain_set_update_loop _]
    show wpAny _ A.in1 (pyNext (.ref I) >>= _) _ _ s
    refine wpAny_bind (W.item i s _ _ il st fun v s' pv st' mv => ?_)
    obtain ⟨c, u, ec, rfl⟩ := pv
    have zs' := zs.at (h' := s'.heap) fun o ho => mv.heap Z _ zw ho
    show wpAny _ A.in1 (holding [Value.str (oneT c) u] (setAdd Z (Value.str (oneT c) u)) >>= _) _ _ s'
    refine wpAny_bind (wpAny_holding ?_)
    unfold setAdd
    refine wpAny_holding ?_
    refine wpAny_bind ((mixKind prog w).pyHash (k := .inr (oneT c)) (mixKind_str prog w (oneT c) u) ?_)
    refine setT_add_hashed (P := prog) (s := { s' with toks := s'.toks + 1 }) zs' (by omega) fun h' sb z2 => ?_
    have et : x.cps.toList.take (i + 1) = x.cps.toList.take i ++ [c] := by
      rw [List.take_add_one, Array.getElem?_toList, ec]; rfl
    refine wpAny_pure ⟨plainId_quiet PyProof.Rows.F.plain_set_update_loop _, ih (i + 1) _ (by omega) il (W.frame _ s' _ _ st' (Nat.le_succ _) fun b q o e => ?_) ⟨_, ?_, z2.congr (fun k => by rw [et, inT_snoc]) rfl⟩ fun s'' m' mv' hm' z3 => ?_⟩
    · rw [sb.2 b (fun y : b = Z => zf (by rw [← y]; exact q))]; exact e
    · split <;> omega
    · refine fin s'' m' (Moved.trans W.gtrans ((mv.mono up).then_heap (Nat.le_succ _) fun b o q e => ?_) mv') hm' z3
      rw [sb.2 b (fun y : b = Z => q (by rw [y]; exact List.mem_cons_self))]; exact e
end
section
variable {prog : Program} {w : World} {A : Around} {E : Value → Shared → Prop} {s : Shared}
abbrev frL (w : World) : Obj := { cls := .type "set", dict := none, data := .set #[] 0 (.fresh 0 0 (!w.params.followText "set-order")) }
theorem setT_new {h : Heap} {a : Addr} (e : h.get? a = some (frL w)) : SetT w h a (inT []) 0 :=
  ⟨_, #[], 0, _, e, ⟨rfl, rfl, rfl⟩, rfl, (fun e he => by simp at he), (by simp), (fun k => by simp [inT]), (by decide), (by rfl), rfl, (by show Ris _; exact List.Pairwise.nil), by
    cases q : w.params.followText "set-order" with
    | true => exact .inl rfl
    | false => exact .inr rfl⟩
theorem set_of_text {x : Str} {u : Tok} {Q : Value → Shared → Prop} (nh : A.handled = none) (kb : x.length + 1 < scanBound)
    (h : ∀ (h' : Heap) (tk m : Nat), m ≤ x.length → SetT w h' s.heap.objs.size (inT x.cps.toList) m →
      (∀ b o, b < s.heap.objs.size → s.heap.get? b = some o → h'.get? b = some o) → Q (.ref s.heap.objs.size) { s with heap := h', toks := tk }) :
    wpAny (model prog w) A (call (.type "set") [.str x u]) Q E s := by
  obtain ⟨c, tl, mro⟩ := PySem.F.called_set.mro
  have made := PySem.F.called_set.made
  have sub := PySem.F.called_set.sub
  refine wpAny_call (codeAny_of_tree ?_)
  show wpAny _ _ (callAny (.type "set") _) _ _ _
  refine wpAny_pure ⟨Code.quiet_builtin _ (by decide +kernel), codeAny_builtin PySem.F.entry_type_call ?_⟩
  rw [Around.under_plain (weight_type_call_type "set" [.str x u] []) rfl]
  have f1 := PySem.F.called_set.notType
  have f2 := PySem.F.called_set.canCreate
  have f3 := PySem.F.typeCall_set_1 (.str x u)
  repeat (any_goals (first | assumption | wp_step))
  refine codeAny_mono (code_set_led1 (.str x u) (E := E) (Q₁ := fun z t => z = .ref s.heap.objs.size ∧ t = { s with heap := s.heap.push (frL w) }) ⟨rfl, rfl⟩) fun r t hr => ?_
  cases r with
  | error e => exact hr
  | ok fl =>
    cases fl with
    | ret z =>
      obtain ⟨rfl, rfl⟩ := hr
      have gz : (s.heap.push (frL w)).get? s.heap.objs.size = some (frL w) := Heap.get?_push_size _ rfl
      have tz : Shared.TypeIs { s with heap := s.heap.push (frL w) } (.ref s.heap.objs.size) "set" := ⟨_, gz, rfl⟩
      have f4 := PySem.F.called_set.init.lookup
      have f5 := PySem.F.called_set.init.bind (.ref s.heap.objs.size)
      repeat (any_goals (first | assumption | wp_step))
      refine codeAny_mono (codeAny_call_builtin (R := wants (fun r t => r = .none ∧ ∃ h' tk m, t = { s with heap := h', toks := tk } ∧ m ≤ x.length ∧
          SetT w h' s.heap.objs.size (inT x.cps.toList) m ∧
          (∀ b o, b < s.heap.objs.size → s.heap.get? b = some o → h'.get? b = some o)) E) PySem.F.called_set.init.plain PySem.F.entry_set_init (check_set_init_1 tz ?_)) fun r2 t2 hr2 => ?_
      · have f6 := PySem.F.sub_str_set
        have f7 := PySem.F.sub_str_frozenset
        have f8 : (Value.type "str" == Value.type "dict") = false := by decide
        unfold Builtin.«set.__init__» noKeywords Builtin.Frozenset.updateFrom
        generalize hPI : pyIter = PI
        wp_walk
        subst hPI
        refine wpAny_pyIter_str fun ob St hW hst => ?_
        refine wpAny_bind (wpAny_runValue ?_)
        have nh3 : A.in1.in1.in1.handled = none := by simp [nh]
        have nz : s.heap.objs.size ∉ [(s.heap.push (frL w)).objs.size] := by
          rw [Heap.size_push]; simp only [List.mem_singleton]
          exact Nat.ne_of_lt (Nat.lt_succ_self _)
        refine tloop ((hW _ nh3).toS) s.heap.objs.size nz rfl kb (x.cps.size - 0) 0 _ (by omega) (Nat.zero_le _) hst ⟨0, Nat.le_refl 0, setT_new (Heap.get?_push_of_some _ gz)⟩ ?_
        intro t3 m mv hm z3
        obtain ⟨h', g', d', tk', os'⟩ := t3
        have eg : g' = s.gens := mv.gens
        have ed : d' = s.drawn := mv.drawn
        have eo : os' = s.os := mv.os
        subst eg; subst ed; subst eo
        show wpAny _ _ _ _ _ _
        refine wpAny_pure ?_
        show wpAny _ _ (ret Value.none) _ _ _
        refine wpAny_pure ⟨rfl, h', tk', m, rfl, hm, z3, fun b o lb e => ?_⟩
        have n1 : b ≠ s.heap.objs.size := Nat.ne_of_lt lb
        have n2 : b ≠ (s.heap.push (frL w)).objs.size := by
          rw [Heap.size_push]; exact Nat.ne_of_lt (Nat.lt_succ_of_lt lb)
        exact mv.heap b o (by simp only [List.mem_cons, List.mem_singleton, List.not_mem_nil, or_false, not_or]; exact ⟨n1, n2⟩) (Heap.get?_push_of_some _ (Heap.get?_push_of_some _ e))
      · cases r2 with
        | error e => exact hr2
        | ok fl2 =>
          cases fl2 with
          | ret r =>
            obtain ⟨rfl, h', tk, m, rfl, hm, z3, k3⟩ := hr2
            repeat (any_goals (first | assumption | wp_step))
            exact h _ _ _ hm z3 k3
          | _ => exact hr2.elim
    | _ => exact hr.elim
end
end DL
namespace DL
open PySem L2 PyProof.Rows PpSet
/-! ### sorted(set(text)) -/
def ltTv (v u : Value) : Bool := decide ((strOf v).cps.toList < (strOf u).cps.toList)
theorem swo_text : SrtO.Swo ltTv := by
  refine ⟨fun x y h => ?_, fun x y z h1 h2 => ?_⟩
  · have a := of_decide_eq_true (p := (strOf x).cps.toList < (strOf y).cps.toList) h
    exact decide_eq_false (p := (strOf y).cps.toList < (strOf x).cps.toList) fun b => List.lt_irrefl _ (List.lt_trans a b)
  · have a := List.not_lt.mp (of_decide_eq_false (p := (strOf y).cps.toList < (strOf x).cps.toList) h1)
    have b := List.not_lt.mp (of_decide_eq_false (p := (strOf z).cps.toList < (strOf y).cps.toList) h2)
    exact decide_eq_false (p := (strOf z).cps.toList < (strOf x).cps.toList) (List.not_lt.mpr (List.le_trans a b))
section
variable {prog : Program} {w : World} {A : Around} {E : Value → Shared → Prop} {s : Shared}
theorem text_cmp {vs : List Value} {ss : List Str} (hI : StrsAre vs ss) : SrtO.Cmp prog w A s oneType' (fun p => p.1 ∈ vs) (SrtO.lt2 ltTv) := by
  intro p q hm hm'
  obtain ⟨a, t, e⟩ := hI.all _ hm
  obtain ⟨b, u, e'⟩ := hI.all _ hm'
  show wpAny (model prog w) A (keyLt' oneType' p.1 q.1) (fun r s' => s' = s ∧ r = ltTv p.1 q.1) (fun _ _ => False) s
  rw [e, e', keyLt'_oneType]
  exact oneLt_str ⟨rfl, rfl⟩
theorem text_sortable {a : Addr} {vs : List Value} {ss : List Str} (hI : StrsAre vs ss) (h2 : 2 ≤ vs.length) : SrtO.SortableO prog w A s a vs ltTv := by
  intro h' _
  refine ⟨oneType', fun Q E hq => ?_, text_cmp hI⟩
  match vs, hI, h2 with
  | v1 :: v2 :: rest, hI, _ =>
    rw [keyKind_strs hI]
    exact wpAny_pure hq
  | [], _, h => exact absurd h (by decide)
  | [v], _, h => exact absurd h (by simp)
theorem sorted_setT {a : Addr} {S : Str → Bool} {n : Nat} {Q : Value → Shared → Prop} (R : SetT w s.heap a S n) (hh : A.handled = none)
    (hQ : ∀ s' p (out : List Value) (c : Nat) (ys : List Str), (∀ b o, s.heap.get? b = some o → s'.heap.get? b = some o) → s'.gens = s.gens → s'.os = s.os → s.heap.objs.size ≤ p →
      s'.heap.get? p = some (seqObj "list" out.toArray c) → StrsAre out ys → ys.Pairwise (fun x y => x.cps.toList < y.cps.toList) → (∀ k, k ∈ ys ↔ S k = true) → ys.length = n → Q (.ref p) s') :
    wpAny (model prog w) A (call (.builtin "sorted") [.ref a]) Q E s := by
  obtain ⟨o, es, ep, t, ho, hex, hd, g, nd, hm, hb, hf, hn, hr, hl⟩ := R
  refine Calls.call_function_entry kind_sorted plain_sorted entry_sorted (args_sorted1 _) ?_
  unfold Builtin.«sorted»
  refine wpAny_bind (m := checkCount "sorted" 1 1 _) (wpAny_pure ?_)
  refine wpAny_bind (collect_set (A := A.in1) hh ⟨o, ho, hex.1, hd⟩ hf hb hr hl fun s1 vs k1 hz g1 o1 pm => ?_)
  have hvl : vs.length = n := by rw [pm.length_eq, List.length_map, Array.length_toList]; exact hn
  have hz2 : vs.length ≤ sizeLine := by rw [hvl, ← hn]; exact fits_of_scanBound hb
  have hI : StrsAre vs (vs.map strOf) := strsAre_map vs fun v hv => by
    obtain ⟨e, he, q⟩ := List.mem_map.mp (pm.mem_iff.mp hv)
    obtain ⟨x, tk, h1, _⟩ := g e he
    exact ⟨x, tk, by rw [← q]; exact h1⟩
  have pk : (vs.map strOf).Perm (es.toList.map tOf) := by
    have q := pm.map strOf
    rw [List.map_map] at q
    have e : (es.toList.map (strOf ∘ fun x => x.2)) = es.toList.map tOf := List.map_congr_left fun e he => by
      obtain ⟨x, tk, h1, _⟩ := g e he
      simp only [Function.comp, tOf, h1, strOf]
    rw [e] at q
    exact q
  refine wpAny_bind (wpAny_newList ?_ hz2)
  have hoL : (s1.heap.push (seqObj "list" vs.toArray 0)).get? s1.heap.objs.size = some (seqObj "list" vs.toArray 0) := Heap.get?_push_size _ rfl
  refine wpAny_bind (wpAny_holding (wpAny_call_entry slot_list_sort ⟨_, hoL, rfl⟩ entry_list_sort (SrtO.list_sort_ord swo_text hoL hz2 (fun h2 => text_sortable hI h2) fun out h1 h2 => ⟨_, rfl, ?_⟩) (args_list_sort _)))
  obtain ⟨c, hc⟩ := sortedHeap_at (vs := vs) (out := out.toArray) hoL
  have hI2 : StrsAre out (out.map strOf) := strsAre_map out fun v hv => hI.all v (h2.perm.mem_iff.mp hv)
  have pn : (out.map strOf).Perm (es.toList.map tOf) := (h2.perm.map strOf).trans pk
  have nd2 : (out.map strOf).Nodup := pn.nodup_iff.mpr nd
  refine wpAny_pure ⟨_, rfl, hQ _ s1.heap.objs.size out c (out.map strOf) (fun b u e => ?_) g1 o1 hz hc hI2 ?_ (fun k => by rw [pn.mem_iff, ← hm k]) ?_⟩
  · have q := k1 b u e
    have hlt := Heap.lt_size q
    show (sortedHeap (s1.heap.push (seqObj "list" vs.toArray 0)) s1.heap.objs.size vs out.toArray).get? b = some u
    rw [sortedHeap_old (Nat.ne_of_lt hlt) (by rw [size_push']; exact Nat.lt_succ_of_lt hlt)]
    exact Heap.get?_push_of_some _ q
  · have p1 : (out.map strOf).Pairwise (fun x y => ¬ y.cps.toList < x.cps.toList) := List.pairwise_map.mpr (h1.imp fun {x y} h => of_decide_eq_false (p := (strOf y).cps.toList < (strOf x).cps.toList) h)
    have p2 : (out.map strOf).Pairwise (fun x y => x ≠ y) := nd2
    refine (p1.and p2).imp fun {x y} h => ?_
    obtain ⟨h3, h4⟩ := h
    refine Classical.byContradiction fun h5 => h4 ?_
    have e : x.cps.toList = y.cps.toList := List.le_antisymm (List.not_lt.mp h3) (List.not_lt.mp h5)
    obtain ⟨a1⟩ := x
    obtain ⟨b1⟩ := y
    exact congrArg Str.mk (Array.ext' e)
  · rw [pn.length_eq, List.length_map, Array.length_toList]; exact hn
end
/-- the signs of a text, rising, each once -/
def Rsg (l ys : List Nat) : Prop := ys.Pairwise (· < ·) ∧ ∀ c, c ∈ ys ↔ c ∈ l
theorem ones_of {l : List Nat} : ∀ {ys : List Str}, (∀ k, k ∈ ys → inT l k = true) → ∃ cs : List Nat, ys = cs.map oneT
  | [], _ => ⟨[], rfl⟩
  | y :: ys, h => by
    obtain ⟨cs, e⟩ := ones_of (l := l) (ys := ys) fun k hk => h k (List.mem_cons_of_mem _ hk)
    have := h y List.mem_cons_self
    unfold inT at this
    obtain ⟨c, _, hc⟩ := List.any_eq_true.mp this
    exact ⟨c :: cs, by rw [e, ← of_decide_eq_true hc]; rfl⟩
theorem oneT_inj {a b : Nat} (h : oneT a = oneT b) : a = b := by
  unfold oneT at h
  simpa using h
theorem rsg_of {l : List Nat} {ys : List Str} (h1 : ys.Pairwise (fun x y => x.cps.toList < y.cps.toList)) (h2 : ∀ k, k ∈ ys ↔ inT l k = true) : ∃ cs, ys = cs.map oneT ∧ Rsg l cs := by
  obtain ⟨cs, rfl⟩ := ones_of (l := l) fun k hk => (h2 k).mp hk
  refine ⟨cs, rfl, ?_, fun c => ?_⟩
  · refine (List.pairwise_map.mp h1).imp fun {a b} h => ?_
    have h' : [a] < [b] := h
    rcases List.cons_lt_cons_iff.mp h' with h | ⟨_, h⟩
    · exact h
    · exact absurd h (List.lt_irrefl _)
  · have := h2 (oneT c)
    have e1 : oneT c ∈ cs.map oneT ↔ c ∈ cs := ⟨fun q => by
      obtain ⟨d, hd, e⟩ := List.mem_map.mp q
      rw [← oneT_inj e]; exact hd, fun q => List.mem_map_of_mem q⟩
    have e2 : inT l (oneT c) = true ↔ c ∈ l := by
      unfold inT
      rw [List.any_eq_true]
      exact ⟨fun ⟨d, hd, e⟩ => by rw [← oneT_inj (of_decide_eq_true e)]; exact hd, fun q => ⟨c, q, decide_eq_true rfl⟩⟩
    rw [← e1, this, e2]
theorem rsg_nil {l : List Nat} (ys : List Nat) (h : Rsg l ys) : (∀ c ∈ ys, c ∈ l) := fun c hc => (h.2 c).mp hc
section
variable {X : Cx}
/-- sorted(set(x)), x a text -/
def tSortSet (ta : TE) : TE := fun σ H Q => ta σ H fun x H1 => ∃ t : Str, x = .str t ∧ t.length ≤ 4000 ∧ ∀ (cs : List Nat) (p : Addr), Rsg t.cps.toList cs → H1 p = none → Q (.ref p) (upd H1 p (.lst (cs.map fun c => V.str (oneT c))))
theorem pe_sortSet {a : Expr} {ta : TE} {p1 p2 pos1 pos2 : Pos} (hc : X.calm = true) (hg : Gl X "sorted") (hm : X.mg "sorted" = none) (hg2 : Gl X "set") (hm2 : X.mg "set" = none) (ha : PE X a ta)
    (na : starEach [a] X.env = (false, eval a X.env) :: starEach [] X.env := by rfl)
    (nb : starEach [Expr.Call (.Name "set" p1) [a] [] pos1] X.env = (false, eval (Expr.Call (.Name "set" p1) [a] [] pos1) X.env) :: starEach [] X.env := by rfl) :
    PE X (.Call (.Name "sorted" p2) [.Call (.Name "set" p1) [a] [] pos1] [] pos2) (tSortSet ta) := by
  refine ⟨fun pins s σ H Q I h => Call_ (ld_blt I hg hm boot_sorted ?_)⟩
  refine PyProof.Rows.callWith_builtin1 (PyProof.Rows.args_cons (thn (Q := fun v s1 => ∃ (t : Str) (D : Addr) (H1 : Hp) (m : Nat), v = .ref D ∧ Inv X pins σ H1 s1 ∧ SetT X.w s1.heap D (inT t.cps.toList) m ∧ H1 D = none ∧ ∀ (cs : List Nat) (p : Addr), Rsg t.cps.toList cs → H1 p = none → Q (.ref p) (upd H1 p (.lst (cs.map fun c => V.str (oneT c))))) ?_ fun v s1 hv => PyProof.Rows.args_nil ?_) nb) nb rfl
  · refine Call_ (ld_blt I hg2 hm2 boot_set ?_)
    refine PyProof.Rows.callWith_type1 (PyProof.Rows.args_cons (thn (ha.run pins s σ H _ I h) fun v s1 ⟨x, H1, I1, r1, q1⟩ => PyProof.Rows.args_nil ?_) na) na rfl
    obtain ⟨t, rfl, ht, q2⟩ := q1
    obtain ⟨u, rfl⟩ := (show ∃ u, v = Value.str t u from r1)
    refine set_of_text (I1.ok.hd hc) (by unfold scanBound; omega) fun h' tk m hm z kp => ?_
    exact ⟨t, _, H1, m, rfl, I1.kept (t' := tk) fun b o e => kp b o (Heap.lt_size e) e, z, I1.hok.fresh (Nat.le_refl _), q2⟩
  · obtain ⟨t, D, H1, m, rfl, I1, z, _, q⟩ := hv
    refine sorted_setT z (I1.ok.hd hc) fun s' p out c ys k1 g1 o1 hp hget hs hpw hmem hlen => ?_
    obtain ⟨cs, rfl, hR⟩ := rsg_of hpw hmem
    have hlen2 : (cs.map fun c => V.str (oneT c)).length ≤ sizeLine := by
      have e : (cs.map oneT).length ≤ sizeLine := by
        rw [hlen]
        obtain ⟨o, es, ep, tt, ho, hex, hd, g, nd, hm, hb, hf, hn, hr, hl⟩ := z
        rw [← hn]; exact fits_of_scanBound hb
      simpa using e
    have hv : Vals (cs.map fun c => V.str (oneT c)) out := by
      have := vals_of_strs hs
      rwa [List.map_map] at this
    have hn : H1 p = none := I1.hok.fresh hp
    have J : Inv X pins σ (upd H1 p (.lst (cs.map fun c => V.str (oneT c)))) { s1 with heap := s'.heap, gens := s'.gens, drawn := s'.drawn, toks := s'.toks } :=
      I1.call (ch := []) (Un.laid k1 hp hn) (I1.hok.laid k1 hp ⟨hlen2, out, c, hv, hget⟩) (by rw [g1]; exact I1.bare) (fun _ z => nomatch z)
    have e : s' = { s1 with heap := s'.heap, gens := s'.gens, drawn := s'.drawn, toks := s'.toks } := by
      cases s'
      cases s1
      cases o1
      rfl
    rw [e]
    exact ⟨.ref p, _, J, rfl, q cs p hR hn⟩
end
end DL
namespace DL
open PySem L2 PyProof.Rows
/-! ### sorted(set(x)), x a text -/
structure Srt (t : Str) (K : List D → Prop) : Prop where
  h : ∀ cs, Rsg t.cps.toList cs → K (cs.map fun c => PyData.str ⟨#[c]⟩)
def KSortSet (P : Po) (x : R) (r : Rho) : Prop := onO (stOf x) fun t => Rq (t.length ≤ 4000) (Srt t fun ds => P (.own (.L ds)) r)
def mSortSet (ma : ME) : ME := fun r P => ma r fun x r1 => KSortSet P x.tmp r1
theorem rpA_ones {K : Fg} {F : Hp} : ∀ cs : List Nat, RpA K F (cs.map fun c => V.str (oneT c)) (cs.map fun c => PyData.str ⟨#[c]⟩)
  | [] => .nil
  | c :: cs => .cons (.str _) (rpA_ones cs)
section
variable {X : Cx} {a : Expr} {ma : ME} {p p2 q pos : Pos}
theorem de_sortSet (hc : X.calm = true) (hg : Gl X "sorted") (hm : X.mg "sorted" = none) (hg2 : Gl X "set") (hm2 : X.mg "set" = none) (ha : DE X a ma) (na : starEach [a] X.env = (false, eval a X.env) :: starEach [] X.env := by rfl)
    (nb : starEach [.Call (.Name "set" p2) [a] [] q] X.env = (false, eval (.Call (.Name "set" p2) [a] [] q) X.env) :: starEach [] X.env := by rfl) : DE X (.Call (.Name "sorted" p) [.Call (.Name "set" p2) [a] [] q] [] pos) (mSortSet ma) := fun e => by
  refine PE.imp (pe_sortSet hc hg hm hg2 hm2 (ha.tmp e) na nb) fun s H Q ⟨F, r, k, P, hm, hP⟩ => ?_
  refine ⟨F, r, k, fun x r1 => KSortSet P x r1, hm, fun x r1 v F1 H1 hx k1 q1 t1 => ?_⟩
  obtain ⟨t, e1, h1⟩ := onO.ex hx
  have e2 := stOf_of e1
  subst e2
  cases t1 with | val t1 =>
  cases t1
  refine ⟨t, rfl, Rq.c h1, fun cs p hR hp => ?_⟩
  obtain ⟨f1, f2, f3⟩ := k1.free hp
  exact hP _ r1 _ F1 _ ((Rq.a h1).h cs hR) (k1.alloc hp) q1 (.own upd_same (.L (rpA_ones cs)) f1 f2 f3 (k1.nobox hp))
end
end DL
namespace DL
open PySem L2 PyProof.Rows
/-! ### x[::-1] of texts, tuples, lists -/
def revS (x : Str) : Str := ⟨x.cps.toList.reverse.toArray⟩
theorem revS_len (x : Str) : (revS x).length = x.length := by
  show x.cps.toList.reverse.toArray.size = x.cps.size
  rw [List.size_toArray, List.length_reverse, Array.length_toList]
theorem picked_rev (x : Str) (t : Tok) : (slicePicked x none none (some (-1, t))).filterMap (x.cps[·]?) = x.cps.toList.reverse := by
  have e : slicePicked x none none (some (-1, t)) = sliceRange ((x.length : Int) - 1) (-1) (-1) := rfl
  rw [e, PySem.W.krv_sliceRange, PySem.W.krv_range, List.filterMap_reverse]
  show ((List.range x.cps.size).filterMap (x.cps[·]?)).reverse = _
  rw [PySem.W.krv_all]
theorem get_str_rev {prog : Program} {w : World} {A : Around} {E : Value → Shared → Prop} {s : Shared} {x : Str} {t : Tok} {sl : Addr} {vs : Value} {Q : Value → Shared → Prop} (hs : s.heap.IsSliceOf sl .none .none vs) (ps : IsPart vs (some (-1))) (hsz : x.length ≤ sizeLine)
    (h : ∀ t' k, Q (.str (revS x) t') { s with toks := k }) : wpAny (model prog w) A (getItem (.str x t) (.ref sl)) Q E s := by
  cases ps with
  | int _ tk =>
  refine wpAny_getItem_str_slice (l := none) (u := none) (st := some (-1, tk)) hs (show ((-1 : Int) == 0) = false by decide) ?_
  unfold sliceMade
  rw [if_neg (by simp), picked_rev]
  exact ⟨by rw [show (⟨x.cps.toList.reverse.toArray⟩ : Str) = revS x from rfl, revS_len]; exact hsz, h _ _⟩
section
variable {X : Cx}
def tRevB (K : Fg) (te : TE) : TE := fun σ H Q => te σ H fun x H1 => (∃ t : Str, x = .str t ∧ t.length ≤ sizeLine ∧ Q (.str (revS t)) H1) ∨ ∃ a xs, x = .ref a ∧ ((SqT K H1 a xs ∧ ∀ p, H1 p = none → Q (.ref p) (upd H1 p (.tup xs.reverse))) ∨ (SqL K H1 a xs ∧ ∀ p, H1 p = none → Q (.ref p) (upd H1 p (.lst xs.reverse))))
theorem pe_revB {e : Expr} {te : TE} {k : Nat} {p1 p2 p3 pos : Pos} (he : PE X e te) : PE X (.Subscript e (.Slice none none (some (.UnaryOp .USub (.Constant (.int 1) k p1) p2)) p3) pos) (tRevB X.K te) := by
  refine ⟨fun pins s σ H Q I h => Subscript_ (thn (he.run pins s σ H _ I h) fun v s1 ⟨x, H1, I1, r1, q1⟩ => ?_)⟩
  have st : PO X (some (.UnaryOp .USub (.Constant (.int 1) k p1) p2)) (tPart (tUn (rU fun i => .int (-i)) (tC (.int 1)))) := po_some (pe_un un_neg pe_int)
  refine wpAny_Slice (thn (po_none.run pins s1 σ H1 (fun o H2 => o = none ∧ H2 = H1) I1 ⟨rfl, rfl⟩) fun vl s2 ⟨l, H2, I2, pl, el, e2⟩ => ?_)
  subst el e2
  refine thn (po_none.run pins s2 σ H2 (fun o H3 => o = none ∧ H3 = H2) I2 ⟨rfl, rfl⟩) fun vu s3 ⟨u, H3, I3, pu, eu, e3⟩ => ?_
  subst eu e3
  refine thn (st.run pins s3 σ H3 (fun o H4 => o = some (-1) ∧ H4 = H3) I3 ⟨1, rfl, -1, rfl, rfl, rfl⟩) fun vs s4 ⟨o, H4, I4, ps, eo, e4⟩ => ?_
  subst eo e4
  cases pl
  cases pu
  have I5 : Inv X pins σ H4 { s4 with heap := s4.heap.push { cls := .type "slice", data := .fields #[.none, .none, vs] } } := I4.kept (t' := s4.toks) fun b ob q => Heap.get?_push_of_some _ q
  rcases q1 with ⟨t, ex, ht, q⟩ | ⟨a, xs, ex, hx⟩
  · subst ex
    obtain ⟨u, rfl⟩ := (show ∃ u, v = Value.str t u from r1)
    show wpAny (model X.prog X.w) X.A (subscriptTail e (.Slice none none (some (.UnaryOp .USub (.Constant (.int 1) k p1) p2)) p3) (.str t u) (.ref s4.heap.objs.size)) (EP X pins σ Q) X.xe { s4 with heap := s4.heap.push { cls := .type "slice", data := .fields #[.none, .none, vs] } }
    refine tail_any (ops := [.str t u, .ref s4.heap.objs.size]) (typeIs_str _ _ _) (PySem.F.slot_str_getitem.lookup) ?_ (by with_unfolding_all rfl)
    refine get_str_rev (Heap.IsSliceOf.new _ .none .none vs) ps ht fun t' k => ?_
    exact ⟨.str (revS t), H4, I5.kept (t' := k) fun b ob q => q, ⟨t', rfl⟩, q⟩
  subst ex
  cases r1
  show wpAny (model X.prog X.w) X.A (subscriptTail e (.Slice none none (some (.UnaryOp .USub (.Constant (.int 1) k p1) p2)) p3) (.ref a) (.ref s4.heap.objs.size)) (EP X pins σ Q) X.xe { s4 with heap := s4.heap.push { cls := .type "slice", data := .fields #[.none, .none, vs] } }
  rcases hx with ⟨hx, q⟩ | ⟨hx, q⟩
  · obtain ⟨its, r, ht, hz⟩ := I5.tuple hx
    have hlen := r.length
    refine tail_any (ops := [.ref a, .ref s4.heap.objs.size]) ht.typeIs (PyProof.Rows.slot_tuple_getitem.lookup) ?_ (by with_unfolding_all rfl)
    refine get_tup_rev ht (Heap.IsSliceOf.new _ .none .none vs) ps ?_ (by rw [List.size_toArray]; omega)
    exact ⟨.ref _, _, I5.laid (t' := s4.toks) (o := .tup xs.reverse) (fun b ob q => Heap.get?_push_of_some _ q) (Nat.le_refl _) ⟨by rw [List.length_reverse]; exact hz, _, r.reverse, IsTup.new _ _⟩, rfl, q _ (I5.hok.fresh (Nat.le_refl _))⟩
  · obtain ⟨its, r, ht, hz⟩ := I5.list hx
    have hlen := r.length
    refine tail_any (ops := [.ref a, .ref s4.heap.objs.size]) ht.isList.typeIs (PySem.slot_list_getitem.lookup) ?_ (by with_unfolding_all rfl)
    refine wpAny_getItem_list_slice ht.isList (Heap.IsSliceOf.new _ .none .none vs) .none .none ps (by decide) ?_ (by rw [List.size_toArray]; omega)
    rw [PySem.W.krv_pick]
    exact ⟨.ref _, _, I5.laid (t' := s4.toks) (o := .lst xs.reverse) (fun b ob q => Heap.get?_push_of_some _ q) (Nat.le_refl _) ⟨by rw [List.length_reverse]; exact hz, _, 0, r.reverse, Heap.get?_push_size _ rfl⟩, rfl, q _ (I5.hok.fresh (Nat.le_refl _))⟩
def KRevB (P : Po) (x : R) (r : Rho) : Prop := onO (look r x) fun d => match d with
  | .str t => Rq (t.length ≤ sizeLine) (P (.val (.str (revS t))) r)
  | .tuple ds => P (.val (.tuple ds.reverse)) r
  | .list ds => P (.own (.L ds.reverse)) r
  | _ => False
def mRevB (ma : ME) : ME := fun r P => ma r fun x r1 => KRevB P x.tmp r1
theorem de_revB {a : Expr} {ma : ME} {k : Nat} {p1 p2 p3 pos : Pos} (ha : DE X a ma) : DE X (.Subscript a (.Slice none none (some (.UnaryOp .USub (.Constant (.int 1) k p1) p2)) p3) pos) (mRevB ma) := fun e => by
  refine PE.imp (pe_revB (ha.tmp e)) fun s H Q ⟨F, r, k, P, hm, hP⟩ => ?_
  refine ⟨F, r, k, fun x r1 => KRevB P x r1, hm, fun x r1 v F1 H1 hx k1 q1 t1 => ?_⟩
  obtain ⟨d, e1, h1⟩ := onO.ex hx
  have lk := t1.look k1 e1
  split at h1
  · rename_i t
    have ev : v = .str t := lk.key (k := .inr t) rfl
    subst ev
    exact .inl ⟨t, rfl, Rq.c h1, hP _ r1 _ F1 _ (Rq.a h1) k1 q1 (.val (.str _))⟩
  · obtain ⟨a, xs, rfl, g1, g2, _⟩ := lk.tup k1.sub
    refine .inr ⟨a, xs, rfl, .inl ⟨g1, fun p hp => ?_⟩⟩
    have kf := k1.free hp
    exact hP _ r1 _ _ _ h1 (k1.lay hp) (q1.trans (Sub.new kf.1)) (.val (.tup (.inl (.inl upd_same)) (g2.rev.mono (Sub.new kf.1))))
  · obtain ⟨a, xs, rfl, g1, g2⟩ := lk.lst k1.sub
    refine .inr ⟨a, xs, rfl, .inr ⟨.inl g1, fun p hp => ?_⟩⟩
    exact hP _ r1 _ F1 _ h1 (k1.alloc hp) q1 (RR.newL k1 hp g2.rev)
  · exact h1.elim
end
end DL
namespace L01
open PySem L2 PyProof.Rows DL
def top (i : Nat) : Stmt := PySem.Challenge.pw_smallreaders_k01_signs_and_texts_known.main.body.getD i (.Pass ⟨0, 0, 0, 0⟩)
/-- what the module says -/
structure Gb (w : World) (K : Fg) (mg : Str → Option Value) : Prop where
  b_abs : mg "abs" = none
  b_all : mg "all" = none
  b_int : mg "int" = none
  b_isinstance : mg "isinstance" = none
  b_len : mg "len" = none
  b_list : mg "list" = none
  b_max : mg "max" = none
  b_min : mg "min" = none
  b_range : mg "range" = none
  b_repr : mg "repr" = none
  b_set : mg "set" = none
  b_sorted : mg "sorted" = none
  b_str : mg "str" = none
  b_zip : mg "zip" = none
  c_SIGNS : Con K mg "SIGNS" (.str ("\n !\"#$&'()*+,-./0123456789:;<=>?@ABCDEFGHIJKLMNOPQRSTUVWXYZ[\\]^_`abcdefghijklmnopqrstuvwxyz{|}~" : Str))
  c_MOST_SIGNS : Con K mg "MOST_SIGNS" (.int 94)
  c_MOST_TEXT : Con K mg "MOST_TEXT" (.int 60)
/-! ### is_text -/
def N_is_text : List Str := ["thing", "most", "sign"]
abbrev s_is_text : Stmt := top 4
theorem sc_is_text : FnScope N_is_text ["thing", "most"] (defScope s_is_text) := ⟨rfl, rfl, rfl, by decide +kernel, rfl, by decide +kernel, by decide +kernel⟩
def m_is_text_0 : MS :=
  sRet (mAnd (mIsI "str" (mVar 0)) (mAnd (mOp oLe (mSel 0 (mDLen 0) (mCall cLen (aCons (mVar 0) (aNil)))) (mVar 1)) (mCall cAll (aCons (mLc [2] (iOf (mVar 0)) (gNm 2) (bYes) (mOp oIn (mVar 2) (mVal (.str ("\n !\"#$&'()*+,-./0123456789:;<=>?@ABCDEFGHIJKLMNOPQRSTUVWXYZ[\\]^_`abcdefghijklmnopqrstuvwxyz{|}~" : Str))))) (aNil)))))
def m_is_text : MS := m_is_text_0
def mi_is_text : MS :=
  sRet (mAnd (mIsI "str" (mVar 0)) (mAnd (mOp oLe (mSel 0 (mDLen 0) (mCall cLen (aCons (mVar 0) (aNil)))) (mVar 1)) (mCall cAll (aCons (mLc [2] (iOf (mVar 0)) (gNm 2) (bYes) (mOp oIn (mVar 2) (mVal (.str ("\n !\"#$&'()*+,-./0123456789:;<=>?@ABCDEFGHIJKLMNOPQRSTUVWXYZ[\\]^_`abcdefghijklmnopqrstuvwxyz{|}~" : Str))))) (aNil)))))
theorem me_is_text : mi_is_text = m_is_text := by rfl
theorem d_is_text {P : Program} {w : World} {K : Fg} {mg : Str → Option Value} {base : Heap} {f : Addr} {cdv : Value} {A : Around} {outer : List Env} {s : Shared} {H : Hp} {E : XK} {k : Nat} (g : Gb w K mg)
    (hr : Room k (A.deeper (envOfC "is_text" (defScope s_is_text) s.heap.objs.size f cdv))) (hgu : A.guards = some []) :
    DSs (cxOf CX0 P w K mg base N_is_text "is_text" (defScope s_is_text) f cdv A outer s H E).nox (defBody s_is_text) (m_is_text) :=
  have nd := sc_is_text.nd
  have h : DSs (cxOf CX0 P w K mg base N_is_text "is_text" (defScope s_is_text) f cdv A outer s H E).nox (defBody s_is_text) (mi_is_text) :=
  (dss_one (ds_ret (de_and (de_isinst (T := "str") kit_str (by rfl) g.b_isinstance (by rfl) (by rfl) g.b_str (by rfl) (de_var (i := 0) (by rfl) (by first | exact .inl rfl | exact .inr (.inl rfl) | exact .inr (.inr rfl)))) (de_and (de_cmp opd_le (de_sel (de_dlen (i := 0) (by rfl) g.b_len (by rfl) (by first | exact .inl rfl | exact .inr (.inl rfl) | exact .inr (.inr rfl))) (de_callB calld_len (by rfl) g.b_len (by rfl) (da_cons (de_var (i := 0) (by rfl) (by first | exact .inl rfl | exact .inr (.inl rfl) | exact .inr (.inr rfl))) (da_nil)))) (de_var (i := 1) (by rfl) (by first | exact .inl rfl | exact .inr (.inl rfl) | exact .inr (.inr rfl))) (by rfl)) (de_one (de_callB (calld_all (by rfl)) (by rfl) g.b_all (by rfl) (da_cons (de_lc (own := [(("sign" : Str), 2)]) (by rfl) nd (di_of (de_var (i := 0) (by rfl) (by first | exact .inl rfl | exact .inr (.inl rfl) | exact .inr (.inr rfl)))) (blkOk_by (N := N_is_text) (sc := defScope s_is_text) (own := [(("sign" : Str), 2)]) (by decide +kernel)) (fun _ _ _ _ _ => dg_name (i := 2) nd (by rfl) (by first | exact .inl rfl | exact .inr rfl) (by simp)) (fun _ _ _ _ _ => dts_nil) (fun _ _ _ _ _ => de_cmp (opd_in (u65 hr)) (de_var (i := 2) (by rfl) (by first | exact .inl rfl | exact .inr (.inl rfl) | exact .inr (.inr rfl))) (de_con g.c_SIGNS (by rfl)) (by rfl))) (da_nil))))))))
  me_is_text ▸ h
/-! ### is_signs -/
def N_is_signs : List Str := ["thing", "least", "sign", "later"]
abbrev s_is_signs : Stmt := top 5
theorem sc_is_signs : FnScope N_is_signs ["thing", "least"] (defScope s_is_signs) := ⟨rfl, rfl, rfl, by decide +kernel, rfl, by decide +kernel, by decide +kernel⟩
def m_is_signs_0 (c_is_text : Ct) : MS :=
  sRet (mCall cAll (aCons (mLc [2, 3] (iZip (mVar 0) (mSl (mVar 0) (oSome (mVal (.int 1))) (oNone))) (gTp 2 (gCs (gNm 2) (gCs (gNm 3) (gNl)))) (bYes) (mOp oLt (mVar 2) (mVar 3))) (aNil)))
def m_is_signs_1 (c_is_text : Ct) : MS :=
  sSeq (sIf (bOr (bNot (mTru (mFnK c_is_text (pick [(false, 0), (true, 0)]) 1 1 (aCons (mVar 0) (aNil)) (aCons (mVal (.int 94)) (aNil))))) (mTest (mOp oLt (mCall cLen (aCons (mVar 0) (aNil))) (mVar 1)))) (sRet (mVal (.bool false))) (sNext))
  (m_is_signs_0 c_is_text)
def m_is_signs (c_is_text : Ct) : MS := m_is_signs_1 c_is_text
def mi_is_signs (c_is_text : Ct) : MS :=
  sSeq (sIf (bOr (bNot (mTru (mFnK c_is_text (pick [(false, 0), (true, 0)]) 1 1 (aCons (mVar 0) (aNil)) (aCons (mVal (.int 94)) (aNil))))) (mTest (mOp oLt (mCall cLen (aCons (mVar 0) (aNil))) (mVar 1)))) (sRet (mVal (.bool false))) (sNext))
  (sRet (mCall cAll (aCons (mLc [2, 3] (iZip (mVar 0) (mSl (mVar 0) (oSome (mVal (.int 1))) (oNone))) (gTp 2 (gCs (gNm 2) (gCs (gNm 3) (gNl)))) (bYes) (mOp oLt (mVar 2) (mVar 3))) (aNil))))
theorem me_is_signs (c_is_text : Ct) : mi_is_signs c_is_text = m_is_signs c_is_text := by rfl
theorem d_is_signs {P : Program} {w : World} {K : Fg} {mg : Str → Option Value} {base : Heap} {f : Addr} {cdv : Value} {A : Around} {outer : List Env} {s : Shared} {H : Hp} {E : XK} {k : Nat} {c_is_text : Ct} (g : Gb w K mg)
    (h_is_text_1_most : Def P w K mg base k "is_text" 1 ["most"] (pick [(false, 0), (true, 0)]) c_is_text)
    (hr : Room k (A.deeper (envOfC "is_signs" (defScope s_is_signs) s.heap.objs.size f cdv))) (hgu : A.guards = some []) :
    DSs (cxOf CX0 P w K mg base N_is_signs "is_signs" (defScope s_is_signs) f cdv A outer s H E).nox (defBody s_is_signs) (m_is_signs c_is_text) :=
  have nd := sc_is_signs.nd
  have h : DSs (cxOf CX0 P w K mg base N_is_signs "is_signs" (defScope s_is_signs) f cdv A outer s H E).nox (defBody s_is_signs) (mi_is_signs c_is_text) :=
  (dss_cons (ds_if (dt_w (dw_or (dt_not (dt_of (de_defK (ks := ["most"]) h_is_text_1_most hr hgu (by rfl) (da_cons (de_var (i := 0) (by rfl) (by first | exact .inl rfl | exact .inr (.inl rfl) | exact .inr (.inr rfl))) (da_nil)) (dk_cons (de_con g.c_MOST_SIGNS (by rfl)) (dk_nil))))) (dw_or1 (dt_cmp opd_lt (de_callB calld_len (by rfl) g.b_len (by rfl) (da_cons (de_var (i := 0) (by rfl) (by first | exact .inl rfl | exact .inr (.inl rfl) | exact .inr (.inr rfl))) (da_nil))) (de_var (i := 1) (by rfl) (by first | exact .inl rfl | exact .inr (.inl rfl) | exact .inr (.inr rfl))) (by rfl))))) (dss_one (ds_ret (de_bl))) (dss_nil))
  (dss_one (ds_ret (de_callB (calld_all (by rfl)) (by rfl) g.b_all (by rfl) (da_cons (de_lc (own := [(("sign" : Str), 2), (("later" : Str), 3)]) (by rfl) nd (di_zip (by rfl) g.b_zip (de_var (i := 0) (by rfl) (by first | exact .inl rfl | exact .inr (.inl rfl) | exact .inr (.inr rfl))) (de_slice (de_var (i := 0) (by rfl) (by first | exact .inl rfl | exact .inr (.inl rfl) | exact .inr (.inr rfl))) (do_some (de_int)) (do_none))) (blkOk_by (N := N_is_signs) (sc := defScope s_is_signs) (own := [(("sign" : Str), 2), (("later" : Str), 3)]) (by decide +kernel)) (fun _ _ _ _ _ => dg_tup (by rfl) (dgs_cons (dg_name (i := 2) nd (by rfl) (by first | exact .inl rfl | exact .inr rfl) (by simp)) (dgs_cons (dg_name (i := 3) nd (by rfl) (by first | exact .inl rfl | exact .inr rfl) (by simp)) (dgs_nil)))) (fun _ _ _ _ _ => dts_nil) (fun _ _ _ _ _ => de_cmp opd_lt (de_var (i := 2) (by rfl) (by first | exact .inl rfl | exact .inr (.inl rfl) | exact .inr (.inr rfl))) (de_var (i := 3) (by rfl) (by first | exact .inl rfl | exact .inr (.inl rfl) | exact .inr (.inr rfl))) (by rfl))) (da_nil))))))
  me_is_signs c_is_text ▸ h
/-! ### _law_draw -/
def N__law_draw : List Str := ["_law_pen", "_law_many", "_law_digit", "_law_at", "_law_cell", "_law_mixed"]
abbrev s__law_draw : Stmt := top 7
theorem sc__law_draw : FnScope N__law_draw ["_law_pen", "_law_many"] (defScope s__law_draw) := ⟨rfl, rfl, rfl, by decide +kernel, rfl, by decide +kernel, by decide +kernel⟩
def m__law_draw_0 : MS :=
  sRet (mVar 2)
def m__law_draw_1 : MS :=
  sSeq (sPut 0 (mOp oDiv (mOp oIxA (mVar 0) (mVal (.int 2))) (mVar 1)) (mVal (.int 2)))
  (m__law_draw_0)
def m__law_draw_2 : MS :=
  sSeq (sSet 2 (mOp oMod (mOp oIxA (mVar 0) (mVal (.int 2))) (mVar 1)))
  (m__law_draw_1)
def m__law_draw_3 : MS :=
  sSet 4 (mOp oIxA (mOp oIxA (mVar 0) (mVal (.int 0))) (mOp oMod (mVar 3) (mCall cLen (aCons (mOp oIxA (mVar 0) (mVal (.int 0))) (aNil)))))
def m__law_draw_4 : MS :=
  sRet (mOp oMod (mCall cAbs (aCons (mVar 4) (aNil))) (mVar 1))
def m__law_draw_5 : MS :=
  sSeq (sPut 0 (mOp oDiv (mCall cAbs (aCons (mVar 4) (aNil))) (mVar 1)) (mVal (.int 2)))
  (m__law_draw_4)
def m__law_draw_6 : MS :=
  sRet (mOp oMod (mOp oDiv (mVar 5) (mVal (.int 32))) (mVar 1))
def m__law_draw_7 : MS :=
  sSeq (sSet 5 (mOp oMod (mOp oPow (mOp oAdd (mOp oMul (mVar 5) (mOp oAdd (mOp oMul (mVal (.int 5)) (mVar 3)) (mVal (.int 2)))) (mVal (.int 80039))) (mVal (.int 3))) (mVal (.int 2147483587))))
  (m__law_draw_6)
def m__law_draw_8 : MS :=
  sSeq (sSet 5 (mOp oMod (mOp oPow (mOp oAdd (mOp oAdd (mOp oAdd (mOp oMod (mVar 4) (mVal (.int 2147483563))) (mOp oMul (mOp oMul (mVal (.int 50021)) (mVar 3)) (mVar 3))) (mOp oMul (mVal (.int 70009)) (mVar 3))) (mVal (.int 37))) (mVal (.int 3))) (mVal (.int 2147483647))))
  (m__law_draw_7)
def m__law_draw_9 : MS :=
  sSeq (sIf (bAnd (mTest (mOp oLt (mVar 3) (mCall cLen (aCons (mOp oIxA (mVar 0) (mVal (.int 0))) (aNil))))) (mTest (mOp oGe (mCall cAbs (aCons (mVar 4) (aNil))) (mOp oPow (mVal (.int 10)) (mVal (.int 18)))))) (m__law_draw_5) (sNext))
  (m__law_draw_8)
def m__law_draw_10 : MS :=
  sSeq (sIf (mTest (mOp oNe (mOp oIxA (mVar 0) (mVal (.int 0))) (mLst (aNil)))) (m__law_draw_3) (sNext))
  (m__law_draw_9)
def m__law_draw_11 : MS :=
  sSeq (sSet 4 (mOp oAdd (mOp oMul (mVal (.int 80021)) (mVar 3)) (mVal (.int 57))))
  (m__law_draw_10)
def m__law_draw_12 : MS :=
  sSeq (sPut 0 (mOp oAdd (mVar 3) (mVal (.int 1))) (mVal (.int 1)))
  (m__law_draw_11)
def m__law_draw_13 : MS :=
  sSeq (sSet 3 (mOp oIxA (mVar 0) (mVal (.int 1))))
  (m__law_draw_12)
def m__law_draw_14 : MS :=
  sSeq (sIf (mTest (mOp oGt (mOp oIxA (mVar 0) (mVal (.int 2))) (mVal (.int 0)))) (m__law_draw_2) (sNext))
  (m__law_draw_13)
def m__law_draw : MS := m__law_draw_14
def mi__law_draw : MS :=
  sSeq (sIf (mTest (mOp oGt (mOp oIxA (mVar 0) (mVal (.int 2))) (mVal (.int 0)))) (sSeq (sSet 2 (mOp oMod (mOp oIxA (mVar 0) (mVal (.int 2))) (mVar 1)))
  (sSeq (sPut 0 (mOp oDiv (mOp oIxA (mVar 0) (mVal (.int 2))) (mVar 1)) (mVal (.int 2)))
  (sRet (mVar 2)))) (sNext))
  (sSeq (sSet 3 (mOp oIxA (mVar 0) (mVal (.int 1))))
  (sSeq (sPut 0 (mOp oAdd (mVar 3) (mVal (.int 1))) (mVal (.int 1)))
  (sSeq (sSet 4 (mOp oAdd (mOp oMul (mVal (.int 80021)) (mVar 3)) (mVal (.int 57))))
  (sSeq (sIf (mTest (mOp oNe (mOp oIxA (mVar 0) (mVal (.int 0))) (mLst (aNil)))) (sSet 4 (mOp oIxA (mOp oIxA (mVar 0) (mVal (.int 0))) (mOp oMod (mVar 3) (mCall cLen (aCons (mOp oIxA (mVar 0) (mVal (.int 0))) (aNil)))))) (sNext))
  (sSeq (sIf (bAnd (mTest (mOp oLt (mVar 3) (mCall cLen (aCons (mOp oIxA (mVar 0) (mVal (.int 0))) (aNil))))) (mTest (mOp oGe (mCall cAbs (aCons (mVar 4) (aNil))) (mOp oPow (mVal (.int 10)) (mVal (.int 18)))))) (sSeq (sPut 0 (mOp oDiv (mCall cAbs (aCons (mVar 4) (aNil))) (mVar 1)) (mVal (.int 2)))
  (sRet (mOp oMod (mCall cAbs (aCons (mVar 4) (aNil))) (mVar 1)))) (sNext))
  (sSeq (sSet 5 (mOp oMod (mOp oPow (mOp oAdd (mOp oAdd (mOp oAdd (mOp oMod (mVar 4) (mVal (.int 2147483563))) (mOp oMul (mOp oMul (mVal (.int 50021)) (mVar 3)) (mVar 3))) (mOp oMul (mVal (.int 70009)) (mVar 3))) (mVal (.int 37))) (mVal (.int 3))) (mVal (.int 2147483647))))
  (sSeq (sSet 5 (mOp oMod (mOp oPow (mOp oAdd (mOp oMul (mVar 5) (mOp oAdd (mOp oMul (mVal (.int 5)) (mVar 3)) (mVal (.int 2)))) (mVal (.int 80039))) (mVal (.int 3))) (mVal (.int 2147483587))))
  (sRet (mOp oMod (mOp oDiv (mVar 5) (mVal (.int 32))) (mVar 1))))))))))
theorem me__law_draw : mi__law_draw = m__law_draw := by rfl
theorem d__law_draw {P : Program} {w : World} {K : Fg} {mg : Str → Option Value} {base : Heap} {f : Addr} {cdv : Value} {A : Around} {outer : List Env} {s : Shared} {H : Hp} {E : XK} {k : Nat} (g : Gb w K mg)
    (hr : Room k (A.deeper (envOfC "_law_draw" (defScope s__law_draw) s.heap.objs.size f cdv))) (hgu : A.guards = some []) :
    DSs (cxOf CX0 P w K mg base N__law_draw "_law_draw" (defScope s__law_draw) f cdv A outer s H E).nox (defBody s__law_draw) (m__law_draw) :=
  have nd := sc__law_draw.nd
  have h : DSs (cxOf CX0 P w K mg base N__law_draw "_law_draw" (defScope s__law_draw) f cdv A outer s H E).nox (defBody s__law_draw) (mi__law_draw) :=
  (dss_cons (ds_if (dt_cmp opd_gt (de_ixA (u1 hr) (de_var (i := 0) (by rfl) (by first | exact .inl rfl | exact .inr (.inl rfl) | exact .inr (.inr rfl))) (de_int)) (de_int) (by rfl)) (dss_cons (ds_set (i := 2) nd (by rfl) (by first | exact .inl rfl | exact .inr rfl) (de_op opd_mod (de_ixA (u1 hr) (de_var (i := 0) (by rfl) (by first | exact .inl rfl | exact .inr (.inl rfl) | exact .inr (.inr rfl))) (de_int)) (de_var (i := 1) (by rfl) (by first | exact .inl rfl | exact .inr (.inl rfl) | exact .inr (.inr rfl)))))
  (dss_cons (ds_put (i := 0) (by rfl) (by first | exact .inl rfl | exact .inr (.inl rfl) | exact .inr (.inr rfl)) (de_op opd_div (de_ixA (u1 hr) (de_var (i := 0) (by rfl) (by first | exact .inl rfl | exact .inr (.inl rfl) | exact .inr (.inr rfl))) (de_int)) (de_var (i := 1) (by rfl) (by first | exact .inl rfl | exact .inr (.inl rfl) | exact .inr (.inr rfl)))) (de_int))
  (dss_one (ds_ret (de_var (i := 2) (by rfl) (by first | exact .inl rfl | exact .inr (.inl rfl) | exact .inr (.inr rfl))))))) (dss_nil))
  (dss_cons (ds_set (i := 3) nd (by rfl) (by first | exact .inl rfl | exact .inr rfl) (de_ixA (u1 hr) (de_var (i := 0) (by rfl) (by first | exact .inl rfl | exact .inr (.inl rfl) | exact .inr (.inr rfl))) (de_int)))
  (dss_cons (ds_put (i := 0) (by rfl) (by first | exact .inl rfl | exact .inr (.inl rfl) | exact .inr (.inr rfl)) (de_op opd_add (de_var (i := 3) (by rfl) (by first | exact .inl rfl | exact .inr (.inl rfl) | exact .inr (.inr rfl))) (de_int)) (de_int))
  (dss_cons (ds_set (i := 4) nd (by rfl) (by first | exact .inl rfl | exact .inr rfl) (de_op opd_add (de_op opd_mul (de_int) (de_var (i := 3) (by rfl) (by first | exact .inl rfl | exact .inr (.inl rfl) | exact .inr (.inr rfl)))) (de_int)))
  (dss_cons (ds_if (dt_cmp (opd_ne (u64 hr)) (de_ixA (u1 hr) (de_var (i := 0) (by rfl) (by first | exact .inl rfl | exact .inr (.inl rfl) | exact .inr (.inr rfl))) (de_int)) (de_lst (da_nil)) (by rfl)) (dss_one (ds_set (i := 4) nd (by rfl) (by first | exact .inl rfl | exact .inr rfl) (de_ixA (u1 hr) (de_ixA (u1 hr) (de_var (i := 0) (by rfl) (by first | exact .inl rfl | exact .inr (.inl rfl) | exact .inr (.inr rfl))) (de_int)) (de_op opd_mod (de_var (i := 3) (by rfl) (by first | exact .inl rfl | exact .inr (.inl rfl) | exact .inr (.inr rfl))) (de_callB calld_len (by rfl) g.b_len (by rfl) (da_cons (de_ixA (u1 hr) (de_var (i := 0) (by rfl) (by first | exact .inl rfl | exact .inr (.inl rfl) | exact .inr (.inr rfl))) (de_int)) (da_nil))))))) (dss_nil))
  (dss_cons (ds_if (dt_w (dw_and (dt_cmp opd_lt (de_var (i := 3) (by rfl) (by first | exact .inl rfl | exact .inr (.inl rfl) | exact .inr (.inr rfl))) (de_callB calld_len (by rfl) g.b_len (by rfl) (da_cons (de_ixA (u1 hr) (de_var (i := 0) (by rfl) (by first | exact .inl rfl | exact .inr (.inl rfl) | exact .inr (.inr rfl))) (de_int)) (da_nil))) (by rfl)) (dw_and1 (dt_cmp opd_ge (de_callB calld_abs (by rfl) g.b_abs (by rfl) (da_cons (de_var (i := 4) (by rfl) (by first | exact .inl rfl | exact .inr (.inl rfl) | exact .inr (.inr rfl))) (da_nil))) (de_op opd_pow (de_int) (de_int)) (by rfl))))) (dss_cons (ds_put (i := 0) (by rfl) (by first | exact .inl rfl | exact .inr (.inl rfl) | exact .inr (.inr rfl)) (de_op opd_div (de_callB calld_abs (by rfl) g.b_abs (by rfl) (da_cons (de_var (i := 4) (by rfl) (by first | exact .inl rfl | exact .inr (.inl rfl) | exact .inr (.inr rfl))) (da_nil))) (de_var (i := 1) (by rfl) (by first | exact .inl rfl | exact .inr (.inl rfl) | exact .inr (.inr rfl)))) (de_int))
  (dss_one (ds_ret (de_op opd_mod (de_callB calld_abs (by rfl) g.b_abs (by rfl) (da_cons (de_var (i := 4) (by rfl) (by first | exact .inl rfl | exact .inr (.inl rfl) | exact .inr (.inr rfl))) (da_nil))) (de_var (i := 1) (by rfl) (by first | exact .inl rfl | exact .inr (.inl rfl) | exact .inr (.inr rfl))))))) (dss_nil))
  (dss_cons (ds_set (i := 5) nd (by rfl) (by first | exact .inl rfl | exact .inr rfl) (de_op opd_mod (de_op opd_pow (de_op opd_add (de_op opd_add (de_op opd_add (de_op opd_mod (de_var (i := 4) (by rfl) (by first | exact .inl rfl | exact .inr (.inl rfl) | exact .inr (.inr rfl))) (de_int)) (de_op opd_mul (de_op opd_mul (de_int) (de_var (i := 3) (by rfl) (by first | exact .inl rfl | exact .inr (.inl rfl) | exact .inr (.inr rfl)))) (de_var (i := 3) (by rfl) (by first | exact .inl rfl | exact .inr (.inl rfl) | exact .inr (.inr rfl))))) (de_op opd_mul (de_int) (de_var (i := 3) (by rfl) (by first | exact .inl rfl | exact .inr (.inl rfl) | exact .inr (.inr rfl))))) (de_int)) (de_int)) (de_int)))
  (dss_cons (ds_set (i := 5) nd (by rfl) (by first | exact .inl rfl | exact .inr rfl) (de_op opd_mod (de_op opd_pow (de_op opd_add (de_op opd_mul (de_var (i := 5) (by rfl) (by first | exact .inl rfl | exact .inr (.inl rfl) | exact .inr (.inr rfl))) (de_op opd_add (de_op opd_mul (de_int) (de_var (i := 3) (by rfl) (by first | exact .inl rfl | exact .inr (.inl rfl) | exact .inr (.inr rfl)))) (de_int))) (de_int)) (de_int)) (de_int)))
  (dss_one (ds_ret (de_op opd_mod (de_op opd_div (de_var (i := 5) (by rfl) (by first | exact .inl rfl | exact .inr (.inl rfl) | exact .inr (.inr rfl))) (de_int)) (de_var (i := 1) (by rfl) (by first | exact .inl rfl | exact .inr (.inl rfl) | exact .inr (.inr rfl))))))))))))))
  me__law_draw ▸ h
/-! ### _law_all -/
def N__law_all : List Str := ["_law_found"]
abbrev s__law_all : Stmt := top 8
theorem sc__law_all : FnScope N__law_all [] (defScope s__law_all) := ⟨rfl, rfl, rfl, by decide +kernel, rfl, by decide +kernel, by decide +kernel⟩
def m__law_all_0 : MS :=
  sRet (mOp oAdd (mVar 0) (mVal (.str ("[\\]^_`abcdefghijklmnopqrstuvwxyz{|}~" : Str))))
def m__law_all_1 : MS :=
  sSeq (sSet 0 (mVal (.str ("\n !\"#$&'()*+,-./0123456789:;<=>?@ABCDEFGHIJKLMNOPQRSTUVWXYZ" : Str))))
  (m__law_all_0)
def m__law_all : MS := m__law_all_1
def mi__law_all : MS :=
  sSeq (sSet 0 (mVal (.str ("\n !\"#$&'()*+,-./0123456789:;<=>?@ABCDEFGHIJKLMNOPQRSTUVWXYZ" : Str))))
  (sRet (mOp oAdd (mVar 0) (mVal (.str ("[\\]^_`abcdefghijklmnopqrstuvwxyz{|}~" : Str)))))
theorem me__law_all : mi__law_all = m__law_all := by rfl
theorem d__law_all {P : Program} {w : World} {K : Fg} {mg : Str → Option Value} {base : Heap} {f : Addr} {cdv : Value} {A : Around} {outer : List Env} {s : Shared} {H : Hp} {E : XK} {k : Nat} (g : Gb w K mg)
    (hr : Room k (A.deeper (envOfC "_law_all" (defScope s__law_all) s.heap.objs.size f cdv))) (hgu : A.guards = some []) :
    DSs (cxOf CX0 P w K mg base N__law_all "_law_all" (defScope s__law_all) f cdv A outer s H E).nox (defBody s__law_all) (m__law_all) :=
  have nd := sc__law_all.nd
  have h : DSs (cxOf CX0 P w K mg base N__law_all "_law_all" (defScope s__law_all) f cdv A outer s H E).nox (defBody s__law_all) (mi__law_all) :=
  (dss_cons (ds_set (i := 0) nd (by rfl) (by first | exact .inl rfl | exact .inr rfl) (de_str))
  (dss_one (ds_ret (de_op opd_add (de_var (i := 0) (by rfl) (by first | exact .inl rfl | exact .inr (.inl rfl) | exact .inr (.inr rfl))) (de_str)))))
  me__law_all ▸ h
/-! ### _law_signs -/
def N__law_signs : List Str := ["_law_pen", "_law_every", "_law_way", "_law_at", "_law_some", "_law_sign"]
abbrev s__law_signs : Stmt := top 9
theorem sc__law_signs : FnScope N__law_signs ["_law_pen"] (defScope s__law_signs) := ⟨rfl, rfl, rfl, by decide +kernel, rfl, by decide +kernel, by decide +kernel⟩
def m__law_signs_0 (c__law_all : Ct) (c__law_draw : Ct) : MS :=
  sRet (mOp oIxA (mLst (aCons (mVal (.str ("a" : Str))) (aCons (mVal (.str ("ab" : Str))) (aCons (mVal (.str ("b" : Str))) (aCons (mVal (.str ("abc" : Str))) (aCons (mVal (.str ("c" : Str))) (aCons (mVal (.str (" " : Str))) (aCons (mVal (.str ("\n" : Str))) (aCons (mVal (.str ("\n a" : Str))) (aNil)))))))))) (mFnK c__law_draw (pick [(false, 0), (false, 1)]) 2 0 (aCons (mVar 0) (aCons (mVal (.int 8)) (aNil))) (aNil)))
def m__law_signs_1 (c__law_all : Ct) (c__law_draw : Ct) : MS :=
  sRet (mSl (mVar 1) (oSome (mVar 3)) (oSome (mOp oAdd (mOp oAdd (mVar 3) (mVal (.int 1))) (mFnK c__law_draw (pick [(false, 0), (false, 1)]) 2 0 (aCons (mVar 0) (aCons (mVal (.int 94)) (aNil))) (aNil)))))
def m__law_signs_2 (c__law_all : Ct) (c__law_draw : Ct) : MS :=
  sSeq (sSet 3 (mFnK c__law_draw (pick [(false, 0), (false, 1)]) 2 0 (aCons (mVar 0) (aCons (mVal (.int 95)) (aNil))) (aNil)))
  (m__law_signs_1 c__law_all c__law_draw)
def m__law_signs_3 (c__law_all : Ct) (c__law_draw : Ct) : MS :=
  sRet (mOp oIxA (mLst (aCons (mSl (mVar 4) (oNone) (oSome (mVal (.int 94)))) (aCons (mVal (.str ("]^" : Str))) (aNil)))) (mCall cInt (aCons (mOp oEq (mVar 4) (mVal (.str ("" : Str)))) (aNil))))
def m__law_signs_4 (c__law_all : Ct) (c__law_draw : Ct) : MS :=
  sSeq (sSet 4 (mSm jJoin (mVal (.str ("" : Str))) (aCons (mLc [5] (iOf (mVar 1)) (gNm 5) (mTest (mOp oEq (mFnK c__law_draw (pick [(false, 0), (false, 1)]) 2 0 (aCons (mVar 0) (aCons (mVal (.int 8)) (aNil))) (aNil)) (mVal (.int 0)))) (mVar 5)) (aNil))))
  (m__law_signs_3 c__law_all c__law_draw)
def m__law_signs_5 (c__law_all : Ct) (c__law_draw : Ct) : MS :=
  sSeq (sIf (mTest (mOp oEq (mVar 2) (mVal (.int 2)))) (m__law_signs_2 c__law_all c__law_draw) (sNext))
  (m__law_signs_4 c__law_all c__law_draw)
def m__law_signs_6 (c__law_all : Ct) (c__law_draw : Ct) : MS :=
  sSeq (sIf (mTest (mOp oLt (mVar 2) (mVal (.int 2)))) (m__law_signs_0 c__law_all c__law_draw) (sNext))
  (m__law_signs_5 c__law_all c__law_draw)
def m__law_signs_7 (c__law_all : Ct) (c__law_draw : Ct) : MS :=
  sSeq (sSet 2 (mFnK c__law_draw (pick [(false, 0), (false, 1)]) 2 0 (aCons (mVar 0) (aCons (mVal (.int 4)) (aNil))) (aNil)))
  (m__law_signs_6 c__law_all c__law_draw)
def m__law_signs_8 (c__law_all : Ct) (c__law_draw : Ct) : MS :=
  sSeq (sSet 1 (mFnK c__law_all (pick []) 0 0 (aNil) (aNil)))
  (m__law_signs_7 c__law_all c__law_draw)
def m__law_signs (c__law_all : Ct) (c__law_draw : Ct) : MS := m__law_signs_8 c__law_all c__law_draw
def mi__law_signs (c__law_all : Ct) (c__law_draw : Ct) : MS :=
  sSeq (sSet 1 (mFnK c__law_all (pick []) 0 0 (aNil) (aNil)))
  (sSeq (sSet 2 (mFnK c__law_draw (pick [(false, 0), (false, 1)]) 2 0 (aCons (mVar 0) (aCons (mVal (.int 4)) (aNil))) (aNil)))
  (sSeq (sIf (mTest (mOp oLt (mVar 2) (mVal (.int 2)))) (sRet (mOp oIxA (mLst (aCons (mVal (.str ("a" : Str))) (aCons (mVal (.str ("ab" : Str))) (aCons (mVal (.str ("b" : Str))) (aCons (mVal (.str ("abc" : Str))) (aCons (mVal (.str ("c" : Str))) (aCons (mVal (.str (" " : Str))) (aCons (mVal (.str ("\n" : Str))) (aCons (mVal (.str ("\n a" : Str))) (aNil)))))))))) (mFnK c__law_draw (pick [(false, 0), (false, 1)]) 2 0 (aCons (mVar 0) (aCons (mVal (.int 8)) (aNil))) (aNil)))) (sNext))
  (sSeq (sIf (mTest (mOp oEq (mVar 2) (mVal (.int 2)))) (sSeq (sSet 3 (mFnK c__law_draw (pick [(false, 0), (false, 1)]) 2 0 (aCons (mVar 0) (aCons (mVal (.int 95)) (aNil))) (aNil)))
  (sRet (mSl (mVar 1) (oSome (mVar 3)) (oSome (mOp oAdd (mOp oAdd (mVar 3) (mVal (.int 1))) (mFnK c__law_draw (pick [(false, 0), (false, 1)]) 2 0 (aCons (mVar 0) (aCons (mVal (.int 94)) (aNil))) (aNil))))))) (sNext))
  (sSeq (sSet 4 (mSm jJoin (mVal (.str ("" : Str))) (aCons (mLc [5] (iOf (mVar 1)) (gNm 5) (mTest (mOp oEq (mFnK c__law_draw (pick [(false, 0), (false, 1)]) 2 0 (aCons (mVar 0) (aCons (mVal (.int 8)) (aNil))) (aNil)) (mVal (.int 0)))) (mVar 5)) (aNil))))
  (sRet (mOp oIxA (mLst (aCons (mSl (mVar 4) (oNone) (oSome (mVal (.int 94)))) (aCons (mVal (.str ("]^" : Str))) (aNil)))) (mCall cInt (aCons (mOp oEq (mVar 4) (mVal (.str ("" : Str)))) (aNil)))))))))
theorem me__law_signs (c__law_all : Ct) (c__law_draw : Ct) : mi__law_signs c__law_all c__law_draw = m__law_signs c__law_all c__law_draw := by rfl
theorem d__law_signs {P : Program} {w : World} {K : Fg} {mg : Str → Option Value} {base : Heap} {f : Addr} {cdv : Value} {A : Around} {outer : List Env} {s : Shared} {H : Hp} {E : XK} {k : Nat} {c__law_all c__law_draw : Ct} (g : Gb w K mg)
    (h__law_all_0 : Def P w K mg base k "_law_all" 0 [] (pick []) c__law_all)
    (h__law_draw_2 : Def P w K mg base k "_law_draw" 2 [] (pick [(false, 0), (false, 1)]) c__law_draw)
    (hr : Room k (A.deeper (envOfC "_law_signs" (defScope s__law_signs) s.heap.objs.size f cdv))) (hgu : A.guards = some []) :
    DSs (cxOf CX0 P w K mg base N__law_signs "_law_signs" (defScope s__law_signs) f cdv A outer s H E).nox (defBody s__law_signs) (m__law_signs c__law_all c__law_draw) :=
  have nd := sc__law_signs.nd
  have h : DSs (cxOf CX0 P w K mg base N__law_signs "_law_signs" (defScope s__law_signs) f cdv A outer s H E).nox (defBody s__law_signs) (mi__law_signs c__law_all c__law_draw) :=
  (dss_cons (ds_set (i := 1) nd (by rfl) (by first | exact .inl rfl | exact .inr rfl) (de_def0 h__law_all_0 hr hgu (by rfl)))
  (dss_cons (ds_set (i := 2) nd (by rfl) (by first | exact .inl rfl | exact .inr rfl) (de_def h__law_draw_2 hr hgu (by rfl) (da_cons (de_var (i := 0) (by rfl) (by first | exact .inl rfl | exact .inr (.inl rfl) | exact .inr (.inr rfl))) (da_cons (de_int) (da_nil)))))
  (dss_cons (ds_if (dt_cmp opd_lt (de_var (i := 2) (by rfl) (by first | exact .inl rfl | exact .inr (.inl rfl) | exact .inr (.inr rfl))) (de_int) (by rfl)) (dss_one (ds_ret (de_ixA (u1 hr) (de_lst (da_cons (de_str) (da_cons (de_str) (da_cons (de_str) (da_cons (de_str) (da_cons (de_str) (da_cons (de_str) (da_cons (de_str) (da_cons (de_str) (da_nil)))))))))) (de_def h__law_draw_2 hr hgu (by rfl) (da_cons (de_var (i := 0) (by rfl) (by first | exact .inl rfl | exact .inr (.inl rfl) | exact .inr (.inr rfl))) (da_cons (de_int) (da_nil))))))) (dss_nil))
  (dss_cons (ds_if (dt_cmp (opd_eq (u64 hr)) (de_var (i := 2) (by rfl) (by first | exact .inl rfl | exact .inr (.inl rfl) | exact .inr (.inr rfl))) (de_int) (by rfl)) (dss_cons (ds_set (i := 3) nd (by rfl) (by first | exact .inl rfl | exact .inr rfl) (de_def h__law_draw_2 hr hgu (by rfl) (da_cons (de_var (i := 0) (by rfl) (by first | exact .inl rfl | exact .inr (.inl rfl) | exact .inr (.inr rfl))) (da_cons (de_int) (da_nil)))))
  (dss_one (ds_ret (de_slice (de_var (i := 1) (by rfl) (by first | exact .inl rfl | exact .inr (.inl rfl) | exact .inr (.inr rfl))) (do_some (de_var (i := 3) (by rfl) (by first | exact .inl rfl | exact .inr (.inl rfl) | exact .inr (.inr rfl)))) (do_some (de_op opd_add (de_op opd_add (de_var (i := 3) (by rfl) (by first | exact .inl rfl | exact .inr (.inl rfl) | exact .inr (.inr rfl))) (de_int)) (de_def h__law_draw_2 hr hgu (by rfl) (da_cons (de_var (i := 0) (by rfl) (by first | exact .inl rfl | exact .inr (.inl rfl) | exact .inr (.inr rfl))) (da_cons (de_int) (da_nil)))))))))) (dss_nil))
  (dss_cons (ds_set (i := 4) nd (by rfl) (by first | exact .inl rfl | exact .inr rfl) (de_sm smd_join PySem.F.slot_str_join PySem.F.type_str_join (de_str) (da_cons (de_lc (own := [(("_law_sign" : Str), 5)]) (by rfl) nd (di_of (de_var (i := 1) (by rfl) (by first | exact .inl rfl | exact .inr (.inl rfl) | exact .inr (.inr rfl)))) (blkOk_by (N := N__law_signs) (sc := defScope s__law_signs) (own := [(("_law_sign" : Str), 5)]) (by decide +kernel)) (fun _ _ _ _ _ => dg_name (i := 5) nd (by rfl) (by first | exact .inl rfl | exact .inr rfl) (by simp)) (fun _ _ _ _ _ => dts_one (dt_cmp (opd_eq (u64 hr)) (de_def h__law_draw_2 hr hgu (by rfl) (da_cons (de_var (i := 0) (by rfl) (by first | exact .inl rfl | exact .inr (.inl rfl) | exact .inr (.inr rfl))) (da_cons (de_int) (da_nil)))) (de_int) (by rfl))) (fun _ _ _ _ _ => de_var (i := 5) (by rfl) (by first | exact .inl rfl | exact .inr (.inl rfl) | exact .inr (.inr rfl)))) (da_nil))))
  (dss_one (ds_ret (de_ixA (u1 hr) (de_lst (da_cons (de_slice (de_var (i := 4) (by rfl) (by first | exact .inl rfl | exact .inr (.inl rfl) | exact .inr (.inr rfl))) (do_none) (do_some (de_int))) (da_cons (de_str) (da_nil)))) (de_callTy calld_int (by rfl) g.b_int (by rfl) (da_cons (de_cmp (opd_eq (u64 hr)) (de_var (i := 4) (by rfl) (by first | exact .inl rfl | exact .inr (.inl rfl) | exact .inr (.inr rfl))) (de_str) (by rfl)) (da_nil)))))))))))
  me__law_signs c__law_all c__law_draw ▸ h
/-! ### _law_is_signs -/
def N__law_is_signs : List Str := ["_law_some", "_law_bound", "_law_every", "_law_places", "_law_sign", "_law_k"]
abbrev s__law_is_signs : Stmt := top 10
theorem sc__law_is_signs : FnScope N__law_is_signs ["_law_some", "_law_bound"] (defScope s__law_is_signs) := ⟨rfl, rfl, rfl, by decide +kernel, rfl, by decide +kernel, by decide +kernel⟩
def m__law_is_signs_0 (c__law_all : Ct) : MS :=
  sRet (mOp oEqU (mLc [5] (iRange2 (mVal (.int 1)) (mCall cLen (aCons (mVar 3) (aNil)))) (gNm 5) (mTest (mOp oGe (mOp oIxA (mVar 3) (mOp oSub (mVar 5) (mVal (.int 1)))) (mOp oIxA (mVar 3) (mVar 5)))) (mVar 5)) (mLst (aNil)))
def m__law_is_signs_1 (c__law_all : Ct) : MS :=
  sSeq (sIf (mTest (mOp oIn (mNeg (mVal (.int 1))) (mVar 3))) (sRet (mVal (.bool false))) (sNext))
  (m__law_is_signs_0 c__law_all)
def m__law_is_signs_2 (c__law_all : Ct) : MS :=
  sSeq (sSet 3 (mLc [4] (iOf (mVar 0)) (gNm 4) (bYes) (mSm jFind (mVar 2) (aCons (mVar 4) (aNil)))))
  (m__law_is_signs_1 c__law_all)
def m__law_is_signs_3 (c__law_all : Ct) : MS :=
  sSeq (sSet 2 (mFnK c__law_all (pick []) 0 0 (aNil) (aNil)))
  (m__law_is_signs_2 c__law_all)
def m__law_is_signs_4 (c__law_all : Ct) : MS :=
  sSeq (sIf (bOr (bNot (mTru (mIsI "str" (mVar 0)))) (bNot (mTest (mChain oLe oLe (mVar 1) (mSel 0 (mDLen 0) (mCall cLen (aCons (mVar 0) (aNil)))) (mVal (.int 94)))))) (sRet (mVal (.bool false))) (sNext))
  (m__law_is_signs_3 c__law_all)
def m__law_is_signs (c__law_all : Ct) : MS := m__law_is_signs_4 c__law_all
def mi__law_is_signs (c__law_all : Ct) : MS :=
  sSeq (sIf (bOr (bNot (mTru (mIsI "str" (mVar 0)))) (bNot (mTest (mChain oLe oLe (mVar 1) (mSel 0 (mDLen 0) (mCall cLen (aCons (mVar 0) (aNil)))) (mVal (.int 94)))))) (sRet (mVal (.bool false))) (sNext))
  (sSeq (sSet 2 (mFnK c__law_all (pick []) 0 0 (aNil) (aNil)))
  (sSeq (sSet 3 (mLc [4] (iOf (mVar 0)) (gNm 4) (bYes) (mSm jFind (mVar 2) (aCons (mVar 4) (aNil)))))
  (sSeq (sIf (mTest (mOp oIn (mNeg (mVal (.int 1))) (mVar 3))) (sRet (mVal (.bool false))) (sNext))
  (sRet (mOp oEqU (mLc [5] (iRange2 (mVal (.int 1)) (mCall cLen (aCons (mVar 3) (aNil)))) (gNm 5) (mTest (mOp oGe (mOp oIxA (mVar 3) (mOp oSub (mVar 5) (mVal (.int 1)))) (mOp oIxA (mVar 3) (mVar 5)))) (mVar 5)) (mLst (aNil)))))))
theorem me__law_is_signs (c__law_all : Ct) : mi__law_is_signs c__law_all = m__law_is_signs c__law_all := by rfl
theorem d__law_is_signs {P : Program} {w : World} {K : Fg} {mg : Str → Option Value} {base : Heap} {f : Addr} {cdv : Value} {A : Around} {outer : List Env} {s : Shared} {H : Hp} {E : XK} {k : Nat} {c__law_all : Ct} (g : Gb w K mg)
    (h__law_all_0 : Def P w K mg base k "_law_all" 0 [] (pick []) c__law_all)
    (hr : Room k (A.deeper (envOfC "_law_is_signs" (defScope s__law_is_signs) s.heap.objs.size f cdv))) (hgu : A.guards = some []) :
    DSs (cxOf CX0 P w K mg base N__law_is_signs "_law_is_signs" (defScope s__law_is_signs) f cdv A outer s H E).nox (defBody s__law_is_signs) (m__law_is_signs c__law_all) :=
  have nd := sc__law_is_signs.nd
  have h : DSs (cxOf CX0 P w K mg base N__law_is_signs "_law_is_signs" (defScope s__law_is_signs) f cdv A outer s H E).nox (defBody s__law_is_signs) (mi__law_is_signs c__law_all) :=
  (dss_cons (ds_if (dt_w (dw_or (dt_not (dt_of (de_isinst (T := "str") kit_str (by rfl) g.b_isinstance (by rfl) (by rfl) g.b_str (by rfl) (de_var (i := 0) (by rfl) (by first | exact .inl rfl | exact .inr (.inl rfl) | exact .inr (.inr rfl)))))) (dw_or1 (dt_not (dt_chain opd_le opd_le (de_var (i := 1) (by rfl) (by first | exact .inl rfl | exact .inr (.inl rfl) | exact .inr (.inr rfl))) (de_sel (de_dlen (i := 0) (by rfl) g.b_len (by rfl) (by first | exact .inl rfl | exact .inr (.inl rfl) | exact .inr (.inr rfl))) (de_callB calld_len (by rfl) g.b_len (by rfl) (da_cons (de_var (i := 0) (by rfl) (by first | exact .inl rfl | exact .inr (.inl rfl) | exact .inr (.inr rfl))) (da_nil)))) (de_int)))))) (dss_one (ds_ret (de_bl))) (dss_nil))
  (dss_cons (ds_set (i := 2) nd (by rfl) (by first | exact .inl rfl | exact .inr rfl) (de_def0 h__law_all_0 hr hgu (by rfl)))
  (dss_cons (ds_set (i := 3) nd (by rfl) (by first | exact .inl rfl | exact .inr rfl) (de_lc (own := [(("_law_sign" : Str), 4)]) (by rfl) nd (di_of (de_var (i := 0) (by rfl) (by first | exact .inl rfl | exact .inr (.inl rfl) | exact .inr (.inr rfl)))) (blkOk_by (N := N__law_is_signs) (sc := defScope s__law_is_signs) (own := [(("_law_sign" : Str), 4)]) (by decide +kernel)) (fun _ _ _ _ _ => dg_name (i := 4) nd (by rfl) (by first | exact .inl rfl | exact .inr rfl) (by simp)) (fun _ _ _ _ _ => dts_nil) (fun _ _ _ _ _ => de_sm smd_find PySem.F.slot_str_find PySem.F.type_str_find (de_var (i := 2) (by rfl) (by first | exact .inl rfl | exact .inr (.inl rfl) | exact .inr (.inr rfl))) (da_cons (de_var (i := 4) (by rfl) (by first | exact .inl rfl | exact .inr (.inl rfl) | exact .inr (.inr rfl))) (da_nil)))))
  (dss_cons (ds_if (dt_cmp (opd_in (u65 hr)) (de_neg (de_int)) (de_var (i := 3) (by rfl) (by first | exact .inl rfl | exact .inr (.inl rfl) | exact .inr (.inr rfl))) (by rfl)) (dss_one (ds_ret (de_bl))) (dss_nil))
  (dss_one (ds_ret (de_cmp (opd_eqU (u64 hr)) (de_lc (own := [(("_law_k" : Str), 5)]) (by rfl) nd (di_range2 (by rfl) g.b_range (de_int) (de_callB calld_len (by rfl) g.b_len (by rfl) (da_cons (de_var (i := 3) (by rfl) (by first | exact .inl rfl | exact .inr (.inl rfl) | exact .inr (.inr rfl))) (da_nil)))) (blkOk_by (N := N__law_is_signs) (sc := defScope s__law_is_signs) (own := [(("_law_k" : Str), 5)]) (by decide +kernel)) (fun _ _ _ _ _ => dg_name (i := 5) nd (by rfl) (by first | exact .inl rfl | exact .inr rfl) (by simp)) (fun _ _ _ _ _ => dts_one (dt_cmp opd_ge (de_ixA (u1 hr) (de_var (i := 3) (by rfl) (by first | exact .inl rfl | exact .inr (.inl rfl) | exact .inr (.inr rfl))) (de_op opd_sub (de_var (i := 5) (by rfl) (by first | exact .inl rfl | exact .inr (.inl rfl) | exact .inr (.inr rfl))) (de_int))) (de_ixA (u1 hr) (de_var (i := 3) (by rfl) (by first | exact .inl rfl | exact .inr (.inl rfl) | exact .inr (.inr rfl))) (de_var (i := 5) (by rfl) (by first | exact .inl rfl | exact .inr (.inl rfl) | exact .inr (.inr rfl)))) (by rfl))) (fun _ _ _ _ _ => de_var (i := 5) (by rfl) (by first | exact .inl rfl | exact .inr (.inl rfl) | exact .inr (.inr rfl)))) (de_lst (da_nil)) (by rfl))))))))
  me__law_is_signs c__law_all ▸ h
/-! ### _law_is_text -/
def N__law_is_text : List Str := ["_law_some", "_law_bound", "_law_sign"]
abbrev s__law_is_text : Stmt := top 11
theorem sc__law_is_text : FnScope N__law_is_text ["_law_some", "_law_bound"] (defScope s__law_is_text) := ⟨rfl, rfl, rfl, by decide +kernel, rfl, by decide +kernel, by decide +kernel⟩
def m__law_is_text_0 (c__law_all : Ct) : MS :=
  sRet (mOp oEqU (mLc [2] (iOf (mVar 0)) (gNm 2) (mTest (mOp oNotIn (mVar 2) (mFnK c__law_all (pick []) 0 0 (aNil) (aNil)))) (mVar 2)) (mLst (aNil)))
def m__law_is_text_1 (c__law_all : Ct) : MS :=
  sSeq (sIf (bOr (bNot (mTru (mIsI "str" (mVar 0)))) (mTest (mOp oGt (mSel 0 (mDLen 0) (mCall cLen (aCons (mVar 0) (aNil)))) (mVar 1)))) (sRet (mVal (.bool false))) (sNext))
  (m__law_is_text_0 c__law_all)
def m__law_is_text (c__law_all : Ct) : MS := m__law_is_text_1 c__law_all
def mi__law_is_text (c__law_all : Ct) : MS :=
  sSeq (sIf (bOr (bNot (mTru (mIsI "str" (mVar 0)))) (mTest (mOp oGt (mSel 0 (mDLen 0) (mCall cLen (aCons (mVar 0) (aNil)))) (mVar 1)))) (sRet (mVal (.bool false))) (sNext))
  (sRet (mOp oEqU (mLc [2] (iOf (mVar 0)) (gNm 2) (mTest (mOp oNotIn (mVar 2) (mFnK c__law_all (pick []) 0 0 (aNil) (aNil)))) (mVar 2)) (mLst (aNil))))
theorem me__law_is_text (c__law_all : Ct) : mi__law_is_text c__law_all = m__law_is_text c__law_all := by rfl
theorem d__law_is_text {P : Program} {w : World} {K : Fg} {mg : Str → Option Value} {base : Heap} {f : Addr} {cdv : Value} {A : Around} {outer : List Env} {s : Shared} {H : Hp} {E : XK} {k : Nat} {c__law_all : Ct} (g : Gb w K mg)
    (h__law_all_0 : Def P w K mg base k "_law_all" 0 [] (pick []) c__law_all)
    (hr : Room k (A.deeper (envOfC "_law_is_text" (defScope s__law_is_text) s.heap.objs.size f cdv))) (hgu : A.guards = some []) :
    DSs (cxOf CX0 P w K mg base N__law_is_text "_law_is_text" (defScope s__law_is_text) f cdv A outer s H E).nox (defBody s__law_is_text) (m__law_is_text c__law_all) :=
  have nd := sc__law_is_text.nd
  have h : DSs (cxOf CX0 P w K mg base N__law_is_text "_law_is_text" (defScope s__law_is_text) f cdv A outer s H E).nox (defBody s__law_is_text) (mi__law_is_text c__law_all) :=
  (dss_cons (ds_if (dt_w (dw_or (dt_not (dt_of (de_isinst (T := "str") kit_str (by rfl) g.b_isinstance (by rfl) (by rfl) g.b_str (by rfl) (de_var (i := 0) (by rfl) (by first | exact .inl rfl | exact .inr (.inl rfl) | exact .inr (.inr rfl)))))) (dw_or1 (dt_cmp opd_gt (de_sel (de_dlen (i := 0) (by rfl) g.b_len (by rfl) (by first | exact .inl rfl | exact .inr (.inl rfl) | exact .inr (.inr rfl))) (de_callB calld_len (by rfl) g.b_len (by rfl) (da_cons (de_var (i := 0) (by rfl) (by first | exact .inl rfl | exact .inr (.inl rfl) | exact .inr (.inr rfl))) (da_nil)))) (de_var (i := 1) (by rfl) (by first | exact .inl rfl | exact .inr (.inl rfl) | exact .inr (.inr rfl))) (by rfl))))) (dss_one (ds_ret (de_bl))) (dss_nil))
  (dss_one (ds_ret (de_cmp (opd_eqU (u64 hr)) (de_lc (own := [(("_law_sign" : Str), 2)]) (by rfl) nd (di_of (de_var (i := 0) (by rfl) (by first | exact .inl rfl | exact .inr (.inl rfl) | exact .inr (.inr rfl)))) (blkOk_by (N := N__law_is_text) (sc := defScope s__law_is_text) (own := [(("_law_sign" : Str), 2)]) (by decide +kernel)) (fun _ _ _ _ _ => dg_name (i := 2) nd (by rfl) (by first | exact .inl rfl | exact .inr rfl) (by simp)) (fun _ _ _ _ _ => dts_one (dt_cmp (opd_notin (u65 hr)) (de_var (i := 2) (by rfl) (by first | exact .inl rfl | exact .inr (.inl rfl) | exact .inr (.inr rfl))) (de_def0 h__law_all_0 hr hgu (by rfl)) (by rfl))) (fun _ _ _ _ _ => de_var (i := 2) (by rfl) (by first | exact .inl rfl | exact .inr (.inl rfl) | exact .inr (.inr rfl)))) (de_lst (da_nil)) (by rfl)))))
  me__law_is_text c__law_all ▸ h
/-! ### _law_right -/
def N__law_right : List Str := ["_law_some", "_law_bound", "_law_kept", "_law_due", "_law_told", "_law_more"]
abbrev s__law_right : Stmt := top 12
theorem sc__law_right : FnScope N__law_right ["_law_some", "_law_bound"] (defScope s__law_right) := ⟨rfl, rfl, rfl, by decide +kernel, rfl, by decide +kernel, by decide +kernel⟩
def m__law_right_0 (c__law_is_text : Ct) (c__law_is_signs : Ct) (c_is_text : Ct) (c_is_signs : Ct) : MS :=
  sRet (mAnd (mOp oEq (mCall cRepr (aCons (mVar 4) (aNil))) (mCall cRepr (aCons (mVar 3) (aNil)))) (mAnd (mOp oEq (mCall cRepr (aCons (mVar 5) (aNil))) (mCall cRepr (aCons (mVar 3) (aNil)))) (mOp oEq (mCall cRepr (aCons (mVar 0) (aNil))) (mVar 2))))
def m__law_right_1 (c__law_is_text : Ct) (c__law_is_signs : Ct) (c_is_text : Ct) (c_is_signs : Ct) : MS :=
  sSeq (sExpr (mMeth 5 tAppend (aCons (mFnK c_is_signs (pick [(true, 1), (true, 0)]) 0 2 (aNil) (aCons (mOp oMod (mVar 1) (mVal (.int 96))) (aCons (mVar 0) (aNil)))) (aNil))))
  (m__law_right_0 c__law_is_text c__law_is_signs c_is_text c_is_signs)
def m__law_right_2 (c__law_is_text : Ct) (c__law_is_signs : Ct) (c_is_text : Ct) (c_is_signs : Ct) : MS :=
  sSeq (sSet 5 (mLst (aCons (mFnK c_is_text (fun xs zs => pick [(true, 0), (true, 1)] xs (zs ++ [.int 60].map R.val)) 0 1 (aNil) (aCons (mVar 0) (aNil))) (aCons (mFnK c_is_text (pick [(true, 1), (true, 0)]) 0 2 (aNil) (aCons (mVar 1) (aCons (mVar 0) (aNil)))) (aCons (mFnK c_is_signs (fun xs zs => pick [(true, 0), (true, 1)] xs (zs ++ [.int 0].map R.val)) 0 1 (aNil) (aCons (mVar 0) (aNil))) (aNil))))))
  (m__law_right_1 c__law_is_text c__law_is_signs c_is_text c_is_signs)
def m__law_right_3 (c__law_is_text : Ct) (c__law_is_signs : Ct) (c_is_text : Ct) (c_is_signs : Ct) : MS :=
  sSeq (sSet 4 (mLst (aCons (mFnK c_is_text (fun xs zs => pick [(false, 0), (true, 0)] xs (zs ++ [.int 60].map R.val)) 1 0 (aCons (mVar 0) (aNil)) (aNil)) (aCons (mFnK c_is_text (pick [(false, 0), (true, 0)]) 1 1 (aCons (mVar 0) (aNil)) (aCons (mVar 1) (aNil))) (aCons (mFnK c_is_signs (fun xs zs => pick [(false, 0), (true, 0)] xs (zs ++ [.int 0].map R.val)) 1 0 (aCons (mVar 0) (aNil)) (aNil)) (aCons (mFnK c_is_signs (pick [(false, 0), (true, 0)]) 1 1 (aCons (mVar 0) (aNil)) (aCons (mOp oMod (mVar 1) (mVal (.int 96))) (aNil))) (aNil)))))))
  (m__law_right_2 c__law_is_text c__law_is_signs c_is_text c_is_signs)
def m__law_right_4 (c__law_is_text : Ct) (c__law_is_signs : Ct) (c_is_text : Ct) (c_is_signs : Ct) : MS :=
  sSeq (sSet 3 (mLst (aCons (mFnK c__law_is_text (pick [(false, 0), (false, 1)]) 2 0 (aCons (mVar 0) (aCons (mVal (.int 60)) (aNil))) (aNil)) (aCons (mFnK c__law_is_text (pick [(false, 0), (false, 1)]) 2 0 (aCons (mVar 0) (aCons (mVar 1) (aNil))) (aNil)) (aCons (mFnK c__law_is_signs (pick [(false, 0), (false, 1)]) 2 0 (aCons (mVar 0) (aCons (mVal (.int 0)) (aNil))) (aNil)) (aCons (mFnK c__law_is_signs (pick [(false, 0), (false, 1)]) 2 0 (aCons (mVar 0) (aCons (mOp oMod (mVar 1) (mVal (.int 96))) (aNil))) (aNil)) (aNil)))))))
  (m__law_right_3 c__law_is_text c__law_is_signs c_is_text c_is_signs)
def m__law_right_5 (c__law_is_text : Ct) (c__law_is_signs : Ct) (c_is_text : Ct) (c_is_signs : Ct) : MS :=
  sSeq (sSet 2 (mCall cRepr (aCons (mVar 0) (aNil))))
  (m__law_right_4 c__law_is_text c__law_is_signs c_is_text c_is_signs)
def m__law_right (c__law_is_text : Ct) (c__law_is_signs : Ct) (c_is_text : Ct) (c_is_signs : Ct) : MS := m__law_right_5 c__law_is_text c__law_is_signs c_is_text c_is_signs
def mi__law_right (c__law_is_text : Ct) (c__law_is_signs : Ct) (c_is_text : Ct) (c_is_signs : Ct) : MS :=
  sSeq (sSet 2 (mCall cRepr (aCons (mVar 0) (aNil))))
  (sSeq (sSet 3 (mLst (aCons (mFnK c__law_is_text (pick [(false, 0), (false, 1)]) 2 0 (aCons (mVar 0) (aCons (mVal (.int 60)) (aNil))) (aNil)) (aCons (mFnK c__law_is_text (pick [(false, 0), (false, 1)]) 2 0 (aCons (mVar 0) (aCons (mVar 1) (aNil))) (aNil)) (aCons (mFnK c__law_is_signs (pick [(false, 0), (false, 1)]) 2 0 (aCons (mVar 0) (aCons (mVal (.int 0)) (aNil))) (aNil)) (aCons (mFnK c__law_is_signs (pick [(false, 0), (false, 1)]) 2 0 (aCons (mVar 0) (aCons (mOp oMod (mVar 1) (mVal (.int 96))) (aNil))) (aNil)) (aNil)))))))
  (sSeq (sSet 4 (mLst (aCons (mFnK c_is_text (fun xs zs => pick [(false, 0), (true, 0)] xs (zs ++ [.int 60].map R.val)) 1 0 (aCons (mVar 0) (aNil)) (aNil)) (aCons (mFnK c_is_text (pick [(false, 0), (true, 0)]) 1 1 (aCons (mVar 0) (aNil)) (aCons (mVar 1) (aNil))) (aCons (mFnK c_is_signs (fun xs zs => pick [(false, 0), (true, 0)] xs (zs ++ [.int 0].map R.val)) 1 0 (aCons (mVar 0) (aNil)) (aNil)) (aCons (mFnK c_is_signs (pick [(false, 0), (true, 0)]) 1 1 (aCons (mVar 0) (aNil)) (aCons (mOp oMod (mVar 1) (mVal (.int 96))) (aNil))) (aNil)))))))
  (sSeq (sSet 5 (mLst (aCons (mFnK c_is_text (fun xs zs => pick [(true, 0), (true, 1)] xs (zs ++ [.int 60].map R.val)) 0 1 (aNil) (aCons (mVar 0) (aNil))) (aCons (mFnK c_is_text (pick [(true, 1), (true, 0)]) 0 2 (aNil) (aCons (mVar 1) (aCons (mVar 0) (aNil)))) (aCons (mFnK c_is_signs (fun xs zs => pick [(true, 0), (true, 1)] xs (zs ++ [.int 0].map R.val)) 0 1 (aNil) (aCons (mVar 0) (aNil))) (aNil))))))
  (sSeq (sExpr (mMeth 5 tAppend (aCons (mFnK c_is_signs (pick [(true, 1), (true, 0)]) 0 2 (aNil) (aCons (mOp oMod (mVar 1) (mVal (.int 96))) (aCons (mVar 0) (aNil)))) (aNil))))
  (sRet (mAnd (mOp oEq (mCall cRepr (aCons (mVar 4) (aNil))) (mCall cRepr (aCons (mVar 3) (aNil)))) (mAnd (mOp oEq (mCall cRepr (aCons (mVar 5) (aNil))) (mCall cRepr (aCons (mVar 3) (aNil)))) (mOp oEq (mCall cRepr (aCons (mVar 0) (aNil))) (mVar 2)))))))))
theorem me__law_right (c__law_is_text : Ct) (c__law_is_signs : Ct) (c_is_text : Ct) (c_is_signs : Ct) : mi__law_right c__law_is_text c__law_is_signs c_is_text c_is_signs = m__law_right c__law_is_text c__law_is_signs c_is_text c_is_signs := by rfl
theorem d__law_right {P : Program} {w : World} {K : Fg} {mg : Str → Option Value} {base : Heap} {f : Addr} {cdv : Value} {A : Around} {outer : List Env} {s : Shared} {H : Hp} {E : XK} {k : Nat} {c__law_is_text c__law_is_signs c_is_text c_is_signs : Ct} (g : Gb w K mg)
    (h__law_is_text_2 : Def P w K mg base k "_law_is_text" 2 [] (pick [(false, 0), (false, 1)]) c__law_is_text)
    (h__law_is_signs_2 : Def P w K mg base k "_law_is_signs" 2 [] (pick [(false, 0), (false, 1)]) c__law_is_signs)
    (h_is_text_1 : Def P w K mg base k "is_text" 1 [] (fun xs zs => pick [(false, 0), (true, 0)] xs (zs ++ [.int 60].map R.val)) c_is_text)
    (h_is_text_1_most : Def P w K mg base k "is_text" 1 ["most"] (pick [(false, 0), (true, 0)]) c_is_text)
    (h_is_signs_1 : Def P w K mg base k "is_signs" 1 [] (fun xs zs => pick [(false, 0), (true, 0)] xs (zs ++ [.int 0].map R.val)) c_is_signs)
    (h_is_signs_1_least : Def P w K mg base k "is_signs" 1 ["least"] (pick [(false, 0), (true, 0)]) c_is_signs)
    (h_is_text_0_thing : Def P w K mg base k "is_text" 0 ["thing"] (fun xs zs => pick [(true, 0), (true, 1)] xs (zs ++ [.int 60].map R.val)) c_is_text)
    (h_is_text_0_most_thing : Def P w K mg base k "is_text" 0 ["most", "thing"] (pick [(true, 1), (true, 0)]) c_is_text)
    (h_is_signs_0_thing : Def P w K mg base k "is_signs" 0 ["thing"] (fun xs zs => pick [(true, 0), (true, 1)] xs (zs ++ [.int 0].map R.val)) c_is_signs)
    (h_is_signs_0_least_thing : Def P w K mg base k "is_signs" 0 ["least", "thing"] (pick [(true, 1), (true, 0)]) c_is_signs)
    (hr : Room k (A.deeper (envOfC "_law_right" (defScope s__law_right) s.heap.objs.size f cdv))) (hgu : A.guards = some []) :
    DSs (cxOf CX0 P w K mg base N__law_right "_law_right" (defScope s__law_right) f cdv A outer s H E).nox (defBody s__law_right) (m__law_right c__law_is_text c__law_is_signs c_is_text c_is_signs) :=
  have nd := sc__law_right.nd
  have h : DSs (cxOf CX0 P w K mg base N__law_right "_law_right" (defScope s__law_right) f cdv A outer s H E).nox (defBody s__law_right) (mi__law_right c__law_is_text c__law_is_signs c_is_text c_is_signs) :=
  (dss_cons (ds_set (i := 2) nd (by rfl) (by first | exact .inl rfl | exact .inr rfl) (de_callB (calld_repr hgu (u66 hr)) (by rfl) g.b_repr (by rfl) (da_cons (de_var (i := 0) (by rfl) (by first | exact .inl rfl | exact .inr (.inl rfl) | exact .inr (.inr rfl))) (da_nil))))
  (dss_cons (ds_set (i := 3) nd (by rfl) (by first | exact .inl rfl | exact .inr rfl) (de_lst (da_cons (de_def h__law_is_text_2 hr hgu (by rfl) (da_cons (de_var (i := 0) (by rfl) (by first | exact .inl rfl | exact .inr (.inl rfl) | exact .inr (.inr rfl))) (da_cons (de_int) (da_nil)))) (da_cons (de_def h__law_is_text_2 hr hgu (by rfl) (da_cons (de_var (i := 0) (by rfl) (by first | exact .inl rfl | exact .inr (.inl rfl) | exact .inr (.inr rfl))) (da_cons (de_var (i := 1) (by rfl) (by first | exact .inl rfl | exact .inr (.inl rfl) | exact .inr (.inr rfl))) (da_nil)))) (da_cons (de_def h__law_is_signs_2 hr hgu (by rfl) (da_cons (de_var (i := 0) (by rfl) (by first | exact .inl rfl | exact .inr (.inl rfl) | exact .inr (.inr rfl))) (da_cons (de_int) (da_nil)))) (da_cons (de_def h__law_is_signs_2 hr hgu (by rfl) (da_cons (de_var (i := 0) (by rfl) (by first | exact .inl rfl | exact .inr (.inl rfl) | exact .inr (.inr rfl))) (da_cons (de_op opd_mod (de_var (i := 1) (by rfl) (by first | exact .inl rfl | exact .inr (.inl rfl) | exact .inr (.inr rfl))) (de_int)) (da_nil)))) (da_nil)))))))
  (dss_cons (ds_set (i := 4) nd (by rfl) (by first | exact .inl rfl | exact .inr rfl) (de_lst (da_cons (de_def h_is_text_1 hr hgu (by rfl) (da_cons (de_var (i := 0) (by rfl) (by first | exact .inl rfl | exact .inr (.inl rfl) | exact .inr (.inr rfl))) (da_nil))) (da_cons (de_defK (ks := ["most"]) h_is_text_1_most hr hgu (by rfl) (da_cons (de_var (i := 0) (by rfl) (by first | exact .inl rfl | exact .inr (.inl rfl) | exact .inr (.inr rfl))) (da_nil)) (dk_cons (de_var (i := 1) (by rfl) (by first | exact .inl rfl | exact .inr (.inl rfl) | exact .inr (.inr rfl))) (dk_nil))) (da_cons (de_def h_is_signs_1 hr hgu (by rfl) (da_cons (de_var (i := 0) (by rfl) (by first | exact .inl rfl | exact .inr (.inl rfl) | exact .inr (.inr rfl))) (da_nil))) (da_cons (de_defK (ks := ["least"]) h_is_signs_1_least hr hgu (by rfl) (da_cons (de_var (i := 0) (by rfl) (by first | exact .inl rfl | exact .inr (.inl rfl) | exact .inr (.inr rfl))) (da_nil)) (dk_cons (de_op opd_mod (de_var (i := 1) (by rfl) (by first | exact .inl rfl | exact .inr (.inl rfl) | exact .inr (.inr rfl))) (de_int)) (dk_nil))) (da_nil)))))))
  (dss_cons (ds_set (i := 5) nd (by rfl) (by first | exact .inl rfl | exact .inr rfl) (de_lst (da_cons (de_defK0 (ks := ["thing"]) h_is_text_0_thing hr hgu (by rfl) (dk_cons (de_var (i := 0) (by rfl) (by first | exact .inl rfl | exact .inr (.inl rfl) | exact .inr (.inr rfl))) (dk_nil))) (da_cons (de_defK0 (ks := ["most", "thing"]) h_is_text_0_most_thing hr hgu (by rfl) (dk_cons (de_var (i := 1) (by rfl) (by first | exact .inl rfl | exact .inr (.inl rfl) | exact .inr (.inr rfl))) (dk_cons (de_var (i := 0) (by rfl) (by first | exact .inl rfl | exact .inr (.inl rfl) | exact .inr (.inr rfl))) (dk_nil)))) (da_cons (de_defK0 (ks := ["thing"]) h_is_signs_0_thing hr hgu (by rfl) (dk_cons (de_var (i := 0) (by rfl) (by first | exact .inl rfl | exact .inr (.inl rfl) | exact .inr (.inr rfl))) (dk_nil))) (da_nil))))))
  (dss_cons (ds_expr (de_meth (i := 5) met_append PySem.F.slot_list_append PySem.F.type_list_append (by rfl) (by first | exact .inl rfl | exact .inr (.inl rfl) | exact .inr (.inr rfl)) (da_cons (de_defK0 (ks := ["least", "thing"]) h_is_signs_0_least_thing hr hgu (by rfl) (dk_cons (de_op opd_mod (de_var (i := 1) (by rfl) (by first | exact .inl rfl | exact .inr (.inl rfl) | exact .inr (.inr rfl))) (de_int)) (dk_cons (de_var (i := 0) (by rfl) (by first | exact .inl rfl | exact .inr (.inl rfl) | exact .inr (.inr rfl))) (dk_nil)))) (da_nil))))
  (dss_one (ds_ret (de_and (de_cmp (opd_eq (u64 hr)) (de_callB (calld_repr hgu (u66 hr)) (by rfl) g.b_repr (by rfl) (da_cons (de_var (i := 4) (by rfl) (by first | exact .inl rfl | exact .inr (.inl rfl) | exact .inr (.inr rfl))) (da_nil))) (de_callB (calld_repr hgu (u66 hr)) (by rfl) g.b_repr (by rfl) (da_cons (de_var (i := 3) (by rfl) (by first | exact .inl rfl | exact .inr (.inl rfl) | exact .inr (.inr rfl))) (da_nil))) (by rfl)) (de_and (de_cmp (opd_eq (u64 hr)) (de_callB (calld_repr hgu (u66 hr)) (by rfl) g.b_repr (by rfl) (da_cons (de_var (i := 5) (by rfl) (by first | exact .inl rfl | exact .inr (.inl rfl) | exact .inr (.inr rfl))) (da_nil))) (de_callB (calld_repr hgu (u66 hr)) (by rfl) g.b_repr (by rfl) (da_cons (de_var (i := 3) (by rfl) (by first | exact .inl rfl | exact .inr (.inl rfl) | exact .inr (.inr rfl))) (da_nil))) (by rfl)) (de_one (de_cmp (opd_eq (u64 hr)) (de_callB (calld_repr hgu (u66 hr)) (by rfl) g.b_repr (by rfl) (da_cons (de_var (i := 0) (by rfl) (by first | exact .inl rfl | exact .inr (.inl rfl) | exact .inr (.inr rfl))) (da_nil))) (de_var (i := 2) (by rfl) (by first | exact .inl rfl | exact .inr (.inl rfl) | exact .inr (.inr rfl))) (by rfl))))))))))))
  me__law_right c__law_is_text c__law_is_signs c_is_text c_is_signs ▸ h
/-! ### _law_text -/
def N__law_text : List Str := ["_law_pen", "_law_size", "_law_every", "_law_some", "_law_k"]
abbrev s__law_text : Stmt := top 13
theorem sc__law_text : FnScope N__law_text ["_law_pen", "_law_size"] (defScope s__law_text) := ⟨rfl, rfl, rfl, by decide +kernel, rfl, by decide +kernel, by decide +kernel⟩
def m__law_text_0 (c__law_all : Ct) (c__law_draw : Ct) (c__law_signs : Ct) : MS :=
  sRet (mOp oAdd (mSm jJoin (mVal (.str ("" : Str))) (aCons (mLc [4] (iRange1 (mCall cMinA (aCons (mVar 1) (aCons (mVal (.int 60)) (aNil))))) (gNm 4) (bYes) (mOp oIxA (mVar 3) (mFnK c__law_draw (pick [(false, 0), (false, 1)]) 2 0 (aCons (mVar 0) (aCons (mCall cLen (aCons (mVar 3) (aNil))) (aNil))) (aNil)))) (aNil))) (mOp oMul (mSl (mVar 3) (oNone) (oSome (mVal (.int 1)))) (mOp oSub (mVar 1) (mCall cMinA (aCons (mVar 1) (aCons (mVal (.int 60)) (aNil)))))))
def m__law_text_1 (c__law_all : Ct) (c__law_draw : Ct) (c__law_signs : Ct) : MS :=
  sSeq (sSet 3 (mOp oIxA (mLst (aCons (mVar 2) (aCons (mVal (.str ("ab" : Str))) (aCons (mFnK c__law_signs (pick [(false, 0)]) 1 0 (aCons (mVar 0) (aNil)) (aNil)) (aNil))))) (mFnK c__law_draw (pick [(false, 0), (false, 1)]) 2 0 (aCons (mVar 0) (aCons (mVal (.int 3)) (aNil))) (aNil))))
  (m__law_text_0 c__law_all c__law_draw c__law_signs)
def m__law_text_2 (c__law_all : Ct) (c__law_draw : Ct) (c__law_signs : Ct) : MS :=
  sSeq (sSet 2 (mFnK c__law_all (pick []) 0 0 (aNil) (aNil)))
  (m__law_text_1 c__law_all c__law_draw c__law_signs)
def m__law_text (c__law_all : Ct) (c__law_draw : Ct) (c__law_signs : Ct) : MS := m__law_text_2 c__law_all c__law_draw c__law_signs
def mi__law_text (c__law_all : Ct) (c__law_draw : Ct) (c__law_signs : Ct) : MS :=
  sSeq (sSet 2 (mFnK c__law_all (pick []) 0 0 (aNil) (aNil)))
  (sSeq (sSet 3 (mOp oIxA (mLst (aCons (mVar 2) (aCons (mVal (.str ("ab" : Str))) (aCons (mFnK c__law_signs (pick [(false, 0)]) 1 0 (aCons (mVar 0) (aNil)) (aNil)) (aNil))))) (mFnK c__law_draw (pick [(false, 0), (false, 1)]) 2 0 (aCons (mVar 0) (aCons (mVal (.int 3)) (aNil))) (aNil))))
  (sRet (mOp oAdd (mSm jJoin (mVal (.str ("" : Str))) (aCons (mLc [4] (iRange1 (mCall cMinA (aCons (mVar 1) (aCons (mVal (.int 60)) (aNil))))) (gNm 4) (bYes) (mOp oIxA (mVar 3) (mFnK c__law_draw (pick [(false, 0), (false, 1)]) 2 0 (aCons (mVar 0) (aCons (mCall cLen (aCons (mVar 3) (aNil))) (aNil))) (aNil)))) (aNil))) (mOp oMul (mSl (mVar 3) (oNone) (oSome (mVal (.int 1)))) (mOp oSub (mVar 1) (mCall cMinA (aCons (mVar 1) (aCons (mVal (.int 60)) (aNil)))))))))
theorem me__law_text (c__law_all : Ct) (c__law_draw : Ct) (c__law_signs : Ct) : mi__law_text c__law_all c__law_draw c__law_signs = m__law_text c__law_all c__law_draw c__law_signs := by rfl
theorem d__law_text {P : Program} {w : World} {K : Fg} {mg : Str → Option Value} {base : Heap} {f : Addr} {cdv : Value} {A : Around} {outer : List Env} {s : Shared} {H : Hp} {E : XK} {k : Nat} {c__law_all c__law_draw c__law_signs : Ct} (g : Gb w K mg)
    (h__law_all_0 : Def P w K mg base k "_law_all" 0 [] (pick []) c__law_all)
    (h__law_draw_2 : Def P w K mg base k "_law_draw" 2 [] (pick [(false, 0), (false, 1)]) c__law_draw)
    (h__law_signs_1 : Def P w K mg base k "_law_signs" 1 [] (pick [(false, 0)]) c__law_signs)
    (hr : Room k (A.deeper (envOfC "_law_text" (defScope s__law_text) s.heap.objs.size f cdv))) (hgu : A.guards = some []) :
    DSs (cxOf CX0 P w K mg base N__law_text "_law_text" (defScope s__law_text) f cdv A outer s H E).nox (defBody s__law_text) (m__law_text c__law_all c__law_draw c__law_signs) :=
  have nd := sc__law_text.nd
  have h : DSs (cxOf CX0 P w K mg base N__law_text "_law_text" (defScope s__law_text) f cdv A outer s H E).nox (defBody s__law_text) (mi__law_text c__law_all c__law_draw c__law_signs) :=
  (dss_cons (ds_set (i := 2) nd (by rfl) (by first | exact .inl rfl | exact .inr rfl) (de_def0 h__law_all_0 hr hgu (by rfl)))
  (dss_cons (ds_set (i := 3) nd (by rfl) (by first | exact .inl rfl | exact .inr rfl) (de_ixA (u1 hr) (de_lst (da_cons (de_var (i := 2) (by rfl) (by first | exact .inl rfl | exact .inr (.inl rfl) | exact .inr (.inr rfl))) (da_cons (de_str) (da_cons (de_def h__law_signs_1 hr hgu (by rfl) (da_cons (de_var (i := 0) (by rfl) (by first | exact .inl rfl | exact .inr (.inl rfl) | exact .inr (.inr rfl))) (da_nil))) (da_nil))))) (de_def h__law_draw_2 hr hgu (by rfl) (da_cons (de_var (i := 0) (by rfl) (by first | exact .inl rfl | exact .inr (.inl rfl) | exact .inr (.inr rfl))) (da_cons (de_int) (da_nil))))))
  (dss_one (ds_ret (de_op opd_add (de_sm smd_join PySem.F.slot_str_join PySem.F.type_str_join (de_str) (da_cons (de_lc (own := [(("_law_k" : Str), 4)]) (by rfl) nd (di_range1 (by rfl) g.b_range (de_callB (calld_minA (by rfl)) (by rfl) g.b_min (by rfl) (da_cons (de_var (i := 1) (by rfl) (by first | exact .inl rfl | exact .inr (.inl rfl) | exact .inr (.inr rfl))) (da_cons (de_int) (da_nil))))) (blkOk_by (N := N__law_text) (sc := defScope s__law_text) (own := [(("_law_k" : Str), 4)]) (by decide +kernel)) (fun _ _ _ _ _ => dg_name (i := 4) nd (by rfl) (by first | exact .inl rfl | exact .inr rfl) (by simp)) (fun _ _ _ _ _ => dts_nil) (fun _ _ _ _ _ => de_ixA (u1 hr) (de_var (i := 3) (by rfl) (by first | exact .inl rfl | exact .inr (.inl rfl) | exact .inr (.inr rfl))) (de_def h__law_draw_2 hr hgu (by rfl) (da_cons (de_var (i := 0) (by rfl) (by first | exact .inl rfl | exact .inr (.inl rfl) | exact .inr (.inr rfl))) (da_cons (de_callB calld_len (by rfl) g.b_len (by rfl) (da_cons (de_var (i := 3) (by rfl) (by first | exact .inl rfl | exact .inr (.inl rfl) | exact .inr (.inr rfl))) (da_nil))) (da_nil)))))) (da_nil))) (de_op opd_mul (de_slice (de_var (i := 3) (by rfl) (by first | exact .inl rfl | exact .inr (.inl rfl) | exact .inr (.inr rfl))) (do_none) (do_some (de_int))) (de_op opd_sub (de_var (i := 1) (by rfl) (by first | exact .inl rfl | exact .inr (.inl rfl) | exact .inr (.inr rfl))) (de_callB (calld_minA (by rfl)) (by rfl) g.b_min (by rfl) (da_cons (de_var (i := 1) (by rfl) (by first | exact .inl rfl | exact .inr (.inl rfl) | exact .inr (.inr rfl))) (da_cons (de_int) (da_nil)))))))))))
  me__law_text c__law_all c__law_draw c__law_signs ▸ h
/-! ### _law_spoilt -/
def N__law_spoilt : List Str := ["_law_pen", "_law_some", "_law_strange", "_law_at"]
abbrev s__law_spoilt : Stmt := top 14
theorem sc__law_spoilt : FnScope N__law_spoilt ["_law_pen", "_law_some"] (defScope s__law_spoilt) := ⟨rfl, rfl, rfl, by decide +kernel, rfl, by decide +kernel, by decide +kernel⟩
def m__law_spoilt_0 (c__law_draw : Ct) : MS :=
  sRet (mOp oIxA (mLst (aCons (mOp oAdd (mOp oAdd (mSl (mVar 1) (oNone) (oSome (mVar 3))) (mVar 2)) (mSl (mVar 1) (oSome (mVar 3)) (oNone))) (aCons (mOp oAdd (mSl (mVar 1) (oNone) (oSome (mVar 3))) (mSl (mVar 1) (oSome (mOp oAdd (mVar 3) (mVal (.int 1)))) (oNone))) (aCons (mRevB (mVar 1)) (aCons (mOp oAdd (mVar 1) (mVar 1)) (aNil)))))) (mFnK c__law_draw (pick [(false, 0), (false, 1)]) 2 0 (aCons (mVar 0) (aCons (mVal (.int 4)) (aNil))) (aNil)))
def m__law_spoilt_1 (c__law_draw : Ct) : MS :=
  sSeq (sSet 3 (mFnK c__law_draw (pick [(false, 0), (false, 1)]) 2 0 (aCons (mVar 0) (aCons (mOp oAdd (mCall cLen (aCons (mVar 1) (aNil))) (mVal (.int 1))) (aNil))) (aNil)))
  (m__law_spoilt_0 c__law_draw)
def m__law_spoilt_2 (c__law_draw : Ct) : MS :=
  sSeq (sSet 2 (mOp oIxA (mLst (aCons (mVal (.str ("\t" : Str))) (aCons (mVal (.str ("a" : Str))) (aCons (mVal (.str ("~" : Str))) (aCons (mVal (.str ("\n" : Str))) (aCons (mVal (.str (" " : Str))) (aCons (mVal (.str ("\t\t" : Str))) (aCons (mVal (.str ("{" : Str))) (aNil))))))))) (mFnK c__law_draw (pick [(false, 0), (false, 1)]) 2 0 (aCons (mVar 0) (aCons (mVal (.int 7)) (aNil))) (aNil))))
  (m__law_spoilt_1 c__law_draw)
def m__law_spoilt (c__law_draw : Ct) : MS := m__law_spoilt_2 c__law_draw
def mi__law_spoilt (c__law_draw : Ct) : MS :=
  sSeq (sSet 2 (mOp oIxA (mLst (aCons (mVal (.str ("\t" : Str))) (aCons (mVal (.str ("a" : Str))) (aCons (mVal (.str ("~" : Str))) (aCons (mVal (.str ("\n" : Str))) (aCons (mVal (.str (" " : Str))) (aCons (mVal (.str ("\t\t" : Str))) (aCons (mVal (.str ("{" : Str))) (aNil))))))))) (mFnK c__law_draw (pick [(false, 0), (false, 1)]) 2 0 (aCons (mVar 0) (aCons (mVal (.int 7)) (aNil))) (aNil))))
  (sSeq (sSet 3 (mFnK c__law_draw (pick [(false, 0), (false, 1)]) 2 0 (aCons (mVar 0) (aCons (mOp oAdd (mCall cLen (aCons (mVar 1) (aNil))) (mVal (.int 1))) (aNil))) (aNil)))
  (sRet (mOp oIxA (mLst (aCons (mOp oAdd (mOp oAdd (mSl (mVar 1) (oNone) (oSome (mVar 3))) (mVar 2)) (mSl (mVar 1) (oSome (mVar 3)) (oNone))) (aCons (mOp oAdd (mSl (mVar 1) (oNone) (oSome (mVar 3))) (mSl (mVar 1) (oSome (mOp oAdd (mVar 3) (mVal (.int 1)))) (oNone))) (aCons (mRevB (mVar 1)) (aCons (mOp oAdd (mVar 1) (mVar 1)) (aNil)))))) (mFnK c__law_draw (pick [(false, 0), (false, 1)]) 2 0 (aCons (mVar 0) (aCons (mVal (.int 4)) (aNil))) (aNil)))))
theorem me__law_spoilt (c__law_draw : Ct) : mi__law_spoilt c__law_draw = m__law_spoilt c__law_draw := by rfl
theorem d__law_spoilt {P : Program} {w : World} {K : Fg} {mg : Str → Option Value} {base : Heap} {f : Addr} {cdv : Value} {A : Around} {outer : List Env} {s : Shared} {H : Hp} {E : XK} {k : Nat} {c__law_draw : Ct} (g : Gb w K mg)
    (h__law_draw_2 : Def P w K mg base k "_law_draw" 2 [] (pick [(false, 0), (false, 1)]) c__law_draw)
    (hr : Room k (A.deeper (envOfC "_law_spoilt" (defScope s__law_spoilt) s.heap.objs.size f cdv))) (hgu : A.guards = some []) :
    DSs (cxOf CX0 P w K mg base N__law_spoilt "_law_spoilt" (defScope s__law_spoilt) f cdv A outer s H E).nox (defBody s__law_spoilt) (m__law_spoilt c__law_draw) :=
  have nd := sc__law_spoilt.nd
  have h : DSs (cxOf CX0 P w K mg base N__law_spoilt "_law_spoilt" (defScope s__law_spoilt) f cdv A outer s H E).nox (defBody s__law_spoilt) (mi__law_spoilt c__law_draw) :=
  (dss_cons (ds_set (i := 2) nd (by rfl) (by first | exact .inl rfl | exact .inr rfl) (de_ixA (u1 hr) (de_lst (da_cons (de_str) (da_cons (de_str) (da_cons (de_str) (da_cons (de_str) (da_cons (de_str) (da_cons (de_str) (da_cons (de_str) (da_nil))))))))) (de_def h__law_draw_2 hr hgu (by rfl) (da_cons (de_var (i := 0) (by rfl) (by first | exact .inl rfl | exact .inr (.inl rfl) | exact .inr (.inr rfl))) (da_cons (de_int) (da_nil))))))
  (dss_cons (ds_set (i := 3) nd (by rfl) (by first | exact .inl rfl | exact .inr rfl) (de_def h__law_draw_2 hr hgu (by rfl) (da_cons (de_var (i := 0) (by rfl) (by first | exact .inl rfl | exact .inr (.inl rfl) | exact .inr (.inr rfl))) (da_cons (de_op opd_add (de_callB calld_len (by rfl) g.b_len (by rfl) (da_cons (de_var (i := 1) (by rfl) (by first | exact .inl rfl | exact .inr (.inl rfl) | exact .inr (.inr rfl))) (da_nil))) (de_int)) (da_nil)))))
  (dss_one (ds_ret (de_ixA (u1 hr) (de_lst (da_cons (de_op opd_add (de_op opd_add (de_slice (de_var (i := 1) (by rfl) (by first | exact .inl rfl | exact .inr (.inl rfl) | exact .inr (.inr rfl))) (do_none) (do_some (de_var (i := 3) (by rfl) (by first | exact .inl rfl | exact .inr (.inl rfl) | exact .inr (.inr rfl))))) (de_var (i := 2) (by rfl) (by first | exact .inl rfl | exact .inr (.inl rfl) | exact .inr (.inr rfl)))) (de_slice (de_var (i := 1) (by rfl) (by first | exact .inl rfl | exact .inr (.inl rfl) | exact .inr (.inr rfl))) (do_some (de_var (i := 3) (by rfl) (by first | exact .inl rfl | exact .inr (.inl rfl) | exact .inr (.inr rfl)))) (do_none))) (da_cons (de_op opd_add (de_slice (de_var (i := 1) (by rfl) (by first | exact .inl rfl | exact .inr (.inl rfl) | exact .inr (.inr rfl))) (do_none) (do_some (de_var (i := 3) (by rfl) (by first | exact .inl rfl | exact .inr (.inl rfl) | exact .inr (.inr rfl))))) (de_slice (de_var (i := 1) (by rfl) (by first | exact .inl rfl | exact .inr (.inl rfl) | exact .inr (.inr rfl))) (do_some (de_op opd_add (de_var (i := 3) (by rfl) (by first | exact .inl rfl | exact .inr (.inl rfl) | exact .inr (.inr rfl))) (de_int))) (do_none))) (da_cons (de_revB (de_var (i := 1) (by rfl) (by first | exact .inl rfl | exact .inr (.inl rfl) | exact .inr (.inr rfl)))) (da_cons (de_op opd_add (de_var (i := 1) (by rfl) (by first | exact .inl rfl | exact .inr (.inl rfl) | exact .inr (.inr rfl))) (de_var (i := 1) (by rfl) (by first | exact .inl rfl | exact .inr (.inl rfl) | exact .inr (.inr rfl)))) (da_nil)))))) (de_def h__law_draw_2 hr hgu (by rfl) (da_cons (de_var (i := 0) (by rfl) (by first | exact .inl rfl | exact .inr (.inl rfl) | exact .inr (.inr rfl))) (da_cons (de_int) (da_nil)))))))))
  me__law_spoilt c__law_draw ▸ h
/-! ### law -/
def N_law : List Str := ["_law_script", "_law_pen", "_law_turn", "_law_size", "_law_bound", "_law_some", "_law_signs_here", "_law_one"]
abbrev s_law : Stmt := top 15
theorem sc_law : FnScope N_law ["_law_script"] (defScope s_law) := ⟨rfl, rfl, rfl, by decide +kernel, rfl, by decide +kernel, by decide +kernel⟩
def m_law_0 (c__law_all : Ct) (c__law_draw : Ct) (c__law_text : Ct) (c__law_signs : Ct) (c__law_spoilt : Ct) (c__law_right : Ct) (c_is_signs : Ct) : MS :=
  sIf (bOr (bNot (mTru (mFnK c__law_right (pick [(false, 0), (false, 1)]) 2 0 (aCons (mVar 7) (aCons (mVar 4) (aNil))) (aNil)))) (bNot (mTru (mFnK c__law_right (pick [(false, 0), (false, 1)]) 2 0 (aCons (mVar 7) (aCons (mCall cLen (aCons (mVar 7) (aNil))) (aNil))) (aNil))))) (sRet (mVal (.bool false))) (sNext)
def m_law_1 (c__law_all : Ct) (c__law_draw : Ct) (c__law_text : Ct) (c__law_signs : Ct) (c__law_spoilt : Ct) (c__law_right : Ct) (c_is_signs : Ct) : MS :=
  sIf (bOr (bNot (mTru (mFnK c__law_right (pick [(false, 0), (false, 1)]) 2 0 (aCons (mLst (aCons (mSl (mVar 5) (oNone) (oSome (mVal (.int 9)))) (aNil))) (aCons (mVar 4) (aNil))) (aNil)))) (bNot (mTru (mFnK c__law_right (pick [(false, 0), (false, 1)]) 2 0 (aCons (mTup (aCons (mSl (mVar 6) (oNone) (oSome (mVal (.int 9)))) (aNil))) (aCons (mVar 4) (aNil))) (aNil))))) (sRet (mVal (.bool false))) (sNext)
def m_law_2 (c__law_all : Ct) (c__law_draw : Ct) (c__law_text : Ct) (c__law_signs : Ct) (c__law_spoilt : Ct) (c__law_right : Ct) (c_is_signs : Ct) : MS :=
  sSeq (sFor (iOf (mTup (aCons (mVar 5) (aCons (mFnK c__law_spoilt (pick [(false, 0), (false, 1)]) 2 0 (aCons (mVar 1) (aCons (mVar 5) (aNil))) (aNil)) (aCons (mVar 6) (aCons (mFnK c__law_spoilt (pick [(false, 0), (false, 1)]) 2 0 (aCons (mVar 1) (aCons (mVar 6) (aNil))) (aNil)) (aCons (mSm jJoin (mVal (.str ("" : Str))) (aCons (mSortSet (mVar 5)) (aNil))) (aNil)))))))) (gNm 7)
  (m_law_0 c__law_all c__law_draw c__law_text c__law_signs c__law_spoilt c__law_right c_is_signs))
  (m_law_1 c__law_all c__law_draw c__law_text c__law_signs c__law_spoilt c__law_right c_is_signs)
def m_law_3 (c__law_all : Ct) (c__law_draw : Ct) (c__law_text : Ct) (c__law_signs : Ct) (c__law_spoilt : Ct) (c__law_right : Ct) (c_is_signs : Ct) : MS :=
  sSeq (sSet 6 (mFnK c__law_signs (pick [(false, 0)]) 1 0 (aCons (mVar 1) (aNil)) (aNil)))
  (m_law_2 c__law_all c__law_draw c__law_text c__law_signs c__law_spoilt c__law_right c_is_signs)
def m_law_4 (c__law_all : Ct) (c__law_draw : Ct) (c__law_text : Ct) (c__law_signs : Ct) (c__law_spoilt : Ct) (c__law_right : Ct) (c_is_signs : Ct) : MS :=
  sSeq (sSet 5 (mFnK c__law_text (pick [(false, 0), (false, 1)]) 2 0 (aCons (mVar 1) (aCons (mVar 3) (aNil))) (aNil)))
  (m_law_3 c__law_all c__law_draw c__law_text c__law_signs c__law_spoilt c__law_right c_is_signs)
def m_law_5 (c__law_all : Ct) (c__law_draw : Ct) (c__law_text : Ct) (c__law_signs : Ct) (c__law_spoilt : Ct) (c__law_right : Ct) (c_is_signs : Ct) : MS :=
  sSeq (sSet 4 (mOp oIxA (mLst (aCons (mVar 3) (aCons (mOp oAdd (mVar 3) (mVal (.int 1))) (aCons (mCall cMaxA (aCons (mVal (.int 0)) (aCons (mOp oSub (mVar 3) (mVal (.int 1))) (aNil)))) (aCons (mVal (.int 60)) (aCons (mFnK c__law_draw (pick [(false, 0), (false, 1)]) 2 0 (aCons (mVar 1) (aCons (mVal (.int 402)) (aNil))) (aNil)) (aNil))))))) (mFnK c__law_draw (pick [(false, 0), (false, 1)]) 2 0 (aCons (mVar 1) (aCons (mVal (.int 5)) (aNil))) (aNil))))
  (m_law_4 c__law_all c__law_draw c__law_text c__law_signs c__law_spoilt c__law_right c_is_signs)
def m_law_6 (c__law_all : Ct) (c__law_draw : Ct) (c__law_text : Ct) (c__law_signs : Ct) (c__law_spoilt : Ct) (c__law_right : Ct) (c_is_signs : Ct) : MS :=
  sSeq (sSet 3 (mOp oIxA (mLst (aCons (mVal (.int 0)) (aCons (mVal (.int 1)) (aCons (mVal (.int 59)) (aCons (mVal (.int 60)) (aCons (mVal (.int 61)) (aCons (mVal (.int 400)) (aCons (mFnK c__law_draw (pick [(false, 0), (false, 1)]) 2 0 (aCons (mVar 1) (aCons (mVal (.int 20)) (aNil))) (aNil)) (aNil))))))))) (mFnK c__law_draw (pick [(false, 0), (false, 1)]) 2 0 (aCons (mVar 1) (aCons (mVal (.int 7)) (aNil))) (aNil))))
  (m_law_5 c__law_all c__law_draw c__law_text c__law_signs c__law_spoilt c__law_right c_is_signs)
def m_law_7 (c__law_all : Ct) (c__law_draw : Ct) (c__law_text : Ct) (c__law_signs : Ct) (c__law_spoilt : Ct) (c__law_right : Ct) (c_is_signs : Ct) : MS :=
  sRet (mCall cAll (aCons (mLc [7] (iOf (mTup (aCons (mVal .none) (aCons (mVal (.bool true)) (aCons (mVal (.int 0)) (aCons (mVal (.int 7)) (aCons (mVal (.str ("" : Str))) (aCons (mVal (.str ("a" : Str))) (aCons (mTup (aNil)) (aCons (mLst (aNil)) (aCons (mDNew) (aCons (mTup (aCons (mVal (.str ("a" : Str))) (aNil))) (aCons (mLst (aCons (mVal (.str ("a" : Str))) (aCons (mVal (.str ("b" : Str))) (aNil)))) (aCons (mDisp [(mVal (.str ("a" : Str)), mVal (.int 1))]) (aNil))))))))))))))) (gNm 7) (bYes) (mFnK c__law_right (pick [(false, 0), (false, 1)]) 2 0 (aCons (mVar 7) (aCons (mVal (.int 3)) (aNil))) (aNil))) (aNil)))
def m_law_8 (c__law_all : Ct) (c__law_draw : Ct) (c__law_text : Ct) (c__law_signs : Ct) (c__law_spoilt : Ct) (c__law_right : Ct) (c_is_signs : Ct) : MS :=
  sSeq (sIf (bOr (mTest (mOp oIsNot (mFnK c_is_signs (fun xs zs => pick [(false, 0), (true, 0)] xs (zs ++ [.int 0].map R.val)) 1 0 (aCons (mVal (.str ("\n !\"#$&'()*+,-./0123456789:;<=>?@ABCDEFGHIJKLMNOPQRSTUVWXYZ[\\]^_`abcdefghijklmnopqrstuvwxyz{|}~" : Str))) (aNil)) (aNil)) (mVal (.bool false)))) (bOr (mTest (mOp oIsNot (mFnK c_is_signs (fun xs zs => pick [(false, 0), (true, 0)] xs (zs ++ [.int 0].map R.val)) 1 0 (aCons (mSl (mVal (.str ("\n !\"#$&'()*+,-./0123456789:;<=>?@ABCDEFGHIJKLMNOPQRSTUVWXYZ[\\]^_`abcdefghijklmnopqrstuvwxyz{|}~" : Str))) (oSome (mVal (.int 1))) (oNone)) (aNil)) (aNil)) (mVal (.bool true)))) (mTest (mOp oIsNot (mFnK c_is_signs (pick [(false, 0), (true, 0)]) 1 1 (aCons (mSl (mVal (.str ("\n !\"#$&'()*+,-./0123456789:;<=>?@ABCDEFGHIJKLMNOPQRSTUVWXYZ[\\]^_`abcdefghijklmnopqrstuvwxyz{|}~" : Str))) (oNone) (oSome (mVal (.int 94)))) (aNil)) (aCons (mVal (.int 94)) (aNil))) (mVal (.bool true)))))) (sRet (mVal (.bool false))) (sNext))
  (m_law_7 c__law_all c__law_draw c__law_text c__law_signs c__law_spoilt c__law_right c_is_signs)
def m_law_9 (c__law_all : Ct) (c__law_draw : Ct) (c__law_text : Ct) (c__law_signs : Ct) (c__law_spoilt : Ct) (c__law_right : Ct) (c_is_signs : Ct) : MS :=
  sSeq (sFor (iRange1 (mVal (.int 12))) (gNm 2)
  (m_law_6 c__law_all c__law_draw c__law_text c__law_signs c__law_spoilt c__law_right c_is_signs))
  (m_law_8 c__law_all c__law_draw c__law_text c__law_signs c__law_spoilt c__law_right c_is_signs)
def m_law_10 (c__law_all : Ct) (c__law_draw : Ct) (c__law_text : Ct) (c__law_signs : Ct) (c__law_spoilt : Ct) (c__law_right : Ct) (c_is_signs : Ct) : MS :=
  sSeq (sIf (bOr (mTest (mOp oNe (mCall cLen (aCons (mVal (.str ("\n !\"#$&'()*+,-./0123456789:;<=>?@ABCDEFGHIJKLMNOPQRSTUVWXYZ[\\]^_`abcdefghijklmnopqrstuvwxyz{|}~" : Str))) (aNil))) (mVal (.int 95)))) (bOr (mTest (mOp oNe (mVal (.str ("\n !\"#$&'()*+,-./0123456789:;<=>?@ABCDEFGHIJKLMNOPQRSTUVWXYZ[\\]^_`abcdefghijklmnopqrstuvwxyz{|}~" : Str))) (mFnK c__law_all (pick []) 0 0 (aNil) (aNil)))) (mTest (mOp oNe (mVal (.str ("\n !\"#$&'()*+,-./0123456789:;<=>?@ABCDEFGHIJKLMNOPQRSTUVWXYZ[\\]^_`abcdefghijklmnopqrstuvwxyz{|}~" : Str))) (mSm jJoin (mVal (.str ("" : Str))) (aCons (mSortSet (mVal (.str ("\n !\"#$&'()*+,-./0123456789:;<=>?@ABCDEFGHIJKLMNOPQRSTUVWXYZ[\\]^_`abcdefghijklmnopqrstuvwxyz{|}~" : Str)))) (aNil))))))) (sRet (mVal (.bool false))) (sNext))
  (m_law_9 c__law_all c__law_draw c__law_text c__law_signs c__law_spoilt c__law_right c_is_signs)
def m_law_11 (c__law_all : Ct) (c__law_draw : Ct) (c__law_text : Ct) (c__law_signs : Ct) (c__law_spoilt : Ct) (c__law_right : Ct) (c_is_signs : Ct) : MS :=
  sSeq (sSet 1 (mLst (aCons (mCall cList (aCons (mSlS (mVar 0) (oNone) (oSome (mVal (.int 63)))) (aNil))) (aCons (mVal (.int 0)) (aCons (mVal (.int 0)) (aNil))))))
  (m_law_10 c__law_all c__law_draw c__law_text c__law_signs c__law_spoilt c__law_right c_is_signs)
def m_law (c__law_all : Ct) (c__law_draw : Ct) (c__law_text : Ct) (c__law_signs : Ct) (c__law_spoilt : Ct) (c__law_right : Ct) (c_is_signs : Ct) : MS := m_law_11 c__law_all c__law_draw c__law_text c__law_signs c__law_spoilt c__law_right c_is_signs
def mi_law (c__law_all : Ct) (c__law_draw : Ct) (c__law_text : Ct) (c__law_signs : Ct) (c__law_spoilt : Ct) (c__law_right : Ct) (c_is_signs : Ct) : MS :=
  sSeq (sSet 1 (mLst (aCons (mCall cList (aCons (mSlS (mVar 0) (oNone) (oSome (mVal (.int 63)))) (aNil))) (aCons (mVal (.int 0)) (aCons (mVal (.int 0)) (aNil))))))
  (sSeq (sIf (bOr (mTest (mOp oNe (mCall cLen (aCons (mVal (.str ("\n !\"#$&'()*+,-./0123456789:;<=>?@ABCDEFGHIJKLMNOPQRSTUVWXYZ[\\]^_`abcdefghijklmnopqrstuvwxyz{|}~" : Str))) (aNil))) (mVal (.int 95)))) (bOr (mTest (mOp oNe (mVal (.str ("\n !\"#$&'()*+,-./0123456789:;<=>?@ABCDEFGHIJKLMNOPQRSTUVWXYZ[\\]^_`abcdefghijklmnopqrstuvwxyz{|}~" : Str))) (mFnK c__law_all (pick []) 0 0 (aNil) (aNil)))) (mTest (mOp oNe (mVal (.str ("\n !\"#$&'()*+,-./0123456789:;<=>?@ABCDEFGHIJKLMNOPQRSTUVWXYZ[\\]^_`abcdefghijklmnopqrstuvwxyz{|}~" : Str))) (mSm jJoin (mVal (.str ("" : Str))) (aCons (mSortSet (mVal (.str ("\n !\"#$&'()*+,-./0123456789:;<=>?@ABCDEFGHIJKLMNOPQRSTUVWXYZ[\\]^_`abcdefghijklmnopqrstuvwxyz{|}~" : Str)))) (aNil))))))) (sRet (mVal (.bool false))) (sNext))
  (sSeq (sFor (iRange1 (mVal (.int 12))) (gNm 2)
  (sSeq (sSet 3 (mOp oIxA (mLst (aCons (mVal (.int 0)) (aCons (mVal (.int 1)) (aCons (mVal (.int 59)) (aCons (mVal (.int 60)) (aCons (mVal (.int 61)) (aCons (mVal (.int 400)) (aCons (mFnK c__law_draw (pick [(false, 0), (false, 1)]) 2 0 (aCons (mVar 1) (aCons (mVal (.int 20)) (aNil))) (aNil)) (aNil))))))))) (mFnK c__law_draw (pick [(false, 0), (false, 1)]) 2 0 (aCons (mVar 1) (aCons (mVal (.int 7)) (aNil))) (aNil))))
  (sSeq (sSet 4 (mOp oIxA (mLst (aCons (mVar 3) (aCons (mOp oAdd (mVar 3) (mVal (.int 1))) (aCons (mCall cMaxA (aCons (mVal (.int 0)) (aCons (mOp oSub (mVar 3) (mVal (.int 1))) (aNil)))) (aCons (mVal (.int 60)) (aCons (mFnK c__law_draw (pick [(false, 0), (false, 1)]) 2 0 (aCons (mVar 1) (aCons (mVal (.int 402)) (aNil))) (aNil)) (aNil))))))) (mFnK c__law_draw (pick [(false, 0), (false, 1)]) 2 0 (aCons (mVar 1) (aCons (mVal (.int 5)) (aNil))) (aNil))))
  (sSeq (sSet 5 (mFnK c__law_text (pick [(false, 0), (false, 1)]) 2 0 (aCons (mVar 1) (aCons (mVar 3) (aNil))) (aNil)))
  (sSeq (sSet 6 (mFnK c__law_signs (pick [(false, 0)]) 1 0 (aCons (mVar 1) (aNil)) (aNil)))
  (sSeq (sFor (iOf (mTup (aCons (mVar 5) (aCons (mFnK c__law_spoilt (pick [(false, 0), (false, 1)]) 2 0 (aCons (mVar 1) (aCons (mVar 5) (aNil))) (aNil)) (aCons (mVar 6) (aCons (mFnK c__law_spoilt (pick [(false, 0), (false, 1)]) 2 0 (aCons (mVar 1) (aCons (mVar 6) (aNil))) (aNil)) (aCons (mSm jJoin (mVal (.str ("" : Str))) (aCons (mSortSet (mVar 5)) (aNil))) (aNil)))))))) (gNm 7)
  (sIf (bOr (bNot (mTru (mFnK c__law_right (pick [(false, 0), (false, 1)]) 2 0 (aCons (mVar 7) (aCons (mVar 4) (aNil))) (aNil)))) (bNot (mTru (mFnK c__law_right (pick [(false, 0), (false, 1)]) 2 0 (aCons (mVar 7) (aCons (mCall cLen (aCons (mVar 7) (aNil))) (aNil))) (aNil))))) (sRet (mVal (.bool false))) (sNext)))
  (sIf (bOr (bNot (mTru (mFnK c__law_right (pick [(false, 0), (false, 1)]) 2 0 (aCons (mLst (aCons (mSl (mVar 5) (oNone) (oSome (mVal (.int 9)))) (aNil))) (aCons (mVar 4) (aNil))) (aNil)))) (bNot (mTru (mFnK c__law_right (pick [(false, 0), (false, 1)]) 2 0 (aCons (mTup (aCons (mSl (mVar 6) (oNone) (oSome (mVal (.int 9)))) (aNil))) (aCons (mVar 4) (aNil))) (aNil))))) (sRet (mVal (.bool false))) (sNext))))))))
  (sSeq (sIf (bOr (mTest (mOp oIsNot (mFnK c_is_signs (fun xs zs => pick [(false, 0), (true, 0)] xs (zs ++ [.int 0].map R.val)) 1 0 (aCons (mVal (.str ("\n !\"#$&'()*+,-./0123456789:;<=>?@ABCDEFGHIJKLMNOPQRSTUVWXYZ[\\]^_`abcdefghijklmnopqrstuvwxyz{|}~" : Str))) (aNil)) (aNil)) (mVal (.bool false)))) (bOr (mTest (mOp oIsNot (mFnK c_is_signs (fun xs zs => pick [(false, 0), (true, 0)] xs (zs ++ [.int 0].map R.val)) 1 0 (aCons (mSl (mVal (.str ("\n !\"#$&'()*+,-./0123456789:;<=>?@ABCDEFGHIJKLMNOPQRSTUVWXYZ[\\]^_`abcdefghijklmnopqrstuvwxyz{|}~" : Str))) (oSome (mVal (.int 1))) (oNone)) (aNil)) (aNil)) (mVal (.bool true)))) (mTest (mOp oIsNot (mFnK c_is_signs (pick [(false, 0), (true, 0)]) 1 1 (aCons (mSl (mVal (.str ("\n !\"#$&'()*+,-./0123456789:;<=>?@ABCDEFGHIJKLMNOPQRSTUVWXYZ[\\]^_`abcdefghijklmnopqrstuvwxyz{|}~" : Str))) (oNone) (oSome (mVal (.int 94)))) (aNil)) (aCons (mVal (.int 94)) (aNil))) (mVal (.bool true)))))) (sRet (mVal (.bool false))) (sNext))
  (sRet (mCall cAll (aCons (mLc [7] (iOf (mTup (aCons (mVal .none) (aCons (mVal (.bool true)) (aCons (mVal (.int 0)) (aCons (mVal (.int 7)) (aCons (mVal (.str ("" : Str))) (aCons (mVal (.str ("a" : Str))) (aCons (mTup (aNil)) (aCons (mLst (aNil)) (aCons (mDNew) (aCons (mTup (aCons (mVal (.str ("a" : Str))) (aNil))) (aCons (mLst (aCons (mVal (.str ("a" : Str))) (aCons (mVal (.str ("b" : Str))) (aNil)))) (aCons (mDisp [(mVal (.str ("a" : Str)), mVal (.int 1))]) (aNil))))))))))))))) (gNm 7) (bYes) (mFnK c__law_right (pick [(false, 0), (false, 1)]) 2 0 (aCons (mVar 7) (aCons (mVal (.int 3)) (aNil))) (aNil))) (aNil)))))))
theorem me_law (c__law_all : Ct) (c__law_draw : Ct) (c__law_text : Ct) (c__law_signs : Ct) (c__law_spoilt : Ct) (c__law_right : Ct) (c_is_signs : Ct) : mi_law c__law_all c__law_draw c__law_text c__law_signs c__law_spoilt c__law_right c_is_signs = m_law c__law_all c__law_draw c__law_text c__law_signs c__law_spoilt c__law_right c_is_signs := by rfl
theorem d_law {P : Program} {w : World} {K : Fg} {mg : Str → Option Value} {base : Heap} {f : Addr} {cdv : Value} {A : Around} {outer : List Env} {s : Shared} {H : Hp} {E : XK} {k : Nat} {c__law_all c__law_draw c__law_text c__law_signs c__law_spoilt c__law_right c_is_signs : Ct} (g : Gb w K mg)
    (h__law_all_0 : Def P w K mg base k "_law_all" 0 [] (pick []) c__law_all)
    (h__law_draw_2 : Def P w K mg base k "_law_draw" 2 [] (pick [(false, 0), (false, 1)]) c__law_draw)
    (h__law_text_2 : Def P w K mg base k "_law_text" 2 [] (pick [(false, 0), (false, 1)]) c__law_text)
    (h__law_signs_1 : Def P w K mg base k "_law_signs" 1 [] (pick [(false, 0)]) c__law_signs)
    (h__law_spoilt_2 : Def P w K mg base k "_law_spoilt" 2 [] (pick [(false, 0), (false, 1)]) c__law_spoilt)
    (h__law_right_2 : Def P w K mg base k "_law_right" 2 [] (pick [(false, 0), (false, 1)]) c__law_right)
    (h_is_signs_1 : Def P w K mg base k "is_signs" 1 [] (fun xs zs => pick [(false, 0), (true, 0)] xs (zs ++ [.int 0].map R.val)) c_is_signs)
    (h_is_signs_1_least : Def P w K mg base k "is_signs" 1 ["least"] (pick [(false, 0), (true, 0)]) c_is_signs)
    (hr : Room k (A.deeper (envOfC "law" (defScope s_law) s.heap.objs.size f cdv))) (hgu : A.guards = some []) :
    DSs (cxOf CX0 P w K mg base N_law "law" (defScope s_law) f cdv A outer s H E).nox (defBody s_law) (m_law c__law_all c__law_draw c__law_text c__law_signs c__law_spoilt c__law_right c_is_signs) :=
  have nd := sc_law.nd
  have h : DSs (cxOf CX0 P w K mg base N_law "law" (defScope s_law) f cdv A outer s H E).nox (defBody s_law) (mi_law c__law_all c__law_draw c__law_text c__law_signs c__law_spoilt c__law_right c_is_signs) :=
  (dss_cons (ds_set (i := 1) nd (by rfl) (by first | exact .inl rfl | exact .inr rfl) (de_lst (da_cons (de_callTy calld_list (by rfl) g.b_list (by rfl) (da_cons (de_sliceS (de_var (i := 0) (by rfl) (by first | exact .inl rfl | exact .inr (.inl rfl) | exact .inr (.inr rfl))) (do_none) (do_some (de_int))) (da_nil))) (da_cons (de_int) (da_cons (de_int) (da_nil))))))
  (dss_cons (ds_if (dt_w (dw_or (dt_cmp (opd_ne (u64 hr)) (de_callB calld_len (by rfl) g.b_len (by rfl) (da_cons (de_con g.c_SIGNS (by rfl)) (da_nil))) (de_int) (by rfl)) (dw_or (dt_cmp (opd_ne (u64 hr)) (de_con g.c_SIGNS (by rfl)) (de_def0 h__law_all_0 hr hgu (by rfl)) (by rfl)) (dw_or1 (dt_cmp (opd_ne (u64 hr)) (de_con g.c_SIGNS (by rfl)) (de_sm smd_join PySem.F.slot_str_join PySem.F.type_str_join (de_str) (da_cons (de_sortSet (by rfl) (by rfl) g.b_sorted (by rfl) g.b_set (de_con g.c_SIGNS (by rfl))) (da_nil))) (by rfl)))))) (dss_one (ds_ret (de_bl))) (dss_nil))
  (dss_cons (ds_for (vs := [2]) PassesOwn.never (by rfl) (di_range1 (by rfl) g.b_range (de_int)) (dg_name (i := 2) nd (by rfl) (by first | exact .inl rfl | exact .inr rfl) (by simp))
  (dss_cons (ds_set (i := 3) nd (by rfl) (by first | exact .inl rfl | exact .inr rfl) (de_ixA (u1 hr) (de_lst (da_cons (de_int) (da_cons (de_int) (da_cons (de_int) (da_cons (de_int) (da_cons (de_int) (da_cons (de_int) (da_cons (de_def h__law_draw_2 hr hgu (by rfl) (da_cons (de_var (i := 1) (by rfl) (by first | exact .inl rfl | exact .inr (.inl rfl) | exact .inr (.inr rfl))) (da_cons (de_int) (da_nil)))) (da_nil))))))))) (de_def h__law_draw_2 hr hgu (by rfl) (da_cons (de_var (i := 1) (by rfl) (by first | exact .inl rfl | exact .inr (.inl rfl) | exact .inr (.inr rfl))) (da_cons (de_int) (da_nil))))))
  (dss_cons (ds_set (i := 4) nd (by rfl) (by first | exact .inl rfl | exact .inr rfl) (de_ixA (u1 hr) (de_lst (da_cons (de_var (i := 3) (by rfl) (by first | exact .inl rfl | exact .inr (.inl rfl) | exact .inr (.inr rfl))) (da_cons (de_op opd_add (de_var (i := 3) (by rfl) (by first | exact .inl rfl | exact .inr (.inl rfl) | exact .inr (.inr rfl))) (de_int)) (da_cons (de_callB (calld_maxA (by rfl)) (by rfl) g.b_max (by rfl) (da_cons (de_int) (da_cons (de_op opd_sub (de_var (i := 3) (by rfl) (by first | exact .inl rfl | exact .inr (.inl rfl) | exact .inr (.inr rfl))) (de_int)) (da_nil)))) (da_cons (de_int) (da_cons (de_def h__law_draw_2 hr hgu (by rfl) (da_cons (de_var (i := 1) (by rfl) (by first | exact .inl rfl | exact .inr (.inl rfl) | exact .inr (.inr rfl))) (da_cons (de_int) (da_nil)))) (da_nil))))))) (de_def h__law_draw_2 hr hgu (by rfl) (da_cons (de_var (i := 1) (by rfl) (by first | exact .inl rfl | exact .inr (.inl rfl) | exact .inr (.inr rfl))) (da_cons (de_int) (da_nil))))))
  (dss_cons (ds_set (i := 5) nd (by rfl) (by first | exact .inl rfl | exact .inr rfl) (de_def h__law_text_2 hr hgu (by rfl) (da_cons (de_var (i := 1) (by rfl) (by first | exact .inl rfl | exact .inr (.inl rfl) | exact .inr (.inr rfl))) (da_cons (de_var (i := 3) (by rfl) (by first | exact .inl rfl | exact .inr (.inl rfl) | exact .inr (.inr rfl))) (da_nil)))))
  (dss_cons (ds_set (i := 6) nd (by rfl) (by first | exact .inl rfl | exact .inr rfl) (de_def h__law_signs_1 hr hgu (by rfl) (da_cons (de_var (i := 1) (by rfl) (by first | exact .inl rfl | exact .inr (.inl rfl) | exact .inr (.inr rfl))) (da_nil))))
  (dss_cons (ds_for (vs := [7]) PassesOwn.never (by rfl) (di_of (de_tup (da_cons (de_var (i := 5) (by rfl) (by first | exact .inl rfl | exact .inr (.inl rfl) | exact .inr (.inr rfl))) (da_cons (de_def h__law_spoilt_2 hr hgu (by rfl) (da_cons (de_var (i := 1) (by rfl) (by first | exact .inl rfl | exact .inr (.inl rfl) | exact .inr (.inr rfl))) (da_cons (de_var (i := 5) (by rfl) (by first | exact .inl rfl | exact .inr (.inl rfl) | exact .inr (.inr rfl))) (da_nil)))) (da_cons (de_var (i := 6) (by rfl) (by first | exact .inl rfl | exact .inr (.inl rfl) | exact .inr (.inr rfl))) (da_cons (de_def h__law_spoilt_2 hr hgu (by rfl) (da_cons (de_var (i := 1) (by rfl) (by first | exact .inl rfl | exact .inr (.inl rfl) | exact .inr (.inr rfl))) (da_cons (de_var (i := 6) (by rfl) (by first | exact .inl rfl | exact .inr (.inl rfl) | exact .inr (.inr rfl))) (da_nil)))) (da_cons (de_sm smd_join PySem.F.slot_str_join PySem.F.type_str_join (de_str) (da_cons (de_sortSet (by rfl) (by rfl) g.b_sorted (by rfl) g.b_set (de_var (i := 5) (by rfl) (by first | exact .inl rfl | exact .inr (.inl rfl) | exact .inr (.inr rfl)))) (da_nil))) (da_nil)))))))) (dg_name (i := 7) nd (by rfl) (by first | exact .inl rfl | exact .inr rfl) (by simp))
  (dss_one (ds_if (dt_w (dw_or (dt_not (dt_of (de_def h__law_right_2 hr hgu (by rfl) (da_cons (de_var (i := 7) (by rfl) (by first | exact .inl rfl | exact .inr (.inl rfl) | exact .inr (.inr rfl))) (da_cons (de_var (i := 4) (by rfl) (by first | exact .inl rfl | exact .inr (.inl rfl) | exact .inr (.inr rfl))) (da_nil)))))) (dw_or1 (dt_not (dt_of (de_def h__law_right_2 hr hgu (by rfl) (da_cons (de_var (i := 7) (by rfl) (by first | exact .inl rfl | exact .inr (.inl rfl) | exact .inr (.inr rfl))) (da_cons (de_callB calld_len (by rfl) g.b_len (by rfl) (da_cons (de_var (i := 7) (by rfl) (by first | exact .inl rfl | exact .inr (.inl rfl) | exact .inr (.inr rfl))) (da_nil))) (da_nil))))))))) (dss_one (ds_ret (de_bl))) (dss_nil))))
  (dss_one (ds_if (dt_w (dw_or (dt_not (dt_of (de_def h__law_right_2 hr hgu (by rfl) (da_cons (de_lst (da_cons (de_slice (de_var (i := 5) (by rfl) (by first | exact .inl rfl | exact .inr (.inl rfl) | exact .inr (.inr rfl))) (do_none) (do_some (de_int))) (da_nil))) (da_cons (de_var (i := 4) (by rfl) (by first | exact .inl rfl | exact .inr (.inl rfl) | exact .inr (.inr rfl))) (da_nil)))))) (dw_or1 (dt_not (dt_of (de_def h__law_right_2 hr hgu (by rfl) (da_cons (de_tup (da_cons (de_slice (de_var (i := 6) (by rfl) (by first | exact .inl rfl | exact .inr (.inl rfl) | exact .inr (.inr rfl))) (do_none) (do_some (de_int))) (da_nil))) (da_cons (de_var (i := 4) (by rfl) (by first | exact .inl rfl | exact .inr (.inl rfl) | exact .inr (.inr rfl))) (da_nil))))))))) (dss_one (ds_ret (de_bl))) (dss_nil)))))))))
  (dss_cons (ds_if (dt_w (dw_or (dt_cmp opd_isnot (de_def h_is_signs_1 hr hgu (by rfl) (da_cons (de_con g.c_SIGNS (by rfl)) (da_nil))) (de_bl) (by rfl)) (dw_or (dt_cmp opd_isnot (de_def h_is_signs_1 hr hgu (by rfl) (da_cons (de_slice (de_con g.c_SIGNS (by rfl)) (do_some (de_int)) (do_none)) (da_nil))) (de_bl) (by rfl)) (dw_or1 (dt_cmp opd_isnot (de_defK (ks := ["least"]) h_is_signs_1_least hr hgu (by rfl) (da_cons (de_slice (de_con g.c_SIGNS (by rfl)) (do_none) (do_some (de_int))) (da_nil)) (dk_cons (de_int) (dk_nil))) (de_bl) (by rfl)))))) (dss_one (ds_ret (de_bl))) (dss_nil))
  (dss_one (ds_ret (de_callB (calld_all (by rfl)) (by rfl) g.b_all (by rfl) (da_cons (de_lc (own := [(("_law_one" : Str), 7)]) (by rfl) nd (di_of (de_tup (da_cons (de_non) (da_cons (de_bl) (da_cons (de_int) (da_cons (de_int) (da_cons (de_str) (da_cons (de_str) (da_cons (de_tup (da_nil)) (da_cons (de_lst (da_nil)) (da_cons (de_dnew) (da_cons (de_tup (da_cons (de_str) (da_nil))) (da_cons (de_lst (da_cons (de_str) (da_cons (de_str) (da_nil)))) (da_cons (de_disp (.cons (de_str) (de_int) (.nil))) (da_nil))))))))))))))) (blkOk_by (N := N_law) (sc := defScope s_law) (own := [(("_law_one" : Str), 7)]) (by decide +kernel)) (fun _ _ _ _ _ => dg_name (i := 7) nd (by rfl) (by first | exact .inl rfl | exact .inr rfl) (by simp)) (fun _ _ _ _ _ => dts_nil) (fun _ _ _ _ _ => de_def h__law_right_2 hr hgu (by rfl) (da_cons (de_var (i := 7) (by rfl) (by first | exact .inl rfl | exact .inr (.inl rfl) | exact .inr (.inr rfl))) (da_cons (de_int) (da_nil))))) (da_nil)))))))))
  me_law c__law_all c__law_draw c__law_text c__law_signs c__law_spoilt c__law_right c_is_signs ▸ h
end L01
namespace L01
open PySem L2 PyProof.Rows DL
/-! ### is_text, is_signs, is_name -/
def c_text : Ct := fun as P => ∃ (d : D) (most : Int), as = [.val d, .val (.int most)] ∧ Fit d ∧ P (.val (.bool (isText most d))) [.val d, .val (.int most)]
theorem use_text {d : D} {most : Int} {P : R → List Ar → Prop} (h : Fit d) (q : P (.val (.bool (isText most d))) [.val d, .val (.int most)]) : Cl c_text [.val d, .val (.int most)] P := ⟨d, most, rfl, h, q⟩
theorem w_text (as : List Ar) (P : R → List Ar → Prop) (h : c_text as P) : ctOf 3 m_is_text as P := by
  obtain ⟨d, most, rfl, hf, hP⟩ := h
  have sl := sizeLine_eq
  cases d with
  | str x =>
    have hx := hf.str
    have hx2 : x.cps.size ≤ 1000000 := hx
    have hb := blsOf_map inS x.cps.toList
    (((conv => whnf); try dsimp only [MB.toD, DL.cellOf]); repeat ((first | (apply Rq.mk; (· (first | assumption | omega | (refine ⟨?_, ?_⟩ <;> first | assumption | omega) | (simp only [app_len]; omega) | (simp only [List.length_append, List.length_cons, List.length_nil, List.length_map]; omega)))) | (apply on_i; (· assumption)) | (apply rqB.mk; (· exact okR_of (by first | omega | (simp only [List.length_map]; omega)) (by first | omega | (simp only [List.length_map]; omega)))) | (apply rqB.mk; (· exact okR2_of (by first | omega | (simp only [List.length_map]; omega)) (by first | omega | (simp only [List.length_map]; omega)) (by first | omega | (simp only [List.length_map]; omega)) (by first | omega | (simp only [List.length_map]; omega))))); ((conv => whnf); try dsimp only [MB.toD, DL.cellOf])))
    apply br_d <;> intro hd
    · have e : isText most (.str x) = x.cps.toList.all inS := by
        show (decide ((x.length : Int) ≤ most) && _) = _
        rw [decide_eq_true hd]; rfl
      rw [e, ← all_map] at hP
      (((conv => whnf); try dsimp only [MB.toD, DL.cellOf]); repeat ((first | (apply Rq.mk; (· (first | assumption | omega | (refine ⟨?_, ?_⟩ <;> first | assumption | omega) | (simp only [app_len]; omega) | (simp only [List.length_append, List.length_cons, List.length_nil, List.length_map]; omega)))) | (apply on_i; (· assumption)) | (apply rqB.mk; (· exact okR_of (by first | omega | (simp only [List.length_map]; omega)) (by first | omega | (simp only [List.length_map]; omega)))) | (apply rqB.mk; (· exact okR2_of (by first | omega | (simp only [List.length_map]; omega)) (by first | omega | (simp only [List.length_map]; omega)) (by first | omega | (simp only [List.length_map]; omega)) (by first | omega | (simp only [List.length_map]; omega))))); ((conv => whnf); try dsimp only [MB.toD, DL.cellOf])))
      refine lc_list (as := x.cps.toList) (fun c => .str ⟨#[c]⟩) (fun c => .bool (inS c)) (fun c hc ds acc ha hk => ?_) (by rw [Array.length_toList]; omega) ?_
      · (((conv => whnf); try dsimp only [MB.toD, DL.cellOf]); repeat ((first | (apply Rq.mk; (· (first | assumption | omega | (refine ⟨?_, ?_⟩ <;> first | assumption | omega) | (simp only [app_len]; omega) | (simp only [List.length_append, List.length_cons, List.length_nil, List.length_map]; omega)))) | (apply on_i; (· assumption)) | (apply rqB.mk; (· exact okR_of (by first | omega | (simp only [List.length_map]; omega)) (by first | omega | (simp only [List.length_map]; omega)))) | (apply rqB.mk; (· exact okR2_of (by first | omega | (simp only [List.length_map]; omega)) (by first | omega | (simp only [List.length_map]; omega)) (by first | omega | (simp only [List.length_map]; omega)) (by first | omega | (simp only [List.length_map]; omega))))); ((conv => whnf); try dsimp only [MB.toD, DL.cellOf])))
        rw [Bool.false_xor, strIn_one]
        exact hk
      · (((conv => whnf); try dsimp only [MB.toD, DL.cellOf]); repeat ((first | (apply Rq.mk; (· (first | assumption | omega | (refine ⟨?_, ?_⟩ <;> first | assumption | omega) | (simp only [app_len]; omega) | (simp only [List.length_append, List.length_cons, List.length_nil, List.length_map]; omega)))) | (apply on_i; (· assumption)) | (apply rqB.mk; (· exact okR_of (by first | omega | (simp only [List.length_map]; omega)) (by first | omega | (simp only [List.length_map]; omega)))) | (apply rqB.mk; (· exact okR2_of (by first | omega | (simp only [List.length_map]; omega)) (by first | omega | (simp only [List.length_map]; omega)) (by first | omega | (simp only [List.length_map]; omega)) (by first | omega | (simp only [List.length_map]; omega))))); ((conv => whnf); try dsimp only [MB.toD, DL.cellOf])))
        exact hP
    · have e : isText most (.str x) = false := by
        show (decide ((x.length : Int) ≤ most) && _) = _
        rw [decide_eq_false hd]; rfl
      rw [e] at hP
      (((conv => whnf); try dsimp only [MB.toD, DL.cellOf]); repeat ((first | (apply Rq.mk; (· (first | assumption | omega | (refine ⟨?_, ?_⟩ <;> first | assumption | omega) | (simp only [app_len]; omega) | (simp only [List.length_append, List.length_cons, List.length_nil, List.length_map]; omega)))) | (apply on_i; (· assumption)) | (apply rqB.mk; (· exact okR_of (by first | omega | (simp only [List.length_map]; omega)) (by first | omega | (simp only [List.length_map]; omega)))) | (apply rqB.mk; (· exact okR2_of (by first | omega | (simp only [List.length_map]; omega)) (by first | omega | (simp only [List.length_map]; omega)) (by first | omega | (simp only [List.length_map]; omega)) (by first | omega | (simp only [List.length_map]; omega))))); ((conv => whnf); try dsimp only [MB.toD, DL.cellOf])))
      rw [decide_eq_false hd]
      exact hP
  | none => (((conv => whnf); try dsimp only [MB.toD, DL.cellOf]); repeat ((first | (apply Rq.mk; (· (first | assumption | omega | (refine ⟨?_, ?_⟩ <;> first | assumption | omega) | (simp only [app_len]; omega) | (simp only [List.length_append, List.length_cons, List.length_nil, List.length_map]; omega)))) | (apply on_i; (· assumption)) | (apply rqB.mk; (· exact okR_of (by first | omega | (simp only [List.length_map]; omega)) (by first | omega | (simp only [List.length_map]; omega)))) | (apply rqB.mk; (· exact okR2_of (by first | omega | (simp only [List.length_map]; omega)) (by first | omega | (simp only [List.length_map]; omega)) (by first | omega | (simp only [List.length_map]; omega)) (by first | omega | (simp only [List.length_map]; omega))))); ((conv => whnf); try dsimp only [MB.toD, DL.cellOf]))); exact hP
  | bool b => (((conv => whnf); try dsimp only [MB.toD, DL.cellOf]); repeat ((first | (apply Rq.mk; (· (first | assumption | omega | (refine ⟨?_, ?_⟩ <;> first | assumption | omega) | (simp only [app_len]; omega) | (simp only [List.length_append, List.length_cons, List.length_nil, List.length_map]; omega)))) | (apply on_i; (· assumption)) | (apply rqB.mk; (· exact okR_of (by first | omega | (simp only [List.length_map]; omega)) (by first | omega | (simp only [List.length_map]; omega)))) | (apply rqB.mk; (· exact okR2_of (by first | omega | (simp only [List.length_map]; omega)) (by first | omega | (simp only [List.length_map]; omega)) (by first | omega | (simp only [List.length_map]; omega)) (by first | omega | (simp only [List.length_map]; omega))))); ((conv => whnf); try dsimp only [MB.toD, DL.cellOf]))); exact hP
  | int i => (((conv => whnf); try dsimp only [MB.toD, DL.cellOf]); repeat ((first | (apply Rq.mk; (· (first | assumption | omega | (refine ⟨?_, ?_⟩ <;> first | assumption | omega) | (simp only [app_len]; omega) | (simp only [List.length_append, List.length_cons, List.length_nil, List.length_map]; omega)))) | (apply on_i; (· assumption)) | (apply rqB.mk; (· exact okR_of (by first | omega | (simp only [List.length_map]; omega)) (by first | omega | (simp only [List.length_map]; omega)))) | (apply rqB.mk; (· exact okR2_of (by first | omega | (simp only [List.length_map]; omega)) (by first | omega | (simp only [List.length_map]; omega)) (by first | omega | (simp only [List.length_map]; omega)) (by first | omega | (simp only [List.length_map]; omega))))); ((conv => whnf); try dsimp only [MB.toD, DL.cellOf]))); exact hP
  | list ds => (((conv => whnf); try dsimp only [MB.toD, DL.cellOf]); repeat ((first | (apply Rq.mk; (· (first | assumption | omega | (refine ⟨?_, ?_⟩ <;> first | assumption | omega) | (simp only [app_len]; omega) | (simp only [List.length_append, List.length_cons, List.length_nil, List.length_map]; omega)))) | (apply on_i; (· assumption)) | (apply rqB.mk; (· exact okR_of (by first | omega | (simp only [List.length_map]; omega)) (by first | omega | (simp only [List.length_map]; omega)))) | (apply rqB.mk; (· exact okR2_of (by first | omega | (simp only [List.length_map]; omega)) (by first | omega | (simp only [List.length_map]; omega)) (by first | omega | (simp only [List.length_map]; omega)) (by first | omega | (simp only [List.length_map]; omega))))); ((conv => whnf); try dsimp only [MB.toD, DL.cellOf]))); exact hP
  | tuple ds => (((conv => whnf); try dsimp only [MB.toD, DL.cellOf]); repeat ((first | (apply Rq.mk; (· (first | assumption | omega | (refine ⟨?_, ?_⟩ <;> first | assumption | omega) | (simp only [app_len]; omega) | (simp only [List.length_append, List.length_cons, List.length_nil, List.length_map]; omega)))) | (apply on_i; (· assumption)) | (apply rqB.mk; (· exact okR_of (by first | omega | (simp only [List.length_map]; omega)) (by first | omega | (simp only [List.length_map]; omega)))) | (apply rqB.mk; (· exact okR2_of (by first | omega | (simp only [List.length_map]; omega)) (by first | omega | (simp only [List.length_map]; omega)) (by first | omega | (simp only [List.length_map]; omega)) (by first | omega | (simp only [List.length_map]; omega))))); ((conv => whnf); try dsimp only [MB.toD, DL.cellOf]))); exact hP
  | dict kvs => (((conv => whnf); try dsimp only [MB.toD, DL.cellOf]); repeat ((first | (apply Rq.mk; (· (first | assumption | omega | (refine ⟨?_, ?_⟩ <;> first | assumption | omega) | (simp only [app_len]; omega) | (simp only [List.length_append, List.length_cons, List.length_nil, List.length_map]; omega)))) | (apply on_i; (· assumption)) | (apply rqB.mk; (· exact okR_of (by first | omega | (simp only [List.length_map]; omega)) (by first | omega | (simp only [List.length_map]; omega)))) | (apply rqB.mk; (· exact okR2_of (by first | omega | (simp only [List.length_map]; omega)) (by first | omega | (simp only [List.length_map]; omega)) (by first | omega | (simp only [List.length_map]; omega)) (by first | omega | (simp only [List.length_map]; omega))))); ((conv => whnf); try dsimp only [MB.toD, DL.cellOf]))); exact hP
def c_sgn : Ct := fun as P => ∃ (d : D) (least : Int), as = [.val d, .val (.int least)] ∧ Fit d ∧ P (.val (.bool (isSigns least d))) [.val d, .val (.int least)]
theorem use_sgn {d : D} {least : Int} {P : R → List Ar → Prop} (h : Fit d) (q : P (.val (.bool (isSigns least d))) [.val d, .val (.int least)]) : Cl c_sgn [.val d, .val (.int least)] P := ⟨d, least, rfl, h, q⟩
theorem w_sgn (as : List Ar) (P : R → List Ar → Prop) (h : c_sgn as P) : ctOf 4 (m_is_signs c_text) as P := by
  obtain ⟨d, least, rfl, hf, hP⟩ := h
  have sl := sizeLine_eq
  cases d with
  | str x =>
    have hx := hf.str
    have hx2 : x.cps.size ≤ 1000000 := hx
    (((conv => whnf); try dsimp only [MB.toD, DL.cellOf]); repeat ((first | (apply Rq.mk; (· (first | assumption | omega | (refine ⟨?_, ?_⟩ <;> first | assumption | omega) | (simp only [app_len]; omega) | (simp only [List.length_append, List.length_cons, List.length_nil, List.length_map]; omega)))) | (apply on_i; (· assumption)) | (apply rqB.mk; (· exact okR_of (by first | omega | (simp only [List.length_map]; omega)) (by first | omega | (simp only [List.length_map]; omega)))) | (apply rqB.mk; (· exact okR2_of (by first | omega | (simp only [List.length_map]; omega)) (by first | omega | (simp only [List.length_map]; omega)) (by first | omega | (simp only [List.length_map]; omega)) (by first | omega | (simp only [List.length_map]; omega))))); ((conv => whnf); try dsimp only [MB.toD, DL.cellOf])))
    refine use_text hf ?_
    (((conv => whnf); try dsimp only [MB.toD, DL.cellOf]); repeat ((first | (apply Rq.mk; (· (first | assumption | omega | (refine ⟨?_, ?_⟩ <;> first | assumption | omega) | (simp only [app_len]; omega) | (simp only [List.length_append, List.length_cons, List.length_nil, List.length_map]; omega)))) | (apply on_i; (· assumption)) | (apply rqB.mk; (· exact okR_of (by first | omega | (simp only [List.length_map]; omega)) (by first | omega | (simp only [List.length_map]; omega)))) | (apply rqB.mk; (· exact okR2_of (by first | omega | (simp only [List.length_map]; omega)) (by first | omega | (simp only [List.length_map]; omega)) (by first | omega | (simp only [List.length_map]; omega)) (by first | omega | (simp only [List.length_map]; omega))))); ((conv => whnf); try dsimp only [MB.toD, DL.cellOf])))
    show brK (!isTextX 94 x) _ _
    cases ht : isTextX 94 x with
    | false =>
      have e : isSigns least (.str x) = false := by
        show (isTextX 94 x && _) = _
        rw [ht]; rfl
      rw [e] at hP
      (((conv => whnf); try dsimp only [MB.toD, DL.cellOf]); repeat ((first | (apply Rq.mk; (· (first | assumption | omega | (refine ⟨?_, ?_⟩ <;> first | assumption | omega) | (simp only [app_len]; omega) | (simp only [List.length_append, List.length_cons, List.length_nil, List.length_map]; omega)))) | (apply on_i; (· assumption)) | (apply rqB.mk; (· exact okR_of (by first | omega | (simp only [List.length_map]; omega)) (by first | omega | (simp only [List.length_map]; omega)))) | (apply rqB.mk; (· exact okR2_of (by first | omega | (simp only [List.length_map]; omega)) (by first | omega | (simp only [List.length_map]; omega)) (by first | omega | (simp only [List.length_map]; omega)) (by first | omega | (simp only [List.length_map]; omega))))); ((conv => whnf); try dsimp only [MB.toD, DL.cellOf])))
      exact hP
    | true =>
      (((conv => whnf); try dsimp only [MB.toD, DL.cellOf]); repeat ((first | (apply Rq.mk; (· (first | assumption | omega | (refine ⟨?_, ?_⟩ <;> first | assumption | omega) | (simp only [app_len]; omega) | (simp only [List.length_append, List.length_cons, List.length_nil, List.length_map]; omega)))) | (apply on_i; (· assumption)) | (apply rqB.mk; (· exact okR_of (by first | omega | (simp only [List.length_map]; omega)) (by first | omega | (simp only [List.length_map]; omega)))) | (apply rqB.mk; (· exact okR2_of (by first | omega | (simp only [List.length_map]; omega)) (by first | omega | (simp only [List.length_map]; omega)) (by first | omega | (simp only [List.length_map]; omega)) (by first | omega | (simp only [List.length_map]; omega))))); ((conv => whnf); try dsimp only [MB.toD, DL.cellOf])))
      apply br_d <;> intro hd
      · have e : isSigns least (.str x) = false := by
          show (isTextX 94 x && (!decide ((x.length : Int) < least) && _)) = _
          rw [ht, decide_eq_true hd]; rfl
        rw [e] at hP
        (((conv => whnf); try dsimp only [MB.toD, DL.cellOf]); repeat ((first | (apply Rq.mk; (· (first | assumption | omega | (refine ⟨?_, ?_⟩ <;> first | assumption | omega) | (simp only [app_len]; omega) | (simp only [List.length_append, List.length_cons, List.length_nil, List.length_map]; omega)))) | (apply on_i; (· assumption)) | (apply rqB.mk; (· exact okR_of (by first | omega | (simp only [List.length_map]; omega)) (by first | omega | (simp only [List.length_map]; omega)))) | (apply rqB.mk; (· exact okR2_of (by first | omega | (simp only [List.length_map]; omega)) (by first | omega | (simp only [List.length_map]; omega)) (by first | omega | (simp only [List.length_map]; omega)) (by first | omega | (simp only [List.length_map]; omega))))); ((conv => whnf); try dsimp only [MB.toD, DL.cellOf])))
        exact hP
      · have e : isSigns least (.str x) = (x.cps.toList.zip (x.cps.toList.drop 1)).all fun q => decide (q.1 < q.2) := by
          show (isTextX 94 x && (!decide ((x.length : Int) < least) && rising x.cps.toList)) = _
          rw [ht, decide_eq_false hd, rising_zip]; rfl
        rw [e, ← all_map] at hP
        have hb := blsOf_map (fun q : Nat × Nat => decide (q.1 < q.2)) (x.cps.toList.zip (x.cps.toList.drop 1))
        (((conv => whnf); try dsimp only [MB.toD, DL.cellOf]); repeat ((first | (apply Rq.mk; (· (first | assumption | omega | (refine ⟨?_, ?_⟩ <;> first | assumption | omega) | (simp only [app_len]; omega) | (simp only [List.length_append, List.length_cons, List.length_nil, List.length_map]; omega)))) | (apply on_i; (· assumption)) | (apply rqB.mk; (· exact okR_of (by first | omega | (simp only [List.length_map]; omega)) (by first | omega | (simp only [List.length_map]; omega)))) | (apply rqB.mk; (· exact okR2_of (by first | omega | (simp only [List.length_map]; omega)) (by first | omega | (simp only [List.length_map]; omega)) (by first | omega | (simp only [List.length_map]; omega)) (by first | omega | (simp only [List.length_map]; omega))))); ((conv => whnf); try dsimp only [MB.toD, DL.cellOf])))
        have ez : zipD (signsD x) (signsD (cutS x (some 1) none)) = (x.cps.toList.zip (x.cps.toList.drop 1)).map fun q => .tuple [.str ⟨#[q.1]⟩, .str ⟨#[q.2]⟩] := by
          unfold signsD
          rw [show (some (1 : Int)) = some ((1 : Nat) : Int) from rfl, cutS_lo, zipD_map]
        change Lc _ _ _ _ _ (zipD (signsD x) (signsD (cutS x (some 1) none))) _ _
        rw [ez]
        refine lc_list (as := x.cps.toList.zip (x.cps.toList.drop 1)) (fun q => .tuple [.str ⟨#[q.1]⟩, .str ⟨#[q.2]⟩]) (fun q => .bool (decide (q.1 < q.2))) (fun q hc ds acc ha hk => ?_) ?_ ?_
        · (((conv => whnf); try dsimp only [MB.toD, DL.cellOf]); repeat ((first | (apply Rq.mk; (· (first | assumption | omega | (refine ⟨?_, ?_⟩ <;> first | assumption | omega) | (simp only [app_len]; omega) | (simp only [List.length_append, List.length_cons, List.length_nil, List.length_map]; omega)))) | (apply on_i; (· assumption)) | (apply rqB.mk; (· exact okR_of (by first | omega | (simp only [List.length_map]; omega)) (by first | omega | (simp only [List.length_map]; omega)))) | (apply rqB.mk; (· exact okR2_of (by first | omega | (simp only [List.length_map]; omega)) (by first | omega | (simp only [List.length_map]; omega)) (by first | omega | (simp only [List.length_map]; omega)) (by first | omega | (simp only [List.length_map]; omega))))); ((conv => whnf); try dsimp only [MB.toD, DL.cellOf])))
          rw [← lt_one] at hk
          exact hk
        · have : x.cps.toList.length = x.cps.size := Array.length_toList
          rw [List.length_zip]; omega
        · (((conv => whnf); try dsimp only [MB.toD, DL.cellOf]); repeat ((first | (apply Rq.mk; (· (first | assumption | omega | (refine ⟨?_, ?_⟩ <;> first | assumption | omega) | (simp only [app_len]; omega) | (simp only [List.length_append, List.length_cons, List.length_nil, List.length_map]; omega)))) | (apply on_i; (· assumption)) | (apply rqB.mk; (· exact okR_of (by first | omega | (simp only [List.length_map]; omega)) (by first | omega | (simp only [List.length_map]; omega)))) | (apply rqB.mk; (· exact okR2_of (by first | omega | (simp only [List.length_map]; omega)) (by first | omega | (simp only [List.length_map]; omega)) (by first | omega | (simp only [List.length_map]; omega)) (by first | omega | (simp only [List.length_map]; omega))))); ((conv => whnf); try dsimp only [MB.toD, DL.cellOf])))
          exact hP
  | none => ((((conv => whnf); try dsimp only [MB.toD, DL.cellOf]); repeat ((first | (apply Rq.mk; (· (first | assumption | omega | (refine ⟨?_, ?_⟩ <;> first | assumption | omega) | (simp only [app_len]; omega) | (simp only [List.length_append, List.length_cons, List.length_nil, List.length_map]; omega)))) | (apply on_i; (· assumption)) | (apply rqB.mk; (· exact okR_of (by first | omega | (simp only [List.length_map]; omega)) (by first | omega | (simp only [List.length_map]; omega)))) | (apply rqB.mk; (· exact okR2_of (by first | omega | (simp only [List.length_map]; omega)) (by first | omega | (simp only [List.length_map]; omega)) (by first | omega | (simp only [List.length_map]; omega)) (by first | omega | (simp only [List.length_map]; omega))))); ((conv => whnf); try dsimp only [MB.toD, DL.cellOf]))); refine use_text hf ?_; (((conv => whnf); try dsimp only [MB.toD, DL.cellOf]); repeat ((first | (apply Rq.mk; (· (first | assumption | omega | (refine ⟨?_, ?_⟩ <;> first | assumption | omega) | (simp only [app_len]; omega) | (simp only [List.length_append, List.length_cons, List.length_nil, List.length_map]; omega)))) | (apply on_i; (· assumption)) | (apply rqB.mk; (· exact okR_of (by first | omega | (simp only [List.length_map]; omega)) (by first | omega | (simp only [List.length_map]; omega)))) | (apply rqB.mk; (· exact okR2_of (by first | omega | (simp only [List.length_map]; omega)) (by first | omega | (simp only [List.length_map]; omega)) (by first | omega | (simp only [List.length_map]; omega)) (by first | omega | (simp only [List.length_map]; omega))))); ((conv => whnf); try dsimp only [MB.toD, DL.cellOf]))); exact hP)
  | bool b => ((((conv => whnf); try dsimp only [MB.toD, DL.cellOf]); repeat ((first | (apply Rq.mk; (· (first | assumption | omega | (refine ⟨?_, ?_⟩ <;> first | assumption | omega) | (simp only [app_len]; omega) | (simp only [List.length_append, List.length_cons, List.length_nil, List.length_map]; omega)))) | (apply on_i; (· assumption)) | (apply rqB.mk; (· exact okR_of (by first | omega | (simp only [List.length_map]; omega)) (by first | omega | (simp only [List.length_map]; omega)))) | (apply rqB.mk; (· exact okR2_of (by first | omega | (simp only [List.length_map]; omega)) (by first | omega | (simp only [List.length_map]; omega)) (by first | omega | (simp only [List.length_map]; omega)) (by first | omega | (simp only [List.length_map]; omega))))); ((conv => whnf); try dsimp only [MB.toD, DL.cellOf]))); refine use_text hf ?_; (((conv => whnf); try dsimp only [MB.toD, DL.cellOf]); repeat ((first | (apply Rq.mk; (· (first | assumption | omega | (refine ⟨?_, ?_⟩ <;> first | assumption | omega) | (simp only [app_len]; omega) | (simp only [List.length_append, List.length_cons, List.length_nil, List.length_map]; omega)))) | (apply on_i; (· assumption)) | (apply rqB.mk; (· exact okR_of (by first | omega | (simp only [List.length_map]; omega)) (by first | omega | (simp only [List.length_map]; omega)))) | (apply rqB.mk; (· exact okR2_of (by first | omega | (simp only [List.length_map]; omega)) (by first | omega | (simp only [List.length_map]; omega)) (by first | omega | (simp only [List.length_map]; omega)) (by first | omega | (simp only [List.length_map]; omega))))); ((conv => whnf); try dsimp only [MB.toD, DL.cellOf]))); exact hP)
  | int i => ((((conv => whnf); try dsimp only [MB.toD, DL.cellOf]); repeat ((first | (apply Rq.mk; (· (first | assumption | omega | (refine ⟨?_, ?_⟩ <;> first | assumption | omega) | (simp only [app_len]; omega) | (simp only [List.length_append, List.length_cons, List.length_nil, List.length_map]; omega)))) | (apply on_i; (· assumption)) | (apply rqB.mk; (· exact okR_of (by first | omega | (simp only [List.length_map]; omega)) (by first | omega | (simp only [List.length_map]; omega)))) | (apply rqB.mk; (· exact okR2_of (by first | omega | (simp only [List.length_map]; omega)) (by first | omega | (simp only [List.length_map]; omega)) (by first | omega | (simp only [List.length_map]; omega)) (by first | omega | (simp only [List.length_map]; omega))))); ((conv => whnf); try dsimp only [MB.toD, DL.cellOf]))); refine use_text hf ?_; (((conv => whnf); try dsimp only [MB.toD, DL.cellOf]); repeat ((first | (apply Rq.mk; (· (first | assumption | omega | (refine ⟨?_, ?_⟩ <;> first | assumption | omega) | (simp only [app_len]; omega) | (simp only [List.length_append, List.length_cons, List.length_nil, List.length_map]; omega)))) | (apply on_i; (· assumption)) | (apply rqB.mk; (· exact okR_of (by first | omega | (simp only [List.length_map]; omega)) (by first | omega | (simp only [List.length_map]; omega)))) | (apply rqB.mk; (· exact okR2_of (by first | omega | (simp only [List.length_map]; omega)) (by first | omega | (simp only [List.length_map]; omega)) (by first | omega | (simp only [List.length_map]; omega)) (by first | omega | (simp only [List.length_map]; omega))))); ((conv => whnf); try dsimp only [MB.toD, DL.cellOf]))); exact hP)
  | list ds => ((((conv => whnf); try dsimp only [MB.toD, DL.cellOf]); repeat ((first | (apply Rq.mk; (· (first | assumption | omega | (refine ⟨?_, ?_⟩ <;> first | assumption | omega) | (simp only [app_len]; omega) | (simp only [List.length_append, List.length_cons, List.length_nil, List.length_map]; omega)))) | (apply on_i; (· assumption)) | (apply rqB.mk; (· exact okR_of (by first | omega | (simp only [List.length_map]; omega)) (by first | omega | (simp only [List.length_map]; omega)))) | (apply rqB.mk; (· exact okR2_of (by first | omega | (simp only [List.length_map]; omega)) (by first | omega | (simp only [List.length_map]; omega)) (by first | omega | (simp only [List.length_map]; omega)) (by first | omega | (simp only [List.length_map]; omega))))); ((conv => whnf); try dsimp only [MB.toD, DL.cellOf]))); refine use_text hf ?_; (((conv => whnf); try dsimp only [MB.toD, DL.cellOf]); repeat ((first | (apply Rq.mk; (· (first | assumption | omega | (refine ⟨?_, ?_⟩ <;> first | assumption | omega) | (simp only [app_len]; omega) | (simp only [List.length_append, List.length_cons, List.length_nil, List.length_map]; omega)))) | (apply on_i; (· assumption)) | (apply rqB.mk; (· exact okR_of (by first | omega | (simp only [List.length_map]; omega)) (by first | omega | (simp only [List.length_map]; omega)))) | (apply rqB.mk; (· exact okR2_of (by first | omega | (simp only [List.length_map]; omega)) (by first | omega | (simp only [List.length_map]; omega)) (by first | omega | (simp only [List.length_map]; omega)) (by first | omega | (simp only [List.length_map]; omega))))); ((conv => whnf); try dsimp only [MB.toD, DL.cellOf]))); exact hP)
  | tuple ds => ((((conv => whnf); try dsimp only [MB.toD, DL.cellOf]); repeat ((first | (apply Rq.mk; (· (first | assumption | omega | (refine ⟨?_, ?_⟩ <;> first | assumption | omega) | (simp only [app_len]; omega) | (simp only [List.length_append, List.length_cons, List.length_nil, List.length_map]; omega)))) | (apply on_i; (· assumption)) | (apply rqB.mk; (· exact okR_of (by first | omega | (simp only [List.length_map]; omega)) (by first | omega | (simp only [List.length_map]; omega)))) | (apply rqB.mk; (· exact okR2_of (by first | omega | (simp only [List.length_map]; omega)) (by first | omega | (simp only [List.length_map]; omega)) (by first | omega | (simp only [List.length_map]; omega)) (by first | omega | (simp only [List.length_map]; omega))))); ((conv => whnf); try dsimp only [MB.toD, DL.cellOf]))); refine use_text hf ?_; (((conv => whnf); try dsimp only [MB.toD, DL.cellOf]); repeat ((first | (apply Rq.mk; (· (first | assumption | omega | (refine ⟨?_, ?_⟩ <;> first | assumption | omega) | (simp only [app_len]; omega) | (simp only [List.length_append, List.length_cons, List.length_nil, List.length_map]; omega)))) | (apply on_i; (· assumption)) | (apply rqB.mk; (· exact okR_of (by first | omega | (simp only [List.length_map]; omega)) (by first | omega | (simp only [List.length_map]; omega)))) | (apply rqB.mk; (· exact okR2_of (by first | omega | (simp only [List.length_map]; omega)) (by first | omega | (simp only [List.length_map]; omega)) (by first | omega | (simp only [List.length_map]; omega)) (by first | omega | (simp only [List.length_map]; omega))))); ((conv => whnf); try dsimp only [MB.toD, DL.cellOf]))); exact hP)
  | dict kvs => ((((conv => whnf); try dsimp only [MB.toD, DL.cellOf]); repeat ((first | (apply Rq.mk; (· (first | assumption | omega | (refine ⟨?_, ?_⟩ <;> first | assumption | omega) | (simp only [app_len]; omega) | (simp only [List.length_append, List.length_cons, List.length_nil, List.length_map]; omega)))) | (apply on_i; (· assumption)) | (apply rqB.mk; (· exact okR_of (by first | omega | (simp only [List.length_map]; omega)) (by first | omega | (simp only [List.length_map]; omega)))) | (apply rqB.mk; (· exact okR2_of (by first | omega | (simp only [List.length_map]; omega)) (by first | omega | (simp only [List.length_map]; omega)) (by first | omega | (simp only [List.length_map]; omega)) (by first | omega | (simp only [List.length_map]; omega))))); ((conv => whnf); try dsimp only [MB.toD, DL.cellOf]))); refine use_text hf ?_; (((conv => whnf); try dsimp only [MB.toD, DL.cellOf]); repeat ((first | (apply Rq.mk; (· (first | assumption | omega | (refine ⟨?_, ?_⟩ <;> first | assumption | omega) | (simp only [app_len]; omega) | (simp only [List.length_append, List.length_cons, List.length_nil, List.length_map]; omega)))) | (apply on_i; (· assumption)) | (apply rqB.mk; (· exact okR_of (by first | omega | (simp only [List.length_map]; omega)) (by first | omega | (simp only [List.length_map]; omega)))) | (apply rqB.mk; (· exact okR2_of (by first | omega | (simp only [List.length_map]; omega)) (by first | omega | (simp only [List.length_map]; omega)) (by first | omega | (simp only [List.length_map]; omega)) (by first | omega | (simp only [List.length_map]; omega))))); ((conv => whnf); try dsimp only [MB.toD, DL.cellOf]))); exact hP)

/-! ### the pen: [cells, at, rest] -/
def PenOk (b : Nat) (pen : List D) : Prop := ∃ (gone rest : Int) (cells : List Int), pen = [.list (cells.map .int), .int gone, .int rest] ∧ 0 ≤ gone ∧ gone + b ≤ 2 ^ 40 ∧ 0 ≤ rest ∧ cells.length ≤ 63
theorem PenOk.mono {a b : Nat} {pen : List D} (h : PenOk a pen) (q : b ≤ a) : PenOk b pen := by
  obtain ⟨g, r, c, e, h1, h2, h3⟩ := h
  exact ⟨g, r, c, e, h1, by omega, h3⟩
def c_draw : Ct := fun as P => ∃ pen many b, as = [.box (.L pen), .val (.int many)] ∧ PenOk (b + 1) pen ∧ 0 < many ∧ many < 1073741824 ∧ ∀ v pen', 0 ≤ v → v < many → PenOk b pen' → P (.val (.int v)) [.box (.L pen'), .val (.int many)]
theorem use_draw {pen : List D} {many : Int} {b : Nat} {P : R → List Ar → Prop} (hp : PenOk (b + 1) pen) (h1 : 0 < many) (h2 : many < 1073741824) (h : ∀ v pen', 0 ≤ v → v < many → PenOk b pen' → P (.val (.int v)) [.box (.L pen'), .val (.int many)]) : Cl c_draw [.box (.L pen), .val (.int many)] P := ⟨pen, many, b, rfl, hp, h1, h2, h⟩
theorem w_draw (as : List Ar) (P : R → List Ar → Prop) (h : c_draw as P) : ctOf 6 m__law_draw as P := by
  obtain ⟨pen, many, b, rfl, ⟨gone, rest, cells, rfl, h0, h1, hr, hc⟩, hm, hm2, hP⟩ := h
  have hb : gone < 2 ^ 40 := by omega
  (((conv => whnf); try dsimp only [MB.toD, DL.cellOf]); repeat ((first | (apply Rq.mk; (· (first | assumption | omega | (refine ⟨?_, ?_⟩ <;> first | assumption | omega) | (simp only [app_len]; omega) | (simp only [List.length_append, List.length_cons, List.length_nil, List.length_map]; omega)))) | (apply on_i; (· assumption)) | (apply rqB.mk; (· exact okR_of (by first | omega | (simp only [List.length_map]; omega)) (by first | omega | (simp only [List.length_map]; omega)))) | (apply rqB.mk; (· exact okR2_of (by first | omega | (simp only [List.length_map]; omega)) (by first | omega | (simp only [List.length_map]; omega)) (by first | omega | (simp only [List.length_map]; omega)) (by first | omega | (simp only [List.length_map]; omega))))); ((conv => whnf); try dsimp only [MB.toD, DL.cellOf])))
  apply br_d <;> intro hd
  · (((conv => whnf); try dsimp only [MB.toD, DL.cellOf]); repeat ((first | (apply Rq.mk; (· (first | assumption | omega | (refine ⟨?_, ?_⟩ <;> first | assumption | omega) | (simp only [app_len]; omega) | (simp only [List.length_append, List.length_cons, List.length_nil, List.length_map]; omega)))) | (apply on_i; (· assumption)) | (apply rqB.mk; (· exact okR_of (by first | omega | (simp only [List.length_map]; omega)) (by first | omega | (simp only [List.length_map]; omega)))) | (apply rqB.mk; (· exact okR2_of (by first | omega | (simp only [List.length_map]; omega)) (by first | omega | (simp only [List.length_map]; omega)) (by first | omega | (simp only [List.length_map]; omega)) (by first | omega | (simp only [List.length_map]; omega))))); ((conv => whnf); try dsimp only [MB.toD, DL.cellOf])))
    refine hP _ _ (Int.emod_nonneg _ (by omega)) (Int.emod_lt_of_pos _ hm) ⟨_, _, cells, rfl, h0, by omega, Int.ediv_nonneg hr (by omega), hc⟩
  · have hg : 0 ≤ gone ∧ gone ≤ 2 ^ 40 := by omega
    have hgg := mul_bd (a := 50021 * gone) (b := gone) (A := 2 ^ 60) (B := 2 ^ 40) (by omega) (by omega) (by omega) (by omega)
    have tail : ∀ c : Int, 0 ≤ c % 2147483563 + 50021 * gone * gone + 70009 * gone + 37 ∧ c % 2147483563 + 50021 * gone * gone + 70009 * gone + 37 ≤ 2 ^ 200 := fun c => by
      have := Int.emod_nonneg c (show (2147483563 : Int) ≠ 0 by decide)
      have := Int.emod_lt_of_pos c (show (0 : Int) < 2147483563 by decide)
      omega
    have tail2 : ∀ c : Int, 0 ≤ c % 2147483647 * (5 * gone + 2) + 80039 ∧ c % 2147483647 * (5 * gone + 2) + 80039 ≤ 2 ^ 200 := fun c => by
      have := Int.emod_nonneg c (show (2147483647 : Int) ≠ 0 by decide)
      have := Int.emod_lt_of_pos c (show (0 : Int) < 2147483647 by decide)
      have h1 := mul_bd (a := c % 2147483647) (b := 5 * gone + 2) (A := 2 ^ 31) (B := 2 ^ 43) (by omega) (by omega) (by omega) (by omega)
      omega
    have fin : ∀ x g r : Int, 0 ≤ g → g + b ≤ 2 ^ 40 → 0 ≤ r → P (.val (.int (x % many))) [.box (.L [.list (cells.map .int), .int g, .int r]), .val (.int many)] := fun x g r h1 h2 h3 =>
      hP _ _ (Int.emod_nonneg _ (by omega)) (Int.emod_lt_of_pos _ hm) ⟨_, _, cells, rfl, h1, h2, h3, hc⟩
    (((conv => whnf); try dsimp only [MB.toD, DL.cellOf]); repeat ((first | (apply Rq.mk; (· (first | assumption | omega | (refine ⟨?_, ?_⟩ <;> first | assumption | omega) | (simp only [app_len]; omega) | (simp only [List.length_append, List.length_cons, List.length_nil, List.length_map]; omega)))) | (apply on_i; (· assumption)) | (apply rqB.mk; (· exact okR_of (by first | omega | (simp only [List.length_map]; omega)) (by first | omega | (simp only [List.length_map]; omega)))) | (apply rqB.mk; (· exact okR2_of (by first | omega | (simp only [List.length_map]; omega)) (by first | omega | (simp only [List.length_map]; omega)) (by first | omega | (simp only [List.length_map]; omega)) (by first | omega | (simp only [List.length_map]; omega))))); ((conv => whnf); try dsimp only [MB.toD, DL.cellOf])))
    apply rqB.mk
    · rw [shaped_ints]; rfl
    cases hcs : cells with
    | nil =>
      subst hcs
      have t1 := tail (80021 * gone + 57)
      have t2 := tail2 (((80021 * gone + 57) % 2147483563 + 50021 * gone * gone + 70009 * gone + 37) ^ (3 : Int).toNat)
      (((conv => whnf); try dsimp only [MB.toD, DL.cellOf]); repeat ((first | (apply Rq.mk; (· (first | assumption | omega | (refine ⟨?_, ?_⟩ <;> first | assumption | omega) | (simp only [app_len]; omega) | (simp only [List.length_append, List.length_cons, List.length_nil, List.length_map]; omega)))) | (apply on_i; (· assumption)) | (apply rqB.mk; (· exact okR_of (by first | omega | (simp only [List.length_map]; omega)) (by first | omega | (simp only [List.length_map]; omega)))) | (apply rqB.mk; (· exact okR2_of (by first | omega | (simp only [List.length_map]; omega)) (by first | omega | (simp only [List.length_map]; omega)) (by first | omega | (simp only [List.length_map]; omega)) (by first | omega | (simp only [List.length_map]; omega))))); ((conv => whnf); try dsimp only [MB.toD, DL.cellOf])))
      apply br_d <;> intro hd
      · exact absurd (show gone < 0 from hd) (by omega)
      · (((conv => whnf); try dsimp only [MB.toD, DL.cellOf]); repeat ((first | (apply Rq.mk; (· (first | assumption | omega | (refine ⟨?_, ?_⟩ <;> first | assumption | omega) | (simp only [app_len]; omega) | (simp only [List.length_append, List.length_cons, List.length_nil, List.length_map]; omega)))) | (apply on_i; (· assumption)) | (apply rqB.mk; (· exact okR_of (by first | omega | (simp only [List.length_map]; omega)) (by first | omega | (simp only [List.length_map]; omega)))) | (apply rqB.mk; (· exact okR2_of (by first | omega | (simp only [List.length_map]; omega)) (by first | omega | (simp only [List.length_map]; omega)) (by first | omega | (simp only [List.length_map]; omega)) (by first | omega | (simp only [List.length_map]; omega))))); ((conv => whnf); try dsimp only [MB.toD, DL.cellOf])))
        exact fin _ _ _ (by omega) (by omega) hr
    | cons c0 cs =>
      have hl : 0 < (cells.map PyData.int).length := by rw [hcs]; simp
      obtain ⟨c, hat⟩ := at_ints cells (i := gone % ((cells.map PyData.int).length : Int)) (Int.emod_nonneg _ (by omega)) (by rw [List.length_map] at hl ⊢; exact Int.emod_lt_of_pos _ (by omega))
      have t1 := tail c
      have t2 := tail2 ((c % 2147483563 + 50021 * gone * gone + 70009 * gone + 37) ^ (3 : Int).toNat)
      rw [← hcs]
      have hne : (PyData.list (cells.map PyData.int)).eqv (.list []) = false := by rw [hcs]; rfl
      apply brT (by rw [hne]; rfl)
      (((conv => whnf); try dsimp only [MB.toD, DL.cellOf]); repeat ((first | (apply Rq.mk; (· (first | assumption | omega | (refine ⟨?_, ?_⟩ <;> first | assumption | omega) | (simp only [app_len]; omega) | (simp only [List.length_append, List.length_cons, List.length_nil, List.length_map]; omega)))) | (apply on_i; (· assumption)) | (apply rqB.mk; (· exact okR_of (by first | omega | (simp only [List.length_map]; omega)) (by first | omega | (simp only [List.length_map]; omega)))) | (apply rqB.mk; (· exact okR2_of (by first | omega | (simp only [List.length_map]; omega)) (by first | omega | (simp only [List.length_map]; omega)) (by first | omega | (simp only [List.length_map]; omega)) (by first | omega | (simp only [List.length_map]; omega))))); ((conv => whnf); try dsimp only [MB.toD, DL.cellOf])))
      apply br_d <;> intro hd
      · (((conv => whnf); try dsimp only [MB.toD, DL.cellOf]); repeat ((first | (apply Rq.mk; (· (first | assumption | omega | (refine ⟨?_, ?_⟩ <;> first | assumption | omega) | (simp only [app_len]; omega) | (simp only [List.length_append, List.length_cons, List.length_nil, List.length_map]; omega)))) | (apply on_i; (· assumption)) | (apply rqB.mk; (· exact okR_of (by first | omega | (simp only [List.length_map]; omega)) (by first | omega | (simp only [List.length_map]; omega)))) | (apply rqB.mk; (· exact okR2_of (by first | omega | (simp only [List.length_map]; omega)) (by first | omega | (simp only [List.length_map]; omega)) (by first | omega | (simp only [List.length_map]; omega)) (by first | omega | (simp only [List.length_map]; omega))))); ((conv => whnf); try dsimp only [MB.toD, DL.cellOf])))
        apply br_d <;> intro hd
        · (((conv => whnf); try dsimp only [MB.toD, DL.cellOf]); repeat ((first | (apply Rq.mk; (· (first | assumption | omega | (refine ⟨?_, ?_⟩ <;> first | assumption | omega) | (simp only [app_len]; omega) | (simp only [List.length_append, List.length_cons, List.length_nil, List.length_map]; omega)))) | (apply on_i; (· assumption)) | (apply rqB.mk; (· exact okR_of (by first | omega | (simp only [List.length_map]; omega)) (by first | omega | (simp only [List.length_map]; omega)))) | (apply rqB.mk; (· exact okR2_of (by first | omega | (simp only [List.length_map]; omega)) (by first | omega | (simp only [List.length_map]; omega)) (by first | omega | (simp only [List.length_map]; omega)) (by first | omega | (simp only [List.length_map]; omega))))); ((conv => whnf); try dsimp only [MB.toD, DL.cellOf])))
          exact fin _ _ _ (by omega) (by omega) (Int.ediv_nonneg (by split <;> omega) (by omega))
        · (((conv => whnf); try dsimp only [MB.toD, DL.cellOf]); repeat ((first | (apply Rq.mk; (· (first | assumption | omega | (refine ⟨?_, ?_⟩ <;> first | assumption | omega) | (simp only [app_len]; omega) | (simp only [List.length_append, List.length_cons, List.length_nil, List.length_map]; omega)))) | (apply on_i; (· assumption)) | (apply rqB.mk; (· exact okR_of (by first | omega | (simp only [List.length_map]; omega)) (by first | omega | (simp only [List.length_map]; omega)))) | (apply rqB.mk; (· exact okR2_of (by first | omega | (simp only [List.length_map]; omega)) (by first | omega | (simp only [List.length_map]; omega)) (by first | omega | (simp only [List.length_map]; omega)) (by first | omega | (simp only [List.length_map]; omega))))); ((conv => whnf); try dsimp only [MB.toD, DL.cellOf])))
          exact fin _ _ _ (by omega) (by omega) hr
      · (((conv => whnf); try dsimp only [MB.toD, DL.cellOf]); repeat ((first | (apply Rq.mk; (· (first | assumption | omega | (refine ⟨?_, ?_⟩ <;> first | assumption | omega) | (simp only [app_len]; omega) | (simp only [List.length_append, List.length_cons, List.length_nil, List.length_map]; omega)))) | (apply on_i; (· assumption)) | (apply rqB.mk; (· exact okR_of (by first | omega | (simp only [List.length_map]; omega)) (by first | omega | (simp only [List.length_map]; omega)))) | (apply rqB.mk; (· exact okR2_of (by first | omega | (simp only [List.length_map]; omega)) (by first | omega | (simp only [List.length_map]; omega)) (by first | omega | (simp only [List.length_map]; omega)) (by first | omega | (simp only [List.length_map]; omega))))); ((conv => whnf); try dsimp only [MB.toD, DL.cellOf])))
        exact fin _ _ _ (by omega) (by omega) hr
theorem pen_start {ns : List Int} : PenOk 1000000000000 [.list ((cutI ns none (some 63)).map .int), .int 0, .int 0] := by
  refine ⟨0, 0, cutI ns none (some 63), rfl, by omega, by decide, by omega, ?_⟩
  unfold cutI
  rw [HT.sIx_none, List.length_take]
  have : HT.sIx ns.length ns.length (some 63) ≤ 63 := by
    rw [show (some (63 : Int)) = some ((63 : Nat) : Int) from rfl, HT.sIx_nat]; omega
  omega

/-! ### all signs, texts of signs -/
def c_all : Ct := fun as P => as = [] ∧ P (.val (.str SIGNS)) []
theorem use_all {P : R → List Ar → Prop} (h : P (.val (.str SIGNS)) []) : Cl c_all [] P := ⟨rfl, h⟩
theorem w_all (as : List Ar) (P : R → List Ar → Prop) (h : c_all as P) : ctOf 1 m__law_all as P := by
  obtain ⟨rfl, hP⟩ := h
  have sl := sizeLine_eq
  have e : Str.ofString "\n !\"#$&'()*+,-./0123456789:;<=>?@ABCDEFGHIJKLMNOPQRSTUVWXYZ" ++ Str.ofString "[\\]^_`abcdefghijklmnopqrstuvwxyz{|}~" = SIGNS := by decide +kernel
  have q1 : (Str.ofString "\n !\"#$&'()*+,-./0123456789:;<=>?@ABCDEFGHIJKLMNOPQRSTUVWXYZ").length ≤ 100 := by decide +kernel
  have q2 : (Str.ofString "[\\]^_`abcdefghijklmnopqrstuvwxyz{|}~").length ≤ 100 := by decide +kernel
  (((conv => whnf); try dsimp only [MB.toD, DL.cellOf]); repeat ((first | (apply Rq.mk; (· (first | assumption | omega | (refine ⟨?_, ?_⟩ <;> first | assumption | omega) | (simp only [app_len]; omega) | (simp only [List.length_append, List.length_cons, List.length_nil, List.length_map]; omega)))) | (apply on_i; (· assumption)) | (apply rqB.mk; (· exact okR_of (by first | omega | (simp only [List.length_map]; omega)) (by first | omega | (simp only [List.length_map]; omega)))) | (apply rqB.mk; (· exact okR2_of (by first | omega | (simp only [List.length_map]; omega)) (by first | omega | (simp only [List.length_map]; omega)) (by first | omega | (simp only [List.length_map]; omega)) (by first | omega | (simp only [List.length_map]; omega))))); ((conv => whnf); try dsimp only [MB.toD, DL.cellOf])))
  rw [e]
  exact hP
theorem sg1_of {x : Str} (h1 : x.cps.toList.isSublist SIGNS.cps.toList = true) (h2 : x.length ≤ 94) (h3 : 1 ≤ x.length) : Sg1 x := ⟨⟨List.isSublist_iff_sublist.mp h1, h2⟩, h3⟩
def c_signs : Ct := fun as P => ∃ pen b, as = [.box (.L pen)] ∧ PenOk (b + 100) pen ∧ ∀ x pen', Sg1 x → PenOk b pen' → P (.val (.str x)) [.box (.L pen')]
theorem use_signs {pen : List D} {b : Nat} {P : R → List Ar → Prop} (hp : PenOk (b + 100) pen) (h : ∀ x pen', Sg1 x → PenOk b pen' → P (.val (.str x)) [.box (.L pen')]) : Cl c_signs [.box (.L pen)] P := ⟨pen, b, rfl, hp, h⟩
theorem w_signs (as : List Ar) (P : R → List Ar → Prop) (h : c_signs as P) : ctOf 6 (m__law_signs c_all c_draw) as P := by
  obtain ⟨pen, b, rfl, hp, hP⟩ := h
  have sl := sizeLine_eq
  have el := SIGNS_len
  (((conv => whnf); try dsimp only [MB.toD, DL.cellOf]); repeat ((first | (apply Rq.mk; (· (first | assumption | omega | (refine ⟨?_, ?_⟩ <;> first | assumption | omega) | (simp only [app_len]; omega) | (simp only [List.length_append, List.length_cons, List.length_nil, List.length_map]; omega)))) | (apply on_i; (· assumption)) | (apply rqB.mk; (· exact okR_of (by first | omega | (simp only [List.length_map]; omega)) (by first | omega | (simp only [List.length_map]; omega)))) | (apply rqB.mk; (· exact okR2_of (by first | omega | (simp only [List.length_map]; omega)) (by first | omega | (simp only [List.length_map]; omega)) (by first | omega | (simp only [List.length_map]; omega)) (by first | omega | (simp only [List.length_map]; omega))))); ((conv => whnf); try dsimp only [MB.toD, DL.cellOf])))
  refine use_all ?_
  (((conv => whnf); try dsimp only [MB.toD, DL.cellOf]); repeat ((first | (apply Rq.mk; (· (first | assumption | omega | (refine ⟨?_, ?_⟩ <;> first | assumption | omega) | (simp only [app_len]; omega) | (simp only [List.length_append, List.length_cons, List.length_nil, List.length_map]; omega)))) | (apply on_i; (· assumption)) | (apply rqB.mk; (· exact okR_of (by first | omega | (simp only [List.length_map]; omega)) (by first | omega | (simp only [List.length_map]; omega)))) | (apply rqB.mk; (· exact okR2_of (by first | omega | (simp only [List.length_map]; omega)) (by first | omega | (simp only [List.length_map]; omega)) (by first | omega | (simp only [List.length_map]; omega)) (by first | omega | (simp only [List.length_map]; omega))))); ((conv => whnf); try dsimp only [MB.toD, DL.cellOf])))
  refine use_draw (b := b + 99) hp (by omega) (by omega) fun v1 pen1 a1 a2 hp1 => ?_
  (((conv => whnf); try dsimp only [MB.toD, DL.cellOf]); repeat ((first | (apply Rq.mk; (· (first | assumption | omega | (refine ⟨?_, ?_⟩ <;> first | assumption | omega) | (simp only [app_len]; omega) | (simp only [List.length_append, List.length_cons, List.length_nil, List.length_map]; omega)))) | (apply on_i; (· assumption)) | (apply rqB.mk; (· exact okR_of (by first | omega | (simp only [List.length_map]; omega)) (by first | omega | (simp only [List.length_map]; omega)))) | (apply rqB.mk; (· exact okR2_of (by first | omega | (simp only [List.length_map]; omega)) (by first | omega | (simp only [List.length_map]; omega)) (by first | omega | (simp only [List.length_map]; omega)) (by first | omega | (simp only [List.length_map]; omega))))); ((conv => whnf); try dsimp only [MB.toD, DL.cellOf])))
  apply br_d <;> intro hd
  · (((conv => whnf); try dsimp only [MB.toD, DL.cellOf]); repeat ((first | (apply Rq.mk; (· (first | assumption | omega | (refine ⟨?_, ?_⟩ <;> first | assumption | omega) | (simp only [app_len]; omega) | (simp only [List.length_append, List.length_cons, List.length_nil, List.length_map]; omega)))) | (apply on_i; (· assumption)) | (apply rqB.mk; (· exact okR_of (by first | omega | (simp only [List.length_map]; omega)) (by first | omega | (simp only [List.length_map]; omega)))) | (apply rqB.mk; (· exact okR2_of (by first | omega | (simp only [List.length_map]; omega)) (by first | omega | (simp only [List.length_map]; omega)) (by first | omega | (simp only [List.length_map]; omega)) (by first | omega | (simp only [List.length_map]; omega))))); ((conv => whnf); try dsimp only [MB.toD, DL.cellOf])))
    refine use_draw (b := b + 98) hp1 (by omega) (by omega) fun v2 pen2 b1 b2 hp2 => ?_
    obtain ⟨_, hat, x, rfl, hx⟩ := at_all (ds := [PyData.str "a", PyData.str "ab", PyData.str "b", PyData.str "abc", PyData.str "c", PyData.str " ", PyData.str "\n", PyData.str "\n a"]) (v := v2) (fun d => ∃ x, d = .str x ∧ Sg1 x) b1 b2 (by
      intro d hd
      simp only [List.mem_cons, List.not_mem_nil, or_false] at hd
      rcases hd with rfl | rfl | rfl | rfl | rfl | rfl | rfl | rfl <;> exact ⟨_, rfl, sg1_of (by decide +kernel) (by decide) (by decide)⟩)
    (((conv => whnf); try dsimp only [MB.toD, DL.cellOf]); repeat ((first | (apply Rq.mk; (· (first | assumption | omega | (refine ⟨?_, ?_⟩ <;> first | assumption | omega) | (simp only [app_len]; omega) | (simp only [List.length_append, List.length_cons, List.length_nil, List.length_map]; omega)))) | (apply on_i; (· assumption)) | (apply rqB.mk; (· exact okR_of (by first | omega | (simp only [List.length_map]; omega)) (by first | omega | (simp only [List.length_map]; omega)))) | (apply rqB.mk; (· exact okR2_of (by first | omega | (simp only [List.length_map]; omega)) (by first | omega | (simp only [List.length_map]; omega)) (by first | omega | (simp only [List.length_map]; omega)) (by first | omega | (simp only [List.length_map]; omega))))); ((conv => whnf); try dsimp only [MB.toD, DL.cellOf])))
    exact hP _ _ hx (hp2.mono (by omega))
  · (((conv => whnf); try dsimp only [MB.toD, DL.cellOf]); repeat ((first | (apply Rq.mk; (· (first | assumption | omega | (refine ⟨?_, ?_⟩ <;> first | assumption | omega) | (simp only [app_len]; omega) | (simp only [List.length_append, List.length_cons, List.length_nil, List.length_map]; omega)))) | (apply on_i; (· assumption)) | (apply rqB.mk; (· exact okR_of (by first | omega | (simp only [List.length_map]; omega)) (by first | omega | (simp only [List.length_map]; omega)))) | (apply rqB.mk; (· exact okR2_of (by first | omega | (simp only [List.length_map]; omega)) (by first | omega | (simp only [List.length_map]; omega)) (by first | omega | (simp only [List.length_map]; omega)) (by first | omega | (simp only [List.length_map]; omega))))); ((conv => whnf); try dsimp only [MB.toD, DL.cellOf])))
    apply br_d <;> intro hd
    · (((conv => whnf); try dsimp only [MB.toD, DL.cellOf]); repeat ((first | (apply Rq.mk; (· (first | assumption | omega | (refine ⟨?_, ?_⟩ <;> first | assumption | omega) | (simp only [app_len]; omega) | (simp only [List.length_append, List.length_cons, List.length_nil, List.length_map]; omega)))) | (apply on_i; (· assumption)) | (apply rqB.mk; (· exact okR_of (by first | omega | (simp only [List.length_map]; omega)) (by first | omega | (simp only [List.length_map]; omega)))) | (apply rqB.mk; (· exact okR2_of (by first | omega | (simp only [List.length_map]; omega)) (by first | omega | (simp only [List.length_map]; omega)) (by first | omega | (simp only [List.length_map]; omega)) (by first | omega | (simp only [List.length_map]; omega))))); ((conv => whnf); try dsimp only [MB.toD, DL.cellOf])))
      refine use_draw (b := b + 98) hp1 (by omega) (by omega) fun v2 pen2 b1 b2 hp2 => ?_
      (((conv => whnf); try dsimp only [MB.toD, DL.cellOf]); repeat ((first | (apply Rq.mk; (· (first | assumption | omega | (refine ⟨?_, ?_⟩ <;> first | assumption | omega) | (simp only [app_len]; omega) | (simp only [List.length_append, List.length_cons, List.length_nil, List.length_map]; omega)))) | (apply on_i; (· assumption)) | (apply rqB.mk; (· exact okR_of (by first | omega | (simp only [List.length_map]; omega)) (by first | omega | (simp only [List.length_map]; omega)))) | (apply rqB.mk; (· exact okR2_of (by first | omega | (simp only [List.length_map]; omega)) (by first | omega | (simp only [List.length_map]; omega)) (by first | omega | (simp only [List.length_map]; omega)) (by first | omega | (simp only [List.length_map]; omega))))); ((conv => whnf); try dsimp only [MB.toD, DL.cellOf])))
      refine use_draw (b := b + 97) hp2 (by omega) (by omega) fun v3 pen3 c1 c2 hp3 => ?_
      (((conv => whnf); try dsimp only [MB.toD, DL.cellOf]); repeat ((first | (apply Rq.mk; (· (first | assumption | omega | (refine ⟨?_, ?_⟩ <;> first | assumption | omega) | (simp only [app_len]; omega) | (simp only [List.length_append, List.length_cons, List.length_nil, List.length_map]; omega)))) | (apply on_i; (· assumption)) | (apply rqB.mk; (· exact okR_of (by first | omega | (simp only [List.length_map]; omega)) (by first | omega | (simp only [List.length_map]; omega)))) | (apply rqB.mk; (· exact okR2_of (by first | omega | (simp only [List.length_map]; omega)) (by first | omega | (simp only [List.length_map]; omega)) (by first | omega | (simp only [List.length_map]; omega)) (by first | omega | (simp only [List.length_map]; omega))))); ((conv => whnf); try dsimp only [MB.toD, DL.cellOf])))
      obtain ⟨i, rfl⟩ := Int.eq_ofNat_of_zero_le b1
      obtain ⟨j, rfl⟩ := Int.eq_ofNat_of_zero_le c1
      have e2 : (i : Int) + 1 + (j : Int) = ((i + 1 + j : Nat) : Int) := by omega
      rw [e2]
      have e3 := cutS_lohi SIGNS i (i + 1 + j)
      have e4 : (cutS SIGNS (some (i : Int)) (some ((i + 1 + j : Nat) : Int))).length = min (j + 1) (95 - i) := by
        rw [slen, e3, List.length_take, List.length_drop, ← slen, el]; omega
      refine hP _ _ ⟨⟨?_, by rw [e4]; omega⟩, by rw [e4]; omega⟩ (hp3.mono (by omega))
      rw [e3]
      exact (List.take_sublist _ _).trans (List.drop_sublist _ _)
    · (((conv => whnf); try dsimp only [MB.toD, DL.cellOf]); repeat ((first | (apply Rq.mk; (· (first | assumption | omega | (refine ⟨?_, ?_⟩ <;> first | assumption | omega) | (simp only [app_len]; omega) | (simp only [List.length_append, List.length_cons, List.length_nil, List.length_map]; omega)))) | (apply on_i; (· assumption)) | (apply rqB.mk; (· exact okR_of (by first | omega | (simp only [List.length_map]; omega)) (by first | omega | (simp only [List.length_map]; omega)))) | (apply rqB.mk; (· exact okR2_of (by first | omega | (simp only [List.length_map]; omega)) (by first | omega | (simp only [List.length_map]; omega)) (by first | omega | (simp only [List.length_map]; omega)) (by first | omega | (simp only [List.length_map]; omega))))); ((conv => whnf); try dsimp only [MB.toD, DL.cellOf])))
      refine lcc_by (fun ds acc r => ∃ (pen : List D) (l rest : List Nat), r = [some (.box true (.L pen)), some (.val (.str SIGNS)), some (.val (.int v1)), none, none, none] ∧ ds = rest.map (fun c => .str ⟨#[c]⟩) ∧ acc = l.map (fun c => .str ⟨#[c]⟩) ∧ (l ++ rest).Sublist SIGNS.cps.toList ∧ PenOk (b + ds.length) pen) ?_ ?_ ?_
      · refine ⟨pen1, [], SIGNS.cps.toList, rfl, rfl, rfl, List.Sublist.refl _, hp1.mono ?_⟩
        change b + (signsD SIGNS).length ≤ _
        rw [signsD, List.length_map, ← slen, el]; omega
      · rintro d ds acc r ⟨pen2, l, rest, rfl, h1, rfl, h3, h4⟩ ih
        cases rest with
        | nil => cases h1
        | cons c rest =>
        simp only [List.map_cons, List.cons.injEq] at h1
        obtain ⟨rfl, rfl⟩ := h1
        simp only [List.length_cons] at h4
        have hl : (l.map fun c => PyData.str ⟨#[c]⟩).length < sizeLine := by
          have := h3.length_le
          rw [List.length_append, ← slen, el] at this
          rw [List.length_map]; omega
        (((conv => whnf); try dsimp only [MB.toD, DL.cellOf]); repeat ((first | (apply Rq.mk; (· (first | assumption | omega | (refine ⟨?_, ?_⟩ <;> first | assumption | omega) | (simp only [app_len]; omega) | (simp only [List.length_append, List.length_cons, List.length_nil, List.length_map]; omega)))) | (apply on_i; (· assumption)) | (apply rqB.mk; (· exact okR_of (by first | omega | (simp only [List.length_map]; omega)) (by first | omega | (simp only [List.length_map]; omega)))) | (apply rqB.mk; (· exact okR2_of (by first | omega | (simp only [List.length_map]; omega)) (by first | omega | (simp only [List.length_map]; omega)) (by first | omega | (simp only [List.length_map]; omega)) (by first | omega | (simp only [List.length_map]; omega))))); ((conv => whnf); try dsimp only [MB.toD, DL.cellOf])))
        refine use_draw (b := b + (rest.map fun c => PyData.str ⟨#[c]⟩).length) h4 (by omega) (by omega) fun v pen3 c1 c2 hp3 => ?_
        (((conv => whnf); try dsimp only [MB.toD, DL.cellOf]); repeat ((first | (apply Rq.mk; (· (first | assumption | omega | (refine ⟨?_, ?_⟩ <;> first | assumption | omega) | (simp only [app_len]; omega) | (simp only [List.length_append, List.length_cons, List.length_nil, List.length_map]; omega)))) | (apply on_i; (· assumption)) | (apply rqB.mk; (· exact okR_of (by first | omega | (simp only [List.length_map]; omega)) (by first | omega | (simp only [List.length_map]; omega)))) | (apply rqB.mk; (· exact okR2_of (by first | omega | (simp only [List.length_map]; omega)) (by first | omega | (simp only [List.length_map]; omega)) (by first | omega | (simp only [List.length_map]; omega)) (by first | omega | (simp only [List.length_map]; omega))))); ((conv => whnf); try dsimp only [MB.toD, DL.cellOf])))
        apply br_d <;> intro hd
        · (((conv => whnf); try dsimp only [MB.toD, DL.cellOf]); repeat ((first | (apply Rq.mk; (· (first | assumption | omega | (refine ⟨?_, ?_⟩ <;> first | assumption | omega) | (simp only [app_len]; omega) | (simp only [List.length_append, List.length_cons, List.length_nil, List.length_map]; omega)))) | (apply on_i; (· assumption)) | (apply rqB.mk; (· exact okR_of (by first | omega | (simp only [List.length_map]; omega)) (by first | omega | (simp only [List.length_map]; omega)))) | (apply rqB.mk; (· exact okR2_of (by first | omega | (simp only [List.length_map]; omega)) (by first | omega | (simp only [List.length_map]; omega)) (by first | omega | (simp only [List.length_map]; omega)) (by first | omega | (simp only [List.length_map]; omega))))); ((conv => whnf); try dsimp only [MB.toD, DL.cellOf])))
          exact ih _ _ ⟨pen3, l ++ [c], rest, rfl, rfl, by rw [List.map_append]; rfl, by rw [List.append_assoc]; exact h3, hp3⟩
        · (((conv => whnf); try dsimp only [MB.toD, DL.cellOf]); repeat ((first | (apply Rq.mk; (· (first | assumption | omega | (refine ⟨?_, ?_⟩ <;> first | assumption | omega) | (simp only [app_len]; omega) | (simp only [List.length_append, List.length_cons, List.length_nil, List.length_map]; omega)))) | (apply on_i; (· assumption)) | (apply rqB.mk; (· exact okR_of (by first | omega | (simp only [List.length_map]; omega)) (by first | omega | (simp only [List.length_map]; omega)))) | (apply rqB.mk; (· exact okR2_of (by first | omega | (simp only [List.length_map]; omega)) (by first | omega | (simp only [List.length_map]; omega)) (by first | omega | (simp only [List.length_map]; omega)) (by first | omega | (simp only [List.length_map]; omega))))); ((conv => whnf); try dsimp only [MB.toD, DL.cellOf])))
          exact ih _ _ ⟨pen3, l, rest, rfl, rfl, rfl, (List.Sublist.append_left (List.sublist_cons_self c rest) l).trans h3, hp3⟩
      · rintro acc r ⟨pen2, l, rest, rfl, h1, rfl, h3, h4⟩
        have e0 : rest = [] := by simpa using h1.symm
        subst e0
        rw [List.append_nil] at h3
        have hll : l.length ≤ 95 := by
          have := h3.length_le
          rwa [← slen, el] at this
        have hj := join_ones_fit (l := l) (by omega)
        have hs := strsOf_ones l
        have ej := joinOnes l
        have ejl : (Txt.join (Str.ofString "") (l.map fun c => (⟨#[c]⟩ : Str))).length ≤ 95 := by rw [slen, ej]; exact hll
        (((conv => whnf); try dsimp only [MB.toD, DL.cellOf]); repeat ((first | (apply Rq.mk; (· (first | assumption | omega | (refine ⟨?_, ?_⟩ <;> first | assumption | omega) | (simp only [app_len]; omega) | (simp only [List.length_append, List.length_cons, List.length_nil, List.length_map]; omega)))) | (apply on_i; (· assumption)) | (apply rqB.mk; (· exact okR_of (by first | omega | (simp only [List.length_map]; omega)) (by first | omega | (simp only [List.length_map]; omega)))) | (apply rqB.mk; (· exact okR2_of (by first | omega | (simp only [List.length_map]; omega)) (by first | omega | (simp only [List.length_map]; omega)) (by first | omega | (simp only [List.length_map]; omega)) (by first | omega | (simp only [List.length_map]; omega))))); ((conv => whnf); try dsimp only [MB.toD, DL.cellOf])))
        by_cases hz : Txt.join (Str.ofString "") (l.map fun c => (⟨#[c]⟩ : Str)) = Str.ofString ""
        · rw [if_pos (decide_eq_true hz)]
          (((conv => whnf); try dsimp only [MB.toD, DL.cellOf]); repeat ((first | (apply Rq.mk; (· (first | assumption | omega | (refine ⟨?_, ?_⟩ <;> first | assumption | omega) | (simp only [app_len]; omega) | (simp only [List.length_append, List.length_cons, List.length_nil, List.length_map]; omega)))) | (apply on_i; (· assumption)) | (apply rqB.mk; (· exact okR_of (by first | omega | (simp only [List.length_map]; omega)) (by first | omega | (simp only [List.length_map]; omega)))) | (apply rqB.mk; (· exact okR2_of (by first | omega | (simp only [List.length_map]; omega)) (by first | omega | (simp only [List.length_map]; omega)) (by first | omega | (simp only [List.length_map]; omega)) (by first | omega | (simp only [List.length_map]; omega))))); ((conv => whnf); try dsimp only [MB.toD, DL.cellOf])))
          exact hP _ _ (sg1_of (by decide +kernel) (by decide) (by decide)) (h4.mono (by omega))
        · rw [if_neg (by rw [decide_eq_true_eq]; exact hz)]
          (((conv => whnf); try dsimp only [MB.toD, DL.cellOf]); repeat ((first | (apply Rq.mk; (· (first | assumption | omega | (refine ⟨?_, ?_⟩ <;> first | assumption | omega) | (simp only [app_len]; omega) | (simp only [List.length_append, List.length_cons, List.length_nil, List.length_map]; omega)))) | (apply on_i; (· assumption)) | (apply rqB.mk; (· exact okR_of (by first | omega | (simp only [List.length_map]; omega)) (by first | omega | (simp only [List.length_map]; omega)))) | (apply rqB.mk; (· exact okR2_of (by first | omega | (simp only [List.length_map]; omega)) (by first | omega | (simp only [List.length_map]; omega)) (by first | omega | (simp only [List.length_map]; omega)) (by first | omega | (simp only [List.length_map]; omega))))); ((conv => whnf); try dsimp only [MB.toD, DL.cellOf])))
          have e5 := cutS_hi (Txt.join (Str.ofString "") (l.map fun c => (⟨#[c]⟩ : Str))) 94
          rw [ej] at e5
          have hpos : 0 < l.length := by
            cases l with
            | nil => exact absurd rfl hz
            | cons a l => simp
          refine hP _ _ ⟨⟨?_, ?_⟩, ?_⟩ (h4.mono (by omega))
          · rw [show (some (94 : Int)) = some ((94 : Nat) : Int) from rfl, e5]
            exact (List.take_sublist _ _).trans h3
          · rw [show (some (94 : Int)) = some ((94 : Nat) : Int) from rfl, slen, e5, List.length_take]; omega
          · rw [show (some (94 : Int)) = some ((94 : Nat) : Int) from rfl, slen, e5, List.length_take]; omega

/-! ### the law's own look at signs, names, readers -/
theorem w_lsigns (as : List Ar) (P : R → List Ar → Prop) (h : c_sgn as P) : ctOf 6 (m__law_is_signs c_all) as P := by
  obtain ⟨d, least, rfl, hF, hP⟩ := h
  have sl := sizeLine_eq
  cases d with
  | str x =>
    have hx := hF.str
    have hx2 : x.cps.toList.length ≤ 1000000 := by rw [← slen]; exact hx
    have e0 : isSigns least (.str x) = (decide ((x.length : Int) ≤ 94) && x.cps.toList.all inS && (!decide ((x.length : Int) < least) && rising x.cps.toList)) := rfl
    rw [e0] at hP
    (((conv => whnf); try dsimp only [MB.toD, DL.cellOf]); repeat ((first | (apply Rq.mk; (· (first | assumption | omega | (refine ⟨?_, ?_⟩ <;> first | assumption | omega) | (simp only [app_len]; omega) | (simp only [List.length_append, List.length_cons, List.length_nil, List.length_map]; omega)))) | (apply on_i; (· assumption)) | (apply rqB.mk; (· exact okR_of (by first | omega | (simp only [List.length_map]; omega)) (by first | omega | (simp only [List.length_map]; omega)))) | (apply rqB.mk; (· exact okR2_of (by first | omega | (simp only [List.length_map]; omega)) (by first | omega | (simp only [List.length_map]; omega)) (by first | omega | (simp only [List.length_map]; omega)) (by first | omega | (simp only [List.length_map]; omega))))); ((conv => whnf); try dsimp only [MB.toD, DL.cellOf])))
    apply br_d <;> intro hd
    · rw [decide_eq_false (show ¬ (x.length : Int) < least by omega)] at hP
      (((conv => whnf); try dsimp only [MB.toD, DL.cellOf]); repeat ((first | (apply Rq.mk; (· (first | assumption | omega | (refine ⟨?_, ?_⟩ <;> first | assumption | omega) | (simp only [app_len]; omega) | (simp only [List.length_append, List.length_cons, List.length_nil, List.length_map]; omega)))) | (apply on_i; (· assumption)) | (apply rqB.mk; (· exact okR_of (by first | omega | (simp only [List.length_map]; omega)) (by first | omega | (simp only [List.length_map]; omega)))) | (apply rqB.mk; (· exact okR2_of (by first | omega | (simp only [List.length_map]; omega)) (by first | omega | (simp only [List.length_map]; omega)) (by first | omega | (simp only [List.length_map]; omega)) (by first | omega | (simp only [List.length_map]; omega))))); ((conv => whnf); try dsimp only [MB.toD, DL.cellOf])))
      apply br_nd <;> intro hd
      · rw [decide_eq_false hd] at hP
        (((conv => whnf); try dsimp only [MB.toD, DL.cellOf]); repeat ((first | (apply Rq.mk; (· (first | assumption | omega | (refine ⟨?_, ?_⟩ <;> first | assumption | omega) | (simp only [app_len]; omega) | (simp only [List.length_append, List.length_cons, List.length_nil, List.length_map]; omega)))) | (apply on_i; (· assumption)) | (apply rqB.mk; (· exact okR_of (by first | omega | (simp only [List.length_map]; omega)) (by first | omega | (simp only [List.length_map]; omega)))) | (apply rqB.mk; (· exact okR2_of (by first | omega | (simp only [List.length_map]; omega)) (by first | omega | (simp only [List.length_map]; omega)) (by first | omega | (simp only [List.length_map]; omega)) (by first | omega | (simp only [List.length_map]; omega))))); ((conv => whnf); try dsimp only [MB.toD, DL.cellOf])))
        exact hP
      · rw [decide_eq_true hd] at hP
        (((conv => whnf); try dsimp only [MB.toD, DL.cellOf]); repeat ((first | (apply Rq.mk; (· (first | assumption | omega | (refine ⟨?_, ?_⟩ <;> first | assumption | omega) | (simp only [app_len]; omega) | (simp only [List.length_append, List.length_cons, List.length_nil, List.length_map]; omega)))) | (apply on_i; (· assumption)) | (apply rqB.mk; (· exact okR_of (by first | omega | (simp only [List.length_map]; omega)) (by first | omega | (simp only [List.length_map]; omega)))) | (apply rqB.mk; (· exact okR2_of (by first | omega | (simp only [List.length_map]; omega)) (by first | omega | (simp only [List.length_map]; omega)) (by first | omega | (simp only [List.length_map]; omega)) (by first | omega | (simp only [List.length_map]; omega))))); ((conv => whnf); try dsimp only [MB.toD, DL.cellOf])))
        refine use_all ?_
        (((conv => whnf); try dsimp only [MB.toD, DL.cellOf]); repeat ((first | (apply Rq.mk; (· (first | assumption | omega | (refine ⟨?_, ?_⟩ <;> first | assumption | omega) | (simp only [app_len]; omega) | (simp only [List.length_append, List.length_cons, List.length_nil, List.length_map]; omega)))) | (apply on_i; (· assumption)) | (apply rqB.mk; (· exact okR_of (by first | omega | (simp only [List.length_map]; omega)) (by first | omega | (simp only [List.length_map]; omega)))) | (apply rqB.mk; (· exact okR2_of (by first | omega | (simp only [List.length_map]; omega)) (by first | omega | (simp only [List.length_map]; omega)) (by first | omega | (simp only [List.length_map]; omega)) (by first | omega | (simp only [List.length_map]; omega))))); ((conv => whnf); try dsimp only [MB.toD, DL.cellOf])))
        refine lc_list (as := x.cps.toList) (fun c => .str ⟨#[c]⟩) (fun c => .int (fnd c)) (fun c hc ds acc ha hk => ?_) (by omega) ?_
        · (((conv => whnf); try dsimp only [MB.toD, DL.cellOf]); repeat ((first | (apply Rq.mk; (· (first | assumption | omega | (refine ⟨?_, ?_⟩ <;> first | assumption | omega) | (simp only [app_len]; omega) | (simp only [List.length_append, List.length_cons, List.length_nil, List.length_map]; omega)))) | (apply on_i; (· assumption)) | (apply rqB.mk; (· exact okR_of (by first | omega | (simp only [List.length_map]; omega)) (by first | omega | (simp only [List.length_map]; omega)))) | (apply rqB.mk; (· exact okR2_of (by first | omega | (simp only [List.length_map]; omega)) (by first | omega | (simp only [List.length_map]; omega)) (by first | omega | (simp only [List.length_map]; omega)) (by first | omega | (simp only [List.length_map]; omega))))); ((conv => whnf); try dsimp only [MB.toD, DL.cellOf])))
          exact hk
        · (((conv => whnf); try dsimp only [MB.toD, DL.cellOf]); repeat ((first | (apply Rq.mk; (· (first | assumption | omega | (refine ⟨?_, ?_⟩ <;> first | assumption | omega) | (simp only [app_len]; omega) | (simp only [List.length_append, List.length_cons, List.length_nil, List.length_map]; omega)))) | (apply on_i; (· assumption)) | (apply rqB.mk; (· exact okR_of (by first | omega | (simp only [List.length_map]; omega)) (by first | omega | (simp only [List.length_map]; omega)))) | (apply rqB.mk; (· exact okR2_of (by first | omega | (simp only [List.length_map]; omega)) (by first | omega | (simp only [List.length_map]; omega)) (by first | omega | (simp only [List.length_map]; omega)) (by first | omega | (simp only [List.length_map]; omega))))); ((conv => whnf); try dsimp only [MB.toD, DL.cellOf])))
          apply rqB.mk
          · rw [flatD_ints]; rfl
          rw [Bool.false_xor]
          have ein := in_fnd x.cps.toList
          cases hall : x.cps.toList.all inS with
          | false =>
            rw [ein, hall]
            rw [hall] at hP
            (((conv => whnf); try dsimp only [MB.toD, DL.cellOf]); repeat ((first | (apply Rq.mk; (· (first | assumption | omega | (refine ⟨?_, ?_⟩ <;> first | assumption | omega) | (simp only [app_len]; omega) | (simp only [List.length_append, List.length_cons, List.length_nil, List.length_map]; omega)))) | (apply on_i; (· assumption)) | (apply rqB.mk; (· exact okR_of (by first | omega | (simp only [List.length_map]; omega)) (by first | omega | (simp only [List.length_map]; omega)))) | (apply rqB.mk; (· exact okR2_of (by first | omega | (simp only [List.length_map]; omega)) (by first | omega | (simp only [List.length_map]; omega)) (by first | omega | (simp only [List.length_map]; omega)) (by first | omega | (simp only [List.length_map]; omega))))); ((conv => whnf); try dsimp only [MB.toD, DL.cellOf])))
            exact hP
          | true =>
            rw [ein, hall]
            rw [hall] at hP
            have hr := rising_at x.cps.toList hall
            have em : ((((x.cps.toList.map fun c => PyData.int (fnd c)).length : Nat) : Int) - 1).toNat = x.cps.toList.length - 1 := by rw [List.length_map]; omega
            (((conv => whnf); try dsimp only [MB.toD, DL.cellOf]); repeat ((first | (apply Rq.mk; (· (first | assumption | omega | (refine ⟨?_, ?_⟩ <;> first | assumption | omega) | (simp only [app_len]; omega) | (simp only [List.length_append, List.length_cons, List.length_nil, List.length_map]; omega)))) | (apply on_i; (· assumption)) | (apply rqB.mk; (· exact okR_of (by first | omega | (simp only [List.length_map]; omega)) (by first | omega | (simp only [List.length_map]; omega)))) | (apply rqB.mk; (· exact okR2_of (by first | omega | (simp only [List.length_map]; omega)) (by first | omega | (simp only [List.length_map]; omega)) (by first | omega | (simp only [List.length_map]; omega)) (by first | omega | (simp only [List.length_map]; omega))))); ((conv => whnf); try dsimp only [MB.toD, DL.cellOf])))
            rw [em]
            change Lc _ _ _ _ _ ((List.range (x.cps.toList.length - 1)).map fun i => PyData.int (1 + (i : Nat))) _ _
            refine lc_filt (as := List.range (x.cps.toList.length - 1)) (fun i => PyData.int (1 + (i : Nat))) (fun i => PyData.int (1 + (i : Nat))) (fun i => decide (fnd (x.cps.toList.getD (i + 1) 0) ≤ fnd (x.cps.toList.getD i 0))) (fun i hi ds acc ha hk1 hk2 => ?_) (by rw [List.length_range]; omega) ?_
            · rw [List.mem_range] at hi
              have at1 : atI (x.cps.toList.map fun c => PyData.int (fnd c)) (1 + (i : Int) - 1) = some (.int (fnd (x.cps.toList.getD i 0))) := by
                rw [show 1 + (i : Int) - 1 = ((i : Nat) : Int) by omega]
                exact at_nat (map_getD (by omega) _)
              have at2 : atI (x.cps.toList.map fun c => PyData.int (fnd c)) (1 + (i : Int)) = some (.int (fnd (x.cps.toList.getD (i + 1) 0))) := by
                rw [show 1 + (i : Int) = ((i + 1 : Nat) : Int) by omega]
                exact at_nat (map_getD (by omega) _)
              (((conv => whnf); try dsimp only [MB.toD, DL.cellOf]); repeat ((first | (apply Rq.mk; (· (first | assumption | omega | (refine ⟨?_, ?_⟩ <;> first | assumption | omega) | (simp only [app_len]; omega) | (simp only [List.length_append, List.length_cons, List.length_nil, List.length_map]; omega)))) | (apply on_i; (· assumption)) | (apply rqB.mk; (· exact okR_of (by first | omega | (simp only [List.length_map]; omega)) (by first | omega | (simp only [List.length_map]; omega)))) | (apply rqB.mk; (· exact okR2_of (by first | omega | (simp only [List.length_map]; omega)) (by first | omega | (simp only [List.length_map]; omega)) (by first | omega | (simp only [List.length_map]; omega)) (by first | omega | (simp only [List.length_map]; omega))))); ((conv => whnf); try dsimp only [MB.toD, DL.cellOf])))
              apply br_b <;> intro hd
              · (((conv => whnf); try dsimp only [MB.toD, DL.cellOf]); repeat ((first | (apply Rq.mk; (· (first | assumption | omega | (refine ⟨?_, ?_⟩ <;> first | assumption | omega) | (simp only [app_len]; omega) | (simp only [List.length_append, List.length_cons, List.length_nil, List.length_map]; omega)))) | (apply on_i; (· assumption)) | (apply rqB.mk; (· exact okR_of (by first | omega | (simp only [List.length_map]; omega)) (by first | omega | (simp only [List.length_map]; omega)))) | (apply rqB.mk; (· exact okR2_of (by first | omega | (simp only [List.length_map]; omega)) (by first | omega | (simp only [List.length_map]; omega)) (by first | omega | (simp only [List.length_map]; omega)) (by first | omega | (simp only [List.length_map]; omega))))); ((conv => whnf); try dsimp only [MB.toD, DL.cellOf])))
                exact hk1 hd
              · (((conv => whnf); try dsimp only [MB.toD, DL.cellOf]); repeat ((first | (apply Rq.mk; (· (first | assumption | omega | (refine ⟨?_, ?_⟩ <;> first | assumption | omega) | (simp only [app_len]; omega) | (simp only [List.length_append, List.length_cons, List.length_nil, List.length_map]; omega)))) | (apply on_i; (· assumption)) | (apply rqB.mk; (· exact okR_of (by first | omega | (simp only [List.length_map]; omega)) (by first | omega | (simp only [List.length_map]; omega)))) | (apply rqB.mk; (· exact okR2_of (by first | omega | (simp only [List.length_map]; omega)) (by first | omega | (simp only [List.length_map]; omega)) (by first | omega | (simp only [List.length_map]; omega)) (by first | omega | (simp only [List.length_map]; omega))))); ((conv => whnf); try dsimp only [MB.toD, DL.cellOf])))
                exact hk2 hd
            · have e6 : (((List.range (x.cps.toList.length - 1)).filter fun i => decide (fnd (x.cps.toList.getD (i + 1) 0) ≤ fnd (x.cps.toList.getD i 0))).map fun i => PyData.int (1 + (i : Nat))).isEmpty = rising x.cps.toList := by
                rw [List.isEmpty_map, Bool.eq_iff_iff, List.isEmpty_iff]
                exact hr
              rw [← e6] at hP
              (((conv => whnf); try dsimp only [MB.toD, DL.cellOf]); repeat ((first | (apply Rq.mk; (· (first | assumption | omega | (refine ⟨?_, ?_⟩ <;> first | assumption | omega) | (simp only [app_len]; omega) | (simp only [List.length_append, List.length_cons, List.length_nil, List.length_map]; omega)))) | (apply on_i; (· assumption)) | (apply rqB.mk; (· exact okR_of (by first | omega | (simp only [List.length_map]; omega)) (by first | omega | (simp only [List.length_map]; omega)))) | (apply rqB.mk; (· exact okR2_of (by first | omega | (simp only [List.length_map]; omega)) (by first | omega | (simp only [List.length_map]; omega)) (by first | omega | (simp only [List.length_map]; omega)) (by first | omega | (simp only [List.length_map]; omega))))); ((conv => whnf); try dsimp only [MB.toD, DL.cellOf])))
              exact hP
    · rw [decide_eq_true (show (x.length : Int) < least by omega)] at hP
      simp only [Bool.not_true, Bool.false_and, Bool.and_false] at hP
      (((conv => whnf); try dsimp only [MB.toD, DL.cellOf]); repeat ((first | (apply Rq.mk; (· (first | assumption | omega | (refine ⟨?_, ?_⟩ <;> first | assumption | omega) | (simp only [app_len]; omega) | (simp only [List.length_append, List.length_cons, List.length_nil, List.length_map]; omega)))) | (apply on_i; (· assumption)) | (apply rqB.mk; (· exact okR_of (by first | omega | (simp only [List.length_map]; omega)) (by first | omega | (simp only [List.length_map]; omega)))) | (apply rqB.mk; (· exact okR2_of (by first | omega | (simp only [List.length_map]; omega)) (by first | omega | (simp only [List.length_map]; omega)) (by first | omega | (simp only [List.length_map]; omega)) (by first | omega | (simp only [List.length_map]; omega))))); ((conv => whnf); try dsimp only [MB.toD, DL.cellOf])))
      exact hP
  | none => (((conv => whnf); try dsimp only [MB.toD, DL.cellOf]); repeat ((first | (apply Rq.mk; (· (first | assumption | omega | (refine ⟨?_, ?_⟩ <;> first | assumption | omega) | (simp only [app_len]; omega) | (simp only [List.length_append, List.length_cons, List.length_nil, List.length_map]; omega)))) | (apply on_i; (· assumption)) | (apply rqB.mk; (· exact okR_of (by first | omega | (simp only [List.length_map]; omega)) (by first | omega | (simp only [List.length_map]; omega)))) | (apply rqB.mk; (· exact okR2_of (by first | omega | (simp only [List.length_map]; omega)) (by first | omega | (simp only [List.length_map]; omega)) (by first | omega | (simp only [List.length_map]; omega)) (by first | omega | (simp only [List.length_map]; omega))))); ((conv => whnf); try dsimp only [MB.toD, DL.cellOf]))); exact hP
  | bool b => (((conv => whnf); try dsimp only [MB.toD, DL.cellOf]); repeat ((first | (apply Rq.mk; (· (first | assumption | omega | (refine ⟨?_, ?_⟩ <;> first | assumption | omega) | (simp only [app_len]; omega) | (simp only [List.length_append, List.length_cons, List.length_nil, List.length_map]; omega)))) | (apply on_i; (· assumption)) | (apply rqB.mk; (· exact okR_of (by first | omega | (simp only [List.length_map]; omega)) (by first | omega | (simp only [List.length_map]; omega)))) | (apply rqB.mk; (· exact okR2_of (by first | omega | (simp only [List.length_map]; omega)) (by first | omega | (simp only [List.length_map]; omega)) (by first | omega | (simp only [List.length_map]; omega)) (by first | omega | (simp only [List.length_map]; omega))))); ((conv => whnf); try dsimp only [MB.toD, DL.cellOf]))); exact hP
  | int i => (((conv => whnf); try dsimp only [MB.toD, DL.cellOf]); repeat ((first | (apply Rq.mk; (· (first | assumption | omega | (refine ⟨?_, ?_⟩ <;> first | assumption | omega) | (simp only [app_len]; omega) | (simp only [List.length_append, List.length_cons, List.length_nil, List.length_map]; omega)))) | (apply on_i; (· assumption)) | (apply rqB.mk; (· exact okR_of (by first | omega | (simp only [List.length_map]; omega)) (by first | omega | (simp only [List.length_map]; omega)))) | (apply rqB.mk; (· exact okR2_of (by first | omega | (simp only [List.length_map]; omega)) (by first | omega | (simp only [List.length_map]; omega)) (by first | omega | (simp only [List.length_map]; omega)) (by first | omega | (simp only [List.length_map]; omega))))); ((conv => whnf); try dsimp only [MB.toD, DL.cellOf]))); exact hP
  | list ds => (((conv => whnf); try dsimp only [MB.toD, DL.cellOf]); repeat ((first | (apply Rq.mk; (· (first | assumption | omega | (refine ⟨?_, ?_⟩ <;> first | assumption | omega) | (simp only [app_len]; omega) | (simp only [List.length_append, List.length_cons, List.length_nil, List.length_map]; omega)))) | (apply on_i; (· assumption)) | (apply rqB.mk; (· exact okR_of (by first | omega | (simp only [List.length_map]; omega)) (by first | omega | (simp only [List.length_map]; omega)))) | (apply rqB.mk; (· exact okR2_of (by first | omega | (simp only [List.length_map]; omega)) (by first | omega | (simp only [List.length_map]; omega)) (by first | omega | (simp only [List.length_map]; omega)) (by first | omega | (simp only [List.length_map]; omega))))); ((conv => whnf); try dsimp only [MB.toD, DL.cellOf]))); exact hP
  | tuple ds => (((conv => whnf); try dsimp only [MB.toD, DL.cellOf]); repeat ((first | (apply Rq.mk; (· (first | assumption | omega | (refine ⟨?_, ?_⟩ <;> first | assumption | omega) | (simp only [app_len]; omega) | (simp only [List.length_append, List.length_cons, List.length_nil, List.length_map]; omega)))) | (apply on_i; (· assumption)) | (apply rqB.mk; (· exact okR_of (by first | omega | (simp only [List.length_map]; omega)) (by first | omega | (simp only [List.length_map]; omega)))) | (apply rqB.mk; (· exact okR2_of (by first | omega | (simp only [List.length_map]; omega)) (by first | omega | (simp only [List.length_map]; omega)) (by first | omega | (simp only [List.length_map]; omega)) (by first | omega | (simp only [List.length_map]; omega))))); ((conv => whnf); try dsimp only [MB.toD, DL.cellOf]))); exact hP
  | dict kvs => (((conv => whnf); try dsimp only [MB.toD, DL.cellOf]); repeat ((first | (apply Rq.mk; (· (first | assumption | omega | (refine ⟨?_, ?_⟩ <;> first | assumption | omega) | (simp only [app_len]; omega) | (simp only [List.length_append, List.length_cons, List.length_nil, List.length_map]; omega)))) | (apply on_i; (· assumption)) | (apply rqB.mk; (· exact okR_of (by first | omega | (simp only [List.length_map]; omega)) (by first | omega | (simp only [List.length_map]; omega)))) | (apply rqB.mk; (· exact okR2_of (by first | omega | (simp only [List.length_map]; omega)) (by first | omega | (simp only [List.length_map]; omega)) (by first | omega | (simp only [List.length_map]; omega)) (by first | omega | (simp only [List.length_map]; omega))))); ((conv => whnf); try dsimp only [MB.toD, DL.cellOf]))); exact hP

end L01
namespace L01
open PySem L2 PyProof.Rows DL
/-! ### the law's own look at texts -/
theorem tx_fit {x : Str} (h : Tx 2000 x) : Fit (.str x) := ⟨h.2, by have := h.1; simp only [wt]; omega, by simp [PyData.depth]⟩
theorem tx_repr {x : Str} (h : Tx 2000 x) : reprOk (.str x) = true := repr_ok h.2 (by have := h.1; simp only [wt]; omega) (by simp [PyData.depth]) rfl
theorem w_ltext (as : List Ar) (P : R → List Ar → Prop) (h : c_text as P) : ctOf 3 (m__law_is_text c_all) as P := by
  obtain ⟨d, most, rfl, hf, hP⟩ := h
  have sl := sizeLine_eq
  cases d with
  | str x =>
    have hx := hf.str
    have hx2 : x.cps.toList.length ≤ 1000000 := by rw [← slen]; exact hx
    have e0 : isText most (.str x) = (decide ((x.length : Int) ≤ most) && x.cps.toList.all inS) := rfl
    rw [e0] at hP
    (((conv => whnf); try dsimp only [MB.toD, DL.cellOf]); repeat ((first | (apply Rq.mk; (· (first | assumption | omega | (refine ⟨?_, ?_⟩ <;> first | assumption | omega) | (simp only [app_len]; omega) | (simp only [List.length_append, List.length_cons, List.length_nil, List.length_map]; omega)))) | (apply on_i; (· assumption)) | (apply rqB.mk; (· exact okR_of (by first | omega | (simp only [List.length_map]; omega)) (by first | omega | (simp only [List.length_map]; omega)))) | (apply rqB.mk; (· exact okR2_of (by first | omega | (simp only [List.length_map]; omega)) (by first | omega | (simp only [List.length_map]; omega)) (by first | omega | (simp only [List.length_map]; omega)) (by first | omega | (simp only [List.length_map]; omega))))); ((conv => whnf); try dsimp only [MB.toD, DL.cellOf])))
    apply br_d <;> intro hd
    · rw [decide_eq_false (by omega)] at hP
      (((conv => whnf); try dsimp only [MB.toD, DL.cellOf]); repeat ((first | (apply Rq.mk; (· (first | assumption | omega | (refine ⟨?_, ?_⟩ <;> first | assumption | omega) | (simp only [app_len]; omega) | (simp only [List.length_append, List.length_cons, List.length_nil, List.length_map]; omega)))) | (apply on_i; (· assumption)) | (apply rqB.mk; (· exact okR_of (by first | omega | (simp only [List.length_map]; omega)) (by first | omega | (simp only [List.length_map]; omega)))) | (apply rqB.mk; (· exact okR2_of (by first | omega | (simp only [List.length_map]; omega)) (by first | omega | (simp only [List.length_map]; omega)) (by first | omega | (simp only [List.length_map]; omega)) (by first | omega | (simp only [List.length_map]; omega))))); ((conv => whnf); try dsimp only [MB.toD, DL.cellOf])))
      exact hP
    · rw [decide_eq_true (by omega)] at hP
      (((conv => whnf); try dsimp only [MB.toD, DL.cellOf]); repeat ((first | (apply Rq.mk; (· (first | assumption | omega | (refine ⟨?_, ?_⟩ <;> first | assumption | omega) | (simp only [app_len]; omega) | (simp only [List.length_append, List.length_cons, List.length_nil, List.length_map]; omega)))) | (apply on_i; (· assumption)) | (apply rqB.mk; (· exact okR_of (by first | omega | (simp only [List.length_map]; omega)) (by first | omega | (simp only [List.length_map]; omega)))) | (apply rqB.mk; (· exact okR2_of (by first | omega | (simp only [List.length_map]; omega)) (by first | omega | (simp only [List.length_map]; omega)) (by first | omega | (simp only [List.length_map]; omega)) (by first | omega | (simp only [List.length_map]; omega))))); ((conv => whnf); try dsimp only [MB.toD, DL.cellOf])))
      refine lc_filt (as := x.cps.toList) (fun c => .str ⟨#[c]⟩) (fun c => .str ⟨#[c]⟩) (fun c => !inS c) (fun c hc ds acc ha hk1 hk2 => ?_) (by omega) ?_
      · (((conv => whnf); try dsimp only [MB.toD, DL.cellOf]); repeat ((first | (apply Rq.mk; (· (first | assumption | omega | (refine ⟨?_, ?_⟩ <;> first | assumption | omega) | (simp only [app_len]; omega) | (simp only [List.length_append, List.length_cons, List.length_nil, List.length_map]; omega)))) | (apply on_i; (· assumption)) | (apply rqB.mk; (· exact okR_of (by first | omega | (simp only [List.length_map]; omega)) (by first | omega | (simp only [List.length_map]; omega)))) | (apply rqB.mk; (· exact okR2_of (by first | omega | (simp only [List.length_map]; omega)) (by first | omega | (simp only [List.length_map]; omega)) (by first | omega | (simp only [List.length_map]; omega)) (by first | omega | (simp only [List.length_map]; omega))))); ((conv => whnf); try dsimp only [MB.toD, DL.cellOf])))
        refine use_all ?_
        (((conv => whnf); try dsimp only [MB.toD, DL.cellOf]); repeat ((first | (apply Rq.mk; (· (first | assumption | omega | (refine ⟨?_, ?_⟩ <;> first | assumption | omega) | (simp only [app_len]; omega) | (simp only [List.length_append, List.length_cons, List.length_nil, List.length_map]; omega)))) | (apply on_i; (· assumption)) | (apply rqB.mk; (· exact okR_of (by first | omega | (simp only [List.length_map]; omega)) (by first | omega | (simp only [List.length_map]; omega)))) | (apply rqB.mk; (· exact okR2_of (by first | omega | (simp only [List.length_map]; omega)) (by first | omega | (simp only [List.length_map]; omega)) (by first | omega | (simp only [List.length_map]; omega)) (by first | omega | (simp only [List.length_map]; omega))))); ((conv => whnf); try dsimp only [MB.toD, DL.cellOf])))
        rw [Bool.true_xor, strIn_one]
        apply br_b <;> intro hd
        · (((conv => whnf); try dsimp only [MB.toD, DL.cellOf]); repeat ((first | (apply Rq.mk; (· (first | assumption | omega | (refine ⟨?_, ?_⟩ <;> first | assumption | omega) | (simp only [app_len]; omega) | (simp only [List.length_append, List.length_cons, List.length_nil, List.length_map]; omega)))) | (apply on_i; (· assumption)) | (apply rqB.mk; (· exact okR_of (by first | omega | (simp only [List.length_map]; omega)) (by first | omega | (simp only [List.length_map]; omega)))) | (apply rqB.mk; (· exact okR2_of (by first | omega | (simp only [List.length_map]; omega)) (by first | omega | (simp only [List.length_map]; omega)) (by first | omega | (simp only [List.length_map]; omega)) (by first | omega | (simp only [List.length_map]; omega))))); ((conv => whnf); try dsimp only [MB.toD, DL.cellOf])))
          exact hk1 hd
        · (((conv => whnf); try dsimp only [MB.toD, DL.cellOf]); repeat ((first | (apply Rq.mk; (· (first | assumption | omega | (refine ⟨?_, ?_⟩ <;> first | assumption | omega) | (simp only [app_len]; omega) | (simp only [List.length_append, List.length_cons, List.length_nil, List.length_map]; omega)))) | (apply on_i; (· assumption)) | (apply rqB.mk; (· exact okR_of (by first | omega | (simp only [List.length_map]; omega)) (by first | omega | (simp only [List.length_map]; omega)))) | (apply rqB.mk; (· exact okR2_of (by first | omega | (simp only [List.length_map]; omega)) (by first | omega | (simp only [List.length_map]; omega)) (by first | omega | (simp only [List.length_map]; omega)) (by first | omega | (simp only [List.length_map]; omega))))); ((conv => whnf); try dsimp only [MB.toD, DL.cellOf])))
          exact hk2 hd
      · have e5 : ((x.cps.toList.filter fun c => !inS c).map fun c => PyData.str ⟨#[c]⟩).isEmpty = x.cps.toList.all inS := by
          rw [List.isEmpty_map, Bool.eq_iff_iff, List.isEmpty_iff, List.filter_eq_nil_iff, List.all_eq_true]
          simp
        rw [← e5] at hP
        (((conv => whnf); try dsimp only [MB.toD, DL.cellOf]); repeat ((first | (apply Rq.mk; (· (first | assumption | omega | (refine ⟨?_, ?_⟩ <;> first | assumption | omega) | (simp only [app_len]; omega) | (simp only [List.length_append, List.length_cons, List.length_nil, List.length_map]; omega)))) | (apply on_i; (· assumption)) | (apply rqB.mk; (· exact okR_of (by first | omega | (simp only [List.length_map]; omega)) (by first | omega | (simp only [List.length_map]; omega)))) | (apply rqB.mk; (· exact okR2_of (by first | omega | (simp only [List.length_map]; omega)) (by first | omega | (simp only [List.length_map]; omega)) (by first | omega | (simp only [List.length_map]; omega)) (by first | omega | (simp only [List.length_map]; omega))))); ((conv => whnf); try dsimp only [MB.toD, DL.cellOf])))
        exact hP
  | none => ((((conv => whnf); try dsimp only [MB.toD, DL.cellOf]); repeat ((first | (apply Rq.mk; (· (first | assumption | omega | (refine ⟨?_, ?_⟩ <;> first | assumption | omega) | (simp only [app_len]; omega) | (simp only [List.length_append, List.length_cons, List.length_nil, List.length_map]; omega)))) | (apply on_i; (· assumption)) | (apply rqB.mk; (· exact okR_of (by first | omega | (simp only [List.length_map]; omega)) (by first | omega | (simp only [List.length_map]; omega)))) | (apply rqB.mk; (· exact okR2_of (by first | omega | (simp only [List.length_map]; omega)) (by first | omega | (simp only [List.length_map]; omega)) (by first | omega | (simp only [List.length_map]; omega)) (by first | omega | (simp only [List.length_map]; omega))))); ((conv => whnf); try dsimp only [MB.toD, DL.cellOf]))); exact hP)
  | bool b => ((((conv => whnf); try dsimp only [MB.toD, DL.cellOf]); repeat ((first | (apply Rq.mk; (· (first | assumption | omega | (refine ⟨?_, ?_⟩ <;> first | assumption | omega) | (simp only [app_len]; omega) | (simp only [List.length_append, List.length_cons, List.length_nil, List.length_map]; omega)))) | (apply on_i; (· assumption)) | (apply rqB.mk; (· exact okR_of (by first | omega | (simp only [List.length_map]; omega)) (by first | omega | (simp only [List.length_map]; omega)))) | (apply rqB.mk; (· exact okR2_of (by first | omega | (simp only [List.length_map]; omega)) (by first | omega | (simp only [List.length_map]; omega)) (by first | omega | (simp only [List.length_map]; omega)) (by first | omega | (simp only [List.length_map]; omega))))); ((conv => whnf); try dsimp only [MB.toD, DL.cellOf]))); exact hP)
  | int i => ((((conv => whnf); try dsimp only [MB.toD, DL.cellOf]); repeat ((first | (apply Rq.mk; (· (first | assumption | omega | (refine ⟨?_, ?_⟩ <;> first | assumption | omega) | (simp only [app_len]; omega) | (simp only [List.length_append, List.length_cons, List.length_nil, List.length_map]; omega)))) | (apply on_i; (· assumption)) | (apply rqB.mk; (· exact okR_of (by first | omega | (simp only [List.length_map]; omega)) (by first | omega | (simp only [List.length_map]; omega)))) | (apply rqB.mk; (· exact okR2_of (by first | omega | (simp only [List.length_map]; omega)) (by first | omega | (simp only [List.length_map]; omega)) (by first | omega | (simp only [List.length_map]; omega)) (by first | omega | (simp only [List.length_map]; omega))))); ((conv => whnf); try dsimp only [MB.toD, DL.cellOf]))); exact hP)
  | list ds => ((((conv => whnf); try dsimp only [MB.toD, DL.cellOf]); repeat ((first | (apply Rq.mk; (· (first | assumption | omega | (refine ⟨?_, ?_⟩ <;> first | assumption | omega) | (simp only [app_len]; omega) | (simp only [List.length_append, List.length_cons, List.length_nil, List.length_map]; omega)))) | (apply on_i; (· assumption)) | (apply rqB.mk; (· exact okR_of (by first | omega | (simp only [List.length_map]; omega)) (by first | omega | (simp only [List.length_map]; omega)))) | (apply rqB.mk; (· exact okR2_of (by first | omega | (simp only [List.length_map]; omega)) (by first | omega | (simp only [List.length_map]; omega)) (by first | omega | (simp only [List.length_map]; omega)) (by first | omega | (simp only [List.length_map]; omega))))); ((conv => whnf); try dsimp only [MB.toD, DL.cellOf]))); exact hP)
  | tuple ds => ((((conv => whnf); try dsimp only [MB.toD, DL.cellOf]); repeat ((first | (apply Rq.mk; (· (first | assumption | omega | (refine ⟨?_, ?_⟩ <;> first | assumption | omega) | (simp only [app_len]; omega) | (simp only [List.length_append, List.length_cons, List.length_nil, List.length_map]; omega)))) | (apply on_i; (· assumption)) | (apply rqB.mk; (· exact okR_of (by first | omega | (simp only [List.length_map]; omega)) (by first | omega | (simp only [List.length_map]; omega)))) | (apply rqB.mk; (· exact okR2_of (by first | omega | (simp only [List.length_map]; omega)) (by first | omega | (simp only [List.length_map]; omega)) (by first | omega | (simp only [List.length_map]; omega)) (by first | omega | (simp only [List.length_map]; omega))))); ((conv => whnf); try dsimp only [MB.toD, DL.cellOf]))); exact hP)
  | dict kvs => ((((conv => whnf); try dsimp only [MB.toD, DL.cellOf]); repeat ((first | (apply Rq.mk; (· (first | assumption | omega | (refine ⟨?_, ?_⟩ <;> first | assumption | omega) | (simp only [app_len]; omega) | (simp only [List.length_append, List.length_cons, List.length_nil, List.length_map]; omega)))) | (apply on_i; (· assumption)) | (apply rqB.mk; (· exact okR_of (by first | omega | (simp only [List.length_map]; omega)) (by first | omega | (simp only [List.length_map]; omega)))) | (apply rqB.mk; (· exact okR2_of (by first | omega | (simp only [List.length_map]; omega)) (by first | omega | (simp only [List.length_map]; omega)) (by first | omega | (simp only [List.length_map]; omega)) (by first | omega | (simp only [List.length_map]; omega))))); ((conv => whnf); try dsimp only [MB.toD, DL.cellOf]))); exact hP)
/-! ### _law_right -/
theorem repr4 (a b c d : Bool) : reprOk (.list [.bool a, .bool b, .bool c, .bool d]) = true := repr_ok (by exact ⟨trivial, trivial, trivial, trivial, trivial⟩) (by simp [wt, wts]) (by simp [PyData.depth, PyData.depthAll]) (by simp [PyData.hasDict, PyData.hasDictAll])
def c_rgt : Ct := fun as P => ∃ (d : D) (b : Int), as = [.val d, .val (.int b)] ∧ Fit d ∧ reprOk d = true ∧ 0 ≤ b ∧ b ≤ 100000 ∧ P (.val (.bool true)) [.val d, .val (.int b)]
theorem use_rgt {d : D} {b : Int} {P : R → List Ar → Prop} (h1 : Fit d) (h2 : reprOk d = true) (h3 : 0 ≤ b) (h4 : b ≤ 100000) (h : P (.val (.bool true)) [.val d, .val (.int b)]) : Cl c_rgt [.val d, .val (.int b)] P := ⟨d, b, rfl, h1, h2, h3, h4, h⟩
theorem w_rgt (as : List Ar) (P : R → List Ar → Prop) (h : c_rgt as P) : ctOf 6 (m__law_right c_text c_sgn c_text c_sgn) as P := by
  obtain ⟨d, b, rfl, hf, hr, b1, b2, hP⟩ := h
  have sl := sizeLine_eq
  have r4 := repr4 (isText 60 d) (isText b d) (isSigns 0 d) (isSigns (b % 96) d)
  (((conv => whnf); try dsimp only [MB.toD, DL.cellOf]); repeat ((first | (apply Rq.mk; (· (first | assumption | omega | (refine ⟨?_, ?_⟩ <;> first | assumption | omega) | (simp only [app_len]; omega) | (simp only [List.length_append, List.length_cons, List.length_nil, List.length_map]; omega)))) | (apply on_i; (· assumption)) | (apply rqB.mk; (· exact okR_of (by first | omega | (simp only [List.length_map]; omega)) (by first | omega | (simp only [List.length_map]; omega)))) | (apply rqB.mk; (· exact okR2_of (by first | omega | (simp only [List.length_map]; omega)) (by first | omega | (simp only [List.length_map]; omega)) (by first | omega | (simp only [List.length_map]; omega)) (by first | omega | (simp only [List.length_map]; omega))))); ((conv => whnf); try dsimp only [MB.toD, DL.cellOf])))
  apply rqB.mk hr
  (((conv => whnf); try dsimp only [MB.toD, DL.cellOf]); repeat ((first | (apply Rq.mk; (· (first | assumption | omega | (refine ⟨?_, ?_⟩ <;> first | assumption | omega) | (simp only [app_len]; omega) | (simp only [List.length_append, List.length_cons, List.length_nil, List.length_map]; omega)))) | (apply on_i; (· assumption)) | (apply rqB.mk; (· exact okR_of (by first | omega | (simp only [List.length_map]; omega)) (by first | omega | (simp only [List.length_map]; omega)))) | (apply rqB.mk; (· exact okR2_of (by first | omega | (simp only [List.length_map]; omega)) (by first | omega | (simp only [List.length_map]; omega)) (by first | omega | (simp only [List.length_map]; omega)) (by first | omega | (simp only [List.length_map]; omega))))); ((conv => whnf); try dsimp only [MB.toD, DL.cellOf])))
  refine use_text hf ?_
  (((conv => whnf); try dsimp only [MB.toD, DL.cellOf]); repeat ((first | (apply Rq.mk; (· (first | assumption | omega | (refine ⟨?_, ?_⟩ <;> first | assumption | omega) | (simp only [app_len]; omega) | (simp only [List.length_append, List.length_cons, List.length_nil, List.length_map]; omega)))) | (apply on_i; (· assumption)) | (apply rqB.mk; (· exact okR_of (by first | omega | (simp only [List.length_map]; omega)) (by first | omega | (simp only [List.length_map]; omega)))) | (apply rqB.mk; (· exact okR2_of (by first | omega | (simp only [List.length_map]; omega)) (by first | omega | (simp only [List.length_map]; omega)) (by first | omega | (simp only [List.length_map]; omega)) (by first | omega | (simp only [List.length_map]; omega))))); ((conv => whnf); try dsimp only [MB.toD, DL.cellOf])))
  refine use_text hf ?_
  (((conv => whnf); try dsimp only [MB.toD, DL.cellOf]); repeat ((first | (apply Rq.mk; (· (first | assumption | omega | (refine ⟨?_, ?_⟩ <;> first | assumption | omega) | (simp only [app_len]; omega) | (simp only [List.length_append, List.length_cons, List.length_nil, List.length_map]; omega)))) | (apply on_i; (· assumption)) | (apply rqB.mk; (· exact okR_of (by first | omega | (simp only [List.length_map]; omega)) (by first | omega | (simp only [List.length_map]; omega)))) | (apply rqB.mk; (· exact okR2_of (by first | omega | (simp only [List.length_map]; omega)) (by first | omega | (simp only [List.length_map]; omega)) (by first | omega | (simp only [List.length_map]; omega)) (by first | omega | (simp only [List.length_map]; omega))))); ((conv => whnf); try dsimp only [MB.toD, DL.cellOf])))
  refine use_sgn hf ?_
  (((conv => whnf); try dsimp only [MB.toD, DL.cellOf]); repeat ((first | (apply Rq.mk; (· (first | assumption | omega | (refine ⟨?_, ?_⟩ <;> first | assumption | omega) | (simp only [app_len]; omega) | (simp only [List.length_append, List.length_cons, List.length_nil, List.length_map]; omega)))) | (apply on_i; (· assumption)) | (apply rqB.mk; (· exact okR_of (by first | omega | (simp only [List.length_map]; omega)) (by first | omega | (simp only [List.length_map]; omega)))) | (apply rqB.mk; (· exact okR2_of (by first | omega | (simp only [List.length_map]; omega)) (by first | omega | (simp only [List.length_map]; omega)) (by first | omega | (simp only [List.length_map]; omega)) (by first | omega | (simp only [List.length_map]; omega))))); ((conv => whnf); try dsimp only [MB.toD, DL.cellOf])))
  refine use_sgn hf ?_
  (((conv => whnf); try dsimp only [MB.toD, DL.cellOf]); repeat ((first | (apply Rq.mk; (· (first | assumption | omega | (refine ⟨?_, ?_⟩ <;> first | assumption | omega) | (simp only [app_len]; omega) | (simp only [List.length_append, List.length_cons, List.length_nil, List.length_map]; omega)))) | (apply on_i; (· assumption)) | (apply rqB.mk; (· exact okR_of (by first | omega | (simp only [List.length_map]; omega)) (by first | omega | (simp only [List.length_map]; omega)))) | (apply rqB.mk; (· exact okR2_of (by first | omega | (simp only [List.length_map]; omega)) (by first | omega | (simp only [List.length_map]; omega)) (by first | omega | (simp only [List.length_map]; omega)) (by first | omega | (simp only [List.length_map]; omega))))); ((conv => whnf); try dsimp only [MB.toD, DL.cellOf])))
  refine use_text hf ?_
  (((conv => whnf); try dsimp only [MB.toD, DL.cellOf]); repeat ((first | (apply Rq.mk; (· (first | assumption | omega | (refine ⟨?_, ?_⟩ <;> first | assumption | omega) | (simp only [app_len]; omega) | (simp only [List.length_append, List.length_cons, List.length_nil, List.length_map]; omega)))) | (apply on_i; (· assumption)) | (apply rqB.mk; (· exact okR_of (by first | omega | (simp only [List.length_map]; omega)) (by first | omega | (simp only [List.length_map]; omega)))) | (apply rqB.mk; (· exact okR2_of (by first | omega | (simp only [List.length_map]; omega)) (by first | omega | (simp only [List.length_map]; omega)) (by first | omega | (simp only [List.length_map]; omega)) (by first | omega | (simp only [List.length_map]; omega))))); ((conv => whnf); try dsimp only [MB.toD, DL.cellOf])))
  refine use_text hf ?_
  (((conv => whnf); try dsimp only [MB.toD, DL.cellOf]); repeat ((first | (apply Rq.mk; (· (first | assumption | omega | (refine ⟨?_, ?_⟩ <;> first | assumption | omega) | (simp only [app_len]; omega) | (simp only [List.length_append, List.length_cons, List.length_nil, List.length_map]; omega)))) | (apply on_i; (· assumption)) | (apply rqB.mk; (· exact okR_of (by first | omega | (simp only [List.length_map]; omega)) (by first | omega | (simp only [List.length_map]; omega)))) | (apply rqB.mk; (· exact okR2_of (by first | omega | (simp only [List.length_map]; omega)) (by first | omega | (simp only [List.length_map]; omega)) (by first | omega | (simp only [List.length_map]; omega)) (by first | omega | (simp only [List.length_map]; omega))))); ((conv => whnf); try dsimp only [MB.toD, DL.cellOf])))
  refine use_sgn hf ?_
  (((conv => whnf); try dsimp only [MB.toD, DL.cellOf]); repeat ((first | (apply Rq.mk; (· (first | assumption | omega | (refine ⟨?_, ?_⟩ <;> first | assumption | omega) | (simp only [app_len]; omega) | (simp only [List.length_append, List.length_cons, List.length_nil, List.length_map]; omega)))) | (apply on_i; (· assumption)) | (apply rqB.mk; (· exact okR_of (by first | omega | (simp only [List.length_map]; omega)) (by first | omega | (simp only [List.length_map]; omega)))) | (apply rqB.mk; (· exact okR2_of (by first | omega | (simp only [List.length_map]; omega)) (by first | omega | (simp only [List.length_map]; omega)) (by first | omega | (simp only [List.length_map]; omega)) (by first | omega | (simp only [List.length_map]; omega))))); ((conv => whnf); try dsimp only [MB.toD, DL.cellOf])))
  refine use_sgn hf ?_
  (((conv => whnf); try dsimp only [MB.toD, DL.cellOf]); repeat ((first | (apply Rq.mk; (· (first | assumption | omega | (refine ⟨?_, ?_⟩ <;> first | assumption | omega) | (simp only [app_len]; omega) | (simp only [List.length_append, List.length_cons, List.length_nil, List.length_map]; omega)))) | (apply on_i; (· assumption)) | (apply rqB.mk; (· exact okR_of (by first | omega | (simp only [List.length_map]; omega)) (by first | omega | (simp only [List.length_map]; omega)))) | (apply rqB.mk; (· exact okR2_of (by first | omega | (simp only [List.length_map]; omega)) (by first | omega | (simp only [List.length_map]; omega)) (by first | omega | (simp only [List.length_map]; omega)) (by first | omega | (simp only [List.length_map]; omega))))); ((conv => whnf); try dsimp only [MB.toD, DL.cellOf])))
  refine use_text hf ?_
  (((conv => whnf); try dsimp only [MB.toD, DL.cellOf]); repeat ((first | (apply Rq.mk; (· (first | assumption | omega | (refine ⟨?_, ?_⟩ <;> first | assumption | omega) | (simp only [app_len]; omega) | (simp only [List.length_append, List.length_cons, List.length_nil, List.length_map]; omega)))) | (apply on_i; (· assumption)) | (apply rqB.mk; (· exact okR_of (by first | omega | (simp only [List.length_map]; omega)) (by first | omega | (simp only [List.length_map]; omega)))) | (apply rqB.mk; (· exact okR2_of (by first | omega | (simp only [List.length_map]; omega)) (by first | omega | (simp only [List.length_map]; omega)) (by first | omega | (simp only [List.length_map]; omega)) (by first | omega | (simp only [List.length_map]; omega))))); ((conv => whnf); try dsimp only [MB.toD, DL.cellOf])))
  refine use_text hf ?_
  (((conv => whnf); try dsimp only [MB.toD, DL.cellOf]); repeat ((first | (apply Rq.mk; (· (first | assumption | omega | (refine ⟨?_, ?_⟩ <;> first | assumption | omega) | (simp only [app_len]; omega) | (simp only [List.length_append, List.length_cons, List.length_nil, List.length_map]; omega)))) | (apply on_i; (· assumption)) | (apply rqB.mk; (· exact okR_of (by first | omega | (simp only [List.length_map]; omega)) (by first | omega | (simp only [List.length_map]; omega)))) | (apply rqB.mk; (· exact okR2_of (by first | omega | (simp only [List.length_map]; omega)) (by first | omega | (simp only [List.length_map]; omega)) (by first | omega | (simp only [List.length_map]; omega)) (by first | omega | (simp only [List.length_map]; omega))))); ((conv => whnf); try dsimp only [MB.toD, DL.cellOf])))
  refine use_sgn hf ?_
  (((conv => whnf); try dsimp only [MB.toD, DL.cellOf]); repeat ((first | (apply Rq.mk; (· (first | assumption | omega | (refine ⟨?_, ?_⟩ <;> first | assumption | omega) | (simp only [app_len]; omega) | (simp only [List.length_append, List.length_cons, List.length_nil, List.length_map]; omega)))) | (apply on_i; (· assumption)) | (apply rqB.mk; (· exact okR_of (by first | omega | (simp only [List.length_map]; omega)) (by first | omega | (simp only [List.length_map]; omega)))) | (apply rqB.mk; (· exact okR2_of (by first | omega | (simp only [List.length_map]; omega)) (by first | omega | (simp only [List.length_map]; omega)) (by first | omega | (simp only [List.length_map]; omega)) (by first | omega | (simp only [List.length_map]; omega))))); ((conv => whnf); try dsimp only [MB.toD, DL.cellOf])))
  refine use_sgn hf ?_
  (((conv => whnf); try dsimp only [MB.toD, DL.cellOf]); repeat ((first | (apply Rq.mk; (· (first | assumption | omega | (refine ⟨?_, ?_⟩ <;> first | assumption | omega) | (simp only [app_len]; omega) | (simp only [List.length_append, List.length_cons, List.length_nil, List.length_map]; omega)))) | (apply on_i; (· assumption)) | (apply rqB.mk; (· exact okR_of (by first | omega | (simp only [List.length_map]; omega)) (by first | omega | (simp only [List.length_map]; omega)))) | (apply rqB.mk; (· exact okR2_of (by first | omega | (simp only [List.length_map]; omega)) (by first | omega | (simp only [List.length_map]; omega)) (by first | omega | (simp only [List.length_map]; omega)) (by first | omega | (simp only [List.length_map]; omega))))); ((conv => whnf); try dsimp only [MB.toD, DL.cellOf])))
  apply rqB.mk r4
  (((conv => whnf); try dsimp only [MB.toD, DL.cellOf]); repeat ((first | (apply Rq.mk; (· (first | assumption | omega | (refine ⟨?_, ?_⟩ <;> first | assumption | omega) | (simp only [app_len]; omega) | (simp only [List.length_append, List.length_cons, List.length_nil, List.length_map]; omega)))) | (apply on_i; (· assumption)) | (apply rqB.mk; (· exact okR_of (by first | omega | (simp only [List.length_map]; omega)) (by first | omega | (simp only [List.length_map]; omega)))) | (apply rqB.mk; (· exact okR2_of (by first | omega | (simp only [List.length_map]; omega)) (by first | omega | (simp only [List.length_map]; omega)) (by first | omega | (simp only [List.length_map]; omega)) (by first | omega | (simp only [List.length_map]; omega))))); ((conv => whnf); try dsimp only [MB.toD, DL.cellOf])))
  apply rqB.mk r4
  ((conv => whnf); try dsimp only [MB.toD, DL.cellOf])
  rw [decide_eq_true rfl]
  (((conv => whnf); try dsimp only [MB.toD, DL.cellOf]); repeat ((first | (apply Rq.mk; (· (first | assumption | omega | (refine ⟨?_, ?_⟩ <;> first | assumption | omega) | (simp only [app_len]; omega) | (simp only [List.length_append, List.length_cons, List.length_nil, List.length_map]; omega)))) | (apply on_i; (· assumption)) | (apply rqB.mk; (· exact okR_of (by first | omega | (simp only [List.length_map]; omega)) (by first | omega | (simp only [List.length_map]; omega)))) | (apply rqB.mk; (· exact okR2_of (by first | omega | (simp only [List.length_map]; omega)) (by first | omega | (simp only [List.length_map]; omega)) (by first | omega | (simp only [List.length_map]; omega)) (by first | omega | (simp only [List.length_map]; omega))))); ((conv => whnf); try dsimp only [MB.toD, DL.cellOf])))
  apply rqB.mk r4
  (((conv => whnf); try dsimp only [MB.toD, DL.cellOf]); repeat ((first | (apply Rq.mk; (· (first | assumption | omega | (refine ⟨?_, ?_⟩ <;> first | assumption | omega) | (simp only [app_len]; omega) | (simp only [List.length_append, List.length_cons, List.length_nil, List.length_map]; omega)))) | (apply on_i; (· assumption)) | (apply rqB.mk; (· exact okR_of (by first | omega | (simp only [List.length_map]; omega)) (by first | omega | (simp only [List.length_map]; omega)))) | (apply rqB.mk; (· exact okR2_of (by first | omega | (simp only [List.length_map]; omega)) (by first | omega | (simp only [List.length_map]; omega)) (by first | omega | (simp only [List.length_map]; omega)) (by first | omega | (simp only [List.length_map]; omega))))); ((conv => whnf); try dsimp only [MB.toD, DL.cellOf])))
  apply rqB.mk r4
  ((conv => whnf); try dsimp only [MB.toD, DL.cellOf])
  simp only [List.cons_append, List.nil_append]
  rw [decide_eq_true (trivial : True)]
  (((conv => whnf); try dsimp only [MB.toD, DL.cellOf]); repeat ((first | (apply Rq.mk; (· (first | assumption | omega | (refine ⟨?_, ?_⟩ <;> first | assumption | omega) | (simp only [app_len]; omega) | (simp only [List.length_append, List.length_cons, List.length_nil, List.length_map]; omega)))) | (apply on_i; (· assumption)) | (apply rqB.mk; (· exact okR_of (by first | omega | (simp only [List.length_map]; omega)) (by first | omega | (simp only [List.length_map]; omega)))) | (apply rqB.mk; (· exact okR2_of (by first | omega | (simp only [List.length_map]; omega)) (by first | omega | (simp only [List.length_map]; omega)) (by first | omega | (simp only [List.length_map]; omega)) (by first | omega | (simp only [List.length_map]; omega))))); ((conv => whnf); try dsimp only [MB.toD, DL.cellOf])))
  apply rqB.mk hr
  (((conv => whnf); try dsimp only [MB.toD, DL.cellOf]); repeat ((first | (apply Rq.mk; (· (first | assumption | omega | (refine ⟨?_, ?_⟩ <;> first | assumption | omega) | (simp only [app_len]; omega) | (simp only [List.length_append, List.length_cons, List.length_nil, List.length_map]; omega)))) | (apply on_i; (· assumption)) | (apply rqB.mk; (· exact okR_of (by first | omega | (simp only [List.length_map]; omega)) (by first | omega | (simp only [List.length_map]; omega)))) | (apply rqB.mk; (· exact okR2_of (by first | omega | (simp only [List.length_map]; omega)) (by first | omega | (simp only [List.length_map]; omega)) (by first | omega | (simp only [List.length_map]; omega)) (by first | omega | (simp only [List.length_map]; omega))))); ((conv => whnf); try dsimp only [MB.toD, DL.cellOf])))
  rw [decide_eq_true rfl]
  exact hP

end L01
namespace L01
open PySem L2 PyProof.Rows DL
/-! ### texts drawn, texts spoilt -/
theorem tx_app {a b : Nat} {x y : Str} (h1 : Tx a x) (h2 : Tx b y) : Tx (a + b) (x ++ y) := by
  refine ⟨by rw [app_len]; have := h1.1; have := h2.1; omega, fun c hc => ?_⟩
  rw [app_list] at hc
  rcases List.mem_append.mp hc with hc | hc
  · exact h1.2 c hc
  · exact h2.2 c hc
theorem fold_app : ∀ (n : Nat) (a acc : Array Nat), ((List.replicate n a).foldl (· ++ ·) acc).size = acc.size + n * a.size ∧ ∀ c ∈ ((List.replicate n a).foldl (· ++ ·) acc).toList, c ∈ acc.toList ∨ c ∈ a.toList
  | 0, a, acc => ⟨by simp, fun c hc => .inl hc⟩
  | n + 1, a, acc => by
    rw [List.replicate_succ, List.foldl_cons]
    obtain ⟨h1, h2⟩ := fold_app n a (acc ++ a)
    refine ⟨by rw [h1, Array.size_append, Nat.succ_mul]; omega, fun c hc => ?_⟩
    rcases h2 c hc with q | q
    · rw [Array.toList_append] at q
      exact List.mem_append.mp q
    · exact .inr q
theorem tx_mul {x : Str} {n : Int} {m : Nat} (h : Tx 1 x) (hn : n ≤ m) : Tx m (Txt.mul x n) := by
  unfold Txt.mul
  split
  · exact ⟨Nat.zero_le _, fun c hc => by simp [Str.empty] at hc⟩
  · split
    · exact ⟨by have := h.1; omega, h.2⟩
    · obtain ⟨h1, h2⟩ := fold_app n.toNat x.cps #[]
      refine ⟨?_, fun c hc => ?_⟩
      · show ((List.replicate n.toNat x.cps).foldl (· ++ ·) #[]).size ≤ m
        rw [h1]
        have hx : x.cps.size ≤ 1 := h.1
        have : n.toNat * x.cps.size ≤ n.toNat * 1 := Nat.mul_le_mul_left _ hx
        simp only [Array.size_empty]
        omega
      · rcases h2 c hc with q | q
        · simp at q
        · exact h.2 c q
theorem tx_cutlo {x : Str} {a : Nat} (h : Tx a x) (k : Nat) : Tx a (cutS x (some (k : Int)) none) := by
  refine ⟨?_, fun c hc => ?_⟩
  · have := h.1; rw [slen, cutS_lo, List.length_drop, ← slen]; omega
  · rw [cutS_lo] at hc; exact h.2 c (List.mem_of_mem_drop hc)
theorem tx_cuthi {x : Str} {a : Nat} (h : Tx a x) (k : Nat) : Tx a (cutS x none (some (k : Int))) := by
  refine ⟨?_, fun c hc => ?_⟩
  · have := h.1; rw [slen, cutS_hi, List.length_take, ← slen]; omega
  · rw [cutS_hi] at hc; exact h.2 c (List.mem_of_mem_take hc)
theorem tx_cut1 {x : Str} {a k : Nat} (h : Tx a x) : Tx k (cutS x none (some (k : Int))) := by
  refine ⟨?_, fun c hc => ?_⟩
  · rw [slen, cutS_hi, List.length_take]; omega
  · rw [cutS_hi] at hc; exact h.2 c (List.mem_of_mem_take hc)
theorem tx_rev {x : Str} {a : Nat} (h : Tx a x) : Tx a (revS x) := ⟨by rw [revS_len]; exact h.1, fun c hc => h.2 c (by
  have e : (revS x).cps.toList = x.cps.toList.reverse := rfl
  rw [e] at hc
  exact List.mem_reverse.mp hc)⟩
theorem sg1_tx {x : Str} (h : Sg1 x) : Tx 94 x := ⟨h.1.2, fun c hc => by
  have h1 : c ∈ SIGNS.cps.toList := h.1.1.subset hc
  exact okS_of (x := SIGNS) (by decide +kernel) c h1⟩
def c_txt : Ct := fun as P => ∃ pen size b, as = [.box (.L pen), .val (.int size)] ∧ 0 ≤ size ∧ size ≤ 400 ∧ PenOk (b + 200) pen ∧ ∀ x pen', Tx 400 x → PenOk b pen' → P (.val (.str x)) [.box (.L pen'), .val (.int size)]
theorem use_txt {pen : List D} {size : Int} {b : Nat} {P : R → List Ar → Prop} (h1 : 0 ≤ size) (h2 : size ≤ 400) (hp : PenOk (b + 200) pen) (h : ∀ x pen', Tx 400 x → PenOk b pen' → P (.val (.str x)) [.box (.L pen'), .val (.int size)]) : Cl c_txt [.box (.L pen), .val (.int size)] P := ⟨pen, size, b, rfl, h1, h2, hp, h⟩
theorem w_txt (as : List Ar) (P : R → List Ar → Prop) (h : c_txt as P) : ctOf 5 (m__law_text c_all c_draw c_signs) as P := by
  obtain ⟨pen, size, b, rfl, s1, s2, hp, hP⟩ := h
  have sl := sizeLine_eq
  have el := SIGNS_len
  (((conv => whnf); try dsimp only [MB.toD, DL.cellOf]); repeat ((first | (apply Rq.mk; (· (first | assumption | omega | (refine ⟨?_, ?_⟩ <;> first | assumption | omega) | (simp only [app_len]; omega) | (simp only [List.length_append, List.length_cons, List.length_nil, List.length_map]; omega)))) | (apply on_i; (· assumption)) | (apply rqB.mk; (· exact okR_of (by first | omega | (simp only [List.length_map]; omega)) (by first | omega | (simp only [List.length_map]; omega)))) | (apply rqB.mk; (· exact okR2_of (by first | omega | (simp only [List.length_map]; omega)) (by first | omega | (simp only [List.length_map]; omega)) (by first | omega | (simp only [List.length_map]; omega)) (by first | omega | (simp only [List.length_map]; omega))))); ((conv => whnf); try dsimp only [MB.toD, DL.cellOf])))
  refine use_all ?_
  (((conv => whnf); try dsimp only [MB.toD, DL.cellOf]); repeat ((first | (apply Rq.mk; (· (first | assumption | omega | (refine ⟨?_, ?_⟩ <;> first | assumption | omega) | (simp only [app_len]; omega) | (simp only [List.length_append, List.length_cons, List.length_nil, List.length_map]; omega)))) | (apply on_i; (· assumption)) | (apply rqB.mk; (· exact okR_of (by first | omega | (simp only [List.length_map]; omega)) (by first | omega | (simp only [List.length_map]; omega)))) | (apply rqB.mk; (· exact okR2_of (by first | omega | (simp only [List.length_map]; omega)) (by first | omega | (simp only [List.length_map]; omega)) (by first | omega | (simp only [List.length_map]; omega)) (by first | omega | (simp only [List.length_map]; omega))))); ((conv => whnf); try dsimp only [MB.toD, DL.cellOf])))
  refine use_signs (b := b + 100) hp fun y pen1 hy hp1 => ?_
  (((conv => whnf); try dsimp only [MB.toD, DL.cellOf]); repeat ((first | (apply Rq.mk; (· (first | assumption | omega | (refine ⟨?_, ?_⟩ <;> first | assumption | omega) | (simp only [app_len]; omega) | (simp only [List.length_append, List.length_cons, List.length_nil, List.length_map]; omega)))) | (apply on_i; (· assumption)) | (apply rqB.mk; (· exact okR_of (by first | omega | (simp only [List.length_map]; omega)) (by first | omega | (simp only [List.length_map]; omega)))) | (apply rqB.mk; (· exact okR2_of (by first | omega | (simp only [List.length_map]; omega)) (by first | omega | (simp only [List.length_map]; omega)) (by first | omega | (simp only [List.length_map]; omega)) (by first | omega | (simp only [List.length_map]; omega))))); ((conv => whnf); try dsimp only [MB.toD, DL.cellOf])))
  refine use_draw (b := b + 99) hp1 (by omega) (by omega) fun v pen2 a1 a2 hp2 => ?_
  obtain ⟨_, hat, z, rfl, z1, z2⟩ := at_all (ds := [PyData.str SIGNS, PyData.str (Str.ofString "ab"), PyData.str y]) (v := v) (fun d => ∃ s : Str, d = .str s ∧ Tx 95 s ∧ 1 ≤ s.length) a1 a2 (by
    intro d hd
    simp only [List.mem_cons, List.not_mem_nil, or_false] at hd
    rcases hd with rfl | rfl | rfl
    · exact ⟨_, rfl, ⟨by omega, okS_of (by decide +kernel)⟩, by omega⟩
    · exact ⟨_, rfl, ⟨by decide, okS_of (by decide +kernel)⟩, by decide⟩
    · exact ⟨_, rfl, (sg1_tx hy).mono (by omega), hy.2⟩)
  have hmn : 0 ≤ (if 60 < size then 60 else size) ∧ (if 60 < size then 60 else size) ≤ 60 ∧ (if 60 < size then 60 else size) ≤ size := by
    split <;> omega
  (((conv => whnf); try dsimp only [MB.toD, DL.cellOf]); repeat ((first | (apply Rq.mk; (· (first | assumption | omega | (refine ⟨?_, ?_⟩ <;> first | assumption | omega) | (simp only [app_len]; omega) | (simp only [List.length_append, List.length_cons, List.length_nil, List.length_map]; omega)))) | (apply on_i; (· assumption)) | (apply rqB.mk; (· exact okR_of (by first | omega | (simp only [List.length_map]; omega)) (by first | omega | (simp only [List.length_map]; omega)))) | (apply rqB.mk; (· exact okR2_of (by first | omega | (simp only [List.length_map]; omega)) (by first | omega | (simp only [List.length_map]; omega)) (by first | omega | (simp only [List.length_map]; omega)) (by first | omega | (simp only [List.length_map]; omega))))); ((conv => whnf); try dsimp only [MB.toD, DL.cellOf])))
  generalize hmne : (if 60 < size then 60 else size) = mn at hmn
  obtain ⟨n1, n2, n3⟩ := hmn
  refine lcc_by (fun ds acc r => ∃ (pen : List D) (l : List Nat), r = [some (.box true (.L pen)), some (.val (.int size)), some (.val (.str SIGNS)), some (.val (.str z)), none] ∧ acc = l.map (fun c => .str ⟨#[c]⟩) ∧ (∀ c ∈ l, c < 1114112) ∧ ((l.length + ds.length : Nat) : Int) = mn ∧ PenOk (b + ds.length) pen) ?_ ?_ ?_
  · refine ⟨pen2, [], rfl, rfl, by simp, ?_, hp2.mono ?_⟩
    · rw [range_len]; simp only [List.length_nil]; omega
    · rw [range_len]; omega
  · rintro d ds acc r ⟨pen3, l, rfl, rfl, h1, h2, h3⟩ ih
    simp only [List.length_cons] at h2 h3
    have hl : (l.map fun c => PyData.str ⟨#[c]⟩).length < sizeLine := by rw [List.length_map]; omega
    have hz := z1.1
    (((conv => whnf); try dsimp only [MB.toD, DL.cellOf]); repeat ((first | (apply Rq.mk; (· (first | assumption | omega | (refine ⟨?_, ?_⟩ <;> first | assumption | omega) | (simp only [app_len]; omega) | (simp only [List.length_append, List.length_cons, List.length_nil, List.length_map]; omega)))) | (apply on_i; (· assumption)) | (apply rqB.mk; (· exact okR_of (by first | omega | (simp only [List.length_map]; omega)) (by first | omega | (simp only [List.length_map]; omega)))) | (apply rqB.mk; (· exact okR2_of (by first | omega | (simp only [List.length_map]; omega)) (by first | omega | (simp only [List.length_map]; omega)) (by first | omega | (simp only [List.length_map]; omega)) (by first | omega | (simp only [List.length_map]; omega))))); ((conv => whnf); try dsimp only [MB.toD, DL.cellOf])))
    refine use_draw (b := b + ds.length) h3 (by omega) (by omega) fun v2 pen4 e1 e2 hp4 => ?_
    obtain ⟨c, hc, hc2⟩ := at_lt (ds := z.cps.toList) e1 (by rw [← slen]; exact e2)
    (((conv => whnf); try dsimp only [MB.toD, DL.cellOf]); repeat ((first | (apply Rq.mk; (· (first | assumption | omega | (refine ⟨?_, ?_⟩ <;> first | assumption | omega) | (simp only [app_len]; omega) | (simp only [List.length_append, List.length_cons, List.length_nil, List.length_map]; omega)))) | (apply on_i; (· assumption)) | (apply rqB.mk; (· exact okR_of (by first | omega | (simp only [List.length_map]; omega)) (by first | omega | (simp only [List.length_map]; omega)))) | (apply rqB.mk; (· exact okR2_of (by first | omega | (simp only [List.length_map]; omega)) (by first | omega | (simp only [List.length_map]; omega)) (by first | omega | (simp only [List.length_map]; omega)) (by first | omega | (simp only [List.length_map]; omega))))); ((conv => whnf); try dsimp only [MB.toD, DL.cellOf])))
    refine ih _ _ ⟨pen4, l ++ [c], rfl, by rw [List.map_append]; rfl, fun k hk => ?_, by simp; omega, hp4⟩
    rcases List.mem_append.mp hk with hk | hk
    · exact h1 k hk
    · rw [List.mem_singleton.mp hk]; exact z1.2 c hc2
  · rintro acc r ⟨pen3, l, rfl, rfl, h1, h2, h3⟩
    simp only [List.length_nil, Nat.add_zero] at h2 h3
    have hj := join_ones_fit (l := l) (by omega)
    have hs := strsOf_ones l
    have ej := joinOnes l
    have ejl : (Txt.join (Str.ofString "") (l.map fun c => (⟨#[c]⟩ : Str))).length = l.length := by rw [slen, ej]
    ((conv => whnf); try dsimp only [MB.toD, DL.cellOf])
    refine on_i hs ?_
    generalize hx : Txt.join (Str.ofString "") (l.map fun c => (⟨#[c]⟩ : Str)) = x at ej ejl
    apply Rq.mk hj
    have t1 : Tx l.length x := ⟨by omega, fun c hc => h1 c (by rw [← ej]; exact hc)⟩
    have hz := z1.1
    have t2 : Tx 1 (cutS z none (some (1 : Int))) := tx_cut1 (k := 1) z1
    have t3 : Tx (size - mn).toNat (Txt.mul (cutS z none (some (1 : Int))) (size - mn)) := tx_mul t2 (by omega)
    have t2l := t2.1
    have t3l := t3.1
    have hml : (cutS z none (some (1 : Int))).length * (size - mn).toNat ≤ 1000000 := by
      have : (cutS z none (some (1 : Int))).length * (size - mn).toNat ≤ 1 * (size - mn).toNat := Nat.mul_le_mul_right _ t2l
      omega
    rw [← hmne] at hml t3l t3
    have b5 : size - (if 60 < size then 60 else size) < 1000000 ∧ -1000000 < size - (if 60 < size then 60 else size) := by rw [hmne]; omega
    have fin : ∀ w : Str, Tx (size - mn).toNat w → Tx 400 (x ++ w) := fun w hw => (tx_app t1 hw).mono (by omega)
    (((conv => whnf); try dsimp only [MB.toD, DL.cellOf]); repeat ((first | (apply Rq.mk; (· (first | assumption | omega | (refine ⟨?_, ?_⟩ <;> first | assumption | omega) | (simp only [app_len]; omega) | (simp only [List.length_append, List.length_cons, List.length_nil, List.length_map]; omega)))) | (apply on_i; (· assumption)) | (apply rqB.mk; (· exact okR_of (by first | omega | (simp only [List.length_map]; omega)) (by first | omega | (simp only [List.length_map]; omega)))) | (apply rqB.mk; (· exact okR2_of (by first | omega | (simp only [List.length_map]; omega)) (by first | omega | (simp only [List.length_map]; omega)) (by first | omega | (simp only [List.length_map]; omega)) (by first | omega | (simp only [List.length_map]; omega))))); ((conv => whnf); try dsimp only [MB.toD, DL.cellOf])))
    exact hP _ _ (fin _ (by rw [hmne] at t3 ⊢; exact t3)) h3
def c_spl : Ct := fun as P => ∃ pen x b, as = [.box (.L pen), .val (.str x)] ∧ Tx 400 x ∧ PenOk (b + 3) pen ∧ ∀ y pen', Tx 1000 y → PenOk b pen' → P (.val (.str y)) [.box (.L pen'), .val (.str x)]
theorem use_spl {pen : List D} {x : Str} {b : Nat} {P : R → List Ar → Prop} (h1 : Tx 400 x) (hp : PenOk (b + 3) pen) (h : ∀ y pen', Tx 1000 y → PenOk b pen' → P (.val (.str y)) [.box (.L pen'), .val (.str x)]) : Cl c_spl [.box (.L pen), .val (.str x)] P := ⟨pen, x, b, rfl, h1, hp, h⟩
theorem w_spl (as : List Ar) (P : R → List Ar → Prop) (h : c_spl as P) : ctOf 4 (m__law_spoilt c_draw) as P := by
  obtain ⟨pen, x, b, rfl, hx, hp, hP⟩ := h
  have sl := sizeLine_eq
  have hl := hx.1
  (((conv => whnf); try dsimp only [MB.toD, DL.cellOf]); repeat ((first | (apply Rq.mk; (· (first | assumption | omega | (refine ⟨?_, ?_⟩ <;> first | assumption | omega) | (simp only [app_len]; omega) | (simp only [List.length_append, List.length_cons, List.length_nil, List.length_map]; omega)))) | (apply on_i; (· assumption)) | (apply rqB.mk; (· exact okR_of (by first | omega | (simp only [List.length_map]; omega)) (by first | omega | (simp only [List.length_map]; omega)))) | (apply rqB.mk; (· exact okR2_of (by first | omega | (simp only [List.length_map]; omega)) (by first | omega | (simp only [List.length_map]; omega)) (by first | omega | (simp only [List.length_map]; omega)) (by first | omega | (simp only [List.length_map]; omega))))); ((conv => whnf); try dsimp only [MB.toD, DL.cellOf])))
  refine use_draw (b := b + 2) hp (by omega) (by omega) fun v1 pen1 a1 a2 hp1 => ?_
  obtain ⟨_, hat, z, rfl, z1⟩ := at_all (ds := [PyData.str (Str.ofString "\t"), PyData.str (Str.ofString "a"), PyData.str (Str.ofString "~"), PyData.str (Str.ofString "\n"), PyData.str (Str.ofString " "), PyData.str (Str.ofString "\t\t"), PyData.str (Str.ofString "{")]) (v := v1) (fun d => ∃ s : Str, d = .str s ∧ Tx 2 s) a1 a2 (by
    intro d hd
    simp only [List.mem_cons, List.not_mem_nil, or_false] at hd
    rcases hd with rfl | rfl | rfl | rfl | rfl | rfl | rfl <;> exact ⟨_, rfl, by decide, okS_of (by decide +kernel)⟩)
  have hz := z1.1
  (((conv => whnf); try dsimp only [MB.toD, DL.cellOf]); repeat ((first | (apply Rq.mk; (· (first | assumption | omega | (refine ⟨?_, ?_⟩ <;> first | assumption | omega) | (simp only [app_len]; omega) | (simp only [List.length_append, List.length_cons, List.length_nil, List.length_map]; omega)))) | (apply on_i; (· assumption)) | (apply rqB.mk; (· exact okR_of (by first | omega | (simp only [List.length_map]; omega)) (by first | omega | (simp only [List.length_map]; omega)))) | (apply rqB.mk; (· exact okR2_of (by first | omega | (simp only [List.length_map]; omega)) (by first | omega | (simp only [List.length_map]; omega)) (by first | omega | (simp only [List.length_map]; omega)) (by first | omega | (simp only [List.length_map]; omega))))); ((conv => whnf); try dsimp only [MB.toD, DL.cellOf])))
  refine use_draw (b := b + 1) hp1 (by omega) (by omega) fun v2 pen2 b1 b2 hp2 => ?_
  obtain ⟨sp, rfl⟩ := Int.eq_ofNat_of_zero_le b1
  have e1 : ((sp : Int) + 1) = ((sp + 1 : Nat) : Int) := by omega
  have c1 := tx_cuthi hx sp
  have c2 := tx_cutlo hx sp
  have c3 := tx_cutlo hx (sp + 1)
  rw [← e1] at c3
  have c1l := c1.1
  have c2l := c2.1
  have c3l := c3.1
  have d1 := tx_app c1 z1
  have d1l := d1.1
  have d2 := tx_app d1 c2
  have d3 := tx_app c1 c3
  have d4 := tx_app hx hx
  have d5 := tx_rev hx
  (((conv => whnf); try dsimp only [MB.toD, DL.cellOf]); repeat ((first | (apply Rq.mk; (· (first | assumption | omega | (refine ⟨?_, ?_⟩ <;> first | assumption | omega) | (simp only [app_len]; omega) | (simp only [List.length_append, List.length_cons, List.length_nil, List.length_map]; omega)))) | (apply on_i; (· assumption)) | (apply rqB.mk; (· exact okR_of (by first | omega | (simp only [List.length_map]; omega)) (by first | omega | (simp only [List.length_map]; omega)))) | (apply rqB.mk; (· exact okR2_of (by first | omega | (simp only [List.length_map]; omega)) (by first | omega | (simp only [List.length_map]; omega)) (by first | omega | (simp only [List.length_map]; omega)) (by first | omega | (simp only [List.length_map]; omega))))); ((conv => whnf); try dsimp only [MB.toD, DL.cellOf])))
  refine use_draw (b := b) hp2 (by omega) (by omega) fun v3 pen3 f1 f2 hp3 => ?_
  obtain ⟨_, hat2, y, rfl, y1⟩ := at_all (ds := [PyData.str (cutS x none (some (sp : Int)) ++ z ++ cutS x (some (sp : Int)) none), PyData.str (cutS x none (some (sp : Int)) ++ cutS x (some ((sp : Int) + 1)) none), PyData.str (revS x), PyData.str (x ++ x)]) (v := v3) (fun d => ∃ s : Str, d = .str s ∧ Tx 1000 s) f1 f2 (by
    intro d hd
    simp only [List.mem_cons, List.not_mem_nil, or_false] at hd
    rcases hd with rfl | rfl | rfl | rfl
    · exact ⟨_, rfl, d2.mono (by omega)⟩
    · exact ⟨_, rfl, d3.mono (by omega)⟩
    · exact ⟨_, rfl, d5.mono (by omega)⟩
    · exact ⟨_, rfl, d4.mono (by omega)⟩)
  (((conv => whnf); try dsimp only [MB.toD, DL.cellOf]); repeat ((first | (apply Rq.mk; (· (first | assumption | omega | (refine ⟨?_, ?_⟩ <;> first | assumption | omega) | (simp only [app_len]; omega) | (simp only [List.length_append, List.length_cons, List.length_nil, List.length_map]; omega)))) | (apply on_i; (· assumption)) | (apply rqB.mk; (· exact okR_of (by first | omega | (simp only [List.length_map]; omega)) (by first | omega | (simp only [List.length_map]; omega)))) | (apply rqB.mk; (· exact okR2_of (by first | omega | (simp only [List.length_map]; omega)) (by first | omega | (simp only [List.length_map]; omega)) (by first | omega | (simp only [List.length_map]; omega)) (by first | omega | (simp only [List.length_map]; omega))))); ((conv => whnf); try dsimp only [MB.toD, DL.cellOf])))
  exact hP _ _ y1 hp3

end L01
namespace L01
open PySem L2 PyProof.Rows DL
/-! ### the law -/
def lastL : List D := [.none, .bool true, .int 0, .int 7, .str "", .str "a", .tuple [], .list [], .dict [], .tuple [.str "a"], .list [.str "a", .str "b"], .dict [(.str "a", .int 1)]]
theorem last_fit : ∀ d ∈ lastL, Fit d ∧ reprOk d = true := by
  have : ∀ d ∈ lastL, constB 3000 4 d = true := by decide +kernel
  exact fun d hd => ⟨(constB_ok (this d hd)).fit (by decide) (by decide), (constB_ok (this d hd)).repr (by decide) (by decide)⟩
theorem bls_true {α : Type} (l : List α) : blsOf (l.map fun _ => PyData.bool true) = some (l.map fun _ => true) := blsOf_map (fun _ => true) l
theorem all_true {α : Type} (l : List α) : (l.map fun _ => true).all id = true := by
  rw [List.all_eq_true]; intro b hb; obtain ⟨_, _, rfl⟩ := List.mem_map.mp hb; rfl
def c_law : Ct := fun as P => ∃ ns : List Int, as = [.scr ns] ∧ P (.val (.bool true)) [.scr ns]
theorem law_ok (ns : List Int) (h : ns.length ≤ 63) : c_law [.scr ns] fun y _ => y = .val (.bool true) := ⟨ns, rfl, rfl⟩
theorem rise_eq : ∀ {a b : List Nat}, a.Pairwise (· < ·) → b.Pairwise (· < ·) → (∀ c, c ∈ a ↔ c ∈ b) → a = b
  | [], [], _, _, _ => rfl
  | [], y :: b, _, _, h => by have := (h y).mpr List.mem_cons_self; cases this
  | x :: a, [], _, _, h => by have := (h x).mp List.mem_cons_self; cases this
  | x :: a, y :: b, h1, h2, h => by
    rw [List.pairwise_cons] at h1 h2
    have e : x = y := by
      have p1 := (h x).mp List.mem_cons_self
      have p2 := (h y).mpr List.mem_cons_self
      rcases List.mem_cons.mp p1 with p1 | p1
      · exact p1
      · rcases List.mem_cons.mp p2 with p2 | p2
        · exact p2.symm
        · have := h1.1 y p2; have := h2.1 x p1; omega
    subst e
    rw [rise_eq h1.2 h2.2 fun c => ⟨fun q => by
      rcases List.mem_cons.mp ((h c).mp (List.mem_cons_of_mem _ q)) with e | e
      · subst e; have := h1.1 c q; omega
      · exact e, fun q => by
      rcases List.mem_cons.mp ((h c).mpr (List.mem_cons_of_mem _ q)) with e | e
      · subst e; have := h2.1 c q; omega
      · exact e⟩]
theorem nd_sub : ∀ {a l : List Nat}, a.Nodup → (∀ c ∈ a, c ∈ l) → a.length ≤ l.length
  | [], l, _, _ => Nat.zero_le _
  | c :: a, l, h1, h2 => by
    rw [List.nodup_cons] at h1
    have hc := h2 c List.mem_cons_self
    have := nd_sub (a := a) (l := l.erase c) h1.2 fun k hk => (List.mem_erase_of_ne (fun e : k = c => h1.1 (by rw [← e]; exact hk))).mpr (h2 k (List.mem_cons_of_mem _ hk))
    rw [List.length_erase_of_mem hc] at this
    have : 0 < l.length := List.length_pos_of_mem hc
    rw [List.length_cons]
    omega
theorem rsg_len {l ys : List Nat} (h : Rsg l ys) : ys.length ≤ l.length := nd_sub (h.1.imp fun {a b} q => Nat.ne_of_lt q) fun c hc => (h.2 c).mp hc
theorem one_fit {x : Str} (h : Tx 2000 x) : Fit (.list [.str x]) ∧ reprOk (.list [.str x]) = true ∧ Fit (.tuple [.str x]) ∧ reprOk (.tuple [.str x]) = true := by
  have hl := h.1
  have e1 : wt (.list [.str x]) ≤ 1000000 := by simp only [wt, wts]; omega
  have e2 : wt (.tuple [.str x]) ≤ 1000000 := by simp only [wt, wts]; omega
  have e3 : (PyData.list [.str x]).depth ≤ 64 := by simp [PyData.depth, PyData.depthAll]
  have e4 : (PyData.tuple [.str x]).depth ≤ 64 := by simp [PyData.depth, PyData.depthAll]
  exact ⟨⟨⟨h.2, trivial⟩, e1, e3⟩, repr_ok (d := .list [.str x]) ⟨h.2, trivial⟩ (by omega) e3 (by simp [PyData.hasDict, PyData.hasDictAll]), ⟨⟨h.2, trivial⟩, e2, e4⟩, repr_ok (d := .tuple [.str x]) ⟨h.2, trivial⟩ (by omega) e4 (by simp [PyData.hasDict, PyData.hasDictAll])⟩
theorem str_eq {x y : Str} (h : x.cps.toList = y.cps.toList) : x = y := by
  obtain ⟨a⟩ := x
  obtain ⟨b⟩ := y
  exact congrArg Str.mk (Array.ext' h)
theorem rsg_signs {ys : List Nat} (h : Rsg SIGNS.cps.toList ys) : ys = SIGNS.cps.toList := by
  have hs : SIGNS.cps.toList.Pairwise (· < ·) := SIGNS_rising
  exact rise_eq h.1 hs fun c => h.2 c
theorem w_law (as : List Ar) (P : R → List Ar → Prop) (h : c_law as P) : ctOf 8 (m_law c_all c_draw c_txt c_signs c_spl c_rgt c_sgn) as P := by
  obtain ⟨ns, rfl, hP⟩ := h
  have sl := sizeLine_eq
  have el := SIGNS_len
  have ps := pen_start (ns := ns)
  have eS : Str.ofString "\n !\"#$&'()*+,-./0123456789:;<=>?@ABCDEFGHIJKLMNOPQRSTUVWXYZ[\\]^_`abcdefghijklmnopqrstuvwxyz{|}~" = SIGNS := rfl
  (((conv => whnf); try dsimp only [MB.toD, DL.cellOf]); repeat ((first | (apply Rq.mk; (· (first | assumption | omega | (refine ⟨?_, ?_⟩ <;> first | assumption | omega) | (simp only [app_len]; omega) | (simp only [List.length_append, List.length_cons, List.length_nil, List.length_map]; omega)))) | (apply on_i; (· assumption)) | (apply rqB.mk; (· exact okR_of (by first | omega | (simp only [List.length_map]; omega)) (by first | omega | (simp only [List.length_map]; omega)))) | (apply rqB.mk; (· exact okR2_of (by first | omega | (simp only [List.length_map]; omega)) (by first | omega | (simp only [List.length_map]; omega)) (by first | omega | (simp only [List.length_map]; omega)) (by first | omega | (simp only [List.length_map]; omega))))); ((conv => whnf); try dsimp only [MB.toD, DL.cellOf])))
  refine use_all ?_
  ((conv => whnf); try dsimp only [MB.toD, DL.cellOf])
  rw [eS]
  refine ⟨fun cs hcs => ?_⟩
  rw [rsg_signs hcs]
  clear hcs cs
  ((conv => whnf); try dsimp only [MB.toD, DL.cellOf])
  refine lp_by (fun ds r => ∃ (pen : List D) (s2 s3 s4 s5 s6 s7 : Option D), r = [some (.scr ns), some (.box false (.L pen)), s2.map Ce.val, s3.map Ce.val, s4.map Ce.val, s5.map Ce.val, s6.map Ce.val, s7.map Ce.val] ∧ PenOk (ds.length * 1000) pen) ?_ ?_ ?_
  · exact ⟨_, none, none, none, none, none, none, rfl, ps.mono (by rw [range_len]; show 12 * 1000 ≤ _; omega)⟩
  · rintro d ds r ⟨pen, s2, s3, s4, s5, s6, s7, rfl, hp⟩ ih
    simp only [List.length_cons, Nat.succ_mul] at hp
    (((conv => whnf); try dsimp only [MB.toD, DL.cellOf]); repeat ((first | (apply Rq.mk; (· (first | assumption | omega | (refine ⟨?_, ?_⟩ <;> first | assumption | omega) | (simp only [app_len]; omega) | (simp only [List.length_append, List.length_cons, List.length_nil, List.length_map]; omega)))) | (apply on_i; (· assumption)) | (apply rqB.mk; (· exact okR_of (by first | omega | (simp only [List.length_map]; omega)) (by first | omega | (simp only [List.length_map]; omega)))) | (apply rqB.mk; (· exact okR2_of (by first | omega | (simp only [List.length_map]; omega)) (by first | omega | (simp only [List.length_map]; omega)) (by first | omega | (simp only [List.length_map]; omega)) (by first | omega | (simp only [List.length_map]; omega))))); ((conv => whnf); try dsimp only [MB.toD, DL.cellOf])))
    refine use_draw (b := ds.length * 1000 + 999) hp (by omega) (by omega) fun v1 pen1 a1 a2 hp1 => ?_
    (((conv => whnf); try dsimp only [MB.toD, DL.cellOf]); repeat ((first | (apply Rq.mk; (· (first | assumption | omega | (refine ⟨?_, ?_⟩ <;> first | assumption | omega) | (simp only [app_len]; omega) | (simp only [List.length_append, List.length_cons, List.length_nil, List.length_map]; omega)))) | (apply on_i; (· assumption)) | (apply rqB.mk; (· exact okR_of (by first | omega | (simp only [List.length_map]; omega)) (by first | omega | (simp only [List.length_map]; omega)))) | (apply rqB.mk; (· exact okR2_of (by first | omega | (simp only [List.length_map]; omega)) (by first | omega | (simp only [List.length_map]; omega)) (by first | omega | (simp only [List.length_map]; omega)) (by first | omega | (simp only [List.length_map]; omega))))); ((conv => whnf); try dsimp only [MB.toD, DL.cellOf])))
    refine use_draw (b := ds.length * 1000 + 998) hp1 (by omega) (by omega) fun v2 pen2 b1 b2 hp2 => ?_
    obtain ⟨_, hat, size, rfl, z1, z2⟩ := at_all (ds := [PyData.int 0, PyData.int 1, PyData.int 59, PyData.int 60, PyData.int 61, PyData.int 400, PyData.int v1]) (v := v2) (fun d => ∃ s, d = .int s ∧ 0 ≤ s ∧ s ≤ 400) b1 b2 (by
      intro d hd
      simp only [List.mem_cons, List.not_mem_nil, or_false] at hd
      rcases hd with rfl | rfl | rfl | rfl | rfl | rfl | rfl <;> exact ⟨_, rfl, by omega, by omega⟩)
    (((conv => whnf); try dsimp only [MB.toD, DL.cellOf]); repeat ((first | (apply Rq.mk; (· (first | assumption | omega | (refine ⟨?_, ?_⟩ <;> first | assumption | omega) | (simp only [app_len]; omega) | (simp only [List.length_append, List.length_cons, List.length_nil, List.length_map]; omega)))) | (apply on_i; (· assumption)) | (apply rqB.mk; (· exact okR_of (by first | omega | (simp only [List.length_map]; omega)) (by first | omega | (simp only [List.length_map]; omega)))) | (apply rqB.mk; (· exact okR2_of (by first | omega | (simp only [List.length_map]; omega)) (by first | omega | (simp only [List.length_map]; omega)) (by first | omega | (simp only [List.length_map]; omega)) (by first | omega | (simp only [List.length_map]; omega))))); ((conv => whnf); try dsimp only [MB.toD, DL.cellOf])))
    refine use_draw (b := ds.length * 1000 + 997) hp2 (by omega) (by omega) fun v3 pen3 c1 c2 hp3 => ?_
    (((conv => whnf); try dsimp only [MB.toD, DL.cellOf]); repeat ((first | (apply Rq.mk; (· (first | assumption | omega | (refine ⟨?_, ?_⟩ <;> first | assumption | omega) | (simp only [app_len]; omega) | (simp only [List.length_append, List.length_cons, List.length_nil, List.length_map]; omega)))) | (apply on_i; (· assumption)) | (apply rqB.mk; (· exact okR_of (by first | omega | (simp only [List.length_map]; omega)) (by first | omega | (simp only [List.length_map]; omega)))) | (apply rqB.mk; (· exact okR2_of (by first | omega | (simp only [List.length_map]; omega)) (by first | omega | (simp only [List.length_map]; omega)) (by first | omega | (simp only [List.length_map]; omega)) (by first | omega | (simp only [List.length_map]; omega))))); ((conv => whnf); try dsimp only [MB.toD, DL.cellOf])))
    refine use_draw (b := ds.length * 1000 + 996) hp3 (by omega) (by omega) fun v4 pen4 d1 d2 hp4 => ?_
    have hmx : 0 ≤ (if 0 < size - 1 then size - 1 else 0) ∧ (if 0 < size - 1 then size - 1 else 0) ≤ 400 := by split <;> omega
    obtain ⟨_, hat2, bd, rfl, w1, w2⟩ := at_all (ds := [PyData.int size, PyData.int (size + 1), PyData.int (if 0 < size - 1 then size - 1 else 0), PyData.int 60, PyData.int v3]) (v := v4) (fun d => ∃ s, d = .int s ∧ 0 ≤ s ∧ s ≤ 402) d1 d2 (by
      intro d hd
      simp only [List.mem_cons, List.not_mem_nil, or_false] at hd
      rcases hd with rfl | rfl | rfl | rfl | rfl <;> exact ⟨_, rfl, by omega, by omega⟩)
    (((conv => whnf); try dsimp only [MB.toD, DL.cellOf]); repeat ((first | (apply Rq.mk; (· (first | assumption | omega | (refine ⟨?_, ?_⟩ <;> first | assumption | omega) | (simp only [app_len]; omega) | (simp only [List.length_append, List.length_cons, List.length_nil, List.length_map]; omega)))) | (apply on_i; (· assumption)) | (apply rqB.mk; (· exact okR_of (by first | omega | (simp only [List.length_map]; omega)) (by first | omega | (simp only [List.length_map]; omega)))) | (apply rqB.mk; (· exact okR2_of (by first | omega | (simp only [List.length_map]; omega)) (by first | omega | (simp only [List.length_map]; omega)) (by first | omega | (simp only [List.length_map]; omega)) (by first | omega | (simp only [List.length_map]; omega))))); ((conv => whnf); try dsimp only [MB.toD, DL.cellOf])))
    refine use_txt (b := ds.length * 1000 + 700) z1 z2 (hp4.mono (by omega)) fun x pen5 hx hp5 => ?_
    (((conv => whnf); try dsimp only [MB.toD, DL.cellOf]); repeat ((first | (apply Rq.mk; (· (first | assumption | omega | (refine ⟨?_, ?_⟩ <;> first | assumption | omega) | (simp only [app_len]; omega) | (simp only [List.length_append, List.length_cons, List.length_nil, List.length_map]; omega)))) | (apply on_i; (· assumption)) | (apply rqB.mk; (· exact okR_of (by first | omega | (simp only [List.length_map]; omega)) (by first | omega | (simp only [List.length_map]; omega)))) | (apply rqB.mk; (· exact okR2_of (by first | omega | (simp only [List.length_map]; omega)) (by first | omega | (simp only [List.length_map]; omega)) (by first | omega | (simp only [List.length_map]; omega)) (by first | omega | (simp only [List.length_map]; omega))))); ((conv => whnf); try dsimp only [MB.toD, DL.cellOf])))
    refine use_signs (b := ds.length * 1000 + 600) hp5 fun y pen6 hy0 hp6 => ?_
    have hy := (sg1_tx hy0).mono (b := 400) (by omega)
    (((conv => whnf); try dsimp only [MB.toD, DL.cellOf]); repeat ((first | (apply Rq.mk; (· (first | assumption | omega | (refine ⟨?_, ?_⟩ <;> first | assumption | omega) | (simp only [app_len]; omega) | (simp only [List.length_append, List.length_cons, List.length_nil, List.length_map]; omega)))) | (apply on_i; (· assumption)) | (apply rqB.mk; (· exact okR_of (by first | omega | (simp only [List.length_map]; omega)) (by first | omega | (simp only [List.length_map]; omega)))) | (apply rqB.mk; (· exact okR2_of (by first | omega | (simp only [List.length_map]; omega)) (by first | omega | (simp only [List.length_map]; omega)) (by first | omega | (simp only [List.length_map]; omega)) (by first | omega | (simp only [List.length_map]; omega))))); ((conv => whnf); try dsimp only [MB.toD, DL.cellOf])))
    refine use_spl (b := ds.length * 1000 + 500) hx (hp6.mono (by omega)) fun x2 pen7 hx2 hp7 => ?_
    (((conv => whnf); try dsimp only [MB.toD, DL.cellOf]); repeat ((first | (apply Rq.mk; (· (first | assumption | omega | (refine ⟨?_, ?_⟩ <;> first | assumption | omega) | (simp only [app_len]; omega) | (simp only [List.length_append, List.length_cons, List.length_nil, List.length_map]; omega)))) | (apply on_i; (· assumption)) | (apply rqB.mk; (· exact okR_of (by first | omega | (simp only [List.length_map]; omega)) (by first | omega | (simp only [List.length_map]; omega)))) | (apply rqB.mk; (· exact okR2_of (by first | omega | (simp only [List.length_map]; omega)) (by first | omega | (simp only [List.length_map]; omega)) (by first | omega | (simp only [List.length_map]; omega)) (by first | omega | (simp only [List.length_map]; omega))))); ((conv => whnf); try dsimp only [MB.toD, DL.cellOf])))
    refine use_spl (b := ds.length * 1000 + 400) hy (hp7.mono (by omega)) fun y2 pen8 hy2 hp8 => ?_
    have hxl := hx.1
    have hyl := hy.1
    ((conv => whnf); try dsimp only [MB.toD, DL.cellOf])
    apply Rq.mk (by omega)
    refine ⟨fun cs hcs => ?_⟩
    have hcl := rsg_len hcs
    rw [← slen] at hcl
    have hj := join_ones_fit (l := cs) (by omega)
    have hs := strsOf_ones cs
    have ej := joinOnes cs
    have ejl : (Txt.join (Str.ofString "") (cs.map fun c => (⟨#[c]⟩ : Str))).length = cs.length := by rw [slen, ej]
    ((conv => whnf); try dsimp only [MB.toD, DL.cellOf])
    refine on_i hs ?_
    generalize hu : Txt.join (Str.ofString "") (cs.map fun c => (⟨#[c]⟩ : Str)) = u at ej ejl
    apply Rq.mk hj
    have hut : Tx 400 u := ⟨by omega, fun c hc => hx.2 c ((hcs.2 c).mp (by rw [← ej]; exact hc))⟩
    (((conv => whnf); try dsimp only [MB.toD, DL.cellOf]); repeat ((first | (apply Rq.mk; (· (first | assumption | omega | (refine ⟨?_, ?_⟩ <;> first | assumption | omega) | (simp only [app_len]; omega) | (simp only [List.length_append, List.length_cons, List.length_nil, List.length_map]; omega)))) | (apply on_i; (· assumption)) | (apply rqB.mk; (· exact okR_of (by first | omega | (simp only [List.length_map]; omega)) (by first | omega | (simp only [List.length_map]; omega)))) | (apply rqB.mk; (· exact okR2_of (by first | omega | (simp only [List.length_map]; omega)) (by first | omega | (simp only [List.length_map]; omega)) (by first | omega | (simp only [List.length_map]; omega)) (by first | omega | (simp only [List.length_map]; omega))))); ((conv => whnf); try dsimp only [MB.toD, DL.cellOf])))
    refine lp_by (fun ds' r => ∃ (l : List Str) (s7 : Option D), ds' = l.map PyData.str ∧ (∀ z ∈ l, Tx 1000 z) ∧ r = [some (.scr ns), some (.box false (.L pen8)), some (.val d), some (.val (.int size)), some (.val (.int bd)), some (.val (.str x)), some (.val (.str y)), s7.map Ce.val]) ?_ ?_ ?_
    · refine ⟨[x, x2, y, y2, u], s7, rfl, fun z hz => ?_, rfl⟩
      simp only [List.mem_cons, List.not_mem_nil, or_false] at hz
      rcases hz with rfl | rfl | rfl | rfl | rfl
      · exact hx.mono (by omega)
      · exact hx2
      · exact hy.mono (by omega)
      · exact hy2
      · exact hut.mono (by omega)
    · rintro d' ds' r ⟨l, s7, k1, k2, rfl⟩ ih2
      cases l with
      | nil => cases k1
      | cons z l =>
      simp only [List.map_cons, List.cons.injEq] at k1
      obtain ⟨rfl, rfl⟩ := k1
      have hz := (k2 z List.mem_cons_self).mono (b := 2000) (by omega)
      have hzl := hz.1
      (((conv => whnf); try dsimp only [MB.toD, DL.cellOf]); repeat ((first | (apply Rq.mk; (· (first | assumption | omega | (refine ⟨?_, ?_⟩ <;> first | assumption | omega) | (simp only [app_len]; omega) | (simp only [List.length_append, List.length_cons, List.length_nil, List.length_map]; omega)))) | (apply on_i; (· assumption)) | (apply rqB.mk; (· exact okR_of (by first | omega | (simp only [List.length_map]; omega)) (by first | omega | (simp only [List.length_map]; omega)))) | (apply rqB.mk; (· exact okR2_of (by first | omega | (simp only [List.length_map]; omega)) (by first | omega | (simp only [List.length_map]; omega)) (by first | omega | (simp only [List.length_map]; omega)) (by first | omega | (simp only [List.length_map]; omega))))); ((conv => whnf); try dsimp only [MB.toD, DL.cellOf])))
      refine use_rgt (tx_fit hz) (tx_repr hz) w1 (by omega) ?_
      (((conv => whnf); try dsimp only [MB.toD, DL.cellOf]); repeat ((first | (apply Rq.mk; (· (first | assumption | omega | (refine ⟨?_, ?_⟩ <;> first | assumption | omega) | (simp only [app_len]; omega) | (simp only [List.length_append, List.length_cons, List.length_nil, List.length_map]; omega)))) | (apply on_i; (· assumption)) | (apply rqB.mk; (· exact okR_of (by first | omega | (simp only [List.length_map]; omega)) (by first | omega | (simp only [List.length_map]; omega)))) | (apply rqB.mk; (· exact okR2_of (by first | omega | (simp only [List.length_map]; omega)) (by first | omega | (simp only [List.length_map]; omega)) (by first | omega | (simp only [List.length_map]; omega)) (by first | omega | (simp only [List.length_map]; omega))))); ((conv => whnf); try dsimp only [MB.toD, DL.cellOf])))
      refine use_rgt (tx_fit hz) (tx_repr hz) (by omega) (by omega) ?_
      (((conv => whnf); try dsimp only [MB.toD, DL.cellOf]); repeat ((first | (apply Rq.mk; (· (first | assumption | omega | (refine ⟨?_, ?_⟩ <;> first | assumption | omega) | (simp only [app_len]; omega) | (simp only [List.length_append, List.length_cons, List.length_nil, List.length_map]; omega)))) | (apply on_i; (· assumption)) | (apply rqB.mk; (· exact okR_of (by first | omega | (simp only [List.length_map]; omega)) (by first | omega | (simp only [List.length_map]; omega)))) | (apply rqB.mk; (· exact okR2_of (by first | omega | (simp only [List.length_map]; omega)) (by first | omega | (simp only [List.length_map]; omega)) (by first | omega | (simp only [List.length_map]; omega)) (by first | omega | (simp only [List.length_map]; omega))))); ((conv => whnf); try dsimp only [MB.toD, DL.cellOf])))
      exact ih2 _ ⟨l, some _, rfl, fun k hk => k2 k (List.mem_cons_of_mem _ hk), rfl⟩
    · rintro r ⟨l, s7, k1, k2, rfl⟩
      have c1 := one_fit ((tx_cut1 (k := 9) hx).mono (b := 2000) (by omega))
      have c2 := one_fit ((tx_cut1 (k := 9) hy).mono (b := 2000) (by omega))
      (((conv => whnf); try dsimp only [MB.toD, DL.cellOf]); repeat ((first | (apply Rq.mk; (· (first | assumption | omega | (refine ⟨?_, ?_⟩ <;> first | assumption | omega) | (simp only [app_len]; omega) | (simp only [List.length_append, List.length_cons, List.length_nil, List.length_map]; omega)))) | (apply on_i; (· assumption)) | (apply rqB.mk; (· exact okR_of (by first | omega | (simp only [List.length_map]; omega)) (by first | omega | (simp only [List.length_map]; omega)))) | (apply rqB.mk; (· exact okR2_of (by first | omega | (simp only [List.length_map]; omega)) (by first | omega | (simp only [List.length_map]; omega)) (by first | omega | (simp only [List.length_map]; omega)) (by first | omega | (simp only [List.length_map]; omega))))); ((conv => whnf); try dsimp only [MB.toD, DL.cellOf])))
      refine use_rgt c1.1 c1.2.1 w1 (by omega) ?_
      (((conv => whnf); try dsimp only [MB.toD, DL.cellOf]); repeat ((first | (apply Rq.mk; (· (first | assumption | omega | (refine ⟨?_, ?_⟩ <;> first | assumption | omega) | (simp only [app_len]; omega) | (simp only [List.length_append, List.length_cons, List.length_nil, List.length_map]; omega)))) | (apply on_i; (· assumption)) | (apply rqB.mk; (· exact okR_of (by first | omega | (simp only [List.length_map]; omega)) (by first | omega | (simp only [List.length_map]; omega)))) | (apply rqB.mk; (· exact okR2_of (by first | omega | (simp only [List.length_map]; omega)) (by first | omega | (simp only [List.length_map]; omega)) (by first | omega | (simp only [List.length_map]; omega)) (by first | omega | (simp only [List.length_map]; omega))))); ((conv => whnf); try dsimp only [MB.toD, DL.cellOf])))
      refine use_rgt c2.2.2.1 c2.2.2.2 w1 (by omega) ?_
      (((conv => whnf); try dsimp only [MB.toD, DL.cellOf]); repeat ((first | (apply Rq.mk; (· (first | assumption | omega | (refine ⟨?_, ?_⟩ <;> first | assumption | omega) | (simp only [app_len]; omega) | (simp only [List.length_append, List.length_cons, List.length_nil, List.length_map]; omega)))) | (apply on_i; (· assumption)) | (apply rqB.mk; (· exact okR_of (by first | omega | (simp only [List.length_map]; omega)) (by first | omega | (simp only [List.length_map]; omega)))) | (apply rqB.mk; (· exact okR2_of (by first | omega | (simp only [List.length_map]; omega)) (by first | omega | (simp only [List.length_map]; omega)) (by first | omega | (simp only [List.length_map]; omega)) (by first | omega | (simp only [List.length_map]; omega))))); ((conv => whnf); try dsimp only [MB.toD, DL.cellOf])))
      exact ih _ ⟨pen8, some _, some _, some _, some _, some _, s7, rfl, hp8.mono (by omega)⟩
  · rintro r ⟨pen, s2, s3, s4, s5, s6, s7, rfl, hp⟩
    have fS : Fit (.str SIGNS) := tx_fit ⟨by omega, okS_of (by decide +kernel)⟩
    have g1 : isSigns 0 (.str SIGNS) = false := by decide +kernel
    have t1 : Tx 95 (cutS SIGNS (some (1 : Int)) none) := tx_cutlo (k := 1) ⟨by omega, okS_of (by decide +kernel)⟩
    have g2 : isSigns 0 (.str (cutS SIGNS (some (1 : Int)) none)) = true := by decide +kernel
    have t2 : Tx 94 (cutS SIGNS none (some (94 : Int))) := tx_cut1 (k := 94) (a := 95) ⟨by omega, okS_of (by decide +kernel)⟩
    have g3 : isSigns 94 (.str (cutS SIGNS none (some (94 : Int)))) = true := by decide +kernel
    ((conv => whnf); try dsimp only [MB.toD, DL.cellOf])
    rw [eS]
    refine use_sgn fS ?_
    rw [g1]
    ((conv => whnf); try dsimp only [MB.toD, DL.cellOf])
    refine use_sgn (tx_fit (t1.mono (by omega))) ?_
    rw [g2]
    ((conv => whnf); try dsimp only [MB.toD, DL.cellOf])
    refine use_sgn (tx_fit (t2.mono (by omega))) ?_
    rw [g3]
    have el2 : lastL.length = 12 := rfl
    have hb1 := bls_true lastL
    cases s7 with
    | none =>
      (((conv => whnf); try dsimp only [MB.toD, DL.cellOf]); repeat ((first | (apply Rq.mk; (· (first | assumption | omega | (refine ⟨?_, ?_⟩ <;> first | assumption | omega) | (simp only [app_len]; omega) | (simp only [List.length_append, List.length_cons, List.length_nil, List.length_map]; omega)))) | (apply on_i; (· assumption)) | (apply rqB.mk; (· exact okR_of (by first | omega | (simp only [List.length_map]; omega)) (by first | omega | (simp only [List.length_map]; omega)))) | (apply rqB.mk; (· exact okR2_of (by first | omega | (simp only [List.length_map]; omega)) (by first | omega | (simp only [List.length_map]; omega)) (by first | omega | (simp only [List.length_map]; omega)) (by first | omega | (simp only [List.length_map]; omega))))); ((conv => whnf); try dsimp only [MB.toD, DL.cellOf])))
      refine lc_list (as := lastL) (fun d => d) (fun _ => PyData.bool true) ?_ (by omega) ?_
      · intro d hd ds acc hacc hnext
        obtain ⟨f1, f2⟩ := last_fit d hd
        (((conv => whnf); try dsimp only [MB.toD, DL.cellOf]); repeat ((first | (apply Rq.mk; (· (first | assumption | omega | (refine ⟨?_, ?_⟩ <;> first | assumption | omega) | (simp only [app_len]; omega) | (simp only [List.length_append, List.length_cons, List.length_nil, List.length_map]; omega)))) | (apply on_i; (· assumption)) | (apply rqB.mk; (· exact okR_of (by first | omega | (simp only [List.length_map]; omega)) (by first | omega | (simp only [List.length_map]; omega)))) | (apply rqB.mk; (· exact okR2_of (by first | omega | (simp only [List.length_map]; omega)) (by first | omega | (simp only [List.length_map]; omega)) (by first | omega | (simp only [List.length_map]; omega)) (by first | omega | (simp only [List.length_map]; omega))))); ((conv => whnf); try dsimp only [MB.toD, DL.cellOf])))
        refine use_rgt f1 f2 (by omega) (by omega) ?_
        (((conv => whnf); try dsimp only [MB.toD, DL.cellOf]); repeat ((first | (apply Rq.mk; (· (first | assumption | omega | (refine ⟨?_, ?_⟩ <;> first | assumption | omega) | (simp only [app_len]; omega) | (simp only [List.length_append, List.length_cons, List.length_nil, List.length_map]; omega)))) | (apply on_i; (· assumption)) | (apply rqB.mk; (· exact okR_of (by first | omega | (simp only [List.length_map]; omega)) (by first | omega | (simp only [List.length_map]; omega)))) | (apply rqB.mk; (· exact okR2_of (by first | omega | (simp only [List.length_map]; omega)) (by first | omega | (simp only [List.length_map]; omega)) (by first | omega | (simp only [List.length_map]; omega)) (by first | omega | (simp only [List.length_map]; omega))))); ((conv => whnf); try dsimp only [MB.toD, DL.cellOf])))
        exact hnext
      · (((conv => whnf); try dsimp only [MB.toD, DL.cellOf]); repeat ((first | (apply Rq.mk; (· (first | assumption | omega | (refine ⟨?_, ?_⟩ <;> first | assumption | omega) | (simp only [app_len]; omega) | (simp only [List.length_append, List.length_cons, List.length_nil, List.length_map]; omega)))) | (apply on_i; (· assumption)) | (apply rqB.mk; (· exact okR_of (by first | omega | (simp only [List.length_map]; omega)) (by first | omega | (simp only [List.length_map]; omega)))) | (apply rqB.mk; (· exact okR2_of (by first | omega | (simp only [List.length_map]; omega)) (by first | omega | (simp only [List.length_map]; omega)) (by first | omega | (simp only [List.length_map]; omega)) (by first | omega | (simp only [List.length_map]; omega))))); ((conv => whnf); try dsimp only [MB.toD, DL.cellOf])))
        exact hP
    | some q7 =>
      (((conv => whnf); try dsimp only [MB.toD, DL.cellOf]); repeat ((first | (apply Rq.mk; (· (first | assumption | omega | (refine ⟨?_, ?_⟩ <;> first | assumption | omega) | (simp only [app_len]; omega) | (simp only [List.length_append, List.length_cons, List.length_nil, List.length_map]; omega)))) | (apply on_i; (· assumption)) | (apply rqB.mk; (· exact okR_of (by first | omega | (simp only [List.length_map]; omega)) (by first | omega | (simp only [List.length_map]; omega)))) | (apply rqB.mk; (· exact okR2_of (by first | omega | (simp only [List.length_map]; omega)) (by first | omega | (simp only [List.length_map]; omega)) (by first | omega | (simp only [List.length_map]; omega)) (by first | omega | (simp only [List.length_map]; omega))))); ((conv => whnf); try dsimp only [MB.toD, DL.cellOf])))
      refine lc_list (as := lastL) (fun d => d) (fun _ => PyData.bool true) ?_ (by omega) ?_
      · intro d hd ds acc hacc hnext
        obtain ⟨f1, f2⟩ := last_fit d hd
        (((conv => whnf); try dsimp only [MB.toD, DL.cellOf]); repeat ((first | (apply Rq.mk; (· (first | assumption | omega | (refine ⟨?_, ?_⟩ <;> first | assumption | omega) | (simp only [app_len]; omega) | (simp only [List.length_append, List.length_cons, List.length_nil, List.length_map]; omega)))) | (apply on_i; (· assumption)) | (apply rqB.mk; (· exact okR_of (by first | omega | (simp only [List.length_map]; omega)) (by first | omega | (simp only [List.length_map]; omega)))) | (apply rqB.mk; (· exact okR2_of (by first | omega | (simp only [List.length_map]; omega)) (by first | omega | (simp only [List.length_map]; omega)) (by first | omega | (simp only [List.length_map]; omega)) (by first | omega | (simp only [List.length_map]; omega))))); ((conv => whnf); try dsimp only [MB.toD, DL.cellOf])))
        refine use_rgt f1 f2 (by omega) (by omega) ?_
        (((conv => whnf); try dsimp only [MB.toD, DL.cellOf]); repeat ((first | (apply Rq.mk; (· (first | assumption | omega | (refine ⟨?_, ?_⟩ <;> first | assumption | omega) | (simp only [app_len]; omega) | (simp only [List.length_append, List.length_cons, List.length_nil, List.length_map]; omega)))) | (apply on_i; (· assumption)) | (apply rqB.mk; (· exact okR_of (by first | omega | (simp only [List.length_map]; omega)) (by first | omega | (simp only [List.length_map]; omega)))) | (apply rqB.mk; (· exact okR2_of (by first | omega | (simp only [List.length_map]; omega)) (by first | omega | (simp only [List.length_map]; omega)) (by first | omega | (simp only [List.length_map]; omega)) (by first | omega | (simp only [List.length_map]; omega))))); ((conv => whnf); try dsimp only [MB.toD, DL.cellOf])))
        exact hnext
      · (((conv => whnf); try dsimp only [MB.toD, DL.cellOf]); repeat ((first | (apply Rq.mk; (· (first | assumption | omega | (refine ⟨?_, ?_⟩ <;> first | assumption | omega) | (simp only [app_len]; omega) | (simp only [List.length_append, List.length_cons, List.length_nil, List.length_map]; omega)))) | (apply on_i; (· assumption)) | (apply rqB.mk; (· exact okR_of (by first | omega | (simp only [List.length_map]; omega)) (by first | omega | (simp only [List.length_map]; omega)))) | (apply rqB.mk; (· exact okR2_of (by first | omega | (simp only [List.length_map]; omega)) (by first | omega | (simp only [List.length_map]; omega)) (by first | omega | (simp only [List.length_map]; omega)) (by first | omega | (simp only [List.length_map]; omega))))); ((conv => whnf); try dsimp only [MB.toD, DL.cellOf])))
        exact hP

end L01
namespace L01
open PySem L2 PyProof.Rows DL
/-- the defs of the module -/
structure All (K : Fg) (mg : Str → Option Value) (fds : Nat → FuncData) : Prop where
  f_is_text : FunD K "is_text" "is_text" (defArgs s_is_text) (defBody s_is_text) (defScope s_is_text) [] [("most", .int (60))] (He.ga K "is_text") (fds 0)
  g_is_text : mg "is_text" = some (.ref (He.ga K "is_text"))
  f_is_signs : FunD K "is_signs" "is_signs" (defArgs s_is_signs) (defBody s_is_signs) (defScope s_is_signs) [] [("least", .int (0))] (He.ga K "is_signs") (fds 1)
  g_is_signs : mg "is_signs" = some (.ref (He.ga K "is_signs"))
  f__law_draw : FunD K "_law_draw" "_law_draw" (defArgs s__law_draw) (defBody s__law_draw) (defScope s__law_draw) [] [] (He.ga K "_law_draw") (fds 2)
  g__law_draw : mg "_law_draw" = some (.ref (He.ga K "_law_draw"))
  f__law_all : FunD K "_law_all" "_law_all" (defArgs s__law_all) (defBody s__law_all) (defScope s__law_all) [] [] (He.ga K "_law_all") (fds 3)
  g__law_all : mg "_law_all" = some (.ref (He.ga K "_law_all"))
  f__law_signs : FunD K "_law_signs" "_law_signs" (defArgs s__law_signs) (defBody s__law_signs) (defScope s__law_signs) [] [] (He.ga K "_law_signs") (fds 4)
  g__law_signs : mg "_law_signs" = some (.ref (He.ga K "_law_signs"))
  f__law_is_signs : FunD K "_law_is_signs" "_law_is_signs" (defArgs s__law_is_signs) (defBody s__law_is_signs) (defScope s__law_is_signs) [] [] (He.ga K "_law_is_signs") (fds 5)
  g__law_is_signs : mg "_law_is_signs" = some (.ref (He.ga K "_law_is_signs"))
  f__law_is_text : FunD K "_law_is_text" "_law_is_text" (defArgs s__law_is_text) (defBody s__law_is_text) (defScope s__law_is_text) [] [] (He.ga K "_law_is_text") (fds 6)
  g__law_is_text : mg "_law_is_text" = some (.ref (He.ga K "_law_is_text"))
  f__law_right : FunD K "_law_right" "_law_right" (defArgs s__law_right) (defBody s__law_right) (defScope s__law_right) [] [] (He.ga K "_law_right") (fds 7)
  g__law_right : mg "_law_right" = some (.ref (He.ga K "_law_right"))
  f__law_text : FunD K "_law_text" "_law_text" (defArgs s__law_text) (defBody s__law_text) (defScope s__law_text) [] [] (He.ga K "_law_text") (fds 8)
  g__law_text : mg "_law_text" = some (.ref (He.ga K "_law_text"))
  f__law_spoilt : FunD K "_law_spoilt" "_law_spoilt" (defArgs s__law_spoilt) (defBody s__law_spoilt) (defScope s__law_spoilt) [] [] (He.ga K "_law_spoilt") (fds 9)
  g__law_spoilt : mg "_law_spoilt" = some (.ref (He.ga K "_law_spoilt"))
  f_law : FunD K "law" "law" (defArgs s_law) (defBody s_law) (defScope s_law) [] [] (He.ga K "law") (fds 10)
  g_law : mg "law" = some (.ref (He.ga K "law"))
section
variable {P : Program} {w : World} {K : Fg} {mg : Str → Option Value} {base : Heap} {fds : Nat → FuncData}
theorem b_is_text_1_most (a : All K mg fds) : Bd K (fds 0) ["thing", "most"] 1 ["most"] (pick [(false, 0), (true, 0)]) :=
  Bd.pick a.f_is_text 1 ["most"] _ rfl rfl (fun _ _ _ _ _ _ us ws l1 l2 => match us, ws, l1, l2 with | [_], [_], _, _ => rfl)
theorem b__law_all_0 (a : All K mg fds) : Bd K (fds 3) [] 0 [] (pick []) :=
  Bd.pick a.f__law_all 0 [] _ rfl rfl (fun _ _ _ _ _ _ us ws l1 l2 => match us, ws, l1, l2 with | [], [], _, _ => rfl)
theorem b__law_draw_2 (a : All K mg fds) : Bd K (fds 2) ["_law_pen", "_law_many"] 2 [] (pick [(false, 0), (false, 1)]) :=
  Bd.pick a.f__law_draw 2 [] _ rfl rfl (fun _ _ _ _ _ _ us ws l1 l2 => match us, ws, l1, l2 with | [_, _], [], _, _ => rfl)
theorem b__law_is_text_2 (a : All K mg fds) : Bd K (fds 6) ["_law_some", "_law_bound"] 2 [] (pick [(false, 0), (false, 1)]) :=
  Bd.pick a.f__law_is_text 2 [] _ rfl rfl (fun _ _ _ _ _ _ us ws l1 l2 => match us, ws, l1, l2 with | [_, _], [], _, _ => rfl)
theorem b__law_is_signs_2 (a : All K mg fds) : Bd K (fds 5) ["_law_some", "_law_bound"] 2 [] (pick [(false, 0), (false, 1)]) :=
  Bd.pick a.f__law_is_signs 2 [] _ rfl rfl (fun _ _ _ _ _ _ us ws l1 l2 => match us, ws, l1, l2 with | [_, _], [], _, _ => rfl)
theorem b_is_text_1 (a : All K mg fds) : Bd K (fds 0) ["thing", "most"] 1 [] (fun xs zs => pick [(false, 0), (true, 0)] xs (zs ++ [.int 60].map R.val)) :=
  Bd.lack a.f_is_text 1 [] [("most", .int (60))] _ (by simp) (by simp) (.cons (.int _) (.nil)) rfl rfl (fun _ _ _ _ _ _ us ws mv l1 l2 l3 => match us, ws, mv, l1, l2, l3 with | [_], [], [_], _, _, _ => ⟨_, _, _, _, _, _, rfl, rfl, rfl⟩)
theorem b_is_signs_1 (a : All K mg fds) : Bd K (fds 1) ["thing", "least"] 1 [] (fun xs zs => pick [(false, 0), (true, 0)] xs (zs ++ [.int 0].map R.val)) :=
  Bd.lack a.f_is_signs 1 [] [("least", .int (0))] _ (by simp) (by simp) (.cons (.int _) (.nil)) rfl rfl (fun _ _ _ _ _ _ us ws mv l1 l2 l3 => match us, ws, mv, l1, l2, l3 with | [_], [], [_], _, _, _ => ⟨_, _, _, _, _, _, rfl, rfl, rfl⟩)
theorem b_is_signs_1_least (a : All K mg fds) : Bd K (fds 1) ["thing", "least"] 1 ["least"] (pick [(false, 0), (true, 0)]) :=
  Bd.pick a.f_is_signs 1 ["least"] _ rfl rfl (fun _ _ _ _ _ _ us ws l1 l2 => match us, ws, l1, l2 with | [_], [_], _, _ => rfl)
theorem b_is_text_0_thing (a : All K mg fds) : Bd K (fds 0) ["thing", "most"] 0 ["thing"] (fun xs zs => pick [(true, 0), (true, 1)] xs (zs ++ [.int 60].map R.val)) :=
  Bd.lack a.f_is_text 0 ["thing"] [("most", .int (60))] _ (by simp) (by simp) (.cons (.int _) (.nil)) rfl rfl (fun _ _ _ _ _ _ us ws mv l1 l2 l3 => match us, ws, mv, l1, l2, l3 with | [], [_], [_], _, _, _ => ⟨_, _, _, _, _, _, rfl, rfl, rfl⟩)
theorem b_is_text_0_most_thing (a : All K mg fds) : Bd K (fds 0) ["thing", "most"] 0 ["most", "thing"] (pick [(true, 1), (true, 0)]) :=
  Bd.pick a.f_is_text 0 ["most", "thing"] _ rfl rfl (fun _ _ _ _ _ _ us ws l1 l2 => match us, ws, l1, l2 with | [], [_, _], _, _ => rfl)
theorem b_is_signs_0_thing (a : All K mg fds) : Bd K (fds 1) ["thing", "least"] 0 ["thing"] (fun xs zs => pick [(true, 0), (true, 1)] xs (zs ++ [.int 0].map R.val)) :=
  Bd.lack a.f_is_signs 0 ["thing"] [("least", .int (0))] _ (by simp) (by simp) (.cons (.int _) (.nil)) rfl rfl (fun _ _ _ _ _ _ us ws mv l1 l2 l3 => match us, ws, mv, l1, l2, l3 with | [], [_], [_], _, _, _ => ⟨_, _, _, _, _, _, rfl, rfl, rfl⟩)
theorem b_is_signs_0_least_thing (a : All K mg fds) : Bd K (fds 1) ["thing", "least"] 0 ["least", "thing"] (pick [(true, 1), (true, 0)]) :=
  Bd.pick a.f_is_signs 0 ["least", "thing"] _ rfl rfl (fun _ _ _ _ _ _ us ws l1 l2 => match us, ws, l1, l2 with | [], [_, _], _, _ => rfl)
theorem b__law_signs_1 (a : All K mg fds) : Bd K (fds 4) ["_law_pen"] 1 [] (pick [(false, 0)]) :=
  Bd.pick a.f__law_signs 1 [] _ rfl rfl (fun _ _ _ _ _ _ us ws l1 l2 => match us, ws, l1, l2 with | [_], [], _, _ => rfl)
theorem b__law_text_2 (a : All K mg fds) : Bd K (fds 8) ["_law_pen", "_law_size"] 2 [] (pick [(false, 0), (false, 1)]) :=
  Bd.pick a.f__law_text 2 [] _ rfl rfl (fun _ _ _ _ _ _ us ws l1 l2 => match us, ws, l1, l2 with | [_, _], [], _, _ => rfl)
theorem b__law_spoilt_2 (a : All K mg fds) : Bd K (fds 9) ["_law_pen", "_law_some"] 2 [] (pick [(false, 0), (false, 1)]) :=
  Bd.pick a.f__law_spoilt 2 [] _ rfl rfl (fun _ _ _ _ _ _ us ws l1 l2 => match us, ws, l1, l2 with | [_, _], [], _, _ => rfl)
theorem b__law_right_2 (a : All K mg fds) : Bd K (fds 7) ["_law_some", "_law_bound"] 2 [] (pick [(false, 0), (false, 1)]) :=
  Bd.pick a.f__law_right 2 [] _ rfl rfl (fun _ _ _ _ _ _ us ws l1 l2 => match us, ws, l1, l2 with | [_, _], [], _, _ => rfl)
theorem t_is_text (g : Gb w K mg) (a : All K mg fds) : FnD P w K mg base (1) (He.ga K "is_text") (fds 0) ["thing", "most"] (c_text) :=
  FnD.imp (fnd_def (k := 0) a.f_is_text sc_is_text fun cdv A outer s H E hr hgu => d_is_text g hr hgu) w_text
theorem t_is_signs (g : Gb w K mg) (a : All K mg fds) : FnD P w K mg base (2) (He.ga K "is_signs") (fds 1) ["thing", "least"] (c_sgn) :=
  FnD.imp (fnd_def (k := 1) a.f_is_signs sc_is_signs fun cdv A outer s H E hr hgu => d_is_signs g (Def.of a.g_is_text a.f_is_text.kp (FnD.mono (t_is_text (P := P) (base := base) g a) (by omega)) (b_is_text_1_most a)) hr hgu) w_sgn
theorem t__law_draw (g : Gb w K mg) (a : All K mg fds) : FnD P w K mg base (1) (He.ga K "_law_draw") (fds 2) ["_law_pen", "_law_many"] (c_draw) :=
  FnD.imp (fnd_def (k := 0) a.f__law_draw sc__law_draw fun cdv A outer s H E hr hgu => d__law_draw g hr hgu) w_draw
theorem t__law_all (g : Gb w K mg) (a : All K mg fds) : FnD P w K mg base (1) (He.ga K "_law_all") (fds 3) [] (c_all) :=
  FnD.imp (fnd_def (k := 0) a.f__law_all sc__law_all fun cdv A outer s H E hr hgu => d__law_all g hr hgu) w_all
theorem t__law_signs (g : Gb w K mg) (a : All K mg fds) : FnD P w K mg base (2) (He.ga K "_law_signs") (fds 4) ["_law_pen"] (c_signs) :=
  FnD.imp (fnd_def (k := 1) a.f__law_signs sc__law_signs fun cdv A outer s H E hr hgu => d__law_signs g (Def.of a.g__law_all a.f__law_all.kp (FnD.mono (t__law_all (P := P) (base := base) g a) (by omega)) (b__law_all_0 a)) (Def.of a.g__law_draw a.f__law_draw.kp (FnD.mono (t__law_draw (P := P) (base := base) g a) (by omega)) (b__law_draw_2 a)) hr hgu) w_signs
theorem t__law_is_signs (g : Gb w K mg) (a : All K mg fds) : FnD P w K mg base (2) (He.ga K "_law_is_signs") (fds 5) ["_law_some", "_law_bound"] (c_sgn) :=
  FnD.imp (fnd_def (k := 1) a.f__law_is_signs sc__law_is_signs fun cdv A outer s H E hr hgu => d__law_is_signs g (Def.of a.g__law_all a.f__law_all.kp (FnD.mono (t__law_all (P := P) (base := base) g a) (by omega)) (b__law_all_0 a)) hr hgu) w_lsigns
theorem t__law_is_text (g : Gb w K mg) (a : All K mg fds) : FnD P w K mg base (2) (He.ga K "_law_is_text") (fds 6) ["_law_some", "_law_bound"] (c_text) :=
  FnD.imp (fnd_def (k := 1) a.f__law_is_text sc__law_is_text fun cdv A outer s H E hr hgu => d__law_is_text g (Def.of a.g__law_all a.f__law_all.kp (FnD.mono (t__law_all (P := P) (base := base) g a) (by omega)) (b__law_all_0 a)) hr hgu) w_ltext
theorem t__law_right (g : Gb w K mg) (a : All K mg fds) : FnD P w K mg base (3) (He.ga K "_law_right") (fds 7) ["_law_some", "_law_bound"] (c_rgt) :=
  FnD.imp (fnd_def (k := 2) a.f__law_right sc__law_right fun cdv A outer s H E hr hgu => d__law_right g (Def.of a.g__law_is_text a.f__law_is_text.kp (FnD.mono (t__law_is_text (P := P) (base := base) g a) (by omega)) (b__law_is_text_2 a)) (Def.of a.g__law_is_signs a.f__law_is_signs.kp (FnD.mono (t__law_is_signs (P := P) (base := base) g a) (by omega)) (b__law_is_signs_2 a)) (Def.of a.g_is_text a.f_is_text.kp (FnD.mono (t_is_text (P := P) (base := base) g a) (by omega)) (b_is_text_1 a)) (Def.of a.g_is_text a.f_is_text.kp (FnD.mono (t_is_text (P := P) (base := base) g a) (by omega)) (b_is_text_1_most a)) (Def.of a.g_is_signs a.f_is_signs.kp (FnD.mono (t_is_signs (P := P) (base := base) g a) (by omega)) (b_is_signs_1 a)) (Def.of a.g_is_signs a.f_is_signs.kp (FnD.mono (t_is_signs (P := P) (base := base) g a) (by omega)) (b_is_signs_1_least a)) (Def.of a.g_is_text a.f_is_text.kp (FnD.mono (t_is_text (P := P) (base := base) g a) (by omega)) (b_is_text_0_thing a)) (Def.of a.g_is_text a.f_is_text.kp (FnD.mono (t_is_text (P := P) (base := base) g a) (by omega)) (b_is_text_0_most_thing a)) (Def.of a.g_is_signs a.f_is_signs.kp (FnD.mono (t_is_signs (P := P) (base := base) g a) (by omega)) (b_is_signs_0_thing a)) (Def.of a.g_is_signs a.f_is_signs.kp (FnD.mono (t_is_signs (P := P) (base := base) g a) (by omega)) (b_is_signs_0_least_thing a)) hr hgu) w_rgt
theorem t__law_text (g : Gb w K mg) (a : All K mg fds) : FnD P w K mg base (3) (He.ga K "_law_text") (fds 8) ["_law_pen", "_law_size"] (c_txt) :=
  FnD.imp (fnd_def (k := 2) a.f__law_text sc__law_text fun cdv A outer s H E hr hgu => d__law_text g (Def.of a.g__law_all a.f__law_all.kp (FnD.mono (t__law_all (P := P) (base := base) g a) (by omega)) (b__law_all_0 a)) (Def.of a.g__law_draw a.f__law_draw.kp (FnD.mono (t__law_draw (P := P) (base := base) g a) (by omega)) (b__law_draw_2 a)) (Def.of a.g__law_signs a.f__law_signs.kp (FnD.mono (t__law_signs (P := P) (base := base) g a) (by omega)) (b__law_signs_1 a)) hr hgu) w_txt
theorem t__law_spoilt (g : Gb w K mg) (a : All K mg fds) : FnD P w K mg base (2) (He.ga K "_law_spoilt") (fds 9) ["_law_pen", "_law_some"] (c_spl) :=
  FnD.imp (fnd_def (k := 1) a.f__law_spoilt sc__law_spoilt fun cdv A outer s H E hr hgu => d__law_spoilt g (Def.of a.g__law_draw a.f__law_draw.kp (FnD.mono (t__law_draw (P := P) (base := base) g a) (by omega)) (b__law_draw_2 a)) hr hgu) w_spl
theorem t_law (g : Gb w K mg) (a : All K mg fds) : FnD P w K mg base (4) (He.ga K "law") (fds 10) ["_law_script"] (c_law) :=
  FnD.imp (fnd_def (k := 3) a.f_law sc_law fun cdv A outer s H E hr hgu => d_law g (Def.of a.g__law_all a.f__law_all.kp (FnD.mono (t__law_all (P := P) (base := base) g a) (by omega)) (b__law_all_0 a)) (Def.of a.g__law_draw a.f__law_draw.kp (FnD.mono (t__law_draw (P := P) (base := base) g a) (by omega)) (b__law_draw_2 a)) (Def.of a.g__law_text a.f__law_text.kp (FnD.mono (t__law_text (P := P) (base := base) g a) (by omega)) (b__law_text_2 a)) (Def.of a.g__law_signs a.f__law_signs.kp (FnD.mono (t__law_signs (P := P) (base := base) g a) (by omega)) (b__law_signs_1 a)) (Def.of a.g__law_spoilt a.f__law_spoilt.kp (FnD.mono (t__law_spoilt (P := P) (base := base) g a) (by omega)) (b__law_spoilt_2 a)) (Def.of a.g__law_right a.f__law_right.kp (FnD.mono (t__law_right (P := P) (base := base) g a) (by omega)) (b__law_right_2 a)) (Def.of a.g_is_signs a.f_is_signs.kp (FnD.mono (t_is_signs (P := P) (base := base) g a) (by omega)) (b_is_signs_1 a)) (Def.of a.g_is_signs a.f_is_signs.kp (FnD.mono (t_is_signs (P := P) (base := base) g a) (by omega)) (b_is_signs_1_least a)) hr hgu) w_law
end
def fn : List He.DefD := [⟨("is_text", none), "is_text", "is_text", defArgs s_is_text, defBody s_is_text, defScope s_is_text, [], [("most", .int (60))]⟩, ⟨("is_signs", none), "is_signs", "is_signs", defArgs s_is_signs, defBody s_is_signs, defScope s_is_signs, [], [("least", .int (0))]⟩, ⟨("_law_draw", none), "_law_draw", "_law_draw", defArgs s__law_draw, defBody s__law_draw, defScope s__law_draw, [], []⟩, ⟨("_law_all", none), "_law_all", "_law_all", defArgs s__law_all, defBody s__law_all, defScope s__law_all, [], []⟩, ⟨("_law_signs", none), "_law_signs", "_law_signs", defArgs s__law_signs, defBody s__law_signs, defScope s__law_signs, [], []⟩, ⟨("_law_is_signs", none), "_law_is_signs", "_law_is_signs", defArgs s__law_is_signs, defBody s__law_is_signs, defScope s__law_is_signs, [], []⟩, ⟨("_law_is_text", none), "_law_is_text", "_law_is_text", defArgs s__law_is_text, defBody s__law_is_text, defScope s__law_is_text, [], []⟩, ⟨("_law_right", none), "_law_right", "_law_right", defArgs s__law_right, defBody s__law_right, defScope s__law_right, [], []⟩, ⟨("_law_text", none), "_law_text", "_law_text", defArgs s__law_text, defBody s__law_text, defScope s__law_text, [], []⟩, ⟨("_law_spoilt", none), "_law_spoilt", "_law_spoilt", defArgs s__law_spoilt, defBody s__law_spoilt, defScope s__law_spoilt, [], []⟩, ⟨("law", none), "law", "law", defArgs s_law, defBody s_law, defScope s_law, [], []⟩]
def fa : List He.Fa := [.glo "is_text", .glo "is_signs", .glo "_law_draw", .glo "_law_all", .glo "_law_signs", .glo "_law_is_signs", .glo "_law_is_text", .glo "_law_right", .glo "_law_text", .glo "_law_spoilt", .glo "law", .free "abs", .free "all", .free "int", .free "isinstance", .free "len", .free "list", .free "max", .free "min", .free "range", .free "repr", .free "set", .free "sorted", .free "str", .free "zip"]
def cs : List (Str × D) := [("SIGNS", .str ("\n !\"#$&'()*+,-./0123456789:;<=>?@ABCDEFGHIJKLMNOPQRSTUVWXYZ[\\]^_`abcdefghijklmnopqrstuvwxyz{|}~" : Str)), ("MOST_SIGNS", .int 94), ("MOST_TEXT", .int 60)]
def ts : List (Str × Tab) := []
abbrev R : PySem.W.OpenRow := PySem.W.OpenLaw.row PySem.Challenge.rw_smallreaders_k01_signs_and_texts_known
abbrev hk : PySem.W.Hook := hookX 4 fa fn cs ts
def ob (s : PySem.W.SharedT) : AlX := obsXG 4 fa fn cs ts (HandSHeadRun.getT s)
theorem ob_eq (s : PySem.W.SharedT) : ob s = hk.obs s.abs := obsXG_eq (HandSHeadRun.getT_eq s)
def loose : List Str := (["SIGNS", "MOST_SIGNS", "MOST_TEXT", "is_text", "is_signs", "_law_draw", "_law_all", "_law_signs", "_law_is_signs", "_law_is_text", "_law_right", "_law_text", "_law_spoilt"] : List Str)
theorem run (w : World) : HandSHeadRun.RunEq R (PySem.W.view R.prog [15]) hk ob 6000 loose w := by
  refine PySem.W.byRow2 "special-get-raises" (P := fun w => HandSHeadRun.RunEq R (PySem.W.view R.prog [15]) hk ob 6000 loose w) (fun w => ?_) (fun w => ?_) w
  · intro os
    kernel_rfl
  · intro os
    kernel_rfl
theorem facts {P : Program} {w : World} {K : Fg} {h : Heap} {mg : Str → Option Value} {f : Addr} (X : K.In h) (G : h.Ns mainGlobals mg) (hfa : mg ("law" : Str) = some (.ref f)) (c : SaysX fa fn cs ts w K) :
    ∃ fd : FuncData, (∀ (s : Shared) (v : Value), BindsTo s fd ⟨[v], []⟩ [("_law_script", v)]) ∧ ∀ base : Heap, K.In base → base.Ns mainGlobals mg → FnD P w K mg base 4 f fd ["_law_script"] c_law := by
  obtain ⟨fd0, F0⟩ := c.defs.def_ 0 rfl
  obtain ⟨fd1, F1⟩ := c.defs.def_ 1 rfl
  obtain ⟨fd2, F2⟩ := c.defs.def_ 2 rfl
  obtain ⟨fd3, F3⟩ := c.defs.def_ 3 rfl
  obtain ⟨fd4, F4⟩ := c.defs.def_ 4 rfl
  obtain ⟨fd5, F5⟩ := c.defs.def_ 5 rfl
  obtain ⟨fd6, F6⟩ := c.defs.def_ 6 rfl
  obtain ⟨fd7, F7⟩ := c.defs.def_ 7 rfl
  obtain ⟨fd8, F8⟩ := c.defs.def_ 8 rfl
  obtain ⟨fd9, F9⟩ := c.defs.def_ 9 rfl
  obtain ⟨fd10, F10⟩ := c.defs.def_ 10 rfl
  have a : All K mg (fun i => [fd0, fd1, fd2, fd3, fd4, fd5, fd6, fd7, fd8, fd9, fd10].getD i fd0) := ⟨F0, He.glo_ok X G (c.defs.fact 0 rfl), F1, He.glo_ok X G (c.defs.fact 1 rfl), F2, He.glo_ok X G (c.defs.fact 2 rfl), F3, He.glo_ok X G (c.defs.fact 3 rfl), F4, He.glo_ok X G (c.defs.fact 4 rfl), F5, He.glo_ok X G (c.defs.fact 5 rfl), F6, He.glo_ok X G (c.defs.fact 6 rfl), F7, He.glo_ok X G (c.defs.fact 7 rfl), F8, He.glo_ok X G (c.defs.fact 8 rfl), F9, He.glo_ok X G (c.defs.fact 9 rfl), F10, He.glo_ok X G (c.defs.fact 10 rfl)⟩
  have g : Gb w K mg := ⟨He.free_ok X G (c.defs.fact 11 rfl), He.free_ok X G (c.defs.fact 12 rfl), He.free_ok X G (c.defs.fact 13 rfl), He.free_ok X G (c.defs.fact 14 rfl), He.free_ok X G (c.defs.fact 15 rfl), He.free_ok X G (c.defs.fact 16 rfl), He.free_ok X G (c.defs.fact 17 rfl), He.free_ok X G (c.defs.fact 18 rfl), He.free_ok X G (c.defs.fact 19 rfl), He.free_ok X G (c.defs.fact 20 rfl), He.free_ok X G (c.defs.fact 21 rfl), He.free_ok X G (c.defs.fact 22 rfl), He.free_ok X G (c.defs.fact 23 rfl), He.free_ok X G (c.defs.fact 24 rfl), c.con X G 0, c.con X G 1, c.con X G 2⟩
  have e := hfa.symm.trans a.g_law
  cases e
  have b := FunD.bindsA (ps := ["_law_script"]) a.f_law fun _ _ _ _ _ _ us hl => match us, hl with | [_], _ => rfl
  exact ⟨_, fun s v => b s [v] rfl, fun base _ _ => t_law g a⟩
end L01
open PySem PySem.W PySem.Calls PyProof.Rows
theorem PySem.Challenge.cw_smallreaders_k01_signs_and_texts_known_holds : PySem.Challenge.rw_smallreaders_k01_signs_and_texts_known.Holds := by
  w_on; o_law
  refine HandSHeadRun.head_any (r := OpenLaw.row PySem.Challenge.rw_smallreaders_k01_signs_and_texts_known) (q := view (OpenLaw.row PySem.Challenge.rw_smallreaders_k01_signs_and_texts_known).prog [15]) (H := L01.hk) (ob := L01.ob) (M := 6000) (loose := L01.loose) (d := HandSHeadRun.topDef (OpenLaw.row PySem.Challenge.rw_smallreaders_k01_signs_and_texts_known).prog 15) (kwd := []) L01.ob_eq
    (by kernel_rfl) (fun s => by kernel_rfl) L01.run (by kernel_rfl) (by kernel_rfl) (by kernel_rfl) (by rfl) (by first | assumption | decide +kernel) (by decide +kernel) ⟨rfl, rfl, rfl, rfl, rfl, by decide +kernel⟩ ?hw ?hc
  case hw => w_witness2
  case hc =>
    refine DL.walk_d (l := PySem.Challenge.rw_smallreaders_k01_signs_and_texts_known) (n := 63) (k := 4) (x := "_law_script") rfl (by decide) (by kernel_rfl) ⟨rfl, by decide, by decide⟩ ?F
    intro w mg fa h Y G hmg0
    obtain ⟨K, KX, c⟩ := Y
    have hmg : mg ("law" : PySem.Str) = some (.ref fa) := by
      have e : (HandSHeadRun.topDef (OpenLaw.row PySem.Challenge.rw_smallreaders_k01_signs_and_texts_known).prog 15).name = ("law" : PySem.Str) := by kernel_rfl
      rw [← e]
      exact hmg0
    obtain ⟨fd, hb, hF⟩ := L01.facts (P := (PySem.Challenge.rw_smallreaders_k01_signs_and_texts_known).prog) (w := w) KX G hmg c
    exact ⟨K, fd, L01.c_law, KX, hb, L01.law_ok, hF⟩
