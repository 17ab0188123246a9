import PyProof.Rows.All
import Wide.All
import OpenK.AllK
import Wide.FinOn
import HandS.ForMost
import HandS.Wide
import HandS.IsInst
import HandS.TupAny
import HandS.TupMul
import HandS.Walk
import HandS.Flow
import HandS.Style
import HandS.EndBits
import HandS.Deep
import HandS.Conv
import HandS.Flt
import HandS.Defaults
import KE.KDictKeyed
import HandS.Strs
import HandS.SortInts
import KE.GoesDict
import KE.SortData
import HandS.DictComp
import KE.KDictLaws
import KE.KDictDisplayH
import KE.KEqDict
import HandS.SetFor
import KE.KDictWalk
import KE.KeyNested
import HandS.TupSets
import HandS.TupLe
import KE.KDictSum
import KE.KDictList
import PyProof.AutoSeq1
import HandS.TupLen
import KE.KDictCopyH
import KE.GoesMore
import KE.GoesEnum
import HandS.Star
import PySem.Challenge.RW_digstead_k02_cycles
set_option Elab.async false
set_option maxRecDepth 100000
set_option linter.all false
set_option maxHeartbeats 4000000
namespace DL
open PySem PySem.Spec L2

/-! ## 1. Values with tuples by value; the heap of mutable objects -/
inductive D where
  | non | bl (b : Bool) | int (i : Int) | str (x : Str) | tup (xs : List D) | ref (a : Addr) | ty (n : String)
  /-- a list that nobody writes (the script, a list of the module) -/
  | rl (xs : List D)

inductive DO where
  /-- a list -/
  | lst (xs : List D)
  /-- a dict: are its keys tuples, its pairs, the very object -/
  | dct (b : Bool) (kvs : List (D × D)) (o : Obj)
  /-- a set of ints -/
  | iset (S : Int → Bool) (n : Nat)
  /-- range(j) -/
  | rng (j : Int)
/-- a value as a key -/
def leafD : D → Option Key
  | .int i => some (.inl i)
  | .str x => some (.inr x)
  | _ => none
mutual
def nkey : D → Option NestedKey
  | .non => some .none
  | .int i => some (.num i)
  | .bl b => some (.num (if b = true then 1 else 0))
  | .str x => some (.text x)
  | .tup ds => (nkeys ds).map NestedKey.tup
  | .ref _ => none
  | .rl _ => none
  | .ty _ => none
def nkeys : List D → Option (List NestedKey)
  | [] => some []
  | d :: ds => match nkey d with
    | none => none
    | some k => match nkeys ds with
      | none => none
      | some ks => some (k :: ks)
end

/-- what is known of the run: the fragment, the world -/
structure KW where
  K : PySem.W.Frag
  w : World
instance : Coe KW PySem.W.Frag := ⟨KW.K⟩
abbrev _root_.L2.Cx.kw (X : L2.Cx) : KW := ⟨X.K, X.w⟩
abbrev DSt := List (Option D)
abbrev DH := Addr → Option DO
abbrev DK := D → DH → Prop
abbrev XD := Value → Option Addr → DH → Prop
abbrev Ct := List D → DH → DK → XD → Prop

def updD (h : DH) (a : Addr) (o : DO) : DH := fun b => if b = a then some o else h b
theorem updD_same {h : DH} {a : Addr} {o : DO} : updD h a o a = some o := if_pos rfl
theorem updD_ne {h : DH} {a b : Addr} {o : DO} (e : b ≠ a) : updD h a o b = h b := if_neg e

variable {K : KW}

/-- a list that nobody writes -/
def FzL (K : KW) (H : Hp) (a : Addr) (vs : List V) : Prop :=
  (∃ o, H a = some (.frz o (.lst vs))) ∨ ∃ (o : Obj) (its : Array Value) (n : Nat), K.K.lookup a = some o ∧ o.cls = .type "list" ∧ o.dict = none ∧ o.data = .seq its n ∧ its.size ≤ sizeLine ∧ Vals vs its.toList
theorem FzL.sq {H : Hp} {a : Addr} {vs : List V} (h : FzL K H a vs) : SqL K H a vs := by
  rcases h with ⟨o, h⟩ | h
  · exact .inl (.inr ⟨o, h⟩)
  · exact .inr h
mutual
inductive RD (K : KW) (H : Hp) : D → V → Prop
  | non : RD K H .non .non
  | bl (b : Bool) : RD K H (.bl b) (.bl b)
  | int (i : Int) : RD K H (.int i) (.int i)
  | str (x : Str) : RD K H (.str x) (.str x)
  | ty (n : String) : RD K H (.ty n) (.ty n)
  | ref (a : Addr) : RD K H (.ref a) (.ref a)
  | tup {a : Addr} {vs : List V} {ds : List D} : SqT K H a vs → RDs K H ds vs → RD K H (.tup ds) (.ref a)
  | rl {a : Addr} {vs : List V} {ds : List D} : FzL K H a vs → RDs K H ds vs → RD K H (.rl ds) (.ref a)
inductive RDs (K : KW) (H : Hp) : List D → List V → Prop
  | nil : RDs K H [] []
  | cons {d : D} {ds : List D} {v : V} {vs : List V} : RD K H d v → RDs K H ds vs → RDs K H (d :: ds) (v :: vs)
end

/-- the tuples and what nobody writes stay -/
structure TM (K : KW) (H H' : Hp) : Prop where
  tup : ∀ a vs, SqT K H a vs → SqT K H' a vs
  frz : ∀ a vs, FzL K H a vs → FzL K H' a vs
mutual
theorem RD.mono {H H' : Hp} (m : TM K H H') : ∀ {d : D} {v : V}, RD K H d v → RD K H' d v
  | _, _, .non => .non
  | _, _, .bl b => .bl b
  | _, _, .int i => .int i
  | _, _, .str x => .str x
  | _, _, .ty n => .ty n
  | _, _, .ref a => .ref a
  | _, _, .tup h hs => .tup (m.tup _ _ h) (RDs.mono m hs)
  | _, _, .rl h hs => .rl (m.frz _ _ h) (RDs.mono m hs)
theorem RDs.mono {H H' : Hp} (m : TM K H H') : ∀ {ds : List D} {vs : List V}, RDs K H ds vs → RDs K H' ds vs
  | _, _, .nil => .nil
  | _, _, .cons h hs => .cons (RD.mono m h) (RDs.mono m hs)
end
section
variable {H H' : Hp}
theorem RDs.length : ∀ {ds : List D} {vs : List V}, RDs K H ds vs → ds.length = vs.length
  | _, _, .nil => rfl
  | _, _, .cons _ hs => by simp [RDs.length hs]
theorem RDs.get : ∀ {ds : List D} {vs : List V} {i : Nat} {d : D}, RDs K H ds vs → ds[i]? = some d → ∃ v, vs[i]? = some v ∧ RD K H d v
  | _, _, _, _, .nil, e => by simp at e
  | _, _, 0, _, .cons h _, e => by simp at e; subst e; exact ⟨_, rfl, h⟩
  | _, _, i + 1, _, .cons _ hs, e => by
    obtain ⟨v, e1, r⟩ := RDs.get (i := i) hs (by simpa using e)
    exact ⟨v, by simpa using e1, r⟩
theorem RDs.get' : ∀ {ds : List D} {vs : List V} {i : Nat} {v : V}, RDs K H ds vs → vs[i]? = some v → ∃ d, ds[i]? = some d ∧ RD K H d v
  | _, _, _, _, .nil, e => by simp at e
  | _, _, 0, _, .cons h _, e => by simp at e; subst e; exact ⟨_, rfl, h⟩
  | _, _, i + 1, _, .cons _ hs, e => by
    obtain ⟨d, e1, r⟩ := RDs.get' (i := i) hs (by simpa using e)
    exact ⟨d, by simpa using e1, r⟩
theorem RDs.set : ∀ {ds : List D} {vs : List V} (i : Nat) {d : D} {v : V}, RDs K H ds vs → RD K H d v → RDs K H (ds.set i d) (vs.set i v)
  | _, _, _, _, _, .nil, _ => by simp; exact .nil
  | _, _, 0, _, _, .cons _ hs, r => .cons r hs
  | _, _, i + 1, _, _, .cons h hs, r => .cons h (RDs.set i hs r)
theorem RDs.append : ∀ {ds es : List D} {vs ws : List V}, RDs K H ds vs → RDs K H es ws → RDs K H (ds ++ es) (vs ++ ws)
  | _, _, _, _, .nil, q => q
  | _, _, _, _, .cons h hs, q => .cons h (RDs.append hs q)
theorem RDs.take : ∀ {ds : List D} {vs : List V} (n : Nat), RDs K H ds vs → RDs K H (ds.take n) (vs.take n)
  | _, _, 0, _ => by simp; exact .nil
  | _, _, _ + 1, .nil => .nil
  | _, _, n + 1, .cons h hs => .cons h (RDs.take n hs)
theorem RDs.drop : ∀ {ds : List D} {vs : List V} (n : Nat), RDs K H ds vs → RDs K H (ds.drop n) (vs.drop n)
  | _, _, 0, r => r
  | _, _, _ + 1, .nil => .nil
  | _, _, n + 1, .cons _ hs => RDs.drop n hs
theorem RDs.reverse : ∀ {ds : List D} {vs : List V}, RDs K H ds vs → RDs K H ds.reverse vs.reverse
  | _, _, .nil => .nil
  | _, _, .cons h hs => by rw [List.reverse_cons, List.reverse_cons]; exact (RDs.reverse hs).append (.cons h .nil)
theorem RDs.one {d : D} {vs : List V} (r : RDs K H [d] vs) : ∃ v, vs = [v] ∧ RD K H d v := by
  cases r with | cons h t => cases t; exact ⟨_, rfl, h⟩
theorem RDs.two {d e : D} {vs : List V} (r : RDs K H [d, e] vs) : ∃ v w, vs = [v, w] ∧ RD K H d v ∧ RD K H e w := by
  cases r with | cons h t => obtain ⟨w, rfl, q⟩ := t.one; exact ⟨_, _, rfl, h, q⟩
theorem RDs.three {d e f : D} {vs : List V} (r : RDs K H [d, e, f] vs) : ∃ v w x, vs = [v, w, x] ∧ RD K H d v ∧ RD K H e w ∧ RD K H f x := by
  cases r with | cons h t => obtain ⟨w, x, rfl, q⟩ := t.two; exact ⟨_, _, _, rfl, h, q⟩
theorem RDs.ints : ∀ {ns : List Int} {vs : List V}, RDs K H (ns.map D.int) vs → vs = ns.map V.int
  | [], _, r => by cases r; rfl
  | n :: ns, _, r => by
    cases r with | cons h t => cases h; rw [RDs.ints t]; rfl
theorem RDs.ofInts : ∀ (ns : List Int), RDs K H (ns.map D.int) (ns.map V.int)
  | [] => .nil
  | n :: ns => .cons (.int n) (RDs.ofInts ns)
theorem RDs.bls : ∀ {ns : List Bool} {vs : List V}, RDs K H (ns.map D.bl) vs → vs = ns.map V.bl
  | [], _, r => by cases r; rfl
  | n :: ns, _, r => by
    cases r with | cons h t => cases h; rw [RDs.bls t]; rfl
theorem RDs.strs : ∀ {ns : List Str} {vs : List V}, RDs K H (ns.map D.str) vs → vs = ns.map V.str
  | [], _, r => by cases r; rfl
  | n :: ns, _, r => by
    cases r with | cons h t => cases h; rw [RDs.strs t]; rfl
theorem RDs.ofStrs : ∀ (ns : List Str), RDs K H (ns.map D.str) (ns.map V.str)
  | [] => .nil
  | n :: ns => .cons (.str n) (RDs.ofStrs ns)
end

/-! ### the heaps -/
/-- an entry of a dict whose keys are tuples -/
structure EntT (K : KW) (H : Hp) (kv : D × D) (e : DictEntry) : Prop where
  ex : ∃ (n : NestedKey) (a : Addr) (v : V), nkey kv.1 = some n ∧ n.depth ≤ 8 ∧ e.hash = n.hash K.w ∧ e.key = .ref a ∧ RD K H kv.1 (.ref a) ∧ RD K H kv.2 v ∧ RelV v e.val
/-- .. an int or a text -/
structure EntL (K : KW) (H : Hp) (kv : D × D) (e : DictEntry) : Prop where
  ex : ∃ (l : Key) (v : V), leafD kv.1 = some l ∧ e.hash = keyH K.w l ∧ keyIs l e.key = true ∧ RD K H kv.2 v ∧ RelV v e.val
def Ent (K : KW) (H : Hp) : Bool → D × D → DictEntry → Prop
  | true => EntT K H
  | false => EntL K H
theorem Ent.mono {K : KW} {H H' : Hp} (m : TM K H H') {b : Bool} {kv : D × D} {e : DictEntry} (r : Ent K H b kv e) : Ent K H' b kv e := by
  cases b with
  | true => obtain ⟨n, a, v, h1, h2, h3, h4, h5, h6, h7⟩ := r.ex; exact ⟨n, a, v, h1, h2, h3, h4, h5.mono m, h6.mono m, h7⟩
  | false => obtain ⟨l, v, h1, h2, h3, h4, h5⟩ := r.ex; exact ⟨l, v, h1, h2, h3, h4.mono m, h5⟩
/-- the object is the dict of these pairs -/
structure DctO (K : KW) (H : Hp) (a : Addr) (b : Bool) (kvs : List (D × D)) (o : Obj) : Prop where
  nosys : (a == sysModules) = false
  exact_ : o.ExactDict
  len : kvs.length ≤ sizeLine
  ex : ∃ es ep, o.data = .dict es ep ∧ Paired (Ent K H b) kvs es.toList
  nd : (kvs.map fun kv => nkey kv.1).Nodup
theorem DctO.mono {K : KW} {H H' : Hp} (m : TM K H H') {a : Addr} {b : Bool} {kvs : List (D × D)} {o : Obj} (r : DctO K H a b kvs o) : DctO K H' a b kvs o :=
  ⟨r.nosys, r.exact_, r.len, let ⟨es, ep, e, p⟩ := r.ex; ⟨es, ep, e, Paired.mono (fun _ _ q => Ent.mono m q) p⟩, r.nd⟩
def PinO (a : Addr) (o : Obj) : HO := .ext fun h => h.get? a = some o
def RO (K : KW) (H : Hp) (a : Addr) : DO → Prop
  | .lst ds => ∃ vs, H a = some (.lst vs) ∧ RDs K H ds vs
  | .dct b kvs o => H a = some (PinO a o) ∧ DctO K H a b kvs o
  | .iset S n => H a = some (SetO K.w a S n)
  | .rng j => H a = some (.rng 0 j)
def RH (K : KW) (H : Hp) (h : DH) : Prop := ∀ a o, h a = some o → RO K H a o
/-- what is not told stays -/
def Frm (h : DH) (H : Hp) (h' : DH) (H' : Hp) : Prop := ∀ b o, H b = some o → h b = none → H' b = some o ∧ h' b = none
section
variable {H H1 H2 H' : Hp} {h h1 h2 h' : DH} {a : Addr}
theorem Frm.refl (h : DH) (H : Hp) : Frm h H h H := fun _ _ e n => ⟨e, n⟩
theorem Frm.trans (x : Frm h H h1 H1) (y : Frm h1 H1 h2 H2) : Frm h H h2 H2 := fun b o e n => let ⟨e1, n1⟩ := x b o e n; y b o e1 n1
theorem RH.noTup {vs : List V} (r : RH K H h) (e : Rd H a (.tup vs)) : h a = none := by
  cases q : h a with
  | none => rfl
  | some o =>
    have := r a o q
    cases o with
    | lst ds => obtain ⟨ws, e1, _⟩ := this; rcases e with e | ⟨_, e⟩ <;> rw [e1] at e <;> cases e
    | dct b kvs o => obtain ⟨e1, _⟩ := this; rcases e with e | ⟨_, e⟩ <;> rw [e1] at e <;> cases e
    | iset S n => rcases e with e | ⟨_, e⟩ <;> rw [show H a = _ from this] at e <;> cases e
    | rng j => rcases e with e | ⟨_, e⟩ <;> rw [show H a = _ from this] at e <;> cases e
theorem RH.noFrz {o : Obj} {u : HO} (r : RH K H h) (e : H a = some (.frz o u)) : h a = none := by
  cases q : h a with
  | none => rfl
  | some p =>
    have := r a p q
    cases p with
    | lst ds => obtain ⟨ws, e1, _⟩ := this; rw [e1] at e; cases e
    | dct b kvs o => obtain ⟨e1, _⟩ := this; rw [e1] at e; cases e
    | iset S n => rw [show H a = _ from this] at e; cases e
    | rng j => rw [show H a = _ from this] at e; cases e
theorem Frm.tm (r : RH K H h) (f : Frm h H h' H') : TM K H H' := by
  refine ⟨fun a vs e => ?_, fun a vs e => ?_⟩
  · rcases e with e | e
    · have n := r.noTup e
      rcases e with e | ⟨o, e⟩
      · exact .inl (.inl (f _ _ e n).1)
      · exact .inl (.inr ⟨o, (f _ _ e n).1⟩)
    · exact .inr e
  · rcases e with ⟨o, e⟩ | e
    · exact .inl ⟨o, (f _ _ e (r.noFrz e)).1⟩
    · exact .inr e
theorem RH.free (r : RH K H h) (e : H a = none) : h a = none := by
  cases q : h a with
  | none => rfl
  | some o =>
    have := r a o q
    cases o with
    | lst ds => obtain ⟨ws, e1, _⟩ := this; rw [e1] at e; cases e
    | dct b kvs o => obtain ⟨e1, _⟩ := this; rw [e1] at e; cases e
    | iset S n => rw [show H a = _ from this] at e; cases e
    | rng j => rw [show H a = _ from this] at e; cases e
theorem RO.mono {o : DO} (m : TM K H H') (e : H' a = H a) (r : RO K H a o) : RO K H' a o := by
  cases o with
  | lst ds => obtain ⟨vs, e1, q⟩ := r; exact ⟨vs, e.trans e1, q.mono m⟩
  | dct b kvs o => exact ⟨e.trans r.1, r.2.mono m⟩
  | iset S n => exact e.trans r
  | rng j => exact e.trans r
/-- a new object -/
theorem TM.new {u : HO} (e : H a = none) : TM K H (upd H a u) := by
  refine ⟨fun b vs q => ?_, fun b vs q => ?_⟩
  · rcases q with (q | ⟨o, q⟩) | q
    · exact .inl (.inl (by rw [upd_ne (ne_of_none q e)]; exact q))
    · exact .inl (.inr ⟨o, by rw [upd_ne (ne_of_none q e)]; exact q⟩)
    · exact .inr q
  · rcases q with ⟨o, q⟩ | q
    · exact .inl ⟨o, by rw [upd_ne (ne_of_none q e)]; exact q⟩
    · exact .inr q
theorem RH.new {o : DO} {u : HO} (r : RH K H h) (e : H a = none) (ro : RO K (upd H a u) a o) : RH K (upd H a u) (updD h a o) := fun b p q => by
  by_cases hb : b = a
  · subst hb; rw [updD_same] at q; cases q; exact ro
  · rw [updD_ne hb] at q
    exact (r b p q).mono (TM.new e) (upd_ne hb)
theorem Frm.new {o : DO} {u : HO} (e : H a = none) : Frm h H (updD h a o) (upd H a u) := fun b p q n => by
  have hb := ne_of_none q e
  exact ⟨by rw [upd_ne hb]; exact q, by rw [updD_ne hb]; exact n⟩
/-- a new tuple: the heap of the mutable objects as it was -/
theorem RH.newT {u : HO} (r : RH K H h) (e : H a = none) : RH K (upd H a u) h := fun b p q => by
  have hb : b ≠ a := fun z => by subst z; rw [r.free e] at q; cases q
  exact (r b p q).mono (TM.new e) (upd_ne hb)
theorem Frm.newT {u : HO} (e : H a = none) : Frm h H h (upd H a u) := fun b p q n => ⟨by rw [upd_ne (ne_of_none q e)]; exact q, n⟩
theorem RD.newT {ds : List D} {vs : List V} (e : H a = none) (r : RDs K H ds vs) : RD K (upd H a (.tup vs)) (.tup ds) (.ref a) :=
  .tup (.of upd_same) (r.mono (TM.new e))
/-- a list is written -/
theorem TM.write {xs : List V} {u : HO} (e : H a = some (.lst xs)) : TM K H (upd H a u) := by
  have ne : ∀ {b : Addr} {z : HO}, H b = some z → (∀ ys, z ≠ .lst ys) → b ≠ a := fun {b z} q hz c => by subst c; rw [e] at q; exact hz xs (Option.some.inj q).symm
  refine ⟨fun b vs q => ?_, fun b vs q => ?_⟩
  · rcases q with (q | ⟨o, q⟩) | q
    · exact .inl (.inl (by rw [upd_ne (ne q fun _ c => by cases c)]; exact q))
    · exact .inl (.inr ⟨o, by rw [upd_ne (ne q fun _ c => by cases c)]; exact q⟩)
    · exact .inr q
  · rcases q with ⟨o, q⟩ | q
    · exact .inl ⟨o, by rw [upd_ne (ne q fun _ c => by cases c)]; exact q⟩
    · exact .inr q
theorem RH.write {xs : List V} {o : DO} {u : HO} (r : RH K H h) (e : H a = some (.lst xs)) (ro : RO K (upd H a u) a o) : RH K (upd H a u) (updD h a o) := fun b p q => by
  by_cases hb : b = a
  · subst hb; rw [updD_same] at q; cases q; exact ro
  · rw [updD_ne hb] at q
    exact (r b p q).mono (TM.write e) (upd_ne hb)
theorem Frm.write {p : DO} {o : DO} {u : HO} (e : h a = some p) : Frm h H (updD h a o) (upd H a u) := fun b z q n => by
  have hb : b ≠ a := fun c => by subst c; rw [e] at n; cases n
  exact ⟨by rw [upd_ne hb]; exact q, by rw [updD_ne hb]; exact n⟩
/-- a dict is written -/
theorem TM.writeO {o : Obj} {u : HO} (e : H a = some (PinO a o)) : TM K H (upd H a u) := by
  have ne : ∀ {b : Addr} {z : HO}, H b = some z → z ≠ PinO a o → b ≠ a := fun {b z} q hz c => by subst c; rw [e] at q; exact hz (Option.some.inj q).symm
  refine ⟨fun b vs q => ?_, fun b vs q => ?_⟩
  · rcases q with (q | ⟨o, q⟩) | q
    · exact .inl (.inl (by rw [upd_ne (ne q fun c => by cases c)]; exact q))
    · exact .inl (.inr ⟨o, by rw [upd_ne (ne q fun c => by cases c)]; exact q⟩)
    · exact .inr q
  · rcases q with ⟨o, q⟩ | q
    · exact .inl ⟨o, by rw [upd_ne (ne q fun c => by cases c)]; exact q⟩
    · exact .inr q
theorem RH.writeO {b : Bool} {kvs kvs' : List (D × D)} {o o' : Obj} (r : RH K H h) (e : h a = some (.dct b kvs o)) (new : DctO K H a b kvs' o') : RH K (upd H a (PinO a o')) (updD h a (.dct b kvs' o')) := fun c p q => by
  have e1 := (r a _ e).1
  by_cases hb : c = a
  · subst hb; rw [updD_same] at q; cases q; exact ⟨upd_same, new.mono (TM.writeO e1)⟩
  · rw [updD_ne hb] at q
    exact (r c p q).mono (TM.writeO e1) (upd_ne hb)
theorem RH.lst {ds : List D} (r : RH K H h) (e : h a = some (.lst ds)) : ∃ vs, H a = some (.lst vs) ∧ RDs K H ds vs := r a _ e
theorem RH.lstSet {ds es : List D} {vs : List V} (r : RH K H h) (e : h a = some (.lst ds)) (q : RDs K H es vs) : RH K (upd H a (.lst vs)) (updD h a (.lst es)) := by
  obtain ⟨ws, e1, _⟩ := r.lst e
  exact r.write e1 ⟨vs, upd_same, q.mono (TM.write e1)⟩
theorem RH.lstNew {es : List D} {vs : List V} (r : RH K H h) (e : H a = none) (q : RDs K H es vs) : RH K (upd H a (.lst vs)) (updD h a (.lst es)) :=
  r.new e ⟨vs, upd_same, q.mono (TM.new e)⟩
/-- the list at a -/
abbrev LR (h : DH) (a : Addr) (ds : List D) : Prop := h a = some (.lst ds)
theorem RH.sq {ds : List D} (r : RH K H h) (e : LR h a ds) : ∃ vs, SqL K H a vs ∧ RDs K H ds vs := by
  obtain ⟨vs, e1, q⟩ := r _ _ e
  exact ⟨vs, .inl (.inl e1), q⟩
end

/-! ### the slots -/
structure RS (K : KW) (H : Hp) (sd : DSt) (σ : St) : Prop where
  len : sd.length = σ.length
  at_ : ∀ (i : Nat) (d : D), sd[i]? = some (some d) → ∃ v, σ[i]? = some (some v) ∧ RD K H d v
section
variable {H H' : Hp} {sd : DSt} {σ : St}
theorem RS.mono (m : TM K H H') (r : RS K H sd σ) : RS K H' sd σ := ⟨r.len, fun i d e => let ⟨v, e1, q⟩ := r.at_ i d e; ⟨v, e1, q.mono m⟩⟩
theorem RS.set {i : Nat} {d : D} {v : V} (r : RS K H sd σ) (q : RD K H d v) : RS K H (sd.set i (some d)) (σ.set i (some v)) := by
  refine ⟨by simp [r.len], fun j e h => ?_⟩
  by_cases hj : i = j
  · subst hj
    by_cases hi : i < sd.length
    · rw [List.getElem?_set_self hi] at h
      cases h
      exact ⟨v, List.getElem?_set_self (by rw [← r.len]; exact hi), q⟩
    · rw [List.getElem?_eq_none (by simpa using hi)] at h; cases h
  · rw [List.getElem?_set_ne hj] at h
    obtain ⟨w, e1, q1⟩ := r.at_ j e h
    exact ⟨w, by rw [List.getElem?_set_ne hj]; exact e1, q1⟩
/-- the slots of a comprehension's own names forgotten -/
def dwipe (sd : DSt) : List Nat → DSt
  | [] => sd
  | v :: vs => (dwipe sd vs).set v none
theorem dwipe_some {i : Nat} {x : D} : ∀ {vs : List Nat}, (dwipe sd vs)[i]? = some (some x) → sd[i]? = some (some x) ∧ i ∉ vs
  | [], h => ⟨h, by simp⟩
  | v :: vs, h => by
    unfold dwipe at h
    by_cases hi : v = i
    · subst hi
      by_cases hv : v < (dwipe sd vs).length
      · rw [List.getElem?_set_self hv] at h; cases h
      · rw [List.getElem?_eq_none (by simpa using hv)] at h; cases h
    · rw [List.getElem?_set_ne hi] at h
      obtain ⟨h1, h2⟩ := dwipe_some h
      exact ⟨h1, by simp only [List.mem_cons, not_or]; exact ⟨fun e => hi e.symm, h2⟩⟩
theorem dwipe_length (sd : DSt) : ∀ vs : List Nat, (dwipe sd vs).length = sd.length
  | [] => rfl
  | v :: vs => by unfold dwipe; rw [List.length_set, dwipe_length sd vs]
theorem RS.wipe (r : RS K H sd σ) (vs : List Nat) : RS K H (dwipe sd vs) (L2.wipe σ vs) := by
  refine ⟨by rw [dwipe_length, wipe_length, r.len], fun i d h => ?_⟩
  obtain ⟨h1, h2⟩ := dwipe_some h
  obtain ⟨v, e, q⟩ := r.at_ i d h1
  exact ⟨v, by rw [wipe_out h2]; exact e, q⟩
theorem wipe_set {σ : St} {i : Nat} {x : Option V} : ∀ {vs : List Nat}, i ∈ vs → L2.wipe (σ.set i x) vs = L2.wipe σ vs
  | [], h => by simp at h
  | v :: vs, h => by
    have comm : ∀ (us : List Nat), L2.wipe (σ.set i x) us = (if i ∈ us then L2.wipe σ us else (L2.wipe σ us).set i x) := by
      intro us
      induction us with
      | nil => rfl
      | cons u us ih =>
        unfold L2.wipe
        rw [ih]
        by_cases hu : i ∈ us
        · rw [if_pos hu, if_pos (List.mem_cons_of_mem _ hu)]
        · rw [if_neg hu]
          by_cases hiu : i = u
          · subst hiu
            rw [if_pos List.mem_cons_self, List.set_set]
          · rw [if_neg (by simp only [List.mem_cons, not_or]; exact ⟨hiu, hu⟩)]
            exact List.set_comm _ _ hiu
    rw [comm, if_pos h]
theorem wipe_wipe (σ : St) : ∀ vs : List Nat, L2.wipe (L2.wipe σ vs) vs = L2.wipe σ vs := by
  intro vs
  have sub : ∀ us : List Nat, (∀ u ∈ us, u ∈ vs) → L2.wipe (L2.wipe σ us) vs = L2.wipe σ vs := by
    intro us
    induction us with
    | nil => intro _; rfl
    | cons u us ih =>
      intro h
      rw [show L2.wipe σ (u :: us) = (L2.wipe σ us).set u none from rfl, wipe_set (h u List.mem_cons_self)]
      exact ih fun w hw => h w (List.mem_cons_of_mem _ hw)
  exact sub vs fun _ h => h
end

/-! ### readings, lifted -/
abbrev Bs := DH × Hp
abbrev TEd := DSt → DH → DK → Prop
/-- what a value's coming leaves -/
structure Post (K : KW) (h : DH) (H : Hp) (d : D) (h' : DH) (v : V) (H' : Hp) : Prop where
  rd : RD K H' d v
  rh : RH K H' h'
  fr : Frm h H h' H'
structure Now (K : KW) (B : Bs) (sd : DSt) (h : DH) (σ : St) (H : Hp) : Prop where
  rs : RS K H sd σ
  rh : RH K H h
  fr : Frm B.1 B.2 h H
theorem Now.after {B : Bs} {sd : DSt} {h h' : DH} {σ : St} {H H' : Hp} (n : Now K B sd h σ H) (r : RH K H' h') (f : Frm h H h' H') : Now K B sd h' σ H' :=
  ⟨n.rs.mono (Frm.tm n.rh f), r, n.fr.trans f⟩
theorem Now.tm {B : Bs} {sd : DSt} {h h' : DH} {σ : St} {H H' : Hp} (n : Now K B sd h σ H) (f : Frm h H h' H') : TM K H H' := Frm.tm n.rh f
def lift (K : KW) (B : Bs) (t : TEd) : TE := fun σ H Q => ∃ sd h Qd, Now K B sd h σ H ∧ t sd h Qd ∧ ∀ d h' v H', Qd d h' → Post K h H d h' v H' → Q v H'
def liftT (K : KW) (B : Bs) (t : TEd) : TT := fun σ H Q => ∃ sd h, ∃ Qb : Bool → DH → Prop, Now K B sd h σ H ∧ t sd h (fun d h' => ∃ b, d = .bl b ∧ Qb b h') ∧ ∀ b h' H', Qb b h' → RH K H' h' → Frm h H h' H' → Q b H'
/-- an argument list: its value a tuple of the arguments -/
def liftA (K : KW) (B : Bs) (t : TEd) : TA := fun σ H Q => ∃ sd h Qd, Now K B sd h σ H ∧ t sd h Qd ∧ ∀ ds h' vs H', Qd (.tup ds) h' → RDs K H' ds vs → RH K H' h' → Frm h H h' H' → Q vs H'
end DL
namespace DL
open PySem PySem.Spec L2

/-! ## 2. The inner form of a program: names are slots; its weakest preconditions -/
inductive Ty where
  | int | bool | str | tuple | list | none | dict
  deriving DecidableEq
inductive Blt where
  | len | int | abs | min | max | list | tuple | sum | any | all | str | ord | sorted | set | range
  deriving DecidableEq
inductive Mth where
  | append | pop | extend | get | popAt | insert | setdef | clear
  deriving DecidableEq
inductive ItK where
  | val | range1 | range2 | enum | zip | items | vals
  deriving DecidableEq
/-- targets -/
inductive T where
  | name (i : Nat) | tup (ts : T) | nil | cons (t ts : T)
/-- expressions; argument lists are nil, cons -/
inductive E where
  | var (i : Nat)
  | cst (d : D)
  | glb (j : Nat)
  | bin (op : Operator) (a b : E)
  | neg (a : E)
  | cmp (op : CmpOp) (a b : E)
  | cmp2 (op op' : CmpOp) (a b c : E)
  | dnew (b : Bool)
  | dmk (b : Bool) (k v : E)
  | truth (a : E) | notB (a : E) | andB (a b : E) | orB (a b : E)
  | notV (a : E) | andV (a b : E) | orV (a b : E)
  | ife (c a b : E)
  | tup (es : E) | lst (es : E) | nil | cons (e es : E)
  | sub (a i : E)
  | slice (bl bh : Bool) (a lo hi : E) | absent
  | rev (a : E)
  | sset (a : E)
  | lset (a : E)
  | snil | scons (b : Bool) (e es : E)
  | call (f : Nat) (es : E)
  | callK (f : Nat) (n : Nat) (ks : List Str) (π : List Nat) (es kes : E)
  | blt (b : Blt) (es : E)
  | isi (t : Ty) (a : E)
  | mth (m : Mth) (o es : E)
  | lc (tg : T) (k : ItK) (src cs elt : E) (own : List (Str × Nat))
  | dc (b : Bool) (tg : T) (k : ItK) (src cs ke ve : E) (own : List (Str × Nat))
  | dc2 (b : Bool) (tg : T) (k : ItK) (src cs : E) (tg1 : T) (k1 : ItK) (src1 cs1 ke ve : E) (own own1 : List (Str × Nat))
inductive S where
  | skip | seq (a b : S)
  | asg (t : T) (e : E)
  | asgSub (o i e : E)
  | asgPar (i j : Nat) (es : E)
  | aug (i : Nat) (op : Operator) (e : E)
  | expr (e : E) | ret (e : E) | retN
  | ite (c : E) (a b : S)
  | iteW (i : Nat) (e : E) (a b : S)
  | for_ (t : T) (k : ItK) (src : E) (b : S)
  | while_ (c : E) (b : S)
  | brk | cnt | doc

/-! ### data for == -/
mutual
inductive PD (h : DH) : D → PyData → Prop
  | non : PD h .non .none
  | bl (b : Bool) : PD h (.bl b) (.bool b)
  | int (i : Int) : PD h (.int i) (.int i)
  | str (x : Str) : PD h (.str x) (.str x)
  | tup {ds : List D} {as : List PyData} : PDs h ds as → PD h (.tup ds) (.tuple as)
  | lst {p : Addr} {ds : List D} {as : List PyData} : LR h p ds → PDs h ds as → PD h (.ref p) (.list as)
  | rl {ds : List D} {as : List PyData} : PDs h ds as → PD h (.rl ds) (.list as)
inductive PDs (h : DH) : List D → List PyData → Prop
  | nil : PDs h [] []
  | cons {d : D} {ds : List D} {a : PyData} {as : List PyData} : PD h d a → PDs h ds as → PDs h (d :: ds) (a :: as)
end

/-! ### dicts by values -/
def dget (kvs : List (D × D)) (k : D) : Option D := (kvs.find? fun kv => decide (nkey kv.1 = nkey k)).map (·.2)
def dput (kvs : List (D × D)) (k v : D) : List (D × D) := if (dget kvs k).isSome = true then kvs.map (fun kv => if nkey kv.1 = nkey k then (kv.1, v) else kv) else kvs ++ [(k, v)]
/-- may this be a key of a dict whose keys are tuples, whose keys are ints and texts -/
def keyB : Bool → D → Bool
  | true, .tup ds => match nkeys ds with
    | some ks => decide (NestedKey.depthAll ks ≤ 7)
    | none => false
  | true, _ => false
  | false, d => (leafD d).isSome
abbrev DctAt (h : DH) (x : D) (b : Bool) (kvs : List (D × D)) : Prop := ∃ p o, x = .ref p ∧ h p = some (.dct b kvs o)
def dnewD (b : Bool) (h : DH) (Q : DK) : Prop := ∀ p o, h p = none → Q (.ref p) (updD h p (.dct b [] o))
def dsubD (x i : D) (h : DH) (Q : DK) : Prop := ∃ b kvs v, DctAt h x b kvs ∧ keyB b i = true ∧ dget kvs i = some v ∧ Q v h
def dinD (x i : D) (h : DH) (k : Bool → Prop) : Prop := ∃ b kvs, DctAt h x b kvs ∧ keyB b i = true ∧ k (dget kvs i).isSome
def dgetD (x i z : D) (h : DH) (Q : DK) : Prop := ∃ b kvs, DctAt h x b kvs ∧ keyB b i = true ∧ Q ((dget kvs i).getD z) h
def dsdefD (x i z : D) (h : DH) (Q : DK) : Prop := ∃ p b kvs o, x = .ref p ∧ h p = some (.dct b kvs o) ∧ keyB b i = true ∧ kvs.length < sizeLine ∧ (∀ v, dget kvs i = some v → Q v h) ∧ (dget kvs i = none → ∀ o', Q z (updD h p (.dct b (dput kvs i z) o')))
def dlenD (x : D) (h : DH) (Q : DK) : Prop := ∃ b kvs, DctAt h x b kvs ∧ Q (.int kvs.length) h
def dputD (x i v : D) (h : DH) (Q : DH → Prop) : Prop := ∃ p b kvs o, x = .ref p ∧ h p = some (.dct b kvs o) ∧ keyB b i = true ∧ kvs.length < sizeLine ∧ ∀ o', Q (updD h p (.dct b (dput kvs i v) o'))

/-! ### operations by values -/
def MulOk (i j : Int) : Prop := CMul i j ∨ CMulW i j
def addD (x y : D) (h : DH) (Q : DK) : Prop := match x with
  | .int i => match y with
    | .int j => Q (.int (i + j)) h
    | _ => False
  | .str a => match y with
    | .str b => a.length + b.length ≤ sizeLine ∧ Q (.str (a ++ b)) h
    | _ => False
  | .tup a => match y with
    | .tup b => a.length + b.length ≤ sizeLine ∧ Q (.tup (a ++ b)) h
    | _ => False
  | .ref p => match y with
    | .ref q => ∃ xs ys, h p = some (.lst xs) ∧ h q = some (.lst ys) ∧ xs.length + ys.length ≤ sizeLine ∧ ∀ r, h r = none → Q (.ref r) (updD h r (.lst (xs ++ ys)))
    | _ => False
  | _ => False
def mulD (x y : D) (h : DH) (Q : DK) : Prop := match y with
  | .int j => match x with
    | .int i => MulOk i j ∧ Q (.int (i * j)) h
    | .tup a => (a ≠ [] ∧ 0 ≤ j ∧ j ≤ 1000 ∧ a.length ≤ 1000) ∧ Q (.tup (List.replicate j.toNat a).flatten) h
    | .ref p => ∃ xs, h p = some (.lst xs) ∧ (-(2 ^ 63) ≤ j ∧ j < 2 ^ 63 ∧ xs.length * j.toNat ≤ sizeLine) ∧ ∀ r, h r = none → Q (.ref r) (updD h r (.lst (List.replicate j.toNat xs).flatten))
    | _ => False
  | _ => False
def DivOk (j : Int) : Prop := 0 < j ∧ j.natAbs.log2 < 9000
def binD (op : Operator) (x y : D) (h : DH) (Q : DK) : Prop := match op with
  | .Add => addD x y h Q
  | .Sub => match x with
    | .int i => match y with
      | .int j => Q (.int (i - j)) h
      | _ => False
    | _ => False
  | .Mult => mulD x y h Q
  | .FloorDiv => match x with
    | .int i => match y with
      | .int j => DivOk j ∧ Q (.int (i / j)) h
      | _ => False
    | _ => False
  | .Mod => match x with
    | .int i => match y with
      | .int j => 0 < j ∧ Q (.int (i % j)) h
      | _ => False
    | _ => False
  | .Pow => match x with
    | .int i => match y with
      | .int j => CPow i j ∧ Q (.int (i ^ j.toNat)) h
      | _ => False
    | _ => False
  | _ => False
/-- x op= y at a name -/
def augD (op : Operator) (x y : D) (h : DH) (Q : DK) : Prop := match op with
  | .Add => match x with
    | .int i => match y with
      | .int j => Q (.int (i + j)) h
      | _ => False
    | .str a => match y with
      | .str b => a.length + b.length ≤ sizeLine ∧ Q (.str (a ++ b)) h
      | _ => False
    | .ref p => match y with
      | .ref q => ∃ xs ys, h p = some (.lst xs) ∧ h q = some (.lst ys) ∧ xs.length + ys.length ≤ sizeLine ∧ Q (.ref p) (updD h p (.lst (xs ++ ys)))
      | _ => False
    | _ => False
  | .Sub => match x with
    | .int i => match y with
      | .int j => Q (.int (i - j)) h
      | _ => False
    | _ => False
  | _ => False
def negD (x : D) (h : DH) (Q : DK) : Prop := match x with
  | .int i => Q (.int (-i)) h
  | _ => False
/-- == of flat values -/
def flatD : D → Bool
  | .non => true
  | .bl _ => true
  | .int _ => true
  | .str _ => true
  | _ => false
/-- == of dicts with flat values -/
def pdF : D → PyData
  | .bl b => .bool b
  | .int i => .int i
  | .str x => .str x
  | _ => .none
def pairIn (lvs : List (D × D)) (kv : D × D) : Bool := match dget lvs kv.1 with
  | some v => PyData.eqv (pdF kv.2) (pdF v)
  | none => false
def sameD (kvs lvs : List (D × D)) : Bool := kvs.length == lvs.length && kvs.all (pairIn lvs)
def deqD (p q : Addr) (h : DH) (k : Bool → Prop) : Prop := ∃ b kvs lvs o o', h p = some (.dct b kvs o) ∧ h q = some (.dct b lvs o') ∧ (∀ kv ∈ kvs, flatD kv.2 = true) ∧ (∀ kv ∈ lvs, flatD kv.2 = true) ∧ k (sameD kvs lvs)
/-- == of data -/
def eqG (x y : D) (h : DH) (k : Bool → Prop) : Prop := ∃ a b, PD h x a ∧ PD h y b ∧ SeqAt.shaped a = true ∧ SeqAt.shaped b = true ∧ k (PyData.eqv a b)
@[irreducible] def eqR (p q : Addr) (h : DH) (k : Bool → Prop) : Prop := eqG (.ref p) (.ref q) h k ∨ deqD p q h k
theorem eqR_l {p q : Addr} {h : DH} {k : Bool → Prop} (x : eqG (.ref p) (.ref q) h k) : eqR p q h k := by unfold eqR; exact .inl x
theorem eqR_d {p q : Addr} {h : DH} {k : Bool → Prop} (x : deqD p q h k) : eqR p q h k := by unfold eqR; exact .inr x
theorem eqR_el {p q : Addr} {h : DH} {k : Bool → Prop} (x : eqR p q h k) : eqG (.ref p) (.ref q) h k ∨ deqD p q h k := by unfold eqR at x; exact x
def eqD (x y : D) (h : DH) (k : Bool → Prop) : Prop := match x with
  | .int i => match y with
    | .int j => k (decide (i = j))
    | .str _ => k false
    | _ => eqG x y h k
  | .str a => match y with
    | .str b => k (decide (a = b))
    | .int _ => k false
    | _ => eqG x y h k
  | .bl a => match y with
    | .bl b => k (decide (a = b))
    | _ => eqG x y h k
  | .ref p => match y with
    | .ref q => eqR p q h k
    | _ => eqG x y h k
  | _ => eqG x y h k
def isNon : D → Bool
  | .non => true
  | _ => false
def sLt (a b : Str) : Bool := decide (a.cps.toList < b.cps.toList)
def ordD (fi : Int → Int → Bool) (fs : Str → Str → Bool) (x y : D) (k : Bool → Prop) : Prop := match x with
  | .int i => match y with
    | .int j => k (fi i j)
    | _ => False
  | .str a => match y with
    | .str b => k (fs a b)
    | _ => False
  | _ => False
def eqF : D → D → Bool
  | .non, .non => true
  | .bl a, .bl b => a == b
  | .bl a, .int b => (if a then 1 else 0) == b
  | .int a, .bl b => a == (if b then 1 else 0)
  | .int a, .int b => a == b
  | .str a, .str b => a == b
  | _, _ => false
def inF (x : D) (ys : List D) (k : Bool → Prop) : Prop := flatD x = true ∧ ys.all flatD = true ∧ k (ys.any fun y => eqF y x)
/-- an item of a list, a key of a dict -/
@[irreducible] def inR (x : D) (p : Addr) (h : DH) (k : Bool → Prop) : Prop := (∃ ys, LR h p ys ∧ (inF x ys k ∨ ∃ a as, PD h x a ∧ PDs h ys as ∧ SeqAt.shaped a = true ∧ SeqAt.shaped (.list as) = true ∧ k (as.any fun z => PyData.eqv z a))) ∨ dinD (.ref p) x h k
def inD (x y : D) (h : DH) (k : Bool → Prop) : Prop := match y with
  | .rl ys => inF x ys k
  | .str z => ∃ c, x = .str ⟨#[c]⟩ ∧ k (decide (c ∈ z.cps.toList))
  | .tup ys => inF x ys k
  | .ref p => inR x p h k
  | _ => False
/-- x is y, for None and the two truths -/
def isD (x y : D) (k : Bool → Prop) : Prop := match y with
  | .non => k (isNon x)
  | .bl b => match x with
    | .bl a => k (decide (a = b))
    | _ => False
  | _ => False
def cmpD (op : CmpOp) (x y : D) (h : DH) (k : Bool → Prop) : Prop := match op with
  | .Eq => eqD x y h k
  | .NotEq => eqD x y h fun b => k (!b)
  | .Lt => ordD (fun i j => decide (i < j)) (fun a b => sLt a b) x y k
  | .LtE => ordD (fun i j => decide (i ≤ j)) (fun a b => !sLt b a) x y k
  | .Gt => ordD (fun i j => decide (j < i)) (fun a b => sLt b a) x y k
  | .GtE => ordD (fun i j => decide (j ≤ i)) (fun a b => !sLt a b) x y k
  | .In => inD x y h k
  | .NotIn => inD x y h fun b => k (!b)
  | .Is => isD x y k
  | .IsNot => isD x y fun b => k (!b)
/-- truth -/
def truD (x : D) (h : DH) (k : Bool → Prop) : Prop := match x with
  | .non => k false
  | .bl b => k b
  | .int i => k (i != 0)
  | .str z => z.length ≤ sizeLine ∧ k (z.length != 0)
  | .tup xs => k (!xs.isEmpty)
  | .ref p => ∃ xs, LR h p xs ∧ k (!xs.isEmpty)
  | .rl xs => k (!xs.isEmpty)
  | .ty _ => False
def b2d (b : Bool) : Int := if b then 1 else 0
/-- a list, a dict -/
@[irreducible] def tyR (p : Addr) (h : DH) (k : Ty → Prop) : Prop := (∃ xs, LR h p xs ∧ k .list) ∨ ∃ b kvs o, h p = some (.dct b kvs o) ∧ k .dict
theorem tyR_el {p : Addr} {h : DH} {k : Ty → Prop} (x : tyR p h k) : (∃ xs, LR h p xs ∧ k .list) ∨ ∃ b kvs o, h p = some (.dct b kvs o) ∧ k .dict := by unfold tyR at x; exact x
def tyD (x : D) (h : DH) (k : Ty → Prop) : Prop := match x with
  | .non => k .none
  | .bl _ => k .bool
  | .int _ => k .int
  | .str _ => k .str
  | .tup _ => k .tuple
  | .ref p => tyR p h k
  | .rl _ => k .list
  | .ty _ => False
def isiB (t n : Ty) : Bool := decide (t = n) || (decide (t = .bool) && decide (n = .int))
/-- items of a list or tuple -/
def itemsD (x : D) (h : DH) (k : List D → Prop) : Prop := match x with
  | .tup xs => k xs
  | .rl xs => k xs
  | .ref p => ∃ xs, LR h p xs ∧ k xs
  | _ => False
/-- an item of a display, with a star or without -/
def starD (b : Bool) (x : D) (h : DH) (k : List D → Prop) : Prop := match b with
  | true => itemsD x h k
  | false => k [x]
def dclrD (x : D) (h : DH) (Q : DK) : Prop := ∃ p b kvs o, x = .ref p ∧ h p = some (.dct b kvs o) ∧ ∀ o', Q .non (updD h p (.dct b [] o'))
def newL (h : DH) (xs : List D) (Q : DK) : Prop := ∀ p, h p = none → Q (.ref p) (updD h p (.lst xs))
/-- values with their data, to be sorted -/
structure SrtOk (h : DH) (bs : List (D × PyData)) : Prop where
  pd : ∀ b ∈ bs, PD h b.1 b.2
  alike : PySem.W.AllAlike (bs.map (·.2))
  sortable : PySem.W.Sortable (bs.map (·.2))
  depth : ∀ b ∈ bs, b.2.depth ≤ 50
abbrev srtD (bs : List (D × PyData)) : List (D × PyData) := bs.mergeSort (PySem.W.dataLe false fun b : D × PyData => b.2)
/-- sorted(set(xs)), the items tuples: one of each kind, in order -/
@[irreducible] def ssetD (x : D) (h : DH) (Q : DK) : Prop := itemsD x h fun xs => ∃ bs : List (D × PyData), xs = bs.map (·.1) ∧ SrtOk h bs ∧ (∀ b ∈ bs, keyB true b.1 = true) ∧ bs.length < 64 ∧
  ∀ cs : List (D × PyData), (∀ c ∈ cs, c ∈ bs) → (∀ b ∈ bs, ∃ c ∈ cs, nkey c.1 = nkey b.1) → (cs.map fun c => nkey c.1).Nodup → newL h ((srtD cs).map (·.1)) Q
theorem sset_el {x : D} {h : DH} {Q : DK} (q : ssetD x h Q) : itemsD x h fun xs => ∃ bs : List (D × PyData), xs = bs.map (·.1) ∧ SrtOk h bs ∧ (∀ b ∈ bs, keyB true b.1 = true) ∧ bs.length < 64 ∧
  ∀ cs : List (D × PyData), (∀ c ∈ cs, c ∈ bs) → (∀ b ∈ bs, ∃ c ∈ cs, nkey c.1 = nkey b.1) → (cs.map fun c => nkey c.1).Nodup → newL h ((srtD cs).map (·.1)) Q := by unfold ssetD at q; exact q
/-- len(set(xs)), the items tuples -/
@[irreducible] def lsetD (x : D) (h : DH) (Q : DK) : Prop := itemsD x h fun xs => (∀ b ∈ xs, keyB true b = true) ∧ (∀ l : List (Option NestedKey), l.Nodup → (∀ k ∈ l, k ∈ xs.map nkey) → l.length < 256) ∧
  ∀ cs : List D, (∀ c ∈ cs, c ∈ xs) → (∀ b ∈ xs, ∃ c ∈ cs, nkey c = nkey b) → (cs.map nkey).Nodup → Q (.int cs.length) h
theorem lset_el {x : D} {h : DH} {Q : DK} (q : lsetD x h Q) : itemsD x h fun xs => (∀ b ∈ xs, keyB true b = true) ∧ (∀ l : List (Option NestedKey), l.Nodup → (∀ k ∈ l, k ∈ xs.map nkey) → l.length < 256) ∧
  ∀ cs : List D, (∀ c ∈ cs, c ∈ xs) → (∀ b ∈ xs, ∃ c ∈ cs, nkey c = nkey b) → (cs.map nkey).Nodup → Q (.int cs.length) h := by unfold lsetD at q; exact q
theorem lset_mk {x : D} {h : DH} {Q : DK} (q : itemsD x h fun xs => (∀ b ∈ xs, keyB true b = true) ∧ (∀ l : List (Option NestedKey), l.Nodup → (∀ k ∈ l, k ∈ xs.map nkey) → l.length < 256) ∧
  ∀ cs : List D, (∀ c ∈ cs, c ∈ xs) → (∀ b ∈ xs, ∃ c ∈ cs, nkey c = nkey b) → (cs.map nkey).Nodup → Q (.int cs.length) h) : lsetD x h Q := by unfold lsetD; exact q
/-- sorted: a set of ints, a list of ints -/
@[irreducible] def sortR (p : Addr) (h : DH) (Q : DK) : Prop :=
  (∃ S n, h p = some (.iset S n) ∧ n < 64 ∧ ∀ ns : List Int, ns.Pairwise (· < ·) → (∀ k, k ∈ ns ↔ S k = true) → newL h (ns.map D.int) Q) ∨
  (∃ ns : List Int, LR h p (ns.map D.int) ∧ ∀ ms : List Int, ms.Perm ns → ms.Pairwise (· ≤ ·) → newL h (ms.map D.int) Q) ∨
  ∃ bs : List (D × PyData), LR h p (bs.map (·.1)) ∧ SrtOk h bs ∧ newL h ((srtD bs).map (·.1)) Q
@[irreducible] def lenR (p : Addr) (h : DH) (Q : DK) : Prop := (∃ xs, LR h p xs ∧ Q (.int xs.length) h) ∨ dlenD (.ref p) h Q
@[irreducible] def lenD (x : D) (h : DH) (Q : DK) : Prop := match x with
  | .str z => z.length ≤ sizeLine ∧ Q (.int z.length) h
  | .tup xs => Q (.int xs.length) h
  | .rl xs => Q (.int xs.length) h
  | .ref p => lenR p h Q
  | _ => False
def bltD (b : Blt) (ds : List D) (h : DH) (Q : DK) : Prop := match b with
  | .len => match ds with
    | [.str z] => lenD (.str z) h Q
    | [.tup xs] => lenD (.tup xs) h Q
    | [.rl xs] => lenD (.rl xs) h Q
    | [.ref p] => lenD (.ref p) h Q
    | _ => False
  | .int => match ds with
    | [.int i] => Q (.int i) h
    | [.bl k] => Q (.int (b2d k)) h
    | _ => False
  | .abs => match ds with
    | [.int i] => Q (.int i.natAbs) h
    | _ => False
  | .min => match ds with
    | [.int i, .int j] => Q (.int (min i j)) h
    | [.int i, .int j, .int l] => Q (.int (min (min i j) l)) h
    | [.ref p] => ∃ ns : List Int, LR h p (ns.map D.int) ∧ 0 < ns.length ∧ ∀ m, m ∈ ns → (∀ y, y ∈ ns → m ≤ y) → Q (.int m) h
    | _ => False
  | .max => match ds with
    | [.int i, .int j] => Q (.int (max i j)) h
    | [.ref p] => ∃ ns : List Int, LR h p (ns.map D.int) ∧ 0 < ns.length ∧ ∀ m, m ∈ ns → (∀ y, y ∈ ns → y ≤ m) → Q (.int m) h
    | _ => False
  | .list => match ds with
    | [x] => itemsD x h fun xs => newL h xs Q
    | _ => False
  | .tuple => match ds with
    | [x] => itemsD x h fun xs => Q (.tup xs) h
    | _ => False
  | .sum => match ds with
    | [.ref p] => ∃ ns : List Int, LR h p (ns.map D.int) ∧ Q (.int ns.sum) h
    | _ => False
  | .any => match ds with
    | [.ref p] => ∃ bs : List Bool, LR h p (bs.map D.bl) ∧ Q (.bl (bs.any id)) h
    | _ => False
  | .all => match ds with
    | [.ref p] => ∃ bs : List Bool, LR h p (bs.map D.bl) ∧ Q (.bl (bs.all id)) h
    | _ => False
  | .str => match ds with
    | [.int i] => i.natAbs.log2 < 1920 ∧ Q (.str (toString i)) h
    | _ => False
  | .ord => match ds with
    | [.str x] => x.length = 1 ∧ Q (.int (x.cps.getD 0 0 : Nat)) h
    | _ => False
  | .sorted => match ds with
    | [.ref p] => sortR p h Q
    | _ => False
  | .set => match ds with
    | [.ref p] => ∃ ns : List Int, LR h p (ns.map D.int) ∧ ns.length ≤ 4000 ∧ ∀ q S n, h q = none → (∀ k, S k = true ↔ k ∈ ns) → n ≤ ns.length → Q (.ref q) (updD h q (.iset S n))
    | _ => False
  | .range => match ds with
    | [.int j] => ∀ q, h q = none → Q (.ref q) (updD h q (.rng j))
    | _ => False
def mthD (m : Mth) (x : D) (ds : List D) (h : DH) (Q : DK) : Prop := match m with
  | .append => match ds with
    | [y] => ∃ p xs, x = .ref p ∧ h p = some (.lst xs) ∧ xs.length < sizeLine ∧ Q .non (updD h p (.lst (xs ++ [y])))
    | _ => False
  | .pop => match ds with
    | [] => ∃ p xs y, x = .ref p ∧ h p = some (.lst xs) ∧ xs[xs.length - 1]? = some y ∧ Q y (updD h p (.lst xs.dropLast))
    | _ => False
  | .extend => match ds with
    | [.ref q] => ∃ p xs ys, x = .ref p ∧ h p = some (.lst xs) ∧ h q = some (.lst ys) ∧ xs.length + ys.length ≤ sizeLine ∧ Q .non (updD h p (.lst (xs ++ ys)))
    | [.tup ys] => ∃ p xs, x = .ref p ∧ h p = some (.lst xs) ∧ xs.length + ys.length ≤ sizeLine ∧ Q .non (updD h p (.lst (xs ++ ys)))
    | _ => False
  | .get => match ds with
    | [i] => dgetD x i .non h Q
    | [i, z] => dgetD x i z h Q
    | _ => False
  | .popAt => match ds with
    | [.int i] => ∃ p xs j y, x = .ref p ∧ h p = some (.lst xs) ∧ (-(2 ^ 63) ≤ i ∧ i < 2 ^ 63) ∧ ixN xs.length i = some j ∧ xs[j]? = some y ∧ Q y (updD h p (.lst (xs.eraseIdx j)))
    | _ => False
  | .insert => match ds with
    | [.int i, y] => ∃ p xs, x = .ref p ∧ h p = some (.lst xs) ∧ xs.length < sizeLine ∧ (0 ≤ i ∧ i < 2 ^ 63) ∧ Q .non (updD h p (.lst (xs.take i.toNat ++ [y] ++ xs.drop i.toNat)))
    | _ => False
  | .setdef => match ds with
    | [i, z] => dsdefD x i z h Q
    | _ => False
  | .clear => match ds with
    | [] => dclrD x h Q
    | _ => False
/-- the receiver's kind -/
def mthT (m : Mth) (x : D) (h : DH) : Prop := match m with
  | .append => ∃ p xs, x = .ref p ∧ LR h p xs
  | .pop => ∃ p xs, x = .ref p ∧ LR h p xs
  | .extend => ∃ p xs, x = .ref p ∧ LR h p xs
  | .get => ∃ b kvs, DctAt h x b kvs
  | .popAt => ∃ p xs, x = .ref p ∧ LR h p xs
  | .insert => ∃ p xs, x = .ref p ∧ LR h p xs
  | .setdef => ∃ b kvs, DctAt h x b kvs
  | .clear => ∃ b kvs, DctAt h x b kvs
@[irreducible] def subR (p : Addr) (i : D) (h : DH) (Q : DK) : Prop := (∃ xs k v, LR h p xs ∧ i = .int k ∧ atI xs k = some v ∧ Q v h) ∨ dsubD (.ref p) i h Q
@[irreducible] def subD (x i : D) (h : DH) (Q : DK) : Prop := match x with
  | .tup xs => ∃ k v, i = .int k ∧ atI xs k = some v ∧ Q v h
  | .rl xs => ∃ k v, i = .int k ∧ atI xs k = some v ∧ Q v h
  | .str z => ∃ k c, i = .int k ∧ z.length ≤ sizeLine ∧ atI z.cps.toList k = some c ∧ Q (.str ⟨#[c]⟩) h
  | .ref p => subR p i h Q
  | _ => False
@[irreducible] def setR (p : Addr) (i v : D) (h : DH) (Q : DH → Prop) : Prop := (∃ xs k j, h p = some (.lst xs) ∧ i = .int k ∧ ixN xs.length k = some j ∧ Q (updD h p (.lst (xs.set j v)))) ∨ dputD (.ref p) i v h Q
def setD (o i v : D) (h : DH) (Q : DH → Prop) : Prop := match o with
  | .ref p => setR p i v h Q
  | _ => False
def cutL (xs : List D) (lo hi : Option Int) : List D := (xs.drop (HT.sIx xs.length 0 lo)).take (HT.sIx xs.length xs.length hi - HT.sIx xs.length 0 lo)
def sliceD (x : D) (lo hi : Option Int) (h : DH) (Q : DK) : Prop := match x with
  | .tup xs => Q (.tup (cutL xs lo hi)) h
  | .str z => z.length ≤ sizeLine ∧ Q (.str (cutS z lo hi)) h
  | .ref p => ∃ xs, LR h p xs ∧ newL h (cutL xs lo hi) Q
  | _ => False
/-- [::-1] -/
def revD (x : D) (h : DH) (Q : DK) : Prop := match x with
  | .tup xs => Q (.tup xs.reverse) h
  | .rl xs => newL h xs.reverse Q
  | .ref p => ∃ xs, LR h p xs ∧ newL h xs.reverse Q
  | _ => False
/-- a slice's part: false stands for one left out -/
def partD (b : Bool) (x : D) (k : Option Int → Prop) : Prop := match b with
  | false => k none
  | true => match x with
    | .int i => k (some i)
    | _ => False
/-- what a loop goes through: its items, what must stand at each turn -/
abbrev ItR := List D → (DH → Prop) → Prop
def pairUp : List D → List D → List D
  | x :: xs, y :: ys => .tup [x, y] :: pairUp xs ys
  | _, _ => []
def numbered : Nat → List D → List D
  | _, [] => []
  | n, x :: xs => .tup [.int (n : Int), x] :: numbered (n + 1) xs
def rangeD (lo : Int) (n : Nat) : List D := (List.range n).map fun (i : Nat) => D.int (lo + (i : Int))
def signsD (z : Str) : List D := z.cps.toList.map fun c => D.str ⟨#[c]⟩
/-- a list walked, a dict by its keys -/
@[irreducible] def itR (p : Addr) (h : DH) (R : ItR) : Prop := (∃ xs, LR h p xs ∧ R xs fun h' => LR h' p xs) ∨ (∃ b kvs o, h p = some (.dct b kvs o) ∧ R (kvs.map (·.1)) fun h' => h' p = some (.dct b kvs o)) ∨ ∃ j, h p = some (.rng j) ∧ (-(2 ^ 62) ≤ j ∧ j < 2 ^ 62) ∧ R (rangeD 0 j.toNat) fun _ => True
def itD (k : ItK) (x : D) (h : DH) (R : ItR) : Prop := match k with
  | .val => match x with
    | .tup xs => R xs fun _ => True
    | .rl xs => R xs fun _ => True
    | .str z => R (signsD z) fun _ => True
    | .ref p => itR p h R
    | _ => False
  | .range1 => match x with
    | .tup [.int j] => (-(2 ^ 62) ≤ j ∧ j < 2 ^ 62) ∧ R (rangeD 0 j.toNat) fun _ => True
    | _ => False
  | .range2 => match x with
    | .tup [.int i, .int j] => (-(2 ^ 62) ≤ i ∧ i < 2 ^ 62 ∧ -(2 ^ 62) ≤ j ∧ j < 2 ^ 62) ∧ R (rangeD i (j - i).toNat) fun _ => True
    | _ => False
  | .enum => match x with
    | .tup [.ref p] => ∃ xs, LR h p xs ∧ R (numbered 0 xs) fun h' => LR h' p xs
    | .tup [.tup xs] => R (numbered 0 xs) fun _ => True
    | _ => False
  | .zip => match x with
    | .tup [.ref p, .ref q] => ∃ xs ys, LR h p xs ∧ LR h q ys ∧ R (pairUp xs ys) fun h' => LR h' p xs ∧ LR h' q ys
    | _ => False
  | .items => match x with
    | .ref p => ∃ b kvs o, h p = some (.dct b kvs o) ∧ R (kvs.map fun kv => .tup [kv.1, kv.2]) fun h' => h' p = some (.dct b kvs o)
    | _ => False
  | .vals => match x with
    | .ref p => ∃ b kvs o, h p = some (.dct b kvs o) ∧ R (kvs.map (·.2)) fun h' => h' p = some (.dct b kvs o)
    | _ => False
/-- targets -/
def bindT : T → D → DSt → Option DSt
  | .name i, d, s => some (s.set i (some d))
  | .tup ts, d, s => match d with
    | .tup ds => bindT ts (.tup ds) s
    | _ => none
  | .nil, d, s => match d with
    | .tup [] => some s
    | _ => none
  | .cons t ts, d, s => match d with
    | .tup (x :: xs) => match bindT t x s with
      | some s1 => bindT ts (.tup xs) s1
      | none => none
    | _ => none
def permL {α : Type} (π : List Nat) (xs : List α) : List α := π.filterMap fun j => xs[j]?
/-- what a comprehension asks -/
@[irreducible] def lcD (items : List D) (inv : DH → Prop) (h : DH) (turn : D → DH → (Option D → DH → Prop) → Prop) (Q : DK) : Prop :=
  items.length ≤ sizeLine ∧ ∃ W : Nat → List D → DH → Prop, W 0 [] h ∧ (∀ i acc h, i ≤ items.length → W i acc h → inv h) ∧
    (∀ i x acc h, items[i]? = some x → W i acc h → turn x h fun r h' => match r with
      | some y => W (i + 1) (acc ++ [y]) h'
      | none => W (i + 1) acc h') ∧
    ∀ acc h, W items.length acc h → newL h acc Q
/-- a dict comprehension -/
@[irreducible] def dcD (b : Bool) (items : List D) (inv : DH → Prop) (h : DH) (turn : D → DH → (Option (D × D) → DH → Prop) → Prop) (Q : DK) : Prop :=
  ∀ p o, h p = none → ∃ W : Nat → DH → Prop, W 0 (updD h p (.dct b [] o)) ∧ (∀ i h, i ≤ items.length → W i h → inv h) ∧
    (∀ i x h, items[i]? = some x → W i h → turn x h fun r h' => match r with
      | some y => dputD (.ref p) y.1 y.2 h' fun h'' => W (i + 1) h''
      | none => W (i + 1) h') ∧
    ∀ h, W items.length h → Q (.ref p) h
/-- .. with two fors -/
@[irreducible] def dcD2 (b : Bool) (items : List D) (inv : DH → Prop) (h : DH) (turn : D → DH → (DH → Prop) → (List D → (DH → Prop) → (D → DH → (Option (D × D) → DH → Prop) → Prop) → DH → Prop) → Prop) (Q : DK) : Prop :=
  ∀ p o, h p = none → ∃ W : Nat → DH → Prop, W 0 (updD h p (.dct b [] o)) ∧ (∀ i h, i ≤ items.length → W i h → inv h) ∧
    (∀ i x h, items[i]? = some x → W i h → turn x h (W (i + 1)) fun items1 inv1 turn1 h1 => ∃ W1 : Nat → DH → Prop, W1 0 h1 ∧ (∀ j h, j ≤ items1.length → W1 j h → inv1 h) ∧
      (∀ j y h, items1[j]? = some y → W1 j h → turn1 y h fun r h' => match r with
        | some z => dputD (.ref p) z.1 z.2 h' fun h'' => W1 (j + 1) h''
        | none => W1 (j + 1) h') ∧ ∀ h, W1 items1.length h → W (i + 1) h) ∧
    ∀ h, W items.length h → Q (.ref p) h
def dmkD (b : Bool) (p : Addr) (x y : D) (h : DH) (Q : DK) : Prop := ∃ o, h p = some (.dct b [] o) ∧ keyB b x = true ∧ ∀ o', Q (.ref p) (updD h p (.dct b [(x, y)] o'))

def xE (cs : Nat → D) (Φ : Nat → Ct) (Ed : XD) : E → DSt → DH → DK → Prop
  | .var i, s, h, Q => ∃ d, s[i]? = some (some d) ∧ Q d h
  | .cst d, _, h, Q => Q d h
  | .glb j, _, h, Q => Q (cs j) h
  | .bin op a b, s, h, Q => xE cs Φ Ed a s h fun x h1 => xE cs Φ Ed b s h1 fun y h2 => binD op x y h2 Q
  | .neg a, s, h, Q => xE cs Φ Ed a s h fun x h1 => negD x h1 Q
  | .cmp op a b, s, h, Q => xE cs Φ Ed a s h fun x h1 => xE cs Φ Ed b s h1 fun y h2 => cmpD op x y h2 fun k => Q (.bl k) h2
  | .cmp2 op op' a b c, s, h, Q => xE cs Φ Ed a s h fun x h1 => xE cs Φ Ed b s h1 fun y h2 => cmpD op x y h2 fun k =>
      if k = true then xE cs Φ Ed c s h2 fun z h3 => cmpD op' y z h3 fun k' => Q (.bl k') h3 else Q (.bl false) h2
  | .dnew b, _, h, Q => dnewD b h Q
  | .dmk b k v, s, h, Q => ∀ p o, h p = none → xE cs Φ Ed k s (updD h p (.dct b [] o)) fun x h1 => xE cs Φ Ed v s h1 fun y h2 => dmkD b p x y h2 Q
  | .truth a, s, h, Q => xE cs Φ Ed a s h fun x h1 => truD x h1 fun k => Q (.bl k) h1
  | .notB a, s, h, Q => xE cs Φ Ed a s h fun x h1 => ∃ k, x = .bl k ∧ Q (.bl (!k)) h1
  | .andB a b, s, h, Q => xE cs Φ Ed a s h fun x h1 => ∃ k, x = .bl k ∧ if k = true then xE cs Φ Ed b s h1 Q else Q (.bl false) h1
  | .orB a b, s, h, Q => xE cs Φ Ed a s h fun x h1 => ∃ k, x = .bl k ∧ if k = true then Q (.bl true) h1 else xE cs Φ Ed b s h1 Q
  | .notV a, s, h, Q => xE cs Φ Ed a s h fun x h1 => truD x h1 fun k => Q (.bl (!k)) h1
  | .andV a b, s, h, Q => xE cs Φ Ed a s h fun x h1 => truD x h1 fun k => if k = true then xE cs Φ Ed b s h1 Q else Q x h1
  | .orV a b, s, h, Q => xE cs Φ Ed a s h fun x h1 => truD x h1 fun k => if k = true then Q x h1 else xE cs Φ Ed b s h1 Q
  | .ife c a b, s, h, Q => xE cs Φ Ed c s h fun x h1 => ∃ k, x = .bl k ∧ if k = true then xE cs Φ Ed a s h1 Q else xE cs Φ Ed b s h1 Q
  | .tup es, s, h, Q => xE cs Φ Ed es s h fun x h1 => ∃ ds, x = .tup ds ∧ ds.length ≤ sizeLine ∧ Q (.tup ds) h1
  | .lst es, s, h, Q => xE cs Φ Ed es s h fun x h1 => ∃ ds, x = .tup ds ∧ ds.length ≤ sizeLine ∧ newL h1 ds Q
  | .nil, _, h, Q => Q (.tup []) h
  | .cons e es, s, h, Q => xE cs Φ Ed e s h fun x h1 => xE cs Φ Ed es s h1 fun y h2 => ∃ ds, y = .tup ds ∧ Q (.tup (x :: ds)) h2
  | .sub a i, s, h, Q => xE cs Φ Ed a s h fun x h1 => xE cs Φ Ed i s h1 fun y h2 => subD x y h2 Q
  | .slice bl bh a lo hi, s, h, Q => xE cs Φ Ed a s h fun x h1 => xE cs Φ Ed lo s h1 fun y h2 => partD bl y fun l => xE cs Φ Ed hi s h2 fun z h3 => partD bh z fun u => sliceD x l u h3 Q
  | .absent, _, h, Q => Q .non h
  | .rev a, s, h, Q => xE cs Φ Ed a s h fun x h1 => revD x h1 Q
  | .sset a, s, h, Q => xE cs Φ Ed a s h fun x h1 => ssetD x h1 Q
  | .lset a, s, h, Q => xE cs Φ Ed a s h fun x h1 => lsetD x h1 Q
  | .snil, _, h, Q => Q (.tup []) h
  | .scons b e es, s, h, Q => xE cs Φ Ed e s h fun x h1 => starD b x h1 fun xs => xE cs Φ Ed es s h1 fun y h2 => ∃ ds, y = .tup ds ∧ Q (.tup (xs ++ ds)) h2
  | .call f es, s, h, Q => xE cs Φ Ed es s h fun x h1 => ∃ ds, x = .tup ds ∧ Φ f ds h1 Q Ed
  | .callK f n ks π es kes, s, h, Q => xE cs Φ Ed es s h fun x h1 => xE cs Φ Ed kes s h1 fun y h2 => ∃ ds zs, x = .tup ds ∧ y = .tup zs ∧ (ds.length = n ∧ zs.length = ks.length) ∧ Φ f (permL π (ds ++ zs)) h2 Q Ed
  | .blt b es, s, h, Q => xE cs Φ Ed es s h fun x h1 => ∃ ds, x = .tup ds ∧ bltD b ds h1 Q
  | .isi t a, s, h, Q => xE cs Φ Ed a s h fun x h1 => tyD x h1 fun u => Q (.bl (isiB u t)) h1
  | .mth m o es, s, h, Q => xE cs Φ Ed o s h fun x h1 => mthT m x h1 ∧ xE cs Φ Ed es s h1 fun y h2 => ∃ ds, y = .tup ds ∧ mthD m x ds h2 Q
  | .lc tg k src c elt own, s, h, Q => xE cs Φ Ed src s h fun x h0 => itD k x h0 fun items inv => lcD items inv h0 (fun y h1 R => ∃ s1, bindT tg y (dwipe s (own.map (·.2))) = some s1 ∧
      xE cs Φ (fun _ _ _ => False) c s1 h1 fun b h2 => ∃ k, b = .bl k ∧ if k = true then xE cs Φ (fun _ _ _ => False) elt s1 h2 fun z h3 => R (some z) h3 else R none h2) Q
  | .dc b tg k src c ke ve own, s, h, Q => xE cs Φ Ed src s h fun x h0 => itD k x h0 fun items inv => dcD b items inv h0 (fun y h1 R => ∃ s1, bindT tg y (dwipe s (own.map (·.2))) = some s1 ∧
      xE cs Φ (fun _ _ _ => False) c s1 h1 fun b h2 => ∃ k, b = .bl k ∧ if k = true then xE cs Φ (fun _ _ _ => False) ke s1 h2 fun z h3 => xE cs Φ (fun _ _ _ => False) ve s1 h3 fun w h4 => R (some (z, w)) h4 else R none h2) Q
  | .dc2 b tg k src c tg1 k1 src1 c1 ke ve own own1, s, h, Q => xE cs Φ Ed src s h fun x h0 => itD k x h0 fun items inv => dcD2 b items inv h0 (fun y h1 sk inr => ∃ s1, bindT tg y (dwipe s (own.map (·.2))) = some s1 ∧
      xE cs Φ (fun _ _ _ => False) c s1 h1 fun b h2 => ∃ k, b = .bl k ∧ if k = true then xE cs Φ (fun _ _ _ => False) src1 s1 h2 fun x1 h3 => itD k1 x1 h3 fun items1 inv1 => inr items1 inv1 (fun y1 h4 R => ∃ s2, bindT tg1 y1 (dwipe s1 (own1.map (·.2))) = some s2 ∧
        xE cs Φ (fun _ _ _ => False) c1 s2 h4 fun b h5 => ∃ k, b = .bl k ∧ if k = true then xE cs Φ (fun _ _ _ => False) ke s2 h5 fun z h6 => xE cs Φ (fun _ _ _ => False) ve s2 h6 fun w h7 => R (some (z, w)) h7 else R none h5) h3 else sk h2) Q

structure DEnds where
  nx : DSt → DH → Prop
  rt : DK
  bk : DSt → DH → Prop := fun _ _ => False
  ct : DSt → DH → Prop := fun _ _ => False
@[irreducible] def forD (items : List D) (inv : DH → Prop) (s : DSt) (h : DH) (turn : D → (DSt → DH → Prop) → DSt → DH → Prop) (nx : DSt → DH → Prop) : Prop :=
  ∃ W : Nat → DSt → DH → Prop, W 0 s h ∧ (∀ i s h, i ≤ items.length → W i s h → inv h) ∧
    (∀ i x s h, items[i]? = some x → W i s h → turn x (W (i + 1)) s h) ∧ ∀ s h, W items.length s h → nx s h
@[irreducible] def whileD (test : DSt → DH → DK → Prop) (turn : (DSt → DH → Prop) → DSt → DH → Prop) (nx : DSt → DH → Prop) (s : DSt) (h : DH) : Prop :=
  ∃ W : Nat → DSt → DH → Prop, (∃ m, W m s h) ∧ ∀ m s h, W m s h → test s h fun x h1 => ∃ k, x = .bl k ∧
    if k = true then turn (fun s' h' => ∃ m', m' < m ∧ W m' s' h') s h1 else nx s h1
/-- a callee's contract, asked: opened by ask_mk alone -/
@[irreducible] def ask (c : Ct) : Ct := c
theorem ask_mk {c : Ct} {ds : List D} {h : DH} {Q : DK} {E : XD} (q : c ds h Q E) : ask c ds h Q E := by unfold ask; exact q
theorem ask_el {c : Ct} {ds : List D} {h : DH} {Q : DK} {E : XD} (q : ask c ds h Q E) : c ds h Q E := by unfold ask at q; exact q
def xS (cs : Nat → D) (Φ : Nat → Ct) (Ed : XD) : S → DEnds → DSt → DH → Prop
  | .skip, N, s, h => N.nx s h
  | .doc, N, s, h => N.nx s h
  | .seq a b, N, s, h => xS cs Φ Ed a { N with nx := xS cs Φ Ed b N } s h
  | .asg t e, N, s, h => xE cs Φ Ed e s h fun x h1 => ∃ s1, bindT t x s = some s1 ∧ N.nx s1 h1
  | .asgSub o i e, N, s, h => xE cs Φ Ed e s h fun x h1 => xE cs Φ Ed o s h1 fun y h2 => xE cs Φ Ed i s h2 fun z h3 => setD y z x h3 fun h4 => N.nx s h4
  | .asgPar i j es, N, s, h => xE cs Φ Ed es s h fun x h1 => ∃ v w, x = .tup [v, w] ∧ N.nx ((s.set i (some v)).set j (some w)) h1
  | .aug i op e, N, s, h => ∃ d, s[i]? = some (some d) ∧ xE cs Φ Ed e s h fun x h1 => augD op d x h1 fun z h2 => N.nx (s.set i (some z)) h2
  | .expr e, N, s, h => xE cs Φ Ed e s h fun _ h1 => N.nx s h1
  | .ret e, N, s, h => xE cs Φ Ed e s h N.rt
  | .retN, N, _, h => N.rt .non h
  | .ite c a b, N, s, h => xE cs Φ Ed c s h fun x h1 => ∃ k, x = .bl k ∧ if k = true then xS cs Φ Ed a N s h1 else xS cs Φ Ed b N s h1
  | .iteW i e a b, N, s, h => xE cs Φ Ed e s h fun x h1 => if (!isNon x) = true then xS cs Φ Ed a N (s.set i (some x)) h1 else xS cs Φ Ed b N (s.set i (some x)) h1
  | .for_ t k src b, N, s, h => xE cs Φ Ed src s h fun x h1 => itD k x h1 fun items inv => forD items inv s h1 (fun y nx s h => ∃ s1, bindT t y s = some s1 ∧ xS cs Φ Ed b { N with nx := nx, ct := nx, bk := N.nx } s1 h) N.nx
  | .while_ c b, N, s, h => whileD (fun s h Q => xE cs Φ Ed c s h Q) (fun nx s h => xS cs Φ Ed b { N with nx := nx, ct := nx, bk := N.nx } s h) N.nx s h
  | .brk, N, s, h => N.bk s h
  | .cnt, N, s, h => N.ct s h
/-- the three loops, opened -/
theorem lc_mk {items : List D} {inv : DH → Prop} {h : DH} {turn : D → DH → (Option D → DH → Prop) → Prop} {Q : DK} (W : Nat → List D → DH → Prop) (hz : items.length ≤ sizeLine) (h0 : W 0 [] h) (hi : ∀ i acc h, i ≤ items.length → W i acc h → inv h)
    (hs : ∀ i x acc h, items[i]? = some x → W i acc h → turn x h fun r h' => match r with
      | some y => W (i + 1) (acc ++ [y]) h'
      | none => W (i + 1) acc h') (hd : ∀ acc h, W items.length acc h → newL h acc Q) : lcD items inv h turn Q := by
  unfold lcD
  exact ⟨hz, W, h0, hi, hs, hd⟩
theorem dc_mk {b : Bool} {items : List D} {inv : DH → Prop} {h : DH} {turn : D → DH → (Option (D × D) → DH → Prop) → Prop} {Q : DK} (k : ∀ p o, h p = none → ∃ W : Nat → DH → Prop, W 0 (updD h p (.dct b [] o)) ∧ (∀ i h, i ≤ items.length → W i h → inv h) ∧
    (∀ i x h, items[i]? = some x → W i h → turn x h fun r h' => match r with
      | some y => dputD (.ref p) y.1 y.2 h' fun h'' => W (i + 1) h''
      | none => W (i + 1) h') ∧
    ∀ h, W items.length h → Q (.ref p) h) : dcD b items inv h turn Q := by
  unfold dcD
  exact k
theorem dc2_mk {b : Bool} {items : List D} {inv : DH → Prop} {h : DH} {turn : D → DH → (DH → Prop) → (List D → (DH → Prop) → (D → DH → (Option (D × D) → DH → Prop) → Prop) → DH → Prop) → Prop} {Q : DK} (k : ∀ p o, h p = none → ∃ W : Nat → DH → Prop, W 0 (updD h p (.dct b [] o)) ∧ (∀ i h, i ≤ items.length → W i h → inv h) ∧
    (∀ i x h, items[i]? = some x → W i h → turn x h (W (i + 1)) fun items1 inv1 turn1 h1 => ∃ W1 : Nat → DH → Prop, W1 0 h1 ∧ (∀ j h, j ≤ items1.length → W1 j h → inv1 h) ∧
      (∀ j y h, items1[j]? = some y → W1 j h → turn1 y h fun r h' => match r with
        | some z => dputD (.ref p) z.1 z.2 h' fun h'' => W1 (j + 1) h''
        | none => W1 (j + 1) h') ∧ ∀ h, W1 items1.length h → W (i + 1) h) ∧
    ∀ h, W items.length h → Q (.ref p) h) : dcD2 b items inv h turn Q := by
  unfold dcD2
  exact k
theorem for_mk {items : List D} {inv : DH → Prop} {s : DSt} {h : DH} {turn : D → (DSt → DH → Prop) → DSt → DH → Prop} {nx : DSt → DH → Prop} (W : Nat → DSt → DH → Prop) (h0 : W 0 s h) (hi : ∀ i s h, i ≤ items.length → W i s h → inv h)
    (hs : ∀ i x s h, items[i]? = some x → W i s h → turn x (W (i + 1)) s h) (hd : ∀ s h, W items.length s h → nx s h) : forD items inv s h turn nx := by
  unfold forD
  exact ⟨W, h0, hi, hs, hd⟩
theorem while_mk {test : DSt → DH → DK → Prop} {turn : (DSt → DH → Prop) → DSt → DH → Prop} {nx : DSt → DH → Prop} {s : DSt} {h : DH} (W : Nat → DSt → DH → Prop) (m : Nat) (h0 : W m s h)
    (hs : ∀ m s h, W m s h → test s h fun x h1 => ∃ k, x = .bl k ∧ if k = true then turn (fun s' h' => ∃ m', m' < m ∧ W m' s' h') s h1 else nx s h1) : whileD test turn nx s h := by
  unfold whileD
  exact ⟨W, ⟨m, h0⟩, hs⟩
end DL
/-! ## 3a. Tuples at the machine: * 0, * 1, [::-1] -/
namespace DL
open PySem PySem.Spec PyProof.Rows L2
theorem tuple_mul1 (l : Addr) (items : Array Value) (n : Nat) (dd : Option Addr) (sl : Array (Option Value)) (u : Tok) :
    Meets (Builtin.«tuple.__mul__» ⟨[.ref l, .int 1 u], []⟩) (fun _ R s => s.heap.get? l = some { cls := .type "tuple", dict := dd, data := .seq items n, slots := sl } ∧
      R (.ok (.ret (Value.ref l))) s) :=
  .of_wp fun prog w A R s h => by
    obtain ⟨hp, g, d, tk, os⟩ := s
    obtain ⟨hl, h⟩ := h
    have f1 := AutoSeq1.idx_int
    have c0 : (decide ((1 : Int) < -(2 ^ 63)) || decide ((1 : Int) ≥ 2 ^ 63)) = false := by decide
    have c1 : (items.isEmpty || (1 : Int) == 1) = true := by simp
    wp_walk using wpAny_loadPart' hl
    repeat (first
      | (refine wpAny_ite_false (decide_eq_false (by rw [c0]; exact Bool.false_ne_true)) ?_; wp_walk using wpAny_loadPart' hl)
      | (refine wpAny_ite_true (decide_eq_true (by rw [c1])) ?_; wp_walk using wpAny_loadPart' hl))
    exact ⟨_, rfl, h⟩
theorem tuple_mul0 (l : Addr) (items : Array Value) (n : Nat) (dd : Option Addr) (sl : Array (Option Value)) (u : Tok) (hne : items.isEmpty = false) :
    Meets (Builtin.«tuple.__mul__» ⟨[.ref l, .int 0 u], []⟩) (fun _ R s => s.heap.get? l = some { cls := .type "tuple", dict := dd, data := .seq items n, slots := sl } ∧
      R (.ok (.ret (Value.ref s.heap.objs.size))) { s with heap := s.heap.push { cls := Value.type "tuple", data := Data.seq #[] }, toks := s.toks }) :=
  .of_wp fun prog w A R s h => by
    obtain ⟨hp, g, d, tk, os⟩ := s
    obtain ⟨hl, h⟩ := h
    have f1 := AutoSeq1.idx_int
    have c0 : (decide ((0 : Int) < -(2 ^ 63)) || decide ((0 : Int) ≥ 2 ^ 63)) = false := by decide
    have c1 : (items.isEmpty || (0 : Int) == 1) = false := by rw [hne]; decide
    have c2 : (decide ((0 : Int) ≤ 0) || items.isEmpty) = true := by simp
    wp_walk using wpAny_loadPart' hl
    repeat (first
      | (refine wpAny_ite_false (decide_eq_false (by rw [c0]; exact Bool.false_ne_true)) ?_; wp_walk using wpAny_loadPart' hl)
      | (refine wpAny_ite_false (decide_eq_false (by rw [c1]; exact Bool.false_ne_true)) ?_; wp_walk using wpAny_loadPart' hl)
      | (refine wpAny_ite_true (decide_eq_true (by rw [c2])) ?_; wp_walk using wpAny_loadPart' hl))
    exact ⟨_, rfl, h⟩
def rRep01 (K : PySem.W.Frag) : R2 := fun x y H Q => ∃ l k xs, x = .ref l ∧ y = .int k ∧ SqT K H l xs ∧ xs ≠ [] ∧ ((k = 1 ∧ Q (.ref l) H) ∨ (k = 0 ∧ ∀ p, H p = none → Q (.ref p) (upd H p (.tup []))))
variable {X : Cx}
theorem op_rep01 : OpR X (binaryOp .Mult) (rRep01 X.K) := by
  intro pins s σ H x y v u Q I rx ry h
  obtain ⟨l, k, xs, rfl, rfl, hT, hne, h⟩ := h
  cases rx
  obtain ⟨t, rfl⟩ := ry
  obtain ⟨its, r, ⟨⟨cls, dd, data, sl⟩, ho, hc, n, hd⟩, hs⟩ := I.tuple hT
  simp only at hc hd
  subst hc hd
  have hi : its.toArray.isEmpty = false := by
    cases its with
    | nil => exact absurd (List.eq_nil_of_length_eq_zero r.length) hne
    | cons a b => rfl
  rcases h with ⟨rfl, q⟩ | ⟨rfl, q⟩
  · refine wpAny_binaryOp_repeat_ref (T := "tuple") (U := "int") (by decide) ⟨_, ho, rfl⟩ (fun s' => typeIs_int s' 1 t) noFill_tuple_mul PySem.F.fills_int_mul PySem.F.slot_int_rmul repeat_tuple PySem.F.slot_int_index.lookup
      (call_meets PySem.F.slot_int_rmul (typeIs_int s 1 t) PySem.F.entry_int_rmul (PySem.F.args_int_rmul_2 _ _) (int_rmul_tuple 1 t l its.toArray n dd sl)
        ⟨ho, rfl, ⟨_, ho, rfl⟩, call_meets PySem.F.slot_tuple_mul ⟨_, ho, rfl⟩ PySem.F.entry_tuple_mul (PySem.F.args_tuple_mul_2 _ _) (tuple_mul1 l its.toArray n dd sl t) ⟨ho, ?_⟩⟩)
    exact ⟨.ref l, H, I, rfl, q⟩
  · refine wpAny_binaryOp_repeat_ref (T := "tuple") (U := "int") (by decide) ⟨_, ho, rfl⟩ (fun s' => typeIs_int s' 0 t) noFill_tuple_mul PySem.F.fills_int_mul PySem.F.slot_int_rmul repeat_tuple PySem.F.slot_int_index.lookup
      (call_meets PySem.F.slot_int_rmul (typeIs_int s 0 t) PySem.F.entry_int_rmul (PySem.F.args_int_rmul_2 _ _) (int_rmul_tuple 0 t l its.toArray n dd sl)
        ⟨ho, rfl, ⟨_, ho, rfl⟩, call_meets PySem.F.slot_tuple_mul ⟨_, ho, rfl⟩ PySem.F.entry_tuple_mul (PySem.F.args_tuple_mul_2 _ _) (tuple_mul0 l its.toArray n dd sl t hi) ⟨ho, ?_⟩⟩)
    refine ⟨.ref s.heap.objs.size, _, I.laid (t' := s.toks) (o := .tup []) (fun b ob q => Heap.get?_push_of_some _ q) (Nat.le_refl _) ?_, rfl, q _ (I.hok.fresh (Nat.le_refl _))⟩
    exact ⟨by simp, _, .nil, IsTup.new _ _⟩
/-! ### t[::-1] -/
section
variable {prog : Program} {w : World} {A : Around} {E : Value → Shared → Prop} {s : Shared}
theorem sliceApplied_rev {sl : Addr} {vl vu vs : Value} {n : Nat} {Q : Int × Int × Nat → Shared → Prop} (hs : s.heap.IsSliceOf sl vl vu vs) (pl : IsPart vl none) (pu : IsPart vu none) (ps : IsPart vs (some (-1)))
    (h : Q ((n : Int) - 1, -1, n) s) : wpAny (model prog w) A (Builtin.Slice.sliceApplied (.ref sl) (pure (n : Int))) Q E s := by
  obtain ⟨os, hos, hcs, hds⟩ := id hs
  unfold Builtin.Slice.sliceApplied Builtin.Slice.sliceFields
  refine wpAny_bind (wpAny_bind (wpAny_field hos hds (x := vl) rfl (wpAny_bind (wpAny_field hos hds (x := vu) rfl (wpAny_bind (wpAny_field hos hds (x := vs) rfl (wpAny_pure ?_)))))))
  refine wpAny_bind (HT.slicePart_ ps ?_)
  show wpAny _ _ (if ((-1 : Int) == 0) = true then _ else _) _ _ s
  rw [if_neg (by decide)]
  refine wpAny_bind (HT.slicePart_ pl (wpAny_bind (HT.slicePart_ pu (wpAny_bind (wpAny_pure ?_)))))
  show wpAny _ _ (match Builtin.Slice.sliceAdjust none none (-1) (n : Int) with | (lo, hi) => pure (lo, (-1 : Int), Builtin.Slice.slicePlaces lo hi (-1))) _ _ s
  have e1 : Builtin.Slice.sliceAdjust none none (-1) (n : Int) = ((n : Int) - 1, -1) := by
    unfold Builtin.Slice.sliceAdjust; rfl
  rw [e1]
  show wpAny _ _ (pure ((n : Int) - 1, (-1 : Int), Builtin.Slice.slicePlaces ((n : Int) - 1) (-1) (-1))) _ _ s
  have e2 : Builtin.Slice.slicePlaces ((n : Int) - 1) (-1) (-1) = n := by
    unfold Builtin.Slice.slicePlaces
    have h1 : ¬ ((-1 : Int) > 0) := by omega
    simp only [h1, if_false, Int.neg_neg, Int.ediv_one]
    split <;> omega
  rw [e2]
  exact wpAny_pure h
theorem fm_map {α β : Type} {f : α → Option β} {g : α → β} : ∀ {l : List α}, (∀ m ∈ l, f m = some (g m)) → l.filterMap f = l.map g
  | [], _ => rfl
  | a :: l, h => by rw [List.filterMap_cons, h a List.mem_cons_self, List.map_cons, fm_map fun m hm => h m (List.mem_cons_of_mem _ hm)]
theorem pick_rev (xs : Array Value) : ((List.range xs.size).filterMap fun (m : Nat) => xs[(((xs.size : Int) - 1) + (m : Int) * (-1)).toNat]?).toArray = xs.toList.reverse.toArray := by
  congr 1
  refine List.ext_getElem? fun i => ?_
  have e : (List.range xs.size).filterMap (fun (m : Nat) => xs[(((xs.size : Int) - 1) + (m : Int) * (-1)).toNat]?) = (List.range xs.size).map fun m => xs.getD (xs.size - 1 - m) .none := by
    refine fm_map fun m hm => ?_
    have hm' := List.mem_range.1 hm
    have : (((xs.size : Int) - 1) + (m : Int) * (-1)).toNat = xs.size - 1 - m := by omega
    rw [this]
    rw [Array.getD_eq_getD_getElem?, Array.getElem?_eq_getElem (by omega)]
    rfl
  rw [e, List.getElem?_map]
  by_cases hi : i < xs.size
  · rw [List.getElem?_range hi, List.getElem?_reverse (by simpa using hi)]
    simp only [Option.map_some, Array.length_toList, Array.getElem?_toList]
    rw [Array.getD_eq_getD_getElem?, Array.getElem?_eq_getElem (by omega)]
    rfl
  · rw [List.getElem?_eq_none (by simpa using hi), List.getElem?_eq_none (by simpa using hi)]
    rfl
theorem getItem_tuple_rev {t sl : Addr} {items : Array Value} {vl vu vs : Value} {Q : Value → Shared → Prop} (ht : IsTup s.heap t items) (hs : s.heap.IsSliceOf sl vl vu vs) (pl : IsPart vl none) (pu : IsPart vu none) (ps : IsPart vs (some (-1)))
    (h : Q (.ref s.heap.objs.size) { s with heap := s.heap.push { cls := .type "tuple", data := .seq items.toList.reverse.toArray } })
    (hsz : items.size ≤ sizeLine) : wpAny (model prog w) A (getItem (.ref t) (.ref sl)) Q E s := by
  have htake : sizeOk (.seq items.toList.reverse.toArray) := by
    show items.toList.reverse.toArray.size ≤ sizeLine
    simpa using hsz
  obtain ⟨os, hos, hcs, hds⟩ := id hs
  have hTs : s.TypeIs (.ref sl) "slice" := ⟨os, hos, hcs⟩
  unfold getItem
  try with_reducible refine wpAny_holding ?_
  first | refine wpAny_bind (wpAny_pure ?_) | skip
  refine wpAny_bind (wpAny_sequenceKey ht.typeIs (by decide) ?_)
  refine wpAny_bind (wpAny_callSpecial?_slot (name := Str.ofString "__getitem__") ht.typeIs PyProof.Rows.slot_tuple_getitem
    (wpAny_call_entry PyProof.Rows.slot_tuple_getitem ht.typeIs entry_tuple_getitem ?_ (args_tuple_getitem _ _)))
  show wpAny _ _ (Builtin.Tuple.tupleItemsOf (.ref t) >>= _) _ _ s
  refine wpAny_bind (tupleItemsOf_ ht ?_)
  refine wpAny_bind (wpAny_typeOf hTs ?_)
  rw [if_pos (by decide)]
  refine wpAny_bind (sliceApplied_rev hs pl pu ps ?_)
  have hno : ¬ ((((items.size : Int) - 1) == 0 && (-1 : Int) == 1 && items.size == items.size) = true) := by
    intro q
    rw [Bool.and_eq_true, Bool.and_eq_true] at q
    exact absurd q.1.2 (by decide)
  show wpAny _ _ (if (((items.size : Int) - 1) == 0 && (-1 : Int) == 1 && items.size == items.size) = true then _ else _) _ _ s
  rw [if_neg hno, pick_rev]
  first
    | exact wpAny_bind (m := Builtin.Tuple.tupleExact _) (wpAny_newObj_type (wpAny_pure ⟨_, rfl, wpAny_pure h⟩) htake)
    | exact wpAny_bind (m := Builtin.Tuple.tupleExact _) (wpAny_newObj_type (wpAny_bind (wpAny_pure (wpAny_pure ⟨_, rfl, wpAny_pure h⟩))) htake)
    | exact wpAny_bind (wpAny_bind (m := Builtin.Tuple.tupleExact _) (wpAny_newObj_type (wpAny_pure (wpAny_pure ⟨_, rfl, wpAny_pure h⟩)) htake))
    | exact wpAny_bind (wpAny_bind (m := Builtin.Tuple.tupleExact _) (wpAny_newObj_type (wpAny_pure ⟨_, rfl, wpAny_pure h⟩) htake))
end
def tRevT (K : PySem.W.Frag) (te : TE) : TE := fun σ H Q => te σ H fun x H1 => ∃ a xs, x = .ref a ∧ ((SqL K H1 a xs ∧ ∀ p, H1 p = none → Q (.ref p) (upd H1 p (.lst xs.reverse))) ∨ (SqT K H1 a xs ∧ ∀ p, H1 p = none → Q (.ref p) (upd H1 p (.tup xs.reverse))))
theorem pe_revT {e : Expr} {te : TE} {k : Nat} {p1 p2 p3 pos : Pos} (he : PE X e te) : PE X (.Subscript e (.Slice none none (some (.UnaryOp .USub (.Constant (.int 1) k p1) p2)) p3) pos) (tRevT X.K te) := by
  refine ⟨fun pins s σ H Q I h => ?_⟩
  refine Subscript_ (thn (he.run pins s σ H _ I h) fun v s1 ⟨x, H1, I1, r1, q1⟩ => ?_)
  obtain ⟨a, xs, ex, q⟩ := q1
  subst ex
  cases r1
  have hst : PO X (some (.UnaryOp .USub (.Constant (.int 1) k p1) p2)) (tPart (tUn (rU fun i => .int (-i)) (tC (.int 1)))) := po_some (pe_un un_neg pe_int)
  refine wpAny_Slice (thn (po_none.run pins s1 σ H1 (fun o H2 => o = none ∧ H2 = H1) I1 ⟨rfl, rfl⟩) fun vl s2 ⟨l, H2, I2, pl, el, e2⟩ => ?_)
  subst el e2
  refine thn (po_none.run pins s2 σ H2 (fun o H3 => o = none ∧ H3 = H2) I2 ⟨rfl, rfl⟩) fun vu s3 ⟨u, H3, I3, pu, eu, e3⟩ => ?_
  subst eu e3
  refine thn (hst.run pins s3 σ H3 (fun o H4 => o = some (-1) ∧ H4 = H3) I3 ⟨1, rfl, -1, rfl, rfl, rfl⟩) fun vs s4 ⟨o, H4, I4, ps, eo, e4⟩ => ?_
  subst eo e4
  have I5 : Inv X pins σ H4 { s4 with heap := s4.heap.push { cls := .type "slice", data := .fields #[vl, vu, vs] } } := I4.kept (t' := s4.toks) fun b ob q => Heap.get?_push_of_some _ q
  show wpAny (model X.prog X.w) X.A (subscriptTail e (.Slice none none (some (.UnaryOp .USub (.Constant (.int 1) k p1) p2)) p3) (.ref a) (.ref s4.heap.objs.size)) (EP X pins σ Q) X.xe { s4 with heap := s4.heap.push { cls := .type "slice", data := .fields #[vl, vu, vs] } }
  rcases q with ⟨hx, q⟩ | ⟨hx, q⟩
  · obtain ⟨its, r, ht, hz⟩ := I5.list hx
    have hlen := r.length
    refine tail_any (ops := [.ref a, .ref s4.heap.objs.size]) ht.isList.typeIs (PySem.slot_list_getitem.lookup) ?_ (by with_unfolding_all rfl)
    refine wpAny_getItem_list_slice ht.isList (Heap.IsSliceOf.new _ vl vu vs) pl pu ps (by decide) ?_ (by rw [List.size_toArray]; omega)
    rw [PySem.W.krv_pick]
    refine ⟨.ref _, _, I5.laid (t' := s4.toks) (o := .lst xs.reverse) (fun b ob q => Heap.get?_push_of_some _ q) (Nat.le_refl _) ?_, rfl, q _ (I5.hok.fresh (Nat.le_refl _))⟩
    exact ⟨by rw [List.length_reverse]; exact hz, _, 0, r.reverse, Heap.get?_push_size _ rfl⟩
  · obtain ⟨its, r, ht, hz⟩ := I5.tuple hx
    have hlen := r.length
    refine tail_any (ops := [.ref a, .ref s4.heap.objs.size]) ht.typeIs (PyProof.Rows.slot_tuple_getitem.lookup) ?_ (by with_unfolding_all rfl)
    refine getItem_tuple_rev ht (Heap.IsSliceOf.new _ vl vu vs) pl pu ps ?_ (by rw [List.size_toArray]; omega)
    refine ⟨.ref _, _, I5.laid (t' := s4.toks) (o := .tup xs.reverse) (fun b ob q => Heap.get?_push_of_some _ q) (Nat.le_refl _) ?_, rfl, q _ (I5.hok.fresh (Nat.le_refl _))⟩
    exact ⟨by rw [List.length_reverse]; exact hz, _, r.reverse, IsTup.new _ _⟩
end DL
namespace DL
open PySem PySem.Spec L2 PyProof.Rows

/-! ## dicts at the machine -/
section
variable {X : Cx} {pins : List (Addr × Obj)} {σ : L2.St} {H : Hp} {s : Shared} {h : DH}
mutual
theorem nest_of (I : Inv X pins σ H s) : ∀ (d : D) (n : NestedKey) (v : V) (u : Value), nkey d = some n → RD X.kw H d v → RelV v u → NestedIs s.heap n u
  | .non, n, v, u, e, r, q => by
    cases r
    simp only [nkey, Option.some.injEq] at e
    subst e
    cases (show u = Value.none from q)
    exact .none
  | .int i, n, v, u, e, r, q => by
    cases r
    simp only [nkey, Option.some.injEq] at e
    subst e
    obtain ⟨t, rfl⟩ := (show ∃ t, u = Value.int i t from q)
    exact .int _ _
  | .bl b, n, v, u, e, r, q => by
    cases r
    simp only [nkey, Option.some.injEq] at e
    subst e
    cases (show u = Value.bool b from q)
    exact .bool rfl
  | .str x, n, v, u, e, r, q => by
    cases r
    simp only [nkey, Option.some.injEq] at e
    subst e
    obtain ⟨t, rfl⟩ := (show ∃ t, u = Value.str x t from q)
    exact .text _ _
  | .tup ds, n, v, u, e, r, q => by
    cases r with | tup sq rs =>
    simp only [nkey] at e
    cases e1 : nkeys ds with
    | none => rw [e1] at e; cases e
    | some ks =>
      rw [e1] at e
      cases e
      obtain ⟨its, rv, ⟨o, ho, hc, n, hd⟩, _⟩ := I.tuple sq
      cases (show u = Value.ref _ from q)
      exact .tup ho hc hd (nests_of I ds ks _ _ e1 rs rv)
  | .ref _, _, _, _, e, _, _ => by simp [nkey] at e
  | .rl _, _, _, _, e, _, _ => by simp [nkey] at e
  | .ty _, _, _, _, e, _, _ => by simp [nkey] at e
theorem nests_of (I : Inv X pins σ H s) : ∀ (ds : List D) (ns : List NestedKey) (vs : List V) (us : List Value), nkeys ds = some ns → RDs X.kw H ds vs → Vals vs us → NestedAll s.heap ns us
  | [], ns, vs, us, e, r, q => by
    cases r
    simp only [nkeys, Option.some.injEq] at e
    subst e
    cases q
    exact .nil
  | d :: ds, ns, vs, us, e, r, q => by
    cases r with | cons r rs =>
    cases q with | cons q qs =>
    simp only [nkeys] at e
    cases e1 : nkey d with
    | none => rw [e1] at e; cases e
    | some k =>
      cases e2 : nkeys ds with
      | none => rw [e1, e2] at e; cases e
      | some ks =>
        rw [e1, e2] at e
        cases e
        exact .cons (nest_of I d k _ _ e1 r q) (nests_of I ds ks _ _ e2 rs qs)
end
theorem dct_obj (I : Inv X pins σ H s) {a : Addr} {o : Obj} (e : H a = some (PinO a o)) : s.heap.get? a = some o := (I.hok a _ e).1
/-- what the pairs are to the machine: keys that are tuples -/
abbrev PairT (K : KW) (H : Hp) : D × D → NestedKey × Addr × Value → Prop := fun p q => nkey p.1 = some q.1 ∧ RD K H p.1 (.ref q.2.1) ∧ ∃ v, RD K H p.2 v ∧ RelV v q.2.2
theorem dct_keyed (I : Inv X pins σ H s) {a : Addr} {kvs : List (D × D)} {o : Obj} (e : H a = some (PinO a o)) (r : DctO X.kw H a true kvs o) :
    ∃ xs, s.heap.DictOfH (nestedKind X.prog X.w) a xs ∧ Paired (PairT X.kw H) kvs xs := by
  obtain ⟨es, ep, hd, pr⟩ := r.ex
  have go : ∀ (kvs : List (D × D)) (es : List DictEntry), Paired (Ent X.kw H true) kvs es → ∃ xs : List (NestedKey × Addr × Value), es = xs.map (entryOfKey (nestedKind X.prog X.w)) ∧ (∀ x ∈ xs, (nestedKind X.prog X.w).is s.heap x.1 x.2.1) ∧
      (xs.map fun x => some x.1) = kvs.map (fun kv => nkey kv.1) ∧ Paired (PairT X.kw H) kvs xs := by
    intro kvs es pr
    induction pr with
    | nil => exact ⟨[], rfl, by simp, rfl, .nil⟩
    | @cons kv e kvs es q _ ih =>
      obtain ⟨xs, h1, h2, h3, h4⟩ := ih
      obtain ⟨n, b, v, e1, e2, e3, e4, e5, e6, e7⟩ := q.ex
      refine ⟨(n, b, e.val) :: xs, ?_, ?_, ?_, .cons ⟨e1, e5, v, e6, e7⟩ h4⟩
      · rw [List.map_cons, ← h1]
        congr 1
        cases e
        simp only at e3 e4
        subst e3 e4
        rfl
      · intro x hx
        rcases List.mem_cons.mp hx with rfl | hx
        · exact ⟨nest_of I _ _ _ _ e1 e5 rfl, e2⟩
        · exact h2 x hx
      · simp [h3, e1]
  obtain ⟨xs, h1, h2, h3, h4⟩ := go kvs es.toList pr
  refine ⟨xs, ⟨o, es, ep, dct_obj I e, r.exact_, hd, h1, h2, ?_⟩, h4⟩
  have nd := r.nd
  rw [← h3, show (fun x : NestedKey × Addr × Value => some x.1) = some ∘ (·.1) from rfl, ← List.map_map] at nd
  exact List.Pairwise.of_map some (fun a b hne e => hne (congrArg some e)) nd
/-- .. that are ints and texts -/
abbrev PairL (K : KW) (H : Hp) : D × D → Key × Value → Prop := fun p q => leafD p.1 = some q.1 ∧ ∃ v, RD K H p.2 v ∧ RelV v q.2
theorem leaf_nkey {d : D} {l : Key} (e : leafD d = some l) : nkey d = some (match l with | .inl i => .num i | .inr x => .text x) := by
  cases d <;> simp [leafD] at e <;> subst e <;> rfl
theorem leaf_inj {d e : D} {l m : Key} (h1 : leafD d = some l) (h2 : leafD e = some m) : nkey d = nkey e ↔ l = m := by
  rw [leaf_nkey h1, leaf_nkey h2]
  cases l <;> cases m <;> simp
theorem dct_leafs (I : Inv X pins σ H s) {a : Addr} {kvs : List (D × D)} {o : Obj} (e : H a = some (PinO a o)) (r : DctO X.kw H a false kvs o) :
    ∃ xs, s.heap.DictOf (mixKind X.prog X.w) a xs ∧ Paired (PairL X.kw H) kvs xs := by
  obtain ⟨es, ep, hd, pr⟩ := r.ex
  have go : ∀ (kvs : List (D × D)) (es : List DictEntry), Paired (Ent X.kw H false) kvs es → ∃ xs : List (Key × Value), Pairs (mixKind X.prog X.w) es xs ∧ (∀ e ∈ es, ∃ k, (mixKind X.prog X.w).is k e.key = true ∧ e.hash = (mixKind X.prog X.w).hash k) ∧
      (∀ x ∈ xs, ∃ kv ∈ kvs, leafD kv.1 = some x.1) ∧ Paired (PairL X.kw H) kvs xs := by
    intro kvs es pr
    induction pr with
    | nil => exact ⟨[], .nil, by simp, by simp, .nil⟩
    | @cons kv e kvs es q _ ih =>
      obtain ⟨xs, h1, h2, h3, h4⟩ := ih
      obtain ⟨l, v, e1, e2, e3, e4, e5⟩ := q.ex
      refine ⟨(l, e.val) :: xs, .cons e3 rfl h1, ?_, ?_, .cons ⟨e1, v, e4, e5⟩ h4⟩
      · intro x hx
        rcases List.mem_cons.mp hx with rfl | hx
        · exact ⟨l, e3, e2⟩
        · exact h2 x hx
      · intro x hx
        rcases List.mem_cons.mp hx with rfl | hx
        · exact ⟨kv, List.mem_cons_self, e1⟩
        · obtain ⟨kv', m, z⟩ := h3 x hx
          exact ⟨kv', List.mem_cons_of_mem _ m, z⟩
  obtain ⟨xs, h1, h2, h3, h4⟩ := go kvs es.toList pr
  refine ⟨xs, ⟨o, es, ep, dct_obj I e, r.exact_, hd, fun e he => h2 e (by simpa using he), h1, ?_⟩, h4⟩
  -- no key twice
  have nd := r.nd
  have key : ∀ (kvs : List (D × D)) (xs : List (Key × Value)), Paired (PairL X.kw H) kvs xs → (kvs.map fun kv => nkey kv.1).Nodup → (xs.map (·.1)).Nodup := by
    intro kvs xs p
    induction p with
    | nil => intro _; exact List.nodup_nil
    | @cons kv x kvs xs q t ih =>
      intro nd
      rw [List.map_cons, List.nodup_cons] at nd ⊢
      refine ⟨fun hm => nd.1 ?_, ih nd.2⟩
      obtain ⟨y, hy, ey⟩ := List.mem_map.mp hm
      obtain ⟨kv', hk, q'⟩ : ∃ kv' ∈ kvs, PairL X.kw H kv' y := by
        clear ih nd hm
        induction t with
        | nil => cases hy
        | @cons a b as bs u _ ih2 =>
          rcases List.mem_cons.mp hy with rfl | hy
          · exact ⟨a, List.mem_cons_self, u⟩
          · obtain ⟨z, m, w⟩ := ih2 hy; exact ⟨z, List.mem_cons_of_mem _ m, w⟩
      refine List.mem_map.mpr ⟨kv', hk, ?_⟩
      exact (leaf_inj q'.1 q.1).mpr ey
  exact key _ _ h4 nd
/-- what is found -/
theorem find_T {K : KW} {H : Hp} {kvs : List (D × D)} {xs : List (NestedKey × Addr × Value)} (p : Paired (PairT K H) kvs xs) {k : D} {n : NestedKey} (e : nkey k = some n) :
    match dget kvs k with
    | none => atKey xs n = none
    | some d => ∃ q v, atKey xs n = some q ∧ RD K H d v ∧ RelV v q.2 := by
  induction p with
  | nil => simp [dget, atKey]
  | @cons kv x kvs xs q _ ih =>
    unfold dget atKey at ih ⊢
    rw [List.find?_cons, List.find?_cons]
    by_cases h : x.1 = n
    · have h1 : nkey kv.1 = nkey k := by rw [q.1, e, h]
      rw [decide_eq_true h1, decide_eq_true h]
      obtain ⟨v, r1, r2⟩ := q.2.2
      exact ⟨_, v, rfl, r1, r2⟩
    · have h1 : ¬ nkey kv.1 = nkey k := by rw [q.1, e]; exact fun z => h (Option.some.inj z)
      rw [decide_eq_false h1, decide_eq_false h]
      exact ih
theorem find_L {K : KW} {H : Hp} {kvs : List (D × D)} {xs : List (Key × Value)} (p : Paired (PairL K H) kvs xs) {k : D} {n : Key} (e : leafD k = some n) :
    match dget kvs k with
    | none => valueAt xs n = none
    | some d => ∃ u v, valueAt xs n = some u ∧ RD K H d v ∧ RelV v u := by
  induction p with
  | nil => simp [dget, valueAt]
  | @cons kv x kvs xs q _ ih =>
    unfold dget valueAt at ih ⊢
    rw [List.find?_cons, List.find?_cons]
    by_cases h : x.1 = n
    · have h1 : nkey kv.1 = nkey k := (leaf_inj q.1 e).mpr h
      rw [decide_eq_true h1, decide_eq_true h]
      obtain ⟨v, r1, r2⟩ := q.2
      exact ⟨_, v, rfl, r1, r2⟩
    · have h1 : ¬ nkey kv.1 = nkey k := fun z => h ((leaf_inj q.1 e).mp z)
      rw [decide_eq_false h1, decide_eq_false h]
      exact ih
theorem key_T (I : Inv X pins σ H s) {i : D} {y : V} {u : Value} (hk : keyB true i = true) (ri : RD X.kw H i y) (ru : RelV y u) : ∃ n a, nkey i = some n ∧ y = .ref a ∧ u = .ref a ∧ (nestedKind X.prog X.w).is s.heap n a := by
  cases i with
  | tup ds =>
    cases e : nkeys ds with
    | none => simp only [keyB, e] at hk; cases hk
    | some ks =>
      simp only [keyB, e] at hk
      have hd : NestedKey.depthAll ks ≤ 7 := of_decide_eq_true hk
      have en : nkey (.tup ds) = some (.tup ks) := by simp [nkey, e]
      have ni := nest_of I _ _ _ _ en ri ru
      cases ri with | tup sq rs =>
      cases (show u = Value.ref _ from ru)
      exact ⟨_, _, en, rfl, rfl, ni, by simp only [NestedKey.depth]; omega⟩
  | _ => cases hk
theorem key_L {i : D} {y : V} {u : Value} (hk : keyB false i = true) (ri : RD X.kw H i y) (ru : RelV y u) : ∃ l, leafD i = some l ∧ (mixKind X.prog X.w).is l u = true := by
  cases i with
  | int j => cases ri; exact ⟨.inl j, rfl, kV_is (k := .inl j) ru⟩
  | str x => cases ri; exact ⟨.inr x, rfl, kV_is (k := .inr x) ru⟩
  | _ => cases hk
theorem room1 {A : Around} (hu : A.units + 64 < cLine) : (nestedKind X.prog X.w).room A.in1 := by
  show A.in1.units + 8 < cLine
  rw [Around.in1_units]
  omega
variable {E : Value → Shared → Prop} {p : Addr} {b : Bool} {kvs : List (D × D)} {o : Obj} {i v : D} {y : V} {u : Value}
/-- d[k] -/
theorem dd_get {Q : Value → Shared → Prop} (hu : X.A.units + 64 < cLine) (I : Inv X pins σ H s) (rh : RH X.kw H h) (e : h p = some (.dct b kvs o)) (hk : keyB b i = true) (hv : dget kvs i = some v) (ri : RD X.kw H i y) (ru : RelV y u)
    (k : ∀ w' s' z, Inv X pins σ H s' → RD X.kw H v z → RelV z w' → Q w' s') : wpAny (model X.prog X.w) X.A (getItem (.ref p) u) Q E s := by
  obtain ⟨eo, r⟩ := rh _ _ e
  cases b with
  | true =>
    obtain ⟨n, a, en, rfl, rfl, ki⟩ := key_T I hk ri ru
    obtain ⟨xs, dd, pr⟩ := dct_keyed I eo r
    have f := find_T pr en
    rw [hv] at f
    obtain ⟨q, z, f1, f2, f3⟩ := f
    exact wpAny_getItem_heap (room1 hu) ki dd f1 (k _ _ z (I.tok _) f2 f3)
  | false =>
    obtain ⟨l, el, ki⟩ := key_L hk ri ru
    obtain ⟨xs, dd, pr⟩ := dct_leafs I eo r
    have f := find_L pr el
    rw [hv] at f
    obtain ⟨q, z, f1, f2, f3⟩ := f
    exact wpAny_getItem_of ki dd.mapOf f1 (k _ _ z (I.tok _) f2 f3)
theorem found_T {K : KW} {H : Hp} {kvs : List (D × D)} {xs : List (NestedKey × Addr × Value)} (pr : Paired (PairT K H) kvs xs) {k : D} {n : NestedKey} (e : nkey k = some n) : (atKey xs n).isSome = (dget kvs k).isSome := by
  have f := find_T pr e
  cases q : dget kvs k with
  | none => rw [q] at f; rw [f]; rfl
  | some d => rw [q] at f; obtain ⟨_, _, f1, _⟩ := f; rw [f1]; rfl
theorem found_L {K : KW} {H : Hp} {kvs : List (D × D)} {xs : List (Key × Value)} (pr : Paired (PairL K H) kvs xs) {k : D} {n : Key} (e : leafD k = some n) : (valueAt xs n).isSome = (dget kvs k).isSome := by
  have f := find_L pr e
  cases q : dget kvs k with
  | none => rw [q] at f; rw [f]; rfl
  | some d => rw [q] at f; obtain ⟨_, _, f1, _⟩ := f; rw [f1]; rfl
/-- k in d -/
theorem dd_in {Q : Value → Shared → Prop} (hu : X.A.units + 64 < cLine) (I : Inv X pins σ H s) (rh : RH X.kw H h) (e : h p = some (.dct b kvs o)) (hk : keyB b i = true) (ri : RD X.kw H i y) (ru : RelV y u)
    (k : ∀ s', Inv X pins σ H s' → Q (.bool (dget kvs i).isSome) s') : wpAny (model X.prog X.w) X.A (compareOp .In u (.ref p)) Q E s := by
  obtain ⟨eo, r⟩ := rh _ _ e
  cases b with
  | true =>
    obtain ⟨n, a, en, rfl, rfl, ki⟩ := key_T I hk ri ru
    obtain ⟨xs, dd, pr⟩ := dct_keyed I eo r
    refine wpAny_in_heap (room1 hu) ki r.nosys dd ?_
    rw [found_T pr en]
    exact k _ (I.tok _)
  | false =>
    obtain ⟨l, el, ki⟩ := key_L hk ri ru
    obtain ⟨xs, dd, pr⟩ := dct_leafs I eo r
    refine wpAny_in_of ki r.nosys dd.mapOf ?_
    rw [found_L pr el]
    exact k _ (I.tok _)
theorem dd_notIn {Q : Value → Shared → Prop} (hu : X.A.units + 64 < cLine) (I : Inv X pins σ H s) (rh : RH X.kw H h) (e : h p = some (.dct b kvs o)) (hk : keyB b i = true) (ri : RD X.kw H i y) (ru : RelV y u)
    (k : ∀ s', Inv X pins σ H s' → Q (.bool (!(dget kvs i).isSome)) s') : wpAny (model X.prog X.w) X.A (compareOp .NotIn u (.ref p)) Q E s := by
  obtain ⟨eo, r⟩ := rh _ _ e
  cases b with
  | true =>
    obtain ⟨n, a, en, rfl, rfl, ki⟩ := key_T I hk ri ru
    obtain ⟨xs, dd, pr⟩ := dct_keyed I eo r
    refine wpAny_notIn_heap (room1 hu) ki r.nosys dd ?_
    rw [found_T pr en]
    exact k _ (I.tok _)
  | false =>
    obtain ⟨l, el, ki⟩ := key_L hk ri ru
    obtain ⟨xs, dd, pr⟩ := dct_leafs I eo r
    refine wpAny_notIn_of ki r.nosys dd.mapOf ?_
    rw [found_L pr el]
    exact k _ (I.tok _)
/-- the pairs written back -/
theorem put_T {K : KW} {H : Hp} {kvs : List (D × D)} {xs : List (NestedKey × Addr × Value)} (pr : Paired (PairT K H) kvs xs) {k v : D} {n : NestedKey} {a : Addr} {w : V} {r : Value} (e : nkey k = some n) (rk : RD K H k (.ref a)) (rv : RD K H v w) (rw' : RelV w r) :
    Paired (PairT K H) (dput kvs k v) (storedH xs n a r) := by
  unfold dput storedH
  rw [found_T pr e]
  cases hq : (dget kvs k).isSome with
  | false =>
    rw [if_neg Bool.false_ne_true, if_neg Bool.false_ne_true]
    exact pr.snoc ⟨e, rk, w, rv, rw'⟩
  | true =>
    rw [if_pos rfl, if_pos rfl]
    clear hq
    induction pr with
    | nil => exact .nil
    | @cons kv x kvs xs q _ ih =>
      refine .cons ?_ ih
      unfold putAt
      dsimp only
      by_cases h : x.1 = n
      · have h1 : nkey kv.1 = nkey k := by rw [q.1, e, h]
        rw [if_pos h1, if_pos h]
        exact ⟨q.1, q.2.1, w, rv, rw'⟩
      · have h1 : ¬ nkey kv.1 = nkey k := by rw [q.1, e]; exact fun z => h (Option.some.inj z)
        rw [if_neg h1, if_neg h]
        exact q
theorem put_L {K : KW} {H : Hp} {kvs : List (D × D)} {xs : List (Key × Value)} (pr : Paired (PairL K H) kvs xs) {k v : D} {n : Key} {w : V} {r : Value} (e : leafD k = some n) (rv : RD K H v w) (rw' : RelV w r) :
    Paired (PairL K H) (dput kvs k v) (stored xs n r) := by
  unfold dput stored
  have hf : (xs.any fun kv => decide (kv.1 = n)) = (dget kvs k).isSome := by
    rw [← found_L pr e]
    clear pr
    induction xs with
    | nil => rfl
    | cons x xs ih =>
      unfold valueAt at ih ⊢
      rw [List.any_cons, List.find?_cons, ih]
      cases h : decide (x.1 = n) <;> simp
  rw [hf]
  cases hq : (dget kvs k).isSome with
  | false =>
    rw [if_neg Bool.false_ne_true, if_neg Bool.false_ne_true]
    exact pr.snoc ⟨e, w, rv, rw'⟩
  | true =>
    rw [if_pos rfl, if_pos rfl]
    clear hq hf
    induction pr with
    | nil => exact .nil
    | @cons kv x kvs xs q _ ih =>
      refine .cons ?_ ih
      dsimp only
      by_cases h : x.1 = n
      · have h1 : nkey kv.1 = nkey k := (leaf_inj q.1 e).mpr h
        rw [if_pos h1, if_pos h]
        exact ⟨q.1, w, rv, rw'⟩
      · have h1 : ¬ nkey kv.1 = nkey k := fun z => h ((leaf_inj q.1 e).mp z)
        rw [if_neg h1, if_neg h]
        exact q
theorem dput_len {kvs : List (D × D)} {k v : D} : (dput kvs k v).length ≤ kvs.length + 1 := by
  unfold dput
  split <;> simp
theorem dget_some {kvs : List (D × D)} {k : D} : (dget kvs k).isSome = true ↔ nkey k ∈ kvs.map fun kv => nkey kv.1 := by
  unfold dget
  rw [Option.isSome_map, List.find?_isSome]
  constructor
  · rintro ⟨x, h1, h2⟩
    exact List.mem_map.mpr ⟨x, h1, of_decide_eq_true h2⟩
  · intro h
    obtain ⟨x, h1, h2⟩ := List.mem_map.mp h
    exact ⟨x, h1, decide_eq_true h2⟩
theorem dput_nd {kvs : List (D × D)} {k v : D} (nd : (kvs.map fun kv => nkey kv.1).Nodup) : ((dput kvs k v).map fun kv => nkey kv.1).Nodup := by
  unfold dput
  split
  · rw [List.map_map]
    have : ((fun kv : D × D => nkey kv.1) ∘ fun kv => if nkey kv.1 = nkey k then (kv.1, v) else kv) = fun kv => nkey kv.1 := by
      funext kv
      simp only [Function.comp]
      split <;> rfl
    rw [this]
    exact nd
  · rename_i h
    rw [List.map_append, List.nodup_append]
    refine ⟨nd, by simp, ?_⟩
    intro a ha b hb e
    simp only [List.map_cons, List.map_nil, List.mem_singleton] at hb
    subst hb
    subst e
    exact h (dget_some.mpr ha)
theorem ent_T {kvs : List (D × D)} {xs : List (NestedKey × Addr × Value)} {H : Hp} {prog : Program} {hp : Heap} {K : KW} (pr : Paired (PairT K H) kvs xs) (hd : ∀ x ∈ xs, (nestedKind prog K.w).is hp x.1 x.2.1) : Paired (Ent K H true) kvs (xs.map (entryOfKey (nestedKind prog K.w))) := by
  induction pr with
  | nil => exact .nil
  | @cons kv x kvs xs q _ ih =>
    obtain ⟨v, r1, r2⟩ := q.2.2
    exact .cons ⟨_, _, v, q.1, (hd x List.mem_cons_self).2, rfl, rfl, q.2.1, r1, r2⟩ (ih fun y hy => hd y (List.mem_cons_of_mem _ hy))
theorem ent_L {H : Hp} {prog : Program} {K : KW} : ∀ {kvs : List (D × D)} {xs : List (Key × Value)} {es : List DictEntry}, Paired (PairL K H) kvs xs → Pairs (mixKind prog K.w) es xs → (∀ e ∈ es, ∃ k, (mixKind prog K.w).is k e.key = true ∧ e.hash = (mixKind prog K.w).hash k) → Paired (Ent K H false) kvs es := by
  intro kvs xs es pr
  induction pr generalizing es with
  | nil => intro p _; cases p; exact .nil
  | @cons kv x kvs xs q _ ih =>
    intro p hk
    cases p with | @cons e _ es _ h1 h2 h3 =>
    obtain ⟨v, r1, r2⟩ := q.2
    obtain ⟨k, k1, k2⟩ := hk e List.mem_cons_self
    have ek : k = x.1 := (mixKind prog K.w).inj _ _ _ k1 h1
    subst ek
    exact .cons ⟨_, v, q.1, k2, h1, r1, by rw [h2]; exact r2⟩ (ih h3 fun y hy => hk y (List.mem_cons_of_mem _ hy))
/-- the object at p is the dict o' now -/
theorem dct_write (I : Inv X pins σ H s) {o' : Obj} {h' : Heap} {t' : Nat} (eo : H p = some (PinO p o)) (hs : Heap.SameBut p s.heap h') (ho : h'.get? p = some o') : Inv X pins σ (upd H p (PinO p o')) { s with heap := h', toks := t' } :=
  I.write (x := p) (e := p) (by rw [eo]; exact True.intro) (.inl rfl) (fun b q hb z => (hs.2 b hb).trans z) ⟨o', ho⟩ ⟨ho, ⟨_, ho⟩, fun _ _ q k => k _ q⟩
/-- d[k] = v -/
theorem dd_set {Q : Unit → Shared → Prop} {w : V} {r : Value} (hu : X.A.units + 64 < cLine) (I : Inv X pins σ H s) (rh : RH X.kw H h) (e : h p = some (.dct b kvs o)) (hk : keyB b i = true) (hl : kvs.length < sizeLine) (ri : RD X.kw H i y) (ru : RelV y u) (rv : RD X.kw H v w) (rw' : RelV w r)
    (k : ∀ s' o', Inv X pins σ (upd H p (PinO p o')) s' → DctO X.kw H p b (dput kvs i v) o' → Q () s') : wpAny (model X.prog X.w) X.A (setItem (.ref p) u r) Q E s := by
  obtain ⟨eo, d⟩ := rh _ _ e
  have hl2 : (dput kvs i v).length ≤ sizeLine := Nat.le_trans dput_len hl
  cases b with
  | true =>
    obtain ⟨n, a, en, rfl, rfl, ki⟩ := key_T I hk ri ru
    obtain ⟨xs, dd, pr⟩ := dct_keyed I eo d
    refine wpAny_setItem_heap (hsz := by rw [← pr.length]; exact d.len) (room1 hu) ki dd fun h' dd' hs => ?_
    obtain ⟨o', es, ep, ho, h2, h3, h4, h5, h6⟩ := dd'
    refine k _ o' (dct_write I eo hs ho) ⟨d.nosys, h2, hl2, ⟨es, ep, h3, ?_⟩, dput_nd d.nd⟩
    rw [h4]
    exact ent_T (put_T pr en ri rv rw') h5
  | false =>
    obtain ⟨l, el, ki⟩ := key_L hk ri ru
    obtain ⟨xs, dd, pr⟩ := dct_leafs I eo d
    refine wpAny_setItem_pairs (hsz := by rw [← pr.length]; exact d.len) ki dd fun h' dd' hs => ?_
    obtain ⟨o', es, ep, ho, h2, h3, h4, h5, h6⟩ := dd'
    exact k _ o' (dct_write I eo hs ho) ⟨d.nosys, h2, hl2, ⟨es, ep, h3, ent_L (put_L pr el rv rw') h5 fun e he => h4 e (by simpa using he)⟩, dput_nd d.nd⟩
end
end DL
namespace DL
open PySem PySem.Spec L2 PyProof.Rows

/-! ## dicts stored in by a comprehension, a display, setdefault -/
section
variable {X : Cx} {pins : List (Addr × Obj)} {σ : L2.St} {H : Hp} {s : Shared} {h : DH} {E : Value → Shared → Prop} {p : Addr} {b : Bool} {kvs : List (D × D)} {o : Obj} {i v : D} {y : V} {u : Value}
theorem room0 {A : Around} (hu : A.units + 64 < cLine) : (nestedKind X.prog X.w).room A := by
  show A.units + 8 < cLine
  omega
theorem dd_put {Q : Unit → Shared → Prop} {w : V} {r : Value} (hu : X.A.units + 64 < cLine) (I : Inv X pins σ H s) (rh : RH X.kw H h) (e : h p = some (.dct b kvs o)) (hk : keyB b i = true) (hl : kvs.length < sizeLine) (ri : RD X.kw H i y) (ru : RelV y u) (rv : RD X.kw H v w) (rw' : RelV w r)
    (k : ∀ s' o', Inv X pins σ (upd H p (PinO p o')) s' → DctO X.kw H p b (dput kvs i v) o' → Q () s') : wpAny (model X.prog X.w) X.A (dictSet p u r) Q E s := by
  obtain ⟨eo, d⟩ := rh _ _ e
  have hl2 : (dput kvs i v).length ≤ sizeLine := Nat.le_trans dput_len hl
  cases b with
  | true =>
    obtain ⟨n, a, en, rfl, rfl, ki⟩ := key_T I hk ri ru
    obtain ⟨xs, dd, pr⟩ := dct_keyed I eo d
    refine wpAny_dictSet_heap (hsz := by rw [← pr.length]; exact d.len) (room0 hu) ki dd fun h' dd' hs => ?_
    obtain ⟨o', es, ep, ho, h2, h3, h4, h5, h6⟩ := dd'
    refine k _ o' (dct_write I eo hs ho) ⟨d.nosys, h2, hl2, ⟨es, ep, h3, ?_⟩, dput_nd d.nd⟩
    rw [h4]
    exact ent_T (put_T pr en ri rv rw') h5
  | false =>
    obtain ⟨l, el, ki⟩ := key_L hk ri ru
    obtain ⟨xs, dd, pr⟩ := dct_leafs I eo d
    refine wpAny_dictSet_pairs (hsz := by rw [← pr.length]; exact d.len) ki dd fun h' dd' hs => ?_
    obtain ⟨o', es, ep, ho, h2, h3, h4, h5, h6⟩ := dd'
    exact k _ o' (dct_write I eo hs ho) ⟨d.nosys, h2, hl2, ⟨es, ep, h3, ent_L (put_L pr el rv rw') h5 fun e he => h4 e (by simpa using he)⟩, dput_nd d.nd⟩
theorem dd_setd {Q : Value → Shared → Prop} {w : V} {r : Value} (hu : X.A.units + 64 < cLine) (I : Inv X pins σ H s) (rh : RH X.kw H h) (e : h p = some (.dct b kvs o)) (hk : keyB b i = true) (hl : kvs.length < sizeLine) (ri : RD X.kw H i y) (ru : RelV y u) (rv : RD X.kw H v w) (rw' : RelV w r)
    (k1 : ∀ d z x s', dget kvs i = some d → RD X.kw H d z → RelV z x → Inv X pins σ H s' → Q x s')
    (k2 : dget kvs i = none → ∀ s' o', Inv X pins σ (upd H p (PinO p o')) s' → DctO X.kw H p b (dput kvs i v) o' → Q r s') : wpAny (model X.prog X.w) X.A (call (.builtin "dict.setdefault") [.ref p, u, r]) Q E s := by
  obtain ⟨eo, d⟩ := rh _ _ e
  have hl2 : (dput kvs i v).length ≤ sizeLine := Nat.le_trans dput_len hl
  cases b with
  | true =>
    obtain ⟨n, a, en, rfl, rfl, ki⟩ := key_T I hk ri ru
    obtain ⟨xs, dd, pr⟩ := dct_keyed I eo d
    have f := find_T pr en
    refine call_setdefault_heap (hsz := by rw [← pr.length]; exact d.len) (room1 hu) ki d.nosys dd (fun q hq => ?_) fun hn h' dd' hs => ?_
    · cases hg : dget kvs i with
      | none => rw [hg] at f; simp only at f; rw [hq] at f; cases f
      | some g => rw [hg] at f; obtain ⟨q', z, f1, f2, f3⟩ := f; rw [hq] at f1; cases f1; exact k1 g z _ _ hg f2 f3 (I.tok _)
    · have hg : dget kvs i = none := by
        cases hg : dget kvs i with
        | none => rfl
        | some g => rw [hg] at f; obtain ⟨q', z, f1, f2, f3⟩ := f; rw [hn] at f1; cases f1
      obtain ⟨o', es, ep, ho, h2, h3, h4, h5, h6⟩ := dd'
      refine k2 hg _ o' (dct_write I eo hs ho) ⟨d.nosys, h2, hl2, ⟨es, ep, h3, ?_⟩, dput_nd d.nd⟩
      rw [h4]
      exact ent_T (put_T pr en ri rv rw') h5
  | false =>
    obtain ⟨l, el, ki⟩ := key_L hk ri ru
    obtain ⟨xs, dd, pr⟩ := dct_leafs I eo d
    have f := find_L pr el
    refine call_meetsIn PySem.F.slot_dict_setdefault dd.typeIs PySem.F.entry_dict_setdefault (PySem.F.args_dict_setdefault_3 _ _ _) (PySem.kt_meets_setdefault (mixKind X.prog X.w) p ki d.nosys r) ⟨xs, dd, by rw [← pr.length]; exact d.len, fun q hq => ?_, fun hn h' dd' hs => ?_⟩
    · cases hg : dget kvs i with
      | none => rw [hg] at f; simp only at f; rw [hq] at f; cases f
      | some g => rw [hg] at f; obtain ⟨q', z, f1, f2, f3⟩ := f; rw [hq] at f1; cases f1; exact k1 g z _ _ hg f2 f3 (I.tok _)
    · have hg : dget kvs i = none := by
        cases hg : dget kvs i with
        | none => rfl
        | some g => rw [hg] at f; obtain ⟨q', z, f1, f2, f3⟩ := f; rw [hn] at f1; cases f1
      obtain ⟨o', es, ep, ho, h2, h3, h4, h5, h6⟩ := dd'
      exact k2 hg _ o' (dct_write I eo hs ho) ⟨d.nosys, h2, hl2, ⟨es, ep, h3, ent_L (put_L pr el rv rw') h5 fun e he => h4 e (by simpa using he)⟩, dput_nd d.nd⟩
end
/-- an empty dict, new -/
def o0 : Obj := { cls := .type "dict", data := .dict #[] }
theorem o0_ok {K : KW} {H : Hp} {a : Addr} {b : Bool} (ha : sysModules ≠ a) : DctO K H a b [] o0 := ⟨beq_eq_false_iff_ne.mpr (Ne.symm ha), ⟨rfl, rfl, rfl⟩, Nat.zero_le _, ⟨#[], 0, rfl, .nil⟩, List.nodup_nil⟩
theorem laid0 {X : Cx} {pins : List (Addr × Obj)} {σ : L2.St} {H : Hp} {s : Shared} (I : Inv X pins σ H s) : Inv X pins σ (upd H s.heap.objs.size (PinO s.heap.objs.size o0)) { s with heap := s.heap.push o0 } := by
  have ho : (s.heap.push o0).get? s.heap.objs.size = some o0 := Heap.get?_push_size _ rfl
  exact I.laid (a := s.heap.objs.size) (t' := s.toks) (fun _ _ q => Heap.get?_push_of_some _ q) (Nat.le_refl _) ⟨ho, ⟨_, ho⟩, fun _ _ q k => k _ q⟩
/-- the store of a comprehension -/
def stP (K : KW) (p : Addr) (y z : V) (H : Hp) (Nx : Hp → Prop) : Prop := ∃ h dy dz b kvs o, RD K H dy y ∧ RD K H dz z ∧ RH K H h ∧ h p = some (.dct b kvs o) ∧ keyB b dy = true ∧ kvs.length < sizeLine ∧ ∀ o', DctO K H p b (dput kvs dy dz) o' → Nx (upd H p (PinO p o'))
/-- {k: v for target in iter if ..} -/
def tDcP (K : KW) (wi : TI) (g : TG) (tt : TT) (tk tv : TE) (vs : List Nat) : TE := fun σ H Q => wi σ H fun J H1 => ∀ p, H1 p = none → sysModules ≠ p → ∃ W : Nat → Nat → Hp → Prop, (∃ m, W 0 m (upd H1 p (PinO p o0))) ∧ ∀ i m H, W i m H →
  (J.stop i H ∧ Q (.ref p) H) ∨ (J.go i H ∧ ∃ Nx : Hp → Prop, (∀ H', Nx H' → ∃ m', m' < m ∧ W (i + 1) m' H') ∧ ∀ x H', J.yld i H x H' → g x (wipe σ vs) H' fun σ2 H2 => wipe σ2 vs = wipe σ vs ∧ tt σ2 H2 fun t H3 =>
    if t = true then tk σ2 H3 fun y H4 => tv σ2 H4 fun z H5 => stP K p y z H5 Nx else Nx H3)
section
variable {X : Cx}
theorem dcp_core {pins : List (Addr × Obj)} {s : Shared} {σ : L2.St} {H : Hp} {Q : VK} {kx vx tg iter : Expr} {ifs : List Expr} {scope : Scope} {own : List (Str × Nat)} {pos pos' : Pos} {wi : TI} {g : TG} {tt : TT} {tk tv : TE} {use : Option (Value → Sem Unit)} {Qf : Value → Shared → Prop}
    (hu : X.A.units + 64 < cLine) (hc : X.calm = true) (hN : X.N.Nodup) (I : Inv X pins σ H s) (hi : PI X tg iter wi) (ok : BlkOk X.N X.env.scope scope own)
    (hg : ∀ (s : Shared) (H : Hp) (C : Addr) (cl : List (Str × Addr)) (fp : List Addr), PG (X.blk s H scope (compEnvC scope cl C X.env) fp) tg g) (ht : ∀ (s : Shared) (H : Hp) (C : Addr) (cl : List (Str × Addr)) (fp : List Addr), PTs (X.blk s H scope (compEnvC scope cl C X.env) fp) ifs tt)
    (hk : ∀ (s : Shared) (H : Hp) (C : Addr) (cl : List (Str × Addr)) (fp : List Addr), PE (X.blk s H scope (compEnvC scope cl C X.env) fp) kx tk)
    (he : ∀ (s : Shared) (H : Hp) (C : Addr) (cl : List (Str × Addr)) (fp : List Addr), PE (X.blk s H scope (compEnvC scope cl C X.env) fp) vx tv) (hs : ∀ x, foldedSetIterable iter X.env x = pure x)
    (h : tDcP X.kw wi g tt tk tv (own.map (·.2)) σ H Q)
    (hRR : ∀ D C s' m H', Inv X pins σ H' s' → Q (.ref D) H' → s'.heap.Ns C m → FpOk X pins H' C → compPost (model X.prog X.w) X.A X.xe use Qf (.ref D) C (.ok .next) s') :
    wpAny (model X.prog X.w) X.A (comprehension (.DictComp kx vx [⟨tg, iter, ifs, 0⟩] scope pos) scope X.env pos' newDict false (eval iter X.env) use) Qf X.xe s := by
  have hfree : ∀ y ∈ scope.names, y.2 = .free → ∃ c, X.env.cells.lookup y.1 = some c := fun y hy e =>
    (ok.free y hy e).elim (fun k => I.ok.has _ (.inl k)) fun k => I.ok.has _ (.inr k)
  refine wpAny_comprehension_free (use := use) rfl hs (closure_ok hfree) ok.kind (fun y hy e => by rw [ok.uniq y hy, e])
    (thn (hi.run pins s σ H _ I h) fun xv s1 hx => thn hx fun itv s2 ⟨it, fp, tn, J, H2, e, I2, T, st2, f2, q⟩ => ?_)
  subst e
  refine wpAny_newObj_type (newEnv_comp ?_)
  have hp : H2 s2.heap.objs.size = none := I2.hok.fresh (Nat.le_refl _)
  obtain ⟨W, ⟨m0, w0⟩, turn⟩ := q s2.heap.objs.size hp (Nat.ne_of_lt I2.big)
  have I3 := laid0 I2
  have f3 : ∀ c ∈ fp, FpOk X pins (upd H2 s2.heap.objs.size (PinO s2.heap.objs.size o0)) c ∧ c < ({ s2 with heap := s2.heap.push o0 } : Shared).heap.objs.size := fun c hc => by
    obtain ⟨o, e, _⟩ := T.obj _ _ st2 c hc
    have hlt := Heap.lt_size e
    exact ⟨⟨by rw [upd_ne (Nat.ne_of_lt hlt)]; exact (f2 c hc).1, (f2 c hc).2⟩, by show c < (s2.heap.push o0).objs.size; rw [Heap.size_push]; exact Nat.lt_succ_of_lt hlt⟩
  have st3 : tn 0 (s2.heap.push o0) := T.keep _ _ _ st2 fun c _ o e => Heap.get?_push_of_some _ e
  have I4 := block_start I3 ok hN f3
  generalize hs3 : ({ s2 with heap := s2.heap.push o0 } : Shared) = s3 at I3 f3 I4
  have h3 : s3.heap = s2.heap.push o0 := by rw [← hs3]
  rw [← h3] at st3
  generalize hD : s2.heap.objs.size = D at hp w0 turn I3 f3 I4
  change codeAny _ _ (.compStart (.DictComp kx vx [⟨tg, iter, ifs, 0⟩] scope pos) 0 (.ref it) (.ref D) (compEnvC scope (cellsFrom ((s2.heap.push o0).objs.size + 1) scope.names (cloFrom X.env.cells scope.names [])) (s2.heap.push o0).objs.size X.env)) (compPost (model X.prog X.w) X.A X.xe use Qf (.ref D) (s2.heap.push o0).objs.size) { s2 with heap := pushCells ((s2.heap.push o0).push { cls := .type "dict", data := .dict #[] }) scope.names }
  rw [← h3]
  have hs4 : ({ s2 with heap := pushCells (s3.heap.push { cls := .type "dict", data := .dict #[] }) scope.names } : Shared) = { s3 with heap := pushCells (s3.heap.push { cls := .type "dict", data := .dict #[] }) scope.names } := by rw [← hs3]
  rw [hs4]
  have st4 : tn 0 (pushCells (s3.heap.push { cls := .type "dict", data := .dict #[] }) scope.names) := T.keep _ _ _ st3 fun c _ o e => pushCells_keeps _ _ _ _ (Heap.get?_push_of_some _ e)
  generalize hH3 : upd H2 D (PinO D o0) = H3 at w0 I3 f3 I4
  have pg := hg s3 H3 s3.heap.objs.size (cellsFrom (s3.heap.objs.size + 1) scope.names (cloFrom X.env.cells scope.names [])) fp
  have pt := ht s3 H3 s3.heap.objs.size (cellsFrom (s3.heap.objs.size + 1) scope.names (cloFrom X.env.cells scope.names [])) fp
  have pk := hk s3 H3 s3.heap.objs.size (cellsFrom (s3.heap.objs.size + 1) scope.names (cloFrom X.env.cells scope.names [])) fp
  have pe := he s3 H3 s3.heap.objs.size (cellsFrom (s3.heap.objs.size + 1) scope.names (cloFrom X.env.cells scope.names [])) fp
  have nfp : ∀ c ∈ fp, H3 c = none := fun c hc => (f3 c hc).1.1
  generalize hce : compEnvC scope (cellsFrom (s3.heap.objs.size + 1) scope.names (cloFrom X.env.cells scope.names [])) s3.heap.objs.size X.env = ce at I4 pg pt pk pe ⊢
  have cL : ce.locals = s3.heap.objs.size := by subst hce; rfl
  generalize hs5 : ({ s3 with heap := pushCells (s3.heap.push { cls := .type "dict", data := .dict #[] }) scope.names } : Shared) = s4 at I4 ⊢
  have st4' : tn 0 s4.heap := by rw [← hs5]; exact st4
  have stat : ∀ {σ' : L2.St} {H' : Hp} {s' : Shared}, Inv (X.blk s3 H3 scope ce fp) [] σ' H' s' → (∀ c ∈ fp, H' c = none) → ∀ c ∈ fp, FpOk (X.blk s3 H3 scope ce fp) [] H' c := fun {σ' H' s'} I' hn c hc =>
    ⟨hn c hc, (I'.ok.exf c hc).1, I'.ok.exfs c hc, .inl hc, fun x d e => (I'.ok.exf c hc).2 x d e, fun q hq => absurd (show q ∈ ([] : List (Addr × Obj)) ++ [] from hq) (by simp)⟩
  have loop : codeAny (model X.prog X.w) X.A (.compLoop (.DictComp kx vx [⟨tg, iter, ifs, 0⟩] scope pos) 0 (.ref it) (.ref D) ce) (compPost (model X.prog X.w) X.A X.xe use Qf (.ref D) s3.heap.objs.size) s4 := by
    refine compLoop_anyD (fun n s' => ∃ i H', Inv (X.blk s3 H3 scope ce fp) [] (wipe σ (own.map (·.2))) H' s' ∧ tn i s'.heap ∧ (∀ c ∈ fp, H' c = none) ∧ W i n H') ?_ m0 ⟨0, H3, I4, st4', nfp, w0⟩
    rintro n s5 ⟨i, H5, I5, st5, n5, w5⟩
    rcases turn i n H5 w5 with ⟨stop, qq⟩ | ⟨go, Nx, hNx, step⟩
    · refine thnF (T.done (X.blk s3 H3 scope ce fp) rfl rfl rfl hc i [] s5 _ H5 (fun _ _ => False) I5 (stat I5 n5) st5 stop) fun r s6 ⟨hr, I6⟩ => ?_
      subst hr
      have I7 : Inv X pins σ H5 s6 := I3.call' (ch := fp) I6.os I6.base I6.hok I6.bare fun c hc => ⟨(f3 c hc).1.2.2.2.1, (f3 c hc).1.2.1, (f3 c hc).1.2.2.2.2.1, (f3 c hc).1.2.2.2.2.2⟩
      have nC : H5 ce.locals = none := I6.free
      obtain ⟨m, hn, _⟩ := I6.loc
      have hn : s6.heap.Ns ce.locals m := hn
      rw [cL] at hn nC
      exact hRR D s3.heap.objs.size s6 m H5 I7 qq hn (I3.fpOk (Nat.le_refl _) nC)
    · refine thnF (T.item (X.blk s3 H3 scope ce fp) rfl rfl rfl hc i [] s5 _ H5 (fun _ _ => False) I5 (stat I5 n5) st5 go) fun r s6 ⟨u, hr, h6⟩ => ?_
      subst hr
      refine thnF h6 fun _ s7 ⟨x, H7, I7, r7, y7, st7, n7⟩ => ?_
      have I7' := I7.pinned (stat I7 n7) (T.obj _ _ st7)
      refine thnF (pg.run _ s7 _ H7 x u _ I7' r7 (step x H7 y7)) fun _ s8 ⟨σ8, H8, I8, hw8, q8⟩ => ?_
      refine thnF (pt.run _ s8 σ8 H8 _ I8 q8) fun t s9 ⟨H9, I9, q9⟩ => ?_
      have fin : ∀ {s' : Shared} {H' : Hp}, Inv (X.blk s3 H3 scope ce fp) ([] ++ pinsAt fp s7.heap) σ8 H' s' → Nx H' → ∃ m, m < n ∧ ∃ i H', Inv (X.blk s3 H3 scope ce fp) [] (wipe σ (own.map (·.2))) H' s' ∧ tn i s'.heap ∧ (∀ c ∈ fp, H' c = none) ∧ W i m H' := fun {s' H'} I' nx => by
        obtain ⟨m', hm, w'⟩ := hNx H' nx
        have pin' : ∀ c ∈ fp, ∀ o, s7.heap.get? c = some o → s'.heap.get? c = some o ∧ H' c = none := fun c hc o e =>
          let z := I'.pin (c, o) (List.mem_append_right _ (List.mem_append_right _ (mem_pinsAt hc e)))
          ⟨z.1, z.2.1⟩
        have hl : (wipe σ (own.map (·.2))).length = σ8.length := by rw [← hw8, wipe_length]
        refine ⟨m', hm, i + 1, H', (I'.unpinned (pins := [])).weak hl (fun j v e => ?_), T.keep _ _ _ st7 fun c hc o e => (pin' c hc o e).1, fun c hc => ?_, w'⟩
        · rw [← hw8] at e
          exact (wipe_some e).1
        · obtain ⟨o, e, _⟩ := T.obj _ _ st7 c hc
          exact (pin' c hc o e).2
      cases t with
      | false => exact fin I9 q9
      | true =>
        refine thnF (pk.run _ s9 σ8 H9 _ I9 q9) fun z s10 ⟨yk, H10, I10, r10, q10⟩ => ?_
        refine thnF (pe.run _ s10 σ8 H10 _ I10 q10) fun z2 s11 ⟨yv, H11, I11, r11, h, dy, dz, b, kvs, o, d1, d2, rh, eD, hk', hl', nx⟩ => ?_
        exact dd_put (X := X.blk s3 H3 scope ce fp) hu I11 rh eD hk' hl' d1 r10 d2 r11 fun s12 o' I12 ok' => fin I12 (nx o' ok')
  exact codeAny_compStart_dict loop (T.self X.A 0 _ _ _ st4' loop)
end
end DL
namespace DL
open PySem PySem.Spec L2 PyProof.Rows
section
variable {X : Cx}
/-- as a value -/
theorem pe_dcP {kx vx tg iter : Expr} {ifs : List Expr} {scope : Scope} {own : List (Str × Nat)} {pos : Pos} {wi : TI} {g : TG} {tt : TT} {tk tv : TE} (hu : X.A.units + 64 < cLine) (hc : X.calm = true) (hN : X.N.Nodup) (hi : PI X tg iter wi) (ok : BlkOk X.N X.env.scope scope own)
    (hg : ∀ (s : Shared) (H : Hp) (C : Addr) (cl : List (Str × Addr)) (fp : List Addr), PG (X.blk s H scope (compEnvC scope cl C X.env) fp) tg g) (ht : ∀ (s : Shared) (H : Hp) (C : Addr) (cl : List (Str × Addr)) (fp : List Addr), PTs (X.blk s H scope (compEnvC scope cl C X.env) fp) ifs tt)
    (hk : ∀ (s : Shared) (H : Hp) (C : Addr) (cl : List (Str × Addr)) (fp : List Addr), PE (X.blk s H scope (compEnvC scope cl C X.env) fp) kx tk)
    (he : ∀ (s : Shared) (H : Hp) (C : Addr) (cl : List (Str × Addr)) (fp : List Addr), PE (X.blk s H scope (compEnvC scope cl C X.env) fp) vx tv) (hs : ∀ x, foldedSetIterable iter X.env x = pure x := by intro _; rfl) :
    PE X (.DictComp kx vx [⟨tg, iter, ifs, 0⟩] scope pos) (tDcP X.kw wi g tt tk tv (own.map (·.2))) := by
  refine ⟨fun pins s σ H Q I h => ?_⟩
  rw [arm_eval_DictComp]
  refine dcp_core hu hc hN I hi ok hg ht hk he hs h fun D C s' m H' I' q hn f => ⟨m, hn, fun h'' sb => ?_⟩
  obtain ⟨f0, f1, f2, f3, f4, f5⟩ := f
  exact ⟨.ref D, H', I'.turned (t' := s'.toks) (fun c o hc e => (sb.2 c hc).trans e) f0 f1 f3 f4 f5, rfl, q⟩
/-- stored at once under a name -/
theorem ps_setDcP {i : Nat} {y : Str} {py : Pos} {kx vx tg iter : Expr} {ifs : List Expr} {scope : Scope} {own : List (Str × Nat)} {pos spos : Pos} {wi : TI} {g : TG} {tt : TT} {tk tv : TE} (hu : X.A.units + 64 < cLine) (hc : X.calm = true) (hN : X.N.Nodup) (hy : X.N[i]? = some y) (hyl : X.env.scope.names.lookup y = some .local)
    (hsw : swapsWith (.DictComp kx vx [⟨tg, iter, ifs, 0⟩] scope pos) (some (.Name y py)) spos.line X.env = pure true) (hi : PI X tg iter wi) (ok : BlkOk X.N X.env.scope scope own)
    (hg : ∀ (s : Shared) (H : Hp) (C : Addr) (cl : List (Str × Addr)) (fp : List Addr), PG (X.blk s H scope (compEnvC scope cl C X.env) fp) tg g) (ht : ∀ (s : Shared) (H : Hp) (C : Addr) (cl : List (Str × Addr)) (fp : List Addr), PTs (X.blk s H scope (compEnvC scope cl C X.env) fp) ifs tt)
    (hk : ∀ (s : Shared) (H : Hp) (C : Addr) (cl : List (Str × Addr)) (fp : List Addr), PE (X.blk s H scope (compEnvC scope cl C X.env) fp) kx tk)
    (he : ∀ (s : Shared) (H : Hp) (C : Addr) (cl : List (Str × Addr)) (fp : List Addr), PE (X.blk s H scope (compEnvC scope cl C X.env) fp) vx tv) (hs : ∀ x, foldedSetIterable iter X.env x = pure x := by intro _; rfl) :
    PS X (.Assign [.Name y py] (.DictComp kx vx [⟨tg, iter, ifs, 0⟩] scope pos) spos) (tAsg (tDcP X.kw wi g tt tk tv (own.map (·.2))) (gName i)) := by
  refine ⟨fun pins s σ H D I h => ?_⟩
  rw [exec_Assign_Name_used _ _ _ _ hsw]
  refine wpAny_bind (wpAny_standAt (wpAny_bind ?_))
  show wpAny _ X.A (do let _ ← comprehension (.DictComp kx vx [⟨tg, iter, ifs, 0⟩] scope pos) scope X.env (firstIterPos [⟨tg, iter, ifs, 0⟩] pos) newDict false (eval iter X.env) (some (assign (.Name y py) X.env))) _ _ s
  have h : tDcP X.kw wi g tt tk tv (own.map (·.2)) σ H (fun x H1 => gName i x σ H1 D.nx) := h
  refine wpAny_bind (thn (dcp_core (Qf := fun _ s' => SP X pins D .next s') hu hc hN I hi ok hg ht hk he hs h fun L C s' m H' I' q hn f => ?_) fun _ s' hq => wpAny_pure (wpAny_pure hq))
  show wpAny _ _ (assign (.Name y py) X.env (.ref L)) _ _ _
  refine wpAny_assign_Name (store_ok2 (v := V.ref L) I' hN hy (.inl hyl) rfl (fun s2 I2 ⟨a, sb, ha⟩ => ?_) (.inr hyl))
  obtain ⟨f0, f1, f2, f3, f4, f5⟩ := f
  have haC : C ≠ a := by
    rcases ha with z | z
    · rw [z]; exact f1
    · exact fun e => f4 y a z e.symm
  refine ⟨m, hn.sameBut sb haC, fun h3 sb3 => ?_⟩
  exact ⟨_, H', I2.turned (t' := s2.toks) (fun c o hc e => (sb3.2 c hc).trans e) f0 f1 f3 f4 f5, q⟩
theorem sw_trueD {kx vx : Expr} {gs : List Comprehension} {scope : Scope} {pos py : Pos} {y : Str} {l : Nat} {env : Env} (hk : env.scope.kind = .function) (hy : env.scope.names.lookup y = some .local) (hl : (py.line == pos.line) = true)
    (ha : (scope.names.any fun (n, k) => n == y && (k == .local || k == .cell)) = false) : swapsWith (.DictComp kx vx gs scope pos) (some (.Name y py)) l env = pure true := by
  have ky : env.kindOf y = some .local := hy
  have hb : env.blockKind = .function := by unfold Env.blockKind; rw [hk]; rfl
  unfold swapsWith
  simp only [hb, ky, ha, Expr.pos, hl]
  rfl
end
end DL
namespace DL
open PySem PySem.Spec L2 PyProof.Rows
section
variable {X : Cx}
def stN (K : KW) (b : Bool) (p : Addr) (y z : V) (H : Hp) (Nx : Hp → Prop) : Prop := ∃ h dy dz o, RD K H dy y ∧ RD K H dz z ∧ RH K H h ∧ h p = some (.dct b [] o) ∧ keyB b dy = true ∧ ∀ o', DctO K H p b [(dy, dz)] o' → Nx (upd H p (PinO p o'))
/-- {k: v} -/
def tDmk (K : KW) (b : Bool) (tk tv : TE) : TE := fun σ H Q => ∀ p, H p = none → sysModules ≠ p → tk σ (upd H p (PinO p o0)) fun y H1 => tv σ H1 fun z H2 => stN K b p y z H2 fun H3 => Q (.ref p) H3
theorem pe_dmk {b : Bool} {kx vx : Expr} {pos : Pos} {tk tv : TE} (hu : X.A.units + 64 < cLine) (hk : PE X kx tk) (hv : PE X vx tv) : PE X (.Dict [some kx] [vx] pos) (tDmk X.kw b tk tv) := by
  refine ⟨fun pins s σ H Q I q => ?_⟩
  have hn := I.hok.fresh (Nat.le_refl s.heap.objs.size)
  have I1 := laid0 I
  have q := q _ hn (Nat.ne_of_lt I.big)
  generalize hD : s.heap.objs.size = p at hn I1 q
  have walk : ∀ (Q' : List (Value × Value) → Shared → Prop), (∀ s2 H2 y z u r, Inv X pins σ H2 s2 → RelV y u → RelV z r → stN X.kw b p y z H2 (fun H3 => Q (.ref p) H3) → Q' [(u, r)] s2) →
      wpAny (model X.prog X.w) X.A (evalPairs (pairTrees [some kx] [vx] X.env pos)) Q' X.xe { s with heap := s.heap.push { cls := .type "dict", data := .dict #[] } } := fun Q' hq =>
    pairTrees_cons_walk (thn (hk.run pins _ σ _ _ I1 q) fun u s1 ⟨y, H1, I1, rx, q1⟩ => thn (hv.run pins s1 σ H1 _ I1 q1) fun r s2 ⟨z, H2, I2, ry, q2⟩ => pairTrees_nil_walk (hq _ _ _ _ _ _ I2 rx ry q2))
  cases b with
  | true =>
    rw [arm_eval_Dict, zip_pairTrees [some kx] [vx] X.env pos rfl rfl, dictDisplay_pairs (pairTrees [some kx] [vx] X.env pos) (by intro e; cases e) (by show 1 < 17; omega)]
    refine wpAny_bind (wpAny_standAt (wpAny_bind (wpAny_subDictH (knd := nestedKind X.prog X.w) (Q := fun d s' => wpAny (model X.prog X.w) X.A (pure (Value.ref d)) (EP X pins σ Q) X.xe s') (room0 hu) (by show 1 ≤ 15; omega)
      (walk _ fun s2 H2 y z u r I2 ry rz q2 => ?_))))
    obtain ⟨h, dy, dz, o, d1, d2, rh, e, hk', q2⟩ := q2
    obtain ⟨eo, d⟩ := rh _ _ e
    obtain ⟨n, a, en, rfl, rfl, ki⟩ := key_T I2 hk' d1 ry
    obtain ⟨xs, dd, pr⟩ := dct_keyed I2 eo d
    cases pr
    rw [hD]
    refine ⟨[(n, a, r)], ⟨rfl, rfl, ki, True.intro⟩, dd, fun h' tk' dd' hs => wpAny_pure ?_⟩
    obtain ⟨o', es, ep, ho, h2, h3, h4, h5, h6⟩ := dd'
    refine ⟨.ref p, _, dct_write I2 eo hs ho, rfl, q2 o' ⟨d.nosys, h2, by show 1 ≤ sizeLine; unfold sizeLine; omega, ⟨es, ep, h3, ?_⟩, by simp⟩⟩
    rw [h4]
    exact ent_T (put_T (kvs := []) (xs := []) .nil en d1 d2 rz) h5
  | false =>
    refine wpAny_Dict_walk (knd := mixKind X.prog X.w) rfl rfl (by intro e; cases e) (by show 1 ≤ 15; omega) (walk _ fun s2 H2 y z u r I2 ry rz q2 => ?_)
    obtain ⟨h, dy, dz, o, d1, d2, rh, e, hk', q2⟩ := q2
    obtain ⟨eo, d⟩ := rh _ _ e
    obtain ⟨l, el, ki⟩ := key_L hk' d1 ry
    obtain ⟨xs, dd, pr⟩ := dct_leafs I2 eo d
    cases pr
    rw [hD]
    refine ⟨[(l, r)], ⟨ki, rfl, True.intro⟩, dd, fun h' dd' hs => ?_⟩
    obtain ⟨o', es, ep, ho, h2, h3, h4, h5, h6⟩ := dd'
    exact ⟨.ref p, _, dct_write I2 eo hs ho, rfl, q2 o' ⟨d.nosys, h2, by show 1 ≤ sizeLine; unfold sizeLine; omega, ⟨es, ep, h3, ent_L (put_L (kvs := []) (xs := []) .nil el d2 rz) h5 fun e he => h4 e (by simpa using he)⟩, by simp⟩⟩
end
end DL
namespace DL
open PySem PySem.Spec L2 PyProof.Rows

/-! ## == of dicts whose keys are tuples -/
section
variable {prog : Program} {w : World} {K : Type} [DecidableEq K] {knd : HeapKind prog w K} {A : Around} {E : Value → Shared → Prop} {s : Shared}
theorem atKey_get : ∀ {xs : List (K × Addr × Value)} {j : Nat} {k : K} {p : Addr × Value}, (xs.map (·.1)).Nodup → xs[j]? = some (k, p) → atKey xs k = some p
  | [], j, _, _, _, h => by simp at h
  | x :: xs, 0, k, p, _, h => by
    simp only [List.getElem?_cons_zero, Option.some.injEq] at h
    subst h
    simp [atKey]
  | x :: xs, j + 1, k, p, nd, h => by
    rw [List.map_cons, List.nodup_cons] at nd
    rw [List.getElem?_cons_succ] at h
    have ne : x.1 ≠ k := fun e => nd.1 (by rw [e]; exact List.mem_map.mpr ⟨(k, p), List.mem_of_getElem? h, rfl⟩)
    have := atKey_get nd.2 h
    unfold atKey at this ⊢
    rw [List.find?_cons_of_neg (by simpa using ne)]
    exact this
theorem atKey_no {xs : List (K × Addr × Value)} {k : K} (h : ∀ (j : Nat) (p : Addr × Value), xs[j]? ≠ some (k, p)) : atKey xs k = none := by
  unfold atKey
  rw [Option.map_eq_none_iff, List.find?_eq_none]
  intro x hx e
  obtain ⟨j, hj, e2⟩ := List.getElem_of_mem hx
  refine h j x.2 ?_
  rw [List.getElem?_eq_getElem hj, e2, ← of_decide_eq_true e]
theorem same_pairsH {nm : String} {a b : Addr} {ka kb : List (K × Addr × Value)} {vb : K × Addr × Value → Bool} {Q : Bool → Shared → Prop} (hu : knd.room A) (ha : (a == sysModules) = false) (hb : (b == sysModules) = false)
    (da : s.heap.DictOfH knd a ka) (db : s.heap.DictOfH knd b kb) (hv : ka.length = kb.length → ∀ x ∈ ka, (atKey kb x.1 = none ∧ vb x = false) ∨ ∃ p, atKey kb x.1 = some p ∧ SeqAt.EqAt A s x.2.2 p.2 (vb x))
    (h : Q (ka.length == kb.length && ka.all vb) s) : wpAny (model prog w) A (Builtin.Dict.samePairs nm a b) Q E s := by
  obtain ⟨oa, es, ep, hoa, _, hda, hea, hia, hna⟩ := da
  obtain ⟨ob, es', ep', hob, _, hdb, heb, hib, hnb⟩ := db
  have hla : es.size = ka.length := size_of_entries hea
  have hlb : es'.size = kb.length := size_of_entries heb
  unfold Builtin.Dict.samePairs Builtin.Dict.showsAll
  rw [if_neg (show ¬ (a == sysModules) = true by rw [ha]; exact Bool.false_ne_true), if_neg (show ¬ (b == sysModules) = true by rw [hb]; exact Bool.false_ne_true)]
  refine wpAny_bind (wpAny_pure (wpAny_bind (wpAny_pure ?_)))
  refine wpAny_bind (wpAny_dictEntries hoa hda ?_)
  dsimp only
  refine wpAny_bind (wpAny_dictEntries hob hdb ?_)
  by_cases hsz : ka.length = kb.length
  case neg =>
    rw [if_pos (by rw [hla, hlb]; simpa using hsz)]
    have hbf : (ka.length == kb.length) = false := by simpa using hsz
    rw [hbf, Bool.false_and] at h
    exact wpAny_bind (wpAny_rule (wpAny_pure h))
  case pos =>
    have h' : Q (ka.all vb) s := by simpa [hsz] using h
    have hv' := hv hsz
    rw [if_neg (by rw [hla, hlb, hsz]; simp)]
    refine wpAny_bind (wpAny_dictEpoch hoa hda ?_)
    refine wpAny_bind ?_
    rw [Std.Legacy.Range.forIn_eq_forIn_range']
    simp only [Std.Legacy.Range.size, Nat.sub_zero, Nat.add_sub_cancel, Nat.div_one]
    refine wpAny_forIn_list _ (fun rest q s' => s' = s ∧ q = (none, ()) ∧ ∃ i, rest = List.range' i (es.size - i) ∧ i ≤ es.size ∧ (ka.take i).all vb = true) _ ?_ ?_ _ _ ⟨rfl, rfl, 0, by simp, Nat.zero_le _, by simp⟩
    · rintro x rest q s' ⟨rfl, rfl, i, hr, hi, hpre⟩
      have hlt : i < es.size := by
        rcases Nat.lt_or_ge i es.size with z | z
        · exact z
        · rw [Nat.sub_eq_zero_of_le z] at hr; simp at hr
      obtain ⟨rfl, hrest⟩ : x = i ∧ rest = List.range' (i + 1) (es.size - (i + 1)) := by
        rw [show es.size - i = (es.size - (i + 1)) + 1 by omega, List.range'_succ] at hr
        injection hr with h1 h2
        exact ⟨h1, h2⟩
      refine wpAny_bind (wpAny_dictEntries hoa hda ?_)
      have hlt' : x < ka.length := by rw [← hla]; exact hlt
      have hx : es[x]? = some (entryOfKey knd ka[x]) := by rw [entry_at hea x, List.getElem?_eq_getElem hlt']; rfl
      have hmem : ka[x] ∈ ka := List.getElem_mem hlt'
      have hall : ka.take (x + 1) = ka.take x ++ [ka[x]] := by rw [List.take_add_one, List.getElem?_eq_getElem hlt']; rfl
      have hbad : vb ka[x] = false → ka.all vb = false := fun e => by
        rw [List.all_eq_false]
        exact ⟨_, hmem, by rw [e]; exact Bool.false_ne_true⟩
      rw [hx]
      have hval := hv' _ hmem
      have hk := hia _ hmem
      generalize ka[x] = y at hx hmem hall hbad hval hk
      obtain ⟨k, ad, v⟩ := y
      show wpAny _ _ (holding [Value.ref ad, v] _ >>= _) _ _ _
      refine wpAny_bind (wpAny_holding (wpAny_bind (wpAny_dictFind_heap hu hk hob hdb heb hib hnb (fun hno => ?_) fun j p hj => ?_)))
      · rcases hval with ⟨_, e⟩ | ⟨p, e, _⟩
        · rw [hbad e] at h'
          refine wpAny_pure ?_
          show wpAny _ _ (if (!false) = true then _ else _) _ _ _
          rw [if_pos (by decide)]
          exact wpAny_pure (wpAny_pure h')
        · rw [atKey_no hno] at e; cases e
      · refine wpAny_bind (wpAny_dictEntries hob hdb ?_)
        have hy : es'[j]? = some (entryOfKey knd (k, p)) := by rw [entry_at heb j, hj]; rfl
        rw [hy]
        rcases hval with ⟨e, _⟩ | ⟨p', e, q⟩
        · rw [atKey_get hnb hj] at e; cases e
        · have ep : p = p' := Option.some.inj ((atKey_get hnb hj).symm.trans e)
          subst ep
          refine wpAny_holding (q prog w _ _ ?_)
          cases hvb : vb (k, ad, v) with
          | false =>
            rw [hbad hvb] at h'
            show wpAny _ _ (if (!false) = true then _ else _) _ _ _
            rw [if_pos (by decide)]
            exact wpAny_pure (wpAny_pure h')
          | true =>
            show wpAny _ _ (if (!true) = true then _ else _) _ _ _
            rw [if_neg (by decide)]
            refine wpAny_bind (wpAny_dictEpoch hoa hda ?_)
            rw [if_neg (by simp)]
            exact wpAny_pure ⟨rfl, rfl, x + 1, hrest, hlt, by rw [hall, List.all_append, hpre, List.all_cons, hvb]; rfl⟩
    · rintro q s' ⟨rfl, rfl, i, hr, hi, hpre⟩
      have hin : i = es.size := by
        rcases Nat.lt_or_ge i es.size with z | z
        · rw [show es.size - i = (es.size - (i + 1)) + 1 by omega, List.range'_succ] at hr; exact nomatch hr
        · exact Nat.le_antisymm hi z
      refine wpAny_pure ?_
      rw [hin, hla, List.take_length] at hpre
      rw [hpre] at h'
      exact h'
theorem dict_cmpH {a b : Addr} {ka kb : List (K × Addr × Value)} {vb : K × Addr × Value → Bool} (hu : knd.room A.in1) (hul : A.units < cLine) (ha : (a == sysModules) = false) (hb : (b == sysModules) = false)
    (da : s.heap.DictOfH knd a ka) (db : s.heap.DictOfH knd b kb) (hv : ka.length = kb.length → ∀ x ∈ ka, (atKey kb x.1 = none ∧ vb x = false) ∨ ∃ p, atKey kb x.1 = some p ∧ SeqAt.EqAt A.in1 s x.2.2 p.2 (vb x)) :
    (∀ {Q : Value → Shared → Prop}, Q (.bool (ka.length == kb.length && ka.all vb)) s → wpAny (model prog w) A (compareOp .Eq (.ref a) (.ref b)) Q E s) ∧
    (∀ {Q : Value → Shared → Prop}, Q (.bool (!(ka.length == kb.length && ka.all vb))) s → wpAny (model prog w) A (compareOp .NotEq (.ref a) (.ref b)) Q E s) := by
  constructor
  · intro Q h
    refine wpAny_richCompare_same_room (op := .Eq) da.typeIs db.typeIs PySem.F.slot_dict_eq (wpAny_call_entry PySem.F.slot_dict_eq da.typeIs PySem.F.entry_dict_eq ?_ (PySem.F.args_dict_eq_2 _ _)) hul
    show wpAny _ _ (Builtin.Dict.dictSlotArgs "__eq__" ⟨[.ref a, .ref b], []⟩ >>= _) _ _ s
    refine wpAny_bind ?_
    unfold Builtin.Dict.dictSlotArgs
    refine wpAny_bind (wpAny_notOrdered_dict da.typeIs ?_)
    show wpAny _ _ (pure (Value.ref a, Value.ref b)) _ _ s
    refine wpAny_pure (wpAny_bind (wpAny_isInstance (T := "dict") db.typeIs PySem.F.sub_dict_dict ?_))
    simp only [Bool.not_true, Bool.false_eq_true, if_false]
    refine wpAny_bind (wpAny_pure (wpAny_bind (wpAny_pure (wpAny_bind (same_pairsH hu ha hb da db hv ?_)))))
    exact wpAny_pure ⟨_, rfl, (by intro x; cases x), by simpa using h⟩
  · intro Q h
    refine wpAny_richCompare_same_room (op := .NotEq) da.typeIs db.typeIs PySem.F.slot_dict_ne (wpAny_call_entry PySem.F.slot_dict_ne da.typeIs PySem.F.entry_dict_ne ?_ (PySem.F.args_dict_ne_2 _ _)) hul
    show wpAny _ _ (Builtin.Dict.dictSlotArgs "__ne__" ⟨[.ref a, .ref b], []⟩ >>= _) _ _ s
    refine wpAny_bind ?_
    unfold Builtin.Dict.dictSlotArgs
    refine wpAny_bind (wpAny_notOrdered_dict da.typeIs ?_)
    show wpAny _ _ (pure (Value.ref a, Value.ref b)) _ _ s
    refine wpAny_pure (wpAny_bind (wpAny_isInstance (T := "dict") db.typeIs PySem.F.sub_dict_dict ?_))
    simp only [Bool.not_true, Bool.false_eq_true, if_false]
    refine wpAny_bind (wpAny_pure (wpAny_bind (wpAny_pure (wpAny_bind (same_pairsH hu ha hb da db hv ?_)))))
    exact wpAny_pure ⟨_, rfl, (by intro x; cases x), by simpa using h⟩
end
end DL
namespace DL
open PySem PySem.Spec L2 PyProof.Rows
section
variable {X : Cx} {pins : List (Addr × Obj)} {σ : L2.St} {H : Hp} {s : Shared} {h : DH} {E : Value → Shared → Prop} {p q : Addr}
def valP : Value → PyData
  | .bool b => .bool b
  | .int i _ => .int i
  | .str x _ => .str x
  | _ => .none
theorem flat_val {d : D} {v : V} {u : Value} (f : flatD d = true) (r : RD X.kw H d v) (ru : RelV v u) : PyProof.V.Flat u (valP u) ∧ valP u = pdF d := by
  cases d <;> simp [flatD] at f
  · cases r; cases (show u = Value.none from ru); exact ⟨fun _ => .none, rfl⟩
  · cases r; cases (show u = Value.bool _ from ru); exact ⟨fun _ => .bool _, rfl⟩
  · cases r; obtain ⟨t, rfl⟩ := (show ∃ t, u = Value.int _ t from ru); exact ⟨fun _ => .int _ _, rfl⟩
  · cases r; obtain ⟨t, rfl⟩ := (show ∃ t, u = Value.str _ t from ru); exact ⟨fun _ => .str _ _, rfl⟩
/-- == and != of two dicts with flat values -/
theorem dd_cmp {k : Bool → Prop} (hu : X.A.units + 64 < cLine) (I : Inv X pins σ H s) (rh : RH X.kw H h) (t : deqD p q h k) :
    ∃ b, k b ∧ (∀ {Q : Value → Shared → Prop}, Q (.bool b) s → wpAny (model X.prog X.w) X.A (compareOp .Eq (.ref p) (.ref q)) Q E s) ∧
      (∀ {Q : Value → Shared → Prop}, Q (.bool (!b)) s → wpAny (model X.prog X.w) X.A (compareOp .NotEq (.ref p) (.ref q)) Q E s) := by
  obtain ⟨b, kvs, lvs, o, o', e1, e2, f1, f2, kk⟩ := t
  obtain ⟨eo, d⟩ := rh _ _ e1
  obtain ⟨eo', d'⟩ := rh _ _ e2
  refine ⟨_, kk, ?_⟩
  cases b with
  | true =>
    obtain ⟨xs, dd, pr⟩ := dct_keyed I eo d
    obtain ⟨ys, dd', pr'⟩ := dct_keyed I eo' d'
    have look : ∀ (x : NestedKey × Addr × Value) (kv : D × D), kv ∈ kvs → PairT X.kw H kv x → PyProof.V.Flat x.2.2 (valP x.2.2) ∧ valP x.2.2 = pdF kv.2 := fun x kv hm ⟨_, _, v, r, rv⟩ => flat_val (f1 _ hm) r rv
    let vb : NestedKey × Addr × Value → Bool := fun x => match atKey ys x.1 with
      | none => false
      | some z => PyData.eqv (valP x.2.2) (valP z.2)
    have find : ∀ (x : NestedKey × Addr × Value) (kv : D × D), kv ∈ kvs → PairT X.kw H kv x → (atKey ys x.1 = none ∧ dget lvs kv.1 = none) ∨ ∃ z v, atKey ys x.1 = some z ∧ dget lvs kv.1 = some v ∧ PyProof.V.Flat z.2 (valP z.2) ∧ valP z.2 = pdF v := fun x kv hm pt => by
      have f := find_T pr' pt.1
      cases hg : dget lvs kv.1 with
      | none => rw [hg] at f; exact .inl ⟨f, rfl⟩
      | some v =>
        rw [hg] at f
        obtain ⟨z, w, g1, g2, g3⟩ := f
        have hv : flatD v = true := by
          unfold dget at hg
          obtain ⟨kv', h1, h2⟩ := Option.map_eq_some_iff.mp hg
          rw [← h2]
          exact f2 _ (List.mem_of_find?_eq_some h1)
        exact .inr ⟨z, v, g1, rfl, flat_val hv g2 g3⟩
    have hall : kvs.all (pairIn lvs) = xs.all vb := by
      have key : ∀ (ks : List (D × D)) (zs : List (NestedKey × Addr × Value)), Paired (PairT X.kw H) ks zs → (∀ kv ∈ ks, kv ∈ kvs) → ks.all (pairIn lvs) = zs.all vb := by
        intro ks zs pp
        induction pp with
        | nil => intro _; rfl
        | @cons kv x ks zs pt _ ih =>
          intro hm
          rw [List.all_cons, List.all_cons, ih fun z hz => hm z (List.mem_cons_of_mem _ hz)]
          congr 1
          have hk := hm kv List.mem_cons_self
          obtain ⟨_, l2⟩ := look x kv hk pt
          rcases find x kv hk pt with ⟨g1, g2⟩ | ⟨z, v, g1, g2, _, g4⟩
          · unfold pairIn; show _ = (match atKey ys x.1 with | none => false | some z => PyData.eqv (valP x.2.2) (valP z.2))
            rw [g1, g2]
          · unfold pairIn; show _ = (match atKey ys x.1 with | none => false | some z => PyData.eqv (valP x.2.2) (valP z.2))
            rw [g1, g2]
            dsimp only
            rw [l2, g4]
      exact key kvs xs pr fun _ m => m
    have hmem : ∀ x ∈ xs, ∃ kv ∈ kvs, PairT X.kw H kv x := by
      have key : ∀ (ks : List (D × D)) (zs : List (NestedKey × Addr × Value)), Paired (PairT X.kw H) ks zs → ∀ x ∈ zs, ∃ kv ∈ ks, PairT X.kw H kv x := by
        intro ks zs pp
        induction pp with
        | nil => intro x hx; cases hx
        | cons pt _ ih =>
          intro x hx
          rcases List.mem_cons.mp hx with rfl | hx
          · exact ⟨_, List.mem_cons_self, pt⟩
          · obtain ⟨kv, m, q⟩ := ih x hx
            exact ⟨kv, List.mem_cons_of_mem _ m, q⟩
      exact key kvs xs pr
    have := dict_cmpH (E := E) (A := X.A) (knd := nestedKind X.prog X.w) (vb := vb) (room1 hu) (by omega) d.nosys d'.nosys dd dd' fun _ x hx => by
      obtain ⟨kv, hm, pt⟩ := hmem x hx
      rcases find x kv hm pt with ⟨g1, _⟩ | ⟨z, v, g1, _, g3, _⟩
      · exact .inl ⟨g1, by show (match atKey ys x.1 with | none => false | some z => PyData.eqv (valP x.2.2) (valP z.2)) = false; rw [g1]⟩
      · refine .inr ⟨z, g1, ?_⟩
        have : vb x = PyData.eqv (valP x.2.2) (valP z.2) := by show (match atKey ys x.1 with | none => false | some z => PyData.eqv (valP x.2.2) (valP z.2)) = _; rw [g1]
        rw [this]
        exact PySem.W.keq_flat (look x kv hm pt).1 g3
    unfold sameD
    rw [hall, pr.length, pr'.length]
    exact this
  | false =>
    obtain ⟨xs, dd, pr⟩ := dct_leafs I eo d
    obtain ⟨ys, dd', pr'⟩ := dct_leafs I eo' d'
    have look : ∀ (x : Key × Value) (kv : D × D), kv ∈ kvs → PairL X.kw H kv x → PyProof.V.Flat x.2 (valP x.2) ∧ valP x.2 = pdF kv.2 := fun x kv hm ⟨_, v, r, rv⟩ => flat_val (f1 _ hm) r rv
    let vb : Key × Value → Bool := fun x => match valueAt ys x.1 with
      | none => false
      | some z => PyData.eqv (valP x.2) (valP z)
    have find : ∀ (x : Key × Value) (kv : D × D), kv ∈ kvs → PairL X.kw H kv x → (valueAt ys x.1 = none ∧ dget lvs kv.1 = none) ∨ ∃ z v, valueAt ys x.1 = some z ∧ dget lvs kv.1 = some v ∧ PyProof.V.Flat z (valP z) ∧ valP z = pdF v := fun x kv hm pt => by
      have f := find_L pr' pt.1
      cases hg : dget lvs kv.1 with
      | none => rw [hg] at f; exact .inl ⟨f, rfl⟩
      | some v =>
        rw [hg] at f
        obtain ⟨z, w, g1, g2, g3⟩ := f
        have hv : flatD v = true := by
          unfold dget at hg
          obtain ⟨kv', h1, h2⟩ := Option.map_eq_some_iff.mp hg
          rw [← h2]
          exact f2 _ (List.mem_of_find?_eq_some h1)
        exact .inr ⟨z, v, g1, rfl, flat_val hv g2 g3⟩
    have hall : kvs.all (pairIn lvs) = xs.all vb := by
      have key : ∀ (ks : List (D × D)) (zs : List (Key × Value)), Paired (PairL X.kw H) ks zs → (∀ kv ∈ ks, kv ∈ kvs) → ks.all (pairIn lvs) = zs.all vb := by
        intro ks zs pp
        induction pp with
        | nil => intro _; rfl
        | @cons kv x ks zs pt _ ih =>
          intro hm
          rw [List.all_cons, List.all_cons, ih fun z hz => hm z (List.mem_cons_of_mem _ hz)]
          congr 1
          have hk := hm kv List.mem_cons_self
          obtain ⟨_, l2⟩ := look x kv hk pt
          rcases find x kv hk pt with ⟨g1, g2⟩ | ⟨z, v, g1, g2, _, g4⟩
          · unfold pairIn; show _ = (match valueAt ys x.1 with | none => false | some z => PyData.eqv (valP x.2) (valP z))
            rw [g1, g2]
          · unfold pairIn; show _ = (match valueAt ys x.1 with | none => false | some z => PyData.eqv (valP x.2) (valP z))
            rw [g1, g2]
            dsimp only
            rw [l2, g4]
      exact key kvs xs pr fun _ m => m
    have hmem : ∀ x ∈ xs, ∃ kv ∈ kvs, PairL X.kw H kv x := by
      have key : ∀ (ks : List (D × D)) (zs : List (Key × Value)), Paired (PairL X.kw H) ks zs → ∀ x ∈ zs, ∃ kv ∈ ks, PairL X.kw H kv x := by
        intro ks zs pp
        induction pp with
        | nil => intro x hx; cases hx
        | cons pt _ ih =>
          intro x hx
          rcases List.mem_cons.mp hx with rfl | hx
          · exact ⟨_, List.mem_cons_self, pt⟩
          · obtain ⟨kv, m, q⟩ := ih x hx
            exact ⟨kv, List.mem_cons_of_mem _ m, q⟩
      exact key kvs xs pr
    have hits : ∀ zs : List (Key × Value), (∀ x ∈ zs, x ∈ xs) → PySem.W.KeqHits X.A.in1 s ys zs (zs.all vb) := by
      intro zs
      induction zs with
      | nil => intro _; exact .nil
      | cons x zs ih =>
        intro hm
        obtain ⟨kv, hm', pt⟩ := hmem x (hm x List.mem_cons_self)
        rw [List.all_cons]
        rcases find x kv hm' pt with ⟨g1, _⟩ | ⟨z, v, g1, _, g3, _⟩
        · have : vb x = false := by show (match valueAt ys x.1 with | none => false | some z => PyData.eqv (valP x.2) (valP z)) = false; rw [g1]
          rw [this, Bool.false_and]
          exact .miss g1
        · have : vb x = PyData.eqv (valP x.2) (valP z) := by show (match valueAt ys x.1 with | none => false | some z => PyData.eqv (valP x.2) (valP z)) = _; rw [g1]
          rw [this]
          exact .hit g1 (PySem.W.keq_flat (look x kv hm' pt).1 g3) (ih fun w hw => hm w (List.mem_cons_of_mem _ hw))
    unfold sameD
    rw [hall, pr.length, pr'.length]
    have hh : xs.length = ys.length → PySem.W.KeqHits X.A.in1 s ys xs (xs.all vb) := fun _ => hits xs fun _ m => m
    exact ⟨fun {Q} hq => PySem.W.keq_eq d.nosys d'.nosys dd dd' (by omega) hh hq, fun {Q} hq => PySem.W.keq_ne d.nosys d'.nosys dd dd' (by omega) hh hq⟩
end
end DL
namespace DL
open PySem PySem.Spec L2 PyProof.Rows
open Builtin.Frozenset

/-! ## set(xs), xs a list of ints -/
abbrev setE (w : World) : Obj := { cls := .type "set", dict := none, data := .set #[] 0 (.fresh 0 0 (!w.params.followText "set-order")) }
variable {P : Program} {w : World} {A : Around} {E : Value → Shared → Prop} {s : Shared}
theorem set_of_list {l : Addr} {items : Array Value} (ns : List Int) {Q : Value → Shared → Prop} (hh : A.handled = none) (hl : s.heap.IsList l items) (hit : IntsAre items.toList ns) (hb : ns.length + 1 < scanBound)
    (k : ∀ (h' : Heap) (tk c : Nat), SetR w h' s.heap.objs.size (fun j => decide (j ∈ ns)) c → c ≤ ns.length → (∀ b o, s.heap.get? b = some o → h'.get? b = some o) → Q (.ref s.heap.objs.size) { s with heap := h', toks := tk }) :
    wpAny (model P w) A (call (.type "set") [.ref l]) Q E s := by
  have sz : items.size = ns.length := by rw [← Array.length_toList]; exact IntsAre.length hit
  have c1 := F.called_set.mro
  obtain ⟨c, tl, hmro⟩ := c1
  have hmade := F.called_set.made
  have hsub := F.called_set.sub
  have h1 := F.called_set.notType
  have h2 := F.called_set.canCreate
  have hct := F.typeCall_set_1 (.ref l)
  refine wpAny_call (codeAny_of_tree ?_)
  show wpAny _ _ (callAny (.type "set") _) _ _ _
  refine wpAny_pure ⟨Code.quiet_builtin _ (by decide +kernel), codeAny_builtin F.entry_type_call ?_⟩
  rw [Around.under_plain (weight_type_call_type "set" [.ref l] []) rfl]
  repeat (any_goals first | assumption | wp_step)
  refine codeAny_mono (code_set_led1 (.ref l) (E := E) (Q₁ := fun obj s1 => obj = .ref s.heap.objs.size ∧ s1 = { s with heap := s.heap.push (setE w) }) ⟨rfl, rfl⟩) fun r s1 hr => ?_
  cases r with
  | error e => exact hr
  | ok fl =>
    cases fl with
    | ret obj =>
      obtain ⟨rfl, rfl⟩ := hr
      have e0 : (s.heap.push (setE w)).get? s.heap.objs.size = some (setE w) := Heap.get?_push_size _ rfl
      have hT : Shared.TypeIs { s with heap := s.heap.push (setE w) } (.ref s.heap.objs.size) "set" := ⟨_, e0, rfl⟩
      have hli := F.called_set.init.lookup
      have hbi := F.called_set.init.bind (.ref s.heap.objs.size)
      repeat (any_goals first | assumption | wp_step)
      refine codeAny_mono (codeAny_call_builtin (R := wants (fun r s2 => r = .none ∧ ∃ h' tk c, s2 = { s with heap := h', toks := tk } ∧ SetR w h' s.heap.objs.size (fun j => decide (j ∈ ns)) c ∧ c ≤ ns.length ∧ (∀ b o, s.heap.get? b = some o → h'.get? b = some o)) E) F.called_set.init.plain F.entry_set_init (check_set_init_1 hT ?_)) fun r2 s2 hr2 => ?_
      · have hlt : l < s.heap.objs.size := by obtain ⟨_, q, _⟩ := hl; exact Heap.lt_size q
        have hl1 : (s.heap.push (setE w)).IsList l items := hl.push _
        have z1 : (s.heap.push (setE w)).objs.size = s.heap.objs.size + 1 := Heap.size_push ..
        have hh3 : A.in1.in1.in1.handled = none := by simp [hh]
        have hneI : l ≠ (s.heap.push (setE w)).objs.size := by rw [z1]; exact Nat.ne_of_lt (Nat.lt_succ_of_lt hlt)
        have hSf : s.heap.objs.size ∉ [(s.heap.push (setE w)).objs.size, l] := by
          rw [z1]
          simp only [List.mem_cons, List.mem_singleton, List.not_mem_nil, or_false, not_or]
          exact ⟨Nat.ne_of_lt (Nat.lt_succ_self _), Nat.ne_of_gt hlt⟩
        have hval : ∀ (i : Nat) (v : Value), items[i]? = some v → ∃ k t, ns[i]? = some k ∧ v = .int k t := fun i v hv => by
          have hi : i < ns.length := by rw [← sz]; exact (Array.getElem?_eq_some_iff.mp hv).1
          obtain ⟨t, e⟩ := IntsAre.int_at hit i v (by rw [Array.getElem?_toList]; exact hv)
          exact ⟨ns[i], t, List.getElem?_eq_getElem hi, by rw [e, List.getD_eq_getElem?_getD, List.getElem?_eq_getElem hi]; rfl⟩
        obtain ⟨ol, hol, hcl, nl, hdl⟩ := id hl1
        obtain ⟨ocls, odict, odata, oslots⟩ := ol
        simp only at hcl hdl
        subst hcl; subst hdl
        have a1 := F.sub_list_set
        have a2 := F.sub_list_frozenset
        have a3 : (Value.type "list" == Value.type "dict") = false := by decide
        unfold Builtin.«set.__init__» noKeywords Builtin.Frozenset.updateFrom
        generalize hPI : pyIter = PI
        wp_walk
        subst hPI
        refine wpAny_pyIter_list hl1 ?_
        refine wpAny_bind (wpAny_runValue ?_)
        refine set_update_ints ((Walks.list hh3 _ l hneI items).toS) s.heap.objs.size hSf ns sz hb hval (items.size - 0) 0 _ (by omega) (Nat.zero_le _) ⟨⟨_, Heap.get?_push_size _ rfl, rfl, rfl⟩, hl1.push _⟩ ⟨0, Nat.le_refl 0, setR_new_at (Heap.get?_push_of_some _ e0)⟩ ?_
        rintro ⟨h', g2, d', tk', os'⟩ c' hm hc' hS'
        have eg : g2 = s.gens := hm.gens
        have ed : d' = s.drawn := hm.drawn
        have eo : os' = s.os := hm.os
        subst eg ed eo
        refine wpAny_pure ?_
        show wpAny _ _ (ret Value.none) _ _ _
        refine wpAny_pure ⟨rfl, h', tk', c', rfl, hS', by rw [← sz]; exact hc', fun b o e => ?_⟩
        have hb0 : b < s.heap.objs.size := Heap.lt_size e
        refine hm.heap b o ?_ (Heap.get?_push_of_some _ (Heap.get?_push_of_some _ e))
        rw [z1]
        simp only [List.mem_cons, List.mem_singleton, List.not_mem_nil, or_false, not_or]
        exact ⟨Nat.ne_of_lt hb0, Nat.ne_of_lt (Nat.lt_succ_of_lt hb0)⟩
      · cases r2 with
        | error e => exact hr2
        | ok fl2 =>
          cases fl2 with
          | ret r =>
            obtain ⟨rfl, h', tk, c, rfl, hS, hc, hk⟩ := hr2
            repeat (any_goals first | assumption | wp_step)
            exact k _ _ _ hS hc hk
          | _ => exact hr2.elim
    | _ => exact hr.elim
end DL
namespace DL
open PySem PySem.Spec L2

/-! ## a dict walked by its keys: the very object stands at its place -/
section
variable {P : Program} {w : World} {K : PySem.W.Frag} {tg : Expr} {d : Addr} {o : Obj} {es : Array DictEntry} {ep : Nat}
def Itp (d : Addr) (o : Obj) (es : Array DictEntry) : It :=
  ⟨fun i H => H d = some (PinO d o) ∧ ∃ en x, es[i]? = some en ∧ RelV x en.key, fun i H x H' => H' = H ∧ ∃ en, es[i]? = some en ∧ RelV x en.key, fun i H => H d = some (PinO d o) ∧ es.size ≤ i⟩
theorem turn_keysP (it : Addr) (hod : o.data = .dict es ep) : Turn P w K tg (Itp d o es) [it] it (fun i h => h.IsKeyIter it d i es.size ep) where
  mem := by simp
  obj := fun i h st b hb => by
    have e : b = it := by simpa using hb
    subst e
    obtain ⟨oi, e, c, dd⟩ := st
    exact ⟨oi, e, fun v z => by rw [dd] at z; cases z⟩
  keep := fun i h h' st k => st.at fun oi e => k it (by simp) oi e
  item := by
    intro X hP hw hK hc i pins s σ H E I hf st hg
    subst hP hw hK
    obtain ⟨hd, en, x, hen, hx⟩ := hg
    obtain ⟨f0, f1, f2, f3, f4, f5⟩ := hf it (by simp)
    have hgd := dct_obj I hd
    refine next_key_item st hgd hod rfl hen fun h' st' sb => ?_
    have I1 : Inv X pins σ H { s with heap := h' } := I.turned (t' := s.toks) (fun b ob hb e => (sb.2 b hb).trans e) f0 f1 f3 f4 f5
    obtain ⟨oi, e, c, dd⟩ := id st'
    exact ⟨en.key, rfl, go_of (s := { s with heap := h' }) e c dd (by decide) ⟨x, H, I1, hx, ⟨rfl, en, hen, hx⟩, st', fun b hb => (hf b hb).1⟩⟩
  done := by
    intro X hP hw hK hc i pins s σ H E I hf st hg
    subst hP hw hK
    obtain ⟨hd, hi⟩ := hg
    obtain ⟨f0, f1, f2, f3, f4, f5⟩ := hf it (by simp)
    have hgd := dct_obj I hd
    exact next_key_end (I.ok.hd hc) st hgd hod rfl hi fun h' eb => ⟨rfl, I.turned (t' := s.toks) (fun b ob hb e => eb b ob hb e) f0 f1 f3 f4 f5⟩
  self := fun A i s Q E st h => by
    refine wpAny_pyIter_slot st.typeIs PySem.F.slot_dict_keyiterator_iter (wpAny_call_entry PySem.F.slot_dict_keyiterator_iter st.typeIs PySem.F.entry_dict_keyiterator_iter ?_ (PySem.F.args_dict_keyiterator_iter_1 _))
    show wpAny _ _ (ret (.ref it)) _ _ s
    exact wpAny_pure ⟨_, rfl, "dict_keyiterator", _, st.typeIs, PySem.F.slot_dict_keyiterator_next.lookup, h⟩
def Itpv (d : Addr) (o : Obj) (es : Array DictEntry) : It :=
  ⟨fun i H => H d = some (PinO d o) ∧ ∃ en x, es[i]? = some en ∧ RelV x en.val, fun i H x H' => H' = H ∧ ∃ en, es[i]? = some en ∧ RelV x en.val, fun i H => H d = some (PinO d o) ∧ es.size ≤ i⟩
theorem turn_valsP (it : Addr) (hex : o.ExactDict) (hod : o.data = .dict es ep) : Turn P w K tg (Itpv d o es) [it] it (fun i h => h.IsValIter it d i es.size ep) where
  mem := by simp
  obj := fun i h st b hb => by
    have e : b = it := by simpa using hb
    subst e
    obtain ⟨oi, e, c, dd⟩ := st
    exact ⟨oi, e, fun v z => by rw [dd] at z; cases z⟩
  keep := fun i h h' st k => st.at fun oi e => k it (by simp) oi e
  item := by
    intro X hP hw hK hc i pins s σ H E I hf st hg
    subst hP hw hK
    obtain ⟨hd, en, x, hen, hx⟩ := hg
    obtain ⟨f0, f1, f2, f3, f4, f5⟩ := hf it (by simp)
    have hgd := dct_obj I hd
    obtain ⟨hlt, he⟩ := Array.getElem?_eq_some_iff.mp hen
    refine wpAny_pyNext_values_item_raw st ⟨o, hgd, hex, hod⟩ hlt fun h' st' sb => ?_
    have I1 : Inv X pins σ H { s with heap := h' } := I.turned (t' := s.toks) (fun b ob hb e => (sb.2 b hb).trans e) f0 f1 f3 f4 f5
    obtain ⟨oi, e, c, dd⟩ := id st'
    refine ⟨es[i].val, rfl, go_of (s := { s with heap := h' }) e c dd (by decide) ⟨x, H, I1, by rw [he]; exact hx, ⟨rfl, en, hen, hx⟩, st', fun b hb => (hf b hb).1⟩⟩
  done := by
    intro X hP hw hK hc i pins s σ H E I hf st hg
    subst hP hw hK
    obtain ⟨hd, hi⟩ := hg
    obtain ⟨f0, f1, f2, f3, f4, f5⟩ := hf it (by simp)
    exact wpAny_pyNext_values_end_raw (I.ok.hd hc) st ⟨o, dct_obj I hd, hex, hod⟩ hi fun h' eb => ⟨rfl, I.turned (t' := s.toks) (fun b ob hb e => eb b ob hb e) f0 f1 f3 f4 f5⟩
  self := fun A i s Q E st h => wpAny_pyIter_valiter st h
def Itpi (d : Addr) (o : Obj) (es : Array DictEntry) : It :=
  ⟨fun i H => H d = some (PinO d o) ∧ ∃ en x y, es[i]? = some en ∧ RelV x en.key ∧ RelV y en.val, fun i H z H' => ∃ T x y en, es[i]? = some en ∧ RelV x en.key ∧ RelV y en.val ∧ z = .ref T ∧ H T = none ∧ H' = upd H T (.tup [x, y]), fun i H => H d = some (PinO d o) ∧ es.size ≤ i⟩
theorem turn_itemsP {elts : List Expr} {kk : Nat} {tpos : Pos} (it : Addr) (hex : o.ExactDict) (hod : o.data = .dict es ep) : Turn P w K (.Tuple elts kk tpos) (Itpi d o es) [it] it (fun i h => ∃ ok ov, IsItemIter h it d i es.size ep ok ov) where
  mem := by simp
  obj := fun i h st b hb => by
    have e : b = it := by simpa using hb
    subst e
    obtain ⟨ok, ov, e⟩ := st
    exact ⟨_, e, fun v z => nomatch z⟩
  keep := fun i h h' st k => let ⟨ok, ov, e⟩ := st; ⟨ok, ov, k it (by simp) _ e⟩
  item := by
    intro X hP hw hK hc i pins s σ H E I hf st hg
    subst hP hw hK
    obtain ⟨hd, en, x, y, hen, hx, hy⟩ := hg
    have hgd := dct_obj I hd
    obtain ⟨hltE, he⟩ := Array.getElem?_eq_some_iff.mp hen
    obtain ⟨ok, ov, hit⟩ := st
    have hlt : it < s.heap.objs.size := Heap.lt_size hit
    refine wpAny_pyNext_items_item_raw hit ⟨o, hgd, hex, hod⟩ hltE fun h' ho hT hz hk => ?_
    rw [he] at ho hT
    refine ⟨_, rfl, wpAny_letOwnedTupleGo_items (s := { s with heap := h' }) ho fun h'' he' sb => ?_⟩
    have hT2 : h''.get? s.heap.objs.size = some { cls := .type "tuple", data := .seq #[en.key, en.val] } := (sb.2 _ (Nat.ne_of_gt hlt)).trans hT
    have new : ObjOk X.prog X.w (upd H s.heap.objs.size (.tup [x, y])) h'' s.heap.objs.size (.tup [x, y]) :=
      ⟨by show 2 ≤ sizeLine; decide, [en.key, en.val], .cons hx (.cons hy .nil), ⟨_, hT2, rfl, _, rfl⟩⟩
    have I1 : Inv X pins σ (upd H s.heap.objs.size (.tup [x, y])) { s with heap := h'' } :=
      I.turnedNew (t' := s.toks) (ch := [it]) (fun b ob hb e => (sb.2 b (by simpa using hb)).trans (hk b ob (by simpa using hb) e)) hf (Nat.le_refl _) new
    refine ⟨.ref s.heap.objs.size, _, I1, rfl, ⟨_, x, y, en, hen, hx, hy, rfl, I.hok.fresh (Nat.le_refl _), rfl⟩, ⟨en.key, en.val, he'⟩, fun b hb => ?_⟩
    have e : b = it := by simpa using hb
    rw [e, upd_ne (Nat.ne_of_lt hlt)]
    exact (hf it (by simp)).1
  done := by
    intro X hP hw hK hc i pins s σ H E I hf st hg
    subst hP hw hK
    obtain ⟨hd, hi⟩ := hg
    obtain ⟨f0, f1, f2, f3, f4, f5⟩ := hf it (by simp)
    obtain ⟨ok, ov, hit⟩ := st
    exact wpAny_pyNext_items_end_raw (I.ok.hd hc) hit ⟨o, dct_obj I hd, hex, hod⟩ hi fun h' eb => ⟨rfl, I.turned (t' := s.toks) (fun b ob hb e => eb b ob hb e) f0 f1 f3 f4 f5⟩
  self := fun A i s Q E st h => let ⟨_, _, e⟩ := st; PySem.W.kcp_self e h
end
/-- an entry's key as a value -/
theorem ent_key {K : KW} {H : Hp} {b : Bool} {kv : D × D} {e : DictEntry} (r : Ent K H b kv e) : ∃ x y, RelV x e.key ∧ RD K H kv.1 x ∧ RelV y e.val ∧ RD K H kv.2 y := by
  cases b with
  | true => obtain ⟨n, a, v, h1, h2, h3, h4, h5, h6, h7⟩ := r.ex; exact ⟨.ref a, v, h4, h5, h7, h6⟩
  | false =>
    obtain ⟨l, v, h1, h2, h3, h4, h5⟩ := r.ex
    refine ⟨kV l, v, relV_key h3, ?_, h5, h4⟩
    cases hd : kv.1 with
    | int i => rw [hd] at h1; cases h1; exact .int i
    | str x => rw [hd] at h1; cases h1; exact .str x
    | _ => rw [hd] at h1; cases h1
theorem relV_fun {x y : V} {u : Value} (h1 : RelV x u) (h2 : RelV y u) : x = y := by
  have key : ∀ {z : V}, RelV z u → absV u = some z := fun {z} h => by
    cases z with
    | int i => obtain ⟨t, e⟩ := h; rw [e]; rfl
    | str i => obtain ⟨t, e⟩ := h; rw [e]; rfl
    | byt i => obtain ⟨t, e⟩ := h; rw [e]; rfl
    | flt i => obtain ⟨t, e⟩ := h; rw [e]; rfl
    | _ => rw [show u = _ from h]; rfl
  exact Option.some.inj ((key h1).symm.trans (key h2))
theorem paired_at {α β : Type} {G : α → β → Prop} {l₁ : List α} {l₂ : List β} (h : Paired G l₁ l₂) : l₁.length = l₂.length ∧ ∀ (i : Nat) (a : α), l₁[i]? = some a → ∃ b, l₂[i]? = some b ∧ G a b :=
  ⟨h.length, fun _ _ e => L2.paired_get h e⟩
end DL
namespace DL
open PySem PySem.Spec L2 PyProof.Rows

/-! ## sets whose items are tuples of texts, numbers, tuples -/
section
variable {prog : Program} {w : World}
/-- a question that is answered by b whatever is around -/
def Says (prog : Program) (w : World) (s : Shared) (t : Sem Bool) (P : Bool → Prop) : Prop := ∀ (A : Around) (E : Value → Shared → Prop) (Q : Bool → Shared → Prop), (∀ b, P b → Q b s) → wpAny (model prog w) A t Q E s
theorem says_ofA_tup {n : Nat} {s : Shared} {a : Addr} {o : Obj} {vs : Array Value} {m : Nat} (ho : s.heap.get? a = some o) (hc : o.cls = .type "tuple") (hd : o.data = .seq vs m) (hq : ∀ v ∈ vs.toList, Says prog w s (ofAClassStatement n v) (· = false)) : Says prog w s (ofAClassStatement (n + 1) (.ref a)) (· = false) := fun A E Q h => by
  have hT : s.TypeIs (.ref a) "tuple" := ⟨o, ho, hc⟩
  unfold ofAClassStatement
  refine wpAny_bind (wpAny_typeOf hT ?_)
  dsimp only
  simp only [show (("tuple" : String) == "tuple") = true by decide, if_true, Bool.not_true, Bool.false_eq_true, if_false]
  try refine wpAny_bind (wpAny_pure ?_)
  try simp only [Bool.not_true, Bool.false_eq_true, if_false]
  show wpAny _ _ (seqItems? (.ref a) >>= _) _ _ s
  refine wpAny_bind (wpAny_seqItems ho hd ?_)
  dsimp only
  refine wpAny_bind ?_
  show wpAny _ _ (forIn vs _ _) _ _ s
  rw [← Array.forIn_toList]
  refine wpAny_forIn_list _ (fun rest r s' => r.1 = none ∧ s' = s ∧ ∀ v ∈ rest, Says prog w s (ofAClassStatement n v) (· = false)) _ ?_ ?_ _ _ ⟨rfl, rfl, hq⟩
  · rintro v rest r s' ⟨hr, rfl, hall⟩
    refine wpAny_bind (hall v List.mem_cons_self _ _ _ fun b hb => ?_)
    subst hb
    simp only [Bool.false_eq_true, if_false]
    exact wpAny_pure ⟨rfl, rfl, fun u hu' => hall u (List.mem_cons_of_mem _ hu')⟩
  · rintro ⟨r1, r2⟩ s' ⟨hr, rfl, _⟩
    simp only at hr
    subst hr
    exact wpAny_pure (h _ rfl)
theorem says_flat {s : Shared} {t : Sem Bool} {P : Bool → Prop} {b : Bool} (e : t = pure b) (hb : P b) : Says prog w s t P := fun A E Q h => by rw [e]; exact wpAny_pure (h _ hb)
mutual
theorem ofA_key : ∀ (k : NestedKey) (v : Value) (n : Nat) (s : Shared), NestedIs s.heap k v → k.depth ≤ n → Says prog w s (ofAClassStatement n v) (· = false)
  | .none, _, n, s, x, _ => by cases x; exact says_flat (by cases n <;> rfl) rfl
  | .num i, _, n, s, x, _ => by cases x <;> exact says_flat (by cases n <;> rfl) rfl
  | .text y, _, n, s, x, _ => by cases x; exact says_flat (by cases n <;> rfl) rfl
  | .tup ks, _, n, s, x, hn => by
    cases x with
    | tup hg hc hd hk =>
      simp only [NestedKey.depth] at hn
      cases n with
      | zero => omega
      | succ n => exact says_ofA_tup hg hc hd (ofA_keys ks _ n s hk (by omega))
theorem ofA_keys : ∀ (ks : List NestedKey) (vs : List Value) (n : Nat) (s : Shared), NestedAll s.heap ks vs → NestedKey.depthAll ks ≤ n → ∀ v ∈ vs, Says prog w s (ofAClassStatement n v) (· = false)
  | [], _, n, s, x, _, v, hv => by cases x; cases hv
  | k :: ks, _, n, s, x, hn, v, hv => by
    cases x with
    | cons x1 x2 =>
      simp only [NestedKey.depthAll] at hn
      rcases List.mem_cons.mp hv with e | hv
      · rw [e]; exact ofA_key k _ n s x1 (by omega)
      · exact ofA_keys ks _ n s x2 (by omega) v hv
end
theorem says_hashBy_tup {n : Nat} {s : Shared} {a : Addr} {o : Obj} {vs : Array Value} {m : Nat} (ho : s.heap.get? a = some o) (hc : o.cls = .type "tuple") (hd : o.data = .seq vs m) (hq : ∀ v ∈ vs.toList, Says prog w s (hashByValue n v) fun _ => True) : Says prog w s (hashByValue (n + 1) (.ref a)) fun _ => True := fun A E Q h => by
  have hT : s.TypeIs (.ref a) "tuple" := ⟨o, ho, hc⟩
  unfold hashByValue
  refine wpAny_bind (wpAny_specialOf hT F.slot_tuple_hash.lookup ?_)
  show wpAny _ _ (seqItems? (.ref a) >>= _) _ _ s
  refine wpAny_bind (wpAny_seqItems ho hd ?_)
  refine wpAny_bind ?_
  show wpAny _ _ (forIn vs _ _) _ _ s
  rw [← Array.forIn_toList]
  refine wpAny_forIn_list _ (fun rest r s' => r.1 = none ∧ s' = s ∧ ∀ v ∈ rest, Says prog w s (hashByValue n v) fun _ => True) _ ?_ ?_ _ _ ⟨rfl, rfl, hq⟩
  · rintro v rest r s' ⟨hr, rfl, hall⟩
    refine wpAny_bind (hall v List.mem_cons_self _ _ _ fun b _ => ?_)
    cases b with
    | true =>
      simp only [Bool.not_true, Bool.false_eq_true, if_false]
      exact wpAny_pure ⟨rfl, rfl, fun u hu' => hall u (List.mem_cons_of_mem _ hu')⟩
    | false =>
      simp only [Bool.not_false, if_true]
      exact wpAny_pure (wpAny_pure (h _ True.intro))
  · rintro ⟨r1, r2⟩ s' ⟨hr, rfl, _⟩
    simp only at hr
    subst hr
    exact wpAny_pure (h _ True.intro)
mutual
theorem hashBy_key : ∀ (k : NestedKey) (v : Value) (n : Nat) (s : Shared), NestedIs s.heap k v → k.depth ≤ n → Says prog w s (hashByValue n v) fun _ => True
  | .none, _, n, s, x, _ => by cases x; exact says_flat (b := true) (by cases n <;> rfl) True.intro
  | .num i, _, n, s, x, _ => by cases x <;> exact says_flat (b := true) (by cases n <;> rfl) True.intro
  | .text y, _, n, s, x, _ => by cases x; exact says_flat (b := false) (by cases n <;> rfl) True.intro
  | .tup ks, _, n, s, x, hn => by
    cases x with
    | tup hg hc hd hk =>
      simp only [NestedKey.depth] at hn
      cases n with
      | zero => omega
      | succ n => exact says_hashBy_tup hg hc hd (hashBy_keys ks _ n s hk (by omega))
theorem hashBy_keys : ∀ (ks : List NestedKey) (vs : List Value) (n : Nat) (s : Shared), NestedAll s.heap ks vs → NestedKey.depthAll ks ≤ n → ∀ v ∈ vs, Says prog w s (hashByValue n v) fun _ => True
  | [], _, n, s, x, _, v, hv => by cases x; cases hv
  | k :: ks, _, n, s, x, hn, v, hv => by
    cases x with
    | cons x1 x2 =>
      simp only [NestedKey.depthAll] at hn
      rcases List.mem_cons.mp hv with e | hv
      · rw [e]; exact hashBy_key k _ n s x1 (by omega)
      · exact hashBy_keys ks _ n s x2 (by omega) v hv
end
end
end DL
namespace DL
open PySem PySem.Spec L2 PyProof.Rows

/-! ## tables of sets, of any size whose mask the probes go through -/
/-- every slot begins a run -/
structure Meet (m : Nat) : Prop where
  run : ∀ (h : Int) {j : Nat}, j ≤ m → ∃ n, n ≤ m + 12 ∧ runI m (SetTable.bits h) n = j
theorem meet_small {m : Nat} (hm : MaskOk m) : Meet m := ⟨fun h _ hj => run_meets hm h hj⟩
def orb (m : Nat) : Nat → Nat → List Nat
  | 0, _ => []
  | n + 1, x => x :: orb m n ((x * 5 + 1) % (m + 1))
theorem orb_mem {m : Nat} {x : Nat} : ∀ (n a : Nat), x ∈ orb m n (lcgN m a) → ∃ b, b < n ∧ lcgN m (a + b) = x
  | 0, _, h => nomatch h
  | n + 1, a, h => by
    rcases List.mem_cons.mp h with e | h
    · exact ⟨0, Nat.succ_pos _, e.symm⟩
    · obtain ⟨b, hb, e⟩ := orb_mem n (a + 1) h
      exact ⟨b + 1, by omega, by rw [← e]; congr 1; omega⟩
theorem orb_511 : ((List.range 512).all fun j => (orb 511 512 0).contains j) = true := by decide +kernel
theorem lap_511 : lcgN 511 512 = 0 := by decide +kernel
theorem lap_more : ∀ k, lcgN 511 (512 + k) = lcgN 511 k
  | 0 => lap_511
  | k + 1 => by show (lcgN 511 (512 + k) * 5 + 1) % 512 = (lcgN 511 k * 5 + 1) % 512; rw [lap_more k]
theorem on_511 {j : Nat} (hj : j ≤ 511) : ∃ b, b ≤ 511 ∧ lcgN 511 b = j := by
  have h := List.all_eq_true.mp orb_511 j (List.mem_range.mpr (by omega))
  obtain ⟨b, h1, h2⟩ := orb_mem 512 0 (List.contains_iff_mem.mp h)
  exact ⟨b, by omega, by rw [← h2, Nat.zero_add]⟩
theorem meet_511 : Meet 511 := ⟨fun h j hj => by
  obtain ⟨a, ha, ea⟩ := on_511 (runI_le 511 (SetTable.bits h) 12)
  obtain ⟨b, hb, eb⟩ := on_511 hj
  have go : ∀ k, k ≤ 511 → lcgN 511 (a + k) = j → ∃ n, n ≤ 511 + 12 ∧ runI 511 (SetTable.bits h) n = j := fun k hk e =>
    ⟨12 + k, by omega, by rw [runI_tail (bits_lt h), ← ea, lcgN_add]; exact e⟩
  by_cases c : a ≤ b
  · exact go (b - a) (by omega) (by rw [show a + (b - a) = b by omega]; exact eb)
  · exact go (512 + b - a) (by omega) (by rw [show a + (512 + b - a) = 512 + b by omega, lap_more]; exact eb)⟩
theorem way_in (m : Nat) (h : Int) (k : Nat) : way m h k ≤ m := by
  have b := runEnd_bd (m := m) (i := SetTable.bits h % (m + 1)) (Nat.le_of_lt_succ (Nat.mod_lt _ (Nat.succ_pos m)))
  refine Nat.le_trans (Nat.le_add_right _ _) (nth_in (m := m) k (runAt m (SetTable.bits h % (m + 1)) (SetTable.bits h)) ?_)
  show SetTable.bits h % (m + 1) + (SetTable.runEnd m (SetTable.bits h % (m + 1)) - SetTable.bits h % (m + 1)) ≤ m
  omega
theorem Meet.way {m : Nat} (M : Meet m) (h : Int) {j : Nat} (hj : j ≤ m) : ∃ k, k < 10 * SetTable.turns m ∧ way m h k = j := by
  obtain ⟨n, hn, e⟩ := M.run h hj
  obtain ⟨k, hk, e2⟩ := run_nth m (SetTable.bits h) n
  exact ⟨k, by unfold SetTable.turns; omega, (congrArg SetTable.Probe.j e2).trans e⟩
/-- the least -/
theorem least_of {p : Nat → Prop} {n : Nat} (h : p n) : ∃ k, k ≤ n ∧ p k ∧ ∀ i, i < k → ¬ p i := st_least n h
/-- the masks that come -/
def Mk (m : Nat) : Prop := m = 7 ∨ m = 31 ∨ m = 127 ∨ m = 511
theorem Mk.meet {m : Nat} (h : Mk m) : Meet m := by
  rcases h with e | e | e | e
  · exact meet_small (.inl e)
  · exact meet_small (.inr (.inl e))
  · exact meet_small (.inr (.inr e))
  · subst e; exact meet_511
theorem size_308 : SetTable.sizeAbove (SetTable.grown 77) = 512 := by decide +kernel
/-- a table in which each is found again -/
structure SetTab (t : SetTable) (hs : List Int) : Prop where
  ris : Ris t.place.toList
  dm : t.dummies = #[]
  sz : t.place.size = hs.length
  meet : Meet t.mask
  bd : ∀ x ∈ t.place.toList, x ≤ t.mask
  reach : ∀ q ∈ hs.zip t.place.toList, ∃ k, way t.mask q.1 k = q.2 ∧ ∀ i, i < k → way t.mask q.1 i ∈ t.place.toList
section
variable {t : SetTable} {hs : List Int}
theorem SetTab.first (T : SetTab t hs) (hl : hs.length ≤ t.mask) (h : Int) : ∃ K, K < 10 * SetTable.turns t.mask ∧ way t.mask h K ∉ t.place.toList ∧ ∀ k, k < K → way t.mask h k ∈ t.place.toList := by
  obtain ⟨j, hj, hn⟩ := st_missing t.place.toList (t.mask + 1) (by have := T.sz; rw [Array.length_toList]; omega)
  obtain ⟨k, hk, e⟩ := T.meet.way h (Nat.le_of_lt_succ hj)
  obtain ⟨K, h1, h2, h3⟩ := least_of (p := fun k => way t.mask h k ∉ t.place.toList) (n := k) (by rw [e]; exact hn)
  exact ⟨K, by omega, h2, fun i hi => Classical.not_not.mp (h3 i hi)⟩
theorem SetTab.before (T : SetTab t hs) {h : Int} {K i j : Nat} (hK : way t.mask h K ∉ t.place.toList) (hi : hs[i]? = some h) (hj : t.place.toList[i]? = some j) : ∃ k, k < K ∧ way t.mask h k = j := by
  obtain ⟨k, e, hb⟩ := T.reach (h, j) (List.mem_of_getElem? (i := i) (List.getElem?_zip_eq_some.mpr ⟨hi, hj⟩))
  refine ⟨k, Nat.lt_of_not_le fun c => hK ?_, e⟩
  rcases Nat.lt_or_eq_of_le c with c | c
  · exact hb K c
  · subst c
    rw [show way t.mask h K = j from e]
    exact List.mem_of_getElem? hj
theorem SetTab.put (T : SetTab t hs) {h : Int} {K : Nat} (hK : way t.mask h K ∉ t.place.toList) (hb : ∀ k, k < K → way t.mask h k ∈ t.place.toList) {j p : Nat} (ej : way t.mask h K = j) (ep : SetTable.below t.place j = p) :
    (t.put j).2 = p ∧ p ≤ hs.length ∧ SetTab (t.put j).1 (hs.take p ++ h :: hs.drop p) ∧ (t.put j).1.mask = t.mask ∧ (t.put j).1.led = t.led ∧ (t.put j).1.fill = hs.length + 1 := by
  subst ej
  obtain ⟨c1, _, _⟩ := below_cut T.ris (way t.mask h K)
  rw [ep] at c1
  have pl : (t.put (way t.mask h K)).1.place.toList = t.place.toList.take p ++ way t.mask h K :: t.place.toList.drop p := by rw [← ep]; exact put_place t _
  have len : t.place.toList.length = hs.length := by rw [Array.length_toList]; exact T.sz
  have c2 : p ≤ hs.length := by rw [← T.sz]; exact c1
  have size : (t.put (way t.mask h K)).1.place.size = hs.length + 1 := by
    rw [← Array.length_toList, pl, List.length_append, List.length_cons, List.length_take, List.length_drop]; omega
  have up : ∀ x, x = way t.mask h K ∨ x ∈ t.place.toList ↔ x ∈ (t.put (way t.mask h K)).1.place.toList := fun x => by
    have e : x ∈ t.place.toList ↔ x ∈ t.place.toList.take p ∨ x ∈ t.place.toList.drop p := by rw [← List.mem_append, List.take_append_drop]
    rw [pl, List.mem_append, List.mem_cons, e]
    constructor <;> rintro (z | z | z) <;> simp [z]
  have dm := put_dm T.dm (way t.mask h K)
  refine ⟨ep, c2, ⟨ris_insert T.ris fun e => hK (List.mem_of_getElem? (by rw [Array.getElem?_toList]; exact e)), dm, ?_, T.meet, fun x hx => ?_, fun q hq => ?_⟩, rfl, rfl, ?_⟩
  · rw [size, List.length_append, List.length_cons, List.length_take, List.length_drop]; omega
  · rcases (up x).mpr hx with z | z
    · rw [z]; exact way_in _ _ _
    · exact T.bd x z
  · have hz : hs.zip t.place.toList = (hs.take p).zip (t.place.toList.take p) ++ (hs.drop p).zip (t.place.toList.drop p) := by
      rw [← List.zip_append (by rw [List.length_take, List.length_take, len]), List.take_append_drop, List.take_append_drop]
    have old : q ∈ hs.zip t.place.toList → ∃ k, way t.mask q.1 k = q.2 ∧ ∀ i, i < k → way t.mask q.1 i ∈ (t.put (way t.mask h K)).1.place.toList := fun hq => by
      obtain ⟨k, e, z⟩ := T.reach q hq
      exact ⟨k, e, fun i hi => (up _).mp (.inr (z i hi))⟩
    rw [pl, List.zip_append (by rw [List.length_take, List.length_take, len]), List.zip_cons_cons] at hq
    show ∃ k, way t.mask q.1 k = q.2 ∧ _
    rcases List.mem_append.mp hq with z | z
    · exact old (by rw [hz]; exact List.mem_append.mpr (.inl z))
    · rcases List.mem_cons.mp z with z | z
      · subst z
        exact ⟨K, rfl, fun i hi => (up _).mp (.inr (hb i hi))⟩
      · exact old (by rw [hz]; exact List.mem_append.mpr (.inr z))
  · show (t.put (way t.mask h K)).1.place.size + (t.put (way t.mask h K)).1.dummies.size = _
    rw [size, dm]; rfl
end
/-! ### laid anew -/
theorem seat {m : Nat} (M : Meet m) {owner : Array (Option Nat)} (h : Int) {j : Nat} (hj : j ≤ m) (hf : oAt owner j = none) :
    ∃ K, SetTable.layClean.free m owner (SetTable.turns m) (SetTable.bits h % (m + 1)) (SetTable.bits h) = some (way m h K) ∧ oAt owner (way m h K) = none ∧ ∀ k, k < K → oAt owner (way m h k) ≠ none := by
  obtain ⟨n, hn, e⟩ := M.run h hj
  have ej : way m h (off m (SetTable.bits h % (m + 1)) (SetTable.bits h) n) = j := by
    have z := nth_off m n (SetTable.bits h % (m + 1)) (SetTable.bits h)
    rw [itL_run] at z
    exact (congrArg SetTable.Probe.j z).trans e
  obtain ⟨K, k1, k2, k3⟩ := least_of (p := fun k => oAt owner (way m h k) = none) (by rw [ej]; exact hf)
  refine ⟨K, free_spec m owner _ n _ _ K (by unfold SetTable.turns; omega) k1 (fun k hk => ?_) (by rw [show oAt owner _ = none from k2]; rfl), k2, k3⟩
  cases z : oAt owner (way m h k) with
  | none => exact absurd z (k3 k hk)
  | some _ => rfl
theorem seated {m : Nat} (M : Meet m) {done : List Int} {owner : Array (Option Nat)} (W : Own m done owner) (hl : done.length ≤ m) (h : Int) :
    ∃ j, SetTable.layClean.free m owner (SetTable.turns m) (SetTable.bits h % (m + 1)) (SetTable.bits h) = some j ∧ Own m (done ++ [h]) (owner.setIfInBounds j (some done.length)) := by
  obtain ⟨ps, lp, inp⟩ := W.ps
  obtain ⟨j0, lt0, no0⟩ := st_missing ps (m + 1) (by omega)
  have free0 : oAt owner j0 = none := Classical.byContradiction fun c => no0 (inp j0 (by omega) c)
  obtain ⟨K, e1, e2, e3⟩ := seat M h (Nat.le_of_lt_succ lt0) free0
  have jm := way_in m h K
  obtain ⟨j, ej⟩ : ∃ j, way m h K = j := ⟨_, rfl⟩
  rw [ej] at e1 e2 jm
  have self := oAt_set_self (some done.length) (j := j) (owner := owner) (by rw [W.sz]; omega)
  have up : ∀ {i : Nat}, oAt owner i ≠ none → oAt (owner.setIfInBounds j (some done.length)) i ≠ none := fun {i} hi => by
    by_cases c : i = j
    · rw [c, self]; simp
    · rw [oAt_set_ne _ c]; exact hi
  refine ⟨j, e1, by rw [Array.size_setIfInBounds]; exact W.sz, fun i k hi e => ?_, fun k hk => ?_, j :: ps, by simp [lp], fun i hi e => ?_⟩
  · by_cases c : i = j
    · subst c
      rw [self] at e
      cases e
      exact ⟨h, K, by simp, ej, fun k' hk' => up (e3 k' hk')⟩
    · rw [oAt_set_ne _ c] at e
      obtain ⟨h', K', a1, a2, a3⟩ := W.at_ i k hi e
      exact ⟨h', K', by rw [List.getElem?_append_left (List.getElem?_eq_some_iff.mp a1).1]; exact a1, a2, fun k' hk' => up (a3 k' hk')⟩
  · by_cases c : k < done.length
    · obtain ⟨i, hi, e⟩ := W.all k c
      refine ⟨i, hi, ?_⟩
      by_cases d : i = j
      · subst d; rw [e2] at e; cases e
      · rw [oAt_set_ne _ d]; exact e
    · have : k = done.length := by simp at hk; omega
      exact ⟨j, jm, by rw [self, this]⟩
  · by_cases c : i = j
    · simp [c]
    · rw [oAt_set_ne _ c] at e
      exact List.mem_cons_of_mem _ (inp i hi e)
theorem seats {m : Nat} (M : Meet m) : ∀ (more done : List Int) (owner : Array (Option Nat)), Own m done owner → done.length + more.length ≤ m + 1 →
    ∃ ow, more.foldl (stepF m) (some (owner, done.length)) = some (ow, done.length + more.length) ∧ Own m (done ++ more) ow
  | [], done, owner, W, _ => ⟨owner, by simp, by simpa using W⟩
  | h :: more, done, owner, W, hl => by
    have hl2 : done.length + (more.length + 1) ≤ m + 1 := hl
    obtain ⟨j, e, W1⟩ := seated M W (by omega) h
    obtain ⟨ow, f, W2⟩ := seats M more (done ++ [h]) _ W1 (by simp; omega)
    refine ⟨ow, ?_, by simpa using W2⟩
    rw [List.foldl_cons, stepF_some e]
    simpa [Nat.add_comm, Nat.add_left_comm, Nat.add_assoc] using f
theorem lays {m : Nat} (M : Meet m) {hs : Array Int} (hn : hs.size ≤ m) : ∃ ow, SetTable.layClean m hs = some ow ∧ Own m hs.toList ow := by
  obtain ⟨ow, f, W⟩ := seats M hs.toList [] _ (Own.init m) (by simp; omega)
  rw [List.length_nil] at f
  exact ⟨ow, by rw [layClean_eq, f]; rfl, W⟩
theorem relays (t : SetTable) {hs : Array Int} {wanted m : Nat} (hw : SetTable.sizeAbove wanted - 1 = m) (M : Meet m) (hn : hs.size ≤ m) :
    ∃ t' order, t.relaid hs wanted = some (t', order) ∧ order.toList.Perm (List.range hs.size) ∧ SetTab t' (order.toList.map fun i => hs.getD i 0) ∧ t'.mask = m ∧ t'.led = t.led := by
  obtain ⟨ow, e, W⟩ := lays M hn
  have rr := ris_live (fun j => ow.getD j none) (List.range (m + 1)) (by unfold Ris; first | exact List.pairwise_lt_range | exact List.pairwise_lt_range _)
  have r1 : Ris ((liveOf m ow).map (·.1)) := rr.1
  have r2 : ∀ x ∈ (liveOf m ow).map (·.1), x ∈ List.range (m + 1) := rr.2
  clear rr
  have hr : t.relaid hs wanted = some (tabOf t m ow, ((liveOf m ow).map (·.2)).toArray) := by rw [relaid_eq, hw, e]; rfl
  have inL := fun {j k : Nat} => mem_live (m := m) (owner := ow) W.sz (j := j) (k := k)
  have all : ∀ k, k < hs.size → k ∈ (liveOf m ow).map (·.2) := fun k hk => by
    obtain ⟨j, b1, b2⟩ := W.all k (by rw [Array.length_toList]; exact hk)
    exact List.mem_map.mpr ⟨(j, k), inL.mpr ⟨b1, b2⟩, rfl⟩
  have len : (liveOf m ow).length = hs.size := by
    obtain ⟨ps, lp, inp⟩ := W.ps
    have nd : ((liveOf m ow).map (·.1)).Nodup := List.Pairwise.imp (fun h => Nat.ne_of_lt h) r1
    have a := nat_nodup_len _ ps nd fun x hx => by
      obtain ⟨⟨y, k⟩, hq, rfl⟩ := List.mem_map.mp hx
      obtain ⟨b1, b2⟩ := inL.mp hq
      exact inp y b1 (by rw [b2]; simp)
    have b := nat_nodup_len (List.range hs.size) ((liveOf m ow).map (·.2)) List.nodup_range fun k hk => all k (List.mem_range.mp hk)
    rw [List.length_map, lp] at a
    rw [List.length_map, List.length_range] at b
    have z : hs.toList.length = hs.size := rfl
    omega
  refine ⟨_, _, hr, perm_range _ _ (by show ((liveOf m ow).map (·.2)).length = _; rw [List.length_map]; exact len) all, ⟨r1, rfl, by simp [tabOf], M, fun x hx => Nat.le_of_lt_succ (List.mem_range.mp (r2 x hx)), fun q hq => ?_⟩, rfl, rfl⟩
  have z : (((liveOf m ow).map (·.2)).toArray.toList.map fun i => hs.getD i 0).zip (tabOf t m ow).place.toList = (liveOf m ow).map fun q => (hs.getD q.2 0, q.1) := by
    show (List.map _ ((liveOf m ow).map (·.2))).zip ((liveOf m ow).map (·.1)) = _
    rw [List.map_map, List.zip_map']; rfl
  rw [z] at hq
  obtain ⟨⟨y, k⟩, hq1, rfl⟩ := List.mem_map.mp hq
  obtain ⟨b1, b2⟩ := inL.mp hq1
  obtain ⟨h0, K, a1, a2, a3⟩ := W.at_ y k b1 b2
  have e0 : hs.getD k 0 = h0 := by rw [Array.getD_eq_getD_getElem?, ← Array.getElem?_toList, a1]; rfl
  refine ⟨K, by show way m (hs.getD k 0) K = y; rw [e0]; exact a2, fun i hi => ?_⟩
  show way m (hs.getD k 0) i ∈ (liveOf m ow).map (·.1)
  rw [e0]
  cases z : oAt ow (way m h0 i) with
  | none => exact absurd z (a3 i hi)
  | some k2 => exact List.mem_map.mpr ⟨(way m h0 i, k2), inL.mpr ⟨way_in _ _ _, z⟩, rfl⟩
end DL
namespace DL
open PySem PySem.Spec L2 PyProof.Rows

/-! ## sets whose items are tuples of texts, numbers, tuples: their tables -/
abbrev NL := List (Addr × NestedKey)
def nrow (w : World) (L : NL) : List (Int × Value) := L.map fun p => (p.2.hash w, Value.ref p.1)
abbrev nhs (w : World) (L : NL) : List Int := L.map fun p => p.2.hash w
def KeyIn (h : Heap) (p : Addr × NestedKey) : Prop := NestedIs h p.2 (.ref p.1) ∧ p.2.depth ≤ 8
structure NSet (w : World) (h : Heap) (a : Addr) (L : NL) (es : Array (Int × Value)) (ep : Nat) (t : SetTable) : Prop where
  ob : ∃ o, h.get? a = some o ∧ o.ExactSet ∧ o.data = .set es ep t
  rows : es.toList = nrow w L
  tab : SetTab t (nhs w L)
  mok : Mk t.mask
  nd : (L.map (·.2)).Nodup
  key : ∀ p ∈ L, KeyIn h p
  led : w.params.followText "set-order" = true ∨ t.led = true
  cap : L.length ≤ t.mask
  few : L.length < 256
abbrev Rm (L : NL) (t : SetTable) : Prop := L.length * 5 < t.mask * 3
abbrev nst (m : Nat) (h : Int) (c : Nat) : SetTable.Probe := nth m (runAt m (SetTable.bits h % (m + 1)) (SetTable.bits h)) c
theorem nst_dummy (m : Nat) (h : Int) : ∀ c, (nst m h c).dummy = none
  | 0 => rfl
  | c + 1 => by
    show (nth m _ (c + 1)).dummy = none
    rw [nth_succ]; unfold adv
    split <;> exact nst_dummy m h c
section
variable {P : Program} {w : World} {A : Around} {E : Value → Shared → Prop} {s : Shared} {a x : Addr} {L : NL} {es : Array (Int × Value)} {ep : Nat} {t : SetTable} {k : NestedKey}
theorem nrow_len : (nrow w L).length = L.length := List.length_map _
theorem NSet.size (R : NSet w s.heap a L es ep t) : es.size = L.length := by rw [← Array.length_toList, R.rows, nrow_len]
theorem NSet.psize (R : NSet w s.heap a L es ep t) : t.place.size = L.length := R.tab.sz.trans (List.length_map _)
theorem NSet.fits (R : NSet w s.heap a L es ep t) : t.fits es.size = true := by
  have h1 := R.psize; have h2 := R.size; have h3 := R.cap
  unfold SetTable.fits SetTable.fill
  rw [R.tab.dm, Bool.and_eq_true, beq_iff_eq, decide_eq_true_eq, h1, h2]
  exact ⟨rfl, show L.length + 0 ≤ t.mask by omega⟩
theorem NSet.entry (R : NSet w s.heap a L es ep t) {i : Nat} {p : Addr × NestedKey} (h : L[i]? = some p) : es[i]? = some (p.2.hash w, Value.ref p.1) := by
  rw [← Array.getElem?_toList, R.rows]
  simp only [nrow, List.getElem?_map, h, Option.map_some]
theorem NSet.get (R : NSet w s.heap a L es ep t) {i j : Nat} (h : t.place.toList[i]? = some j) : ∃ p, L[i]? = some p := by
  have h1 : i < t.place.toList.length := (List.getElem?_eq_some_iff.mp h).1
  rw [Array.length_toList, R.psize] at h1
  exact ⟨_, List.getElem?_eq_getElem h1⟩
theorem nroom (hu : A.units + 16 < cLine) : (nestedKind P w).room A := by show A.units + 8 < cLine; omega
theorem nseen (hx : KeyIn s.heap (x, k)) {ys : List Value} {Q : Bool → Shared → Prop} (hy : ∀ y ∈ ys, ∃ p, y = Value.ref p.1 ∧ KeyIn s.heap p) (q : Q false s) : wpAny (model P w) A (searchCouldBeSeen (.ref x) ys) Q E s := by
  unfold searchCouldBeSeen
  refine wpAny_bind (wpAny_forIn_list _ (fun rs r s' => r.1 = none ∧ s' = s ∧ ∀ y ∈ rs, ∃ p, y = Value.ref p.1 ∧ KeyIn s.heap p) _ ?_ ?_ _ _ ⟨rfl, rfl, hy⟩)
  · rintro v rs r s' ⟨hr, rfl, all⟩
    obtain ⟨p, rfl, hp⟩ := all v List.mem_cons_self
    have all' : ∀ y ∈ rs, ∃ p, y = Value.ref p.1 ∧ KeyIn s'.heap p := fun u hu => all u (List.mem_cons_of_mem _ hu)
    dsimp only
    by_cases hv : (x == p.1 || (carriedByValue (.ref x) && carriedByValue (.ref p.1))) = true
    · exact wp_if_pos hv (wpAny_pure ⟨rfl, rfl, all'⟩)
    · refine wp_if_neg hv (wpAny_bind ((nestedKind P w).quiet hx ?_))
      simp only [Bool.not_true, Bool.false_eq_true, if_false]
      refine wpAny_bind ((nestedKind P w).quiet hp ?_); simp only [Bool.not_true, Bool.false_eq_true, if_false]
      refine wpAny_bind (ofA_key k _ 8 s' hx.1 hx.2 _ _ _ fun b hb => ?_); subst hb; simp only [Bool.false_eq_true, if_false]
      refine wpAny_bind (ofA_key p.2 _ 8 s' hp.1 hp.2 _ _ _ fun b hb => ?_); subst hb; simp only [Bool.false_eq_true, if_false]
      exact wpAny_pure ⟨rfl, rfl, all'⟩
  · rintro ⟨r1, r2⟩ s' ⟨hr, rfl, _⟩
    simp only at hr; subst hr; exact wpAny_pure q
/-- a search for k from the c-th place of its way -/
theorem nfrom (R : NSet w s.heap a L es ep t) (hx : KeyIn s.heap (x, k)) (hu : A.units + 16 < cLine) {N : Nat} (n1 : N < 10 * SetTable.turns t.mask) (n2 : way t.mask (k.hash w) N ∉ t.place.toList) (n3 : ∀ c, c < N → way t.mask (k.hash w) c ∈ t.place.toList)
    {Q : SetFound → Shared → Prop} (yes : k ∈ L.map (·.2) → Q (.there none) s) (no : k ∉ L.map (·.2) → Q (.free (way t.mask (k.hash w) N) false) s) : ∀ (f c : Nat) (st : Option SetTable.Probe), st.getD (t.probeStart (k.hash w)) = nst t.mask (k.hash w) c → c ≤ N → N - c < f →
      (∀ (i : Nat) p, L[i]? = some p → p.2 = k → ∃ d, c ≤ d ∧ d < N ∧ t.place.toList[i]? = some (way t.mask (k.hash w) d)) → wpAny (model P w) A (setSearchFrom a (.ref x) (k.hash w) true f st) Q E s
  | 0, _, _, _, _, hf, _ => absurd hf (Nat.not_lt_zero _)
  | f + 1, c, st, hst, hc, hf, ahead => by
    obtain ⟨o, ho, hex, hd⟩ := R.ob
    have step : ∀ q, nth t.mask (nst t.mask (k.hash w) c) q = nst t.mask (k.hash w) (c + q) := fun q => (nth_add t.mask c _ q).symm
    have at_ : ∀ q, (nth t.mask (nst t.mask (k.hash w) c) q).j = way t.mask (k.hash w) (c + q) := fun q => congrArg SetTable.Probe.j (step q)
    have hN : c + (N - c) = N := by omega
    have hashAt : ∀ (i : Nat) p, L[i]? = some p → (es[i]?.map (·.1)).getD 0 = p.2.hash w := fun i p hp => by rw [R.entry hp]; rfl
    have met := go_spec t R.tab.ris R.tab.dm (fun i => (es[i]?.map (·.1)).getD 0) (k.hash w) (10 * SetTable.turns t.mask) (N - c) _ (nst_dummy t.mask (k.hash w) c) (by omega) (fun q hq => by rw [at_]; exact n3 _ (by omega)) (by rw [at_, hN]; exact n2)
    rw [setSearchFrom_succ]
    refine wpAny_bind (wpAny_setState_of ho hd R.fits ?_); dsimp only
    refine wp_if_neg (by unfold SetTable.gaveWay; rcases R.mok with e | e | e | e <;> rw [e] <;> decide) ?_
    try refine wpAny_bind (wpAny_pure ?_)
    rcases met with ⟨q, i, m1, m2, m3, m4, m5⟩ | ⟨m4, m5⟩
    · -- a place whose hash is this one
      have pr : t.probe (fun i => (es[i]?.map (·.1)).getD 0) (k.hash w) (st.getD (t.probeStart (k.hash w))) = some (.candidate (way t.mask (k.hash w) (c + q)) i (nst t.mask (k.hash w) (c + (q + 1)))) := by rw [hst, ← at_, ← step]; exact m5
      rw [pr]; dsimp only
      rw [at_] at m2
      obtain ⟨p, hp⟩ := R.get m2
      have pin : p ∈ L := List.mem_of_getElem? hp
      have pk := R.key p pin
      have live : t.slot (way t.mask (k.hash w) (c + q)) = .live i := slot_live R.tab.ris m2
      have rest : wpAny (model P w) A (searchRest a (.ref x) (k.hash w) true f es t (way t.mask (k.hash w) (c + q)) i (nst t.mask (k.hash w) (c + (q + 1)))) Q E s := by
        unfold searchRest
        rw [R.entry hp]; dsimp only
        refine wpAny_bind (wpAny_holding ((nestedKind P w).eqBool (x := p.2) (y := k) (nroom hu) pk hx ?_))
        refine wpAny_bind (wpAny_setState_of ho hd R.fits ?_); dsimp only
        by_cases same : p.2 = k
        · exact wp_if_pos (by simp [same]) (wpAny_pure (yes (List.mem_map.mpr ⟨p, pin, same⟩)))
        · refine wp_if_neg (by simp [same]) ?_
          try refine wpAny_bind (wpAny_pure ?_)
          rw [sameMem]; dsimp only
          simp only [if_true, live, R.entry hp]
          refine wpAny_bind (wpAny_isSame_ref_self (wpAny_bind (wpAny_pure ?_))); simp only [if_true]
          refine wp_if_neg (by simp [same]) (nfrom R hx hu n1 n2 n3 yes no f (c + (q + 1)) _ rfl (by omega) (by omega) fun i' p' hi' hk' => ?_)
          obtain ⟨d, d1, d2, d3⟩ := ahead i' p' hi' hk'
          refine ⟨d, Nat.le_of_not_lt fun hlt => ?_, d2, d3⟩
          by_cases lt : d < c + q
          · exact m4 (d - c) i' (by omega) (by rw [at_, show c + (d - c) = d by omega]; exact d3) ((hashAt i' p' hi').trans (by rw [hk']))
          · have ed : d = c + q := by omega
            subst ed
            have l2 := slot_live R.tab.ris d3
            rw [live] at l2; injection l2 with l2
            rw [← l2, hp] at hi'
            exact same (by rw [Option.some.inj hi']; exact hk')
      by_cases hl : t.led = true
      · refine wp_if_neg (by simp [hl]) ?_
        try refine wpAny_bind (wpAny_pure ?_)
        exact rest
      · refine wp_if_pos (by simp [hl]) (wpAny_bind (nseen hx (fun y hy => ?_) ?_))
        · obtain ⟨e, he, rfl⟩ := List.mem_map.mp hy
          have e1 : e ∈ es.toList := by
            have : e ∈ es ∧ e.1 = k.hash w := by simpa using he
            simpa using this.1
          rw [R.rows] at e1
          obtain ⟨p', hp', rfl⟩ := List.mem_map.mp e1
          exact ⟨p', rfl, R.key p' hp'⟩
        · refine wp_if_neg (by decide) ?_
          try refine wpAny_bind (wpAny_pure ?_)
          exact rest
    · -- an empty place
      have pr : t.probe (fun i => (es[i]?.map (·.1)).getD 0) (k.hash w) (st.getD (t.probeStart (k.hash w))) = some (.empty (way t.mask (k.hash w) N) none) := by
        have e : way t.mask (k.hash w) N = (nth t.mask (nst t.mask (k.hash w) c) (N - c)).j := by rw [at_, hN]
        rw [hst, e]; exact m5
      rw [pr]; dsimp only
      refine wpAny_pure (no fun hm => ?_)
      obtain ⟨p', h1, h2⟩ := List.mem_map.mp hm
      obtain ⟨i', hi', e'⟩ := List.getElem_of_mem h1
      have hg : L[i']? = some p' := by rw [List.getElem?_eq_getElem hi', e']
      obtain ⟨d, d1, d2, d3⟩ := ahead i' p' hg h2
      exact m4 (d - c) i' (by omega) (by rw [at_, show c + (d - c) = d by omega]; exact d3) ((hashAt i' p' hg).trans (by rw [h2]))
theorem nsearch (R : NSet w s.heap a L es ep t) (hx : KeyIn s.heap (x, k)) (hu : A.units + 16 < cLine) {Q : SetFound → Shared → Prop} (yes : k ∈ L.map (·.2) → Q (.there none) s)
    (no : ∀ N, k ∉ L.map (·.2) → way t.mask (k.hash w) N ∉ t.place.toList → (∀ c, c < N → way t.mask (k.hash w) c ∈ t.place.toList) → Q (.free (way t.mask (k.hash w) N) false) s) : wpAny (model P w) A (setSearch a (.ref x) (k.hash w) true) Q E s := by
  have room := R.cap
  obtain ⟨N, n1, n2, n3⟩ := R.tab.first (by rw [List.length_map]; omega) (k.hash w)
  have big : 10 * SetTable.turns t.mask ≤ 5300 := by unfold SetTable.turns; rcases R.mok with e | e | e | e <;> omega
  unfold setSearch
  refine nfrom R hx hu n1 n2 n3 yes (fun hn => no N hn n2 n3) 100000 0 none rfl (Nat.zero_le _) (by omega) fun i p hp hk => ?_
  have hi : (nhs w L)[i]? = some (k.hash w) := by rw [List.getElem?_map, hp, ← hk]; rfl
  have il : i < t.place.toList.length := by rw [Array.length_toList, R.psize]; exact (List.getElem?_eq_some_iff.mp hp).1
  obtain ⟨d, d1, d2⟩ := R.tab.before n2 hi (List.getElem?_eq_getElem il)
  exact ⟨d, Nat.zero_le _, d1, by rw [List.getElem?_eq_getElem il, d2]⟩

/-! ### more room, one put in -/
theorem fm_range {α : Type} : ∀ L : List α, (List.range L.length).filterMap (fun i => L[i]?) = L
  | [] => rfl
  | x :: L => by
    rw [List.length_cons, List.range_succ_eq_map, List.filterMap_cons]
    simp only [List.getElem?_cons_zero, List.filterMap_map, Function.comp_def, List.getElem?_cons_succ]
    rw [fm_range L]
theorem fm_hash {hs : Array Int} {L : NL} (hh : hs.toList = nhs w L) : ∀ l : List Nat, (∀ i ∈ l, i < L.length) → nhs w (l.filterMap fun i => L[i]?) = l.map fun i => hs.getD i 0
  | [], _ => rfl
  | i :: l, h => by
    have hi := h i List.mem_cons_self
    show List.map _ _ = _
    rw [List.filterMap_cons_some (List.getElem?_eq_getElem hi), List.map_cons, List.map_cons, ← fm_hash hh l fun j hj => h j (List.mem_cons_of_mem _ hj)]
    have e : hs[i]? = some ((L[i]).2.hash w) := by rw [← Array.getElem?_toList, hh, List.getElem?_map, List.getElem?_eq_getElem hi]; rfl
    rw [show hs.getD i 0 = (L[i]).2.hash w by simp [Array.getD_eq_getD_getElem?, e]]
theorem KeyIn.but {h h' : Heap} {p : Addr × NestedKey} {o : Obj} (x : KeyIn h p) (ho : h.get? a = some o) (hd : o.data = .set es ep t) (sb : Heap.SameBut a h h') : KeyIn h' p :=
  ⟨NestedIs.at (fun b u vs n hb hv => (sb.2 b fun e => by subst e; rw [ho] at hb; cases hb; rw [hd] at hv; cases hv).trans hb) _ _ x.1, x.2⟩
theorem nrelay (R : NSet w s.heap a L es ep t) {wanted M : Nat} (hw : SetTable.sizeAbove wanted - 1 = M) (hM : Mk M) (hz : SetTable.sizeAbove wanted ≤ 512) (hn : L.length * 5 < M * 3) {Q : Unit → Shared → Prop}
    (q : ∀ h' L' es' ep' t', Heap.SameBut a s.heap h' → NSet w h' a L' es' ep' t' → Rm L' t' → L'.Perm L → Q () { s with heap := h' }) : wpAny (model P w) A (setRelay a wanted) Q E s := by
  obtain ⟨o, ho, hex, hd⟩ := R.ob
  have sz := R.size
  obtain ⟨t', order, e, pm, T, em, el⟩ := relays t (hs := es.map (·.1)) (wanted := wanted) hw hM.meet (by rw [Array.size_map, sz]; omega)
  rw [Array.size_map, sz] at pm
  have inL : ∀ i ∈ order.toList, i < L.length := fun i hi => List.mem_range.mp (pm.mem_iff.mp hi)
  have hh : (es.map (·.1)).toList = nhs w L := by rw [Array.toList_map, R.rows]; simp [nrow]
  have p2 : (order.toList.filterMap fun i => L[i]?).Perm L := by
    have := pm.filterMap (fun i => L[i]?)
    rwa [fm_range] at this
  have rw2 : (order.filterMap (es[·]?)).toList = nrow w (order.toList.filterMap fun i => L[i]?) := by
    rw [Array.toList_filterMap]
    unfold nrow; rw [List.map_filterMap]
    refine congrArg (fun f => List.filterMap f order.toList) (funext fun i => ?_)
    rw [← Array.getElem?_toList, R.rows]
    simp only [nrow, List.getElem?_map]
  rw [← fm_hash hh _ inL] at T
  generalize (order.toList.filterMap fun i => L[i]?) = L2 at p2 rw2 T
  have s2 : (order.filterMap (es[·]?)).size = L.length := by rw [← Array.length_toList, rw2, nrow_len, p2.length_eq]
  rw [setRelay_eq]
  refine wpAny_bind (wpAny_setState_of ho hd R.fits ?_); dsimp only
  refine wp_if_neg (by rw [sizeLine_eq]; omega) ?_
  try refine wpAny_bind (wpAny_pure ?_)
  rw [e]; dsimp only
  refine wpAny_bind (wp_if_neg (by rw [s2, sz]; simp) ?_)
  try refine wpAny_bind (wpAny_pure ?_)
  refine wpAny_pure ?_; dsimp only
  refine wpAny_storeSet_of ho hd ?_ (by rw [s2, sizeLine_eq]; have := R.few; omega)
  have sb : Heap.SameBut a s.heap (s.heap.update a (Obj.putSet (order.filterMap (es[·]?)) t')) := Heap.SameBut.update ..
  refine q _ L2 (order.filterMap (es[·]?)) (ep + 1) t' sb ⟨⟨_, store_at ho hd, ⟨hex.1, hex.2.1, hex.2.2⟩, rfl⟩, rw2, T, by rw [em]; exact hM, (p2.map (·.2)).nodup_iff.mpr R.nd, fun p hp => (R.key p (p2.mem_iff.mp hp)).but ho hd sb, by rw [el]; exact R.led, by rw [p2.length_eq, em]; omega, by rw [p2.length_eq]; exact R.few⟩ (by show L2.length * 5 < t'.mask * 3; rw [p2.length_eq, em]; exact hn) p2
theorem nadd (R : NSet w s.heap a L es ep t) (rm : Rm L t) (hx : KeyIn s.heap (x, k)) (hu : A.units + 16 < cLine) (few : k ∉ L.map (·.2) → L.length + 1 < 256) {Q : Bool → Shared → Prop}
    (q : ∀ b h' L' es' ep' t', Heap.SameBut a s.heap h' → NSet w h' a L' es' ep' t' → Rm L' t' → (k ∈ L.map (·.2) → L' = L) → (k ∉ L.map (·.2) → L'.Perm ((x, k) :: L)) → Q b { s with heap := h' }) : wpAny (model P w) A (setAddHashed a (.ref x) (k.hash w)) Q E s := by
  obtain ⟨o, ho, hex, hd⟩ := R.ob
  unfold setAddHashed
  refine wpAny_holding ?_
  rw [show (100000 : Nat) = 99999 + 1 from rfl, setAddHashedIn_succ]
  refine wpAny_bind (wpAny_setState_of ho hd R.fits ?_); dsimp only
  refine wp_if_neg (by simp [byScan, Value.scannable]) ?_
  try refine wpAny_bind (wpAny_pure ?_)
  refine wpAny_bind (nsearch R hx hu (fun hm => wpAny_pure (q false s.heap L es ep t (Heap.SameBut.refl a s.heap) R rm (fun _ => rfl) fun z => absurd hm z)) fun N hm n2 n3 => ?_)
  have few := few hm
  dsimp only
  refine wpAny_bind (wpAny_setState_of ho hd R.fits ?_); dsimp only
  obtain ⟨q1, q2, q3, q4, q5, q9⟩ := R.tab.put n2 n3 rfl rfl
  have fill : (t.put (way t.mask (k.hash w) N)).1.fill = L.length + 1 := by rw [q9, List.length_map]
  clear q9
  have hin := SetTable.toList_insertAt es (SetTable.below t.place (way t.mask (k.hash w) N)) (k.hash w, Value.ref x)
  generalize t.put (way t.mask (k.hash w) N) = pt at q1 q3 q4 q5 fill ⊢
  obtain ⟨t1, j⟩ := pt
  dsimp only at q1 q3 q4 q5 fill ⊢
  subst q1
  generalize SetTable.below t.place (way t.mask (k.hash w) N) = j at q2 q3 hin ⊢
  rw [R.rows] at hin
  have pm : (L.take j ++ (x, k) :: L.drop j).Perm ((x, k) :: L) := by
    have z : (L.take j ++ (x, k) :: L.drop j).Perm ((x, k) :: (L.take j ++ L.drop j)) := List.perm_middle
    rwa [List.take_append_drop] at z
  have rows1 : (SetTable.insertAt es j (k.hash w, Value.ref x)).toList = nrow w (L.take j ++ (x, k) :: L.drop j) := by rw [hin]; simp [nrow]
  have tab1 : SetTab t1 (nhs w (L.take j ++ (x, k) :: L.drop j)) := by
    have e : nhs w (L.take j ++ (x, k) :: L.drop j) = (nhs w L).take j ++ k.hash w :: (nhs w L).drop j := by simp [nhs]
    rw [e]; exact q3
  generalize SetTable.insertAt es j (k.hash w, Value.ref x) = es1 at rows1 ⊢
  generalize L.take j ++ (x, k) :: L.drop j = L1 at pm rows1 tab1
  have len1 : L1.length = L.length + 1 := pm.length_eq
  have sz1 : es1.size = L.length + 1 := by rw [← Array.length_toList, rows1, nrow_len, len1]
  -- what is stored, whether by value or not
  have go : ∀ b : Bool, wpAny (model P w) A (storeSet a es1 (if b = true then t1 else { t1 with plain := false }) >>= fun _ => if (!false && (if b = true then t1 else { t1 with plain := false }).tooFull) = true then (setRelay a (SetTable.grown (es.size + 1)) >>= fun _ => pure true) else pure true) Q E s := fun b => by
    have same : ∃ t2 : SetTable, (if b = true then t1 else { t1 with plain := false }) = t2 ∧ t2.mask = t1.mask ∧ t2.place = t1.place ∧ t2.dummies = t1.dummies ∧ t2.led = t1.led ∧ t2.fill = t1.fill := by
      cases b <;> exact ⟨_, rfl, rfl, rfl, rfl, rfl, rfl⟩
    obtain ⟨t2, e2, m2, p2, d2, l2, f2⟩ := same
    rw [e2]
    have tab2 : SetTab t2 (nhs w L1) := ⟨by rw [p2]; exact tab1.ris, by rw [d2]; exact tab1.dm, by rw [p2]; exact tab1.sz, by rw [m2]; exact tab1.meet, by rw [m2, p2]; exact tab1.bd, by rw [m2, p2]; exact tab1.reach⟩
    refine wpAny_bind (wpAny_storeSet_of ho hd ?_ (by rw [sz1, sizeLine_eq]; omega))
    have sb : Heap.SameBut a s.heap (s.heap.update a (Obj.putSet es1 t2)) := Heap.SameBut.update ..
    have ho1 := store_at (es' := es1) (t' := t2) ho hd
    generalize s.heap.update a (Obj.putSet es1 t2) = h1 at sb ho1 ⊢
    have R1 : NSet w h1 a L1 es1 (ep + 1) t2 := ⟨⟨_, ho1, ⟨hex.1, hex.2.1, hex.2.2⟩, rfl⟩, rows1, tab2, by rw [m2, q4]; exact R.mok, (pm.map (·.2)).nodup_iff.mpr (by rw [List.map_cons]; exact List.nodup_cons.mpr ⟨hm, R.nd⟩), fun p hp => by
      rcases List.mem_cons.mp (pm.mem_iff.mp hp) with rfl | hp
      · exact hx.but ho hd sb
      · exact (R.key p hp).but ho hd sb, by rw [l2, q5]; exact R.led, by rw [len1, m2, q4]; have : L.length * 5 < t.mask * 3 := rm; rcases R.mok with e | e | e | e <;> rw [e] at this ⊢ <;> omega, by rw [len1]; exact few⟩
    have fl2 : t2.fill = L.length + 1 := f2.trans fill
    by_cases hf : t2.tooFull = true
    · have full : (L.length + 1) * 5 ≥ t2.mask * 3 := by
        have := hf
        unfold SetTable.tooFull at this
        rw [decide_eq_true_eq, fl2] at this; exact this
      have two : (t.mask = 7 ∧ L.length = 4) ∨ (t.mask = 31 ∧ L.length = 18) ∨ (t.mask = 127 ∧ L.length = 76) := by
        have r : L.length * 5 < t.mask * 3 := rm
        rw [m2, q4] at full
        rcases R.mok with e | e | e | e <;> rw [e] at full r
        · exact .inl ⟨e, by omega⟩
        · exact .inr (.inl ⟨e, by omega⟩)
        · exact .inr (.inr ⟨e, by omega⟩)
        · omega
      have more : ∀ M, SetTable.sizeAbove (SetTable.grown (L.length + 1)) - 1 = M → Mk M → SetTable.sizeAbove (SetTable.grown (L.length + 1)) ≤ 512 → (L.length + 1) * 5 < M * 3 →
          wpAny (model P w) A (setRelay a (SetTable.grown (L.length + 1))) (fun _ s' => wpAny (model P w) A (pure true) Q E s') E { s with heap := h1 } := fun M g1 g2 g3 g4 => by
        refine nrelay (s := { s with heap := h1 }) R1 g1 g2 g3 (by rw [len1]; exact g4) fun h2 L2 es2 ep2 t2' sb2 R2 rm2 pm2 => ?_
        exact wpAny_pure (q true h2 L2 es2 ep2 t2' (sb.trans sb2) R2 rm2 (fun z => absurd z hm) fun _ => pm2.trans pm)
      have body : wpAny (model P w) A (setRelay a (SetTable.grown (es.size + 1))) (fun _ s' => wpAny (model P w) A (pure true) Q E s') E { s with heap := h1 } := by
        rw [R.size]
        rcases two with ⟨_, e⟩ | ⟨_, e⟩ | ⟨_, e⟩
        · exact more 31 (by rw [e, size_20]) (.inr (.inl rfl)) (by rw [e, size_20]; decide) (by omega)
        · exact more 127 (by rw [e, size_76]) (.inr (.inr (.inl rfl))) (by rw [e, size_76]; decide) (by omega)
        · exact more 511 (by rw [e, size_308]) (.inr (.inr (.inr rfl))) (by rw [e, size_308]; decide) (by omega)
      first
        | exact wpAny_bind (wp_if_pos (by simp [hf]) body)
        | exact wp_if_pos (by simp [hf]) (wpAny_bind body)
    · have last : Q true { s with heap := h1 } := q true h1 L1 es1 (ep + 1) t2 sb R1 (by
        show L1.length * 5 < t2.mask * 3
        unfold SetTable.tooFull at hf
        rw [decide_eq_true_eq, fl2] at hf
        rw [len1]; omega) (fun z => absurd z hm) fun _ => pm
      first
        | exact wp_if_neg (by simp [hf]) (wpAny_pure last)
        | exact wpAny_bind (wp_if_neg (by simp [hf]) (wpAny_pure (wpAny_pure last)))
  cases hp : t1.plain with
  | true =>
    have bv : wpAny (model P w) A (hashByValue 8 (.ref x)) (fun b s' => wpAny (model P w) A (storeSet a es1 (if b = true then t1 else { t1 with plain := false }) >>= fun _ => if (!false && (if b = true then t1 else { t1 with plain := false }).tooFull) = true then (setRelay a (SetTable.grown (es.size + 1)) >>= fun _ => pure true) else pure true) Q E s') E s := hashBy_key k _ 8 s hx.1 hx.2 _ _ _ fun b _ => go b
    simp only [if_true]
    first
      | exact wpAny_bind bv
      | skip
  | false =>
    simp only [Bool.false_eq_true, if_false]
    first
      | exact wpAny_bind (wpAny_pure (go true))
      | exact go true
      | skip
end
end DL
namespace DL
open PySem PySem.Spec L2 PyProof.Rows
open Builtin.Frozenset

abbrev setN (w : World) : Obj := { cls := .type "set", dict := none, data := .set #[] 0 (.fresh 0 0 (!w.params.followText "set-order")) }
/-! ## set(xs), sorted(set(xs)), xs a list or tuple of nested tuples -/
/-- what came of the first i -/
structure Gt (ks : NL) (i : Nat) (L : NL) : Prop where
  sub : ∀ p ∈ L, p ∈ ks.take i
  all : ∀ p ∈ ks.take i, p.2 ∈ L.map (·.2)
  len : L.length ≤ i
theorem Gt.next {ks L L' : NL} {i : Nat} {x : Addr × NestedKey} (g : Gt ks i L) (h : ks[i]? = some x) (yes : x.2 ∈ L.map (·.2) → L' = L) (no : x.2 ∉ L.map (·.2) → L'.Perm (x :: L)) : Gt ks (i + 1) L' := by
  have e : ks.take (i + 1) = ks.take i ++ [x] := by rw [List.take_succ, h]; rfl
  by_cases c : x.2 ∈ L.map (·.2)
  · rw [yes c]
    refine ⟨fun p hp => by rw [e]; exact List.mem_append_left _ (g.sub p hp), fun p hp => ?_, Nat.le_succ_of_le g.len⟩
    rw [e, List.mem_append] at hp
    rcases hp with hp | hp
    · exact g.all p hp
    · rw [List.mem_singleton.mp hp]; exact c
  · have pm := no c
    refine ⟨fun p hp => ?_, fun p hp => ?_, by rw [pm.length_eq, List.length_cons]; exact Nat.succ_le_succ g.len⟩
    · rw [e]
      rcases List.mem_cons.mp (pm.mem_iff.mp hp) with rfl | hp
      · exact List.mem_append_right _ List.mem_cons_self
      · exact List.mem_append_left _ (g.sub p hp)
    · rw [(pm.map (·.2)).mem_iff, List.map_cons]
      rw [e, List.mem_append] at hp
      rcases hp with hp | hp
      · exact List.mem_cons_of_mem _ (g.all p hp)
      · rw [List.mem_singleton.mp hp]; exact List.mem_cons_self
theorem Gt.nil (ks : NL) : Gt ks 0 [] := ⟨fun _ h => (by cases h), fun _ h => (by cases h), Nat.le_refl _⟩
section
variable {P : Program} {w : World} {A : Around} {E : Value → Shared → Prop} {s : Shared}
theorem KeyIn.ext {h h' : Heap} {p : Addr × NestedKey} (x : KeyIn h p) (k : ∀ b o, h.get? b = some o → h'.get? b = some o) : KeyIn h' p := ⟨NestedIs.at (fun b o _ _ e _ => k b o e) _ _ x.1, x.2⟩
theorem NSet.ext {h h' : Heap} {a : Addr} {L : NL} {es : Array (Int × Value)} {ep : Nat} {t : SetTable} (R : NSet w h a L es ep t) (ha : ∀ o, h.get? a = some o → h'.get? a = some o) (hk : ∀ p ∈ L, KeyIn h' p) : NSet w h' a L es ep t :=
  let ⟨o, ho, r⟩ := R.ob; ⟨⟨o, ha o ho, r⟩, R.rows, R.tab, R.mok, R.nd, hk, R.led, R.cap, R.few⟩
theorem nnew {h : Heap} {a : Addr} (ho : h.get? a = some (setN w)) : NSet w h a [] #[] 0 (.fresh 0 0 (!w.params.followText "set-order")) where
  ob := ⟨_, ho, ⟨rfl, rfl, rfl⟩, rfl⟩
  rows := rfl
  tab := ⟨List.Pairwise.nil, rfl, rfl, meet_small (.inl rfl), fun x hx => (by cases hx), fun q hq => (by cases hq)⟩
  mok := .inl rfl
  nd := List.nodup_nil
  key := fun _ hp => nomatch hp
  led := by show _ ∨ (!w.params.followText "set-order") = true; cases w.params.followText "set-order" <;> simp
  cap := Nat.zero_le _
  few := by decide
theorem nloop {I S : Addr} {fp wr : List Addr} {n : Nat} {Pv : Nat → Value → Prop} {St : Nat → Shared → Prop} {R : Result → Shared → Prop} (W : WalksS P w A.in1 I fp wr (fun a b => b = a) n Pv St) (hS : S ∉ fp) (ks : NL) (hn : n = ks.length) (few : ∀ l : List NestedKey, l.Nodup → (∀ k ∈ l, k ∈ ks.map (·.2)) → l.length < 256)
    (val : ∀ i v, Pv i v → ∃ p, ks[i]? = some p ∧ v = .ref p.1) (h0 : Heap) (hk : ∀ p ∈ ks, KeyIn h0 p) (new : ∀ b ∈ S :: wr, h0.get? b = none) (hu : A.in1.units + 16 < cLine) (s0 : Shared)
    (hR : ∀ h' tk L es ep t, (∀ b o, h0.get? b = some o → h'.get? b = some o) → NSet w h' S L es ep t → Gt ks n L → R (.ok (.ret .none)) { s0 with heap := h', toks := tk }) :
    ∀ (m i : Nat) (s : Shared), n - i = m → i ≤ n → St i s → (∀ b o, h0.get? b = some o → s.heap.get? b = some o) → (∃ L es ep t, NSet w s.heap S L es ep t ∧ Rm L t ∧ Gt ks i L) → (∃ h' tk, s = { s0 with heap := h', toks := tk }) →
      codeAny (model P w) A (.builtin "set.update.loop" ⟨[.ref S, .ref I], []⟩) R s := by
  have new' : ∀ {b o}, h0.get? b = some o → b ∉ wr := fun {b o} e hb => by rw [new b (List.mem_cons_of_mem _ hb)] at e; cases e
  have stay : ∀ {s s' : Shared}, Moved wr (fun a b => b = a) s s' → (∀ b o, h0.get? b = some o → s.heap.get? b = some o) → ∀ b o, h0.get? b = some o → s'.heap.get? b = some o := fun m k b o e => m.heap b o (new' e) (k b o e)
  have hSw : S ∉ wr := fun h => hS (W.sub _ h)
  have like : ∀ {s s' : Shared}, Moved wr (fun a b => b = a) s s' → (∃ h' tk, s = { s0 with heap := h', toks := tk }) → ∃ h' tk, s' = { s0 with heap := h', toks := tk } := fun {s s'} m ⟨h', tk, e⟩ => by
    have := m.eq_with
    rw [e] at this
    exact ⟨_, _, this⟩
  intro m
  induction m with
  | zero =>
    intro i s hm hi st keep ⟨L, es, ep, t, R0, _, g⟩ lk
    obtain rfl : i = n := by omega
    refine codeAny_builtin F.entry_set_update_loop ?_
    rw [Around.under_plainId F.plain_set_update_loop _]
    show wpAny _ A.in1 (pyNext (.ref I) >>= _) _ _ s
    refine wpAny_bind (W.done s _ _ st fun s' mv => ?_)
    show wpAny _ A.in1 (ret Value.none) _ _ s'
    have keep' := stay mv keep
    obtain ⟨h', tk, rfl⟩ := like mv lk
    exact wpAny_pure (hR h' tk L es ep t keep' (R0.ext (fun o e => mv.heap S o hSw e) fun p hp => (hk p (List.mem_of_mem_take (g.sub p hp))).ext keep') g)
  | succ m ih =>
    intro i s hm hi st keep ⟨L, es, ep, t, R0, rm, g⟩ lk
    refine codeAny_builtin F.entry_set_update_loop ?_
    rw [Around.under_plainId F.plain_set_update_loop _]
    show wpAny _ A.in1 (pyNext (.ref I) >>= _) _ _ s
    refine wpAny_bind (W.item i s _ _ (by omega) st fun v s' pv st' mv => ?_)
    obtain ⟨p, hp, rfl⟩ := val i v pv
    have keep' := stay mv keep
    have lk' := like mv lk
    have R1 : NSet w s'.heap S L es ep t := R0.ext (fun o e => mv.heap S o hSw e) fun q hq => (hk q (List.mem_of_mem_take (g.sub q hq))).ext keep'
    have hx : KeyIn s'.heap p := (hk p (List.mem_of_getElem? hp)).ext keep'
    have few1 : p.2 ∉ L.map (·.2) → L.length + 1 < 256 := fun hn => by
      have := few (p.2 :: L.map (·.2)) (List.nodup_cons.mpr ⟨hn, R1.nd⟩) fun k hk' => by
        rcases List.mem_cons.mp hk' with rfl | hk'
        · exact List.mem_map.mpr ⟨p, List.mem_of_getElem? hp, rfl⟩
        · obtain ⟨q, hq, rfl⟩ := List.mem_map.mp hk'
          exact List.mem_map.mpr ⟨q, List.mem_of_mem_take (g.sub q hq), rfl⟩
      rwa [List.length_cons, List.length_map] at this
    show wpAny _ A.in1 (holding [Value.ref p.1] (setAdd S (.ref p.1)) >>= _) _ _ s'
    unfold setAdd
    refine wpAny_bind (wpAny_holding (wpAny_holding (wpAny_bind ((nestedKind P w).pyHash (nroom hu) hx ?_))))
    refine nadd (s := { s' with toks := s'.toks + p.2.draws }) R1 rm hx hu (fun hn => few1 hn) fun b h2 L2 es2 ep2 t2 sb R2 rm2 y1 y2 => ?_
    have keep2 : ∀ b o, h0.get? b = some o → h2.get? b = some o := fun b o e => (sb.2 b fun z => by rw [z, new S List.mem_cons_self] at e; cases e).trans (keep' b o e)
    refine wpAny_pure ⟨plainId_quiet F.plain_set_update_loop _, ih (i + 1) _ (by omega) (by omega) (W.frame _ s' _ _ st' (Nat.le_add_right _ _) fun b hb o e => (sb.2 b fun z => hS (z ▸ hb)).trans e) keep2 ⟨L2, es2, ep2, t2, R2, rm2, g.next hp y1 y2⟩ ?_⟩
    obtain ⟨h3, tk3, rfl⟩ := lk'
    exact ⟨_, _, rfl⟩
/-- a list, a tuple -/
def Row (h : Heap) (l : Addr) (items : Array Value) : Prop := h.IsList l items ∨ h.IsTuple l items
theorem Row.ext {h h' : Heap} {l : Addr} {items : Array Value} (x : Row h l items) (k : ∀ b o, h.get? b = some o → h'.get? b = some o) : Row h' l items := by
  rcases x with ⟨o, ho, r⟩ | ⟨o, ho, r⟩
  · exact .inl ⟨o, k _ _ ho, r⟩
  · exact .inr ⟨o, k _ _ ho, r⟩
theorem Row.lt {h : Heap} {l : Addr} {items : Array Value} (x : Row h l items) : l < h.objs.size := by
  rcases x with ⟨o, ho, _⟩ | ⟨o, ho, _⟩ <;> exact Heap.lt_size ho
theorem nset_of {l : Addr} {items : Array Value} (ks : NL) {Q : Value → Shared → Prop} (hh : A.handled = none) (hl : Row s.heap l items) (hit : items.toList = ks.map fun p => Value.ref p.1) (hk : ∀ p ∈ ks, KeyIn s.heap p) (few : ∀ l : List NestedKey, l.Nodup → (∀ k ∈ l, k ∈ ks.map (·.2)) → l.length < 256) (hu : A.units + 32 < cLine)
    (k : ∀ (h' : Heap) (tk : Nat) L es ep t, NSet w h' s.heap.objs.size L es ep t → Gt ks ks.length L → (∀ b o, s.heap.get? b = some o → h'.get? b = some o) → Q (.ref s.heap.objs.size) { s with heap := h', toks := tk }) :
    wpAny (model P w) A (call (.type "set") [.ref l]) Q E s := by
  have sz : items.size = ks.length := by rw [← Array.length_toList, hit, List.length_map]
  have c1 := F.called_set.mro
  obtain ⟨c, tl, hmro⟩ := c1
  have hmade := F.called_set.made
  have hsub := F.called_set.sub
  have h1 := F.called_set.notType
  have h2 := F.called_set.canCreate
  have hct := F.typeCall_set_1 (.ref l)
  refine wpAny_call (codeAny_of_tree ?_)
  show wpAny _ _ (callAny (.type "set") _) _ _ _
  refine wpAny_pure ⟨Code.quiet_builtin _ (by decide +kernel), codeAny_builtin F.entry_type_call ?_⟩
  rw [Around.under_plain (weight_type_call_type "set" [.ref l] []) rfl]
  repeat (any_goals first | assumption | wp_step)
  refine codeAny_mono (code_set_led1 (.ref l) (E := E) (Q₁ := fun obj s1 => obj = .ref s.heap.objs.size ∧ s1 = { s with heap := s.heap.push (setN w) }) ⟨rfl, rfl⟩) fun r s1 hr => ?_
  cases r with
  | error e => exact hr
  | ok fl =>
    cases fl with
    | ret obj =>
      obtain ⟨rfl, rfl⟩ := hr
      have e0 : (s.heap.push (setN w)).get? s.heap.objs.size = some (setN w) := Heap.get?_push_size _ rfl
      have hT : Shared.TypeIs { s with heap := s.heap.push (setN w) } (.ref s.heap.objs.size) "set" := ⟨_, e0, rfl⟩
      have hli := F.called_set.init.lookup
      have hbi := F.called_set.init.bind (.ref s.heap.objs.size)
      repeat (any_goals first | assumption | wp_step)
      refine codeAny_mono (codeAny_call_builtin (R := wants (fun r s2 => r = .none ∧ ∃ h' tk L es ep t, s2 = { s with heap := h', toks := tk } ∧ NSet w h' s.heap.objs.size L es ep t ∧ Gt ks ks.length L ∧ (∀ b o, s.heap.get? b = some o → h'.get? b = some o)) E) F.called_set.init.plain F.entry_set_init (check_set_init_1 hT ?_)) fun r2 s2 hr2 => ?_
      · have hlt := hl.lt
        have z1 : (s.heap.push (setN w)).objs.size = s.heap.objs.size + 1 := Heap.size_push ..
        have hh3 : A.in1.in1.in1.handled = none := by simp [hh]
        have hneI : l ≠ (s.heap.push (setN w)).objs.size := by rw [z1]; exact Nat.ne_of_lt (Nat.lt_succ_of_lt hlt)
        have hSf : s.heap.objs.size ∉ [(s.heap.push (setN w)).objs.size, l] := by
          rw [z1]
          simp only [List.mem_cons, List.mem_singleton, List.not_mem_nil, or_false, not_or]
          exact ⟨Nat.ne_of_lt (Nat.lt_succ_self _), Nat.ne_of_gt hlt⟩
        have val : ∀ (i : Nat) (v : Value), items[i]? = some v → ∃ p, ks[i]? = some p ∧ v = .ref p.1 := fun i v hv => by
          rw [← Array.getElem?_toList, hit, List.getElem?_map] at hv
          cases hq : ks[i]? with
          | none => rw [hq] at hv; cases hv
          | some p => rw [hq] at hv; exact ⟨p, rfl, (Option.some.inj hv).symm⟩
        have none_of : ∀ b, s.heap.objs.size ≤ b → s.heap.get? b = none := fun b hb => by
          cases q : s.heap.get? b with
          | none => rfl
          | some o => exact absurd (Nat.lt_of_lt_of_le (Heap.lt_size q) hb) (Nat.lt_irrefl _)
        have new : ∀ b ∈ s.heap.objs.size :: [(s.heap.push (setN w)).objs.size], s.heap.get? b = none := fun b hb => by
          rcases List.mem_cons.mp hb with rfl | hb
          · exact none_of _ (Nat.le_refl _)
          · rw [List.mem_singleton.mp hb, z1]; exact none_of _ (Nat.le_succ _)
        -- the rest, behind the iterator
        have rest : ∀ (io : Obj) (St : Nat → Heap → Prop), Walks P w A.in1.in1.in1 (s.heap.push (setN w)).objs.size [(s.heap.push (setN w)).objs.size, l] [(s.heap.push (setN w)).objs.size] items.size (fun i v => items[i]? = some v) St → io.isFreed = false → St 0 ((s.heap.push (setN w)).push io) →
            codeAny (model P w) A.in1.in1 (.builtin "set.update.loop" ⟨[.ref s.heap.objs.size, .ref (s.heap.push (setN w)).objs.size], []⟩) (wants (fun r s2 => ∃ h' tk L es ep t, r = Value.none ∧ s2 = { s with heap := h', toks := tk } ∧ NSet w h' s.heap.objs.size L es ep t ∧ Gt ks ks.length L ∧ (∀ b o, s.heap.get? b = some o → h'.get? b = some o)) E) { s with heap := (s.heap.push (setN w)).push io } := fun io St W hf st => by
          refine nloop W.toS hSf ks sz few val s.heap hk new (by simpa using (by omega : A.units + 3 + 16 < cLine)) s (fun h' tk L es ep t keep R g => ?_) (items.size - 0) 0 _ (by omega) (Nat.zero_le _) st (fun b o e => Heap.get?_push_of_some _ (Heap.get?_push_of_some _ e)) ⟨[], #[], 0, _, nnew (Heap.get?_push_of_some _ e0), show 0 * 5 < 7 * 3 by decide, .nil ks⟩ ⟨_, _, rfl⟩
          rw [sz] at g
          exact ⟨h', tk, L, es, ep, t, rfl, rfl, R, g, keep⟩
        rcases hl.ext (h' := s.heap.push (setN w)) (fun b o e => Heap.get?_push_of_some _ e) with hl1 | hl1
        · obtain ⟨ol, hol, hcl, nl, hdl⟩ := id hl1
          obtain ⟨ocls, odict, odata, oslots⟩ := ol
          simp only at hcl hdl
          subst hcl; subst hdl
          have a1 := F.sub_list_set
          have a2 := F.sub_list_frozenset
          have a3 : (Value.type "list" == Value.type "dict") = false := by decide
          unfold Builtin.«set.__init__» noKeywords Builtin.Frozenset.updateFrom
          generalize hPI : pyIter = PI
          wp_walk
          subst hPI
          refine wpAny_pyIter_list hl1 ?_
          refine wpAny_bind (wpAny_runValue (codeAny_mono (rest _ _ (Walks.list hh3 _ l hneI items) rfl ⟨⟨_, Heap.get?_push_size _ rfl, rfl, rfl⟩, hl1.push _⟩) fun r3 s3 hr3 => ?_))
          cases r3 with
          | error e => exact hr3
          | ok fl3 =>
            cases fl3 with
            | ret r =>
              obtain ⟨h', tk, L, es, ep, t, rfl, rfl, R, g, keep⟩ := hr3
              refine wpAny_pure ?_
              show wpAny _ _ (ret Value.none) _ _ _
              exact wpAny_pure ⟨rfl, h', tk, L, es, ep, t, rfl, R, g, keep⟩
            | _ => exact hr3.elim
        · obtain ⟨ol, hol, hcl, nl, hdl⟩ := id hl1
          obtain ⟨ocls, odict, odata, oslots⟩ := ol
          simp only at hcl hdl
          subst hcl; subst hdl
          have a1 := F.sub_tuple_set
          have a2 := F.sub_tuple_frozenset
          have a3 : (Value.type "tuple" == Value.type "dict") = false := by decide
          unfold Builtin.«set.__init__» noKeywords Builtin.Frozenset.updateFrom
          generalize hPI : pyIter = PI
          wp_walk
          subst hPI
          refine wpAny_pyIter_tuple hl1 ?_
          refine wpAny_bind (wpAny_runValue (codeAny_mono (rest _ _ (Walks.tuple hh3 _ l hneI items) rfl ⟨⟨_, Heap.get?_push_size _ rfl, rfl, rfl⟩, hl1.push _⟩) fun r3 s3 hr3 => ?_))
          cases r3 with
          | error e => exact hr3
          | ok fl3 =>
            cases fl3 with
            | ret r =>
              obtain ⟨h', tk, L, es, ep, t, rfl, rfl, R, g, keep⟩ := hr3
              refine wpAny_pure ?_
              show wpAny _ _ (ret Value.none) _ _ _
              exact wpAny_pure ⟨rfl, h', tk, L, es, ep, t, rfl, R, g, keep⟩
            | _ => exact hr3.elim
      · cases r2 with
        | error e => exact hr2
        | ok fl2 =>
          cases fl2 with
          | ret r =>
            obtain ⟨rfl, h', tk, L, es, ep, t, rfl, R, g, keep⟩ := hr2
            repeat (any_goals first | assumption | wp_step)
            exact k _ _ _ _ _ _ R g keep
          | _ => exact hr2.elim
    | _ => exact hr.elim
end
end DL
namespace DL
open PySem PySem.Spec L2 PyProof.Rows
/-! ## a dict comprehension with two fors -/
theorem compTurn2d_out (kx vx t0 i0 t1 i1 : Expr) (ifs0 ifs1 : List Expr) (scope : Scope) (pos : Pos) (it acc : Value) (env : Env) :
    compTurn (.DictComp kx vx [⟨t0, i0, ifs0, 0⟩, ⟨t1, i1, ifs1, 0⟩] scope pos) 0 it acc env = (do
      standAt i0.pos
      match ← pyNext it with
      | none => pure (.done .next)
      | some v =>
        letOwnedTupleGo t0 it v
        assign t0 env v
        let mut ok := true
        for c in ifs0 do
          if ok then ok ← isTrue c env (eval c env)
        if ok then
          let x ← eval i1 env
          standAt i1.pos
          let x ← foldedSetIterable i1 env x
          let _ ← runOwn (.compStart (.DictComp kx vx [⟨t0, i0, ifs0, 0⟩, ⟨t1, i1, ifs1, 0⟩] scope pos) 1 (← holding [x] (pyIter x)) acc env) env
        again (.compLoop (.DictComp kx vx [⟨t0, i0, ifs0, 0⟩, ⟨t1, i1, ifs1, 0⟩] scope pos) 0 it acc env)) := by rfl
theorem compTurn2d_in (kx vx t0 i0 t1 i1 : Expr) (ifs0 ifs1 : List Expr) (scope : Scope) (pos : Pos) (it : Value) (D : Addr) (env : Env) :
    compTurn (.DictComp kx vx [⟨t0, i0, ifs0, 0⟩, ⟨t1, i1, ifs1, 0⟩] scope pos) 1 it (.ref D) env = (do
      standAt i1.pos
      match ← pyNext it with
      | none => pure (.done .next)
      | some v =>
        letOwnedTupleGo t1 it v
        assign t1 env v
        let mut ok := true
        for c in ifs1 do
          if ok then ok ← isTrue c env (eval c env)
        if ok then
          (do
            let kv ← eval kx env
            let vv ← holding [kv] (eval vx env)
            standAt { kx.pos with endLine := vx.pos.endLine, endCol := vx.pos.endCol }
            holding [kv, vv] (dictSet D kv vv))
        again (.compLoop (.DictComp kx vx [⟨t0, i0, ifs0, 0⟩, ⟨t1, i1, ifs1, 0⟩] scope pos) 1 it (.ref D) env)) := by rfl
section
variable {prog : Program} {w : World} {A : Around} {R : Result → Shared → Prop} {s : Shared} {kx vx t0 i0 t1 i1 : Expr} {ifs0 ifs1 : List Expr} {scope : Scope} {pos : Pos} {it acc : Value} {D : Addr} {env : Env}
theorem compLoop2d_out (hs : ∀ x, foldedSetIterable i1 env x = pure x) (I : Nat → Shared → Prop)
    (turn : ∀ n s, I n s → wpAny (model prog w) A (pyNext it) (fun r s₁ => match r with
      | none => R (.ok .next) s₁
      | some v => wpAny (model prog w) A (letOwnedTupleGo t0 it v) (fun _ s₁' => wpAny (model prog w) A (assign t0 env v) (fun _ s₂ =>
          wpAny (model prog w) A (forIn ifs0 true fun c r => if r = true then do let ok ← isTrue c env (eval c env); pure (ForInStep.yield ok) else pure (ForInStep.yield r)) (fun ok s₃ =>
            if ok = true then wpAny (model prog w) A (eval i1 env) (fun x s₄ => wpAny (model prog w) A (pyIter x) (fun it1 s₅ =>
              codeAny (model prog w) A (.compStart (.DictComp kx vx [⟨t0, i0, ifs0, 0⟩, ⟨t1, i1, ifs1, 0⟩] scope pos) 1 it1 acc env) (fun r s' => match r with
                | .ok _ => ∃ m, m < n ∧ I m s'
                | .error _ => False) s₅) (notedBy (model prog w) A env fun e s' => R (.error e) s') s₄) (notedBy (model prog w) A env fun e s' => R (.error e) s') s₃
            else ∃ m, m < n ∧ I m s₃) (notedBy (model prog w) A env fun e s' => R (.error e) s') s₂) (notedBy (model prog w) A env fun e s' => R (.error e) s') s₁') (notedBy (model prog w) A env fun e s' => R (.error e) s') s₁) (notedBy (model prog w) A env fun e s' => R (.error e) s') s)
    (n : Nat) (h : I n s) :
    codeAny (model prog w) A (.compLoop (.DictComp kx vx [⟨t0, i0, ifs0, 0⟩, ⟨t1, i1, ifs1, 0⟩] scope pos) 0 it acc env) R s := by
  refine codeAny_loop rfl I (fun n s hI => ?_) n h
  show wpAny _ A ((compTurn (.DictComp kx vx [⟨t0, i0, ifs0, 0⟩, ⟨t1, i1, ifs1, 0⟩] scope pos) 0 it acc env).onRaise (fun x => do noteFrame x env; theTreesLotGoes x)) _ _ s
  refine wpAny_noted ?_
  rw [compTurn2d_out]
  refine wpAny_bind (wpAny_standAt (wpAny_bind (wpAny_mono (turn n s hI) (fun r s₁ h₁ => ?_) fun _ _ h' => h')))
  cases r with
  | none => exact wpAny_pure h₁
  | some v =>
    refine wpAny_bind (wpAny_mono h₁ (fun _ s₁' h₁' => ?_) fun _ _ h' => h')
    refine wpAny_bind (wpAny_mono h₁' (fun _ s₂ h₂ => wpAny_bind (wpAny_mono h₂ (fun ok s₃ h₃ => ?_) fun _ _ h' => h')) fun _ _ h' => h')
    cases ok with
    | false => exact wpAny_pure ⟨rfl, h₃⟩
    | true =>
      refine wpAny_bind (wpAny_mono h₃ (fun x s₄ h₄ => ?_) fun _ _ h' => h')
      refine wpAny_bind (wpAny_standAt (wpAny_bind (wpAny_of_eq (hs x) (wpAny_bind (wpAny_holding (wpAny_mono h₄ (fun it1 s₅ h₅ => ?_) fun _ _ h' => h'))))))
      refine wpAny_bind (wpAny_runOwn ?_)
      rw [Around.mark_none]
      refine codeAny_mono h₅ fun r s' hr => ?_
      cases r with
      | ok f =>
        first
          | exact wpAny_pure ⟨rfl, hr⟩
          | exact wpAny_bind (wpAny_pure (wpAny_pure ⟨rfl, hr⟩))
      | error e => exact hr.elim
theorem compLoop2d_in (I : Nat → Shared → Prop)
    (turn : ∀ n s, I n s → wpAny (model prog w) A (pyNext it) (fun r s₁ => match r with
      | none => R (.ok .next) s₁
      | some v => wpAny (model prog w) A (letOwnedTupleGo t1 it v) (fun _ s₁' => wpAny (model prog w) A (assign t1 env v) (fun _ s₂ =>
          wpAny (model prog w) A (forIn ifs1 true fun c r => if r = true then do let ok ← isTrue c env (eval c env); pure (ForInStep.yield ok) else pure (ForInStep.yield r)) (fun ok s₃ =>
            if ok = true then wpAny (model prog w) A (eval kx env) (fun kv s₄ => wpAny (model prog w) A (eval vx env) (fun vv s₅ =>
              wpAny (model prog w) A (dictSet D kv vv) (fun _ s₆ => ∃ m, m < n ∧ I m s₆) (notedBy (model prog w) A env fun e s' => R (.error e) s') s₅) (notedBy (model prog w) A env fun e s' => R (.error e) s') s₄) (notedBy (model prog w) A env fun e s' => R (.error e) s') s₃
            else ∃ m, m < n ∧ I m s₃) (notedBy (model prog w) A env fun e s' => R (.error e) s') s₂) (notedBy (model prog w) A env fun e s' => R (.error e) s') s₁') (notedBy (model prog w) A env fun e s' => R (.error e) s') s₁) (notedBy (model prog w) A env fun e s' => R (.error e) s') s)
    (n : Nat) (h : I n s) :
    codeAny (model prog w) A (.compLoop (.DictComp kx vx [⟨t0, i0, ifs0, 0⟩, ⟨t1, i1, ifs1, 0⟩] scope pos) 1 it (.ref D) env) R s := by
  refine codeAny_loop rfl I (fun n s hI => ?_) n h
  show wpAny _ A ((compTurn (.DictComp kx vx [⟨t0, i0, ifs0, 0⟩, ⟨t1, i1, ifs1, 0⟩] scope pos) 1 it (.ref D) env).onRaise (fun x => do noteFrame x env; theTreesLotGoes x)) _ _ s
  refine wpAny_noted ?_
  rw [compTurn2d_in]
  refine wpAny_bind (wpAny_standAt (wpAny_bind (wpAny_mono (turn n s hI) (fun r s₁ h₁ => ?_) fun _ _ h' => h')))
  cases r with
  | none => exact wpAny_pure h₁
  | some v =>
    refine wpAny_bind (wpAny_mono h₁ (fun _ s₁' h₁' => ?_) fun _ _ h' => h')
    refine wpAny_bind (wpAny_mono h₁' (fun _ s₂ h₂ => wpAny_bind (wpAny_mono h₂ (fun ok s₃ h₃ => ?_) fun _ _ h' => h')) fun _ _ h' => h')
    cases ok with
    | false => exact wpAny_pure ⟨rfl, h₃⟩
    | true =>
      exact wpAny_bind (wpAny_bind (wpAny_mono h₃ (fun kv s₄ h₄ => wpAny_bind (wpAny_holding (wpAny_mono h₄ (fun vv s₅ h₅ => wpAny_bind (wpAny_standAt (wpAny_holding (wpAny_mono h₅ (fun _ s₆ h₆ => wpAny_pure ⟨rfl, h₆⟩) fun _ _ h' => h')))) fun _ _ h' => h'))) fun _ _ h' => h'))
theorem compStart1d_ok (h0 : codeAny (model prog w) A (.compLoop (.DictComp kx vx [⟨t0, i0, ifs0, 0⟩, ⟨t1, i1, ifs1, 0⟩] scope pos) 1 it acc env) R s)
    (h : wpAny (model prog w) A (pyIter it) (fun it' s' => codeAny (model prog w) A (.compLoop (.DictComp kx vx [⟨t0, i0, ifs0, 0⟩, ⟨t1, i1, ifs1, 0⟩] scope pos) 1 it' acc env) R s')
      (notedBy (model prog w) A env fun x s' => R (.error x) s') s) :
    codeAny (model prog w) A (.compStart (.DictComp kx vx [⟨t0, i0, ifs0, 0⟩, ⟨t1, i1, ifs1, 0⟩] scope pos) 1 it acc env) R s := by
  refine codeAny_of_tree ?_
  show wpAny _ _ ((compStart (.DictComp kx vx [⟨t0, i0, ifs0, 0⟩, ⟨t1, i1, ifs1, 0⟩] scope pos) 1 it acc env).onRaise (fun x => do noteFrame x env; standAt theWindowsPlace)) _ _ s
  refine wpAny_notedAt ?_
  unfold compStart
  show wpAny _ _ (PySem.ask >>= _) _ _ s
  refine wpAny_bind (wpAny_askSetting (wpAny_ite ?_))
  split
  · first
      | exact wpAny_bind (wpAny_pure (wpAny_pure (And.intro rfl h0)))
      | exact wpAny_pure (And.intro rfl h0)
  · first
      | exact wpAny_bind (wpAny_rule (wpAny_bind (wpAny_standAt (wpAny_bind (wpAny_mono h (fun it' s' h' => wpAny_pure (And.intro rfl h')) fun _ _ x => x)))))
      | (refine wpAny_bind (wpAny_rule ?_); show wpAny _ _ (standAt i1.pos >>= _) _ _ s; exact wpAny_bind (wpAny_standAt (wpAny_bind (wpAny_mono h (fun it' s' h' => wpAny_pure (And.intro rfl h')) fun _ _ x => x))))
end
end DL
namespace DL
open PySem PySem.Spec L2 PyProof.Rows
/-- {k: v for target in iter if .. for target in iter if ..} -/
def tDcP2 (K : KW) (wi : TI) (g : TG) (tt : TT) (wi1 : TI) (g1 : TG) (tt1 : TT) (tk tv : TE) (vs vs1 : List Nat) : TE := fun σ H Q => wi σ H fun J H1 => ∀ p, H1 p = none → sysModules ≠ p → ∃ W : Nat → Nat → Hp → Prop, (∃ m, W 0 m (upd H1 p (PinO p o0))) ∧ ∀ i m H, W i m H →
  (J.stop i H ∧ Q (.ref p) H) ∨ (J.go i H ∧ ∃ Nx : Hp → Prop, (∀ H', Nx H' → ∃ m', m' < m ∧ W (i + 1) m' H') ∧ ∀ x H', J.yld i H x H' → g x (wipe σ vs) H' fun σ2 H2 => wipe σ2 vs = wipe σ vs ∧ tt σ2 H2 fun t H3 =>
    if t = true then wi1 σ2 H3 fun J1 H4 => ∃ W1 : Nat → Nat → Hp → Prop, (∃ m, W1 0 m H4) ∧ ∀ j k H, W1 j k H →
      (J1.stop j H ∧ Nx H) ∨ (J1.go j H ∧ ∃ Nx1 : Hp → Prop, (∀ H', Nx1 H' → ∃ k', k' < k ∧ W1 (j + 1) k' H') ∧ ∀ x H', J1.yld j H x H' → g1 x (wipe σ2 vs1) H' fun σ3 H5 => wipe σ3 vs1 = wipe σ2 vs1 ∧ tt1 σ3 H5 fun b H6 =>
        if b = true then tk σ3 H6 fun y H7 => tv σ3 H7 fun z H8 => stP K p y z H8 Nx1 else Nx1 H6)
    else Nx H3)
section
variable {X : Cx}
theorem dcp2_core {pins : List (Addr × Obj)} {s : Shared} {σ : L2.St} {H : Hp} {Q : VK} {kx vx tg iter tg1 iter1 : Expr} {ifs ifs1 : List Expr} {scope : Scope} {own : List (Str × Nat)} {vs1 : List Nat} {pos pos' : Pos} {wi wi1 : TI} {g g1 : TG} {tt tt1 : TT} {tk tv : TE} {use : Option (Value → Sem Unit)} {Qf : Value → Shared → Prop}
    (hu : X.A.units + 64 < cLine) (hc : X.calm = true) (hN : X.N.Nodup) (I : Inv X pins σ H s) (hi : PI X tg iter wi) (ok : BlkOk X.N X.env.scope scope own) (hv : ∀ i ∈ vs1, i ∈ own.map (·.2))
    (hg : ∀ (s : Shared) (H : Hp) (C : Addr) (cl : List (Str × Addr)) (fp : List Addr), PG (X.blk s H scope (compEnvC scope cl C X.env) fp) tg g) (ht : ∀ (s : Shared) (H : Hp) (C : Addr) (cl : List (Str × Addr)) (fp : List Addr), PTs (X.blk s H scope (compEnvC scope cl C X.env) fp) ifs tt)
    (hk : ∀ (s : Shared) (H : Hp) (C : Addr) (cl : List (Str × Addr)) (fp : List Addr), PE (X.blk s H scope (compEnvC scope cl C X.env) fp) kx tk)
    (he : ∀ (s : Shared) (H : Hp) (C : Addr) (cl : List (Str × Addr)) (fp : List Addr), PE (X.blk s H scope (compEnvC scope cl C X.env) fp) vx tv) (hs : ∀ x, foldedSetIterable iter X.env x = pure x)
    (hi1 : ∀ (s : Shared) (H : Hp) (C : Addr) (cl : List (Str × Addr)) (fp : List Addr), PI (X.blk s H scope (compEnvC scope cl C X.env) fp) tg1 iter1 wi1)
    (hg1 : ∀ (s : Shared) (H : Hp) (C : Addr) (cl : List (Str × Addr)) (fp : List Addr), PG (X.blk s H scope (compEnvC scope cl C X.env) fp) tg1 g1)
    (ht1 : ∀ (s : Shared) (H : Hp) (C : Addr) (cl : List (Str × Addr)) (fp : List Addr), PTs (X.blk s H scope (compEnvC scope cl C X.env) fp) ifs1 tt1)
    (hs1 : ∀ env x, foldedSetIterable iter1 env x = pure x)
    (h : tDcP2 X.kw wi g tt wi1 g1 tt1 tk tv (own.map (·.2)) vs1 σ H Q)
    (hRR : ∀ D C s' m H', Inv X pins σ H' s' → Q (.ref D) H' → s'.heap.Ns C m → FpOk X pins H' C → compPost (model X.prog X.w) X.A X.xe use Qf (.ref D) C (.ok .next) s') :
    wpAny (model X.prog X.w) X.A (comprehension (.DictComp kx vx [⟨tg, iter, ifs, 0⟩, ⟨tg1, iter1, ifs1, 0⟩] scope pos) scope X.env pos' newDict false (eval iter X.env) use) Qf X.xe s := by
  have hfree : ∀ y ∈ scope.names, y.2 = .free → ∃ c, X.env.cells.lookup y.1 = some c := fun y hy e =>
    (ok.free y hy e).elim (fun k => I.ok.has _ (.inl k)) fun k => I.ok.has _ (.inr k)
  refine wpAny_comprehension_free (use := use) rfl hs (closure_ok hfree) ok.kind (fun y hy e => by rw [ok.uniq y hy, e])
    (thn (hi.run pins s σ H _ I h) fun xv s1 hx => thn hx fun itv s2 ⟨it, fp, tn, J, H2, e, I2, T, st2, f2, q⟩ => ?_)
  subst e
  refine wpAny_newObj_type (newEnv_comp ?_)
  have hp : H2 s2.heap.objs.size = none := I2.hok.fresh (Nat.le_refl _)
  obtain ⟨W, ⟨m0, w0⟩, turn⟩ := q s2.heap.objs.size hp (Nat.ne_of_lt I2.big)
  have I3 := laid0 I2
  have f3 : ∀ c ∈ fp, FpOk X pins (upd H2 s2.heap.objs.size (PinO s2.heap.objs.size o0)) c ∧ c < ({ s2 with heap := s2.heap.push o0 } : Shared).heap.objs.size := fun c hc => by
    obtain ⟨o, e, _⟩ := T.obj _ _ st2 c hc
    have hlt := Heap.lt_size e
    exact ⟨⟨by rw [upd_ne (Nat.ne_of_lt hlt)]; exact (f2 c hc).1, (f2 c hc).2⟩, by show c < (s2.heap.push o0).objs.size; rw [Heap.size_push]; exact Nat.lt_succ_of_lt hlt⟩
  have st3 : tn 0 (s2.heap.push o0) := T.keep _ _ _ st2 fun c _ o e => Heap.get?_push_of_some _ e
  have I4 := block_start I3 ok hN f3
  generalize hs3 : ({ s2 with heap := s2.heap.push o0 } : Shared) = s3 at I3 f3 I4
  have h3 : s3.heap = s2.heap.push o0 := by rw [← hs3]
  rw [← h3] at st3
  generalize hD : s2.heap.objs.size = D at hp w0 turn I3 f3 I4
  change codeAny _ _ (.compStart (.DictComp kx vx [⟨tg, iter, ifs, 0⟩, ⟨tg1, iter1, ifs1, 0⟩] scope pos) 0 (.ref it) (.ref D) (compEnvC scope (cellsFrom ((s2.heap.push o0).objs.size + 1) scope.names (cloFrom X.env.cells scope.names [])) (s2.heap.push o0).objs.size X.env)) (compPost (model X.prog X.w) X.A X.xe use Qf (.ref D) (s2.heap.push o0).objs.size) { s2 with heap := pushCells ((s2.heap.push o0).push { cls := .type "dict", data := .dict #[] }) scope.names }
  rw [← h3]
  have hs4 : ({ s2 with heap := pushCells (s3.heap.push { cls := .type "dict", data := .dict #[] }) scope.names } : Shared) = { s3 with heap := pushCells (s3.heap.push { cls := .type "dict", data := .dict #[] }) scope.names } := by rw [← hs3]
  rw [hs4]
  have st4 : tn 0 (pushCells (s3.heap.push { cls := .type "dict", data := .dict #[] }) scope.names) := T.keep _ _ _ st3 fun c _ o e => pushCells_keeps _ _ _ _ (Heap.get?_push_of_some _ e)
  generalize hH3 : upd H2 D (PinO D o0) = H3 at w0 I3 f3 I4
  have pg := hg s3 H3 s3.heap.objs.size (cellsFrom (s3.heap.objs.size + 1) scope.names (cloFrom X.env.cells scope.names [])) fp
  have pt := ht s3 H3 s3.heap.objs.size (cellsFrom (s3.heap.objs.size + 1) scope.names (cloFrom X.env.cells scope.names [])) fp
  have pk := hk s3 H3 s3.heap.objs.size (cellsFrom (s3.heap.objs.size + 1) scope.names (cloFrom X.env.cells scope.names [])) fp
  have pe := he s3 H3 s3.heap.objs.size (cellsFrom (s3.heap.objs.size + 1) scope.names (cloFrom X.env.cells scope.names [])) fp
  have pi1 := hi1 s3 H3 s3.heap.objs.size (cellsFrom (s3.heap.objs.size + 1) scope.names (cloFrom X.env.cells scope.names [])) fp
  have pg1 := hg1 s3 H3 s3.heap.objs.size (cellsFrom (s3.heap.objs.size + 1) scope.names (cloFrom X.env.cells scope.names [])) fp
  have pt1 := ht1 s3 H3 s3.heap.objs.size (cellsFrom (s3.heap.objs.size + 1) scope.names (cloFrom X.env.cells scope.names [])) fp
  have nfp : ∀ c ∈ fp, H3 c = none := fun c hc => (f3 c hc).1.1
  generalize hce : compEnvC scope (cellsFrom (s3.heap.objs.size + 1) scope.names (cloFrom X.env.cells scope.names [])) s3.heap.objs.size X.env = ce at I4 pg pt pk pe pi1 pg1 pt1 ⊢
  have cL : ce.locals = s3.heap.objs.size := by subst hce; rfl
  generalize hs5 : ({ s3 with heap := pushCells (s3.heap.push { cls := .type "dict", data := .dict #[] }) scope.names } : Shared) = s4 at I4 ⊢
  have st4' : tn 0 s4.heap := by rw [← hs5]; exact st4
  have stat : ∀ {σ' : L2.St} {H' : Hp} {s' : Shared}, Inv (X.blk s3 H3 scope ce fp) [] σ' H' s' → (∀ c ∈ fp, H' c = none) → ∀ c ∈ fp, FpOk (X.blk s3 H3 scope ce fp) [] H' c := fun {σ' H' s'} I' hn c hc =>
    ⟨hn c hc, (I'.ok.exf c hc).1, I'.ok.exfs c hc, .inl hc, fun x d e => (I'.ok.exf c hc).2 x d e, fun q hq => absurd (show q ∈ ([] : List (Addr × Obj)) ++ [] from hq) (by simp)⟩
  have loop : codeAny (model X.prog X.w) X.A (.compLoop (.DictComp kx vx [⟨tg, iter, ifs, 0⟩, ⟨tg1, iter1, ifs1, 0⟩] scope pos) 0 (.ref it) (.ref D) ce) (compPost (model X.prog X.w) X.A X.xe use Qf (.ref D) s3.heap.objs.size) s4 := by
    refine compLoop2d_out (hs1 ce) (fun n s' => ∃ i H', Inv (X.blk s3 H3 scope ce fp) [] (wipe σ (own.map (·.2))) H' s' ∧ tn i s'.heap ∧ (∀ c ∈ fp, H' c = none) ∧ W i n H') ?_ m0 ⟨0, H3, I4, st4', nfp, w0⟩
    rintro n s5 ⟨i, H5, I5, st5, n5, w5⟩
    rcases turn i n H5 w5 with ⟨stop, qq⟩ | ⟨go, Nx, hNx, step⟩
    · refine thnF (T.done (X.blk s3 H3 scope ce fp) rfl rfl rfl hc i [] s5 _ H5 (fun _ _ => False) I5 (stat I5 n5) st5 stop) fun r s6 ⟨hr, I6⟩ => ?_
      subst hr
      have I7 : Inv X pins σ H5 s6 := I3.call' (ch := fp) I6.os I6.base I6.hok I6.bare fun c hc => ⟨(f3 c hc).1.2.2.2.1, (f3 c hc).1.2.1, (f3 c hc).1.2.2.2.2.1, (f3 c hc).1.2.2.2.2.2⟩
      have nC : H5 ce.locals = none := I6.free
      obtain ⟨m, hn, _⟩ := I6.loc
      have hn : s6.heap.Ns ce.locals m := hn
      rw [cL] at hn nC
      exact hRR D s3.heap.objs.size s6 m H5 I7 qq hn (I3.fpOk (Nat.le_refl _) nC)
    · refine thnF (T.item (X.blk s3 H3 scope ce fp) rfl rfl rfl hc i [] s5 _ H5 (fun _ _ => False) I5 (stat I5 n5) st5 go) fun r s6 ⟨u, hr, h6⟩ => ?_
      subst hr
      refine thnF h6 fun _ s7 ⟨x, H7, I7, r7, y7, st7, n7⟩ => ?_
      have I7' := I7.pinned (stat I7 n7) (T.obj _ _ st7)
      refine thnF (pg.run _ s7 _ H7 x u _ I7' r7 (step x H7 y7)) fun _ s8 ⟨σ8, H8, I8, hw8, q8⟩ => ?_
      refine thnF (pt.run _ s8 σ8 H8 _ I8 q8) fun t s9 ⟨H9, I9, q9⟩ => ?_
      have fin : ∀ {σ9 : L2.St} {s' : Shared} {H' : Hp}, Inv (X.blk s3 H3 scope ce fp) ([] ++ pinsAt fp s7.heap) σ9 H' s' → (wipe σ (own.map (·.2))).length = σ9.length → (∀ (j : Nat) v, (wipe σ (own.map (·.2)))[j]? = some (some v) → σ9[j]? = some (some v)) → Nx H' →
          ∃ m, m < n ∧ ∃ i H', Inv (X.blk s3 H3 scope ce fp) [] (wipe σ (own.map (·.2))) H' s' ∧ tn i s'.heap ∧ (∀ b ∈ fp, H' b = none) ∧ W i m H' := fun {σ9 s' H'} I' hl hk nx => by
        obtain ⟨m', hm, w'⟩ := hNx H' nx
        have pin' : ∀ b ∈ fp, ∀ o, s7.heap.get? b = some o → s'.heap.get? b = some o ∧ H' b = none := fun b hb o e =>
          let z := I'.pin (b, o) (List.mem_append_right _ (List.mem_append_right _ (mem_pinsAt hb e)))
          ⟨z.1, z.2.1⟩
        refine ⟨m', hm, i + 1, H', (I'.unpinned (pins := [])).weak hl hk, T.keep _ _ _ st7 fun b hb o e => (pin' b hb o e).1, fun b hb => ?_, w'⟩
        obtain ⟨o, e, _⟩ := T.obj _ _ st7 b hb
        exact (pin' b hb o e).2
      have hl8 : (wipe σ (own.map (·.2))).length = σ8.length := by rw [← hw8, wipe_length]
      have hk8 : ∀ (j : Nat) v, (wipe σ (own.map (·.2)))[j]? = some (some v) → σ8[j]? = some (some v) := fun j v e => by
        rw [← hw8] at e
        exact (wipe_some e).1
      have hk9 : ∀ (j : Nat) v, (wipe σ (own.map (·.2)))[j]? = some (some v) → (wipe σ8 vs1)[j]? = some (some v) := fun j v e => by
        rw [← hw8] at e
        obtain ⟨e1, e2⟩ := wipe_some e
        rw [wipe_out fun z => e2 (hv j z)]
        exact e1
      cases t with
      | false =>
        simp only [Bool.false_eq_true, if_false] at q9 ⊢
        exact fin I9 hl8 hk8 q9
      | true =>
        simp only [if_true] at q9 ⊢
        refine thnF (pi1.run _ s9 σ8 H9 _ I9 q9) fun xv s10 hx => thnF hx fun itv s11 h11 => ?_
        obtain ⟨it1, fp1, tn1, J1, H11, e1, I11, T1, st11, f11, W1, ⟨m1, w1⟩, turn1⟩ := h11
        subst e1
        have stat1 : ∀ {H' : Hp}, (∀ b ∈ fp1, H' b = none) → ∀ b ∈ fp1, FpOk (X.blk s3 H3 scope ce fp) ([] ++ pinsAt fp s7.heap) H' b := fun hn b hb => ⟨hn b hb, (f11 b hb).2⟩
        have loop1 : codeAny (model X.prog X.w) X.A (.compLoop (.DictComp kx vx [⟨tg, iter, ifs, 0⟩, ⟨tg1, iter1, ifs1, 0⟩] scope pos) 1 (.ref it1) (.ref D) ce)
            (fun r s' => match r with
              | .ok _ => ∃ m, m < n ∧ ∃ i H', Inv (X.blk s3 H3 scope ce fp) [] (wipe σ (own.map (·.2))) H' s' ∧ tn i s'.heap ∧ (∀ b ∈ fp, H' b = none) ∧ W i m H'
              | .error _ => False) s11 := by
          refine compLoop2d_in (fun k s' => ∃ j H', Inv (X.blk s3 H3 scope ce fp) ([] ++ pinsAt fp s7.heap) (wipe σ8 vs1) H' s' ∧ tn1 j s'.heap ∧ (∀ b ∈ fp1, H' b = none) ∧ W1 j k H') ?_ m1 ⟨0, H11, I11.weak (wipe_length _ _) (fun j v e => (wipe_some e).1), st11, fun b hb => (f11 b hb).1, w1⟩
          rintro k s12 ⟨j, H12, I12, st12, n12, w12⟩
          rcases turn1 j k H12 w12 with ⟨stop1, nx1⟩ | ⟨go1, Nx1, hNx1, step1⟩
          · refine thnF (T1.done (X.blk s3 H3 scope ce fp) rfl rfl rfl hc j _ s12 (wipe σ8 vs1) H12 (fun _ _ => False) I12 (stat1 n12) st12 stop1) fun r s13 ⟨hr, I13⟩ => ?_
            subst hr
            exact fin I13 (hl8.trans (wipe_length σ8 vs1).symm) hk9 nx1
          · refine thnF (T1.item (X.blk s3 H3 scope ce fp) rfl rfl rfl hc j _ s12 (wipe σ8 vs1) H12 (fun _ _ => False) I12 (stat1 n12) st12 go1) fun r s13 ⟨u1, hr, h13⟩ => ?_
            subst hr
            refine thnF h13 fun _ s14 ⟨x1, H14, I14, r14, y14, st14, n14⟩ => ?_
            have I14' := I14.pinned (stat1 n14) (T1.obj _ _ st14)
            refine thnF (pg1.run _ s14 (wipe σ8 vs1) H14 x1 u1 _ I14' r14 (step1 x1 H14 y14)) fun _ s15 ⟨σ15, H15, I15, hw15, q15⟩ => ?_
            refine thnF (pt1.run _ s15 σ15 H15 _ I15 q15) fun b1 s16 ⟨H16, I16, q16⟩ => ?_
            have fin1 : ∀ {s' : Shared} {H' : Hp}, Inv (X.blk s3 H3 scope ce fp) (([] ++ pinsAt fp s7.heap) ++ pinsAt fp1 s14.heap) σ15 H' s' → Nx1 H' → ∃ m, m < k ∧ ∃ j H', Inv (X.blk s3 H3 scope ce fp) ([] ++ pinsAt fp s7.heap) (wipe σ8 vs1) H' s' ∧ tn1 j s'.heap ∧ (∀ b ∈ fp1, H' b = none) ∧ W1 j m H' := fun {s' H'} I' nx => by
              obtain ⟨m', hm, w'⟩ := hNx1 H' nx
              have pin' : ∀ b ∈ fp1, ∀ o, s14.heap.get? b = some o → s'.heap.get? b = some o ∧ H' b = none := fun b hb o e =>
                let z := I'.pin (b, o) (List.mem_append_right _ (List.mem_append_right _ (mem_pinsAt hb e)))
                ⟨z.1, z.2.1⟩
              refine ⟨m', hm, j + 1, H', I'.unpinned.weak (by rw [← hw15, wipe_length]) (fun j v e => by rw [← hw15] at e; exact (wipe_some e).1), T1.keep _ _ _ st14 fun b hb o e => (pin' b hb o e).1, fun b hb => ?_, w'⟩
              obtain ⟨o, e, _⟩ := T1.obj _ _ st14 b hb
              exact (pin' b hb o e).2
            cases b1 with
            | false =>
              simp only [Bool.false_eq_true, if_false] at q16 ⊢
              exact fin1 I16 q16
            | true =>
              simp only [if_true] at q16 ⊢
              refine thnF (pk.run _ s16 σ15 H16 _ I16 q16) fun z s17 ⟨yk, H17, I17, r17, q17⟩ => ?_
              refine thnF (pe.run _ s17 σ15 H17 _ I17 q17) fun z2 s18 ⟨yv, H18, I18, r18, h, dy, dz, b, kvs, o, d1, d2, rh, eD, hk', hl', nx⟩ => ?_
              exact dd_put (X := X.blk s3 H3 scope ce fp) hu I18 rh eD hk' hl' d1 r17 d2 r18 fun s19 o' I19 ok' => fin1 I19 (nx o' ok')
        exact compStart1d_ok loop1 (T1.self X.A 0 _ _ _ st11 loop1)
  exact codeAny_compStart_dict loop (T.self X.A 0 _ _ _ st4' loop)
/-- as a value -/
theorem pe_dcP2 {kx vx tg iter tg1 iter1 : Expr} {ifs ifs1 : List Expr} {scope : Scope} {own : List (Str × Nat)} {vs1 : List Nat} {pos : Pos} {wi wi1 : TI} {g g1 : TG} {tt tt1 : TT} {tk tv : TE} (hu : X.A.units + 64 < cLine) (hc : X.calm = true) (hN : X.N.Nodup) (hi : PI X tg iter wi) (ok : BlkOk X.N X.env.scope scope own) (hv : ∀ i ∈ vs1, i ∈ own.map (·.2))
    (hg : ∀ (s : Shared) (H : Hp) (C : Addr) (cl : List (Str × Addr)) (fp : List Addr), PG (X.blk s H scope (compEnvC scope cl C X.env) fp) tg g) (ht : ∀ (s : Shared) (H : Hp) (C : Addr) (cl : List (Str × Addr)) (fp : List Addr), PTs (X.blk s H scope (compEnvC scope cl C X.env) fp) ifs tt)
    (hi1 : ∀ (s : Shared) (H : Hp) (C : Addr) (cl : List (Str × Addr)) (fp : List Addr), PI (X.blk s H scope (compEnvC scope cl C X.env) fp) tg1 iter1 wi1)
    (hg1 : ∀ (s : Shared) (H : Hp) (C : Addr) (cl : List (Str × Addr)) (fp : List Addr), PG (X.blk s H scope (compEnvC scope cl C X.env) fp) tg1 g1) (ht1 : ∀ (s : Shared) (H : Hp) (C : Addr) (cl : List (Str × Addr)) (fp : List Addr), PTs (X.blk s H scope (compEnvC scope cl C X.env) fp) ifs1 tt1)
    (hk : ∀ (s : Shared) (H : Hp) (C : Addr) (cl : List (Str × Addr)) (fp : List Addr), PE (X.blk s H scope (compEnvC scope cl C X.env) fp) kx tk)
    (he : ∀ (s : Shared) (H : Hp) (C : Addr) (cl : List (Str × Addr)) (fp : List Addr), PE (X.blk s H scope (compEnvC scope cl C X.env) fp) vx tv) (hs : ∀ x, foldedSetIterable iter X.env x = pure x := by intro _; rfl) (hs1 : ∀ env x, foldedSetIterable iter1 env x = pure x := by intro _ _; rfl) :
    PE X (.DictComp kx vx [⟨tg, iter, ifs, 0⟩, ⟨tg1, iter1, ifs1, 0⟩] scope pos) (tDcP2 X.kw wi g tt wi1 g1 tt1 tk tv (own.map (·.2)) vs1) := by
  refine ⟨fun pins s σ H Q I h => ?_⟩
  rw [arm_eval_DictComp]
  refine dcp2_core hu hc hN I hi ok hv hg ht hk he hs hi1 hg1 ht1 hs1 h fun D C s' m H' I' q hn f => ⟨m, hn, fun h'' sb => ?_⟩
  obtain ⟨f0, f1, f2, f3, f4, f5⟩ := f
  exact ⟨.ref D, H', I'.turned (t' := s'.toks) (fun c o hc e => (sb.2 c hc).trans e) f0 f1 f3 f4 f5, rfl, q⟩
end
end DL
namespace DL
open PySem PySem.Spec L2

/-! ## 3. The operations are those of the machine -/
theorem PE.imp {X : Cx} {e : Expr} {t t' : TE} (h : PE X e t) (k : ∀ σ H Q, t' σ H Q → t σ H Q) : PE X e t' := ⟨fun pins s σ H Q I q => h.run pins s σ H Q I (k σ H Q q)⟩
theorem PT.imp {X : Cx} {e : Expr} {t t' : TT} (h : PT X e t) (k : ∀ σ H Q, t' σ H Q → t σ H Q) : PT X e t' := ⟨fun pins s σ H Q I q => h.run pins s σ H Q I (k σ H Q q)⟩
theorem PW.imp {X : Cx} {e : Expr} {t t' : TT} (h : PW X e t) (k : ∀ σ H Q, t' σ H Q → t σ H Q) : PW X e t' := ⟨fun w pins s σ H Q I q => h.run w pins s σ H Q I (k σ H Q q)⟩
theorem PA.imp {X : Cx} {e : List Expr} {t t' : TA} (h : PA X e t) (k : ∀ σ H Q, t' σ H Q → t σ H Q) : PA X e t' := ⟨fun p pins s σ H Q I q => h.run p pins s σ H Q I (k σ H Q q)⟩
theorem PK.imp {X : Cx} {e : List Keyword} {t t' : TA} (h : PK X e t) (k : ∀ σ H Q, t' σ H Q → t σ H Q) : PK X e t' := ⟨fun p pins s σ H Q I q => h.run p pins s σ H Q I (k σ H Q q)⟩
theorem PS.imp {X : Cx} {e : Stmt} {t t' : TS} (h : PS X e t) (k : ∀ D σ H, t' D σ H → t D σ H) : PS X e t' := ⟨fun pins s σ H D I q => h.run pins s σ H D I (k D σ H q)⟩
theorem PSs.imp {X : Cx} {e : List Stmt} {t t' : TS} (h : PSs X e t) (k : ∀ D σ H, t' D σ H → t D σ H) : PSs X e t' := ⟨fun pins s σ H D I q => h.run pins s σ H D I (k D σ H q)⟩

variable {K : KW} {X : Cx} {B : Bs}
abbrev Rd2 := D → D → DH → DK → Prop
def liftR2 (K : KW) (rd : Rd2) : R2 := fun x y H Q => ∃ d1 d2 h Qd, RD K H d1 x ∧ RD K H d2 y ∧ RH K H h ∧ rd d1 d2 h Qd ∧ ∀ d h' v H', Qd d h' → Post K h H d h' v H' → Q v H'
theorem lift_bin {ta tb : TEd} {rd : Rd2} {σ : L2.St} {H : Hp} {Q : VK} (q : lift K B (fun s h Q => ta s h fun x h1 => tb s h1 fun y h2 => rd x y h2 Q) σ H Q) :
    tOp (liftR2 K rd) (lift K B ta) (lift K B tb) σ H Q := by
  obtain ⟨sd, h, Qd, n, t, k⟩ := q
  exact ⟨sd, h, _, n, t, fun d1 h1 v1 H1 q1 p1 => ⟨sd, h1, _, n.after p1.rh p1.fr, q1, fun d2 h2 v2 H2 q2 p2 =>
    ⟨d1, d2, h2, Qd, p1.rd.mono (Frm.tm p1.rh p2.fr), p2.rd, p2.rh, q2, fun d h' v H' q p => k d h' v H' q ⟨p.rd, p.rh, (p1.fr.trans p2.fr).trans p.fr⟩⟩⟩⟩
abbrev Rd1 := D → DH → DK → Prop
def liftR1 (K : KW) (rd : Rd1) : V → Hp → VK → Prop := fun x H Q => ∃ d1 h Qd, RD K H d1 x ∧ RH K H h ∧ rd d1 h Qd ∧ ∀ d h' v H', Qd d h' → Post K h H d h' v H' → Q v H'
theorem lift_un {ta : TEd} {rd : Rd1} {σ : L2.St} {H : Hp} {Q : VK} (q : lift K B (fun s h Q => ta s h fun x h1 => rd x h1 Q) σ H Q) :
    tUn (liftR1 K rd) (lift K B ta) σ H Q := by
  obtain ⟨sd, h, Qd, n, t, k⟩ := q
  exact ⟨sd, h, _, n, t, fun d1 h1 v1 H1 q1 p1 => ⟨d1, h1, Qd, p1.rd, p1.rh, q1, fun d h' v H' q p => k d h' v H' q ⟨p.rd, p.rh, p1.fr.trans p.fr⟩⟩⟩
theorem Post.scal {h : DH} {H : Hp} {d : D} {v : V} (r : RH K H h) (q : RD K H d v) : Post K h H d h v H := ⟨q, r, .refl _ _⟩
theorem Post.lst {h : DH} {H : Hp} {p : Addr} {ds : List D} {vs : List V} (r : RH K H h) (e : H p = none) (q : RDs K H ds vs) : Post K h H (.ref p) (updD h p (.lst ds)) (.ref p) (upd H p (.lst vs)) :=
  ⟨.ref p, r.lstNew e q, .new e⟩
theorem Post.tup {h : DH} {H : Hp} {p : Addr} {ds : List D} {vs : List V} (r : RH K H h) (e : H p = none) (q : RDs K H ds vs) : Post K h H (.tup ds) h (.ref p) (upd H p (.tup vs)) :=
  ⟨.newT e q, r.newT e, .newT e⟩
theorem Post.write {h : DH} {H : Hp} {p : Addr} {d : D} {v : V} {xs ds : List D} {vs : List V} (r : RH K H h) (e : h p = some (.lst xs)) (q : RDs K H ds vs) (rd : RD K (upd H p (.lst vs)) d v) : Post K h H d (updD h p (.lst ds)) v (upd H p (.lst vs)) :=
  ⟨rd, r.lstSet e q, .write e⟩
theorem RDs.nil_iff {H : Hp} {ds : List D} {vs : List V} (r : RDs K H ds vs) : vs = [] ↔ ds = [] := by cases r <;> simp

theorem RDs.rep {H : Hp} {ds : List D} {vs : List V} (r : RDs K H ds vs) : ∀ n : Nat, RDs K H (List.replicate n ds).flatten (List.replicate n vs).flatten
  | 0 => by simp; exact .nil
  | n + 1 => by rw [List.replicate_succ, List.replicate_succ, List.flatten_cons, List.flatten_cons]; exact r.append (RDs.rep r n)
theorem op_addD : OpR X (binaryOp .Add) (liftR2 X.kw addD) := by
  intro pins s σ H x y v u Q I rx ry ⟨d1, d2, h, Qd, r1, r2, rh, t, k⟩
  cases d1 with
  | int i =>
    cases d2 with
    | int j => cases r1; cases r2; exact op_add pins s σ H _ _ v u Q I rx ry ⟨i, j, rfl, rfl, k _ _ _ _ t (.scal rh (.int _))⟩
    | _ => exact t.elim
  | str i =>
    cases d2 with
    | str j => cases r1; cases r2; exact op_add_str pins s σ H _ _ v u Q I rx ry ⟨i, j, rfl, rfl, t.1, k _ _ _ _ t.2 (.scal rh (.str _))⟩
    | _ => exact t.elim
  | tup a =>
    cases d2 with
    | tup b =>
      cases r1 with | tup s1 q1 =>
      cases r2 with | tup s2 q2 =>
      refine op_catA pins s σ H _ _ v u Q I rx ry ⟨_, _, _, _, rfl, rfl, s1, s2, by rw [← q1.length, ← q2.length]; exact t.1, fun e => ?_, fun _ e => ?_, fun _ _ p np => ?_⟩
      · have ea := q1.nil_iff.mp e
        subst ea
        exact k _ _ _ _ t.2 (.scal rh (.tup s2 q2))
      · have eb := q2.nil_iff.mp e
        subst eb
        have t' : Qd (.tup (a ++ [])) h := t.2
        rw [List.append_nil] at t'
        exact k _ _ _ _ t' (.scal rh (.tup s1 q1))
      · exact k _ _ _ _ t.2 (.tup rh np (q1.append q2))
    | _ => exact t.elim
  | ref a =>
    cases d2 with
    | ref b =>
      obtain ⟨xs, ys, e1, e2, hz, q⟩ := t
      cases r1; cases r2
      obtain ⟨vs, f1, q1⟩ := rh.lst e1
      obtain ⟨ws, f2, q2⟩ := rh.lst e2
      exact op_cat pins s σ H _ _ v u Q I rx ry ⟨a, b, vs, ws, rfl, rfl, f1, f2, by rw [← q1.length, ← q2.length]; exact hz, fun p np => k _ _ _ _ (q p (rh.free np)) (.lst rh np (q1.append q2))⟩
    | _ => exact t.elim
  | _ => exact t.elim
theorem op_mulD : OpR X (binaryOp .Mult) (liftR2 X.kw mulD) := by
  intro pins s σ H x y v u Q I rx ry ⟨d1, d2, h, Qd, r1, r2, rh, t, k⟩
  cases d2 with
  | int j =>
    cases d1 with
    | int i =>
      cases r1; cases r2
      rcases t.1 with c | c
      · exact op_mul pins s σ H _ _ v u Q I rx ry ⟨i, j, rfl, rfl, c, k _ _ _ _ t.2 (.scal rh (.int _))⟩
      · exact op_mulW pins s σ H _ _ v u Q I rx ry ⟨i, j, rfl, rfl, c, k _ _ _ _ t.2 (.scal rh (.int _))⟩
    | tup a =>
      cases r2
      cases r1 with | tup s1 q1 =>
      obtain ⟨⟨c1, c2, c3, c4⟩, q⟩ := t
      have ne : _ ≠ [] := fun e => c1 (q1.nil_iff.mp e)
      by_cases j0 : j = 0
      · subst j0
        exact op_rep01 pins s σ H _ _ v u Q I rx ry ⟨_, 0, _, rfl, rfl, s1, ne, .inr ⟨rfl, fun p np => k _ _ _ _ q (.tup rh np (q1.rep 0))⟩⟩
      · by_cases j1 : j = 1
        · subst j1
          refine op_rep01 pins s σ H _ _ v u Q I rx ry ⟨_, 1, _, rfl, rfl, s1, ne, .inl ⟨rfl, ?_⟩⟩
          have e1 : (List.replicate (1 : Int).toNat a).flatten = a := by simp
          rw [e1] at q
          exact k _ _ _ _ q (.scal rh (.tup s1 q1))
        · exact op_repT pins s σ H _ _ v u Q I rx ry ⟨_, j, _, rfl, rfl, s1, ne, by omega, c3, by rw [← q1.length]; exact c4, fun p np => k _ _ _ _ q (.tup rh np (q1.rep _))⟩
    | ref a =>
      cases r1; cases r2
      obtain ⟨xs, e1, ⟨c1, c2, c3⟩, q⟩ := t
      obtain ⟨vs, f1, q1⟩ := rh.lst e1
      exact op_rep pins s σ H _ _ v u Q I rx ry ⟨a, j, vs, rfl, rfl, f1, c1, c2, by rw [← q1.length]; exact c3, fun p np => k _ _ _ _ (q p (rh.free np)) (.lst rh np (q1.rep _))⟩
    | _ => exact t.elim
  | _ => exact t.elim
theorem op_binD (op : Operator) : OpR X (binaryOp op) (liftR2 X.kw (binD op)) := by
  cases op with
  | Add => exact op_addD
  | Mult => exact op_mulD
  | Sub =>
    intro pins s σ H x y v u Q I rx ry ⟨d1, d2, h, Qd, r1, r2, rh, t, k⟩
    cases d1 with
    | int i =>
      cases d2 with
      | int j => cases r1; cases r2; exact op_sub pins s σ H _ _ v u Q I rx ry ⟨i, j, rfl, rfl, k _ _ _ _ t (.scal rh (.int _))⟩
      | _ => exact t.elim
    | _ => exact t.elim
  | FloorDiv =>
    intro pins s σ H x y v u Q I rx ry ⟨d1, d2, h, Qd, r1, r2, rh, t, k⟩
    cases d1 with
    | int i =>
      cases d2 with
      | int j => cases r1; cases r2; exact op_fdivW pins s σ H _ _ v u Q I rx ry ⟨i, j, rfl, rfl, t.1, k _ _ _ _ t.2 (.scal rh (.int _))⟩
      | _ => exact t.elim
    | _ => exact t.elim
  | Mod =>
    intro pins s σ H x y v u Q I rx ry ⟨d1, d2, h, Qd, r1, r2, rh, t, k⟩
    cases d1 with
    | int i =>
      cases d2 with
      | int j => cases r1; cases r2; exact op_mod pins s σ H _ _ v u Q I rx ry ⟨i, j, rfl, rfl, t.1, k _ _ _ _ t.2 (.scal rh (.int _))⟩
      | _ => exact t.elim
    | _ => exact t.elim
  | Pow =>
    intro pins s σ H x y v u Q I rx ry ⟨d1, d2, h, Qd, r1, r2, rh, t, k⟩
    cases d1 with
    | int i =>
      cases d2 with
      | int j => cases r1; cases r2; exact op_pow pins s σ H _ _ v u Q I rx ry ⟨i, j, rfl, rfl, t.1, k _ _ _ _ t.2 (.scal rh (.int _))⟩
      | _ => exact t.elim
    | _ => exact t.elim
  | _ =>
    intro pins s σ H x y v u Q I rx ry ⟨d1, d2, h, Qd, r1, r2, rh, t, k⟩
    exact t.elim
theorem un_negD : UnR X (unaryOp .USub) (liftR1 X.kw negD) := by
  intro pins s σ H x v Q I rx ⟨d1, h, Qd, r1, rh, t, k⟩
  cases d1 with
  | int i => cases r1; exact un_neg pins s σ H _ v Q I rx ⟨i, rfl, k _ _ _ _ t (.scal rh (.int _))⟩
  | _ => exact t.elim

/-! ### == -/
mutual
theorem PD.dp {h : DH} {H : Hp} (rh : RH K H h) : ∀ {d : D} {a : PyData} {v : V}, PD h d a → RD K H d v → Dp K H v a
  | _, _, _, .non, r => by cases r; exact .non
  | _, _, _, .bl b, r => by cases r; exact .bl b
  | _, _, _, .int i, r => by cases r; exact .int i
  | _, _, _, .str x, r => by cases r; exact .str x
  | _, _, _, .tup q, r => by cases r with | tup s rs => exact .tup s (PDs.dp rh q rs)
  | _, _, _, .lst l q, r => by
    cases r
    obtain ⟨vs, s, rs⟩ := rh.sq l
    exact .lst s (PDs.dp rh q rs)
  | _, _, _, .rl q, r => by cases r with | rl s rs => exact .lst s.sq (PDs.dp rh q rs)
theorem PDs.dp {h : DH} {H : Hp} (rh : RH K H h) : ∀ {ds : List D} {as : List PyData} {vs : List V}, PDs h ds as → RDs K H ds vs → DpAll K H vs as
  | _, _, _, .nil, r => by cases r; exact .nil
  | _, _, _, .cons p q, r => by cases r with | cons r rs => exact .cons (PD.dp rh p r) (PDs.dp rh q rs)
end
theorem op_eqGD (hu : X.A.units + 64 < cLine) {pins : List (Addr × Obj)} {s : Shared} {σ : L2.St} {H : Hp} {x y : V} {v u : Value} {Q : VK} {d1 d2 : D} {h : DH} {k : Bool → Prop}
    (I : Inv X pins σ H s) (rx : RelV x v) (ry : RelV y u) (r1 : RD X.kw H d1 x) (r2 : RD X.kw H d2 y) (rh : RH X.kw H h) (t : eqG d1 d2 h k) (hk : ∀ b, k b → Q (.bl b) H) :
    wpAny (model X.prog X.w) X.A (compareOp .Eq v u) (EP X pins σ Q) X.xe s := by
  obtain ⟨a, b, p1, p2, s1, s2, q⟩ := t
  exact op_eqD hu pins s σ H x y v u Q I rx ry ⟨a, b, p1.dp rh r1, p2.dp rh r2, s1, s2, hk _ q⟩
theorem op_neGD (hu : X.A.units + 64 < cLine) {pins : List (Addr × Obj)} {s : Shared} {σ : L2.St} {H : Hp} {x y : V} {v u : Value} {Q : VK} {d1 d2 : D} {h : DH} {k : Bool → Prop}
    (I : Inv X pins σ H s) (rx : RelV x v) (ry : RelV y u) (r1 : RD X.kw H d1 x) (r2 : RD X.kw H d2 y) (rh : RH X.kw H h) (t : eqG d1 d2 h fun b => k (!b)) (hk : ∀ b, k b → Q (.bl b) H) :
    wpAny (model X.prog X.w) X.A (compareOp .NotEq v u) (EP X pins σ Q) X.xe s := by
  obtain ⟨a, b, p1, p2, s1, s2, q⟩ := t
  exact op_neD hu pins s σ H x y v u Q I rx ry ⟨a, b, p1.dp rh r1, p2.dp rh r2, s1, s2, hk _ q⟩
/-- a comparison, by values -/
def rdC (op : CmpOp) : Rd2 := fun x y h Q => cmpD op x y h fun k => Q (.bl k) h
theorem decV_int (i j : Int) : decide (V.int i = V.int j) = decide (i = j) := by by_cases e : i = j <;> simp [e]
theorem decV_str (i j : Str) : decide (V.str i = V.str j) = decide (i = j) := by by_cases e : i = j <;> simp [e]
theorem decV_bl (i j : Bool) : decide (V.bl i = V.bl j) = decide (i = j) := by by_cases e : i = j <;> simp [e]
theorem op_eqDD (hu : X.A.units + 64 < cLine) : OpR X (compareOp .Eq) (liftR2 X.kw (rdC .Eq)) := by
  intro pins s σ H x y v u Q I rx ry ⟨d1, d2, h, Qd, r1, r2, rh, t, k⟩
  have hk : ∀ b, Qd (.bl b) h → Q (.bl b) H := fun b q => k _ _ _ _ q (.scal rh (.bl b))
  cases d1 with
  | int i =>
    cases d2 with
    | int j => cases r1; cases r2; exact op_eq pins s σ H _ _ v u Q I rx ry ⟨rfl, by rw [decV_int]; exact hk _ t⟩
    | str j => cases r1; cases r2; exact op_eq pins s σ H _ _ v u Q I rx ry ⟨rfl, by rw [decide_eq_false (by intro z; cases z)]; exact hk _ t⟩
    | _ => exact op_eqGD (k := fun b => Qd (.bl b) h) hu I rx ry r1 r2 rh t hk
  | str i =>
    cases d2 with
    | str j => cases r1; cases r2; exact op_eq pins s σ H _ _ v u Q I rx ry ⟨rfl, by rw [decV_str]; exact hk _ t⟩
    | int j => cases r1; cases r2; exact op_eq pins s σ H _ _ v u Q I rx ry ⟨rfl, by rw [decide_eq_false (by intro z; cases z)]; exact hk _ t⟩
    | _ => exact op_eqGD (k := fun b => Qd (.bl b) h) hu I rx ry r1 r2 rh t hk
  | bl i =>
    cases d2 with
    | bl j => cases r1; cases r2; exact op_eq pins s σ H _ _ v u Q I rx ry ⟨rfl, by rw [decV_bl]; exact hk _ t⟩
    | _ => exact op_eqGD (k := fun b => Qd (.bl b) h) hu I rx ry r1 r2 rh t hk
  | ref p =>
    cases d2 with
    | ref q =>
      rcases eqR_el (show eqR p q h (fun b => Qd (.bl b) h) from t) with t | t
      · exact op_eqGD (k := fun b => Qd (.bl b) h) hu I rx ry r1 r2 rh t hk
      · obtain ⟨b, kb, f1, f2⟩ := dd_cmp (E := X.xe) hu I rh t
        cases r1; cases r2
        cases (show v = Value.ref p from rx)
        cases (show u = Value.ref q from ry)
        exact f1 ⟨.bl b, H, I, rfl, hk _ kb⟩
    | _ => exact op_eqGD (k := fun b => Qd (.bl b) h) hu I rx ry r1 r2 rh t hk
  | _ => exact op_eqGD (k := fun b => Qd (.bl b) h) hu I rx ry r1 r2 rh t hk
theorem op_neDD (hu : X.A.units + 64 < cLine) : OpR X (compareOp .NotEq) (liftR2 X.kw (rdC .NotEq)) := by
  intro pins s σ H x y v u Q I rx ry ⟨d1, d2, h, Qd, r1, r2, rh, t, k⟩
  have hk : ∀ b, Qd (.bl b) h → Q (.bl b) H := fun b q => k _ _ _ _ q (.scal rh (.bl b))
  cases d1 with
  | int i =>
    cases d2 with
    | int j => cases r1; cases r2; exact op_ne pins s σ H _ _ v u Q I rx ry ⟨rfl, by rw [decV_int]; exact hk _ t⟩
    | str j => cases r1; cases r2; exact op_ne pins s σ H _ _ v u Q I rx ry ⟨rfl, by rw [decide_eq_false (by intro z; cases z)]; exact hk _ t⟩
    | _ => exact op_neGD (k := fun b => Qd (.bl b) h) hu I rx ry r1 r2 rh t hk
  | str i =>
    cases d2 with
    | str j => cases r1; cases r2; exact op_ne pins s σ H _ _ v u Q I rx ry ⟨rfl, by rw [decV_str]; exact hk _ t⟩
    | int j => cases r1; cases r2; exact op_ne pins s σ H _ _ v u Q I rx ry ⟨rfl, by rw [decide_eq_false (by intro z; cases z)]; exact hk _ t⟩
    | _ => exact op_neGD (k := fun b => Qd (.bl b) h) hu I rx ry r1 r2 rh t hk
  | bl i =>
    cases d2 with
    | bl j => cases r1; cases r2; exact op_ne pins s σ H _ _ v u Q I rx ry ⟨rfl, by rw [decV_bl]; exact hk _ t⟩
    | _ => exact op_neGD (k := fun b => Qd (.bl b) h) hu I rx ry r1 r2 rh t hk
  | ref p =>
    cases d2 with
    | ref q =>
      rcases eqR_el (show eqR p q h (fun b => Qd (.bl (!b)) h) from t) with t | t
      · exact op_neGD (k := fun b => Qd (.bl b) h) hu I rx ry r1 r2 rh t hk
      · obtain ⟨b, kb, f1, f2⟩ := dd_cmp (E := X.xe) hu I rh t
        cases r1; cases r2
        cases (show v = Value.ref p from rx)
        cases (show u = Value.ref q from ry)
        exact f2 ⟨.bl (!b), H, I, rfl, hk _ kb⟩
    | _ => exact op_neGD (k := fun b => Qd (.bl b) h) hu I rx ry r1 r2 rh t hk
  | _ => exact op_neGD (k := fun b => Qd (.bl b) h) hu I rx ry r1 r2 rh t hk
/-! ### order -/
theorem op_ordD {f : Value → Value → Sem Value} {fi : Int → Int → Bool} {fs : Str → Str → Bool} (hi : OpR X f (rI0 fun i j => .bl (fi i j))) (hs : OpR X f (fun x y H Q => ∃ i j, x = .str i ∧ y = .str j ∧ Q (.bl (fs i j)) H)) :
    OpR X f (liftR2 X.kw fun x y h Q => ordD fi fs x y fun k => Q (.bl k) h) := by
  intro pins s σ H x y v u Q I rx ry ⟨d1, d2, h, Qd, r1, r2, rh, t, k⟩
  cases d1 with
  | int i =>
    cases d2 with
    | int j => cases r1; cases r2; exact hi pins s σ H _ _ v u Q I rx ry ⟨i, j, rfl, rfl, k _ _ _ _ t (.scal rh (.bl _))⟩
    | _ => exact t.elim
  | str i =>
    cases d2 with
    | str j => cases r1; cases r2; exact hs pins s σ H _ _ v u Q I rx ry ⟨i, j, rfl, rfl, k _ _ _ _ t (.scal rh (.bl _))⟩
    | _ => exact t.elim
  | _ => exact t.elim
/-! ### in -/
theorem RDs.flat {H : Hp} : ∀ {ds : List D} {vs : List V}, RDs K H ds vs → ds.all flatD = true → vs.all flatV = true
  | _, _, .nil, _ => rfl
  | d :: ds, _, .cons r rs, f => by
    rw [List.all_cons, Bool.and_eq_true] at f
    rw [List.all_cons, RDs.flat rs f.2]
    cases r <;> first | rfl | (exact absurd f.1 Bool.false_ne_true)
theorem eqF_V {H : Hp} {d e : D} {v w : V} (r : RD K H d v) (q : RD K H e w) (f : flatD d = true) (g : flatD e = true) : eqV v w = eqF d e := by
  cases r <;> first | (exact absurd f Bool.false_ne_true) | skip
  all_goals (cases q <;> first | rfl | (exact absurd g Bool.false_ne_true))
theorem any_F {H : Hp} {d : D} {v : V} (r : RD K H d v) (f : flatD d = true) : ∀ {es : List D} {ws : List V}, RDs K H es ws → es.all flatD = true → (ws.any fun y => eqV y v) = es.any fun y => eqF y d
  | _, _, .nil, _ => rfl
  | e :: es, _, .cons q qs, g => by
    rw [List.all_cons, Bool.and_eq_true] at g
    rw [List.any_cons, List.any_cons, any_F r f qs g.2, eqF_V q r g.1 f]
theorem RD.flat1 {H : Hp} {d : D} {v : V} (r : RD K H d v) (f : flatD d = true) : flatV v = true := by
  cases r <;> first | rfl | (exact absurd f Bool.false_ne_true)
theorem inF_ok {neg : Bool} {op : CmpOp} (ho : OpR X (compareOp op) (rIn X.kw neg)) {pins : List (Addr × Obj)} {s : Shared} {σ : L2.St} {H : Hp} {x : V} {p : Addr} {v u : Value} {Q : VK} {d1 : D} {ds : List D} {vs : List V} {k : Bool → Prop}
    (I : Inv X pins σ H s) (rx : RelV x v) (ry : RelV (.ref p) u) (r1 : RD X.kw H d1 x) (hs : SqL X.kw H p vs ∨ SqT X.kw H p vs) (r2 : RDs X.kw H ds vs) (t : inF d1 ds k) (hk : ∀ b, k b → Q (.bl (if neg then !b else b)) H) :
    wpAny (model X.prog X.w) X.A (compareOp op v u) (EP X pins σ Q) X.xe s := by
  obtain ⟨f1, f2, q⟩ := t
  refine ho pins s σ H x (.ref p) v u Q I rx ry ⟨p, vs, rfl, hs, r1.flat1 f1, r2.flat f2, ?_⟩
  have e : inV x vs = ds.any fun y => eqF y d1 := any_F r1 f1 r2 f2
  rw [e]
  exact hk _ q
theorem in_el {x : D} {p : Addr} {h : DH} {k : Bool → Prop} (t : inR x p h k) : (∃ ys, LR h p ys ∧ (inF x ys k ∨ ∃ a as, PD h x a ∧ PDs h ys as ∧ SeqAt.shaped a = true ∧ SeqAt.shaped (.list as) = true ∧ k (as.any fun z => PyData.eqv z a))) ∨ dinD (.ref p) x h k := by
  unfold inR at t; exact t
theorem sub_el {p : Addr} {i : D} {h : DH} {Q : DK} (t : subR p i h Q) : (∃ xs k v, LR h p xs ∧ i = .int k ∧ atI xs k = some v ∧ Q v h) ∨ dsubD (.ref p) i h Q := by
  unfold subR at t; exact t
theorem set_el {p : Addr} {i v : D} {h : DH} {Q : DH → Prop} (t : setR p i v h Q) : (∃ xs k j, h p = some (.lst xs) ∧ i = .int k ∧ ixN xs.length k = some j ∧ Q (updD h p (.lst (xs.set j v)))) ∨ dputD (.ref p) i v h Q := by
  unfold setR at t; exact t
theorem len_el {p : Addr} {h : DH} {Q : DK} (t : lenR p h Q) : (∃ xs, LR h p xs ∧ Q (.int xs.length) h) ∨ dlenD (.ref p) h Q := by
  unfold lenR at t; exact t
theorem op_inDD (hu : X.A.units + 65 < cLine) : OpR X (compareOp .In) (liftR2 X.kw (rdC .In)) := by
  intro pins s σ H x y v u Q I rx ry ⟨d1, d2, h, Qd, r1, r2, rh, t, k⟩
  have hk : ∀ b, Qd (.bl b) h → Q (.bl b) H := fun b q => k _ _ _ _ q (.scal rh (.bl b))
  cases d2 with
  | str z =>
    obtain ⟨c, rfl, q⟩ := t
    cases r1; cases r2
    exact op_in_sign pins s σ H _ _ v u Q I rx ry ⟨c, z, rfl, rfl, hk _ q⟩
  | rl ys =>
    cases r2 with | rl s2 q2 =>
    exact inF_ok (neg := false) op_in_seq (k := fun b => Qd (.bl b) h) I rx ry r1 (.inl s2.sq) q2 t hk
  | tup ys =>
    cases r2 with | tup s2 q2 =>
    exact inF_ok (neg := false) op_in_seq (k := fun b => Qd (.bl b) h) I rx ry r1 (.inr s2) q2 t hk
  | ref p =>
    rcases in_el t with ⟨ys, l, t⟩ | ⟨b, kvs, ⟨p', o, e', e⟩, hk', q⟩
    rotate_left
    · cases e'
      cases r2
      cases (show u = Value.ref p from ry)
      exact dd_in (by omega) I rh e hk' r1 rx fun s' I' => ⟨.bl _, H, I', rfl, hk _ q⟩
    cases r2
    obtain ⟨vs, s2, q2⟩ := rh.sq l
    rcases t with t | ⟨a, as, p1, p2, s1, s2', q⟩
    · exact inF_ok (neg := false) op_in_seq (k := fun b => Qd (.bl b) h) I rx ry r1 (.inl s2) q2 t hk
    · exact op_inD hu pins s σ H _ _ v u Q I rx ry ⟨a, as, p1.dp rh r1, .lst s2 (p2.dp rh q2), s1, s2', hk _ q⟩
  | _ => exact t.elim
theorem op_notInDD (hu : X.A.units + 65 < cLine) : OpR X (compareOp .NotIn) (liftR2 X.kw (rdC .NotIn)) := by
  intro pins s σ H x y v u Q I rx ry ⟨d1, d2, h, Qd, r1, r2, rh, t, k⟩
  have hk : ∀ b, Qd (.bl b) h → Q (.bl b) H := fun b q => k _ _ _ _ q (.scal rh (.bl b))
  cases d2 with
  | str z =>
    obtain ⟨c, rfl, q⟩ := t
    cases r1; cases r2
    exact op_notIn_sign pins s σ H _ _ v u Q I rx ry ⟨c, z, rfl, rfl, hk _ q⟩
  | rl ys =>
    cases r2 with | rl s2 q2 =>
    exact inF_ok (neg := true) op_notIn_seq (k := fun b => Qd (.bl (!b)) h) I rx ry r1 (.inl s2.sq) q2 t (fun b q => hk _ q)
  | tup ys =>
    cases r2 with | tup s2 q2 =>
    exact inF_ok (neg := true) op_notIn_seq (k := fun b => Qd (.bl (!b)) h) I rx ry r1 (.inr s2) q2 t (fun b q => hk _ q)
  | ref p =>
    rcases in_el t with ⟨ys, l, t⟩ | ⟨b, kvs, ⟨p', o, e', e⟩, hk', q⟩
    rotate_left
    · cases e'
      cases r2
      cases (show u = Value.ref p from ry)
      exact dd_notIn (by omega) I rh e hk' r1 rx fun s' I' => ⟨.bl _, H, I', rfl, hk _ q⟩
    cases r2
    obtain ⟨vs, s2, q2⟩ := rh.sq l
    rcases t with t | ⟨a, as, p1, p2, s1, s2', q⟩
    · exact inF_ok (neg := true) op_notIn_seq (k := fun b => Qd (.bl (!b)) h) I rx ry r1 (.inl s2) q2 t (fun b q => hk _ q)
    · exact op_notInD hu pins s σ H _ _ v u Q I rx ry ⟨a, as, p1.dp rh r1, .lst s2 (p2.dp rh q2), s1, s2', hk _ q⟩
  | _ => exact t.elim
theorem isNon_V {H : Hp} {d : D} {v : V} (r : RD K H d v) : decide (v = V.non) = isNon d := by
  cases r <;> first | rfl | (exact decide_eq_false (by intro z; cases z))
theorem isNon_eq {H : Hp} {d : D} {v : V} (r : RD K H d v) (e : isNon d = true) : v = .non := by
  cases r <;> first | rfl | (exact absurd e Bool.false_ne_true)
theorem op_cmpD {k : Nat} (hr : Room k X.A) (op : CmpOp) : OpR X (compareOp op) (liftR2 X.kw (rdC op)) := by
  have hu := hr.units
  have hu2 : X.A.units + 65 < cLine := by have := hr.un; omega
  cases op with
  | Eq => exact op_eqDD hu
  | NotEq => exact op_neDD hu
  | Lt => exact op_ordD op_lt op_lt_str
  | LtE => exact op_ordD op_le op_le_str
  | Gt => exact op_ordD op_gt op_gt_str
  | GtE => exact op_ordD op_ge op_ge_str
  | In => exact op_inDD hu2
  | NotIn => exact op_notInDD hu2
  | Is =>
    intro pins s σ H x y v u Q I rx ry ⟨d1, d2, h, Qd, r1, r2, rh, t, k⟩
    cases d2 with
    | non =>
      cases r2
      exact op_isN pins s σ H _ _ v u Q I rx ry ⟨rfl, by rw [isNon_V r1]; exact k _ _ _ _ t (.scal rh (.bl _))⟩
    | bl b =>
      cases d1 with
      | bl a => cases r1; cases r2; exact op_is_bl pins s σ H _ _ v u Q I rx ry ⟨a, b, rfl, rfl, k _ _ _ _ t (.scal rh (.bl _))⟩
      | _ => exact t.elim
    | _ => exact t.elim
  | IsNot =>
    intro pins s σ H x y v u Q I rx ry ⟨d1, d2, h, Qd, r1, r2, rh, t, k⟩
    cases d2 with
    | non =>
      cases r2
      exact op_notN pins s σ H _ _ v u Q I rx ry ⟨rfl, by rw [isNon_V r1]; exact k _ _ _ _ t (.scal rh (.bl _))⟩
    | bl b =>
      cases d1 with
      | bl a => cases r1; cases r2; exact op_isnot_bl pins s σ H _ _ v u Q I rx ry ⟨a, b, rfl, rfl, k _ _ _ _ t (.scal rh (.bl _))⟩
      | _ => exact t.elim
    | _ => exact t.elim

/-! ### truth -/
theorem RDs.emp {H : Hp} {ds : List D} {vs : List V} (r : RDs K H ds vs) : vs.isEmpty = ds.isEmpty := by cases r <;> rfl
theorem tru_of {H : Hp} {h : DH} {d : D} {v : V} {k : Bool → Prop} (rh : RH K H h) (r : RD K H d v) (t : truD d h k) : ∃ b, TruV K v H b ∧ k b := by
  cases r with
  | non => exact ⟨false, rfl, t⟩
  | bl b => exact ⟨b, rfl, t⟩
  | int i => exact ⟨_, rfl, t⟩
  | str z =>
    refine ⟨_, ⟨t.1, rfl⟩, ?_⟩
    have e : ((z.length : Int) != 0) = (z.length != 0) := by
      by_cases h0 : z.length = 0
      · rw [h0]; rfl
      · have h1 : ((z.length : Int) != 0) = true := bne_iff_ne.mpr (by omega)
        have h2 : (z.length != 0) = true := bne_iff_ne.mpr h0
        rw [h1, h2]
    rw [e]
    exact t.2
  | tup s q => exact ⟨_, .inr (.inl ⟨_, s, rfl⟩), by rw [q.emp]; exact t⟩
  | rl s q => exact ⟨_, .inl ⟨_, s.sq, rfl⟩, by rw [q.emp]; exact t⟩
  | ref a =>
    obtain ⟨xs, l, q⟩ := t
    obtain ⟨vs, s, r⟩ := rh.sq l
    exact ⟨_, .inl ⟨_, s, rfl⟩, by rw [r.emp]; exact q⟩
  | ty n => exact t.elim

/-! ### subscripts, stores, slices -/
theorem atI_RD {H : Hp} {ds : List D} {vs : List V} {i : Int} {d : D} (r : RDs K H ds vs) (e : atI ds i = some d) : ∃ v, atI vs i = some v ∧ RD K H d v := by
  unfold atI at e ⊢
  rw [r.length] at e
  cases q : ixN vs.length i with
  | none => rw [q] at e; cases e
  | some j =>
    rw [q] at e
    exact r.get (show ds[j]? = some d from e)
/-- d[k] behind its parts -/
theorem tail_dict {prog : Program} {w : World} {A : Around} {E : Value → Shared → Prop} {s : Shared} {value slice : Expr} {v u : Value} {Q : Value → Shared → Prop} (ty : s.TypeIs v "dict") (hs : subscripted slice false v u = operate [v, u] (getItem v u))
    (g : wpAny (model prog w) A (getItem v u) Q E s) : wpAny (model prog w) A (PyProof.Rows.subscriptTail value slice v u) Q E s := by
  have fin : wpAny (model prog w) A (subscripted slice false v u) (fun r s3 => wpAny (model prog w) A (letTemporaryGo value v r >>= fun _ => pure r) Q E s3) E s := by
    rw [hs]
    exact wpAny_operating (wpAny_mono g (fun r s3 h3 => wpAny_bind (wpAny_letTemporaryGo (wpAny_pure h3))) fun _ _ x => x)
  unfold PyProof.Rows.subscriptTail
  refine wpAny_bind ?_
  rw [getitemInPython_of_ne ty.not_modules]
  refine wpAny_bind (wpAny_specialOf ty PySem.F.slot_dict_getitem.lookup ?_)
  first
    | exact wpAny_pure (wpAny_bind fin)
    | exact wpAny_bind (wpAny_pure (wpAny_bind fin))
    | exact wpAny_bind fin
theorem dct_ty {pins : List (Addr × Obj)} {σ : L2.St} {H : Hp} {s : Shared} {h : DH} {p : Addr} {b : Bool} {kvs : List (D × D)} {o : Obj} (I : Inv X pins σ H s) (rh : RH X.kw H h) (e : h p = some (.dct b kvs o)) : s.TypeIs (.ref p) "dict" :=
  ⟨o, dct_obj I (rh _ _ e).1, (rh _ _ e).2.exact_.1⟩
theorem ix_D (hu : X.A.units + 64 < cLine) : IxR X (liftR2 X.kw subD) := by
  intro value slice pins s σ H x y v u Q I rx ry ⟨d1, d2, h, Qd, r1, r2, rh, t, k⟩ hs
  unfold subD at t
  cases d1 with
  | tup xs =>
    obtain ⟨i, d, rfl, e, q⟩ := t
    cases r2
    cases r1 with | tup s1 q1 =>
    obtain ⟨w, e1, rw⟩ := atI_RD q1 e
    exact ix_tup value slice pins s σ H _ _ v u Q I rx ry ⟨_, _, i, w, rfl, rfl, s1, e1, k _ _ _ _ q (.scal rh rw)⟩ hs
  | rl xs =>
    obtain ⟨i, d, rfl, e, q⟩ := t
    cases r2
    cases r1 with | rl s1 q1 =>
    obtain ⟨w, e1, rw⟩ := atI_RD q1 e
    exact ix_list value slice pins s σ H _ _ v u Q I rx ry ⟨_, _, i, w, rfl, rfl, s1.sq, e1, k _ _ _ _ q (.scal rh rw)⟩ hs
  | str z =>
    obtain ⟨i, c, rfl, hz, e, q⟩ := t
    cases r1; cases r2
    exact ix_str value slice pins s σ H _ _ v u Q I rx ry ⟨z, i, c, rfl, rfl, hz, e, k _ _ _ _ q (.scal rh (.str _))⟩ hs
  | ref p =>
    rcases sub_el t with ⟨xs, i, d, l, rfl, e, q⟩ | ⟨b, kvs, d, ⟨p', o, e', e⟩, hk', hv, q⟩
    rotate_left
    · cases e'
      cases r1
      cases (show v = Value.ref p from rx)
      exact tail_dict (dct_ty I rh e) hs (dd_get hu I rh e hk' hv r2 ry fun w' s' z I' rz rw' => ⟨z, H, I', rw', k _ _ _ _ q (.scal rh rz)⟩)
    cases r1; cases r2
    obtain ⟨vs, s1, q1⟩ := rh.sq l
    obtain ⟨w, e1, rw⟩ := atI_RD q1 e
    exact ix_list value slice pins s σ H _ _ v u Q I rx ry ⟨_, _, i, w, rfl, rfl, s1, e1, k _ _ _ _ q (.scal rh rw)⟩ hs
  | _ => exact t.elim
def liftSet (K : KW) : TSet := fun o i v H Q => ∃ d1 d2 d3 h Qd, RD K H d1 o ∧ RD K H d2 i ∧ RD K H d3 v ∧ RH K H h ∧ setD d1 d2 d3 h Qd ∧ ∀ h' H', Qd h' → RH K H' h' → Frm h H h' H' → Q H'
theorem set_D (hu : X.A.units + 64 < cLine) : PSet X (liftSet X.kw) := by
  intro pins s σ H o i v ov iv u Q I ro ri rv ⟨d1, d2, d3, h, Qd, r1, r2, r3, rh, t, k⟩
  cases d1 with
  | ref p =>
    rcases set_el t with ⟨xs, n, j, e, rfl, ej, q⟩ | ⟨p', b, kvs, o, e', e, hk', hl, q⟩
    rotate_left
    · cases e'
      cases r1
      cases (show ov = Value.ref p from ro)
      exact dd_set hu I rh e hk' hl r2 ri r3 rv fun s' o' I' new => ⟨_, I', k _ _ (q o') (rh.writeO e new) (.write e)⟩
    cases r1; cases r2
    obtain ⟨vs, f1, q1⟩ := rh.lst e
    exact set_list pins s σ H _ _ v ov iv u Q I ro ri rv ⟨p, vs, n, j, rfl, rfl, f1, by rw [← q1.length]; exact ej, k _ _ q (rh.lstSet e (q1.set j r3)) (.write e)⟩
  | _ => exact t.elim
theorem RDs.cut {H : Hp} {ds : List D} {vs : List V} (r : RDs K H ds vs) (lo hi : Option Int) : RDs K H (cutL ds lo hi) (cutV vs lo hi) := by
  unfold cutL cutV
  rw [r.length]
  exact (r.drop _).take _
theorem cutL_whole {ds : List D} {lo hi : Option Int} (e : HT.sIx ds.length 0 lo = 0 ∧ HT.sIx ds.length ds.length hi = ds.length) : cutL ds lo hi = ds := by
  unfold cutL
  rw [e.1, e.2]
  simp
theorem sl_D : SlR X (fun x lo hi H Q => liftR1 X.kw (fun d h Q => sliceD d lo hi h Q) x H Q) := by
  intro pins s σ H x v vl vu lo hi sl Q I rx hs pl pu ⟨d1, h, Qd, r1, rh, t, k⟩
  cases d1 with
  | tup xs =>
    cases r1 with | tup s1 q1 =>
    refine sl_tupA pins s σ H _ v vl vu lo hi sl Q I rx hs pl pu ⟨_, _, rfl, s1, fun e => ?_, fun _ p np => ?_⟩
    · rw [← q1.length] at e
      have t' : Qd (.tup (cutL xs lo hi)) h := t
      rw [cutL_whole e] at t'
      exact k _ _ _ _ t' (.scal rh (.tup s1 q1))
    · exact k _ _ _ _ t (.tup rh np (q1.cut lo hi))
  | str z =>
    cases r1
    exact sl_str pins s σ H _ v vl vu lo hi sl Q I rx hs pl pu ⟨z, rfl, t.1, k _ _ _ _ t.2 (.scal rh (.str _))⟩
  | ref p =>
    cases r1
    obtain ⟨xs, l, q⟩ := t
    obtain ⟨vs, s1, q1⟩ := rh.sq l
    exact sl_list pins s σ H _ v vl vu lo hi sl Q I rx hs pl pu ⟨p, vs, rfl, s1, fun a na => k _ _ _ _ (q a (rh.free na)) (.lst rh na (q1.cut lo hi))⟩
  | _ => exact t.elim
end DL
namespace DL
open PySem PySem.Spec L2 PySem.W PyProof.Rows

/-! ## sorted: lists, dicts of data of any kind -/
mutual
theorem reads_in {h : Heap} : ∀ {v : Value} {d : PyData} {as : List Addr}, Reads h v d as → ∀ a ∈ as, ∃ o, h.get? a = some o
  | _, _, _, .none, _, hm => nomatch hm
  | _, _, _, .bool _, _, hm => nomatch hm
  | _, _, _, .int _ _, _, hm => nomatch hm
  | _, _, _, .str _ _, _, hm => nomatch hm
  | _, _, _, .list e _ _ r, a, hm => by
    rcases List.mem_cons.mp hm with rfl | hm
    · exact ⟨_, e⟩
    · exact readsAll_in r a hm
  | _, _, _, .tuple e _ _ r, a, hm => readsAll_in r a hm
  | _, _, _, .dict e _ _ r1 r2, a, hm => by
    rcases List.mem_append.mp hm with hm | hm
    · rcases List.mem_cons.mp hm with rfl | hm
      · exact ⟨_, e⟩
      · exact readsAll_in r1 a hm
    · exact readsAll_in r2 a hm
theorem readsAll_in {h : Heap} : ∀ {vs : List Value} {ds : List PyData} {as : List Addr}, ReadsAll h vs ds as → ∀ a ∈ as, ∃ o, h.get? a = some o
  | _, _, _, .nil, _, hm => nomatch hm
  | _, _, _, .cons r rs, a, hm => by
    rcases List.mem_append.mp hm with hm | hm
    · exact reads_in r a hm
    · exact readsAll_in rs a hm
end
/-- what is sorted: the value told, its value, its data -/
abbrev Bz := D × V × PyData
structure BzOk (K : KW) (H : Hp) (bs : List Bz) : Prop where
  rd : ∀ b ∈ bs, RD K H b.1 b.2.1
  dp : ∀ b ∈ bs, Dp K.K H b.2.1 b.2.2
  alike : AllAlike (bs.map (·.2.2))
  sortable : Sortable (bs.map (·.2.2))
  depth : ∀ b ∈ bs, b.2.2.depth ≤ 50
variable {X : Cx} {pins : List (Addr × Obj)} {σ : L2.St} {H : Hp} {s : Shared}
theorem each_rel : ∀ {bs : List Bz} {us : List Value}, Vals (bs.map (·.2.1)) us → EachIs (fun u (b : Bz) => RelV b.2.1 u) us bs
  | [], _, .nil => .nil
  | _ :: _, _, .cons r rs => .cons r (each_rel rs)
theorem each_vals : ∀ {bs : List Bz} {us : List Value}, EachIs (fun u (b : Bz) => RelV b.2.1 u) us bs → Vals (bs.map (·.2.1)) us
  | _, _, .nil => .nil
  | _, _, .cons r rs => .cons r (each_vals rs)
theorem each_reads (I : Inv X pins σ H s) : ∀ {bs : List Bz} {us : List Value}, (∀ b ∈ bs, Dp X.K H b.2.1 b.2.2) → EachIs (fun u (b : Bz) => RelV b.2.1 u) us bs → EachIs (fun u (b : Bz) => ∃ as, Reads s.heap u b.2.2 as) us bs
  | _, _, _, .nil => .nil
  | _, _, hd, .cons r rs => .cons (Dp.reads I _ _ _ (hd _ List.mem_cons_self) r) (each_reads I (fun b hb => hd b (List.mem_cons_of_mem _ hb)) rs)
theorem bz_rds {K : KW} : ∀ {bs : List Bz}, (∀ b ∈ bs, RD K H b.1 b.2.1) → RDs K H (bs.map (·.1)) (bs.map (·.2.1))
  | [], _ => .nil
  | b :: bs, h => .cons (h b List.mem_cons_self) (bz_rds fun c hc => h c (List.mem_cons_of_mem _ hc))
/-- the list that comes -/
abbrev srtB (bs : List Bz) : List Bz := bs.mergeSort (dataLe false fun b : Bz => b.2.2)
theorem srtB_mem {bs : List Bz} {b : Bz} : b ∈ srtB bs ↔ b ∈ bs := (List.mergeSort_perm bs _).mem_iff
def rSrt (K : KW) (bs : List Bz) (H : Hp) (Q : VK) : Prop := ∀ p, H p = none → Q (.ref p) (upd H p (.lst ((srtB bs).map (·.2.1))))
/-- a list -/
theorem srt_list {Q : VK} {p : Addr} {bs : List Bz} (hu : X.A.units + 64 < cLine) (I : Inv X pins σ H s) (hl : SqL X.K H p (bs.map (·.2.1))) (ok : BzOk X.kw H bs) (q : rSrt X.kw bs H Q) :
    wpAny (model X.prog X.w) X.A (call (.builtin "sorted") [.ref p]) (fun u s' => ∃ v H', Inv X pins σ H' s' ∧ RelV v u ∧ Q v H') X.xe s := by
  obtain ⟨its, rv, pl, hz⟩ := I.list hl
  have e := each_rel rv
  have hlen : bs.length ≤ sizeLine := by have := hz; simpa using this
  refine sorted_data pl.isList e (each_reads I ok.dp e) ok.alike ok.sortable hlen (fun b hb => ?_) fun out hlo eo => ?_
  · have := ok.depth b hb
    omega
  · obtain ⟨c, hc⟩ := sortedAll_at s.heap its out.toArray
    have hn : H (s.heap.objs.size + 1) = none := I.hok.fresh (Nat.le_succ _)
    refine ⟨.ref (s.heap.objs.size + 1), _, I.laid (t' := s.toks) (o := .lst ((srtB bs).map (·.2.1))) (fun b ob q => sortedAll_old q) (Nat.le_succ _) ⟨?_, out, c, each_vals eo, hc⟩, rfl, q _ hn⟩
    rw [List.length_map, List.length_mergeSort]; exact hlen
theorem bz_mk {K : KW} : ∀ {bs : List (D × PyData)} {ws : List V}, RDs K H (bs.map (·.1)) ws → ∃ zs : List Bz, zs.map (·.2.1) = ws ∧ zs.map (fun z => (z.1, z.2.2)) = bs ∧ ∀ z ∈ zs, RD K H z.1 z.2.1
  | [], _, r => by cases r; exact ⟨[], rfl, rfl, fun _ h => nomatch h⟩
  | b :: bs, _, r => by
    rw [List.map_cons] at r
    cases r with | @cons _ _ w ws r rs =>
    obtain ⟨zs, h1, h2, h3⟩ := bz_mk rs
    refine ⟨(b.1, w, b.2) :: zs, by rw [List.map_cons, h1], by rw [List.map_cons, h2], fun z hz => ?_⟩
    rcases List.mem_cons.mp hz with rfl | hz
    · exact r
    · exact h3 z hz
theorem srt_D {Q : VK} {p : Addr} {bs : List (D × PyData)} {h : DH} (hu : X.A.units + 64 < cLine) (I : Inv X pins σ H s) (rh : RH X.kw H h) (l : LR h p (bs.map (·.1))) (ok : SrtOk h bs)
    (q : ∀ a vs, H a = none → RDs X.kw H ((srtD bs).map (·.1)) vs → Q (.ref a) (upd H a (.lst vs))) :
    wpAny (model X.prog X.w) X.A (call (.builtin "sorted") [.ref p]) (fun u s' => ∃ v H', Inv X pins σ H' s' ∧ RelV v u ∧ Q v H') X.xe s := by
  obtain ⟨ws, sq, rr⟩ := rh.sq l
  obtain ⟨zs, h1, h2, h3⟩ := bz_mk rr
  have hb : ∀ z ∈ zs, (z.1, z.2.2) ∈ bs := fun z hz => by rw [← h2]; exact List.mem_map.mpr ⟨z, hz, rfl⟩
  have hd : zs.map (·.2.2) = bs.map (·.2) := by rw [← h2, List.map_map]; rfl
  have hm : (srtB zs).map (fun z => (z.1, z.2.2)) = srtD bs := by
    rw [← h2]
    exact List.map_mergeSort fun a _ b _ => rfl
  have hm1 : (srtB zs).map (·.1) = (srtD bs).map (·.1) := by rw [← hm, List.map_map]; rfl
  refine srt_list (bs := zs) hu I (by rw [h1]; exact sq) ⟨h3, fun z hz => (ok.pd _ (hb z hz)).dp rh (h3 z hz), by rw [hd]; exact ok.alike, by rw [hd]; exact ok.sortable, fun z hz => ok.depth _ (hb z hz)⟩ fun a np => ?_
  exact q a _ np (by rw [← hm1]; exact bz_rds fun z hz => h3 z (srtB_mem.mp hz))
end DL
namespace DL
open PySem PySem.Spec L2 PySem.W PyProof.Rows

/-! ## sorted(set(xs)), xs tuples of texts, numbers, tuples -/
theorem nodup_len_le {α : Type} : ∀ {l ks : List α}, l.Nodup → (∀ k ∈ l, k ∈ ks) → l.length ≤ ks.length
  | [], _, _, _ => Nat.zero_le _
  | x :: l, ks, hn, hs => by
    obtain ⟨h1, h2⟩ := List.nodup_cons.mp hn
    obtain ⟨a, b, rfl⟩ := List.append_of_mem (hs x List.mem_cons_self)
    have := nodup_len_le (l := l) (ks := a ++ b) h2 fun k hk => by
      have := hs k (List.mem_cons_of_mem _ hk)
      rw [List.mem_append, List.mem_cons] at this
      rcases this with z | z | z
      · exact List.mem_append_left _ z
      · exact absurd (z ▸ hk) h1
      · exact List.mem_append_right _ z
    rw [List.length_append] at this
    rw [List.length_cons, List.length_append, List.length_cons]; omega
theorem perm_lift {α β : Type} {f : α → β} : ∀ {vs : List β} {xs : List α}, vs.Perm (xs.map f) → ∃ ys : List α, ys.Perm xs ∧ ys.map f = vs
  | [], xs, p => by
    have : xs = [] := by simpa using p.symm.eq_nil
    subst this; exact ⟨[], .refl _, rfl⟩
  | v :: vs, xs, p => by
    obtain ⟨x, hx, rfl⟩ := List.mem_map.mp (p.mem_iff.mp List.mem_cons_self)
    obtain ⟨l, r, rfl⟩ := List.append_of_mem hx
    have p2 : vs.Perm ((l ++ r).map f) := by
      have q : (f x :: vs).Perm (f x :: (l ++ r).map f) := p.trans (((List.perm_middle (l₁ := l) (l₂ := r) (a := x)).map f).trans (by rw [List.map_cons]))
      exact q.cons_inv
    obtain ⟨ys, y1, y2⟩ := perm_lift p2
    exact ⟨x :: ys, (y1.cons x).trans List.perm_middle.symm, by rw [List.map_cons, y2]⟩
/-- an item: its value told, its place, its key, its data -/
abbrev Nz := D × Addr × NestedKey × PyData
abbrev Nz.p (z : Nz) : Addr × NestedKey := (z.2.1, z.2.2.1)
structure NzOk (K : KW) (H : Hp) (zs : List Nz) : Prop where
  rd : ∀ z ∈ zs, RD K H z.1 (.ref z.2.1)
  nk : ∀ z ∈ zs, nkey z.1 = some z.2.2.1 ∧ z.2.2.1.depth ≤ 8
  dp : ∀ z ∈ zs, Dp K.K H (.ref z.2.1) z.2.2.2
  alike : AllAlike (zs.map (·.2.2.2))
  sortable : Sortable (zs.map (·.2.2.2))
  depth : ∀ z ∈ zs, z.2.2.2.depth ≤ 50
abbrev srtN (zs : List Nz) : List Nz := zs.mergeSort (dataLe false fun z : Nz => z.2.2.2)
/-- the reading -/
def tSset (K : KW) (te : TE) : TE := fun σ H Q => te σ H fun x H1 => ∃ (a : Addr) (zs : List Nz), x = .ref a ∧ (SqL K.K H1 a (zs.map fun z => V.ref z.2.1) ∨ SqT K.K H1 a (zs.map fun z => V.ref z.2.1)) ∧ NzOk K H1 zs ∧ zs.length < 64 ∧
  ∀ cs : List Nz, (∀ c ∈ cs, c ∈ zs) → (∀ z ∈ zs, ∃ c ∈ cs, c.2.2.1 = z.2.2.1) → (cs.map fun c => c.2.2.1).Nodup → ∀ p, H1 p = none → Q (.ref p) (upd H1 p (.lst ((srtN cs).map fun z => V.ref z.2.1)))
theorem refs_nz : ∀ {zs : List Nz} {us : List Value}, Vals (zs.map fun z => V.ref z.2.1) us → us = zs.map fun z => Value.ref z.2.1
  | [], _, .nil => rfl
  | z :: zs, _, .cons r t => by cases r; rw [refs_nz t]; rfl
theorem vals_nz : ∀ zs : List Nz, Vals (zs.map fun z => V.ref z.2.1) (zs.map fun z => Value.ref z.2.1)
  | [] => .nil
  | z :: zs => .cons rfl (vals_nz zs)
theorem each_refs : ∀ {zs : List Nz}, EachIs (fun u (z : Nz) => u = Value.ref z.2.1) (zs.map fun z => Value.ref z.2.1) zs
  | [] => .nil
  | z :: zs => .cons rfl each_refs
theorem refs_each : ∀ {zs : List Nz} {us : List Value}, EachIs (fun u (z : Nz) => u = Value.ref z.2.1) us zs → us = zs.map fun z => Value.ref z.2.1
  | [], _, .nil => rfl
  | z :: zs, _, .cons r t => by rw [refs_each t, r]; rfl
variable {X : Cx} {pins : List (Addr × Obj)} {σ : L2.St} {H : Hp} {s : Shared}
theorem nsorted {P : Program} {w : World} {A : Around} {E : Value → Shared → Prop} {a : Addr} {L : NL} {es : Array (Int × Value)} {ep : Nat} {t : SetTable} {Q : Value → Shared → Prop} (R : NSet w s.heap a L es ep t) (hh : A.handled = none) (hu : A.units + 60 < cLine) {zs : List Nz} (hz : zs.map Nz.p = L)
    (rd : ∀ z ∈ zs, ∃ as, Reads s.heap (.ref z.2.1) z.2.2.2 as) (al : AllAlike (zs.map (·.2.2.2))) (so : Sortable (zs.map (·.2.2.2))) (dp : ∀ z ∈ zs, z.2.2.2.depth ≤ 50)
    (k : ∀ s' p c (cs : List Nz), cs.Perm zs → (∀ b o, s.heap.get? b = some o → s'.heap.get? b = some o) → s'.gens = s.gens → s'.os = s.os → s.heap.objs.size ≤ p → s'.heap.get? p = some (seqObj "list" ((srtN cs).map fun z => Value.ref z.2.1).toArray c) → Q (.ref p) s') :
    wpAny (model P w) A (call (.builtin "sorted") [.ref a]) Q E s := by
  obtain ⟨o, ho, hex, hd⟩ := R.ob
  have sz := R.size
  have few := R.few
  refine Calls.call_function_entry kind_sorted plain_sorted entry_sorted (args_sorted1 _) ?_
  unfold Builtin.«sorted»
  refine wpAny_bind (m := checkCount "sorted" 1 1 _) (wpAny_pure (wpAny_bind (collect_set (A := A.in1) hh ⟨o, ho, hex.1, hd⟩ R.fits (by unfold scanBound; omega) R.tab.ris R.led fun s1 vs k1 hz1 g1 o1 pm => ?_)))
  have e1 : es.toList.map (·.2) = zs.map fun z => Value.ref z.2.1 := by rw [R.rows, ← hz]; simp [nrow, Nz.p]
  rw [e1] at pm
  obtain ⟨cs, pc, ec⟩ := perm_lift pm
  have lc : cs.length < 256 := by rw [pc.length_eq, ← List.length_map (f := Nz.p), hz]; exact few
  have lv : vs.length < 256 := by rw [← ec, List.length_map]; exact lc
  refine wpAny_bind (wpAny_newList ?_ (by rw [sizeLine_eq]; omega))
  have hl : (s1.heap.push (seqObj "list" vs.toArray 0)).get? s1.heap.objs.size = some (seqObj "list" vs.toArray 0) := Heap.get?_push_size _ rfl
  have old : ∀ b u, s.heap.get? b = some u → (s1.heap.push (seqObj "list" vs.toArray 0)).get? b = some u := fun b u e => Heap.get?_push_of_some _ (k1 b u e)
  have mem : ∀ c ∈ cs, c ∈ zs := fun c hc => pc.mem_iff.mp hc
  have ev : EachIs (fun u (z : Nz) => u = Value.ref z.2.1) vs cs := by rw [← ec]; exact each_refs
  have er : ∀ {us : List Value} {ds : List Nz}, (∀ d ∈ ds, d ∈ zs) → EachIs (fun u (z : Nz) => u = Value.ref z.2.1) us ds → EachIs (fun u (z : Nz) => ∃ as, Reads (s1.heap.push (seqObj "list" vs.toArray 0)) u z.2.2.2 as ∧ s1.heap.objs.size ∉ as) us ds := by
    intro us ds hm e
    induction e with
    | nil => exact .nil
    | cons r _ ih =>
      refine .cons ?_ (ih fun d hd => hm d (List.mem_cons_of_mem _ hd))
      obtain ⟨as, q⟩ := rd _ (hm _ List.mem_cons_self)
      subst r
      refine ⟨as, PyProof.Rows.Reads.keeps old q, fun hin => ?_⟩
      obtain ⟨u, hu'⟩ := reads_in q _ hin
      exact absurd (Nat.lt_of_lt_of_le (Heap.lt_size hu') hz1) (Nat.lt_irrefl _)
  have pd : (cs.map (·.2.2.2)).Perm (zs.map (·.2.2.2)) := pc.map _
  refine wpAny_bind (wpAny_holding (list_sort_data (s := { s1 with heap := s1.heap.push (seqObj "list" vs.toArray 0) }) (enc := fun z : Nz => z.2.2.2) hl ev (er mem ev) (fun x hx y hy => al x (pd.mem_iff.mp hx) y (pd.mem_iff.mp hy)) ?_ (by rw [sizeLine_eq]; omega) (fun c hc => by have := dp c (mem c hc); simp only [Around.in1_units] at *; omega) fun out _ eo => ?_))
  · exact so.imp (fun h x hx => h x (pd.mem_iff.mp hx)) fun h x hx => h x (pd.mem_iff.mp hx)
  · obtain ⟨c, hc⟩ := sortedHeap_at (vs := vs) (out := out.toArray) hl
    have eo2 := refs_each eo
    refine wpAny_pure ⟨_, rfl, k _ s1.heap.objs.size c cs pc (fun b u e => ?_) g1 o1 hz1 (by rw [← eo2]; exact hc)⟩
    have lt := Heap.lt_size (k1 b u e)
    show (sortedHeap (s1.heap.push (seqObj "list" vs.toArray 0)) s1.heap.objs.size vs out.toArray).get? b = some u
    rw [sortedHeap_old (Nat.ne_of_lt lt) (by rw [size_push']; exact Nat.lt_succ_of_lt lt)]
    exact old b u e
theorem pick_nz {zs : List Nz} : ∀ {L : NL}, (∀ p ∈ L, p ∈ zs.map Nz.p) → ∃ cs : List Nz, cs.map Nz.p = L ∧ ∀ c ∈ cs, c ∈ zs
  | [], _ => ⟨[], rfl, fun _ h => (by cases h)⟩
  | p :: L, h => by
    obtain ⟨z, hz, e⟩ := List.mem_map.mp (h p List.mem_cons_self)
    obtain ⟨cs, h1, h2⟩ := pick_nz (L := L) fun q hq => h q (List.mem_cons_of_mem _ hq)
    exact ⟨z :: cs, by rw [List.map_cons, h1, e], fun c hc => (List.mem_cons.mp hc).elim (fun e => e ▸ hz) (h2 c)⟩
theorem pe_sset {a : Expr} {ta : TE} {p p2 q pos : Pos} (hc : X.calm = true) (hu : X.A.units + 64 < cLine) (hg : Gl X "sorted") (hm : X.mg "sorted" = none) (hg2 : Gl X "set") (hm2 : X.mg "set" = none) (ha : PE X a ta)
    (na : starEach [a] X.env = (false, eval a X.env) :: starEach [] X.env := by rfl) : PE X (.Call (.Name "sorted" p) [.Call (.Name "set" p2) [a] [] q] [] pos) (tSset X.kw ta) := by
  refine ⟨fun pins s σ H Q I h => ?_⟩
  refine Call_ (ld_blt I hg hm PyProof.Rows.boot_sorted ?_)
  refine PyProof.Rows.callWith_builtin1 (PyProof.Rows.args_cons ?_ rfl) rfl rfl
  refine Call_ (ld_blt I hg2 hm2 PyProof.Rows.boot_set ?_)
  refine PyProof.Rows.callWith_type1 (PyProof.Rows.args_cons (thn (ha.run pins s σ H _ I h) fun v s1 ⟨x, H1, I1, r1, q1⟩ => PyProof.Rows.args_nil ?_) na) na rfl
  obtain ⟨l, zs, rfl, hl, ok, few, q1⟩ := q1
  cases r1
  -- the row at the machine
  have row : ∃ items : Array Value, Row s1.heap l items ∧ items.toList = zs.map fun z => Value.ref z.2.1 := by
    rcases hl with hl | hl
    · obtain ⟨its, r, pl, _⟩ := I1.list hl
      exact ⟨_, .inl pl.isList, by simpa using refs_nz r⟩
    · obtain ⟨its, r, ⟨o, ho, hc, n, hd⟩, _⟩ := I1.tuple hl
      exact ⟨its.toArray, .inr ⟨o, ho, hc, n, hd⟩, by simpa using refs_nz r⟩
  obtain ⟨items, hr, hit⟩ := row
  have key : ∀ z ∈ zs, KeyIn s1.heap z.p := fun z hz => ⟨nest_of I1 _ _ _ _ (ok.nk z hz).1 (ok.rd z hz) rfl, (ok.nk z hz).2⟩
  refine nset_of (zs.map Nz.p) (I1.ok.hd hc) hr (by rw [hit, List.map_map]; rfl) (fun p hp => by obtain ⟨z, hz, rfl⟩ := List.mem_map.mp hp; exact key z hz) (fun l hn hs => by have := nodup_len_le hn hs; rw [List.length_map, List.length_map] at this; omega) (by omega) fun h' tk L es ep t R g keep => ?_
  refine PyProof.Rows.args_nil ?_
  have I2 : Inv X pins σ H1 { s1 with heap := h', toks := tk } := I1.kept keep
  obtain ⟨cs, hcs, csz⟩ := pick_nz (zs := zs) fun p hp => List.mem_of_mem_take (g.sub p hp)
  have sub : ∀ {P : PyData → Prop}, (∀ d ∈ zs.map (·.2.2.2), P d) → ∀ d ∈ cs.map (·.2.2.2), P d := fun {P} h d hd => by
    obtain ⟨c, hc, rfl⟩ := List.mem_map.mp hd
    exact h _ (List.mem_map.mpr ⟨c, csz c hc, rfl⟩)
  refine nsorted (s := { s1 with heap := h', toks := tk }) R (I1.ok.hd hc) (by omega) hcs (fun c hc => Dp.reads I2 _ _ _ (ok.dp c (csz c hc)) rfl) (fun x hx y hy => sub (P := fun d => alike d y = true) (fun d hd => sub (P := fun e => alike d e = true) (fun e he => ok.alike d hd e he) y hy) x hx)
    (ok.sortable.imp (fun h => sub h) fun h => sub h) (fun c hc => ok.depth c (csz c hc)) fun s' p c ds pd keep2 eg eo hp hobj => ?_
  have np : H1 p = none := I2.hok.fresh hp
  have nd : (ds.map fun c => c.2.2.1).Nodup := by
    have n1 := R.nd
    rw [← hcs, List.map_map] at n1
    exact (pd.map fun c : Nz => c.2.2.1).nodup_iff.mpr n1
  have len : ((srtN ds).map fun z => V.ref z.2.1).length ≤ sizeLine := by
    have := R.few
    rw [List.length_map, List.length_mergeSort, pd.length_eq, ← List.length_map (f := Nz.p), hcs, sizeLine_eq]; omega
  have J : Inv X pins σ (upd H1 p (.lst ((srtN ds).map fun z => V.ref z.2.1))) { s1 with heap := s'.heap, gens := s'.gens, drawn := s'.drawn, toks := s'.toks } :=
    L2.Inv.call (s := { s1 with heap := h', toks := tk }) (ch := []) I2 (Un.laid keep2 hp np) (I2.hok.laid keep2 hp ⟨len, _, c, by simpa using vals_nz (srtN ds), hobj⟩) (by rw [eg]; exact I2.bare) (fun _ z => by cases z)
  have e : s' = { s1 with heap := s'.heap, gens := s'.gens, drawn := s'.drawn, toks := s'.toks } := by
    obtain ⟨a1, a2, a3, a4, a5⟩ := s'
    have : a5 = s1.os := eo
    subst this; rfl
  rw [e]
  refine ⟨.ref p, _, J, rfl, q1 ds (fun c hc => csz c (pd.mem_iff.mp hc)) (fun z hz => ?_) nd p np⟩
  have hm := g.all z.p (by rw [List.take_of_length_le (Nat.le_refl _)]; exact List.mem_map.mpr ⟨z, hz, rfl⟩)
  rw [← hcs, List.map_map] at hm
  obtain ⟨c, hc, ec⟩ := List.mem_map.mp hm
  exact ⟨c, pd.mem_iff.mpr hc, ec⟩
end DL
namespace DL
open PySem PySem.Spec L2 PySem.W PyProof.Rows

/-! ## len(set(xs)), xs tuples of texts, numbers, tuples -/
/-- an item: its value told, its place, its key -/
abbrev Lz := D × Addr × NestedKey
def tLset (K : KW) (te : TE) : TE := fun σ H Q => te σ H fun x H1 => ∃ (a : Addr) (zs : List Lz), x = .ref a ∧ (SqL K.K H1 a (zs.map fun z => V.ref z.2.1) ∨ SqT K.K H1 a (zs.map fun z => V.ref z.2.1)) ∧
  (∀ z ∈ zs, RD K H1 z.1 (.ref z.2.1)) ∧ (∀ z ∈ zs, nkey z.1 = some z.2.2 ∧ z.2.2.depth ≤ 8) ∧ (∀ l : List NestedKey, l.Nodup → (∀ k ∈ l, k ∈ zs.map (·.2.2)) → l.length < 256) ∧
  ∀ cs : List Lz, (∀ c ∈ cs, c ∈ zs) → (∀ z ∈ zs, ∃ c ∈ cs, c.2.2 = z.2.2) → (cs.map fun c => c.2.2).Nodup → Q (.int cs.length) H1
theorem refs_lz : ∀ {zs : List Lz} {us : List Value}, Vals (zs.map fun z => V.ref z.2.1) us → us = zs.map fun z => Value.ref z.2.1
  | [], _, .nil => rfl
  | z :: zs, _, .cons r t => by cases r; rw [refs_lz t]; rfl
theorem pick_lz {zs : List Lz} : ∀ {L : NL}, (∀ p ∈ L, p ∈ zs.map (·.2)) → ∃ cs : List Lz, cs.map (·.2) = L ∧ ∀ c ∈ cs, c ∈ zs
  | [], _ => ⟨[], rfl, fun _ h => (by cases h)⟩
  | p :: L, h => by
    obtain ⟨z, hz, e⟩ := List.mem_map.mp (h p List.mem_cons_self)
    obtain ⟨cs, h1, h2⟩ := pick_lz (L := L) fun q hq => h q (List.mem_cons_of_mem _ hq)
    exact ⟨z :: cs, by rw [List.map_cons, h1, e], fun c hc => (List.mem_cons.mp hc).elim (fun e => e ▸ hz) (h2 c)⟩
variable {X : Cx}
theorem pe_lset {a : Expr} {ta : TE} {p p2 q pos : Pos} (hc : X.calm = true) (hu : X.A.units + 64 < cLine) (hg : Gl X "len") (hm : X.mg "len" = none) (hg2 : Gl X "set") (hm2 : X.mg "set" = none) (ha : PE X a ta)
    (na : starEach [a] X.env = (false, eval a X.env) :: starEach [] X.env := by rfl) : PE X (.Call (.Name "len" p) [.Call (.Name "set" p2) [a] [] q] [] pos) (tLset X.kw ta) := by
  refine ⟨fun pins s σ H Q I h => ?_⟩
  refine Call_ (ld_blt I hg hm PySem.boot_len ?_)
  refine PyProof.Rows.callWith_builtin1 (PyProof.Rows.args_cons ?_ rfl) rfl rfl
  refine Call_ (ld_blt I hg2 hm2 PyProof.Rows.boot_set ?_)
  refine PyProof.Rows.callWith_type1 (PyProof.Rows.args_cons (thn (ha.run pins s σ H _ I h) fun v s1 ⟨x, H1, I1, r1, q1⟩ => PyProof.Rows.args_nil ?_) na) na rfl
  obtain ⟨l, zs, rfl, hl, rd, nk, few, q1⟩ := q1
  cases r1
  have row : ∃ items : Array Value, Row s1.heap l items ∧ items.toList = zs.map fun z => Value.ref z.2.1 := by
    rcases hl with hl | hl
    · obtain ⟨its, r, pl, _⟩ := I1.list hl
      exact ⟨_, .inl pl.isList, by simpa using refs_lz r⟩
    · obtain ⟨its, r, ⟨o, ho, hc, n, hd⟩, _⟩ := I1.tuple hl
      exact ⟨its.toArray, .inr ⟨o, ho, hc, n, hd⟩, by simpa using refs_lz r⟩
  obtain ⟨items, hr, hit⟩ := row
  have key : ∀ z ∈ zs, KeyIn s1.heap z.2 := fun z hz => ⟨nest_of I1 _ _ _ _ (nk z hz).1 (rd z hz) rfl, (nk z hz).2⟩
  refine nset_of (zs.map (·.2)) (I1.ok.hd hc) hr (by rw [hit, List.map_map]; rfl) (fun p hp => by obtain ⟨z, hz, rfl⟩ := List.mem_map.mp hp; exact key z hz) (fun l hn hs => few l hn fun k hk => by simpa [List.map_map] using hs k hk) (by omega) fun h' tk L es ep t R g keep => ?_
  refine PyProof.Rows.args_nil ?_
  have I2 : Inv X pins σ H1 { s1 with heap := h', toks := tk } := I1.kept keep
  obtain ⟨cs, hcs, csz⟩ := pick_lz (zs := zs) fun p hp => List.mem_of_mem_take (g.sub p hp)
  obtain ⟨o, ho, hex, hd⟩ := R.ob
  have sz := NSet.size (s := { s1 with heap := h' }) R
  have fit := NSet.fits (s := { s1 with heap := h' }) R
  have few2 := R.few
  have len : es.size = cs.length := by rw [sz, ← hcs, List.length_map]
  refine call_len_set (s := { s1 with heap := h', toks := tk }) ho hex hd fit (by omega) ?_
  refine ⟨.int cs.length, H1, I2.tok _, ⟨_, by rw [len]⟩, q1 cs csz (fun z hz => ?_) ?_⟩
  · have hm := g.all z.2 (by rw [List.take_of_length_le (Nat.le_refl _)]; exact List.mem_map.mpr ⟨z, hz, rfl⟩)
    rw [← hcs, List.map_map] at hm
    obtain ⟨c, hc, ec⟩ := List.mem_map.mp hm
    exact ⟨c, hc, ec⟩
  · have n1 := R.nd
    rw [← hcs, List.map_map] at n1
    exact n1
end DL
namespace DL
open PySem PySem.Spec PySem.AutoSeq1
set_option maxRecDepth 8000 in
theorem extend_tup (l : Addr) (items : Array Value) (n : Nat) (b : Addr) (items2 : Array Value) (n2 : Nat) (dd : Option Addr) (sl : Array (Option Value)) (hs0 : ¬(!items.isEmpty && Builtin.List.listTooLong (items.size + items2.size)) = true) (hs1 : items.size ≤ sizeLine) (hs2 : items.size + items2.size ≤ sizeLine + 1) :
    Meets (Builtin.«list.extend» ⟨[.ref l, .ref b], []⟩) (fun _ R s => s.heap.get? l = some { cls := .type "list", dict := none, data := .seq items n, slots := #[] } ∧ s.heap.get? b = some { cls := .type "tuple", dict := dd, data := .seq items2 n2, slots := sl } ∧ R (.ok (.ret Value.none)) { s with heap := s.heap.update l (Obj.mapSeq fun x => x ++ items2), toks := s.toks }) :=
  .of_wp fun prog w A R s h => by
    obtain ⟨hp, g, d, tk, os⟩ := s; obtain ⟨hl, hb, h⟩ := h
    have f1 := idx_int; have f2 := sub_tuple_tuple; have f3 := sub_list_list; have f4 := sub_tuple_list; have f5 := sub_list_tuple
    have hz' : (items ++ items2).size ≤ sizeLine + 1 := by rw [Array.size_append]; exact hs2
    wp_walk using (wpAny_updateSeq hl rfl (hz := hs1) (_hz' := hz')), wpAny_loadPart' hl, wpAny_loadPart' hb; exact ⟨_, rfl, h⟩
end DL
namespace DL
open PySem PySem.Spec L2
variable {K : KW} {X : Cx} {B : Bs}
abbrev RdC := List D → DH → DK → Prop
def liftC (K : KW) (rd : RdC) : List V → Hp → VK → Prop := fun vs H Q => ∃ ds h Qd, RDs K H ds vs ∧ RH K H h ∧ rd ds h Qd ∧ ∀ d h' v H', Qd d h' → Post K h H d h' v H' → Q v H'
theorem callImp {f : Value} {r r' : List V → Hp → VK → Prop} (h : CallR X f r) (k : ∀ xs H Q, r' xs H Q → r xs H Q) : CallR X f r' :=
  fun pins s σ H xs us Q I rv q => h pins s σ H xs us Q I rv (k xs H Q q)
theorem LR.ints {H : Hp} {h : DH} {p : Addr} {ns : List Int} (rh : RH K H h) (l : LR h p (ns.map D.int)) : SqL K H p (ns.map V.int) := by
  obtain ⟨vs, s, r⟩ := rh.sq l
  rw [r.ints] at s
  exact s
theorem LR.bls {H : Hp} {h : DH} {p : Addr} {ns : List Bool} (rh : RH K H h) (l : LR h p (ns.map D.bl)) : SqL K H p (ns.map V.bl) := by
  obtain ⟨vs, s, r⟩ := rh.sq l
  rw [r.bls] at s
  exact s
theorem b_len : CallR X (.builtin "len") (liftC X.kw (bltD .len)) := fun pins s σ H vs us Q I rv ⟨ds, h, Qd, r, rh, t, k⟩ => by
  unfold bltD lenD at t
  match ds, r, t with
  | [.str z], r, t => obtain ⟨v, rfl, r1⟩ := r.one; cases r1; exact call_len pins s σ H _ us Q I rv ⟨_, z.length, rfl, ⟨t.1, rfl⟩, k _ _ _ _ t.2 (.scal rh (.int _))⟩
  | [.tup xs], r, t =>
    obtain ⟨v, rfl, r1⟩ := r.one
    cases r1 with | tup sq q => exact call_len pins s σ H _ us Q I rv ⟨_, xs.length, rfl, .inr ⟨_, sq, q.length⟩, k _ _ _ _ t (.scal rh (.int _))⟩
  | [.rl xs], r, t =>
    obtain ⟨v, rfl, r1⟩ := r.one
    cases r1 with | rl sq q => exact call_len pins s σ H _ us Q I rv ⟨_, xs.length, rfl, .inl ⟨_, sq.sq, q.length⟩, k _ _ _ _ t (.scal rh (.int _))⟩
  | [.ref p], r, t =>
    obtain ⟨v, rfl, r1⟩ := r.one
    cases r1
    rcases len_el t with ⟨xs, l, q⟩ | ⟨b, kvs, ⟨p', o, e', e⟩, q⟩
    · obtain ⟨ws, sq, q1⟩ := rh.sq l
      exact call_len pins s σ H _ us Q I rv ⟨_, xs.length, rfl, .inl ⟨_, sq, q1.length⟩, k _ _ _ _ q (.scal rh (.int _))⟩
    · cases e'
      obtain rfl := rv.ref1
      obtain ⟨eo, d⟩ := rh _ _ e
      have hz : ((kvs.length : Nat) : Int) < 2 ^ 63 := by have := d.len; unfold sizeLine at this; omega
      cases b with
      | true =>
        obtain ⟨xs, dd, pr⟩ := dct_keyed I eo d
        refine call_len_dictH d.nosys dd (by rw [← pr.length]; exact hz) ?_
        rw [← pr.length]
        exact ⟨.int _, H, I.tok _, ⟨_, rfl⟩, k _ _ _ _ q (.scal rh (.int _))⟩
      | false =>
        obtain ⟨xs, dd, pr⟩ := dct_leafs I eo d
        refine call_len_dict d.nosys dd (by rw [← pr.length]; exact hz) ?_
        rw [← pr.length]
        exact ⟨.int _, H, I.tok _, ⟨_, rfl⟩, k _ _ _ _ q (.scal rh (.int _))⟩
  | [], _, t => exact t.elim
  | [.non], _, t => exact t.elim
  | [.bl _], _, t => exact t.elim
  | [.int _], _, t => exact t.elim
  | [.ty _], _, t => exact t.elim
  | _ :: _ :: _, _, t => simp at t
theorem b_int : CallR X (.type "int") (liftC X.kw (bltD .int)) := callImp call_int1 fun vs H Q ⟨ds, h, Qd, r, rh, t, k⟩ => by
  match ds, r, t with
  | [.int i], r, t => obtain ⟨v, rfl, r1⟩ := r.one; cases r1; exact .inl ⟨i, rfl, k _ _ _ _ t (.scal rh (.int _))⟩
  | [.bl b], r, t => obtain ⟨v, rfl, r1⟩ := r.one; cases r1; exact .inr ⟨b, rfl, k _ _ _ _ t (.scal rh (.int _))⟩
  | [], _, t => exact t.elim
  | [.non], _, t => exact t.elim
  | [.str _], _, t => exact t.elim
  | [.tup _], _, t => exact t.elim
  | [.ref _], _, t => exact t.elim
  | [.rl _], _, t => exact t.elim
  | [.ty _], _, t => exact t.elim
  | _ :: _ :: _, _, t => simp [bltD] at t
theorem b_abs : CallR X (.builtin "abs") (liftC X.kw (bltD .abs)) := callImp call_abs fun vs H Q ⟨ds, h, Qd, r, rh, t, k⟩ => by
  match ds, r, t with
  | [.int i], r, t =>
    obtain ⟨v, rfl, r1⟩ := r.one; cases r1
    have e : (if i < 0 then -i else i) = (i.natAbs : Int) := by split <;> omega
    exact ⟨i, rfl, by rw [e]; exact k _ _ _ _ t (.scal rh (.int _))⟩
  | [], _, t => exact t.elim
  | [.non], _, t => exact t.elim
  | [.bl _], _, t => exact t.elim
  | [.str _], _, t => exact t.elim
  | [.tup _], _, t => exact t.elim
  | [.ref _], _, t => exact t.elim
  | [.rl _], _, t => exact t.elim
  | [.ty _], _, t => exact t.elim
  | _ :: _ :: _, _, t => simp [bltD] at t
/-- one, two or three arguments: which case it is -/
theorem nuMin3_int (i j l : Int) : nuMin3 (.int i) (.int j) (.int l) = some (.int (min (min i j) l)) := by
  have e2 : ∀ a b : Int, nuMin2 (.int a) (.int b) = some (.int (min a b)) := fun a b => by
    show (nuLt (.int b) (.int a)).map (fun c => if c = true then V.int b else V.int a) = _
    have e : nuLt (.int b) (.int a) = some (decide (b < a)) := rfl
    rw [e]
    show some (if decide (b < a) = true then V.int b else V.int a) = _
    by_cases h : b < a
    · rw [if_pos (decide_eq_true h), Int.min_eq_right (by omega)]
    · rw [if_neg (by simpa using h), Int.min_eq_left (by omega)]
  show (nuMin2 (.int i) (.int j)).bind (fun m => nuMin2 m (.int l)) = _
  rw [e2]
  exact e2 _ _
theorem b_min (hc : X.calm = true) : CallR X (.builtin "min") (liftC X.kw (bltD .min)) := fun pins s σ H xs us Q I rv ⟨ds, h, Qd, r, rh, t, k⟩ => by
  match ds, r, t with
  | [.int i, .int j], r, t =>
    obtain ⟨v, w, rfl, r1, r2⟩ := r.two; cases r1; cases r2
    refine call_min2 hc pins s σ H _ us Q I rv ⟨i, j, rfl, ?_⟩
    have e : (if j < i then j else i) = min i j := by
      by_cases h : j < i
      · rw [if_pos h, Int.min_eq_right (by omega)]
      · rw [if_neg h, Int.min_eq_left (by omega)]
    rw [e]
    exact k _ _ _ _ t (.scal rh (.int _))
  | [.int i, .int j, .int l], r, t =>
    obtain ⟨v, w, x, rfl, r1, r2, r3⟩ := r.three; cases r1; cases r2; cases r3
    exact call_min3Nu hc pins s σ H _ us Q I rv ⟨_, _, _, _, rfl, nuMin3_int i j l, k _ _ _ _ t (.scal rh (.int _))⟩
  | [.ref p], r, t =>
    obtain ⟨v, rfl, r1⟩ := r.one; cases r1
    obtain ⟨ns, l, h0, q⟩ := t
    exact cr_min hc pins s σ H _ us Q I rv ⟨p, ns, rfl, l.ints rh, h0, fun m hm hy => k _ _ _ _ (q m hm hy) (.scal rh (.int _))⟩
theorem b_max (hc : X.calm = true) : CallR X (.builtin "max") (liftC X.kw (bltD .max)) := fun pins s σ H xs us Q I rv ⟨ds, h, Qd, r, rh, t, k⟩ => by
  match ds, r, t with
  | [.int i, .int j], r, t =>
    obtain ⟨v, w, rfl, r1, r2⟩ := r.two; cases r1; cases r2
    refine call_max2 hc pins s σ H _ us Q I rv ⟨i, j, rfl, ?_⟩
    have e : (if j > i then j else i) = max i j := by
      by_cases h : j > i
      · rw [if_pos h, Int.max_eq_right (by omega)]
      · rw [if_neg h, Int.max_eq_left (by omega)]
    rw [e]
    exact k _ _ _ _ t (.scal rh (.int _))
  | [.ref p], r, t =>
    obtain ⟨v, rfl, r1⟩ := r.one; cases r1
    obtain ⟨ns, l, h0, q⟩ := t
    exact cr_max hc pins s σ H _ us Q I rv ⟨p, ns, rfl, l.ints rh, h0, fun m hm hy => k _ _ _ _ (q m hm hy) (.scal rh (.int _))⟩
theorem b_list : CallR X (.type "list") (liftC X.kw (bltD .list)) := callImp call_list_of fun vs H Q ⟨ds, h, Qd, r, rh, t, k⟩ => by
  match ds, r, t with
  | [.tup xs], r, t =>
    obtain ⟨v, rfl, r1⟩ := r.one
    cases r1 with | tup s q => exact ⟨_, _, rfl, .inr s, fun l nl => k _ _ _ _ (t l (rh.free nl)) (.lst rh nl q)⟩
  | [.rl xs], r, t =>
    obtain ⟨v, rfl, r1⟩ := r.one
    cases r1 with | rl s q => exact ⟨_, _, rfl, .inl s.sq, fun l nl => k _ _ _ _ (t l (rh.free nl)) (.lst rh nl q)⟩
  | [.ref p], r, t =>
    obtain ⟨v, rfl, r1⟩ := r.one
    cases r1
    obtain ⟨xs, l, q⟩ := t
    obtain ⟨ws, s, q1⟩ := rh.sq l
    exact ⟨_, _, rfl, .inl s, fun l nl => k _ _ _ _ (q l (rh.free nl)) (.lst rh nl q1)⟩
  | [], _, t => exact t.elim
  | [.non], _, t => exact t.elim
  | [.bl _], _, t => exact t.elim
  | [.int _], _, t => exact t.elim
  | [.str _], _, t => exact t.elim
  | [.ty _], _, t => exact t.elim
  | _ :: _ :: _, _, t => simp [bltD] at t
theorem b_tuple : CallR X (.type "tuple") (liftC X.kw (bltD .tuple)) := callImp call_tuple_of fun vs H Q ⟨ds, h, Qd, r, rh, t, k⟩ => by
  match ds, r, t with
  | [.tup xs], r, t =>
    obtain ⟨v, rfl, r1⟩ := r.one
    cases r1 with | tup s q => exact ⟨_, _, rfl, .inr ⟨s, k _ _ _ _ t (.scal rh (.tup s q))⟩⟩
  | [.rl xs], r, t =>
    obtain ⟨v, rfl, r1⟩ := r.one
    cases r1 with | rl s q => exact ⟨_, _, rfl, .inl ⟨s.sq, fun l nl => k _ _ _ _ t (.tup rh nl q)⟩⟩
  | [.ref p], r, t =>
    obtain ⟨v, rfl, r1⟩ := r.one
    cases r1
    obtain ⟨xs, l, q⟩ := t
    obtain ⟨ws, s, q1⟩ := rh.sq l
    exact ⟨_, _, rfl, .inl ⟨s, fun l nl => k _ _ _ _ q (.tup rh nl q1)⟩⟩
  | [], _, t => exact t.elim
  | [.non], _, t => exact t.elim
  | [.bl _], _, t => exact t.elim
  | [.int _], _, t => exact t.elim
  | [.str _], _, t => exact t.elim
  | [.ty _], _, t => exact t.elim
  | _ :: _ :: _, _, t => simp [bltD] at t
theorem b_sum (hc : X.calm = true) : CallR X (.builtin "sum") (liftC X.kw (bltD .sum)) := callImp (cr_sum hc) fun vs H Q ⟨ds, h, Qd, r, rh, t, k⟩ => by
  match ds, r, t with
  | [.ref p], r, t =>
    obtain ⟨v, rfl, r1⟩ := r.one; cases r1
    obtain ⟨ns, l, q⟩ := t
    exact ⟨p, ns, rfl, l.ints rh, k _ _ _ _ q (.scal rh (.int _))⟩
theorem b_any (hc : X.calm = true) : CallR X (.builtin "any") (liftC X.kw (bltD .any)) := callImp (cr_any hc) fun vs H Q ⟨ds, h, Qd, r, rh, t, k⟩ => by
  match ds, r, t with
  | [.ref p], r, t =>
    obtain ⟨v, rfl, r1⟩ := r.one; cases r1
    obtain ⟨ns, l, q⟩ := t
    exact ⟨p, ns, rfl, l.bls rh, k _ _ _ _ q (.scal rh (.bl _))⟩
theorem b_all (hc : X.calm = true) : CallR X (.builtin "all") (liftC X.kw (bltD .all)) := callImp (cr_all hc) fun vs H Q ⟨ds, h, Qd, r, rh, t, k⟩ => by
  match ds, r, t with
  | [.ref p], r, t =>
    obtain ⟨v, rfl, r1⟩ := r.one; cases r1
    obtain ⟨ns, l, q⟩ := t
    exact ⟨p, ns, rfl, l.bls rh, k _ _ _ _ q (.scal rh (.bl _))⟩
theorem b_str : CallR X (.type "str") (liftC X.kw (bltD .str)) := callImp call_str_int fun vs H Q ⟨ds, h, Qd, r, rh, t, k⟩ => by
  match ds, r, t with
  | [.int i], r, t =>
    obtain ⟨v, rfl, r1⟩ := r.one; cases r1
    exact ⟨i, rfl, t.1, k _ _ _ _ t.2 (.scal rh (.str _))⟩
theorem b_ord : CallR X (.builtin "ord") (liftC X.kw (bltD .ord)) := callImp call_ord fun vs H Q ⟨ds, h, Qd, r, rh, t, k⟩ => by
  match ds, r, t with
  | [.str x], r, t =>
    obtain ⟨v, rfl, r1⟩ := r.one; cases r1
    exact ⟨x, rfl, t.1, k _ _ _ _ t.2 (.scal rh (.int _))⟩
/-! ### isinstance -/
def tyNm : Ty → String
  | .int => "int" | .bool => "bool" | .str => "str" | .tuple => "tuple" | .list => "list" | .none => "NoneType" | .dict => "dict"
theorem kit_all (t n : Ty) (hn : n ≠ .none) : kitB (tyNm t) (tyNm n) = some (isiB t n) := by
  cases n <;> first | exact absurd rfl hn | (cases t <;> decide +kernel)
/-- a told object's class, dicts that are pinned among them -/
def TyY (K : PySem.W.Frag) (H : Hp) (v : V) (t : Value) : Prop := TyX K H v t ∨ ∃ a o, v = .ref a ∧ H a = some (PinO a o) ∧ o.cls = .type "dict" ∧ t = .type "dict"
def rIsY (K : PySem.W.Frag) : List V → Hp → VK → Prop := fun xs H Q => ∃ (x c : V) (t u : Value) (b : Bool), xs = [x, c] ∧ ClsV c u ∧ TyY K H x t ∧ PySem.W.kitOne K t u = some b ∧ Q (.bl b) H
theorem call_isY : CallR X (.builtin "isinstance") (rIsY X.K) := fun pins s σ H xs us Q I r ⟨x, c, t, u, b, hx, hc, ty, e, q⟩ => by
  rcases ty with ty | ⟨a, o, rfl, ho, hcl, rfl⟩
  · exact call_isi pins s σ H xs us Q I r ⟨x, c, t, u, b, hx, hc, ty, e, q⟩
  · subst hx
    obtain ⟨u1, u2, rfl, r1, r2⟩ := vals2 r
    have e2 := hc.eq r2
    subst e2
    cases (show u1 = Value.ref a from r1)
    exact PySem.W.kia_one PySem.W.kitx_dict I.kIn ⟨o, dct_obj I ho, hcl⟩ e (fun z => nomatch z) fun tk => ⟨.bl b, H, I.tok tk, rfl, q⟩
theorem tyD_X {H : Hp} {h : DH} {d : D} {v : V} {k : Ty → Prop} (rh : RH K H h) (r : RD K H d v) (t : tyD d h k) : ∃ u, TyY K H v (.type (tyNm u)) ∧ k u := by
  cases r with
  | non => exact ⟨_, .inl (.base .non), t⟩
  | bl b => exact ⟨_, .inl (.base (.bl b)), t⟩
  | int b => exact ⟨_, .inl (.base (.int b)), t⟩
  | str b => exact ⟨_, .inl (.base (.str b)), t⟩
  | tup s q =>
    refine ⟨_, ?_, t⟩
    rcases s with (s | ⟨o, s⟩) | ⟨o, its, n, e1, e2, _⟩
    · exact .inl (.base (.tup s))
    · exact .inl (.fTuple s)
    · exact .inl (.kTuple e1 e2)
  | rl s q =>
    refine ⟨_, ?_, t⟩
    rcases s with ⟨o, s⟩ | ⟨o, its, n, e1, e2, _⟩
    · exact .inl (.base (.frz s))
    · exact .inl (.kList e1 e2)
  | ref a =>
    rcases tyR_el t with ⟨xs, l, q⟩ | ⟨b, kvs, o, e, q⟩
    · obtain ⟨vs, s, r⟩ := rh.sq l
      refine ⟨_, ?_, q⟩
      rcases s with (s | ⟨o, s⟩) | ⟨o, its, n, e1, e2, _⟩
      · exact .inl (.base (.lst s))
      · exact .inl (.base (.frz s))
      · exact .inl (.kList e1 e2)
    · obtain ⟨eo, d⟩ := rh _ _ e
      exact ⟨_, .inr ⟨_, o, rfl, eo, d.exact_.1, rfl⟩, q⟩
  | ty n => exact t.elim
/-! ### methods -/
abbrev RdM := D → List D → DH → DK → Prop
def liftM (K : KW) (T : String) (rd : RdM) : V → List V → Hp → VK → Prop := fun x vs H Q => ∃ d ds h Qd, RD K H d x ∧ RDs K H ds vs ∧ RH K H h ∧ rd d ds h Qd ∧ ∀ d' h' v H', Qd d' h' → Post K h H d' h' v H' → Q v H'
theorem m_append : MtR X "list.append" (liftM X.kw "list" (mthD .append)) := fun pins s σ H x xs v us Q I rx rv ⟨d, ds, h, Qd, r, rs, rh, t, k⟩ => by
  match ds, rs, t with
  | [y], rs, t =>
    obtain ⟨p, zs, rfl, e, hz, q⟩ := t
    obtain ⟨w, rfl, ry⟩ := rs.one
    cases r
    obtain ⟨vs, f1, q1⟩ := rh.lst e
    exact mt_append pins s σ H _ _ v us Q I rx rv ⟨p, vs, w, rfl, rfl, f1, by rw [← q1.length]; exact hz, k _ _ _ _ q (.write rh e (q1.append (.cons ry .nil)) .non)⟩
theorem RDs.dropLast {H : Hp} {ds : List D} {vs : List V} (r : RDs K H ds vs) : RDs K H ds.dropLast vs.dropLast := by
  rw [List.dropLast_eq_take, List.dropLast_eq_take, r.length]
  exact r.take _
theorem m_pop : MtR X "list.pop" (liftM X.kw "list" (mthD .pop)) := fun pins s σ H x xs v us Q I rx rv ⟨d, ds, h, Qd, r, rs, rh, t, k⟩ => by
  match ds, rs, t with
  | [], rs, t =>
    obtain ⟨p, zs, y, rfl, e, hy, q⟩ := t
    cases rs
    cases r
    obtain ⟨vs, f1, q1⟩ := rh.lst e
    obtain ⟨w, e1, ry⟩ := q1.get hy
    exact mt_pop pins s σ H _ _ v us Q I rx rv ⟨p, vs, w, rfl, rfl, f1, by rw [← q1.length]; exact e1, k _ _ _ _ q (.write rh e q1.dropLast (ry.mono (TM.write f1)))⟩
theorem m_extend : MtR X "list.extend" (liftM X.kw "list" (mthD .extend)) := fun pins s σ H x xs v us Q I rx rv ⟨d, ds, h, Qd, r, rs, rh, t, k⟩ => by
  match ds, rs, t with
  | [.ref b], rs, t =>
    obtain ⟨p, zs, ys, rfl, e, e2, hz, q⟩ := t
    obtain ⟨w, rfl, ry⟩ := rs.one
    cases r; cases ry
    obtain ⟨vs, f1, q1⟩ := rh.lst e
    obtain ⟨ws, f2, q2⟩ := rh.lst e2
    exact mt_extend pins s σ H _ _ v us Q I rx rv ⟨p, b, vs, ws, rfl, rfl, f1, f2, by rw [← q1.length, ← q2.length]; exact hz, k _ _ _ _ q (.write rh e (q1.append q2) .non)⟩
  | [.tup ys], rs, t =>
    obtain ⟨p, zs, rfl, e, hz, q⟩ := t
    obtain ⟨w, rfl, ry⟩ := rs.one
    cases r
    cases ry with | @tup b _ ws sq q2 =>
    obtain ⟨vs, f1, q1⟩ := rh.lst e
    obtain ⟨u, rfl, ru⟩ := rv.one
    cases (show v = Value.ref p from rx)
    cases (show u = Value.ref b from ru)
    obtain ⟨z, its, n, rr, hl, el⟩ := I.lstM f1
    obtain ⟨its2, r2, ⟨o, ho, hc, n2, hd⟩, _⟩ := I.tuple sq
    have l0 := q1.length
    have l3 := q2.length
    have l1 : its.length = zs.length := by rw [← hl, q1.length]
    have l2 : its2.length = ys.length := by rw [← r2.length, q2.length]
    have hsz : its.toArray.size + its2.toArray.size ≤ sizeLine := by rw [List.size_toArray, List.size_toArray]; omega
    obtain ⟨cls, dd, dat, sl⟩ := o
    cases hc
    cases hd
    refine call_meets PySem.F.slot_list_extend ⟨_, el, rfl⟩ PySem.F.entry_list_extend (PySem.F.args_list_extend_2 _ _)
      (extend_tup p its.toArray n b its2.toArray n2 dd sl (by rw [notLongL hsz, Bool.and_false]; exact Bool.false_ne_true) (by rw [List.size_toArray]; omega) (by omega)) ⟨el, ho, ?_⟩
    exact ⟨.non, _, I.lset (its' := its ++ its2) f1 el (by simp) (rr.append r2) (by rw [List.length_append]; omega), rfl, k _ _ _ _ q (.write rh e (q1.append q2) .non)⟩
theorem m_popAt : MtR X "list.pop" (liftM X.kw "list" (mthD .popAt)) := fun pins s σ H x xs v us Q I rx rv ⟨d, ds, h, Qd, r, rs, rh, t, k⟩ => by
  match ds, rs, t with
  | [.int i], rs, t =>
    obtain ⟨p, zs, j, y, rfl, e, hi, hj, hy, q⟩ := t
    obtain ⟨w0, rfl, r0⟩ := rs.one
    cases r; cases r0
    obtain ⟨vs, f1, q1⟩ := rh.lst e
    obtain ⟨w, e1, ry⟩ := q1.get hy
    refine mt_popAt pins s σ H _ _ v us Q I rx rv ⟨p, vs, i, j, w, rfl, rfl, f1, hi.1, hi.2, by rw [← q1.length]; exact (ixN_seq hj).1, e1, k _ _ _ _ q (.write rh e ?_ (ry.mono (TM.write f1)))⟩
    rw [List.eraseIdx_eq_take_drop_succ, List.eraseIdx_eq_take_drop_succ]
    exact (q1.take _).append (q1.drop _)
theorem m_insert : MtR X "list.insert" (liftM X.kw "list" (mthD .insert)) := fun pins s σ H x xs v us Q I rx rv ⟨d, ds, h, Qd, r, rs, rh, t, k⟩ => by
  match ds, rs, t with
  | [.int i, y], rs, t =>
    obtain ⟨p, zs, rfl, e, hz, hi, q⟩ := t
    obtain ⟨w0, w, rfl, r0, ry⟩ := rs.two
    cases r; cases r0
    obtain ⟨vs, f1, q1⟩ := rh.lst e
    exact mt_insert pins s σ H _ _ v us Q I rx rv ⟨p, vs, i, w, rfl, rfl, f1, by rw [← q1.length]; exact hz, hi.1, hi.2, k _ _ _ _ q (.write rh e (((q1.take _).append (.cons ry .nil)).append (q1.drop _)) .non)⟩
theorem m_setdef (hu : X.A.units + 64 < cLine) : MtR X "dict.setdefault" (liftM X.kw "dict" (mthD .setdef)) := fun pins s σ H x xs v us Q I rx rv ⟨d, ds, h, Qd, r, rs, rh, t, k⟩ => by
  match ds, rs, t with
  | [i, z], rs, t =>
    obtain ⟨y, w, rfl, ri, rz⟩ := rs.two
    cases rv with | @cons _ u _ us ru rv =>
    cases rv with | @cons _ u2 _ us ru2 rv =>
    cases rv
    obtain ⟨p, b, kvs, o, rfl, e, hk, hl, q1, q2⟩ := t
    cases r
    cases (show v = Value.ref p from rx)
    refine dd_setd hu I rh e hk hl ri ru rz ru2 (fun g z' x s' hg rg rx' I' => ⟨z', H, I', rx', k _ _ _ _ (q1 g hg) (.scal rh rg)⟩) fun hn s' o' I' ok => ?_
    exact ⟨w, _, I', ru2, k _ _ _ _ (q2 hn o') ⟨rz.mono (TM.writeO (rh _ _ e).1), rh.writeO e ok, .write e⟩⟩
/-- d.get(k), d.get(k, x) -/
theorem m_get (hu : X.A.units + 64 < cLine) : MtR X "dict.get" (liftM X.kw "dict" (mthD .get)) := fun pins s σ H x xs v us Q I rx rv ⟨d, ds, h, Qd, r, rs, rh, t, k⟩ => by
  have key : ∀ {i z : D} {y w : V} {u r' : Value}, dgetD d i z h Qd → RD X.kw H i y → RelV y u → RD X.kw H z w → RelV w r' →
      (us = [u] ∧ z = .non ∨ us = [u, r']) → wpAny (model X.prog X.w) X.A (call (.builtin "dict.get") (v :: us)) (EP X pins σ Q) X.xe s := by
    rintro i z y w u r' ⟨b, kvs, ⟨p, o, rfl, e⟩, hk, q⟩ ri ru rz rw' hus
    cases r
    cases (show v = Value.ref p from rx)
    obtain ⟨eo, d⟩ := rh _ _ e
    cases b with
    | true =>
      obtain ⟨n, a, en, rfl, rfl, ki⟩ := key_T I hk ri ru
      obtain ⟨xs, dd, pr⟩ := dct_keyed I eo d
      have f := find_T pr en
      rcases hus with ⟨rfl, rfl⟩ | rfl
      · refine get_keyed (room1 hu) ki d.nosys ⟨xs, dd, rfl⟩ ?_
        rw [valueAt_pairsH]
        cases hq : dget kvs i with
        | none => rw [hq] at f q; rw [f]; exact ⟨.non, H, I.tok _, rfl, k _ _ _ _ q (.scal rh .non)⟩
        | some g => rw [hq] at f q; obtain ⟨q', z, f1, f2, f3⟩ := f; rw [f1]; exact ⟨z, H, I.tok _, f3, k _ _ _ _ q (.scal rh f2)⟩
      · refine getOr_keyed (room1 hu) ki d.nosys ⟨xs, dd, rfl⟩ ?_
        rw [valueAt_pairsH]
        cases hq : dget kvs i with
        | none => rw [hq] at f q; rw [f]; exact ⟨w, H, I.tok _, rw', k _ _ _ _ q (.scal rh rz)⟩
        | some g => rw [hq] at f q; obtain ⟨q', z, f1, f2, f3⟩ := f; rw [f1]; exact ⟨z, H, I.tok _, f3, k _ _ _ _ q (.scal rh f2)⟩
    | false =>
      obtain ⟨l, el, ki⟩ := key_L hk ri ru
      obtain ⟨xs, dd, pr⟩ := dct_leafs I eo d
      have f := find_L pr el
      rcases hus with ⟨rfl, rfl⟩ | rfl
      · refine call_meetsIn PySem.F.slot_dict_get dd.typeIs PySem.F.entry_dict_get (PySem.F.args_dict_get_2 _ _) (meets_dict_get (mixKind X.prog X.w) p ki d.nosys) ⟨_, dd.mapOf, ?_⟩
        cases hq : dget kvs i with
        | none => rw [hq] at f q; rw [f]; exact ⟨.non, H, I.tok _, rfl, k _ _ _ _ q (.scal rh .non)⟩
        | some g => rw [hq] at f q; obtain ⟨q', z, f1, f2, f3⟩ := f; rw [f1]; exact ⟨z, H, I.tok _, f3, k _ _ _ _ q (.scal rh f2)⟩
      · refine call_meetsIn PySem.F.slot_dict_get dd.typeIs PySem.F.entry_dict_get (PySem.F.args_dict_get_3 _ _ _) (meets_dict_get_default (mixKind X.prog X.w) p ki d.nosys _) ⟨_, dd.mapOf, ?_⟩
        cases hq : dget kvs i with
        | none => rw [hq] at f q; rw [f]; exact ⟨w, H, I.tok _, rw', k _ _ _ _ q (.scal rh rz)⟩
        | some g => rw [hq] at f q; obtain ⟨q', z, f1, f2, f3⟩ := f; rw [f1]; exact ⟨z, H, I.tok _, f3, k _ _ _ _ q (.scal rh f2)⟩
  match ds, rs, t with
  | [i], rs, t =>
    obtain ⟨y, rfl, ry⟩ := rs.one
    cases rv with | @cons _ u _ us ru rv =>
    cases rv
    exact key t ry ru .non (show RelV .non Value.none from rfl) (.inl ⟨rfl, rfl⟩)
  | [i, z], rs, t =>
    obtain ⟨y, w, rfl, ry, rz⟩ := rs.two
    cases rv with | @cons _ u _ us ru rv =>
    cases rv with | @cons _ u2 _ us ru2 rv =>
    cases rv
    exact key t ry ru rz ru2 (.inr rfl)
theorem sort_el {p : Addr} {h : DH} {Q : DK} (t : sortR p h Q) : (∃ S n, h p = some (.iset S n) ∧ n < 64 ∧ ∀ ns : List Int, ns.Pairwise (· < ·) → (∀ k, k ∈ ns ↔ S k = true) → newL h (ns.map D.int) Q) ∨
    (∃ ns : List Int, LR h p (ns.map D.int) ∧ ∀ ms : List Int, ms.Perm ns → ms.Pairwise (· ≤ ·) → newL h (ms.map D.int) Q) ∨
    ∃ bs : List (D × PyData), LR h p (bs.map (·.1)) ∧ SrtOk h bs ∧ newL h ((srtD bs).map (·.1)) Q := by
  unfold sortR at t; exact t
theorem b_sorted (hc : X.calm = true) (hu : X.A.units + 64 < cLine) : CallR X (.builtin "sorted") (liftC X.kw (bltD .sorted)) := fun pins s σ H vs us Q I rv ⟨ds, h, Qd, r, rh, t, k⟩ => by
  match ds, r, t with
  | [.ref p], r, t =>
    obtain ⟨v, rfl, r1⟩ := r.one; cases r1
    rcases sort_el t with ⟨S, n, e, h64, q⟩ | ⟨ns, l, q⟩ | ⟨bs, l, ok, q⟩
    · exact cr_sortedSet hc pins s σ H _ us Q I rv ⟨p, S, n, rfl, rh _ _ e, h64, fun ns a pw hm _ np => k _ _ _ _ (q ns pw hm a (rh.free np)) (.lst rh np (RDs.ofInts ns))⟩
    · exact cr_sortedI pins s σ H _ us Q I rv ⟨p, ns, rfl, l.ints rh, fun ms a pm pw np => k _ _ _ _ (q ms pm pw a (rh.free np)) (.lst rh np (RDs.ofInts ms))⟩
    · obtain rfl := rv.ref1
      exact srt_D hu I rh l ok fun a vs np r => k _ _ _ _ (q a (rh.free np)) (.lst rh np r)
theorem b_set (hc : X.calm = true) : CallR X (.type "set") (liftC X.kw (bltD .set)) := fun pins s σ H vs us Q I rv ⟨ds, h, Qd, r, rh, t, k⟩ => by
  match ds, r, t with
  | [.ref p], r, t =>
    obtain ⟨v, rfl, r1⟩ := r.one; cases r1
    obtain ⟨ns, l, hl, q⟩ := t
    obtain rfl := rv.ref1
    obtain ⟨its, rr, pl, _⟩ := I.list (l.ints rh)
    refine set_of_list ns (I.ok.hd hc) pl.isList (by simpa using intsAre_of rr) (by unfold scanBound; omega) fun h' tk c hS hle hk => ?_
    have np : H s.heap.objs.size = none := I.hok.fresh (Nat.le_refl _)
    exact ⟨.ref s.heap.objs.size, _, I.laid (a := s.heap.objs.size) (t' := tk) hk (Nat.le_refl _) (setO_new hS), rfl, k _ _ _ _ (q _ (fun j => decide (j ∈ ns)) c (rh.free np) (fun j => by simp) hle) ⟨.ref _, rh.new np upd_same, .new np⟩⟩
theorem b_range : CallR X (.type "range") (liftC X.kw (bltD .range)) := fun pins s σ H vs us Q I rv ⟨ds, h, Qd, r, rh, t, k⟩ => by
  match ds, r, t with
  | [.int j], r, t =>
    obtain ⟨v, rfl, r1⟩ := r.one; cases r1
    obtain ⟨u1, rfl, ri⟩ : ∃ u1, us = [u1] ∧ RelV (V.int j) u1 := by cases rv with | cons a b => cases b; exact ⟨_, rfl, a⟩
    obtain ⟨t1, rfl⟩ := ri
    have np : H s.heap.objs.size = none := I.hok.fresh (Nat.le_refl _)
    refine call_range_1 ⟨.ref s.heap.objs.size, upd H s.heap.objs.size (.rng 0 j), I.laid (t' := s.toks + 2) (fun b o e => Heap.get?_push_of_some _ e) (Nat.le_refl _) ?_, rfl, k _ _ _ _ (t _ (rh.free np)) ⟨.ref _, rh.new np upd_same, .new np⟩⟩
    exact ⟨_, _, _, Heap.get?_push_size _ rfl⟩
/-- d.clear() -/
theorem m_clear : MtR X "dict.clear" (liftM X.kw "dict" (mthD .clear)) := fun pins s σ H x xs v us Q I rx rv ⟨d, ds, h, Qd, r, rs, rh, t, k⟩ => by
  match ds, rs, t with
  | [], rs, t =>
    cases rs
    cases rv
    obtain ⟨p, b, kvs, o, rfl, e, q⟩ := t
    cases r
    cases (show v = Value.ref p from rx)
    obtain ⟨eo, dk⟩ := rh _ _ e
    obtain ⟨es, ep, hd, pr⟩ := dk.ex
    have raw : s.heap.DictRaw p es ep := ⟨o, dct_obj I eo, dk.exact_, hd⟩
    have hz : es.size ≤ sizeLine := by rw [← Array.length_toList, ← pr.length]; exact dk.len
    refine call_meetsIn PySem.F.slot_dict_clear raw.typeIs PySem.F.entry_dict_clear (PySem.F.args_dict_clear_1 _) (meets_dict_clear_raw p) ⟨es, ep, raw, hz, fun h' raw' sb => ?_⟩
    obtain ⟨o', ho', ex', hd'⟩ := raw'
    have ok : DctO X.kw H p b [] o' := ⟨dk.nosys, ex', Nat.zero_le _, ⟨#[], _, hd', .nil⟩, List.nodup_nil⟩
    exact ⟨.non, _, dct_write (t' := s.toks) I eo sb ho', rfl, k _ _ _ _ (q o') ⟨.non, rh.writeO e ok, .write e⟩⟩
end DL
namespace DL
open PySem PySem.Spec L2

/-! ## 4. What a loop goes through -/
variable {K : KW} {X : Cx} {B : Bs}
structure WalkD (K : KW) (J : It) (items : List D) (inv : DH → Prop) (G : Hp → Prop) : Prop where
  mono : ∀ H H', TM K H H' → G H → G H'
  goes : ∀ i h H, i < items.length → RH K H h → inv h → G H → J.go i H
  stops : ∀ h H, RH K H h → inv h → G H → J.stop items.length H
  yields : ∀ i h H x H', i < items.length → RH K H h → inv h → G H → J.yld i H x H' → ∃ d, items[i]? = some d ∧ RD K H' d x ∧ RH K H' h ∧ Frm h H h H'
theorem RDs.getX {H : Hp} {ds : List D} {vs : List V} {i : Nat} (r : RDs K H ds vs) (hi : i < ds.length) : ∃ v, vs[i]? = some v ∧ RD K H ds[i] v :=
  r.get (List.getElem?_eq_getElem hi)
theorem walkD_list {a : Addr} {xs : List D} : WalkD K (Itl K a) xs (fun h => LR h a xs) (fun _ => True) where
  mono := fun _ _ _ g => g
  goes := fun i h H hi rh l _ => by
    obtain ⟨vs, s, r⟩ := rh.sq l
    obtain ⟨v, e, _⟩ := r.getX hi
    exact ⟨vs, v, s, e⟩
  stops := fun h H rh l _ => by
    obtain ⟨vs, s, r⟩ := rh.sq l
    exact ⟨vs, s, by rw [r.length]; exact Nat.le_refl _⟩
  yields := fun i h H x H' hi rh l _ y => by
    obtain ⟨vs, s, r⟩ := rh.sq l
    obtain ⟨rfl, y⟩ := y
    obtain ⟨d, e, q⟩ := r.get' (y vs s)
    exact ⟨d, e, q, rh, .refl _ _⟩
theorem walkD_range {lo : Int} {n : Nat} : WalkD K (Itr lo n) (rangeD lo n) (fun _ => True) (fun _ => True) where
  mono := fun _ _ _ g => g
  goes := fun i h H hi _ _ _ => by
    have e : (rangeD lo n).length = n := by simp [rangeD]
    rw [e] at hi
    exact hi
  stops := fun h H _ _ _ => by
    have e : (rangeD lo n).length = n := by simp [rangeD]
    rw [e]
    exact Nat.le_refl n
  yields := fun i h H x H' hi rh _ _ y => by
    obtain ⟨rfl, rfl⟩ := y
    have e : (rangeD lo n).length = n := by simp [rangeD]
    rw [e] at hi
    exact ⟨.int (lo + i), by simp [rangeD, hi], .int _, rh, .refl _ _⟩
theorem walkD_str {z : Str} : WalkD K (Its z) (signsD z) (fun _ => True) (fun _ => True) where
  mono := fun _ _ _ g => g
  goes := fun i h H hi _ _ _ => by
    have e : (signsD z).length = z.cps.size := by simp [signsD]
    rw [e] at hi
    exact hi
  stops := fun h H _ _ _ => by
    have e : (signsD z).length = z.cps.size := by simp [signsD]
    rw [e]
    exact Nat.le_refl _
  yields := fun i h H x H' hi rh _ _ y => by
    obtain ⟨rfl, c, e, rfl⟩ := y
    exact ⟨.str ⟨#[c]⟩, by simp [signsD, e], .str _, rh, .refl _ _⟩
theorem numbered_get : ∀ (xs : List D) (n i : Nat), (numbered n xs)[i]? = xs[i]?.map fun x => D.tup [.int ((n + i : Nat) : Int), x]
  | [], _, _ => by simp [numbered]
  | x :: xs, n, 0 => by simp [numbered]
  | x :: xs, n, i + 1 => by
    have ih := numbered_get xs (n + 1) i
    rw [show (numbered n (x :: xs))[i + 1]? = (numbered (n + 1) xs)[i]? from by simp [numbered], ih]
    rw [show n + 1 + i = n + (i + 1) from by omega]
    simp
theorem numbered_length : ∀ (xs : List D) (n : Nat), (numbered n xs).length = xs.length
  | [], _ => rfl
  | x :: xs, n => by simp [numbered, numbered_length xs]
theorem walkD_enum {a : Addr} {xs : List D} : WalkD K (Ite K a) (numbered 0 xs) (fun h => LR h a xs) (fun _ => True) where
  mono := fun _ _ _ g => g
  goes := fun i h H hi rh l _ => by
    rw [numbered_length] at hi
    obtain ⟨vs, s, r⟩ := rh.sq l
    obtain ⟨v, e, _⟩ := r.getX hi
    exact ⟨vs, v, s, e⟩
  stops := fun h H rh l _ => by
    obtain ⟨vs, s, r⟩ := rh.sq l
    exact ⟨vs, s, by rw [numbered_length, r.length]; exact Nat.le_refl _⟩
  yields := fun i h H x H' hi rh l _ y => by
    obtain ⟨vs, s, r⟩ := rh.sq l
    obtain ⟨p, w, rfl, np, rfl, y⟩ := y
    obtain ⟨d, e, q⟩ := r.get' (y vs s)
    exact ⟨_, by rw [numbered_get, e]; rfl, .newT np (.cons (by rw [Nat.zero_add]; exact .int _) (.cons q .nil)), rh.newT np, .newT np⟩
theorem pairUp_get : ∀ (xs ys : List D) (i : Nat) (x y : D), xs[i]? = some x → ys[i]? = some y → (pairUp xs ys)[i]? = some (.tup [x, y])
  | [], _, _, _, _, h, _ => by simp at h
  | _ :: _, [], _, _, _, _, h => by simp at h
  | x :: xs, y :: ys, 0, _, _, h1, h2 => by simp at h1 h2; subst h1 h2; simp [pairUp]
  | x :: xs, y :: ys, i + 1, _, _, h1, h2 => by simp [pairUp]; exact pairUp_get xs ys i _ _ (by simpa using h1) (by simpa using h2)
theorem pairUp_length : ∀ (xs ys : List D), (pairUp xs ys).length = min xs.length ys.length
  | [], _ => by simp [pairUp]
  | _ :: _, [] => by simp [pairUp]
  | x :: xs, y :: ys => by simp [pairUp, pairUp_length xs ys, Nat.succ_min_succ]
theorem walkD_zip {a b : Addr} {xs ys : List D} : WalkD K (Itz K a b) (pairUp xs ys) (fun h => LR h a xs ∧ LR h b ys) (fun _ => True) where
  mono := fun _ _ _ g => g
  goes := fun i h H hi rh l _ => by
    rw [pairUp_length] at hi
    obtain ⟨vs, s, r⟩ := rh.sq l.1
    obtain ⟨ws, s', r'⟩ := rh.sq l.2
    obtain ⟨v, e, _⟩ := r.getX (Nat.lt_of_lt_of_le hi (Nat.min_le_left _ _))
    obtain ⟨w, e', _⟩ := r'.getX (Nat.lt_of_lt_of_le hi (Nat.min_le_right _ _))
    exact ⟨vs, ws, v, w, s, s', e, e'⟩
  stops := fun h H rh l _ => by
    obtain ⟨vs, s, r⟩ := rh.sq l.1
    obtain ⟨ws, s', r'⟩ := rh.sq l.2
    refine ⟨vs, ws, s, s', ?_⟩
    rw [pairUp_length, r.length, r'.length]
    omega
  yields := fun i h H x H' hi rh l _ y => by
    obtain ⟨vs, s, r⟩ := rh.sq l.1
    obtain ⟨ws, s', r'⟩ := rh.sq l.2
    obtain ⟨p, v, w, rfl, np, rfl, y1, y2⟩ := y
    obtain ⟨d, e, q⟩ := r.get' (y1 vs s)
    obtain ⟨d', e', q'⟩ := r'.get' (y2 ws s')
    exact ⟨_, pairUp_get _ _ _ _ _ e e', .newT np (.cons q (.cons q' .nil)), rh.newT np, .newT np⟩
theorem walkD_tup {a : Addr} {xs : List D} {vs : List V} : WalkD K (Itt K a) xs (fun _ => True) (fun H => SqT K H a vs ∧ RDs K H xs vs) where
  mono := fun _ _ m g => ⟨m.tup _ _ g.1, g.2.mono m⟩
  goes := fun i h H hi _ _ g => by
    obtain ⟨v, e, _⟩ := g.2.getX hi
    exact ⟨vs, v, g.1, e⟩
  stops := fun h H _ _ g => ⟨vs, g.1, by rw [g.2.length]; exact Nat.le_refl _⟩
  yields := fun i h H x H' hi rh _ g y => by
    obtain ⟨rfl, y⟩ := y
    obtain ⟨d, e, q⟩ := g.2.get' (y vs g.1)
    exact ⟨d, e, q, rh, .refl _ _⟩

theorem walkD_rl {a : Addr} {xs : List D} {vs : List V} : WalkD K (Itl K a) xs (fun _ => True) (fun H => FzL K H a vs ∧ RDs K H xs vs) where
  mono := fun _ _ m g => ⟨m.frz _ _ g.1, g.2.mono m⟩
  goes := fun i h H hi _ _ g => by
    obtain ⟨v, e, _⟩ := g.2.getX hi
    exact ⟨vs, v, g.1.sq, e⟩
  stops := fun h H _ _ g => ⟨vs, g.1.sq, by rw [g.2.length]; exact Nat.le_refl _⟩
  yields := fun i h H x H' hi rh _ g y => by
    obtain ⟨rfl, y⟩ := y
    obtain ⟨d, e, q⟩ := g.2.get' (y vs g.1.sq)
    exact ⟨d, e, q, rh, .refl _ _⟩

section
variable {a : Addr} {b : Bool} {kvs : List (D × D)} {o : Obj} {es : Array DictEntry} {ep : Nat}
theorem dct_at {h : DH} {H : Hp} (hod : o.data = .dict es ep) (rh : RH K H h) (l : h a = some (.dct b kvs o)) : H a = some (PinO a o) ∧ es.size = kvs.length ∧ ∀ (i : Nat) (hi : i < kvs.length), ∃ en, es[i]? = some en ∧ Ent K H b kvs[i] en := by
  obtain ⟨e1, r⟩ := rh _ _ l
  obtain ⟨es', ep', e2, p⟩ := r.ex
  obtain ⟨rfl, rfl⟩ := L2.dict_ep hod e2
  obtain ⟨ln, at'⟩ := paired_at p
  refine ⟨e1, by rw [ln, Array.length_toList], fun i hi => ?_⟩
  obtain ⟨en, h1, h2⟩ := at' i _ (List.getElem?_eq_getElem hi)
  exact ⟨en, by rw [← Array.getElem?_toList]; exact h1, h2⟩
theorem walkD_dct (hod : o.data = .dict es ep) : WalkD K (Itp a o es) (kvs.map (·.1)) (fun h => h a = some (.dct b kvs o)) (fun _ => True) where
  mono := fun _ _ _ g => g
  goes := fun i h H hi rh l _ => by
    obtain ⟨e1, _, at'⟩ := dct_at hod rh l
    rw [List.length_map] at hi
    obtain ⟨en, h1, h2⟩ := at' i hi
    obtain ⟨x, y, h3, _⟩ := ent_key h2
    exact ⟨e1, en, x, h1, h3⟩
  stops := fun h H rh l _ => by
    obtain ⟨e1, z, _⟩ := dct_at hod rh l
    exact ⟨e1, by rw [List.length_map, z]; exact Nat.le_refl _⟩
  yields := fun i h H x H' hi rh l _ y => by
    obtain ⟨e1, _, at'⟩ := dct_at hod rh l
    obtain ⟨rfl, en, h1, h2⟩ := y
    rw [List.length_map] at hi
    obtain ⟨en', h3, h4⟩ := at' i hi
    rw [h1] at h3
    cases h3
    obtain ⟨z, w, h5, h6, _⟩ := ent_key h4
    obtain rfl := relV_fun h2 h5
    exact ⟨kvs[i].1, by rw [List.getElem?_map, List.getElem?_eq_getElem hi]; rfl, h6, rh, .refl _ _⟩
theorem walkD_dvals (hod : o.data = .dict es ep) : WalkD K (Itpv a o es) (kvs.map (·.2)) (fun h => h a = some (.dct b kvs o)) (fun _ => True) where
  mono := fun _ _ _ g => g
  goes := fun i h H hi rh l _ => by
    obtain ⟨e1, _, at'⟩ := dct_at hod rh l
    rw [List.length_map] at hi
    obtain ⟨en, h1, h2⟩ := at' i hi
    obtain ⟨x, y, h3, h4, h5, h6⟩ := ent_key h2
    exact ⟨e1, en, y, h1, h5⟩
  stops := fun h H rh l _ => by
    obtain ⟨e1, z, _⟩ := dct_at hod rh l
    exact ⟨e1, by rw [List.length_map, z]; exact Nat.le_refl _⟩
  yields := fun i h H x H' hi rh l _ y => by
    obtain ⟨e1, _, at'⟩ := dct_at hod rh l
    obtain ⟨rfl, en, h1, h2⟩ := y
    rw [List.length_map] at hi
    obtain ⟨en', h3, h4⟩ := at' i hi
    rw [h1] at h3
    cases h3
    obtain ⟨z, w, h5, h6, h7, h8⟩ := ent_key h4
    obtain rfl := relV_fun h2 h7
    exact ⟨kvs[i].2, by rw [List.getElem?_map, List.getElem?_eq_getElem hi]; rfl, h8, rh, .refl _ _⟩
theorem walkD_ditems (hod : o.data = .dict es ep) : WalkD K (Itpi a o es) (kvs.map fun kv => .tup [kv.1, kv.2]) (fun h => h a = some (.dct b kvs o)) (fun _ => True) where
  mono := fun _ _ _ g => g
  goes := fun i h H hi rh l _ => by
    obtain ⟨e1, _, at'⟩ := dct_at hod rh l
    rw [List.length_map] at hi
    obtain ⟨en, h1, h2⟩ := at' i hi
    obtain ⟨x, y, h3, h4, h5, h6⟩ := ent_key h2
    exact ⟨e1, en, x, y, h1, h3, h5⟩
  stops := fun h H rh l _ => by
    obtain ⟨e1, z, _⟩ := dct_at hod rh l
    exact ⟨e1, by rw [List.length_map, z]; exact Nat.le_refl _⟩
  yields := fun i h H x H' hi rh l _ y => by
    obtain ⟨e1, _, at'⟩ := dct_at hod rh l
    obtain ⟨T, x1, y1, en, h1, h2, h2', rfl, np, rfl⟩ := y
    rw [List.length_map] at hi
    obtain ⟨en', h3, h4⟩ := at' i hi
    rw [h1] at h3
    cases h3
    obtain ⟨z, w, h5, h6, h7, h8⟩ := ent_key h4
    obtain rfl := relV_fun h2 h5
    obtain rfl := relV_fun h2' h7
    exact ⟨.tup [kvs[i].1, kvs[i].2], by rw [List.getElem?_map, List.getElem?_eq_getElem hi]; rfl, .newT np (.cons h6 (.cons h8 .nil)), rh.newT np, .newT np⟩
end

/-! ### the readings of what is walked -/
abbrev TId := DSt → DH → (List D → (DH → Prop) → DH → Prop) → Prop
def liftI (K : KW) (B : Bs) (t : TId) : TI := fun σ H R => ∃ sd h Rd, Now K B sd h σ H ∧ t sd h Rd ∧
  ∀ items inv h' H' J G, Rd items inv h' → RH K H' h' → Frm h H h' H' → WalkD K J items inv G → G H' → R J H'
/-- a list, a tuple or a text -/
def iAny (K : KW) (te : TE) : TI := fun σ H R => te σ H fun x H1 => (∃ a, x = .ref a ∧ (∃ xs, SqL K H1 a xs) ∧ R (Itl K a) H1) ∨ (∃ a, x = .ref a ∧ (∃ xs, SqT K H1 a xs) ∧ R (Itt K a) H1) ∨ (∃ z, x = .str z ∧ R (Its z) H1) ∨ (∃ d o es ep, x = .ref d ∧ H1 d = some (PinO d o) ∧ (d == sysModules) = false ∧ o.ExactDict ∧ o.data = .dict es ep ∧ R (Itp d o es) H1) ∨ ∃ d j, x = .ref d ∧ H1 d = some (.rng 0 j) ∧ (-(2 ^ 62) ≤ j ∧ j < 2 ^ 62) ∧ R (Itr 0 j.toNat) H1
theorem pi_any {tg e : Expr} {te : TE} (he : PE X e te) : PI X tg e (iAny X.kw te) := by
  refine ⟨fun pins s σ H R I h => thn (he.run pins s σ H _ I h) fun v s1 ⟨x, H1, I1, r1, q1⟩ => ?_⟩
  rcases q1 with ⟨a, rfl, ⟨xs, hq⟩, q⟩ | ⟨a, rfl, ⟨xs, hq⟩, q⟩ | ⟨z, rfl, q⟩ | ⟨d, o, es, ep, rfl, hd, hs, hx, hdt, q⟩ | ⟨d, j, rfl, hd, hb, q⟩
  rotate_right 2
  · cases r1
    exact iter_keys hs (dct_obj I1 hd) hx hdt (pi_one (tk := s1.toks) I1 _ (turn_keysP _ hdt) ⟨_, Heap.get?_push_size _ rfl, rfl, rfl⟩ q)
  · cases r1
    obtain ⟨t, u, v, e⟩ := I1.hok _ _ hd
    refine wpAny_pyIter_range e (small_one (by omega) (by omega) hb.1 hb.2) (pi_one (tk := s1.toks) I1 _ (turn_range _ 0 j.toNat) ?_ q)
    have e1 : (0 : Int) + ((0 : Nat) : Int) * 1 = 0 := by simp
    have e2 : ((j.toNat : Nat) : Int) - ((0 : Nat) : Int) = Builtin.Range.rangeSize 0 j 1 := by rw [rangeSize_one]; split <;> omega
    show IsRangeIter _ _ ((0 : Int) + ((0 : Nat) : Int) * 1) (((j.toNat : Nat) : Int) - ((0 : Nat) : Int)) 1
    rw [e1, e2]
    exact Heap.get?_push_size _ rfl
  · cases r1
    obtain ⟨its, rv, p, hz⟩ := I1.list hq
    exact wpAny_pyIter_list p.isList (pi_one (tk := s1.toks) I1 _ (turn_list a _) ⟨_, Heap.get?_push_size _ rfl, rfl, rfl⟩ q)
  · cases r1
    obtain ⟨its, rv, p, hz⟩ := I1.tuple hq
    exact wpAny_pyIter_tuple (show s1.heap.IsTuple a its.toArray from p) (pi_one (tk := s1.toks) I1 _ (turn_tuple a _) ⟨_, Heap.get?_push_size _ rfl, rfl, rfl⟩ q)
  · obtain ⟨t, rfl⟩ := r1
    cases ha : z.cps.all (· < 128)
    · exact wpAny_pyIter_wide ha (pi_one (tk := s1.toks) I1 _ (turn_str _ z t "str_iterator" (.inr rfl)) ⟨_, Heap.get?_push_size _ rfl, rfl, rfl⟩ q)
    · exact wpAny_pyIter_ascii ha (pi_one (tk := s1.toks) I1 _ (turn_str _ z t "str_ascii_iterator" (.inl rfl)) ⟨_, Heap.get?_push_size _ rfl, rfl, rfl⟩ q)
theorem PI.imp {tg iter : Expr} {t t' : TI} (h : PI X tg iter t) (k : ∀ σ H R, t' σ H R → t σ H R) : PI X tg iter t' := ⟨fun pins s σ H R I q => h.run pins s σ H R I (k σ H R q)⟩
theorem itR_el {p : Addr} {h : DH} {R : ItR} (q : itR p h R) : (∃ xs, LR h p xs ∧ R xs fun h' => LR h' p xs) ∨ (∃ b kvs o, h p = some (.dct b kvs o) ∧ R (kvs.map (·.1)) fun h' => h' p = some (.dct b kvs o)) ∨ ∃ j, h p = some (.rng j) ∧ (-(2 ^ 62) ≤ j ∧ j < 2 ^ 62) ∧ R (rangeD 0 j.toNat) fun _ => True := by
  unfold itR at q; exact q
/-- d.items(), d.values() -/
def iDict (J : Addr → Obj → Array DictEntry → It) (te : TE) : TI := fun σ H R => te σ H fun x H1 => ∃ d o es ep, x = .ref d ∧ H1 d = some (PinO d o) ∧ (d == sysModules) = false ∧ o.ExactDict ∧ o.data = .dict es ep ∧ R (J d o es) H1
theorem pi_itemsP {e : Expr} {te : TE} {elts : List Expr} {kk : Nat} {tpos apos cpos : Pos} (he : PE X e te) (hbase : attributeBase e "items" X.env (eval e X.env) = eval e X.env) (hline : (apos.endLine == cpos.line) = true) :
    PI X (.Tuple elts kk tpos) (.Call (.Attribute e "items" apos) [] [] cpos) (iDict Itpi te) := by
  refine ⟨fun pins s σ H R I h => ?_⟩
  refine wpAny_Call_method (T := "dict") (id := "dict.items") hbase rfl hline PySem.F.plainAttrs_dict PySem.F.slot_dict_items PySem.F.type_dict_items (thn (he.run pins s σ H _ I h) fun u s1 ⟨x, H1, I1, rx, d, o, es, ep, ex, hd, hs, hx, hdt, q⟩ => ?_)
  subst ex
  obtain rfl : u = Value.ref d := rx
  have ho := dct_obj I1 hd
  have hm : s1.heap.DictRaw d es ep := ⟨o, ho, hx, hdt⟩
  refine ⟨⟨o, ho, hx.1⟩, ?nd, ?_⟩
  case nd => exact fun b e => by cases e; exact ⟨o, ho, hx.2.1⟩
  have I2 : Inv X pins σ H1 { s1 with heap := s1.heap.push { cls := .type "dict_items", data := .fields #[.ref d] } } := I1.kept (t' := s1.toks) fun b ob q => Heap.get?_push_of_some _ q
  have fin : wpAny (model X.prog X.w) X.A (pyIter (.ref s1.heap.objs.size)) (PIE X pins σ (.Tuple elts kk tpos) R) X.xe { s1 with heap := s1.heap.push { cls := .type "dict_items", data := .fields #[.ref d] } } := by
    refine wpAny_pyIter_items_raw (d := d) ⟨_, Heap.get?_push_size _ rfl, rfl, rfl⟩ (hm.at fun o e => Heap.get?_push_of_some _ e) (pi_one (tk := s1.toks) I2 _ (turn_itemsP _ hx hdt) ⟨.none, .none, ?_⟩ q)
    exact Heap.get?_push_size _ rfl
  show wpAny _ _ (callWith cpos (.builtin "dict.items") [.ref d] [] []) _ X.xe s1
  exact method_meetsIn PySem.F.slot_dict_items PySem.F.entry_dict_items rfl (PySem.evalArgs_none ⟨rfl, hm.typeIs, PySem.F.args_dict_items_1 _, _, meets_dict_items_raw d hs, ⟨es, ep, hm⟩, fin⟩)
theorem pi_valsP {tg e : Expr} {te : TE} {apos cpos : Pos} (he : PE X e te) (hbase : attributeBase e "values" X.env (eval e X.env) = eval e X.env) (hline : (apos.endLine == cpos.line) = true) :
    PI X tg (.Call (.Attribute e "values" apos) [] [] cpos) (iDict Itpv te) := by
  refine ⟨fun pins s σ H R I h => ?_⟩
  refine wpAny_Call_method (T := "dict") (id := "dict.values") hbase rfl hline PySem.F.plainAttrs_dict PySem.F.slot_dict_values PySem.F.type_dict_values (thn (he.run pins s σ H _ I h) fun u s1 ⟨x, H1, I1, rx, d, o, es, ep, ex, hd, hs, hx, hdt, q⟩ => ?_)
  subst ex
  obtain rfl : u = Value.ref d := rx
  have ho := dct_obj I1 hd
  have hm : s1.heap.DictRaw d es ep := ⟨o, ho, hx, hdt⟩
  refine ⟨⟨o, ho, hx.1⟩, ?nd, ?_⟩
  case nd => exact fun b e => by cases e; exact ⟨o, ho, hx.2.1⟩
  have I2 : Inv X pins σ H1 { s1 with heap := s1.heap.push { cls := .type "dict_values", data := .fields #[.ref d] } } := I1.kept (t' := s1.toks) fun b ob q => Heap.get?_push_of_some _ q
  have fin : wpAny (model X.prog X.w) X.A (pyIter (.ref s1.heap.objs.size)) (PIE X pins σ tg R) X.xe { s1 with heap := s1.heap.push { cls := .type "dict_values", data := .fields #[.ref d] } } := by
    exact wpAny_pyIter_values_raw (d := d) ⟨_, Heap.get?_push_size _ rfl, rfl, rfl⟩ (hm.at fun o e => Heap.get?_push_of_some _ e) (pi_one (tk := s1.toks) I2 _ (turn_valsP _ hx hdt) ⟨_, Heap.get?_push_size _ rfl, rfl, rfl⟩ q)
  show wpAny _ _ (callWith cpos (.builtin "dict.values") [.ref d] [] []) _ X.xe s1
  exact method_meetsIn PySem.F.slot_dict_values PySem.F.entry_dict_values rfl (PySem.evalArgs_none ⟨rfl, hm.typeIs, PySem.F.args_dict_values_1 _, _, meets_dict_values_raw d hs, ⟨es, ep, hm⟩, fin⟩)
theorem lift_items {ta : TEd} {σ : L2.St} {H : Hp} {R : It → Hp → Prop} (q : liftI K B (fun s h Rd => ta s h fun x h1 => itD .items x h1 fun items inv => Rd items inv h1) σ H R) : iDict Itpi (lift K B ta) σ H R := by
  obtain ⟨sd, h, Rd, n, t, k⟩ := q
  refine ⟨sd, h, _, n, t, fun d h1 v H1 q p => ?_⟩
  cases d with
  | ref a =>
    obtain ⟨r, rh, fr⟩ := p
    cases r
    obtain ⟨b, kvs, o, l, q⟩ := q
    obtain ⟨e1, r⟩ := rh _ _ l
    obtain ⟨es, ep, e2, _⟩ := r.ex
    exact ⟨a, o, es, ep, rfl, e1, r.nosys, r.exact_, e2, k _ _ _ _ _ _ q rh fr (walkD_ditems e2) trivial⟩
  | _ => exact q.elim
theorem lift_vals {ta : TEd} {σ : L2.St} {H : Hp} {R : It → Hp → Prop} (q : liftI K B (fun s h Rd => ta s h fun x h1 => itD .vals x h1 fun items inv => Rd items inv h1) σ H R) : iDict Itpv (lift K B ta) σ H R := by
  obtain ⟨sd, h, Rd, n, t, k⟩ := q
  refine ⟨sd, h, _, n, t, fun d h1 v H1 q p => ?_⟩
  cases d with
  | ref a =>
    obtain ⟨r, rh, fr⟩ := p
    cases r
    obtain ⟨b, kvs, o, l, q⟩ := q
    obtain ⟨e1, r⟩ := rh _ _ l
    obtain ⟨es, ep, e2, _⟩ := r.ex
    exact ⟨a, o, es, ep, rfl, e1, r.nosys, r.exact_, e2, k _ _ _ _ _ _ q rh fr (walkD_dvals e2) trivial⟩
  | _ => exact q.elim
theorem lift_iVal {ta : TEd} {σ : L2.St} {H : Hp} {R : It → Hp → Prop} (q : liftI K B (fun s h Rd => ta s h fun x h1 => itD .val x h1 fun items inv => Rd items inv h1) σ H R) : iAny K (lift K B ta) σ H R := by
  obtain ⟨sd, h, Rd, n, t, k⟩ := q
  refine ⟨sd, h, _, n, t, fun d h1 v H1 q p => ?_⟩
  cases d with
  | tup xs =>
    obtain ⟨r, rh, fr⟩ := p
    cases r with | tup s r => exact .inr (.inl ⟨_, rfl, ⟨_, s⟩, k _ _ _ _ _ _ q rh fr walkD_tup ⟨s, r⟩⟩)
  | rl xs =>
    obtain ⟨r, rh, fr⟩ := p
    cases r with | rl s r => exact .inl ⟨_, rfl, ⟨_, s.sq⟩, k _ _ _ _ _ _ q rh fr walkD_rl ⟨s, r⟩⟩
  | str z =>
    obtain ⟨r, rh, fr⟩ := p
    cases r
    exact .inr (.inr (.inl ⟨z, rfl, k _ _ _ _ _ _ q rh fr walkD_str trivial⟩))
  | ref a =>
    obtain ⟨r, rh, fr⟩ := p
    cases r
    rcases itR_el q with ⟨xs, l, q⟩ | ⟨b, kvs, o, l, q⟩ | ⟨j, l, hb, q⟩
    · obtain ⟨vs, s, _⟩ := rh.sq l
      exact .inl ⟨a, rfl, ⟨vs, s⟩, k _ _ _ _ _ _ q rh fr walkD_list trivial⟩
    · obtain ⟨e1, r⟩ := rh _ _ l
      obtain ⟨es, ep, e2, _⟩ := r.ex
      exact .inr (.inr (.inr (.inl ⟨a, o, es, ep, rfl, e1, r.nosys, r.exact_, e2, k _ _ _ _ _ _ q rh fr (walkD_dct e2) trivial⟩)))
    · exact .inr (.inr (.inr (.inr ⟨a, j, rfl, rh _ _ l, hb, k _ _ _ _ _ _ q rh fr walkD_range trivial⟩)))
  | _ => exact q.elim
theorem lift_iRange1 {ta : TEd} {σ : L2.St} {H : Hp} {R : It → Hp → Prop} (q : liftI K B (fun s h Rd => ta s h fun x h1 => itD .range1 x h1 fun items inv => Rd items inv h1) σ H R) : iRng1 (liftA K B ta) σ H R := by
  obtain ⟨sd, h, Rd, n, t, k⟩ := q
  refine ⟨sd, h, _, n, t, fun ds h1 vs H1 q r rh fr => ?_⟩
  obtain ⟨j, e, ⟨b1, b2⟩, q2⟩ : ∃ j : Int, ds = [.int j] ∧ (-(2 ^ 62) ≤ j ∧ j < 2 ^ 62) ∧ Rd (rangeD 0 j.toNat) (fun _ => True) h1 := by
    match ds, q with
    | [.int j], q => exact ⟨j, rfl, q⟩
  cases e
  obtain ⟨v, rfl, r1⟩ := r.one
  cases r1
  exact ⟨j, rfl, b1, b2, k _ _ _ _ _ _ q2 rh fr walkD_range trivial⟩
theorem lift_iRange2 {ta : TEd} {σ : L2.St} {H : Hp} {R : It → Hp → Prop} (q : liftI K B (fun s h Rd => ta s h fun x h1 => itD .range2 x h1 fun items inv => Rd items inv h1) σ H R) : iRng2 (liftA K B ta) σ H R := by
  obtain ⟨sd, h, Rd, n, t, k⟩ := q
  refine ⟨sd, h, _, n, t, fun ds h1 vs H1 q r rh fr => ?_⟩
  obtain ⟨i, j, e, b, q2⟩ : ∃ i j : Int, ds = [.int i, .int j] ∧ (-(2 ^ 62) ≤ i ∧ i < 2 ^ 62 ∧ -(2 ^ 62) ≤ j ∧ j < 2 ^ 62) ∧ Rd (rangeD i (j - i).toNat) (fun _ => True) h1 := by
    match ds, q with
    | [.int i, .int j], q => exact ⟨i, j, rfl, q⟩
  cases e
  obtain ⟨v, w, rfl, r1, r2⟩ := r.two
  cases r1; cases r2
  exact ⟨i, j, rfl, b, k _ _ _ _ _ _ q2 rh fr walkD_range trivial⟩
theorem lift_iZip {ta : TEd} {σ : L2.St} {H : Hp} {R : It → Hp → Prop} (q : liftI K B (fun s h Rd => ta s h fun x h1 => itD .zip x h1 fun items inv => Rd items inv h1) σ H R) : iZip K (liftA K B ta) σ H R := by
  obtain ⟨sd, h, Rd, n, t, k⟩ := q
  refine ⟨sd, h, _, n, t, fun ds h1 vs H1 q r rh fr => ?_⟩
  obtain ⟨p, p', xs, ys, e, l, l', q2⟩ : ∃ p q xs ys, ds = [.ref p, .ref q] ∧ LR h1 p xs ∧ LR h1 q ys ∧ Rd (pairUp xs ys) (fun h' => LR h' p xs ∧ LR h' q ys) h1 := by
    match ds, q with
    | [.ref p, .ref p'], q => obtain ⟨xs, ys, q⟩ := q; exact ⟨p, p', xs, ys, rfl, q⟩
  cases e
  obtain ⟨v, w, rfl, r1, r2⟩ := r.two
  cases r1; cases r2
  obtain ⟨ws, s, _⟩ := rh.sq l
  obtain ⟨ws', s', _⟩ := rh.sq l'
  exact ⟨p, p', ws, ws', rfl, s, s', k _ _ _ _ _ _ q2 rh fr walkD_zip trivial⟩
end DL
namespace DL
open PySem PySem.Spec L2
open AutoSeq1 (wpAny_loadPart')

/-! ## enumerate of a tuple -/
theorem meets_enum1 {v : Value} {o : Obj} {H : Heap → Prop} (bg : Begins v o H) :
    Meets (Builtin.«enumerate.__new__» ⟨[.type "enumerate", v], []⟩) (fun _ R s => H s.heap ∧
      R (.ok (.ret (.ref (s.heap.push o).objs.size))) { s with heap := (s.heap.push o).push { cls := .type "enumerate", data := .fields #[.none, .bool false, .ref s.heap.objs.size, rawInt 0, .none, .none] } }) :=
  .of_wp fun prog w A R s h => by
    obtain ⟨hp, gg, dd, tk, os⟩ := s
    obtain ⟨hH, hR⟩ := h
    have sb := sub_enumerate
    have pq : ∀ {A' : Around} {E : Value → Shared → Prop} {Q : Value → Shared → Prop}, Q (.ref hp.objs.size) ⟨hp.push o, gg, dd, tk, os⟩ → wpAny (model prog w) A' (pyIter v) Q E ⟨hp, gg, dd, tk, os⟩ := fun q => bg.iter prog w _ _ ⟨hp, gg, dd, tk, os⟩ _ hH q
    wp_walk using pq
    refine wpAny_stack_any fun st => wpAny_pure ?_
    split
    · rename_i c _ _ _ _ _
      cases (c == Value.type "enumerate") <;> (wp_walk using pq; exact ⟨_, rfl, hR⟩)
    · wp_walk using pq
      exact ⟨_, rfl, hR⟩
theorem call_enum1 {prog : Program} {w : World} {A : Around} {E : Value → Shared → Prop} {s : Shared} {v : Value} {o : Obj} {H : Heap → Prop} {Q : Value → Shared → Prop} (bg : Begins v o H) (h1 : H s.heap)
    (h : ∀ h', IsEnum h' (s.heap.objs.size + 1) s.heap.objs.size 0 .none → h'.get? s.heap.objs.size = some o → (∀ b o, s.heap.get? b = some o → h'.get? b = some o) → Q (.ref (s.heap.objs.size + 1)) { s with heap := h' }) :
    wpAny (model prog w) A (call (.type "enumerate") [v]) Q E s := by
  refine callType_new F.called_enumerate (by decide) (F.typeCall_enumerate_1 _) (F.newCall_enumerate_1 _) (fun obj => F.args_object_init_2 obj _) F.entry_enumerate_new (meets_enum1 bg) ⟨h1, ?_⟩
  have hz : (s.heap.push o).objs.size = s.heap.objs.size + 1 := Heap.size_push ..
  have he : IsEnum ((s.heap.push o).push { cls := .type "enumerate", data := .fields #[.none, .bool false, .ref s.heap.objs.size, rawInt 0, .none, .none] }) (s.heap.objs.size + 1) s.heap.objs.size 0 .none := by
    have z := Heap.get?_push_size (s.heap.push o) (o := { cls := .type "enumerate", data := .fields #[.none, .bool false, .ref s.heap.objs.size, rawInt 0, .none, .none] }) rfl
    rw [hz] at z
    exact z
  show _ ∧ _
  rw [hz]
  exact ⟨⟨_, he, rfl⟩, h _ he (Heap.get?_push_of_some _ (Heap.get?_push_size _ bg.free)) fun b o x => Heap.get?_push_of_some _ (Heap.get?_push_of_some _ x)⟩
/-- i, x of a tuple -/
def IteT (K : PySem.W.Frag) (a : Addr) : It :=
  ⟨fun i H => ∃ (xs : List V) (x : V), SqT K H a xs ∧ xs[i]? = some x, fun i H v H' => ∃ p x, v = .ref p ∧ H p = none ∧ H' = upd H p (.tup [.int (i : Nat), x]) ∧ ∀ xs, SqT K H a xs → xs[i]? = some x, fun i H => ∃ xs : List V, SqT K H a xs ∧ xs.length = i⟩
theorem turn_enumT {P : Program} {w : World} {K : PySem.W.Frag} {elts : List Expr} {kk : Nat} {tpos : Pos} (a e it : Addr) :
    Turn P w K (.Tuple elts kk tpos) (IteT K a) [e, it] e (fun i h => (∃ old, IsEnum h e it ((i : Nat) : Int) old) ∧ h.IsTupleIter it a i ∧ e ≠ it ∧ e ≠ a ∧ a ≠ it) where
  mem := by simp
  obj := fun i h st b hb => by
    obtain ⟨⟨old, he⟩, ⟨o, ho, hc, hd⟩, _⟩ := st
    have z : b = e ∨ b = it := by simpa using hb
    rcases z with rfl | rfl
    · exact ⟨_, he, fun v q => nomatch q⟩
    · exact ⟨o, ho, fun v q => by rw [hd] at q; cases q⟩
  keep := fun i h h' st k => let ⟨⟨old, he⟩, hi, hne⟩ := st; ⟨⟨old, k e (by simp) _ he⟩, hi.at fun o q => k it (by simp) o q, hne⟩
  item := by
    intro X hP hw hK hc i pins s σ H E I hf st hg
    subst hP hw hK
    obtain ⟨⟨old, he⟩, hit, hne, hea, hai⟩ := st
    obtain ⟨xs, x, hq, hx⟩ := hg
    obtain ⟨its, rv, p, hz⟩ := I.tuple hq
    obtain ⟨u, hu, ru⟩ := rv.get hx
    have lt1 : e < s.heap.objs.size := Heap.lt_size he
    have lt2 : it < s.heap.objs.size := by obtain ⟨_, q, _⟩ := hit; exact Heap.lt_size q
    have DD := Draws.tuple (prog := X.prog) (w := X.w) (A := X.A.in1) (I.ok.hd hc) it a hai its.toArray
    have hi : i < its.toArray.size := by
      have := (List.getElem?_eq_some_iff.mp hu).1
      simpa using this
    refine wpAny_pyNext_enum_itemD DD he ⟨hit, p⟩ hi hne (by simp; exact ⟨hne, hea⟩) fun y h' tk hy ho hit' hT hsz hk => ?_
    have ey : u = y := by
      have hy' : its[i]? = some y := by simpa using hy
      rw [hu] at hy'
      exact Option.some.inj hy'
    subst ey
    refine ⟨_, rfl, wpAny_letOwnedTupleGo_enum (s := { s with heap := h', toks := tk + 1 }) ho fun h2 he2 sb => ?_⟩
    have hT2 : h2.get? s.heap.objs.size = some { cls := .type "tuple", data := .seq #[.int i tk, u] } := (sb.2 _ (Nat.ne_of_gt lt1)).trans hT
    have new : ObjOk X.prog X.w (upd H s.heap.objs.size (.tup [.int (i : Nat), x])) h2 s.heap.objs.size (.tup [.int (i : Nat), x]) :=
      ⟨(by show 2 ≤ sizeLine; decide), [.int i tk, u], .cons ⟨_, rfl⟩ (.cons ru .nil), ⟨_, hT2, rfl, _, rfl⟩⟩
    have I1 : Inv X pins σ (upd H s.heap.objs.size (.tup [.int (i : Nat), x])) { s with heap := h2, toks := tk + 1 } :=
      I.turnedNew (ch := [e, it]) (fun b ob hb q => (sb.2 b (fun z => hb (by simp [z]))).trans (hk b ob (fun z => hb (by simp [z])) (fun z => hb (by simp [z])) q)) hf (Nat.le_refl _) new
    refine ⟨.ref s.heap.objs.size, _, I1, rfl, ⟨_, x, rfl, I.hok.fresh (Nat.le_refl _), rfl, fun ys hy => by rw [I.tuple_inj hy hq]; exact hx⟩, ⟨⟨u, ?_⟩, hit'.1.at fun o q => (sb.2 it (Ne.symm hne)).trans q, hne, hea, hai⟩, fun b hb => ?_⟩
    · rw [show ((i + 1 : Nat) : Int) = (i : Int) + 1 from by omega]
      exact he2
    · have z : b = e ∨ b = it := by simpa using hb
      have lb : b < s.heap.objs.size := by rcases z with rfl | rfl <;> assumption
      rw [upd_ne (Nat.ne_of_lt lb)]
      exact (hf b hb).1
  done := by
    intro X hP hw hK hc i pins s σ H E I hf st hg
    subst hP hw hK
    obtain ⟨⟨old, he⟩, hit, hne, hea, hai⟩ := st
    obtain ⟨xs, hq, hx⟩ := hg
    obtain ⟨its, rv, p, hz⟩ := I.tuple hq
    obtain ⟨f0, f1, f2, f3, f4, f5⟩ := hf it (by simp)
    have hl : its.toArray.size = i := by rw [List.size_toArray, ← rv.length]; exact hx
    have DD := Draws.tuple (prog := X.prog) (w := X.w) (A := X.A.in1) (I.ok.hd hc) it a hai its.toArray
    rw [hl] at DD
    exact wpAny_pyNext_enum_endD DD he ⟨hit, p⟩ fun h' eb => ⟨rfl, I.turned (t' := s.toks) (fun b o hb q => eb b o hb q) f0 f1 f3 f4 f5⟩
  self := fun A i s Q E st h => let ⟨⟨_, he⟩, _⟩ := st; wpAny_pyIter_enum he h
/-- enumerate of a list or a tuple -/
def iEnumA (K : PySem.W.Frag) (ta : TA) : TI := fun σ H R => ta σ H fun vs H1 => ∃ a, vs = [.ref a] ∧ ((∃ xs, SqL K H1 a xs ∧ R (Ite K a) H1) ∨ (∃ xs, SqT K H1 a xs ∧ R (IteT K a) H1))
theorem pi_enumA {X : Cx} {e : Expr} {ta : TA} {p pos tpos : Pos} {elts : List Expr} {kk : Nat} (hg : Gl X "enumerate") (hm : X.mg "enumerate" = none) (ha : PA X [e] ta) (hs : starEach [e] X.env = [(false, eval e X.env)]) :
    PI X (.Tuple elts kk tpos) (.Call (.Name "enumerate" p) [e] [] pos) (iEnumA X.K ta) := by
  refine ⟨fun pins s σ H R I h => PyProof.Rows.Call_ (ld_blt I hg hm PyProof.Rows.boot_enumerate (PyProof.Rows.callWith_type1 (thn (ha.run pos pins s σ H _ I h) fun us s1 ⟨vs, H1, I1, r1, q1⟩ => ?_) hs rfl))⟩
  obtain ⟨a, rfl, q1⟩ := q1
  obtain rfl := r1.ref1
  have hle : ∀ b, b ∈ [s1.heap.objs.size + 1, s1.heap.objs.size] → FpOk X pins H1 b := fun b hb => by
    have z : b = s1.heap.objs.size + 1 ∨ b = s1.heap.objs.size := by simpa using hb
    have l : s1.heap.objs.size ≤ b := by rcases z with rfl | rfl; exact Nat.le_succ _; exact Nat.le_refl _
    exact I1.fpOk l (I1.hok.fresh l)
  rcases q1 with ⟨xs, hq, q⟩ | ⟨xs, hq, q⟩
  · obtain ⟨its, rv, p', hz⟩ := I1.list hq
    refine call_enum1 (begins_list a its.toArray) p'.isList fun h' he ho hk => wpAny_pyIter_enum he ?_
    exact ⟨s1.heap.objs.size + 1, _, _, _, H1, rfl, I1.kept (t' := s1.toks) hk, turn_enum a (s1.heap.objs.size + 1) s1.heap.objs.size, ⟨⟨.none, he⟩, ⟨_, ho, rfl, rfl⟩, Nat.succ_ne_self _⟩, hle, q⟩
  · obtain ⟨its, rv, p', hz⟩ := I1.tuple hq
    have la : a < s1.heap.objs.size := p'.lt
    refine call_enum1 (begins_tuple a its.toArray) p' fun h' he ho hk => wpAny_pyIter_enum he ?_
    exact ⟨s1.heap.objs.size + 1, _, _, _, H1, rfl, I1.kept (t' := s1.toks) hk, turn_enumT a (s1.heap.objs.size + 1) s1.heap.objs.size,
      ⟨⟨.none, he⟩, ⟨_, ho, rfl, rfl⟩, Nat.succ_ne_self _, Nat.ne_of_gt (Nat.lt_succ_of_lt la), Nat.ne_of_lt la⟩, hle, q⟩
theorem walkD_enumT {K : KW} {a : Addr} {xs : List D} {vs : List V} : WalkD K (IteT K a) (numbered 0 xs) (fun _ => True) (fun H => SqT K H a vs ∧ RDs K H xs vs) where
  mono := fun _ _ m g => ⟨m.tup _ _ g.1, g.2.mono m⟩
  goes := fun i h H hi _ _ g => by
    rw [numbered_length] at hi
    obtain ⟨v, e, _⟩ := g.2.getX hi
    exact ⟨vs, v, g.1, e⟩
  stops := fun h H _ _ g => ⟨vs, g.1, by rw [numbered_length, g.2.length]⟩
  yields := fun i h H x H' hi rh _ g y => by
    obtain ⟨p, w, rfl, np, rfl, y⟩ := y
    obtain ⟨d, e, q⟩ := g.2.get' (y vs g.1)
    exact ⟨_, by rw [numbered_get, e]; rfl, .newT np (.cons (by rw [Nat.zero_add]; exact .int _) (.cons q .nil)), rh.newT np, .newT np⟩
theorem lift_iEnum {K : KW} {B : Bs} {ta : TEd} {σ : L2.St} {H : Hp} {R : It → Hp → Prop} (q : liftI K B (fun s h Rd => ta s h fun x h1 => itD .enum x h1 fun items inv => Rd items inv h1) σ H R) : iEnumA K (liftA K B ta) σ H R := by
  obtain ⟨sd, h, Rd, n, t, k⟩ := q
  refine ⟨sd, h, _, n, t, fun ds h1 vs H1 q r rh fr => ?_⟩
  match ds, q with
  | [.ref p], q =>
    obtain ⟨v, rfl, r1⟩ := r.one
    cases r1
    obtain ⟨xs, l, q⟩ := q
    obtain ⟨ws, s, _⟩ := rh.sq l
    exact ⟨p, rfl, .inl ⟨ws, s, k _ _ _ _ _ _ q rh fr walkD_enum trivial⟩⟩
  | [.tup xs], q =>
    obtain ⟨v, rfl, r1⟩ := r.one
    cases r1 with | tup s r2 => exact ⟨_, rfl, .inr ⟨_, s, k _ _ _ _ _ _ q rh fr walkD_enumT ⟨s, r2⟩⟩⟩
end DL
namespace DL
open PySem PySem.Spec L2

/-! ## 5. The given text is the inner form: a check by computation -/
structure Tab where
  /-- the defs that may be called, the module's constants, the names that are still the built-ins -/
  fn : List (Str × Nat)
  gl : List (Str × Nat)
  free : List Str
  ps : Nat → List Str
  cs : Nat → D
  sh : List (Nat × Nat × List Str × List Nat)
structure CEnv where
  N : List Str
  nm : List (Str × NameKind)
inductive Nd where
  | e (x : Expr) | t (x : Expr) | w (op : PySem.BoolOp) (xs : List Expr) | a (xs : List Expr) | k (kws : List Keyword) | sa (xs : List Expr)

def plainNm (x : Str) : Bool := !(x == ("__debug__" : Str)) && !(x == ("__classdict__" : Str)) && !(x == ("__name__" : Str))
def visB (C : CEnv) (x : Str) : Bool := match C.nm.lookup x with
  | some .local => true
  | some .cell => true
  | some .free => true
  | _ => false
def locB (C : CEnv) (x : Str) : Bool := match C.nm.lookup x with
  | some .local => true
  | some .cell => true
  | _ => false
def glB (C : CEnv) (x : Str) : Bool := match C.nm.lookup x with
  | some .globalImplicit => true
  | _ => false
def cstB (d : D) (c : Const) : Bool := match d with
  | .non => match c with
    | .none => true
    | _ => false
  | .bl b => match c with
    | .bool b' => decide (b = b')
    | _ => false
  | .int i => match c with
    | .int j => decide (i = j)
    | _ => false
  | .str x => match c with
    | .str y => decide (x = y)
    | _ => false
  | _ => false
def isStar : Expr → Bool
  | .Starred .. => true
  | _ => false
def isSlc : Expr → Bool
  | .Slice .. => true
  | _ => false
def isSetD : Expr → Bool
  | .Set .. => true
  | _ => false
def isComp : Expr → Bool
  | .ListComp .. => true
  | .SetComp .. => true
  | .DictComp .. => true
  | _ => false
def truthB : Expr → Bool
  | .Name .. => true
  | .Call .. => true
  | .Subscript .. => true
  | .Attribute .. => true
  | .BinOp .. => true
  | .Constant .. => true
  | _ => false
def noSup : Expr → Bool
  | .Call (.Name _ _) [] [] _ => false
  | _ => true
def tyNmS : Ty → Str
  | .int => "int" | .bool => "bool" | .str => "str" | .tuple => "tuple" | .list => "list" | .none => "NoneType" | .dict => "dict"
def bltN : Blt → Str
  | .len => "len" | .int => "int" | .abs => "abs" | .min => "min" | .max => "max" | .list => "list" | .tuple => "tuple" | .sum => "sum" | .any => "any" | .all => "all" | .str => "str" | .ord => "ord" | .sorted => "sorted" | .set => "set" | .range => "range"
def mthN : Mth → Str
  | .append => "append" | .pop => "pop" | .extend => "extend" | .get => "get" | .popAt => "pop" | .insert => "insert" | .setdef => "setdefault" | .clear => "clear"
def tSlots : T → List Nat
  | .name i => [i]
  | .tup ts => tSlots ts
  | .nil => []
  | .cons t ts => tSlots t ++ tSlots ts
/-- targets: of one expression, of several -/
def chkT : T → CEnv → List Expr → Bool → Bool
  | .name i, C, xs, false => match xs with
    | [.Name x _] => decide (C.N[i]? = some x) && locB C x
    | _ => false
  | .tup ts, C, xs, false => match xs with
    | [.Tuple es _ _] => chkT ts C es true
    | _ => false
  | .nil, _, xs, true => xs.isEmpty
  | .cons t ts, C, xs, true => match xs with
    | e :: es => !isStar e && chkT t C [e] false && chkT ts C es true
    | _ => false
  | _, _, _, _ => false
def tupTg : Expr → Bool
  | .Tuple .. => true
  | _ => false
/-- what is walked: the node that the source is held against -/
def itNode (T : Tab) (C : CEnv) (k : ItK) (tg x : Expr) : Option Nd := match k with
  | .val => if isSetD x then none else some (.e x)
  | .range1 => match x with
    | .Call (.Name f _) [a] [] _ => if decide (f = "range") && glB C f && decide (f ∈ T.free) && !isStar a then some (.a [a]) else none
    | _ => none
  | .range2 => match x with
    | .Call (.Name f _) [a, b] [] _ => if decide (f = "range") && glB C f && decide (f ∈ T.free) && !isStar a && !isStar b then some (.a [a, b]) else none
    | _ => none
  | .enum => match x with
    | .Call (.Name f _) [a] [] _ => if decide (f = "enumerate") && glB C f && decide (f ∈ T.free) && !isStar a && tupTg tg then some (.a [a]) else none
    | _ => none
  | .zip => match x with
    | .Call (.Name f _) [a, b] [] _ => if decide (f = "zip") && glB C f && decide (f ∈ T.free) && !isStar a && !isStar b && tupTg tg then some (.a [a, b]) else none
    | _ => none
  | .items => match x with
    | .Call (.Attribute y nm ap) [] [] cp => if decide (nm = "items") && noSup y && (ap.endLine == cp.line) && tupTg tg then some (.e y) else none
    | _ => none
  | .vals => match x with
    | .Call (.Attribute y nm ap) [] [] cp => if decide (nm = "values") && noSup y && (ap.endLine == cp.line) then some (.e y) else none
    | _ => none
def chkO (chkE : Nd → Bool) (b : Bool) (x : Option Expr) (ab : Bool) : Bool := match b with
  | false => x.isNone && ab
  | true => match x with
    | some e => chkE (.e e)
    | none => false
def isAbs : E → Bool
  | .absent => true
  | _ => false
def isTrueC : E → Bool
  | .cst (.bl true) => true
  | _ => false
def shOk (T : Tab) (f n : Nat) (ks : List Str) (π : List Nat) : Bool := decide ((f, n, ks, π) ∈ T.sh)

def chk (T : Tab) : E → CEnv → Nd → Bool
  | .var i, C, n => match n with
    | .e (.Name x _) => decide (C.N[i]? = some x) && visB C x && plainNm x
    | _ => false
  | .cst d, _, n => match n with
    | .e (.Constant c _ _) => cstB d c
    | _ => false
  | .glb j, C, n => match n with
    | .e (.Name x _) => decide (T.gl.lookup x = some j) && glB C x && plainNm x
    | _ => false
  | .bin op a b, C, n => match n with
    | .e (.BinOp l o r _) => decide (op = o) && chk T a C (.e l) && chk T b C (.e r)
    | _ => false
  | .neg a, C, n => match n with
    | .e (.UnaryOp .USub l _) => chk T a C (.e l)
    | _ => false
  | .cmp op a b, C, n => match n with
    | .e (.Compare l [o] [r] _) => decide (op = o) && !behindInMarks op r && chk T a C (.e l) && chk T b C (.e r)
    | .t (.Compare l [o] [r] _) => decide (op = o) && !behindInMarks op r && chk T a C (.e l) && chk T b C (.e r)
    | _ => false
  | .cmp2 op op' a b c, C, n => match n with
    | .e (.Compare l [o, o'] [r, r'] _) => decide (op = o) && decide (op' = o') && !behindInMarks op' r' && chk T a C (.e l) && chk T b C (.e r) && chk T c C (.e r')
    | .t (.Compare l [o, o'] [r, r'] _) => decide (op = o) && decide (op' = o') && !behindInMarks op' r' && chk T a C (.e l) && chk T b C (.e r) && chk T c C (.e r')
    | _ => false
  | .dnew _, _, n => match n with
    | .e (.Dict [] [] _) => true
    | _ => false
  | .dmk _ k v, C, n => match n with
    | .e (.Dict [some x] [y] _) => chk T k C (.e x) && chk T v C (.e y)
    | _ => false
  | .truth a, C, n => match n with
    | .t x => truthB x && chk T a C (.e x)
    | _ => false
  | .notB a, C, n => match n with
    | .t (.UnaryOp .Not x _) => chk T a C (.t x)
    | _ => false
  | .andB a b, C, n => match n with
    | .t (.BoolOp .And [x, y] _) => chk T a C (.t x) && chk T b C (.t y)
    | .t (.BoolOp .And (x :: y :: z :: r) _) => chk T a C (.t x) && chk T b C (.w .And (y :: z :: r))
    | .w .And [x, y] => chk T a C (.t x) && chk T b C (.t y)
    | .w .And (x :: y :: z :: r) => chk T a C (.t x) && chk T b C (.w .And (y :: z :: r))
    | _ => false
  | .orB a b, C, n => match n with
    | .t (.BoolOp .Or [x, y] _) => chk T a C (.t x) && chk T b C (.t y)
    | .t (.BoolOp .Or (x :: y :: z :: r) _) => chk T a C (.t x) && chk T b C (.w .Or (y :: z :: r))
    | .w .Or [x, y] => chk T a C (.t x) && chk T b C (.t y)
    | .w .Or (x :: y :: z :: r) => chk T a C (.t x) && chk T b C (.w .Or (y :: z :: r))
    | _ => false
  | .notV a, C, n => match n with
    | .e (.UnaryOp .Not x _) => chk T a C (.e x)
    | _ => false
  | .andV a b, C, n => match n with
    | .e (.BoolOp .And [x, y] _) => chk T a C (.e x) && chk T b C (.e y)
    | .e (.BoolOp .And (x :: y :: z :: r) p) => chk T a C (.e x) && chk T b C (.e (.BoolOp .And (y :: z :: r) p))
    | _ => false
  | .orV a b, C, n => match n with
    | .e (.BoolOp .Or [x, y] _) => chk T a C (.e x) && chk T b C (.e y)
    | .e (.BoolOp .Or (x :: y :: z :: r) p) => chk T a C (.e x) && chk T b C (.e (.BoolOp .Or (y :: z :: r) p))
    | _ => false
  | .ife c a b, C, n => match n with
    | .e (.IfExp t x y _) => chk T c C (.t t) && chk T a C (.e x) && chk T b C (.e y)
    | _ => false
  | .tup es, C, n => match n with
    | .e (.Tuple xs _ _) => chk T es C (.a xs)
    | _ => false
  | .lst es, C, n => match n with
    | .e (.List xs _) => chk T es C (.a xs) || chk T es C (.sa xs)
    | _ => false
  | .nil, _, n => match n with
    | .a [] => true
    | .k [] => true
    | _ => false
  | .cons e es, C, n => match n with
    | .a (x :: xs) => !isStar x && chk T e C (.e x) && chk T es C (.a xs)
    | .k (⟨_, x, _⟩ :: xs) => chk T e C (.e x) && chk T es C (.k xs)
    | _ => false
  | .sub a i, C, n => match n with
    | .e (.Subscript x y _) => !isSlc y && chk T a C (.e x) && chk T i C (.e y)
    | _ => false
  | .slice bl bh a lo hi, C, n => match n with
    | .e (.Subscript x (.Slice l u none _) _) => chk T a C (.e x) && chkO (fun n => chk T lo C n) bl l (isAbs lo) && chkO (fun n => chk T hi C n) bh u (isAbs hi)
    | _ => false
  | .absent, _, _ => false
  | .rev a, C, n => match n with
    | .e (.Subscript x (.Slice none none (some (.UnaryOp .USub (.Constant (.int 1) _ _) _)) _) _) => chk T a C (.e x)
    | _ => false
  | .sset a, C, n => match n with
    | .e (.Call (.Name f _) [.Call (.Name g _) [x] [] _] [] _) => decide (f = "sorted") && decide (g = "set") && glB C f && glB C g && decide (f ∈ T.free) && decide (g ∈ T.free) && !isStar x && chk T a C (.e x)
    | _ => false
  | .lset a, C, n => match n with
    | .e (.Call (.Name f _) [.Call (.Name g _) [x] [] _] [] _) => decide (f = "len") && decide (g = "set") && glB C f && glB C g && decide (f ∈ T.free) && decide (g ∈ T.free) && !isStar x && chk T a C (.e x)
    | _ => false
  | .snil, _, n => match n with
    | .sa [] => true
    | _ => false
  | .scons b e es, C, n => match n with
    | .sa (.Starred x _ :: xs) => b && chk T e C (.e x) && chk T es C (.sa xs)
    | .sa (x :: xs) => !b && !isStar x && chk T e C (.e x) && chk T es C (.sa xs)
    | _ => false
  | .call f es, C, n => match n with
    | .e (.Call (.Name x _) args [] _) => decide (T.fn.lookup x = some f) && glB C x && plainNm x && chk T es C (.a args)
    | _ => false
  | .callK f m ks π es kes, C, n => match n with
    | .e (.Call (.Name x _) args kws _) => decide (T.fn.lookup x = some f) && glB C x && plainNm x && decide (args.length = m) && decide (kws.map (·.arg) = ks.map some) && decide (kws.length = ks.length) && shOk T f m ks π && chk T es C (.a args) && chk T kes C (.k kws)
    | _ => false
  | .blt b es, C, n => match n with
    | .e (.Call (.Name x _) (a :: as) [] _) => decide (x = bltN b) && glB C x && decide (x ∈ T.free) && chk T es C (.a (a :: as))
    | _ => false
  | .isi t a, C, n => match n with
    | .e (.Call (.Name x _) [y, .Name z _] [] _) => decide (x = "isinstance") && decide (z = tyNmS t) && glB C x && glB C z && decide (x ∈ T.free) && decide (z ∈ T.free) && decide (t ≠ .none) && !isStar y && chk T a C (.e y)
    | _ => false
  | .mth m o es, C, n => match n with
    | .e (.Call (.Attribute x nm ap) args [] cp) => decide (nm = mthN m) && noSup x && (ap.endLine == cp.line) && decide (args.length < 20) && (match m with | .pop => args.isEmpty | .clear => args.isEmpty | _ => !args.isEmpty) && chk T o C (.e x) && chk T es C (.a args)
    | _ => false
  | .lc tg k src c elt own, C, n => match n with
    | .e (.ListComp x [⟨t, it, ifs, 0⟩] sc _) => blkC C.N { kind := .function, names := C.nm, isGenerator := false, isCoroutine := false } sc own && decide (∀ i ∈ tSlots tg, i ∈ own.map (·.2)) &&
        chkT tg ⟨C.N, sc.names⟩ [t] false && !isSetD it && (match itNode T C k t it with | some nd => chk T src C nd | none => false) &&
        (match ifs with | [] => isTrueC c | [y] => chk T c ⟨C.N, sc.names⟩ (.t y) | _ => false) && chk T elt ⟨C.N, sc.names⟩ (.e x)
    | _ => false
  | .dc _ tg k src c ke ve own, C, n => match n with
    | .e (.DictComp x y [⟨t, it, ifs, 0⟩] sc _) => blkC C.N { kind := .function, names := C.nm, isGenerator := false, isCoroutine := false } sc own && decide (∀ i ∈ tSlots tg, i ∈ own.map (·.2)) &&
        chkT tg ⟨C.N, sc.names⟩ [t] false && !isSetD it && (match itNode T C k t it with | some nd => chk T src C nd | none => false) &&
        (match ifs with | [] => isTrueC c | [y] => chk T c ⟨C.N, sc.names⟩ (.t y) | _ => false) && chk T ke ⟨C.N, sc.names⟩ (.e x) && chk T ve ⟨C.N, sc.names⟩ (.e y)
    | _ => false
  | .dc2 _ tg k src c tg1 k1 src1 c1 ke ve own own1, C, n => match n with
    | .e (.DictComp x y [g0, g1] sc _) => blkC C.N { kind := .function, names := C.nm, isGenerator := false, isCoroutine := false } sc own && decide (∀ i ∈ tSlots tg, i ∈ own.map (·.2)) && decide (∀ i ∈ tSlots tg1, i ∈ own1.map (·.2)) && decide (∀ i ∈ own1.map (·.2), i ∈ own.map (·.2)) &&
        chkT tg ⟨C.N, sc.names⟩ [g0.target] false && chkT tg1 ⟨C.N, sc.names⟩ [g1.target] false && !isSetD g0.iter && !isSetD g1.iter && ((itNode T C k g0.target g0.iter).isSome && chk T src C ((itNode T C k g0.target g0.iter).getD (.a []))) && ((itNode T ⟨C.N, sc.names⟩ k1 g1.target g1.iter).isSome && chk T src1 ⟨C.N, sc.names⟩ ((itNode T ⟨C.N, sc.names⟩ k1 g1.target g1.iter).getD (.a []))) &&
        (g0.ifs.isEmpty && isTrueC c) && (decide (g1.ifs.length = 1) && chk T c1 ⟨C.N, sc.names⟩ (.t (g1.ifs.headD y))) && chk T ke ⟨C.N, sc.names⟩ (.e x) && chk T ve ⟨C.N, sc.names⟩ (.e y) && (g0.is_async == 0 && g1.is_async == 0)
    | _ => false
end DL
namespace DL
open PySem PySem.Spec L2

/-! ## 6. The check is enough: expressions -/
def liftSp (K : KW) (c : Ct) : Sp := fun vs H Q E => ∃ ds h Qd Ed, RDs K H ds vs ∧ RH K H h ∧ c ds h Qd Ed ∧
  (∀ d h' v H', Qd d h' → Post K h H d h' v H' → Q v H') ∧ ∀ c od h' H', Ed c od h' → RH K H' h' → Frm h H h' H' → E c od H'
def liftX (K : KW) (B : Bs) (Ed : XD) : XK := fun c od H' => ∃ h', Ed c od h' ∧ RH K H' h' ∧ Frm B.1 B.2 h' H'
structure FnAt (T : Tab) (Φ : Nat → Ct) (CX : CXT) (k : Nat) (X : Cx) (x : Str) (f : Nat) : Prop where
  ex : ∃ (fa : Addr) (fd : FuncData), X.mg x = some (.ref fa) ∧ PySem.W.keepIn X.kw (.ref fa) = true ∧ FnOk X.prog X.w X.kw X.mg X.base CX k fa fd (T.ps f) (liftSp X.kw (Φ f)) ∧ Binds X.kw fd (T.ps f) [] ∧
    ∀ n ks π, (f, n, ks, π) ∈ T.sh → KBn X.kw fd (T.ps f) n ks (fun us ws => permL π (us ++ ws)) (fun vs zs => permL π (vs ++ zs))
/-- no exception comes where none is let out -/
def CXno (CX : CXT) : Prop := ∀ outer H s (E : XK) e s', (∀ c od H', ¬ E c od H') → ¬ CX outer H s E e s'
structure XOk (T : Tab) (Φ : Nat → Ct) (CX : CXT) (k : Nat) (B : Bs) (Ed : XD) (C : CEnv) (X : Cx) : Prop where
  N : X.N = C.N
  nd : C.N.Nodup
  calm : X.calm = true
  room : Room k X.A
  rel : ∀ x y, C.nm.lookup x = some y → X.env.scope.names.lookup x = some y ∨ (y = .free ∧ X.env.scope.names.lookup x = some .cell)
  fnc : ∀ x, C.nm.lookup x = some .cell → X.fn x = true
  free : ∀ x ∈ T.free, X.mg x = none
  cst : ∀ x j, T.gl.lookup x = some j → ∃ u v, X.mg x = some u ∧ RelV v u ∧ ∀ H, RD X.kw H (T.cs j) v
  fns : ∀ x f, T.fn.lookup x = some f → FnAt T Φ CX k X x f
  pass : Passes CX X (liftX X.kw B Ed)
  own : PassesOwn (model X.prog X.w) X.A X.env X.xe
  cx : CXno CX
variable {T : Tab} {Φ : Nat → Ct} {CX : CXT} {k : Nat} {B : Bs} {Ed : XD} {C : CEnv} {X : Cx}
theorem XOk.vis (o : XOk T Φ CX k B Ed C X) {x : Str} (h : visB C x = true) : Vis X.env.scope x := by
  unfold visB at h
  split at h
  · rename_i e; rcases o.rel _ _ e with r | r
    · exact .inl r
    · exact .inr (.inl r.2)
  · rename_i e; rcases o.rel _ _ e with r | r
    · exact .inr (.inl r)
    · exact .inr (.inl r.2)
  · rename_i e; rcases o.rel _ _ e with r | r
    · exact .inr (.inr r)
    · exact .inr (.inl r.2)
  · cases h
theorem XOk.loc (o : XOk T Φ CX k B Ed C X) {x : Str} (h : locB C x = true) : Loc X.env.scope x ∧ (X.fn x = true ∨ X.env.scope.names.lookup x = some .local) := by
  unfold locB at h
  split at h
  · rename_i e; rcases o.rel _ _ e with r | r
    · exact ⟨.inl r, .inr r⟩
    · cases r.1
  · rename_i e; rcases o.rel _ _ e with r | r
    · exact ⟨.inr r, .inl (o.fnc _ e)⟩
    · cases r.1
  · cases h
theorem XOk.gl (o : XOk T Φ CX k B Ed C X) {x : Str} (h : glB C x = true) : Gl X x := by
  unfold glB at h
  split at h
  · rename_i e; rcases o.rel _ _ e with r | r
    · exact r
    · cases r.1
  · cases h
theorem plain3 {x : Str} (h : plainNm x = true) : (x == ("__debug__" : Str)) = false ∧ (x == ("__classdict__" : Str)) = false := by
  unfold plainNm at h
  simp only [Bool.and_eq_true, Bool.not_eq_true'] at h
  exact ⟨h.1.1, h.1.2⟩
theorem cstB_ok {d : D} {c : Const} {j : Nat} {pos : Pos} (h : cstB d c = true) : PE X (.Constant c j pos) (lift X.kw B fun _ h Q => Q d h) := by
  have fin : ∀ {v : V}, (∀ H, RD X.kw H d v) → PE X (.Constant c j pos) (tC v) → PE X (.Constant c j pos) (lift X.kw B fun _ h Q => Q d h) := fun {v} r p =>
    PE.imp p fun σ H Q ⟨sd, h, Qd, n, t, k⟩ => k _ _ _ _ t ⟨r H, n.rh, .refl _ _⟩
  cases d with
  | non => cases c <;> first | exact fin (fun _ => .non) pe_non | (exact absurd h Bool.false_ne_true)
  | bl b =>
    cases c with
    | bool b' => have e : b = b' := of_decide_eq_true h; subst e; exact fin (fun _ => .bl b) pe_bl
    | _ => exact absurd h Bool.false_ne_true
  | int i =>
    cases c with
    | int b' => have e : i = b' := of_decide_eq_true h; subst e; exact fin (fun _ => .int i) pe_int
    | _ => exact absurd h Bool.false_ne_true
  | str i =>
    cases c with
    | str b' => have e : i = b' := of_decide_eq_true h; subst e; exact fin (fun _ => .str i) pe_str
    | _ => exact absurd h Bool.false_ne_true
  | _ => exact absurd h Bool.false_ne_true
theorem starEach_cons {e : Expr} {es : List Expr} {env : Env} (h : isStar e = false) : starEach (e :: es) env = (false, eval e env) :: starEach es env := by
  cases e <;> first | rfl | (exact nomatch h)
theorem starEach_no {env : Env} {pos : Pos} : ∀ {es : List Expr}, (es.all fun e => !isStar e) = true → (backTo pos (starEach es env)).any (·.1) = false
  | [], _ => rfl
  | e :: es, h => by
    rw [List.all_cons, Bool.and_eq_true] at h
    rw [starEach_cons (by simpa using h.1)]
    show (false || (backTo pos (starEach es env)).any (·.1)) = false
    rw [starEach_no h.2]; rfl
theorem chk_stars : ∀ (ir : E) (C : CEnv) (xs : List Expr), chk T ir C (.a xs) = true → (xs.all fun e => !isStar e) = true := by
  intro ir
  induction ir with
  | nil => intro C xs h; cases xs with
    | nil => rfl
    | cons x xs => simp [chk] at h
  | cons e es ih1 ih2 =>
    intro C xs h
    cases xs with
    | nil => simp [chk] at h
    | cons x xs =>
      simp only [chk, Bool.and_eq_true] at h
      rw [List.all_cons, h.1.1, ih2 C xs h.2]; rfl
  | _ => intros; simp_all [chk]
theorem slc_plain {y : Expr} (h : isSlc y = false) : PlainIx y := by
  cases y <;> first | (exact fun _ _ => rfl) | (exact nomatch h)
theorem truthB_ok {x : Expr} {env : Env} (h : truthB x = true) : ∀ whole, isTrue x env whole = (do let v ← whole; standAt x.pos; holding [v] (truthy v)) := by
  cases x <;> first | (exact fun _ => rfl) | (exact nomatch h)
theorem set_fold {x : Expr} {env : Env} (h : isSetD x = false) : ∀ v, foldedSetIterable x env v = pure v := by
  cases x <;> first | (exact fun _ => rfl) | (exact nomatch h)
theorem noSup_ok {x : Expr} {m : Str} {env : Env} {t : Sem Value} (h : noSup x = true) : attributeBase x m env t = t := by
  cases x with
  | Call f args kws pos =>
    cases f with
    | Name id p =>
      cases args with
      | nil =>
        cases kws with
        | nil => exact nomatch h
        | cons => rfl
      | cons => rfl
    | _ => rfl
  | _ => rfl
theorem permL_vals {π : List Nat} {vs : List V} {us : List Value} (r : Vals vs us) : Vals (permL π vs) (permL π us) := by
  unfold permL
  induction π with
  | nil => exact .nil
  | cons i π ih =>
    cases e : vs[i]? with
    | none =>
      have e' := r.none_of e
      rw [List.filterMap_cons_none e, List.filterMap_cons_none e']
      exact ih
    | some v =>
      obtain ⟨u, e', q⟩ := r.get e
      rw [List.filterMap_cons_some e, List.filterMap_cons_some e']
      exact .cons q ih
theorem permL_RDs {H : Hp} {π : List Nat} {ds : List D} {vs : List V} (r : RDs K H ds vs) : RDs K H (permL π ds) (permL π vs) := by
  unfold permL
  induction π with
  | nil => exact .nil
  | cons i π ih =>
    cases e : ds[i]? with
    | none =>
      have e' : vs[i]? = none := by
        rw [List.getElem?_eq_none_iff] at e ⊢
        rw [← r.length]; exact e
      rw [List.filterMap_cons_none e, List.filterMap_cons_none e']
      exact ih
    | some v =>
      obtain ⟨u, e', q⟩ := r.get e
      rw [List.filterMap_cons_some e, List.filterMap_cons_some e']
      exact .cons q ih
/-- f(k = v, ..): keywords alone -/
theorem pe_callN0 {kk : Nat} {f : Addr} {fd : FuncData} {ps ks : List Str} {sp : Sp} {E : XK} {x : Str} {p pos : Pos} {kws : List Keyword} {tk : TA} {g : List Value → List Value → List Value} {gV : List V → List V → List V}
    (F : FnOk X.prog X.w X.kw X.mg X.base CX kk f fd ps sp) (hr : Room kk X.A) (hg : Gl X x) (hm : X.mg x = some (.ref f)) (hk : PySem.W.keepIn X.kw (.ref f) = true) (hb : KBn X.kw fd ps 0 ks g gV) (hx : Passes CX X E) (hkw : PK X kws tk)
    (hall : (backToKw pos (keywordEach kws X.env)).all (·.1.isSome) = true) (hks : (backToKw pos (keywordEach kws X.env)).filterMap (·.1) = ks) (hdb : (x == ("__debug__" : Str)) = false)
    (hpl : ((backTo pos (starEach [] X.env)).any (·.1) || (backToKw pos (keywordEach kws X.env)).any (·.1.isNone)) = false) :
    PE X (.Call (.Name x p) [] kws pos) (tCallN 0 ks.length sp gV E tNil tk) := by
  refine ⟨fun pins s σ H Q I h => wpAny_Call_Name_kw (ld_glob I hg hm (PySem.W.callWith_KW0 (h₀ := X.base) I.ok.mod.kin hk hall ?_ hpl) hdb)⟩
  refine thn (hkw.run pos pins s σ H _ I h) fun ws s2 ⟨zs, H2, I2, rz, l1, l2, q2⟩ => ⟨I2.kIn, ?_⟩
  rw [hks]
  exact run_fnN (us := []) (vs := []) F hr hb hx I2 .nil rz rfl l2 q2
theorem kw_facts {env : Env} {pos : Pos} : ∀ {kws : List Keyword} {ks : List Str}, kws.map (·.arg) = ks.map some →
    (backToKw pos (keywordEach kws env)).all (·.1.isSome) = true ∧ (backToKw pos (keywordEach kws env)).filterMap (·.1) = ks ∧ (backToKw pos (keywordEach kws env)).any (·.1.isNone) = false
  | [], [], _ => ⟨rfl, rfl, rfl⟩
  | [], k :: ks, h => by simp at h
  | _ :: _, [], h => by simp at h
  | ⟨nm, e, p⟩ :: kws, k :: ks, h => by
    simp only [List.map_cons, List.cons.injEq] at h
    obtain ⟨rfl, h⟩ := h
    obtain ⟨a, b, c⟩ := kw_facts (env := env) (pos := pos) h
    refine ⟨?_, ?_, ?_⟩
    · show (true && (backToKw pos (keywordEach kws env)).all (·.1.isSome)) = true
      rw [a]; rfl
    · show (k :: (backToKw pos (keywordEach kws env)).filterMap (·.1)) = k :: ks
      rw [b]
    · show (false || (backToKw pos (keywordEach kws env)).any (·.1.isNone)) = false
      rw [c]; rfl
end DL
namespace DL
open PySem PySem.Spec L2
variable {T : Tab} {Φ : Nat → Ct} {CX : CXT} {k : Nat} {B : Bs} {Ed : XD} {C : CEnv} {X : Cx} {K : KW}

/-! ### the readings of the parts, lifted -/
theorem lift_test {ta tb : TEd} {op : CmpOp} {σ : L2.St} {H : Hp} {Q : Bool → Hp → Prop} (q : liftT K B (fun s h Q => ta s h fun x h1 => tb s h1 fun y h2 => rdC op x y h2 Q) σ H Q) :
    tTest (tOp (liftR2 K (rdC op)) (lift K B ta) (lift K B tb)) σ H Q := by
  obtain ⟨sd, h, Qb, n, t, k⟩ := q
  refine lift_bin (rd := rdC op) ⟨sd, h, _, n, t, fun d h' v H' q p => ?_⟩
  obtain ⟨b, rfl, q⟩ := q
  obtain ⟨r, rh, fr⟩ := p
  cases r
  exact ⟨b, rfl, k b h' H' q rh fr⟩
theorem lift_chain {ta tb tc : TEd} {op op' : CmpOp} {σ : L2.St} {H : Hp} {Q : VK} (q : lift K B (fun s h Q => ta s h fun x h1 => tb s h1 fun y h2 => cmpD op x y h2 fun k => if k = true then tc s h2 fun z h3 => cmpD op' y z h3 fun k' => Q (.bl k') h3 else Q (.bl false) h2) σ H Q) :
    tChain (liftR2 K (rdC op)) (liftR2 K (rdC op')) (lift K B ta) (lift K B tb) (lift K B tc) σ H Q := by
  obtain ⟨sd, h, Qd, n, t, k⟩ := q
  refine ⟨sd, h, _, n, t, fun d1 h1 v1 H1 q1 p1 => ⟨sd, h1, _, n.after p1.rh p1.fr, q1, fun d2 h2 v2 H2 q2 p2 => ?_⟩⟩
  refine ⟨d1, d2, h2, fun d h' => h' = h2 ∧ ∃ b, d = .bl b ∧ (if b = true then tc sd h2 fun z h3 => cmpD op' d2 z h3 fun k' => Qd (.bl k') h3 else Qd (.bl false) h2), p1.rd.mono (Frm.tm p1.rh p2.fr), p2.rd, p2.rh, ?_, ?_⟩
  · have e : (fun kk : Bool => (h2 = h2 ∧ ∃ b, D.bl kk = .bl b ∧ (if b = true then tc sd h2 fun z h3 => cmpD op' d2 z h3 fun k' => Qd (.bl k') h3 else Qd (.bl false) h2))) =
        fun kk => if kk = true then tc sd h2 fun z h3 => cmpD op' d2 z h3 fun k' => Qd (.bl k') h3 else Qd (.bl false) h2 := by
      funext kk
      apply propext
      constructor
      · rintro ⟨_, b, e, q⟩; cases e; exact q
      · intro q; exact ⟨rfl, kk, rfl, q⟩
    show cmpD op d1 d2 h2 _
    rw [e]
    exact q2
  · rintro d h' v H' ⟨rfl, b, rfl, q⟩ p
    obtain ⟨r, rh, fr⟩ := p
    cases r
    refine ⟨b, rfl, ?_⟩
    have n2 := (n.after p1.rh p1.fr).after p2.rh p2.fr
    have n3 := n2.after rh fr
    cases b with
    | false => exact k _ _ _ _ q ⟨.bl _, rh, (p1.fr.trans p2.fr).trans fr⟩
    | true =>
      refine ⟨sd, h', _, n3, q, fun d3 h3 v3 H3 q3 p3 => ⟨d2, d3, h3, Qd, (p2.rd.mono (Frm.tm p2.rh fr)).mono (Frm.tm rh p3.fr), p3.rd, p3.rh, q3, fun d h' v H' q p => k _ _ _ _ q ⟨p.rd, p.rh, (((p1.fr.trans p2.fr).trans fr).trans p3.fr).trans p.fr⟩⟩⟩
theorem lift_chainT {ta tb tc : TEd} {op op' : CmpOp} {σ : L2.St} {H : Hp} {Q : Bool → Hp → Prop} (q : liftT K B (fun s h Q => ta s h fun x h1 => tb s h1 fun y h2 => cmpD op x y h2 fun k => if k = true then tc s h2 fun z h3 => cmpD op' y z h3 fun k' => Q (.bl k') h3 else Q (.bl false) h2) σ H Q) :
    tTest (tChain (liftR2 K (rdC op)) (liftR2 K (rdC op')) (lift K B ta) (lift K B tb) (lift K B tc)) σ H Q := by
  obtain ⟨sd, h, Qb, n, t, k⟩ := q
  refine lift_chain ⟨sd, h, fun d h' => ∃ b, d = D.bl b ∧ Qb b h', n, t, fun d h' v H' q p => ?_⟩
  obtain ⟨b, rfl, q⟩ := q
  obtain ⟨r, rh, fr⟩ := p
  cases r
  exact ⟨b, rfl, k b h' H' q rh fr⟩
theorem lift_truth {ta : TEd} {σ : L2.St} {H : Hp} {Q : Bool → Hp → Prop} (q : liftT K B (fun s h Q => ta s h fun x h1 => truD x h1 fun k => Q (.bl k) h1) σ H Q) :
    lift K B ta σ H fun x H' => ∃ k, TruV K x H' k ∧ Q k H' := by
  obtain ⟨sd, h, Qb, n, t, k⟩ := q
  refine ⟨sd, h, _, n, t, fun d h' v H' q p => ?_⟩
  obtain ⟨b, tv, b', e, q⟩ := tru_of p.rh p.rd q
  cases e
  exact ⟨b, tv, k b h' H' q p.rh p.fr⟩
theorem lift_notT {ta : TEd} {σ : L2.St} {H : Hp} {Q : Bool → Hp → Prop} (q : liftT K B (fun s h Q => ta s h fun x h1 => ∃ k, x = .bl k ∧ Q (.bl (!k)) h1) σ H Q) : tNot (liftT K B ta) σ H Q := by
  obtain ⟨sd, h, Qb, n, t, k⟩ := q
  refine ⟨sd, h, _, n, t, fun b h' H' q rh fr => ?_⟩
  obtain ⟨b', e, q⟩ := q
  cases e
  exact k _ h' H' q rh fr
theorem lift_andT {ta tb : TEd} {σ : L2.St} {H : Hp} {Q : Bool → Hp → Prop} (q : liftT K B (fun s h Q => ta s h fun x h1 => ∃ k, x = .bl k ∧ if k = true then tb s h1 Q else Q (.bl false) h1) σ H Q) : tAnd (liftT K B ta) (liftT K B tb) σ H Q := by
  obtain ⟨sd, h, Qb, n, t, k⟩ := q
  refine ⟨sd, h, _, n, t, fun b h' H' q rh fr => ?_⟩
  cases b with
  | true => exact ⟨sd, h', Qb, n.after rh fr, q, fun b h2 H2 q rh2 fr2 => k b h2 H2 q rh2 (fr.trans fr2)⟩
  | false =>
    obtain ⟨b', e, q⟩ := q
    cases e
    exact k _ h' H' q rh fr
theorem lift_orT {ta tb : TEd} {σ : L2.St} {H : Hp} {Q : Bool → Hp → Prop} (q : liftT K B (fun s h Q => ta s h fun x h1 => ∃ k, x = .bl k ∧ if k = true then Q (.bl true) h1 else tb s h1 Q) σ H Q) : tOr (liftT K B ta) (liftT K B tb) σ H Q := by
  obtain ⟨sd, h, Qb, n, t, k⟩ := q
  refine ⟨sd, h, _, n, t, fun b h' H' q rh fr => ?_⟩
  cases b with
  | false => exact ⟨sd, h', Qb, n.after rh fr, q, fun b h2 H2 q rh2 fr2 => k b h2 H2 q rh2 (fr.trans fr2)⟩
  | true =>
    obtain ⟨b', e, q⟩ := q
    cases e
    exact k _ h' H' q rh fr
theorem lift_notV {ta : TEd} {σ : L2.St} {H : Hp} {Q : VK} (q : lift K B (fun s h Q => ta s h fun x h1 => truD x h1 fun k => Q (.bl (!k)) h1) σ H Q) : tNotT K (lift K B ta) σ H Q := by
  obtain ⟨sd, h, Qd, n, t, k⟩ := q
  refine ⟨sd, h, _, n, t, fun d h' v H' q p => ?_⟩
  obtain ⟨b, tv, q⟩ := tru_of p.rh p.rd q
  exact ⟨b, tv, k _ _ _ _ q ⟨.bl _, p.rh, p.fr⟩⟩
theorem lift_andV {ta tb : TEd} {σ : L2.St} {H : Hp} {Q : VK} (q : lift K B (fun s h Q => ta s h fun x h1 => truD x h1 fun k => if k = true then tb s h1 Q else Q x h1) σ H Q) : tAndT K (lift K B ta) (lift K B tb) σ H Q := by
  obtain ⟨sd, h, Qd, n, t, k⟩ := q
  refine ⟨sd, h, _, n, t, fun d h' v H' q p => ?_⟩
  obtain ⟨b, tv, q⟩ := tru_of p.rh p.rd q
  refine ⟨b, tv, ?_⟩
  cases b with
  | true => exact ⟨sd, h', Qd, n.after p.rh p.fr, q, fun d2 h2 v2 H2 q p2 => k _ _ _ _ q ⟨p2.rd, p2.rh, p.fr.trans p2.fr⟩⟩
  | false => exact k _ _ _ _ q p
theorem lift_orV {ta tb : TEd} {σ : L2.St} {H : Hp} {Q : VK} (q : lift K B (fun s h Q => ta s h fun x h1 => truD x h1 fun k => if k = true then Q x h1 else tb s h1 Q) σ H Q) : tOrT K (lift K B ta) (lift K B tb) σ H Q := by
  obtain ⟨sd, h, Qd, n, t, k⟩ := q
  refine ⟨sd, h, _, n, t, fun d h' v H' q p => ?_⟩
  obtain ⟨b, tv, q⟩ := tru_of p.rh p.rd q
  refine ⟨b, tv, ?_⟩
  cases b with
  | false => exact ⟨sd, h', Qd, n.after p.rh p.fr, q, fun d2 h2 v2 H2 q p2 => k _ _ _ _ q ⟨p2.rd, p2.rh, p.fr.trans p2.fr⟩⟩
  | true => exact k _ _ _ _ q p
theorem lift_ife {tc ta tb : TEd} {σ : L2.St} {H : Hp} {Q : VK} (q : lift K B (fun s h Q => tc s h fun x h1 => ∃ k, x = .bl k ∧ if k = true then ta s h1 Q else tb s h1 Q) σ H Q) : tIf (liftT K B tc) (lift K B ta) (lift K B tb) σ H Q := by
  obtain ⟨sd, h, Qd, n, t, k⟩ := q
  refine ⟨sd, h, _, n, t, fun b h' H' q rh fr => ?_⟩
  cases b with
  | true => exact ⟨sd, h', Qd, n.after rh fr, q, fun d2 h2 v2 H2 q p2 => k _ _ _ _ q ⟨p2.rd, p2.rh, fr.trans p2.fr⟩⟩
  | false => exact ⟨sd, h', Qd, n.after rh fr, q, fun d2 h2 v2 H2 q p2 => k _ _ _ _ q ⟨p2.rd, p2.rh, fr.trans p2.fr⟩⟩
theorem lift_tup {ta : TEd} {σ : L2.St} {H : Hp} {Q : VK} (q : lift K B (fun s h Q => ta s h fun x h1 => ∃ ds, x = .tup ds ∧ ds.length ≤ sizeLine ∧ Q (.tup ds) h1) σ H Q) : tTup (liftA K B ta) σ H Q := by
  obtain ⟨sd, h, Qd, n, t, k⟩ := q
  refine ⟨sd, h, _, n, t, fun ds h1 vs H1 q r rh fr => ?_⟩
  obtain ⟨es, e, hz, q⟩ := q
  cases e
  exact ⟨by rw [← r.length]; exact hz, fun p np => k _ _ _ _ q ⟨.newT np r, rh.newT np, fr.trans (.newT np)⟩⟩
theorem lift_lst {ta : TEd} {σ : L2.St} {H : Hp} {Q : VK} (q : lift K B (fun s h Q => ta s h fun x h1 => ∃ ds, x = .tup ds ∧ ds.length ≤ sizeLine ∧ newL h1 ds Q) σ H Q) : tLst (liftA K B ta) σ H Q := by
  obtain ⟨sd, h, Qd, n, t, k⟩ := q
  refine ⟨sd, h, _, n, t, fun ds h1 vs H1 q r rh fr => ?_⟩
  obtain ⟨es, e, hz, q⟩ := q
  cases e
  exact ⟨by rw [← r.length]; exact hz, fun p np => k _ _ _ _ (q p (rh.free np)) ⟨.ref p, rh.lstNew np r, fr.trans (.new np)⟩⟩
theorem lift_cons {ta tb : TEd} {σ : L2.St} {H : Hp} {Q : List V → Hp → Prop} (q : liftA K B (fun s h Q => ta s h fun x h1 => tb s h1 fun y h2 => ∃ ds, y = .tup ds ∧ Q (.tup (x :: ds)) h2) σ H Q) : tCons (lift K B ta) (liftA K B tb) σ H Q := by
  obtain ⟨sd, h, Qd, n, t, k⟩ := q
  refine ⟨sd, h, _, n, t, fun d h1 v H1 q p => ⟨sd, h1, _, n.after p.rh p.fr, q, fun ds h2 vs H2 q2 r rh fr => ?_⟩⟩
  obtain ⟨es, e, q2⟩ := q2
  cases e
  exact k _ _ _ _ q2 (.cons (p.rd.mono (Frm.tm p.rh fr)) r) rh (p.fr.trans fr)
theorem lift_nil {σ : L2.St} {H : Hp} {Q : List V → Hp → Prop} (q : liftA K B (fun _ h Q => Q (.tup []) h) σ H Q) : tNil σ H Q := by
  obtain ⟨sd, h, Qd, n, t, k⟩ := q
  exact k _ _ _ _ t .nil n.rh (.refl _ _)
/-- a slice's part -/
def liftO (K : KW) (B : Bs) (b : Bool) (t : TEd) : TO := fun σ H Q => ∃ sd h, ∃ Qd : Option Int → DH → Prop, Now K B sd h σ H ∧ (t sd h fun z h' => partD b z fun o => Qd o h') ∧ ∀ o h' H', Qd o h' → RH K H' h' → Frm h H h' H' → Q o H'
theorem PO.imp {e : Option Expr} {t t' : TO} (h : PO X e t) (k : ∀ σ H Q, t' σ H Q → t σ H Q) : PO X e t' := ⟨fun pins s σ H Q I q => h.run pins s σ H Q I (k σ H Q q)⟩
theorem po_lift {e : Expr} {t : TEd} (h : PE X e (lift X.kw B t)) : PO X (some e) (liftO X.kw B true t) := PO.imp (po_some h) fun σ H Q ⟨sd, hh, Qd, n, q, k⟩ => by
  refine ⟨sd, hh, _, n, q, fun d h' v H' q p => ?_⟩
  cases d with
  | int i =>
    obtain ⟨r, rh, fr⟩ := p
    cases r
    exact ⟨i, rfl, k _ _ _ q rh fr⟩
  | _ => exact q.elim
theorem po_abs : PO X none (liftO X.kw B false fun _ h Q => Q .non h) := PO.imp po_none fun σ H Q ⟨sd, hh, Qd, n, q, k⟩ => k _ _ _ q n.rh (.refl _ _)
theorem lift_slice {ta tl tu : TEd} {bl bh : Bool} {σ : L2.St} {H : Hp} {Q : VK} (q : lift K B (fun s h Q => ta s h fun x h1 => tl s h1 fun y h2 => partD bl y fun l => tu s h2 fun z h3 => partD bh z fun u => sliceD x l u h3 Q) σ H Q) :
    tSl (fun x lo hi H Q => liftR1 K (fun d h Q => sliceD d lo hi h Q) x H Q) (lift K B ta) (liftO K B bl tl) (liftO K B bh tu) σ H Q := by
  obtain ⟨sd, h, Qd, n, t, k⟩ := q
  refine ⟨sd, h, _, n, t, fun d h1 v H1 q p => ?_⟩
  have n1 := n.after p.rh p.fr
  refine ⟨sd, h1, _, n1, q, fun o h2 H2 q2 rh2 fr2 => ?_⟩
  have n2 := n1.after rh2 fr2
  refine ⟨sd, h2, _, n2, q2, fun u h3 H3 q3 rh3 fr3 => ?_⟩
  exact ⟨d, h3, Qd, (p.rd.mono (Frm.tm p.rh fr2)).mono (Frm.tm rh2 fr3), rh3, q3, fun d' h' v' H' q' p' => k _ _ _ _ q' ⟨p'.rd, p'.rh, ((p.fr.trans fr2).trans fr3).trans p'.fr⟩⟩
theorem lift_rev {ta : TEd} {σ : L2.St} {H : Hp} {Q : VK} (q : lift K B (fun s h Q => ta s h fun x h1 => revD x h1 Q) σ H Q) : tRevT K (lift K B ta) σ H Q := by
  obtain ⟨sd, h, Qd, n, t, k⟩ := q
  refine ⟨sd, h, _, n, t, fun d h1 v H1 q p => ?_⟩
  obtain ⟨r, rh, fr⟩ := p
  cases d with
  | tup xs =>
    cases r with | tup s1 q1 =>
    exact ⟨_, _, rfl, .inr ⟨s1, fun p np => k _ _ _ _ q ⟨.newT np q1.reverse, rh.newT np, fr.trans (.newT np)⟩⟩⟩
  | rl xs =>
    cases r with | rl s1 q1 =>
    exact ⟨_, _, rfl, .inl ⟨s1.sq, fun p np => k _ _ _ _ (q p (rh.free np)) ⟨.ref p, rh.lstNew np q1.reverse, fr.trans (.new np)⟩⟩⟩
  | ref p =>
    cases r
    obtain ⟨xs, l, q⟩ := q
    obtain ⟨vs, s1, q1⟩ := rh.sq l
    exact ⟨_, _, rfl, .inl ⟨s1, fun p np => k _ _ _ _ (q p (rh.free np)) ⟨.ref p, rh.lstNew np q1.reverse, fr.trans (.new np)⟩⟩⟩
  | _ => exact q.elim
/-- sorted(set(xs)) -/
theorem nz_mk {H : Hp} {h : DH} (rh : RH K H h) : ∀ {bs : List (D × PyData)} {vs : List V}, RDs K H (bs.map (·.1)) vs → (∀ b ∈ bs, PD h b.1 b.2) → (∀ b ∈ bs, keyB true b.1 = true) →
    ∃ zs : List Nz, vs = zs.map (fun z => V.ref z.2.1) ∧ zs.map (fun z => (z.1, z.2.2.2)) = bs ∧ (∀ z ∈ zs, RD K H z.1 (.ref z.2.1)) ∧ (∀ z ∈ zs, nkey z.1 = some z.2.2.1 ∧ z.2.2.1.depth ≤ 8) ∧ ∀ z ∈ zs, Dp K.K H (.ref z.2.1) z.2.2.2
  | [], _, r, _, _ => by cases r; exact ⟨[], rfl, rfl, fun _ h => (by cases h), fun _ h => (by cases h), fun _ h => (by cases h)⟩
  | b :: bs, _, r, hp, hk => by
    rw [List.map_cons] at r
    cases r with | @cons _ _ v vs r rs =>
    obtain ⟨zs, e1, e2, e3, e4, e5⟩ := nz_mk rh rs (fun c hc => hp c (List.mem_cons_of_mem _ hc)) fun c hc => hk c (List.mem_cons_of_mem _ hc)
    have kb := hk b List.mem_cons_self
    have pd := hp b List.mem_cons_self
    obtain ⟨d, y⟩ := b
    cases d with
    | tup ds =>
      have dp := pd.dp rh r
      cases e : nkeys ds with
      | none => simp only [keyB, e] at kb; cases kb
      | some ks =>
        simp only [keyB, e] at kb
        have hd : NestedKey.depthAll ks ≤ 7 := of_decide_eq_true kb
        have r' := r
        cases r with | @tup a _ _ sq q =>
        refine ⟨(.tup ds, a, .tup ks, y) :: zs, by rw [List.map_cons, ← e1], by rw [List.map_cons, e2], fun z hz => ?_, fun z hz => ?_, fun z hz => ?_⟩
        · rcases List.mem_cons.mp hz with rfl | hz
          · exact r'
          · exact e3 z hz
        · rcases List.mem_cons.mp hz with rfl | hz
          · exact ⟨by simp [nkey, e], by simp only [NestedKey.depth]; omega⟩
          · exact e4 z hz
        · rcases List.mem_cons.mp hz with rfl | hz
          · exact dp
          · exact e5 z hz
    | _ => cases kb
theorem lift_sset {ta : TEd} {σ : L2.St} {H : Hp} {Q : VK} (q : lift K B (fun s h Q => ta s h fun x h1 => ssetD x h1 Q) σ H Q) : tSset K (lift K B ta) σ H Q := by
  obtain ⟨sd, h, Qd, n, t, k⟩ := q
  refine ⟨sd, h, _, n, t, fun d h1 v H1 q p => ?_⟩
  obtain ⟨r, rh, fr⟩ := p
  have fin : ∀ {xs : List D} {vs : List V} {a : Addr}, (SqL K.K H1 a vs ∨ SqT K.K H1 a vs) → RDs K H1 xs vs → (∃ bs : List (D × PyData), xs = bs.map (·.1) ∧ SrtOk h1 bs ∧ (∀ b ∈ bs, keyB true b.1 = true) ∧ bs.length < 64 ∧
      ∀ cs : List (D × PyData), (∀ c ∈ cs, c ∈ bs) → (∀ b ∈ bs, ∃ c ∈ cs, nkey c.1 = nkey b.1) → (cs.map fun c => nkey c.1).Nodup → newL h1 ((srtD cs).map (·.1)) Qd) →
      ∃ (a' : Addr) (zs : List Nz), V.ref a = .ref a' ∧ (SqL K.K H1 a' (zs.map fun z => V.ref z.2.1) ∨ SqT K.K H1 a' (zs.map fun z => V.ref z.2.1)) ∧ NzOk K H1 zs ∧ zs.length < 64 ∧
        ∀ cs : List Nz, (∀ c ∈ cs, c ∈ zs) → (∀ z ∈ zs, ∃ c ∈ cs, c.2.2.1 = z.2.2.1) → (cs.map fun c => c.2.2.1).Nodup → ∀ p, H1 p = none → Q (.ref p) (upd H1 p (.lst ((srtN cs).map fun z => V.ref z.2.1))) := by
    rintro xs vs a sq rs ⟨bs, rfl, ok, kb, few, q⟩
    obtain ⟨zs, e1, e2, e3, e4, e5⟩ := nz_mk rh rs ok.pd kb
    have inb : ∀ z ∈ zs, (z.1, z.2.2.2) ∈ bs := fun z hz => by rw [← e2]; exact List.mem_map.mpr ⟨z, hz, rfl⟩
    have ed : zs.map (·.2.2.2) = bs.map (·.2) := by rw [← e2, List.map_map]; rfl
    have len : zs.length = bs.length := by rw [← e2, List.length_map]
    rw [e1] at sq
    refine ⟨a, zs, rfl, sq, ⟨e3, e4, e5, by rw [ed]; exact ok.alike, by rw [ed]; exact ok.sortable, fun z hz => ok.depth _ (inb z hz)⟩, by rw [len]; exact few, fun cs h2 h3 nd p np => ?_⟩
    have key : ∀ z ∈ zs, nkey z.1 = some z.2.2.1 := fun z hz => (e4 z hz).1
    have em : (srtN cs).map (fun z => (z.1, z.2.2.2)) = srtD (cs.map fun z => (z.1, z.2.2.2)) := List.map_mergeSort fun a _ b _ => rfl
    have em1 : (srtD (cs.map fun z => (z.1, z.2.2.2))).map (·.1) = (srtN cs).map (·.1) := by rw [← em, List.map_map]; rfl
    have q2 := q (cs.map fun z => (z.1, z.2.2.2)) (fun c hc => by obtain ⟨z, hz, rfl⟩ := List.mem_map.mp hc; exact inb z (h2 z hz)) (fun b hb => by
      rw [← e2] at hb
      obtain ⟨z, hz, rfl⟩ := List.mem_map.mp hb
      obtain ⟨c, hc, ec⟩ := h3 z hz
      exact ⟨_, List.mem_map.mpr ⟨c, hc, rfl⟩, by show nkey c.1 = nkey z.1; rw [key c (h2 c hc), key z hz, ec]⟩) (by
      rw [List.map_map]
      refine List.pairwise_map.mpr ((List.pairwise_map.mp nd).imp_of_mem fun {a b} ha hb hne e => hne ?_)
      have : nkey a.1 = nkey b.1 := e
      rw [key a (h2 a ha), key b (h2 b hb)] at this
      exact Option.some.inj this)
    have rr : RDs K H1 ((srtD (cs.map fun z => (z.1, z.2.2.2))).map (·.1)) ((srtN cs).map fun z => V.ref z.2.1) := by
      rw [em1]
      have all : ∀ z ∈ srtN cs, RD K H1 z.1 (.ref z.2.1) := fun z hz => e3 z (h2 z ((List.mergeSort_perm cs _).mem_iff.mp hz))
      generalize srtN cs = zs2 at all
      clear em em1 q2
      induction zs2 with
      | nil => exact .nil
      | cons z zs2 ih => exact .cons (all z List.mem_cons_self) (ih fun y hy => all y (List.mem_cons_of_mem _ hy))
    exact k _ _ _ _ (q2 p (rh.free np)) ⟨.ref p, rh.lstNew np rr, fr.trans (.new np)⟩
  have q := sset_el q
  cases d with
  | tup xs => cases r with | tup s1 q1 => exact fin (.inr s1) q1 q
  | rl xs => cases r with | rl s1 q1 => exact fin (.inl s1.sq) q1 q
  | ref p =>
    cases r
    obtain ⟨xs, l, q⟩ := q
    obtain ⟨vs, s1, q1⟩ := rh.sq l
    exact fin (.inl s1) q1 q
  | _ => exact q.elim
/-- len(set(xs)) -/
theorem lz_mk {H : Hp} : ∀ {xs : List D} {vs : List V}, RDs K H xs vs → (∀ b ∈ xs, keyB true b = true) →
    ∃ zs : List Lz, vs = zs.map (fun z => V.ref z.2.1) ∧ zs.map (·.1) = xs ∧ (∀ z ∈ zs, RD K H z.1 (.ref z.2.1)) ∧ (∀ z ∈ zs, nkey z.1 = some z.2.2 ∧ z.2.2.depth ≤ 8)
  | [], _, r, _ => by cases r; exact ⟨[], rfl, rfl, fun _ h => (by cases h), fun _ h => (by cases h)⟩
  | d :: xs, _, r, hk => by
    cases r with | @cons _ _ v vs r rs =>
    obtain ⟨zs, e1, e2, e3, e4⟩ := lz_mk rs fun c hc => hk c (List.mem_cons_of_mem _ hc)
    have kb := hk d List.mem_cons_self
    cases d with
    | tup ds =>
      cases e : nkeys ds with
      | none => simp only [keyB, e] at kb; cases kb
      | some ks =>
        simp only [keyB, e] at kb
        have hd : NestedKey.depthAll ks ≤ 7 := of_decide_eq_true kb
        have r' := r
        cases r with | @tup a _ _ sq q =>
        refine ⟨(.tup ds, a, .tup ks) :: zs, by rw [List.map_cons, ← e1], by rw [List.map_cons, e2], fun z hz => ?_, fun z hz => ?_⟩
        · rcases List.mem_cons.mp hz with rfl | hz
          · exact r'
          · exact e3 z hz
        · rcases List.mem_cons.mp hz with rfl | hz
          · exact ⟨by simp [nkey, e], by simp only [NestedKey.depth]; omega⟩
          · exact e4 z hz
    | _ => cases kb
theorem lift_lset {ta : TEd} {σ : L2.St} {H : Hp} {Q : VK} (q : lift K B (fun s h Q => ta s h fun x h1 => lsetD x h1 Q) σ H Q) : tLset K (lift K B ta) σ H Q := by
  obtain ⟨sd, h, Qd, n, t, k⟩ := q
  refine ⟨sd, h, _, n, t, fun d h1 v H1 q p => ?_⟩
  obtain ⟨r, rh, fr⟩ := p
  have q := lset_el q
  have fin : ∀ {xs : List D} {vs : List V} {a : Addr}, (SqL K.K H1 a vs ∨ SqT K.K H1 a vs) → RDs K H1 xs vs → ((∀ b ∈ xs, keyB true b = true) ∧ (∀ l : List (Option NestedKey), l.Nodup → (∀ k ∈ l, k ∈ xs.map nkey) → l.length < 256) ∧
      ∀ cs : List D, (∀ c ∈ cs, c ∈ xs) → (∀ b ∈ xs, ∃ c ∈ cs, nkey c = nkey b) → (cs.map nkey).Nodup → Qd (.int cs.length) h1) →
      ∃ (a' : Addr) (zs : List Lz), V.ref a = .ref a' ∧ (SqL K.K H1 a' (zs.map fun z => V.ref z.2.1) ∨ SqT K.K H1 a' (zs.map fun z => V.ref z.2.1)) ∧
        (∀ z ∈ zs, RD K H1 z.1 (.ref z.2.1)) ∧ (∀ z ∈ zs, nkey z.1 = some z.2.2 ∧ z.2.2.depth ≤ 8) ∧ (∀ l : List NestedKey, l.Nodup → (∀ k ∈ l, k ∈ zs.map (·.2.2)) → l.length < 256) ∧
        ∀ cs : List Lz, (∀ c ∈ cs, c ∈ zs) → (∀ z ∈ zs, ∃ c ∈ cs, c.2.2 = z.2.2) → (cs.map fun c => c.2.2).Nodup → Q (.int cs.length) H1 := by
    rintro xs vs a sq rs ⟨kb, few, q⟩
    obtain ⟨zs, e1, e2, e3, e4⟩ := lz_mk rs kb
    rw [e1] at sq
    have key : ∀ z ∈ zs, nkey z.1 = some z.2.2 := fun z hz => (e4 z hz).1
    have inx : ∀ z ∈ zs, z.1 ∈ xs := fun z hz => by rw [← e2]; exact List.mem_map.mpr ⟨z, hz, rfl⟩
    refine ⟨a, zs, rfl, sq, e3, e4, fun l hn hs => ?_, fun cs h2 h3 nd => ?_⟩
    · have := few (l.map some) (List.pairwise_map.mpr (hn.imp fun hne e => hne (Option.some.inj e))) fun k hk => by
        obtain ⟨y, hy, rfl⟩ := List.mem_map.mp hk
        obtain ⟨z, hz, rfl⟩ := List.mem_map.mp (hs y hy)
        exact List.mem_map.mpr ⟨z.1, inx z hz, key z hz⟩
      rwa [List.length_map] at this
    · have q2 := q (cs.map (·.1)) (fun c hc => by obtain ⟨z, hz, rfl⟩ := List.mem_map.mp hc; exact inx z (h2 z hz)) (fun b hb => by
        rw [← e2] at hb
        obtain ⟨z, hz, rfl⟩ := List.mem_map.mp hb
        obtain ⟨c, hc, ec⟩ := h3 z hz
        exact ⟨_, List.mem_map.mpr ⟨c, hc, rfl⟩, by rw [key c (h2 c hc), key z hz, ec]⟩) (by
        rw [List.map_map]
        refine List.pairwise_map.mpr ((List.pairwise_map.mp nd).imp_of_mem fun {a b} ha hb hne e => hne ?_)
        have : nkey a.1 = nkey b.1 := e
        rw [key a (h2 a ha), key b (h2 b hb)] at this
        exact Option.some.inj this)
      rw [List.length_map] at q2
      exact k _ _ _ _ q2 ⟨.int _, rh, fr⟩
  cases d with
  | tup xs => cases r with | tup s1 q1 => exact fin (.inr s1) q1 q
  | rl xs => cases r with | rl s1 q1 => exact fin (.inl s1.sq) q1 q
  | ref p =>
    cases r
    obtain ⟨xs, l, q⟩ := q
    obtain ⟨vs, s1, q1⟩ := rh.sq l
    exact fin (.inl s1) q1 q
  | _ => exact q.elim
/-- items with a star -/
theorem lift_scT {ta tb : TEd} {σ : L2.St} {H : Hp} {Q : List V → Hp → Prop} (q : liftA K B (fun s h Q => ta s h fun x h1 => itemsD x h1 fun xs => tb s h1 fun y h2 => ∃ ds, y = .tup ds ∧ Q (.tup (xs ++ ds)) h2) σ H Q) : StX.tStar K.K (lift K B ta) (liftA K B tb) σ H Q := by
  obtain ⟨sd, h, Qd, n, t, k⟩ := q
  refine ⟨sd, h, _, n, t, fun d h1 v H1 q p => ?_⟩
  have fin : ∀ {xs : List D} {vs : List V} {a : Addr}, (SqT K.K H1 a vs ∨ SqL K.K H1 a vs) → RDs K H1 xs vs → (tb sd h1 fun y h2 => ∃ ds, y = .tup ds ∧ Qd (.tup (xs ++ ds)) h2) →
      ∃ p ws, V.ref a = V.ref p ∧ (SqT K.K H1 p ws ∨ SqL K.K H1 p ws) ∧ liftA K B tb σ H1 fun ys H2 => Q (ws ++ ys) H2 := by
    intro xs vs a sq rs q
    refine ⟨a, vs, rfl, sq, sd, h1, _, n.after p.rh p.fr, q, fun ds h2 ws H2 q2 r2 rh2 fr2 => ?_⟩
    obtain ⟨es, e, q2⟩ := q2
    cases e
    exact k _ _ _ _ q2 ((rs.mono (Frm.tm p.rh fr2)).append r2) rh2 (p.fr.trans fr2)
  obtain ⟨r, rh, fr⟩ := id p
  cases d with
  | tup xs => cases r with | tup s1 q1 => exact fin (.inl s1) q1 q
  | rl xs => cases r with | rl s1 q1 => exact fin (.inr s1.sq) q1 q
  | ref p =>
    cases r
    obtain ⟨xs, l, q⟩ := q
    obtain ⟨vs, s1, q1⟩ := rh.sq l
    exact fin (.inr s1) q1 q
  | _ => exact q.elim
theorem lift_scF {ta tb : TEd} {σ : L2.St} {H : Hp} {Q : List V → Hp → Prop} (q : liftA K B (fun s h Q => ta s h fun x h1 => tb s h1 fun y h2 => ∃ ds, y = .tup ds ∧ Q (.tup ([x] ++ ds)) h2) σ H Q) : tCons (lift K B ta) (liftA K B tb) σ H Q := lift_cons q
theorem lift_blt {ta : TEd} {rd : RdC} {σ : L2.St} {H : Hp} {Q : VK} (q : lift K B (fun s h Q => ta s h fun x h1 => ∃ ds, x = .tup ds ∧ rd ds h1 Q) σ H Q) : tCB (liftC K rd) (liftA K B ta) σ H Q := by
  obtain ⟨sd, h, Qd, n, t, k⟩ := q
  refine ⟨sd, h, _, n, t, fun ds h1 vs H1 q r rh fr => ?_⟩
  obtain ⟨es, e, q⟩ := q
  cases e
  exact ⟨ds, h1, Qd, r, rh, q, fun d h' v H' q p => k _ _ _ _ q ⟨p.rd, p.rh, fr.trans p.fr⟩⟩
theorem lift_mth {m : Mth} {to ta : TEd} {TT : String} {rd : RdM} {σ : L2.St} {H : Hp} {Q : VK} (hT : ∀ d h v H, mthT m d h → RD K H d v → RH K H h → tyV K TT v H) (q : lift K B (fun s h Q => to s h fun x h1 => mthT m x h1 ∧ ta s h1 fun y h2 => ∃ ds, y = .tup ds ∧ rd x ds h2 Q) σ H Q) :
    tBM K TT (liftM K TT rd) (lift K B to) (liftA K B ta) σ H Q := by
  obtain ⟨sd, h, Qd, n, t, k⟩ := q
  refine ⟨sd, h, _, n, t, fun d h1 v H1 q p => ⟨hT _ _ _ _ q.1 p.rd p.rh, sd, h1, _, n.after p.rh p.fr, q.2, fun ds h2 vs H2 q2 r rh fr => ?_⟩⟩
  obtain ⟨es, e, q2⟩ := q2
  cases e
  exact ⟨d, ds, h2, Qd, p.rd.mono (Frm.tm p.rh fr), r, rh, q2, fun d' h' v H' q p' => k _ _ _ _ q ⟨p'.rd, p'.rh, (p.fr.trans fr).trans p'.fr⟩⟩
theorem lift_mth0 {m : Mth} {to : TEd} {TT : String} {rd : RdM} {σ : L2.St} {H : Hp} {Q : VK} (hT : ∀ d h v H, mthT m d h → RD K H d v → RH K H h → tyV K TT v H) (q : lift K B (fun s h Q => to s h fun x h1 => mthT m x h1 ∧ ∃ ds, D.tup [] = .tup ds ∧ rd x ds h1 Q) σ H Q) :
    tBM0 K TT (liftM K TT rd) (lift K B to) σ H Q := by
  obtain ⟨sd, h, Qd, n, t, k⟩ := q
  refine ⟨sd, h, _, n, t, fun d h1 v H1 q p => ⟨hT _ _ _ _ q.1 p.rd p.rh, ?_⟩⟩
  obtain ⟨es, e, q2⟩ := q.2
  cases e
  exact ⟨d, [], h1, Qd, p.rd, .nil, p.rh, q2, fun d' h' v H' q p' => k _ _ _ _ q ⟨p'.rd, p'.rh, p.fr.trans p'.fr⟩⟩
/-- a method of a dict -/
def tDM (r : V → List V → Hp → VK → Prop) (to : TE) (t : TA) : TE := fun σ H Q => to σ H fun x H1 => (∃ p o, x = V.ref p ∧ H1 p = some (PinO p o) ∧ o.ExactDict) ∧ t σ H1 fun vs H2 => r x vs H2 Q
theorem pe_dm {id : String} {name : Str} {r : V → List V → Hp → VK → Prop} {o e : Expr} {es : List Expr} {to : TE} {t : TA} {apos cpos : Pos} (slot : Slot "dict" name id) (hty : typeOf (.builtin id) = pure (.type "method_descriptor")) (hm : MtR X id r) (ho : PE X o to) (ha : PA X (e :: es) t)
    (hbase : attributeBase o name X.env (eval o X.env) = eval o X.env)
    (hfew : ((backTo cpos (starEach (e :: es) X.env)).all (fun x => !x.1) && (backToKw cpos (keywordEach [] X.env)).all (fun x => x.1.isSome)
      && decide ((e :: es).length + ([] : List Keyword).length + (if ([] : List Keyword).isEmpty then 0 else 1) < 30)) = true)
    (hline : (apos.endLine == cpos.line) = true) (hs : starEach (e :: es) X.env = (false, eval e X.env) :: starEach es X.env) (hplain : (backTo cpos (starEach es X.env)).any (·.1) = false) :
    PE X (.Call (.Attribute o name apos) (e :: es) [] cpos) (tDM r to t) := by
  refine ⟨fun pins s σ H Q I h => wpAny_Call_method_late hbase hfew hline rfl (thn (ho.run pins s σ H _ I h) fun v s1 ⟨x, H1, I1, r1, ⟨p, ob, ex, eo, xd⟩, q1⟩ => ?_)⟩
  subst ex
  cases (show v = Value.ref p from r1)
  have go := dct_obj I1 eo
  refine ⟨"dict", id, PySem.F.plainAttrs_dict, slot, hty, ⟨ob, go, xd.1⟩, (fun a z => by cases z; exact ⟨ob, go, xd.2.1⟩), ?_⟩
  have hA := ha.run cpos pins s1 σ H1 _ I1 q1
  rw [hs] at hA ⊢
  exact Calls.callWith_builtin (by show (false || (backTo cpos (starEach es X.env)).any (·.1)) = false; rw [hplain]; rfl) (Calls.evalArgs_plain (thn hA fun us s2 ⟨vs, H2, I2, r2, q2⟩ => hm pins s2 σ H2 (.ref p) vs (.ref p) us Q I2 rfl r2 q2))
theorem lift_dm {m : Mth} {to ta : TEd} {rd : RdM} {σ : L2.St} {H : Hp} {Q : VK} (hT : ∀ d h, mthT m d h → ∃ b kvs, DctAt h d b kvs) (q : lift K B (fun s h Q => to s h fun x h1 => mthT m x h1 ∧ ta s h1 fun y h2 => ∃ ds, y = .tup ds ∧ rd x ds h2 Q) σ H Q) :
    tDM (liftM K "dict" rd) (lift K B to) (liftA K B ta) σ H Q := by
  obtain ⟨sd, h, Qd, n, t, k⟩ := q
  refine ⟨sd, h, _, n, t, fun d h1 v H1 q p => ⟨?_, sd, h1, _, n.after p.rh p.fr, q.2, fun ds h2 vs H2 q2 r rh fr => ?_⟩⟩
  · obtain ⟨b, kvs, a, o, rfl, e⟩ := hT _ _ q.1
    obtain ⟨rd, rh, _⟩ := p
    cases rd
    exact ⟨a, o, rfl, (rh _ _ e).1, (rh _ _ e).2.exact_⟩
  · obtain ⟨es, e, q2⟩ := q2
    cases e
    exact ⟨d, ds, h2, Qd, p.rd.mono (Frm.tm p.rh fr), r, rh, q2, fun d' h' v' H' q p' => k _ _ _ _ q ⟨p'.rd, p'.rh, (p.fr.trans fr).trans p'.fr⟩⟩
/-- a dict's method without arguments -/
theorem pe_dm0 {id : String} {name : Str} {r : V → List V → Hp → VK → Prop} {o : Expr} {to : TE} {apos cpos : Pos} (slot : Slot "dict" name id) (hty : typeOf (.builtin id) = pure (.type "method_descriptor")) (hm : MtR X id r) (ho : PE X o to)
    (hbase : attributeBase o name X.env (eval o X.env) = eval o X.env) (hline : (apos.endLine == cpos.line) = true) : PE X (.Call (.Attribute o name apos) [] [] cpos) (tDM r to tNil) := by
  refine ⟨fun pins s σ H Q I h => wpAny_Call_method0_late hbase hline (thn (ho.run pins s σ H _ I h) fun v s1 ⟨x, H1, I1, r1, ⟨p, ob, ex, eo, xd⟩, q1⟩ => ?_)⟩
  subst ex
  cases (show v = Value.ref p from r1)
  have go := dct_obj I1 eo
  exact ⟨"dict", id, PySem.F.plainAttrs_dict, slot, hty, ⟨ob, go, xd.1⟩, (fun a z => by cases z; exact ⟨ob, go, xd.2.1⟩), Calls.callWith_builtin rfl (PySem.evalArgs_none (hm pins s1 σ H1 (.ref p) [] (.ref p) [] Q I1 rfl .nil q1))⟩
theorem lift_dm0 {m : Mth} {to : TEd} {rd : RdM} {σ : L2.St} {H : Hp} {Q : VK} (hT : ∀ d h, mthT m d h → ∃ b kvs, DctAt h d b kvs) (q : lift K B (fun s h Q => to s h fun x h1 => mthT m x h1 ∧ ∃ ds, D.tup [] = .tup ds ∧ rd x ds h1 Q) σ H Q) :
    tDM (liftM K "dict" rd) (lift K B to) tNil σ H Q := by
  obtain ⟨sd, h, Qd, n, t, k⟩ := q
  refine ⟨sd, h, _, n, t, fun d h1 v H1 q p => ⟨?_, ?_⟩⟩
  · obtain ⟨b, kvs, a, o, rfl, e⟩ := hT _ _ q.1
    obtain ⟨rd, rh, _⟩ := p
    cases rd
    exact ⟨a, o, rfl, (rh _ _ e).1, (rh _ _ e).2.exact_⟩
  · obtain ⟨es, e, q2⟩ := q.2
    cases e
    exact ⟨d, [], h1, Qd, p.rd, .nil, p.rh, q2, fun d' h' v' H' q p' => k _ _ _ _ q ⟨p'.rd, p'.rh, p.fr.trans p'.fr⟩⟩
/-- {} -/
theorem pe_dnewD {b : Bool} {pos : Pos} : PE X (.Dict [] [] pos) (lift X.kw B fun _ h Q => dnewD b h Q) := ⟨fun pins s σ H Q I ⟨sd, h, Qd, n, t, k⟩ => by
  have np : H s.heap.objs.size = none := I.hok.fresh (Nat.le_refl _)
  have ho : (s.heap.push { cls := .type "dict", data := .dict #[] }).get? s.heap.objs.size = some { cls := .type "dict", data := .dict #[] } := Heap.get?_push_size _ rfl
  refine wpAny_Dict_empty ⟨.ref s.heap.objs.size, upd H s.heap.objs.size (PinO s.heap.objs.size { cls := .type "dict", data := .dict #[] }), I.laid (a := s.heap.objs.size) (t' := s.toks) (fun _ _ q => Heap.get?_push_of_some _ q) (Nat.le_refl _) ⟨ho, ⟨_, ho⟩, fun _ _ q k => k _ q⟩, rfl, ?_⟩
  refine k _ _ _ _ (t _ { cls := .type "dict", data := .dict #[] } (n.rh.free np)) ⟨.ref _, n.rh.new np ⟨upd_same, ⟨beq_eq_false_iff_ne.mpr (Ne.symm (Nat.ne_of_lt I.big)), ⟨rfl, rfl, rfl⟩, Nat.zero_le _, ⟨#[], 0, rfl, .nil⟩, List.nodup_nil⟩⟩, .new np⟩⟩
/-- {k: v} -/
theorem lift_dmk {tk tv : TEd} {b : Bool} {σ : L2.St} {H : Hp} {Q : VK} (q : lift K B (fun s h Q => ∀ p o, h p = none → tk s (updD h p (.dct b [] o)) fun x h1 => tv s h1 fun y h2 => dmkD b p x y h2 Q) σ H Q) : tDmk K b (lift K B tk) (lift K B tv) σ H Q := by
  obtain ⟨sd, h, Qd, n, t, k⟩ := q
  intro p np hsys
  have n1 : Now K B sd (updD h p (.dct b [] o0)) σ (upd H p (PinO p o0)) := ⟨n.rs.mono (TM.new np), n.rh.new np ⟨upd_same, o0_ok hsys⟩, n.fr.trans (.new np)⟩
  refine ⟨sd, _, _, n1, t p o0 (n.rh.free np), fun d1 h1 v1 H1 q1 p1 => ⟨sd, h1, _, n1.after p1.rh p1.fr, q1, fun d2 h2 v2 H2 q2 p2 => ?_⟩⟩
  obtain ⟨o, e, hk, q2⟩ := q2
  refine ⟨h2, d1, d2, o, p1.rd.mono (Frm.tm p1.rh p2.fr), p2.rd, p2.rh, e, hk, fun o' ok => k _ _ _ _ (q2 o') ⟨.ref _, p2.rh.writeO e ok, ?_⟩⟩
  exact (((Frm.new np).trans p1.fr).trans p2.fr).trans (.write e)
theorem mthT_list {m : Mth} (hm : m ≠ .get ∧ m ≠ .setdef ∧ m ≠ .clear) {d : D} {h : DH} {v : V} {H : Hp} (q : mthT m d h) (r : RD K H d v) (rh : RH K H h) : tyV K "list" v H := by
  have : ∃ p xs, d = .ref p ∧ LR h p xs := by cases m <;> first | exact q | exact absurd rfl hm.1 | exact absurd rfl hm.2.1 | exact absurd rfl hm.2.2
  obtain ⟨p, xs, rfl, l⟩ := this
  cases r
  obtain ⟨vs, s, _⟩ := rh.sq l
  exact .inl ⟨rfl, _, s⟩
theorem lift_isi {ta : TEd} {t : Ty} (ht : t ≠ .none) {σ : L2.St} {H : Hp} {Q : VK} (q : lift K B (fun s h Q => ta s h fun x h1 => tyD x h1 fun u => Q (.bl (isiB u t)) h1) σ H Q) : tCB (rIsY K) (tCons (lift K B ta) (tCons (tC (.ty (tyNm t))) tNil)) σ H Q := by
  obtain ⟨sd, h, Qd, n, tt, k⟩ := q
  refine ⟨sd, h, _, n, tt, fun d h1 v H1 q p => ?_⟩
  obtain ⟨u, ty, q⟩ := tyD_X p.rh p.rd q
  exact ⟨v, .ty (tyNm t), _, _, _, rfl, .ty _, ty, kit_ty (kit_all u t ht), k _ _ _ _ q ⟨.bl _, p.rh, p.fr⟩⟩
theorem lift_call {ta : TEd} {f : Nat} {σ : L2.St} {H : Hp} {Q : VK} (q : lift K B (fun s h Q => ta s h fun x h1 => ∃ ds, x = .tup ds ∧ Φ f ds h1 Q Ed) σ H Q) : tCall (liftSp K (Φ f)) [] (liftX K B Ed) (liftA K B ta) σ H Q := by
  obtain ⟨sd, h, Qd, n, t, k⟩ := q
  refine ⟨sd, h, _, n, t, fun ds h1 vs H1 q r rh fr => ?_⟩
  obtain ⟨es, e, q⟩ := q
  cases e
  rw [List.append_nil]
  exact ⟨ds, h1, Qd, Ed, r, rh, q, fun d h' v H' q p => k _ _ _ _ q ⟨p.rd, p.rh, fr.trans p.fr⟩, fun c od h' H' q rh' fr' => ⟨h', q, rh', (n.fr.trans fr).trans fr'⟩⟩
theorem lift_call0 {f : Nat} {σ : L2.St} {H : Hp} {Q : VK} (q : lift K B (fun s h Q => ∃ ds, D.tup [] = .tup ds ∧ Φ f ds h Q Ed) σ H Q) : tCall (liftSp K (Φ f)) [] (liftX K B Ed) tNil σ H Q := by
  obtain ⟨sd, h, Qd, n, ⟨ds, e, q⟩, k⟩ := q
  cases e
  exact ⟨[], h, Qd, Ed, .nil, n.rh, q, k, fun c od h' H' q rh' fr' => ⟨h', q, rh', n.fr.trans fr'⟩⟩
theorem lift_callK {ta tk : TEd} {f m : Nat} {ks : List Str} {π : List Nat} {σ : L2.St} {H : Hp} {Q : VK}
    (q : lift K B (fun s h Q => ta s h fun x h1 => tk s h1 fun y h2 => ∃ ds zs, x = .tup ds ∧ y = .tup zs ∧ (ds.length = m ∧ zs.length = ks.length) ∧ Φ f (permL π (ds ++ zs)) h2 Q Ed) σ H Q) :
    tCallN m ks.length (liftSp K (Φ f)) (fun vs zs => permL π (vs ++ zs)) (liftX K B Ed) (liftA K B ta) (liftA K B tk) σ H Q := by
  obtain ⟨sd, h, Qd, n, t, k⟩ := q
  refine ⟨sd, h, _, n, t, fun ds h1 vs H1 q r rh fr => ⟨sd, h1, _, n.after rh fr, q, fun zs h2 ws H2 q2 r2 rh2 fr2 => ?_⟩⟩
  obtain ⟨es, fs, e, e', ⟨l1, l2⟩, q2⟩ := q2
  cases e; cases e'
  exact ⟨by rw [← r.length]; exact l1, by rw [← r2.length]; exact l2, permL π (ds ++ zs), h2, Qd, Ed, permL_RDs ((r.mono (Frm.tm rh fr2)).append r2), rh2, q2,
    fun d h' v H' q p => k _ _ _ _ q ⟨p.rd, p.rh, (fr.trans fr2).trans p.fr⟩, fun c od h' H' q rh' fr' => ⟨h', q, rh', ((n.fr.trans fr).trans fr2).trans fr'⟩⟩
theorem lift_callK0 {tk : TEd} {f : Nat} {ks : List Str} {π : List Nat} {σ : L2.St} {H : Hp} {Q : VK}
    (q : lift K B (fun s h Q => tk s h fun y h2 => ∃ ds zs, D.tup [] = .tup ds ∧ y = .tup zs ∧ (ds.length = 0 ∧ zs.length = ks.length) ∧ Φ f (permL π (ds ++ zs)) h2 Q Ed) σ H Q) :
    tCallN 0 ks.length (liftSp K (Φ f)) (fun vs zs => permL π (vs ++ zs)) (liftX K B Ed) tNil (liftA K B tk) σ H Q := by
  obtain ⟨sd, h, Qd, n, t, k⟩ := q
  refine ⟨sd, h, _, n, t, fun zs h2 ws H2 q2 r2 rh2 fr2 => ?_⟩
  obtain ⟨es, fs, e, e', ⟨l1, l2⟩, q2⟩ := q2
  cases e; cases e'
  exact ⟨rfl, by rw [← r2.length]; exact l2, permL π ([] ++ zs), h2, Qd, Ed, permL_RDs (RDs.append .nil r2), rh2, q2,
    fun d h' v H' q p => k _ _ _ _ q ⟨p.rd, p.rh, fr2.trans p.fr⟩, fun c od h' H' q rh' fr' => ⟨h', q, rh', (n.fr.trans fr2).trans fr'⟩⟩
end DL
namespace DL
open PySem PySem.Spec L2
variable {T : Tab} {Φ : Nat → Ct} {CX : CXT} {k : Nat} {B : Bs} {Ed : XD} {C : CEnv} {X : Cx} {K : KW}

/-! ### targets -/
def liftG (K : KW) (B : Bs) (t : DL.T) : TG := fun v σ H Q => ∃ d sd h sd', RD K H d v ∧ Now K B sd h σ H ∧ bindT t d sd = some sd' ∧
  ∀ σ', Now K B sd' h σ' H → (∀ vs : List Nat, (∀ i ∈ tSlots t, i ∈ vs) → L2.wipe σ' vs = L2.wipe σ vs) → Q σ' H
def liftGs (K : KW) (B : Bs) (t : DL.T) : TGs := fun vs σ H Q => ∃ ds sd h sd', RDs K H ds vs ∧ Now K B sd h σ H ∧ bindT t (.tup ds) sd = some sd' ∧
  ∀ σ', Now K B sd' h σ' H → (∀ vs : List Nat, (∀ i ∈ tSlots t, i ∈ vs) → L2.wipe σ' vs = L2.wipe σ vs) → Q σ' H
theorem PG.imp {e : Expr} {t t' : TG} (h : PG X e t) (k : ∀ v σ H Q, t' v σ H Q → t v σ H Q) : PG X e t' := ⟨fun pins s σ H v u Q I r q => h.run pins s σ H v u Q I r (k v σ H Q q)⟩
theorem PGs.imp {e : List Expr} {t t' : TGs} (h : PGs X e t) (k : ∀ v σ H Q, t' v σ H Q → t v σ H Q) : PGs X e t' := ⟨fun pins s σ H v u Q I r q => h.run pins s σ H v u Q I r (k v σ H Q q)⟩
theorem assignEach_cons {e : Expr} {es : List Expr} {env : Env} (h : isStar e = false) : assignEach (e :: es) env = (false, assign e env) :: assignEach es env := by
  cases e <;> first | rfl | (exact nomatch h)
theorem assign_facts {env : Env} : ∀ {t : DL.T} {C : CEnv} {es : List Expr}, chkT t C es true = true → (assignEach es env).length = es.length ∧ (assignEach es env).findIdx? (·.1) = none := by
  intro t
  induction t with
  | nil => intro C es h; cases es with
    | nil => exact ⟨rfl, rfl⟩
    | cons => exact nomatch h
  | cons t ts _ ih =>
    intro C es h
    cases es with
    | nil => exact nomatch h
    | cons e es =>
      simp only [chkT, Bool.and_eq_true, Bool.not_eq_true'] at h
      obtain ⟨a, b⟩ := ih h.2
      rw [assignEach_cons h.1.1]
      refine ⟨by simp [a], ?_⟩
      rw [List.findIdx?_cons]
      simp [b]
  | name i => intro C es h; exact nomatch h
  | tup ts => intro C es h; exact nomatch h
theorem bindT_len : ∀ (t : DL.T) {C : CEnv} {es : List Expr} {ds : List D} {sd sd' : DSt}, chkT t C es true = true → bindT t (.tup ds) sd = some sd' → ds.length = es.length := by
  intro t
  induction t with
  | nil =>
    intro C es ds sd sd' h e
    cases es with
    | nil =>
      cases ds with
      | nil => rfl
      | cons => simp [bindT] at e
    | cons => exact nomatch h
  | cons t ts _ ih =>
    intro C es ds sd sd' h e
    cases es with
    | nil => exact nomatch h
    | cons x xs =>
      simp only [chkT, Bool.and_eq_true, Bool.not_eq_true'] at h
      cases ds with
      | nil => simp [bindT] at e
      | cons d ds =>
        simp only [bindT] at e
        cases e1 : bindT t d sd with
        | none => rw [e1] at e; cases e
        | some s1 => rw [e1] at e; simp [ih h.2 e]
  | name i => intro C es ds sd sd' h e; exact nomatch h
  | tup ts => intro C es ds sd sd' h e; exact nomatch h
theorem chkT_ok (o : XOk T Φ CX k B Ed C X) : ∀ (t : DL.T) (es : List Expr) (b : Bool), chkT t C es b = true →
    (b = false → ∀ e, es = [e] → PG X e (liftG X.kw B t)) ∧ (b = true → PGs X es (liftGs X.kw B t)) := by
  intro t
  induction t with
  | name i =>
    intro es b h
    cases b with
    | true => exact nomatch h
    | false =>
      refine ⟨fun _ e he => ?_, (fun z => nomatch z)⟩
      subst he
      cases e with
      | Name x p =>
        simp only [chkT, Bool.and_eq_true] at h
        have e1 : C.N[i]? = some x := of_decide_eq_true h.1
        obtain ⟨l1, l2⟩ := o.loc h.2
        refine PG.imp (pg_name (by rw [o.N]; exact o.nd) (by rw [o.N]; exact e1) l1 l2) fun v σ H Q ⟨d, sd, hh, sd', r, n, e, q⟩ => ?_
        simp only [bindT, Option.some.injEq] at e
        subst e
        exact q _ ⟨n.rs.set r, n.rh, n.fr⟩ fun vs hv => wipe_set (hv i List.mem_cons_self)
      | _ => exact nomatch h
  | tup ts ih =>
    intro es b h
    cases b with
    | true => exact nomatch h
    | false =>
      refine ⟨fun _ e he => ?_, (fun z => nomatch z)⟩
      subst he
      cases e with
      | Tuple xs kk p =>
        simp only [chkT] at h
        obtain ⟨f1, f2⟩ := assign_facts (env := X.env) h
        refine PG.imp (pg_tup o.calm ((ih xs true h).2 rfl) f1 f2) fun v σ H Q ⟨d, sd, hh, sd', r, n, e, q⟩ => ?_
        cases d with
        | tup ds =>
          cases r with | tup s r =>
          simp only [bindT] at e
          exact ⟨_, _, rfl, s, by rw [← r.length]; exact bindT_len ts h e, ds, sd, hh, sd', r, n, e, q⟩
        | _ => simp [bindT] at e
      | _ => exact nomatch h
  | nil =>
    intro es b h
    cases b with
    | false => exact nomatch h
    | true =>
      refine ⟨(fun z => nomatch z), fun _ => ?_⟩
      cases es with
      | nil =>
        refine PGs.imp pgs_nil fun v σ H Q ⟨ds, sd, hh, sd', r, n, e, q⟩ => ?_
        cases ds with
        | nil =>
          cases r
          simp only [bindT, Option.some.injEq] at e
          subst e
          exact ⟨rfl, q _ n fun _ _ => rfl⟩
        | cons => simp [bindT] at e
      | cons => exact nomatch h
  | cons t ts ih1 ih2 =>
    intro es b h
    cases b with
    | false => exact nomatch h
    | true =>
      refine ⟨(fun z => nomatch z), fun _ => ?_⟩
      cases es with
      | nil => exact nomatch h
      | cons x xs =>
        simp only [chkT, Bool.and_eq_true, Bool.not_eq_true'] at h
        have hs : (assignEach (x :: xs) X.env).map (·.2) = assign x X.env :: (assignEach xs X.env).map (·.2) := by
          rw [assignEach_cons h.1.1]; rfl
        refine PGs.imp (pgs_cons ((ih1 [x] false h.1.2).1 rfl x rfl) ((ih2 xs true h.2).2 rfl) hs) fun v σ H Q ⟨ds, sd, hh, sd', r, n, e, q⟩ => ?_
        cases ds with
        | nil => simp [bindT] at e
        | cons d ds =>
          cases r with | cons r rs =>
          simp only [bindT] at e
          cases e1 : bindT t d sd with
          | none => rw [e1] at e; cases e
          | some s1 =>
            rw [e1] at e
            refine ⟨_, _, rfl, d, sd, hh, s1, r, n, e1, fun σ1 n1 w1 => ⟨ds, s1, hh, sd', rs, n1, e, fun σ2 n2 w2 => q σ2 n2 fun vs hv => ?_⟩⟩
            rw [w2 vs fun i hi => hv i (List.mem_append_right _ hi), w1 vs fun i hi => hv i (List.mem_append_left _ hi)]

/-! ### what is walked -/
def itT (te : TEd) (k : ItK) : TId := fun s h Rd => te s h fun x h1 => itD k x h1 fun items inv => Rd items inv h1
/-- a def's comprehension: the block's context -/
theorem relabel_look {env : Env} {x : Str} {kd : NameKind} : ∀ {names : List (Str × NameKind)}, names.lookup x = some kd →
    (names.map fun (n, k) => if (k == NameKind.free && env.scope.kind == .function && env.kindOf n == some .cell) then (n, NameKind.cell) else (n, k)).lookup x = some kd ∨
    (kd = .free ∧ (names.map fun (n, k) => if (k == NameKind.free && env.scope.kind == .function && env.kindOf n == some .cell) then (n, NameKind.cell) else (n, k)).lookup x = some .cell)
  | [], h => by simp at h
  | (n, k') :: r, h => by
    have ih := @relabel_look env x kd r
    rw [List.map_cons]
    rw [List.lookup_cons] at h
    cases hx : x == n with
    | true =>
      rw [hx] at h
      cases h
      by_cases hc : (kd == NameKind.free && env.scope.kind == .function && env.kindOf n == some .cell) = true
      · refine .inr ⟨?_, ?_⟩
        · simp only [Bool.and_eq_true] at hc
          exact eq_of_beq hc.1.1
        · show List.lookup x ((if (kd == NameKind.free && env.scope.kind == .function && env.kindOf n == some .cell) = true then (n, NameKind.cell) else (n, kd)) :: _) = _
          rw [if_pos hc, List.lookup_cons, hx]
      · left
        show List.lookup x ((if (kd == NameKind.free && env.scope.kind == .function && env.kindOf n == some .cell) = true then (n, NameKind.cell) else (n, kd)) :: _) = _
        rw [if_neg hc, List.lookup_cons, hx]
    | false =>
      rw [hx] at h
      have key : ∀ z, List.lookup x ((if (k' == NameKind.free && env.scope.kind == .function && env.kindOf n == some .cell) = true then (n, NameKind.cell) else (n, k')) :: z) = List.lookup x z := fun z => by
        split <;> rw [List.lookup_cons, hx]
      show List.lookup x ((if (k' == NameKind.free && env.scope.kind == .function && env.kindOf n == some .cell) = true then (n, NameKind.cell) else (n, k')) :: _) = _ ∨ (_ ∧ List.lookup x ((if (k' == NameKind.free && env.scope.kind == .function && env.kindOf n == some .cell) = true then (n, NameKind.cell) else (n, k')) :: _) = _)
      rw [key]
      exact ih h
theorem XOk.blk (o : XOk T Φ CX k B Ed C X) {scope : Scope} {nd : C.N.Nodup} (s : Shared) (H : Hp) (Cc : Addr) (cl : List (Str × Addr)) (fp : List Addr) :
    XOk T Φ CX k B (fun _ _ _ => False) ⟨C.N, scope.names⟩ (X.blk s H scope (compEnvC scope cl Cc X.env) fp) where
  N := o.N
  nd := o.nd
  calm := o.calm
  room := o.room
  rel := fun x y e => relabel_look e
  fnc := fun x e => by
    show (scope.names.lookup x == some .cell) = true
    rw [e]; rfl
  free := o.free
  cst := o.cst
  fns := fun x f e => by
    obtain ⟨fa, fd, a, b, c, d, g⟩ := (o.fns x f e).ex
    exact ⟨fa, fd, a, b, c, d, g⟩
  pass := fun pins σ H' s' e s'' I h => by
    refine absurd h (o.cx _ _ _ _ _ _ fun c od H2 => ?_)
    rintro ⟨_, z, _⟩
    exact z.elim
  own := PassesOwn.never
  cx := o.cx
end DL
namespace DL
open PySem PySem.Spec L2
variable {T : Tab} {Φ : Nat → Ct} {CX : CXT} {k : Nat} {B : Bs} {Ed : XD} {C : CEnv} {X : Cx} {K : KW}

/-- the turn of a comprehension -/
def lcTurn (tg : DL.T) (tc te : TEd) (vs : List Nat) (sd : DSt) : D → DH → (Option D → DH → Prop) → Prop := fun y h1 R => ∃ s1, bindT tg y (dwipe sd vs) = some s1 ∧
  tc s1 h1 fun b h2 => ∃ k, b = .bl k ∧ if k = true then te s1 h2 fun z h3 => R (some z) h3 else R none h2
theorem Frm.patch {h0 h4 : DH} {H0 H4 : Hp} {D : Addr} {u : HO} (f : Frm h0 H0 h4 H4) (nD : H0 D = none) : Frm h0 H0 h4 (upd H4 D u) := fun b o e n => by
  obtain ⟨e1, n1⟩ := f b o e n
  exact ⟨by rw [upd_ne (ne_of_none e nD)]; exact e1, n1⟩
theorem Frm.patchD {h0 h4 : DH} {H0 H4 : Hp} {D : Addr} {u : DO} (f : Frm h0 H0 h4 H4) (nD : H0 D = none) : Frm h0 H0 (updD h4 D u) H4 := fun b o e n => by
  obtain ⟨e1, n1⟩ := f b o e n
  exact ⟨e1, by rw [updD_ne (ne_of_none e nD)]; exact n1⟩
theorem lift_lc {wi : TId} {tg : DL.T} {tc te : TEd} {vs : List Nat} (hv : ∀ i ∈ tSlots tg, i ∈ vs) {σ : L2.St} {H : Hp} {Q : VK}
    (q : lift K B (fun s h Q => wi s h fun items inv h0 => lcD items inv h0 (lcTurn tg tc te vs s) Q) σ H Q) :
    tLc (liftI K B wi) (liftG K B tg) (liftT K B tc) (lift K B te) vs σ H Q := by
  obtain ⟨sd, h, Qd, n, t, k⟩ := q
  refine ⟨sd, h, _, n, t, fun items inv h0 H0 J G q rh0 fr0 wk g0 D nD => ?_⟩
  unfold lcD at q
  obtain ⟨hz, W, w0, wi', step, fin⟩ := q
  have n0 := n.after rh0 fr0
  -- the state at turn i: the new list at D is not told
  refine ⟨fun i m H1 => m = items.length - i ∧ i ≤ items.length ∧ ∃ (acc : List DL.D) (avs : List V) (h1 : DH), W i acc h1 ∧ acc.length ≤ i ∧ Now K B (dwipe sd vs) h1 (L2.wipe σ vs) H1 ∧ Frm h0 H0 h1 H1 ∧ G H1 ∧ H1 D = some (.lst avs) ∧ h1 D = none ∧ RDs K H1 acc avs,
    ⟨items.length, by simp, Nat.zero_le _, [], [], h0, w0, Nat.le_refl _, ⟨(n0.rs.wipe vs).mono (TM.new nD), rh0.newT nD, n0.fr.trans (.newT nD)⟩, .newT nD, wk.mono _ _ (TM.new nD) g0, upd_same, rh0.free nD, .nil⟩, ?_⟩
  rintro i m H1 ⟨rfl, hi, acc, avs, h1, w1, la, n1, f1, g1, eD, hD, ra⟩
  by_cases hlt : i < items.length
  · refine .inr ⟨wk.goes i h1 H1 hlt n1.rh (wi' _ _ _ hi w1) g1, fun H2 => ∃ (acc : List DL.D) (avs : List V) (h1 : DH), W (i + 1) acc h1 ∧ acc.length ≤ i + 1 ∧ Now K B (dwipe sd vs) h1 (L2.wipe σ vs) H2 ∧ Frm h0 H0 h1 H2 ∧ G H2 ∧ H2 D = some (.lst avs) ∧ h1 D = none ∧ RDs K H2 acc avs,
      fun H2 h => ⟨items.length - (i + 1), by omega, rfl, hlt, h⟩, fun x H2 y => ?_⟩
    obtain ⟨d, ed, rd, rh2, fr2⟩ := wk.yields i h1 H1 x H2 hlt n1.rh (wi' _ _ _ hi w1) g1 y
    obtain ⟨s1, eb, tt⟩ := step i d acc h1 ed w1
    have n2 := n1.after rh2 fr2
    obtain ⟨eD2, hD2⟩ := fr2 D _ eD hD
    refine ⟨d, dwipe sd vs, h1, s1, rd, n2, eb, fun σ' n3 w3 => ⟨by rw [w3 vs hv, wipe_wipe], s1, h1, _, n3, tt, fun b h3 H3 q3 rh3 fr3 => ?_⟩⟩
    have n4 := n2.after rh3 fr3
    have n5 := n3.after rh3 fr3
    obtain ⟨eD3, hD3⟩ := fr3 D _ eD2 hD2
    have m1 : TM K H1 H2 := Frm.tm n1.rh fr2
    have m2 : TM K H2 H3 := Frm.tm rh2 fr3
    cases b with
    | false =>
      exact ⟨acc, avs, h3, q3, by omega, n4, (f1.trans fr2).trans fr3, wk.mono _ _ m2 (wk.mono _ _ m1 g1), eD3, hD3, (ra.mono m1).mono m2⟩
    | true =>
      refine ⟨s1, h3, _, n5, q3, fun z h4 v H4 q4 p4 => ?_⟩
      obtain ⟨eD4, hD4⟩ := p4.fr D _ eD3 hD3
      have n6 := n4.after p4.rh p4.fr
      have m3 : TM K H3 H4 := Frm.tm rh3 p4.fr
      have m4 : TM K H4 (upd H4 D (.lst (avs ++ [v]))) := TM.write eD4
      have ln := ra.length
      refine ⟨avs, eD4, by omega, acc ++ [z], avs ++ [v], h4, q4, by simp; omega, ⟨n6.rs.mono m4, fun b p e => ?_, n0.fr.trans ((((f1.trans fr2).trans fr3).trans p4.fr).patch nD)⟩, (((f1.trans fr2).trans fr3).trans p4.fr).patch nD, wk.mono _ _ m4 (wk.mono _ _ m3 (wk.mono _ _ m2 (wk.mono _ _ m1 g1))), upd_same, hD4, ((((ra.mono m1).mono m2).mono m3).append (.cons p4.rd .nil)).mono m4⟩
      · have hb : b ≠ D := fun z => by subst z; rw [hD4] at e; cases e
        exact (n6.rh b p e).mono m4 (upd_ne hb)
  · have e : i = items.length := by omega
    subst e
    refine .inl ⟨wk.stops h1 H1 n1.rh (wi' _ _ _ hi w1) g1, k _ _ _ _ (fin acc h1 w1 D hD) ⟨.ref D, fun b p e => ?_, ?_⟩⟩
    · by_cases hb : b = D
      · subst hb; rw [updD_same] at e; cases e; exact ⟨avs, eD, ra⟩
      · rw [updD_ne hb] at e; exact n1.rh b p e
    · exact fr0.trans (f1.patchD nD)
/-- the turn of a dict comprehension -/
def dcTurn (tg : DL.T) (tc tk tv : TEd) (vs : List Nat) (sd : DSt) : D → DH → (Option (D × D) → DH → Prop) → Prop := fun y h1 R => ∃ s1, bindT tg y (dwipe sd vs) = some s1 ∧
  tc s1 h1 fun b h2 => ∃ k, b = .bl k ∧ if k = true then tk s1 h2 fun z h3 => tv s1 h3 fun w h4 => R (some (z, w)) h4 else R none h2
theorem lift_dc {b : Bool} {wi : TId} {tg : DL.T} {tc tk tv : TEd} {vs : List Nat} (hv : ∀ i ∈ tSlots tg, i ∈ vs) {σ : L2.St} {H : Hp} {Q : VK}
    (q : lift K B (fun s h Q => wi s h fun items inv h0 => dcD b items inv h0 (dcTurn tg tc tk tv vs s) Q) σ H Q) :
    tDcP K (liftI K B wi) (liftG K B tg) (liftT K B tc) (lift K B tk) (lift K B tv) vs σ H Q := by
  obtain ⟨sd, h, Qd, n, t, k⟩ := q
  refine ⟨sd, h, _, n, t, fun items inv h0 H0 J G q rh0 fr0 wk g0 p np hsys => ?_⟩
  unfold dcD at q
  obtain ⟨W, w0, wi', step, fin⟩ := q p o0 (rh0.free np)
  have n0 := n.after rh0 fr0
  refine ⟨fun i m H1 => m = items.length - i ∧ i ≤ items.length ∧ ∃ h1 : DH, W i h1 ∧ Now K B (dwipe sd vs) h1 (L2.wipe σ vs) H1 ∧ Frm h0 H0 h1 H1 ∧ G H1,
    ⟨items.length, by simp, Nat.zero_le _, _, w0, ⟨(n0.rs.wipe vs).mono (TM.new np), rh0.new np ⟨upd_same, o0_ok hsys⟩, n0.fr.trans (.new np)⟩, .new np, wk.mono _ _ (TM.new np) g0⟩, ?_⟩
  rintro i m H1 ⟨rfl, hi, h1, w1, n1, f1, g1⟩
  by_cases hlt : i < items.length
  · refine .inr ⟨wk.goes i h1 H1 hlt n1.rh (wi' _ _ hi w1) g1, fun H2 => ∃ h1 : DH, W (i + 1) h1 ∧ Now K B (dwipe sd vs) h1 (L2.wipe σ vs) H2 ∧ Frm h0 H0 h1 H2 ∧ G H2,
      fun H2 h => ⟨items.length - (i + 1), by omega, rfl, hlt, h⟩, fun x H2 y => ?_⟩
    obtain ⟨d, ed, rd, rh2, fr2⟩ := wk.yields i h1 H1 x H2 hlt n1.rh (wi' _ _ hi w1) g1 y
    obtain ⟨s1, eb, tt⟩ := step i d h1 ed w1
    have n2 := n1.after rh2 fr2
    refine ⟨d, dwipe sd vs, h1, s1, rd, n2, eb, fun σ' n3 w3 => ⟨by rw [w3 vs hv, wipe_wipe], s1, h1, _, n3, tt, fun b' h3 H3 q3 rh3 fr3 => ?_⟩⟩
    have n4 := n2.after rh3 fr3
    have n5 := n3.after rh3 fr3
    have m1 : TM K H1 H2 := Frm.tm n1.rh fr2
    have m2 : TM K H2 H3 := Frm.tm rh2 fr3
    cases b' with
    | false => exact ⟨h3, q3, n4, (f1.trans fr2).trans fr3, wk.mono _ _ m2 (wk.mono _ _ m1 g1)⟩
    | true =>
      refine ⟨s1, h3, _, n5, q3, fun z h4 v H4 q4 p4 => ⟨s1, h4, _, n5.after p4.rh p4.fr, q4, fun z' h5 v' H5 q5 p5 => ?_⟩⟩
      obtain ⟨p', b'', kvs, o, e1, e2, hk, hl, q5⟩ := q5
      cases e1
      have m3 : TM K H3 H4 := Frm.tm rh3 p4.fr
      have m4 : TM K H4 H5 := Frm.tm p4.rh p5.fr
      have n6 := (n4.after p4.rh p4.fr).after p5.rh p5.fr
      refine ⟨h5, z, z', b'', kvs, o, p4.rd.mono m4, p5.rd, p5.rh, e2, hk, hl, fun o' ok => ⟨_, q5 o', ?_, ?_, ?_⟩⟩
      · have m5 : TM K H5 (upd H5 p (PinO p o')) := TM.writeO (p5.rh _ _ e2).1
        exact ⟨n6.rs.mono m5, n6.rh.writeO e2 ok, n6.fr.trans (.write e2)⟩
      · exact ((((f1.trans fr2).trans fr3).trans p4.fr).trans p5.fr).trans (.write e2)
      · exact wk.mono _ _ (TM.writeO (p5.rh _ _ e2).1) (wk.mono _ _ m4 (wk.mono _ _ m3 (wk.mono _ _ m2 (wk.mono _ _ m1 g1))))
  · have e : i = items.length := by omega
    subst e
    exact .inl ⟨wk.stops h1 H1 n1.rh (wi' _ _ hi w1) g1, k _ _ _ _ (fin h1 w1) ⟨.ref p, n1.rh, fr0.trans f1⟩⟩

/-- the turn of the outer loop of one with two fors -/
def dcTurn2 (tg : DL.T) (tc : TEd) (wi1 : TId) (tg1 : DL.T) (tc1 tk tv : TEd) (vs vs1 : List Nat) (sd : DSt) : D → DH → (DH → Prop) → (List D → (DH → Prop) → (D → DH → (Option (D × D) → DH → Prop) → Prop) → DH → Prop) → Prop := fun y h1 sk inr => ∃ s1, bindT tg y (dwipe sd vs) = some s1 ∧
  tc s1 h1 fun b h2 => ∃ k, b = .bl k ∧ if k = true then wi1 s1 h2 fun items1 inv1 h3 => inr items1 inv1 (dcTurn tg1 tc1 tk tv vs1 s1) h3 else sk h2
theorem lift_dc2 {b : Bool} {wi wi1 : TId} {tg tg1 : DL.T} {tc tc1 tk tv : TEd} {vs vs1 : List Nat} (hv : ∀ i ∈ tSlots tg, i ∈ vs) (hv1 : ∀ i ∈ tSlots tg1, i ∈ vs1) {σ : L2.St} {H : Hp} {Q : VK}
    (q : lift K B (fun s h Q => wi s h fun items inv h0 => dcD2 b items inv h0 (dcTurn2 tg tc wi1 tg1 tc1 tk tv vs vs1 s) Q) σ H Q) :
    tDcP2 K (liftI K B wi) (liftG K B tg) (liftT K B tc) (liftI K B wi1) (liftG K B tg1) (liftT K B tc1) (lift K B tk) (lift K B tv) vs vs1 σ H Q := by
  obtain ⟨sd, h, Qd, n, t, k⟩ := q
  refine ⟨sd, h, _, n, t, fun items inv h0 H0 J G q rh0 fr0 wk g0 p np hsys => ?_⟩
  unfold dcD2 at q
  obtain ⟨W, w0, wi', step, fin⟩ := q p o0 (rh0.free np)
  have n0 := n.after rh0 fr0
  refine ⟨fun i m H1 => m = items.length - i ∧ i ≤ items.length ∧ ∃ h1 : DH, W i h1 ∧ Now K B (dwipe sd vs) h1 (L2.wipe σ vs) H1 ∧ Frm h0 H0 h1 H1 ∧ G H1,
    ⟨items.length, by simp, Nat.zero_le _, _, w0, ⟨(n0.rs.wipe vs).mono (TM.new np), rh0.new np ⟨upd_same, o0_ok hsys⟩, n0.fr.trans (.new np)⟩, .new np, wk.mono _ _ (TM.new np) g0⟩, ?_⟩
  rintro i m H1 ⟨rfl, hi, h1, w1, n1, f1, g1⟩
  by_cases hlt : i < items.length
  · refine .inr ⟨wk.goes i h1 H1 hlt n1.rh (wi' _ _ hi w1) g1, fun H2 => ∃ h1 : DH, W (i + 1) h1 ∧ Now K B (dwipe sd vs) h1 (L2.wipe σ vs) H2 ∧ Frm h0 H0 h1 H2 ∧ G H2,
      fun H2 h => ⟨items.length - (i + 1), by omega, rfl, hlt, h⟩, fun x H2 y => ?_⟩
    obtain ⟨d, ed, rd, rh2, fr2⟩ := wk.yields i h1 H1 x H2 hlt n1.rh (wi' _ _ hi w1) g1 y
    obtain ⟨s1, eb, tt⟩ := step i d h1 ed w1
    have n2 := n1.after rh2 fr2
    refine ⟨d, dwipe sd vs, h1, s1, rd, n2, eb, fun σ' n3 w3 => ⟨by rw [w3 vs hv, wipe_wipe], s1, h1, _, n3, tt, fun b' h3 H3 q3 rh3 fr3 => ?_⟩⟩
    have n4 := n2.after rh3 fr3
    have n5 := n3.after rh3 fr3
    have m1 : TM K H1 H2 := Frm.tm n1.rh fr2
    have m2 : TM K H2 H3 := Frm.tm rh2 fr3
    cases b' with
    | false => exact ⟨h3, q3, n4, (f1.trans fr2).trans fr3, wk.mono _ _ m2 (wk.mono _ _ m1 g1)⟩
    | true =>
      refine ⟨s1, h3, _, n5, q3, fun items1 inv1 h4 H4 J1 G1 q4 rh4 fr4 wk1 g4 => ?_⟩
      obtain ⟨W1, w10, wi1', step1, fin1⟩ := q4
      have n6 := n4.after rh4 fr4
      have n7 := n5.after rh4 fr4
      have m3 : TM K H3 H4 := Frm.tm rh3 fr4
      have gO := wk.mono _ _ m3 (wk.mono _ _ m2 (wk.mono _ _ m1 g1))
      have fO := ((f1.trans fr2).trans fr3).trans fr4
      refine ⟨fun j m H5 => m = items1.length - j ∧ j ≤ items1.length ∧ ∃ h5 : DH, W1 j h5 ∧ Now K B (dwipe sd vs) h5 (L2.wipe σ vs) H5 ∧ Now K B (dwipe s1 vs1) h5 (L2.wipe σ' vs1) H5 ∧ Frm h0 H0 h5 H5 ∧ G H5 ∧ G1 H5,
        ⟨items1.length, by simp, Nat.zero_le _, h4, w10, n6, ⟨n7.rs.wipe vs1, n7.rh, n7.fr⟩, fO, gO, g4⟩, ?_⟩
      rintro j m H5 ⟨rfl, hj, h5, w5, a5, b5, f5, gO5, g5⟩
      by_cases hlt1 : j < items1.length
      · refine .inr ⟨wk1.goes j h5 H5 hlt1 a5.rh (wi1' _ _ hj w5) g5, fun H6 => ∃ h6 : DH, W1 (j + 1) h6 ∧ Now K B (dwipe sd vs) h6 (L2.wipe σ vs) H6 ∧ Now K B (dwipe s1 vs1) h6 (L2.wipe σ' vs1) H6 ∧ Frm h0 H0 h6 H6 ∧ G H6 ∧ G1 H6,
          fun H6 h => ⟨items1.length - (j + 1), by omega, rfl, hlt1, h⟩, fun x1 H6 y1 => ?_⟩
        obtain ⟨d1, ed1, rd1, rh6, fr6⟩ := wk1.yields j h5 H5 x1 H6 hlt1 a5.rh (wi1' _ _ hj w5) g5 y1
        obtain ⟨s2, eb1, tt1⟩ := step1 j d1 h5 ed1 w5
        have a6 := a5.after rh6 fr6
        have b6 := b5.after rh6 fr6
        refine ⟨d1, dwipe s1 vs1, h5, s2, rd1, b6, eb1, fun σ'' n8 w8 => ⟨by rw [w8 vs1 hv1, wipe_wipe], s2, h5, _, n8, tt1, fun b'' h7 H7 q7 rh7 fr7 => ?_⟩⟩
        have a7 := a6.after rh7 fr7
        have b7 := b6.after rh7 fr7
        have n9 := n8.after rh7 fr7
        have m5 : TM K H5 H6 := Frm.tm a5.rh fr6
        have m6 : TM K H6 H7 := Frm.tm rh6 fr7
        have g7 := wk1.mono _ _ m6 (wk1.mono _ _ m5 g5)
        have gO7 := wk.mono _ _ m6 (wk.mono _ _ m5 gO5)
        have f7 := (f5.trans fr6).trans fr7
        cases b'' with
        | false => exact ⟨h7, q7, a7, b7, f7, gO7, g7⟩
        | true =>
          refine ⟨s2, h7, _, n9, q7, fun z h8 v H8 q8 p8 => ⟨s2, h8, _, n9.after p8.rh p8.fr, q8, fun z' h9 v' H9 q9 p9 => ?_⟩⟩
          obtain ⟨p', b3, kvs, o, e1, e2, hk, hl, q9⟩ := q9
          cases e1
          have m7 : TM K H7 H8 := Frm.tm rh7 p8.fr
          have m8 : TM K H8 H9 := Frm.tm p8.rh p9.fr
          have a9 := (a7.after p8.rh p8.fr).after p9.rh p9.fr
          have b9 := (b7.after p8.rh p8.fr).after p9.rh p9.fr
          refine ⟨h9, z, z', b3, kvs, o, p8.rd.mono m8, p9.rd, p9.rh, e2, hk, hl, fun o' ok => ⟨_, q9 o', ?_, ?_, ?_, ?_, ?_⟩⟩
          · have m9 : TM K H9 (upd H9 p (PinO p o')) := TM.writeO (p9.rh _ _ e2).1
            exact ⟨a9.rs.mono m9, a9.rh.writeO e2 ok, a9.fr.trans (.write e2)⟩
          · have m9 : TM K H9 (upd H9 p (PinO p o')) := TM.writeO (p9.rh _ _ e2).1
            exact ⟨b9.rs.mono m9, b9.rh.writeO e2 ok, b9.fr.trans (.write e2)⟩
          · exact ((f7.trans p8.fr).trans p9.fr).trans (.write e2)
          · exact wk.mono _ _ (TM.writeO (p9.rh _ _ e2).1) (wk.mono _ _ m8 (wk.mono _ _ m7 gO7))
          · exact wk1.mono _ _ (TM.writeO (p9.rh _ _ e2).1) (wk1.mono _ _ m8 (wk1.mono _ _ m7 g7))
      · have e : j = items1.length := by omega
        subst e
        exact .inl ⟨wk1.stops h5 H5 a5.rh (wi1' _ _ hj w5) g5, h5, fin1 h5 w5, a5, f5, gO5⟩
  · have e : i = items.length := by omega
    subst e
    exact .inl ⟨wk.stops h1 H1 n1.rh (wi' _ _ hi w1) g1, k _ _ _ _ (fin h1 w1) ⟨.ref p, n1.rh, fr0.trans f1⟩⟩

/-! ### the whole of it -/
def Good (T : Tab) (Φ : Nat → Ct) (B : Bs) (Ed : XD) (ir : E) (X : Cx) : Nd → Prop
  | .e x => PE X x (lift X.kw B (xE T.cs Φ Ed ir))
  | .t x => PT X x (liftT X.kw B (xE T.cs Φ Ed ir))
  | .w op xs => ∀ pos, PW X (.BoolOp op xs pos) (liftT X.kw B (xE T.cs Φ Ed ir))
  | .a xs => PA X xs (liftA X.kw B (xE T.cs Φ Ed ir))
  | .sa xs => PA X xs (liftA X.kw B (xE T.cs Φ Ed ir))
  | .k kws => PK X kws (liftA X.kw B (xE T.cs Φ Ed ir))
theorem itNode_ok (o : XOk T Φ CX k B Ed C X) {ik : ItK} {tg x : Expr} {nd : Nd} {src : E} (e : itNode T C ik tg x = some nd) (g : Good T Φ B Ed src X nd) : PI X tg x (liftI X.kw B (itT (xE T.cs Φ Ed src) ik)) := by
  cases ik with
  | val =>
    simp only [itNode] at e
    split at e
    · cases e
    · cases e
      exact PI.imp (pi_any g) fun _ _ _ q => lift_iVal q
  | range1 =>
    simp only [itNode] at e
    split at e
    · split at e
      · rename_i h
        simp only [Bool.and_eq_true, Bool.not_eq_true', decide_eq_true_eq] at h
        obtain ⟨⟨⟨rfl, h2⟩, h3⟩, h4⟩ := h
        cases e
        exact PI.imp (pi_range1 (o.gl h2) (o.free _ h3) g (starEach_cons h4)) fun _ _ _ q => lift_iRange1 q
      · cases e
    · cases e
  | range2 =>
    simp only [itNode] at e
    split at e
    · split at e
      · rename_i h
        simp only [Bool.and_eq_true, Bool.not_eq_true', decide_eq_true_eq] at h
        obtain ⟨⟨⟨⟨rfl, h2⟩, h3⟩, h4⟩, h5⟩ := h
        cases e
        exact PI.imp (pi_range2 (o.gl h2) (o.free _ h3) g (by rw [starEach_cons h4, starEach_cons h5]; rfl) (starEach_cons h5)) fun _ _ _ q => lift_iRange2 q
      · cases e
    · cases e
  | enum =>
    simp only [itNode] at e
    split at e
    · split at e
      · rename_i h
        simp only [Bool.and_eq_true, Bool.not_eq_true', decide_eq_true_eq] at h
        obtain ⟨⟨⟨⟨rfl, h2⟩, h3⟩, h4⟩, h5⟩ := h
        cases e
        cases tg with
        | Tuple es kk tp => exact PI.imp (pi_enumA (o.gl h2) (o.free _ h3) g (starEach_cons h4)) fun _ _ _ q => lift_iEnum q
        | _ => exact nomatch h5
      · cases e
    · cases e
  | zip =>
    simp only [itNode] at e
    split at e
    · split at e
      · rename_i h
        simp only [Bool.and_eq_true, Bool.not_eq_true', decide_eq_true_eq] at h
        obtain ⟨⟨⟨⟨⟨rfl, h2⟩, h3⟩, h4⟩, h5⟩, h6⟩ := h
        cases e
        cases tg with
        | Tuple es kk tp => exact PI.imp (pi_zip (o.gl h2) (o.free _ h3) g (starEach_cons h4) (starEach_no (by simp [h5]))) fun _ _ _ q => lift_iZip q
        | _ => exact nomatch h6
      · cases e
    · cases e
  | items =>
    simp only [itNode] at e
    split at e
    · split at e
      · rename_i h
        simp only [Bool.and_eq_true, decide_eq_true_eq] at h
        obtain ⟨⟨⟨rfl, h2⟩, h3⟩, h4⟩ := h
        cases e
        cases tg with
        | Tuple es kk tp => exact PI.imp (pi_itemsP g (noSup_ok h2) h3) fun _ _ _ q => lift_items q
        | _ => exact nomatch h4
      · cases e
    · cases e
  | vals =>
    simp only [itNode] at e
    split at e
    · split at e
      · rename_i h
        simp only [Bool.and_eq_true, decide_eq_true_eq] at h
        obtain ⟨⟨rfl, h2⟩, h3⟩ := h
        cases e
        exact PI.imp (pi_valsP g (noSup_ok h2) h3) fun _ _ _ q => lift_vals q
      · cases e
    · cases e
theorem chk_nil {ir : E} (h : chk T ir C (.a []) = true) : ir = .nil := by
  cases ir <;> first | rfl | simp [chk] at h
theorem isTrueC_ok {c : E} (h : isTrueC c = true) : c = .cst (.bl true) := by
  unfold isTrueC at h
  split at h
  · rfl
  · cases h
theorem isAbs_ok {c : E} (h : isAbs c = true) : c = .absent := by
  cases c <;> first | rfl | exact nomatch h
theorem blt_ok (o : XOk T Φ CX k B Ed C X) {b : Blt} {p pos : Pos} {e : Expr} {es : List Expr} {t : TEd} (hg : Gl X (bltN b)) (hm : X.mg (bltN b) = none) (ha : PA X (e :: es) (liftA X.kw B t)) (hs : ((e :: es).all fun e => !isStar e) = true) :
    PE X (.Call (.Name (bltN b) p) (e :: es) [] pos) (tCB (liftC X.kw (bltD b)) (liftA X.kw B t)) := by
  rw [List.all_cons, Bool.and_eq_true, Bool.not_eq_true'] at hs
  have h1 := starEach_cons (es := es) (env := X.env) hs.1
  have h2 := starEach_no (env := X.env) (pos := pos) hs.2
  cases b with
  | len => exact pe_callB b_len hg hm (by decide +kernel) ha (by decide) (by decide) h1 h2
  | int => exact pe_callTy b_int hg hm (by decide +kernel) ha (by decide) (by decide) h1 h2
  | abs => exact pe_callB b_abs hg hm (by decide +kernel) ha (by decide) (by decide) h1 h2
  | min => exact pe_callB (b_min o.calm) hg hm (by decide +kernel) ha (by decide) (by decide) h1 h2
  | max => exact pe_callB (b_max o.calm) hg hm (by decide +kernel) ha (by decide) (by decide) h1 h2
  | list => exact pe_callTy b_list hg hm (by decide +kernel) ha (by decide) (by decide) h1 h2
  | tuple => exact pe_callTy b_tuple hg hm (by decide +kernel) ha (by decide) (by decide) h1 h2
  | sum => exact pe_callB (b_sum o.calm) hg hm (by decide +kernel) ha (by decide) (by decide) h1 h2
  | any => exact pe_callB (b_any o.calm) hg hm (by decide +kernel) ha (by decide) (by decide) h1 h2
  | all => exact pe_callB (b_all o.calm) hg hm (by decide +kernel) ha (by decide) (by decide) h1 h2
  | str => exact pe_callTy b_str hg hm (by decide +kernel) ha (by decide) (by decide) h1 h2
  | ord => exact pe_callB b_ord hg hm (by decide +kernel) ha (by decide) (by decide) h1 h2
  | sorted => exact pe_callB (b_sorted o.calm o.room.units) hg hm (by decide +kernel) ha (by decide) (by decide) h1 h2
  | set => exact pe_callTy (b_set o.calm) hg hm (by decide +kernel) ha (by decide) (by decide) h1 h2
  | range => exact pe_callTy b_range hg hm (by decide +kernel) ha (by decide) (by decide) h1 h2
end DL
namespace DL
open PySem PySem.Spec L2
variable {T : Tab} {Φ : Nat → Ct} {CX : CXT} {k : Nat} {B : Bs} {K : KW}

theorem pw_two {X : Cx} {x y : Expr} {pos : Pos} {a b : TT} (ha : PT X x a) (hb : PT X y b) : PW X (.BoolOp .And [x, y] pos) (tAnd a b) := pw_and ha (pw_and1 hb)
theorem pw_two' {X : Cx} {x y : Expr} {pos : Pos} {a b : TT} (ha : PT X x a) (hb : PT X y b) : PW X (.BoolOp .Or [x, y] pos) (tOr a b) := pw_or ha (pw_or1 hb)
theorem chk_ok : ∀ (ir : E) (C : CEnv) (nd : Nd) (X : Cx) (Ed : XD), chk T ir C nd = true → XOk T Φ CX k B Ed C X → Good T Φ B Ed ir X nd := by
  intro ir
  induction ir with
  | var i =>
    intro C nd X Ed h o
    unfold chk at h
    split at h
    · simp only [Bool.and_eq_true, decide_eq_true_eq] at h
      obtain ⟨⟨h1, h2⟩, h3⟩ := h
      obtain ⟨p1, p2⟩ := plain3 h3
      refine PE.imp (pe_var (by rw [o.N]; exact h1) (o.vis h2) p1 p2) fun σ H Q ⟨sd, hh, Qd, n, ⟨d, e, q⟩, kk⟩ => ?_
      obtain ⟨v, e1, r⟩ := n.rs.at_ i d e
      exact ⟨v, e1, kk _ _ _ _ q ⟨r, n.rh, .refl _ _⟩⟩
    · cases h
  | cst d =>
    intro C nd X Ed h o
    unfold chk at h
    split at h
    · exact cstB_ok h
    · cases h
  | glb j =>
    intro C nd X Ed h o
    unfold chk at h
    split at h
    · simp only [Bool.and_eq_true, decide_eq_true_eq] at h
      obtain ⟨⟨h1, h2⟩, h3⟩ := h
      obtain ⟨u, v, e1, r, rd⟩ := o.cst _ _ h1
      exact PE.imp (pe_glob (o.gl h2) e1 r (plain3 h3).1) fun σ H Q ⟨sd, hh, Qd, n, q, kk⟩ => kk _ _ _ _ q ⟨rd H, n.rh, .refl _ _⟩
    · cases h
  | bin op a b iha ihb =>
    intro C nd X Ed h o
    unfold chk at h
    split at h
    · simp only [Bool.and_eq_true, decide_eq_true_eq] at h
      obtain ⟨⟨rfl, h1⟩, h2⟩ := h
      exact PE.imp (pe_op (op_binD op) (iha C _ X Ed h1 o) (ihb C _ X Ed h2 o)) fun σ H Q q => lift_bin q
    · cases h
  | neg a iha =>
    intro C nd X Ed h o
    unfold chk at h
    split at h
    · exact PE.imp (pe_un un_negD (iha C _ X Ed h o)) fun σ H Q q => lift_un q
    · cases h
  | cmp op a b iha ihb =>
    intro C nd X Ed h o
    unfold chk at h
    split at h
    · simp only [Bool.and_eq_true, decide_eq_true_eq, Bool.not_eq_true'] at h
      obtain ⟨⟨⟨rfl, h0⟩, h1⟩, h2⟩ := h
      exact PE.imp (pe_cmpR (op_cmpD o.room op) (iha C _ X Ed h1 o) (ihb C _ X Ed h2 o) h0) fun σ H Q q => lift_bin (rd := rdC op) q
    · simp only [Bool.and_eq_true, decide_eq_true_eq, Bool.not_eq_true'] at h
      obtain ⟨⟨⟨rfl, h0⟩, h1⟩, h2⟩ := h
      exact PT.imp (pt_cmpR (op_cmpD o.room op) (iha C _ X Ed h1 o) (ihb C _ X Ed h2 o) h0) fun σ H Q q => lift_test q
    · cases h
  | cmp2 op op' a b c iha ihb ihc =>
    intro C nd X Ed h o
    unfold chk at h
    split at h
    · simp only [Bool.and_eq_true, decide_eq_true_eq, Bool.not_eq_true'] at h
      obtain ⟨⟨⟨⟨⟨rfl, rfl⟩, h0⟩, h1⟩, h2⟩, h3⟩ := h
      exact PE.imp (pe_chain (op_cmpD o.room op) (op_cmpD o.room op') (iha C _ X Ed h1 o) (ihb C _ X Ed h2 o) (ihc C _ X Ed h3 o) h0) fun σ H Q q => lift_chain q
    · simp only [Bool.and_eq_true, decide_eq_true_eq, Bool.not_eq_true'] at h
      obtain ⟨⟨⟨⟨⟨rfl, rfl⟩, h0⟩, h1⟩, h2⟩, h3⟩ := h
      exact PT.imp (pt_chain (op_cmpD o.room op) (op_cmpD o.room op') (iha C _ X Ed h1 o) (ihb C _ X Ed h2 o) (ihc C _ X Ed h3 o) h0) fun σ H Q q => lift_chainT q
    · cases h
  | dnew b =>
    intro C nd X Ed h o
    unfold chk at h
    split at h
    · exact pe_dnewD
    · cases h
  | dmk b kx vx ihk ihv =>
    intro C nd X Ed h o
    unfold chk at h
    split at h
    · simp only [Bool.and_eq_true] at h
      exact PE.imp (pe_dmk (b := b) o.room.units (ihk C _ X Ed h.1 o) (ihv C _ X Ed h.2 o)) fun σ H Q q => lift_dmk q
    · cases h
  | truth a iha =>
    intro C nd X Ed h o
    unfold chk at h
    split at h
    · simp only [Bool.and_eq_true] at h
      exact PT.imp (pt_truth (iha C _ X Ed h.2 o) (truthB_ok h.1)) fun σ H Q q => lift_truth q
    · cases h
  | notB a iha =>
    intro C nd X Ed h o
    unfold chk at h
    split at h
    · exact PT.imp (pt_not (iha C _ X Ed h o)) fun σ H Q q => lift_notT q
    · cases h
  | andB a b iha ihb =>
    intro C nd X Ed h o
    unfold chk at h
    split at h
    · simp only [Bool.and_eq_true] at h
      exact PT.imp (PW.pt (pw_two (iha C _ X Ed h.1 o) (ihb C _ X Ed h.2 o))) fun σ H Q q => lift_andT q
    · simp only [Bool.and_eq_true] at h
      exact PT.imp (PW.pt (pw_and (iha C _ X Ed h.1 o) (ihb C _ X Ed h.2 o _))) fun σ H Q q => lift_andT q
    · simp only [Bool.and_eq_true] at h
      exact fun pos => PW.imp (pw_two (iha C _ X Ed h.1 o) (ihb C _ X Ed h.2 o)) fun σ H Q q => lift_andT q
    · simp only [Bool.and_eq_true] at h
      exact fun pos => PW.imp (pw_and (iha C _ X Ed h.1 o) (ihb C _ X Ed h.2 o _)) fun σ H Q q => lift_andT q
    · cases h
  | orB a b iha ihb =>
    intro C nd X Ed h o
    unfold chk at h
    split at h
    · simp only [Bool.and_eq_true] at h
      exact PT.imp (PW.pt (pw_two' (iha C _ X Ed h.1 o) (ihb C _ X Ed h.2 o))) fun σ H Q q => lift_orT q
    · simp only [Bool.and_eq_true] at h
      exact PT.imp (PW.pt (pw_or (iha C _ X Ed h.1 o) (ihb C _ X Ed h.2 o _))) fun σ H Q q => lift_orT q
    · simp only [Bool.and_eq_true] at h
      exact fun pos => PW.imp (pw_two' (iha C _ X Ed h.1 o) (ihb C _ X Ed h.2 o)) fun σ H Q q => lift_orT q
    · simp only [Bool.and_eq_true] at h
      exact fun pos => PW.imp (pw_or (iha C _ X Ed h.1 o) (ihb C _ X Ed h.2 o _)) fun σ H Q q => lift_orT q
    · cases h
  | notV a iha =>
    intro C nd X Ed h o
    unfold chk at h
    split at h
    · exact PE.imp (pe_notT (iha C _ X Ed h o)) fun σ H Q q => lift_notV q
    · cases h
  | andV a b iha ihb =>
    intro C nd X Ed h o
    unfold chk at h
    split at h
    · simp only [Bool.and_eq_true] at h
      exact PE.imp (pe_andT (iha C _ X Ed h.1 o) (pe_one (ihb C _ X Ed h.2 o))) fun σ H Q q => lift_andV q
    · simp only [Bool.and_eq_true] at h
      exact PE.imp (pe_andT (iha C _ X Ed h.1 o) (ihb C _ X Ed h.2 o)) fun σ H Q q => lift_andV q
    · cases h
  | orV a b iha ihb =>
    intro C nd X Ed h o
    unfold chk at h
    split at h
    · simp only [Bool.and_eq_true] at h
      exact PE.imp (pe_orT (iha C _ X Ed h.1 o) (pe_one (ihb C _ X Ed h.2 o))) fun σ H Q q => lift_orV q
    · simp only [Bool.and_eq_true] at h
      exact PE.imp (pe_orT (iha C _ X Ed h.1 o) (ihb C _ X Ed h.2 o)) fun σ H Q q => lift_orV q
    · cases h
  | ife c a b ihc iha ihb =>
    intro C nd X Ed h o
    unfold chk at h
    split at h
    · simp only [Bool.and_eq_true] at h
      exact PE.imp (pe_ifExp (ihc C _ X Ed h.1.1 o) (iha C _ X Ed h.1.2 o) (ihb C _ X Ed h.2 o)) fun σ H Q q => lift_ife q
    · cases h
  | tup es ih =>
    intro C nd X Ed h o
    unfold chk at h
    split at h
    · exact PE.imp (pe_tup (ih C _ X Ed h o)) fun σ H Q q => lift_tup q
    · cases h
  | lst es ih =>
    intro C nd X Ed h o
    unfold chk at h
    split at h
    · rw [Bool.or_eq_true] at h
      rcases h with h | h
      · exact PE.imp (pe_lst (ih C _ X Ed h o)) fun σ H Q q => lift_lst q
      · exact PE.imp (pe_lst (ih C _ X Ed h o)) fun σ H Q q => lift_lst q
    · cases h
  | nil =>
    intro C nd X Ed h o
    unfold chk at h
    split at h
    · exact PA.imp pa_nil fun σ H Q q => lift_nil q
    · exact PK.imp pk_nil fun σ H Q q => lift_nil q
    · cases h
  | cons e es ih1 ih2 =>
    intro C nd X Ed h o
    unfold chk at h
    split at h
    · simp only [Bool.and_eq_true, Bool.not_eq_true'] at h
      exact PA.imp (pa_cons (ih1 C _ X Ed h.1.2 o) (ih2 C _ X Ed h.2 o) (starEach_cons h.1.1)) fun σ H Q q => lift_cons q
    · simp only [Bool.and_eq_true] at h
      exact PK.imp (pk_cons (ih1 C _ X Ed h.1 o) (ih2 C _ X Ed h.2 o)) fun σ H Q q => lift_cons q
    · cases h
  | sub a i iha ihi =>
    intro C nd X Ed h o
    unfold chk at h
    split at h
    · simp only [Bool.and_eq_true, Bool.not_eq_true'] at h
      exact PE.imp (pe_ix (ix_D o.room.units) (iha C _ X Ed h.1.2 o) (ihi C _ X Ed h.2 o) (slc_plain h.1.1)) fun σ H Q q => lift_bin q
    · cases h
  | slice bl bh a lo hi iha ihl ihh =>
    intro C nd X Ed h o
    unfold chk at h
    split at h
    · simp only [Bool.and_eq_true] at h
      obtain ⟨⟨h1, h2⟩, h3⟩ := h
      have pl : ∀ {b : Bool} {ir : E} {x : Option Expr}, chkO (fun n => chk T ir C n) b x (isAbs ir) = true → (∀ (C : CEnv) (nd : Nd) (X : Cx) (Ed : XD), chk T ir C nd = true → XOk T Φ CX k B Ed C X → Good T Φ B Ed ir X nd) → PO X x (liftO X.kw B b (xE T.cs Φ Ed ir)) := by
        intro b ir x hx ih
        cases b with
        | false =>
          simp only [chkO, Bool.and_eq_true] at hx
          cases x with
          | some => exact nomatch hx.1
          | none => rw [isAbs_ok hx.2]; exact po_abs
        | true =>
          cases x with
          | none => exact nomatch hx
          | some e => exact po_lift (ih C _ X Ed hx o)
      exact PE.imp (pe_slice sl_D (iha C _ X Ed h1 o) (pl h2 ihl) (pl h3 ihh)) fun σ H Q q => lift_slice q
    · cases h
  | absent =>
    intro C nd X Ed h o
    unfold chk at h
    cases h
  | rev a iha =>
    intro C nd X Ed h o
    unfold chk at h
    split at h
    · exact PE.imp (pe_revT (iha C _ X Ed h o)) fun σ H Q q => lift_rev q
    · cases h
  | sset a iha =>
    intro C nd X Ed h o
    unfold chk at h
    split at h
    · simp only [Bool.and_eq_true, decide_eq_true_eq, Bool.not_eq_true'] at h
      obtain ⟨⟨⟨⟨⟨⟨⟨rfl, rfl⟩, h1⟩, h2⟩, h3⟩, h4⟩, h5⟩, h6⟩ := h
      exact PE.imp (pe_sset o.calm o.room.units (o.gl h1) (o.free _ h3) (o.gl h2) (o.free _ h4) (iha C _ X Ed h6 o) (starEach_cons h5)) fun σ H Q q => lift_sset q
    · cases h
  | lset a iha =>
    intro C nd X Ed h o
    unfold chk at h
    split at h
    · simp only [Bool.and_eq_true, decide_eq_true_eq, Bool.not_eq_true'] at h
      obtain ⟨⟨⟨⟨⟨⟨⟨rfl, rfl⟩, h1⟩, h2⟩, h3⟩, h4⟩, h5⟩, h6⟩ := h
      exact PE.imp (pe_lset o.calm o.room.units (o.gl h1) (o.free _ h3) (o.gl h2) (o.free _ h4) (iha C _ X Ed h6 o) (starEach_cons h5)) fun σ H Q q => lift_lset q
    · cases h
  | snil =>
    intro C nd X Ed h o
    unfold chk at h
    split at h
    · exact PA.imp pa_nil fun σ H Q q => lift_nil q
    · cases h
  | scons b e es ih1 ih2 =>
    intro C nd X Ed h o
    unfold chk at h
    split at h
    · simp only [Bool.and_eq_true] at h
      obtain ⟨⟨rfl, h1⟩, h2⟩ := h
      exact PA.imp (StX.pa_star (ih1 C _ X Ed h1 o) (ih2 C _ X Ed h2 o)) fun σ H Q q => lift_scT q
    · simp only [Bool.and_eq_true, Bool.not_eq_true'] at h
      obtain ⟨⟨⟨rfl, h0⟩, h1⟩, h2⟩ := h
      exact PA.imp (pa_cons (ih1 C _ X Ed h1 o) (ih2 C _ X Ed h2 o) (starEach_cons h0)) fun σ H Q q => lift_scF q
    · cases h
  | call f es ih =>
    intro C nd X Ed h o
    unfold chk at h
    split at h
    · rename_i x p args pos
      simp only [Bool.and_eq_true, decide_eq_true_eq] at h
      obtain ⟨⟨⟨h1, h2⟩, h3⟩, h4⟩ := h
      obtain ⟨fa, fd, a1, a2, a3, a4, _⟩ := (o.fns _ _ h1).ex
      have hs := chk_stars es C args h4
      cases args with
      | nil =>
        have e := chk_nil h4
        subst e
        exact PE.imp (pe_call0 a3 o.room (o.gl h2) a1 a2 a4 .nil o.pass (plain3 h3).1) fun σ H Q q => lift_call0 q
      | cons e args =>
        rw [List.all_cons, Bool.and_eq_true, Bool.not_eq_true'] at hs
        exact PE.imp (pe_call a3 o.room (o.gl h2) a1 a2 a4 .nil o.pass (ih C _ X Ed h4 o) (plain3 h3).1 (starEach_cons hs.1) (starEach_no hs.2)) fun σ H Q q => lift_call q
    · cases h
  | callK f m ks π es kes ih1 ih2 =>
    intro C nd X Ed h o
    unfold chk at h
    split at h
    · rename_i x p args kws pos
      simp only [Bool.and_eq_true, decide_eq_true_eq, shOk] at h
      obtain ⟨⟨⟨⟨⟨⟨⟨⟨h1, h2⟩, h3⟩, h4⟩, h5⟩, h6⟩, h7⟩, h8⟩, h9⟩ := h
      obtain ⟨fa, fd, a1, a2, a3, _, a5⟩ := (o.fns _ _ h1).ex
      have hs := chk_stars es C args h8
      obtain ⟨k1, k2, k3⟩ := kw_facts (env := X.env) (pos := pos) h5
      cases args with
      | nil =>
        have e := chk_nil h8
        subst e
        subst h4
        refine PE.imp (pe_callN0 a3 o.room (o.gl h2) a1 a2 (a5 _ _ _ h7) o.pass (ih2 C _ X Ed h9 o) k1 k2 (plain3 h3).1 ?_) fun σ H Q q => lift_callK0 q
        show (false || _) = false
        rw [k3]; rfl
      | cons e args =>
        rw [List.all_cons, Bool.and_eq_true, Bool.not_eq_true'] at hs
        refine PE.imp (pe_callN a3 o.room (o.gl h2) a1 a2 (a5 _ _ _ h7) o.pass (ih1 C _ X Ed h8 o) (ih2 C _ X Ed h9 o) k1 k2 (plain3 h3).1 (starEach_cons hs.1) ?_) fun σ H Q q => lift_callK q
        rw [k3, Bool.or_false]
        exact starEach_no (by rw [List.all_cons, Bool.and_eq_true, Bool.not_eq_true']; exact hs)
    · cases h
  | blt b es ih =>
    intro C nd X Ed h o
    unfold chk at h
    split at h
    · simp only [Bool.and_eq_true, decide_eq_true_eq] at h
      obtain ⟨⟨⟨rfl, h2⟩, h3⟩, h4⟩ := h
      exact PE.imp (blt_ok o (o.gl h2) (o.free _ h3) (ih C _ X Ed h4 o) (chk_stars es C _ h4)) fun σ H Q q => lift_blt q
    · cases h
  | isi t a ih =>
    intro C nd X Ed h o
    unfold chk at h
    split at h
    · rename_i x p y z q pos
      simp only [Bool.and_eq_true, decide_eq_true_eq, Bool.not_eq_true'] at h
      obtain ⟨⟨⟨⟨⟨⟨⟨⟨rfl, rfl⟩, h2⟩, h3⟩, h4⟩, h5⟩, h6⟩, h7⟩, h8⟩ := h
      have bt : ∀ t : Ty, t ≠ .none → bootBuiltins (tyNmS t) = some (.type (tyNm t)) ∧ tyNmS t ≠ "__name__" ∧ (tyNmS t == ("__debug__" : Str)) = false := fun t ht => by
        cases t <;> first | exact absurd rfl ht | exact ⟨by decide +kernel, by decide +kernel, by decide +kernel⟩
      obtain ⟨b1, b2, b3⟩ := bt t h6
      refine PE.imp (pe_callB call_isY (o.gl h2) (o.free _ h4) (by decide +kernel) (pa_cons (ih C _ X Ed h8 o) (pa_cons (pe_bltn (v := .ty (tyNm t)) (o.gl h3) (o.free _ h5) b1 rfl b2 b3) pa_nil) (starEach_cons h7)) (by decide) (by decide) (starEach_cons h7)) fun σ H Q q => lift_isi h6 q
    · cases h
  | mth m oo es ih1 ih2 =>
    intro C nd X Ed h o
    unfold chk at h
    split at h
    · rename_i x nm ap args cp
      simp only [Bool.and_eq_true, decide_eq_true_eq] at h
      obtain ⟨⟨⟨⟨⟨⟨rfl, h2⟩, h3⟩, h4⟩, h5⟩, h6⟩, h7⟩ := h
      have hs := chk_stars es C args h7
      have hb : ∀ m : Str, attributeBase x m X.env (eval x X.env) = eval x X.env := fun m => noSup_ok h2
      have few : ∀ (e : Expr) (es : List Expr), ((e :: es).all fun e => !isStar e) = true → (e :: es).length < 20 → ((backTo cp (starEach (e :: es) X.env)).all (fun x => !x.1) && (backToKw cp (keywordEach [] X.env)).all (fun x => x.1.isSome)
          && decide ((e :: es).length + ([] : List Keyword).length + (if ([] : List Keyword).isEmpty then 0 else 1) < 30)) = true := fun e es hs hl => by
        have z := starEach_no (env := X.env) (pos := cp) hs
        have z2 : (backTo cp (starEach (e :: es) X.env)).all (fun x => !x.1) = true := by
          rw [List.all_eq_not_any_not]
          simp only [Bool.not_not]
          rw [z]; rfl
        rw [z2]
        have : decide ((e :: es).length + ([] : List Keyword).length + (if ([] : List Keyword).isEmpty then 0 else 1) < 30) = true := decide_eq_true (by
          have e0 : ([] : List Keyword).length = 0 := rfl
          have e1 : (if ([] : List Keyword).isEmpty then 0 else 1) = 0 := rfl
          rw [e0, e1]; omega)
        rw [this]; rfl
      cases m with
      | append =>
        cases args with
        | nil => exact nomatch h5
        | cons e args =>
          have hs' := hs
          rw [List.all_cons, Bool.and_eq_true, Bool.not_eq_true'] at hs'
          exact PE.imp (pe_bm PySem.F.plainAttrs_list PySem.F.slot_list_append PySem.F.type_list_append m_append (ih1 C _ X Ed h6 o) (ih2 C _ X Ed h7 o) (hb _) (few _ _ hs h4) h3 (starEach_cons hs'.1) (starEach_no hs'.2)) fun σ H Q q => lift_mth (fun d h v H a b c => mthT_list (by decide) a b c) q
      | extend =>
        cases args with
        | nil => exact nomatch h5
        | cons e args =>
          have hs' := hs
          rw [List.all_cons, Bool.and_eq_true, Bool.not_eq_true'] at hs'
          exact PE.imp (pe_bm PySem.F.plainAttrs_list PySem.F.slot_list_extend PySem.F.type_list_extend m_extend (ih1 C _ X Ed h6 o) (ih2 C _ X Ed h7 o) (hb _) (few _ _ hs h4) h3 (starEach_cons hs'.1) (starEach_no hs'.2)) fun σ H Q q => lift_mth (fun d h v H a b c => mthT_list (by decide) a b c) q
      | get =>
        cases args with
        | nil => exact nomatch h5
        | cons e args =>
          have hs' := hs
          rw [List.all_cons, Bool.and_eq_true, Bool.not_eq_true'] at hs'
          exact PE.imp (pe_dm PySem.F.slot_dict_get PySem.F.type_dict_get (m_get o.room.units) (ih1 C _ X Ed h6 o) (ih2 C _ X Ed h7 o) (hb _) (few _ _ hs h4) h3 (starEach_cons hs'.1) (starEach_no hs'.2)) fun σ H Q q => lift_dm (m := .get) (fun d h z => z) q
      | insert =>
        cases args with
        | nil => exact nomatch h5
        | cons e args =>
          have hs' := hs
          rw [List.all_cons, Bool.and_eq_true, Bool.not_eq_true'] at hs'
          exact PE.imp (pe_bm PySem.F.plainAttrs_list PySem.F.slot_list_insert PySem.F.type_list_insert m_insert (ih1 C _ X Ed h6 o) (ih2 C _ X Ed h7 o) (hb _) (few _ _ hs h4) h3 (starEach_cons hs'.1) (starEach_no hs'.2)) fun σ H Q q => lift_mth (fun d h v H a b c => mthT_list (by decide) a b c) q
      | popAt =>
        cases args with
        | nil => exact nomatch h5
        | cons e args =>
          have hs' := hs
          rw [List.all_cons, Bool.and_eq_true, Bool.not_eq_true'] at hs'
          exact PE.imp (pe_bm PySem.F.plainAttrs_list PySem.F.slot_list_pop PySem.F.type_list_pop m_popAt (ih1 C _ X Ed h6 o) (ih2 C _ X Ed h7 o) (hb _) (few _ _ hs h4) h3 (starEach_cons hs'.1) (starEach_no hs'.2)) fun σ H Q q => lift_mth (fun d h v H a b c => mthT_list (by decide) a b c) q
      | clear =>
        cases args with
        | cons => exact nomatch h5
        | nil =>
          have e := chk_nil h7
          subst e
          exact PE.imp (pe_dm0 PySem.F.slot_dict_clear PySem.F.type_dict_clear m_clear (ih1 C _ X Ed h6 o) (hb _) h3) fun σ H Q q => lift_dm0 (m := .clear) (fun d h z => z) q
      | setdef =>
        cases args with
        | nil => exact nomatch h5
        | cons e args =>
          have hs' := hs
          rw [List.all_cons, Bool.and_eq_true, Bool.not_eq_true'] at hs'
          exact PE.imp (pe_dm PySem.F.slot_dict_setdefault PySem.F.type_dict_setdefault (m_setdef o.room.units) (ih1 C _ X Ed h6 o) (ih2 C _ X Ed h7 o) (hb _) (few _ _ hs h4) h3 (starEach_cons hs'.1) (starEach_no hs'.2)) fun σ H Q q => lift_dm (m := .setdef) (fun d h z => z) q
      | pop =>
        cases args with
        | cons => exact nomatch h5
        | nil =>
          have e := chk_nil h7
          subst e
          exact PE.imp (pe_bm0 PySem.F.plainAttrs_list PySem.F.slot_list_pop PySem.F.type_list_pop m_pop (ih1 C _ X Ed h6 o) (hb _) h3) fun σ H Q q => lift_mth0 (fun d h v H a b c => mthT_list (by decide) a b c) q
    · cases h
  | lc tg ik src c elt own ih1 ih2 ih3 =>
    intro C nd X Ed h o
    unfold chk at h
    split at h
    · rename_i x t it ifs sc pos
      simp only [Bool.and_eq_true, decide_eq_true_eq, Bool.not_eq_true'] at h
      obtain ⟨⟨⟨⟨⟨⟨h1, h2⟩, h3⟩, h4⟩, h5⟩, h6⟩, h7⟩ := h
      have hi : PI X t it (liftI X.kw B (itT (xE T.cs Φ Ed src) ik)) := by
        cases e : itNode T C ik t it with
        | none => rw [e] at h5; exact nomatch h5
        | some nd => rw [e] at h5; exact itNode_ok o e (ih1 C nd X Ed h5 o)
      have ok : BlkOk X.N X.env.scope sc own := by
        have b := blkOk_by h1
        rw [o.N]
        refine ⟨b.kind, b.uniq, b.ix, fun y hy e => ?_, b.own⟩
        rcases b.free y hy e with z | z
        · rcases o.rel _ _ z with r | r
          · exact .inl r
          · exact .inl r.2
        · rcases o.rel _ _ z with r | r
          · exact .inr r
          · exact .inl r.2
      have blk := fun (s : Shared) (H : Hp) (Cc : Addr) (cl : List (Str × Addr)) (fp : List Addr) => o.blk (scope := sc) (nd := o.nd) s H Cc cl fp
      have ht : ∀ (s : Shared) (H : Hp) (Cc : Addr) (cl : List (Str × Addr)) (fp : List Addr), PTs (X.blk s H sc (compEnvC sc cl Cc X.env) fp) ifs (liftT X.kw B (xE T.cs Φ (fun _ _ _ => False) c)) := fun s H Cc cl fp => by
        match ifs, h6 with
        | [], h6 =>
          rw [isTrueC_ok h6]
          refine ⟨fun pins s σ H Q I q => pts_nil.run pins s σ H Q I ?_⟩
          obtain ⟨sd, hh, Qb, n, ⟨b, e, q⟩, kk⟩ := q
          cases e
          exact kk _ _ _ q n.rh (.refl _ _)
        | [y], h6 => exact pts_one (ih2 _ _ _ _ h6 (blk s H Cc cl fp))
      exact PE.imp (pe_lc (te := lift X.kw B (xE T.cs Φ (fun _ _ _ => False) elt)) o.calm (by rw [o.N]; exact o.nd) hi ok (fun s H Cc cl fp => (chkT_ok (blk s H Cc cl fp) tg [t] false h3).1 rfl t rfl) ht (fun s H Cc cl fp => ih3 _ _ _ _ h7 (blk s H Cc cl fp)) (set_fold h4)) fun σ H Q q => lift_lc (wi := itT (xE T.cs Φ Ed src) ik) h2 q
    · cases h
  | dc b tg ik src c ke ve own ih1 ih2 ih3 ih4 =>
    intro C nd X Ed h o
    unfold chk at h
    split at h
    · rename_i x y' t it ifs sc pos
      simp only [Bool.and_eq_true, decide_eq_true_eq, Bool.not_eq_true'] at h
      obtain ⟨⟨⟨⟨⟨⟨⟨h1, h2⟩, h3⟩, h4⟩, h5⟩, h6⟩, h7⟩, h8⟩ := h
      have hi : PI X t it (liftI X.kw B (itT (xE T.cs Φ Ed src) ik)) := by
        cases e : itNode T C ik t it with
        | none => rw [e] at h5; exact nomatch h5
        | some nd => rw [e] at h5; exact itNode_ok o e (ih1 C nd X Ed h5 o)
      have ok : BlkOk X.N X.env.scope sc own := by
        have b := blkOk_by h1
        rw [o.N]
        refine ⟨b.kind, b.uniq, b.ix, fun y hy e => ?_, b.own⟩
        rcases b.free y hy e with z | z
        · rcases o.rel _ _ z with r | r
          · exact .inl r
          · exact .inl r.2
        · rcases o.rel _ _ z with r | r
          · exact .inr r
          · exact .inl r.2
      have blk := fun (s : Shared) (H : Hp) (Cc : Addr) (cl : List (Str × Addr)) (fp : List Addr) => o.blk (scope := sc) (nd := o.nd) s H Cc cl fp
      have ht : ∀ (s : Shared) (H : Hp) (Cc : Addr) (cl : List (Str × Addr)) (fp : List Addr), PTs (X.blk s H sc (compEnvC sc cl Cc X.env) fp) ifs (liftT X.kw B (xE T.cs Φ (fun _ _ _ => False) c)) := fun s H Cc cl fp => by
        match ifs, h6 with
        | [], h6 =>
          rw [isTrueC_ok h6]
          refine ⟨fun pins s σ H Q I q => pts_nil.run pins s σ H Q I ?_⟩
          obtain ⟨sd, hh, Qb, n, ⟨b, e, q⟩, kk⟩ := q
          cases e
          exact kk _ _ _ q n.rh (.refl _ _)
        | [y], h6 => exact pts_one (ih2 _ _ _ _ h6 (blk s H Cc cl fp))
      exact PE.imp (pe_dcP (tk := lift X.kw B (xE T.cs Φ (fun _ _ _ => False) ke)) (tv := lift X.kw B (xE T.cs Φ (fun _ _ _ => False) ve)) o.room.units o.calm (by rw [o.N]; exact o.nd) hi ok (fun s H Cc cl fp => (chkT_ok (blk s H Cc cl fp) tg [t] false h3).1 rfl t rfl) ht (fun s H Cc cl fp => ih3 _ _ _ _ h7 (blk s H Cc cl fp)) (fun s H Cc cl fp => ih4 _ _ _ _ h8 (blk s H Cc cl fp)) (set_fold h4)) fun σ H Q q => lift_dc (b := b) (wi := itT (xE T.cs Φ Ed src) ik) h2 q
    · cases h
  | dc2 b tg ik src c tg1 ik1 src1 c1 ke ve own own1 ih1 ih2 ih3 ih4 ih5 ih6 =>
    intro C nd X Ed h o
    unfold chk at h
    split at h
    · rename_i x y' g0 g1 sc pos
      obtain ⟨t, it, ifs, as⟩ := g0
      obtain ⟨t1, it1, ifs1, as1⟩ := g1
      simp only [Bool.and_eq_true, decide_eq_true_eq, Bool.not_eq_true', beq_iff_eq] at h
      obtain ⟨⟨⟨⟨⟨⟨⟨⟨⟨⟨⟨⟨⟨⟨h1, h2⟩, h2b⟩, h2c⟩, h3⟩, h3b⟩, h4⟩, h4b⟩, h5⟩, h5b⟩, h6⟩, h6b⟩, h7⟩, h8⟩, h9, h9b⟩ := h
      subst h9 h9b
      obtain ⟨h5s, h5⟩ := h5
      obtain ⟨h5bs, h5b⟩ := h5b
      obtain ⟨h6e, h6⟩ := h6
      obtain ⟨h6l, h6b⟩ := h6b
      obtain rfl : ifs = [] := List.isEmpty_iff.1 h6e
      obtain ⟨cx, rfl⟩ := List.length_eq_one_iff.1 h6l
      have hi : PI X t it (liftI X.kw B (itT (xE T.cs Φ Ed src) ik)) := by
        cases e : itNode T C ik t it with
        | none => rw [e] at h5s; cases h5s
        | some nd => rw [e] at h5; exact itNode_ok o e (ih1 C nd X Ed h5 o)
      have ok : BlkOk X.N X.env.scope sc own := by
        have b := blkOk_by h1
        rw [o.N]
        refine ⟨b.kind, b.uniq, b.ix, fun y hy e => ?_, b.own⟩
        rcases b.free y hy e with z | z
        · rcases o.rel _ _ z with r | r
          · exact .inl r
          · exact .inl r.2
        · rcases o.rel _ _ z with r | r
          · exact .inr r
          · exact .inl r.2
      have blk := fun (s : Shared) (H : Hp) (Cc : Addr) (cl : List (Str × Addr)) (fp : List Addr) => o.blk (scope := sc) (nd := o.nd) s H Cc cl fp
      have hi1 : ∀ (s : Shared) (H : Hp) (Cc : Addr) (cl : List (Str × Addr)) (fp : List Addr), PI (X.blk s H sc (compEnvC sc cl Cc X.env) fp) t1 it1 (liftI X.kw B (itT (xE T.cs Φ (fun _ _ _ => False) src1) ik1)) := fun s H Cc cl fp => by
        cases e : itNode T ⟨C.N, sc.names⟩ ik1 t1 it1 with
        | none => rw [e] at h5bs; cases h5bs
        | some nd => rw [e] at h5b; exact itNode_ok (blk s H Cc cl fp) e (ih3 _ nd _ _ h5b (blk s H Cc cl fp))
      have ht : ∀ (s : Shared) (H : Hp) (Cc : Addr) (cl : List (Str × Addr)) (fp : List Addr), PTs (X.blk s H sc (compEnvC sc cl Cc X.env) fp) [] (liftT X.kw B (xE T.cs Φ (fun _ _ _ => False) c)) := fun s H Cc cl fp => by
        rw [isTrueC_ok h6]
        refine ⟨fun pins s σ H Q I q => pts_nil.run pins s σ H Q I ?_⟩
        obtain ⟨sd, hh, Qb, n, ⟨b, e, q⟩, kk⟩ := q
        cases e
        exact kk _ _ _ q n.rh (.refl _ _)
      have ht1 : ∀ (s : Shared) (H : Hp) (Cc : Addr) (cl : List (Str × Addr)) (fp : List Addr), PTs (X.blk s H sc (compEnvC sc cl Cc X.env) fp) [cx] (liftT X.kw B (xE T.cs Φ (fun _ _ _ => False) c1)) := fun s H Cc cl fp => pts_one (ih4 _ _ _ _ h6b (blk s H Cc cl fp))
      exact PE.imp (pe_dcP2 (vs1 := own1.map (·.2)) (tk := lift X.kw B (xE T.cs Φ (fun _ _ _ => False) ke)) (tv := lift X.kw B (xE T.cs Φ (fun _ _ _ => False) ve)) o.room.units o.calm (by rw [o.N]; exact o.nd) hi ok h2c (fun s H Cc cl fp => (chkT_ok (blk s H Cc cl fp) tg [t] false h3).1 rfl t rfl) ht hi1 (fun s H Cc cl fp => (chkT_ok (blk s H Cc cl fp) tg1 [t1] false h3b).1 rfl t1 rfl) ht1 (fun s H Cc cl fp => ih5 _ _ _ _ h7 (blk s H Cc cl fp)) (fun s H Cc cl fp => ih6 _ _ _ _ h8 (blk s H Cc cl fp)) (set_fold h4) (fun env x => set_fold h4b x)) fun σ H Q q => lift_dc2 (b := b) (wi := itT (xE T.cs Φ Ed src) ik) (wi1 := itT (xE T.cs Φ (fun _ _ _ => False) src1) ik1) h2 h2b q
    · cases h
end DL
namespace DL
open PySem PySem.Spec L2
variable {T : Tab} {Φ : Nat → Ct} {CX : CXT} {k : Nat} {B : Bs} {Ed : XD} {C : CEnv} {X : Cx} {K : KW}

/-! ## 7. Statements -/
inductive Ns where
  | s (st : Stmt) | b (sts : List Stmt)
def isTupE : Expr → Bool
  | .Tuple .. => true
  | _ => false
def isTL : Expr → Bool
  | .Tuple .. => true
  | .List .. => true
  | _ => false
/-- name = [..]: the name a local, on one line, not the block's own -/
def lcSwap (C : CEnv) (tg v : Expr) : Bool := match tg with
  | .Name y py => match v with
    | .ListComp _ _ sc pos => decide (C.nm.lookup y = some .local) && (py.line == pos.line) && !(sc.names.any fun (n, k) => n == y && (k == .local || k == .cell))
    | .DictComp _ _ _ sc pos => decide (C.nm.lookup y = some .local) && (py.line == pos.line) && !(sc.names.any fun (n, k) => n == y && (k == .local || k == .cell))
    | _ => false
  | _ => false
def isLc : Expr → E → Bool
  | .ListComp .., .lc .. => true
  | .DictComp .., .dc .. => true
  | _, _ => false
/-- a name that is a cell: no swapped stores behind a comprehension -/
def cellNm (C : CEnv) : Expr → Bool
  | .Name x _ => decide (C.nm.lookup x = some .cell)
  | _ => false
def swpC (C : CEnv) (tg v : Expr) : Bool := isComp v && !cellNm C tg
/-- a tuple of targets whose first is a cell: no swapped stores -/
def cellTg (C : CEnv) : Expr → Bool
  | .Tuple (.Name x _ :: _) _ _ => decide (C.nm.lookup x = some .cell)
  | _ => false
def chkS (T : Tab) : S → CEnv → Ns → Bool
  | .skip, _, n => match n with
    | .b [] => true
    | _ => false
  | .doc, _, n => match n with
    | .s (.Pass _) => true
    | _ => false
  | .seq a b, C, n => match n with
    | .b (st :: rest) => chkS T a C (.s st) && chkS T b C (.b rest)
    | _ => false
  | .asg t e, C, n => match n with
    | .s (.Assign [tg] v _) => (if swpC C tg v then lcSwap C tg v && (match t with | .name _ => true | _ => false) && isLc v e else (!(isTL tg && isTupE v) || cellTg C tg)) && chkT t C [tg] false && chk T e C (.e v)
    | _ => false
  | .asgSub o i e, C, n => match n with
    | .s (.Assign [.Subscript x y _] v _) => !isComp v && !isSlc y && chk T o C (.e x) && chk T i C (.e y) && chk T e C (.e v)
    | _ => false
  | .asgPar i j es, C, n => match n with
    | .s (.Assign [.Tuple [.Name x px, .Name y py] _ _] (.Tuple [a, b] _ _) _) => decide (C.N[i]? = some x) && decide (C.N[j]? = some y) && decide (i ≠ j) && decide (C.nm.lookup x = some .local) && decide (C.nm.lookup y = some .local) && decide (x ≠ y) && (px.line == py.line) &&
        !isStar a && !isStar b && !([a, b].all (foldedForSure 8)) && !([a, b].all (constantsAlone 8)) && chk T es C (.a [a, b])
    | _ => false
  | .aug i op e, C, n => match n with
    | .s (.AugAssign (.Name x _) o v _) => decide (op = o) && decide (C.N[i]? = some x) && locB C x && chk T e C (.e v)
    | _ => false
  | .expr e, C, n => match n with
    | .s (.Expr v _) => !isComp v && chk T e C (.e v)
    | _ => false
  | .ret e, C, n => match n with
    | .s (.Return (some v) _) => chk T e C (.e v)
    | _ => false
  | .retN, _, n => match n with
    | .s (.Return none _) => true
    | _ => false
  | .ite c a b, C, n => match n with
    | .s (.If t x y _) => chk T c C (.t t) && chkS T a C (.b x) && chkS T b C (.b y)
    | _ => false
  | .iteW i e a b, C, n => match n with
    | .s (.If (.Compare (.NamedExpr (.Name x _) v _) [.IsNot] [.Constant .none _ _] _) p q _) => decide (C.N[i]? = some x) && locB C x && chk T e C (.e v) && chkS T a C (.b p) && chkS T b C (.b q)
    | _ => false
  | .for_ t ik src b, C, n => match n with
    | .s (.For tg it body [] _) => chkT t C [tg] false && !isSetD it && (match itNode T C ik tg it with | some nd => chk T src C nd | none => false) && chkS T b C (.b body)
    | _ => false
  | .while_ c b, C, n => match n with
    | .s (.While t body [] _) => chk T c C (.t t) && chkS T b C (.b body)
    | _ => false
  | .brk, _, n => match n with
    | .s (.Break _) => true
    | _ => false
  | .cnt, _, n => match n with
    | .s (.Continue _) => true
    | _ => false

structure EndsOk (K : KW) (B : Bs) (h : DH) (H : Hp) (N : DEnds) (E : Ends) : Prop where
  nx : ∀ sd' h' σ' H', N.nx sd' h' → Now K B sd' h' σ' H' → Frm h H h' H' → E.nx σ' H'
  rt : ∀ d h' v H', N.rt d h' → Post K h H d h' v H' → E.rt v H'
  bk : ∀ sd' h' σ' H', N.bk sd' h' → Now K B sd' h' σ' H' → Frm h H h' H' → E.bk σ' H'
  ct : ∀ sd' h' σ' H', N.ct sd' h' → Now K B sd' h' σ' H' → Frm h H h' H' → E.ct σ' H'
theorem EndsOk.after {h h1 : DH} {H H1 : Hp} {N : DEnds} {E : Ends} (x : EndsOk K B h H N E) (f : Frm h H h1 H1) : EndsOk K B h1 H1 N E where
  nx := fun sd' h' σ' H' q n f' => x.nx sd' h' σ' H' q n (f.trans f')
  rt := fun d h' v H' q p => x.rt d h' v H' q ⟨p.rd, p.rh, f.trans p.fr⟩
  bk := fun sd' h' σ' H' q n f' => x.bk sd' h' σ' H' q n (f.trans f')
  ct := fun sd' h' σ' H' q n f' => x.ct sd' h' σ' H' q n (f.trans f')
abbrev TSd := DEnds → DSt → DH → Prop
def liftS (K : KW) (B : Bs) (t : TSd) : TS := fun E σ H => ∃ sd h N, Now K B sd h σ H ∧ t N sd h ∧ EndsOk K B h H N E
def GoodS (T : Tab) (Φ : Nat → Ct) (B : Bs) (Ed : XD) (ir : S) (X : Cx) : Ns → Prop
  | .s st => PS X st (liftS X.kw B (xS T.cs Φ Ed ir))
  | .b sts => PSs X sts (liftS X.kw B (xS T.cs Φ Ed ir))

theorem lift_seq {a b : TSd} {D : Ends} {σ : L2.St} {H : Hp} (q : liftS K B (fun N s h => a { N with nx := b N } s h) D σ H) : tSeq (liftS K B a) (liftS K B b) D σ H := by
  obtain ⟨sd, h, N, n, t, e⟩ := q
  refine ⟨sd, h, { N with nx := b N }, n, t, ⟨fun sd' h' σ' H' q n' f => ⟨sd', h', N, n', q, e.after f⟩, e.rt, e.bk, e.ct⟩⟩
theorem lift_skip {D : Ends} {σ : L2.St} {H : Hp} (q : liftS K B (fun N s h => N.nx s h) D σ H) : tNext D σ H := by
  obtain ⟨sd, h, N, n, t, e⟩ := q
  exact e.nx _ _ _ _ t n (.refl _ _)
/-- an assignment, by the reading of its value -/
theorem lift_asg {te : TEd} {t : DL.T} {D : Ends} {σ : L2.St} {H : Hp} (q : liftS K B (fun N s h => te s h fun x h1 => ∃ s1, bindT t x s = some s1 ∧ N.nx s1 h1) D σ H) : tAsg (lift K B te) (liftG K B t) D σ H := by
  obtain ⟨sd, h, N, n, tt, e⟩ := q
  refine ⟨sd, h, _, n, tt, fun d h' v H' q p => ?_⟩
  obtain ⟨s1, eb, q⟩ := q
  exact ⟨d, sd, h', s1, p.rd, n.after p.rh p.fr, eb, fun σ' n' _ => e.nx _ _ _ _ q n' p.fr⟩
theorem lift_asgLc {te : TE} {wi : TId} {tg : DL.T} {tc tx : TEd} {vs : List Nat} (hv : ∀ i ∈ tSlots tg, i ∈ vs) {i : Nat} {D : Ends} {σ : L2.St} {H : Hp}
    (q : liftS K B (fun N s h => wi s h fun items inv h0 => lcD items inv h0 (lcTurn tg tc tx vs s) fun x h1 => ∃ s1, bindT (.name i) x s = some s1 ∧ N.nx s1 h1) D σ H) :
    tAsg (tLc (liftI K B wi) (liftG K B tg) (liftT K B tc) (lift K B tx) vs) (gName i) D σ H := by
  obtain ⟨sd, h, N, n, tt, e⟩ := q
  refine lift_lc hv ⟨sd, h, _, n, tt, fun d h' v H' q p => ?_⟩
  obtain ⟨s1, eb, q⟩ := q
  simp only [bindT, Option.some.injEq] at eb
  subst eb
  have n' := n.after p.rh p.fr
  exact e.nx _ _ _ _ q ⟨n'.rs.set p.rd, n'.rh, n'.fr⟩ p.fr
theorem lift_asgDc {b : Bool} {wi : TId} {tg : DL.T} {tc tk tv : TEd} {vs : List Nat} (hv : ∀ i ∈ tSlots tg, i ∈ vs) {i : Nat} {D : Ends} {σ : L2.St} {H : Hp}
    (q : liftS K B (fun N s h => wi s h fun items inv h0 => dcD b items inv h0 (dcTurn tg tc tk tv vs s) fun x h1 => ∃ s1, bindT (.name i) x s = some s1 ∧ N.nx s1 h1) D σ H) :
    tAsg (tDcP K (liftI K B wi) (liftG K B tg) (liftT K B tc) (lift K B tk) (lift K B tv) vs) (gName i) D σ H := by
  obtain ⟨sd, h, N, n, tt, e⟩ := q
  refine lift_dc (b := b) hv ⟨sd, h, _, n, tt, fun d h' v H' q p => ?_⟩
  obtain ⟨s1, eb, q⟩ := q
  simp only [bindT, Option.some.injEq] at eb
  subst eb
  have n' := n.after p.rh p.fr
  exact e.nx _ _ _ _ q ⟨n'.rs.set p.rd, n'.rh, n'.fr⟩ p.fr
theorem lift_asgSub {to ti te : TEd} {D : Ends} {σ : L2.St} {H : Hp} (q : liftS K B (fun N s h => te s h fun x h1 => to s h1 fun y h2 => ti s h2 fun z h3 => setD y z x h3 fun h4 => N.nx s h4) D σ H) :
    tAsg (lift K B te) (gSub (lift K B to) (lift K B ti) (liftSet K)) D σ H := by
  obtain ⟨sd, h, N, n, tt, e⟩ := q
  refine ⟨sd, h, _, n, tt, fun d h1 v H1 q p => ?_⟩
  have n1 := n.after p.rh p.fr
  refine ⟨sd, h1, _, n1, q, fun d2 h2 v2 H2 q2 p2 => ?_⟩
  have n2 := n1.after p2.rh p2.fr
  refine ⟨sd, h2, _, n2, q2, fun d3 h3 v3 H3 q3 p3 => ?_⟩
  have n3 := n2.after p3.rh p3.fr
  refine ⟨d2, d3, d, h3, _, p2.rd.mono (n2.tm p3.fr), p3.rd, (p.rd.mono (n1.tm p2.fr)).mono (n2.tm p3.fr), p3.rh, q3, fun h4 H4 q4 r4 f4 => ?_⟩
  exact e.nx _ _ _ _ q4 (n3.after r4 f4) (((p.fr.trans p2.fr).trans p3.fr).trans f4)
theorem ip_D (op : Operator) : PIp X op (liftR2 X.kw (augD op)) := by
  intro pins s σ H x y v u Q I rx ry ⟨d1, d2, h, Qd, r1, r2, rh, t, k⟩
  cases op with
  | Add =>
    cases d1 with
    | int i =>
      cases d2 with
      | int j => cases r1; cases r2; exact iop_add pins s σ H _ _ v u Q I rx ry ⟨i, j, rfl, rfl, k _ _ _ _ t (.scal rh (.int _))⟩
      | _ => exact t.elim
    | str i =>
      cases d2 with
      | str j => cases r1; cases r2; exact iop_add_str pins s σ H _ _ v u Q I rx ry ⟨i, j, rfl, rfl, t.1, k _ _ _ _ t.2 (.scal rh (.str _))⟩
      | _ => exact t.elim
    | ref a =>
      cases d2 with
      | ref b =>
        obtain ⟨xs, ys, e1, e2, hz, q⟩ := t
        cases r1; cases r2
        obtain ⟨vs, f1, q1⟩ := rh.lst e1
        obtain ⟨ws, f2, q2⟩ := rh.lst e2
        exact iop_ext pins s σ H _ _ v u Q I rx ry ⟨a, b, vs, ws, rfl, rfl, f1, f2, by rw [← q1.length, ← q2.length]; exact hz, k _ _ _ _ q (.write rh e1 (q1.append q2) (.ref _))⟩
      | _ => exact t.elim
    | _ => exact t.elim
  | Sub =>
    cases d1 with
    | int i =>
      cases d2 with
      | int j => cases r1; cases r2; exact iop_sub pins s σ H _ _ v u Q I rx ry ⟨i, j, rfl, rfl, k _ _ _ _ t (.scal rh (.int _))⟩
      | _ => exact t.elim
    | _ => exact t.elim
  | _ => exact t.elim
theorem lift_aug {te : TEd} {op : Operator} {i : Nat} {D : Ends} {σ : L2.St} {H : Hp} (q : liftS K B (fun N s h => ∃ d, s[i]? = some (some d) ∧ te s h fun x h1 => augD op d x h1 fun z h2 => N.nx (s.set i (some z)) h2) D σ H) :
    tAug i (lift K B te) (liftR2 K (augD op)) D σ H := by
  obtain ⟨sd, h, N, n, ⟨d, e0, tt⟩, e⟩ := q
  obtain ⟨v, e1, r⟩ := n.rs.at_ i d e0
  refine ⟨v, e1, sd, h, _, n, tt, fun d2 h1 v2 H1 q p => ?_⟩
  have n1 := n.after p.rh p.fr
  refine ⟨d, d2, h1, _, r.mono (n.tm p.fr), p.rd, p.rh, q, fun d3 h2 v3 H2 q2 p2 => ?_⟩
  have n2 := n1.after p2.rh p2.fr
  exact e.nx _ _ _ _ q2 ⟨n2.rs.set p2.rd, n2.rh, n2.fr⟩ (p.fr.trans p2.fr)
theorem lift_par {ta : TEd} {i j : Nat} {D : Ends} {σ : L2.St} {H : Hp} (q : liftS K B (fun N s h => ta s h fun x h1 => ∃ v w, x = .tup [v, w] ∧ N.nx ((s.set i (some v)).set j (some w)) h1) D σ H) :
    tPar i j (liftA K B ta) D σ H := by
  obtain ⟨sd, h, N, n, tt, e⟩ := q
  refine ⟨sd, h, _, n, tt, fun ds h1 vs H1 q r rh fr => ?_⟩
  obtain ⟨v, w, ex, q⟩ := q
  cases ex
  obtain ⟨a, b, rfl, r1, r2⟩ := r.two
  have n1 := n.after rh fr
  exact ⟨a, b, rfl, e.nx _ _ _ _ q ⟨(n1.rs.set r1).set r2, n1.rh, n1.fr⟩ fr⟩
theorem lift_expr {te : TEd} {D : Ends} {σ : L2.St} {H : Hp} (q : liftS K B (fun N s h => te s h fun _ h1 => N.nx s h1) D σ H) : tDrop (lift K B te) D σ H := by
  obtain ⟨sd, h, N, n, tt, e⟩ := q
  exact ⟨sd, h, _, n, tt, fun d h' v H' q p => e.nx _ _ _ _ q (n.after p.rh p.fr) p.fr⟩
theorem lift_ret {te : TEd} {D : Ends} {σ : L2.St} {H : Hp} (q : liftS K B (fun N s h => te s h N.rt) D σ H) : tRet (lift K B te) D σ H := by
  obtain ⟨sd, h, N, n, tt, e⟩ := q
  exact ⟨sd, h, _, n, tt, fun d h' v H' q p => e.rt _ _ _ _ q p⟩
theorem lift_if {tc : TEd} {a b : TSd} {D : Ends} {σ : L2.St} {H : Hp} (q : liftS K B (fun N s h => tc s h fun x h1 => ∃ k, x = .bl k ∧ if k = true then a N s h1 else b N s h1) D σ H) : tIfS (liftT K B tc) (liftS K B a) (liftS K B b) D σ H := by
  obtain ⟨sd, h, N, n, tt, e⟩ := q
  refine ⟨sd, h, _, n, tt, fun b h' H' q rh fr => ?_⟩
  cases b with
  | true => exact ⟨sd, h', N, n.after rh fr, q, e.after fr⟩
  | false => exact ⟨sd, h', N, n.after rh fr, q, e.after fr⟩
/-- if (x := e) is not None -/
theorem lift_ifW {te : TEd} {i : Nat} {a b : TSd} {D : Ends} {σ : L2.St} {H : Hp} (q : liftS K B (fun N s h => te s h fun x h1 => if (!isNon x) = true then a N (s.set i (some x)) h1 else b N (s.set i (some x)) h1) D σ H) :
    tIfW (wCmp (liftR2 K (rdC .IsNot)) (wNm (wE (lift K B te)) i) (tC .non)) (liftS K B a) (liftS K B b) D σ H := by
  obtain ⟨sd, h, N, n, tt, e⟩ := q
  refine ⟨sd, h, _, n, tt, fun d h1 v H1 q p => ?_⟩
  refine ⟨d, .non, h1, fun d' h' => h' = h1 ∧ d' = .bl (!isNon d), p.rd, .non, p.rh, ⟨rfl, rfl⟩, ?_⟩
  rintro d' h' v' H' ⟨rfl, rfl⟩ p'
  obtain ⟨r, rh, fr⟩ := p'
  cases r
  have n2 := (n.after p.rh p.fr).after rh fr
  have n3 : Now K B (sd.set i (some d)) h' (σ.set i (some v)) H' := ⟨n2.rs.set (p.rd.mono (Frm.tm p.rh fr)), n2.rh, n2.fr⟩
  refine ⟨!isNon d, rfl, ?_⟩
  cases hq : isNon d with
  | true => rw [hq] at q; exact ⟨_, h', N, n3, q, e.after (p.fr.trans fr)⟩
  | false => rw [hq] at q; exact ⟨_, h', N, n3, q, e.after (p.fr.trans fr)⟩
theorem lift_for {wi : TId} {t : DL.T} {b : TSd} {D : Ends} {σ : L2.St} {H : Hp} (q : liftS K B (fun N s h => wi s h fun items inv h1 => forD items inv s h1 (fun y nx s h => ∃ s1, bindT t y s = some s1 ∧ b { N with nx := nx, ct := nx, bk := N.nx } s1 h) N.nx) D σ H) :
    tFor (liftI K B wi) (liftG K B t) (liftS K B b) D σ H := by
  obtain ⟨sd, h, N, n, tt, e⟩ := q
  refine ⟨sd, h, _, n, tt, fun items inv h0 H0 J G q rh0 fr0 wk g0 => ?_⟩
  unfold forD at q
  obtain ⟨W, w0, wi', step, fin⟩ := q
  have n0 := n.after rh0 fr0
  refine ⟨fun i m σ H1 => m = items.length - i ∧ i ≤ items.length ∧ ∃ sd1 h1, W i sd1 h1 ∧ Now K B sd1 h1 σ H1 ∧ Frm h0 H0 h1 H1, ⟨items.length, by simp, Nat.zero_le _, sd, h0, w0, n0, .refl _ _⟩, ?_⟩
  rintro i m σ1 H1 ⟨rfl, hi, sd1, h1, w1, n1, f1⟩
  have g1 : G H1 := wk.mono _ _ (Frm.tm rh0 f1) g0
  by_cases hlt : i < items.length
  · refine .inr ⟨wk.goes i h1 H1 hlt n1.rh (wi' _ _ _ hi w1) g1, fun σ2 H2 => ∃ sd2 h2, W (i + 1) sd2 h2 ∧ Now K B sd2 h2 σ2 H2 ∧ Frm h0 H0 h2 H2, fun σ2 H2 h => ⟨items.length - (i + 1), by omega, rfl, hlt, h⟩, fun x H2 y => ?_⟩
    obtain ⟨d, ed, rd, rh2, fr2⟩ := wk.yields i h1 H1 x H2 hlt n1.rh (wi' _ _ _ hi w1) g1 y
    obtain ⟨s1, eb, tt⟩ := step i d sd1 h1 ed w1
    have n2 := n1.after rh2 fr2
    refine ⟨d, sd1, h1, s1, rd, n2, eb, fun σ' n3 _ => ⟨s1, h1, _, n3, tt, ?_⟩⟩
    exact ⟨fun sd' h' σ' H' q n' f' => ⟨sd', h', q, n', (f1.trans fr2).trans f'⟩, fun d h' v H' q p => e.rt _ _ _ _ q ⟨p.rd, p.rh, ((fr0.trans f1).trans fr2).trans p.fr⟩,
      fun sd' h' σ' H' q n' f' => e.nx _ _ _ _ q n' (((fr0.trans f1).trans fr2).trans f'), fun sd' h' σ' H' q n' f' => ⟨sd', h', q, n', (f1.trans fr2).trans f'⟩⟩
  · have e2 : i = items.length := by omega
    subst e2
    exact .inl ⟨wk.stops h1 H1 n1.rh (wi' _ _ _ hi w1) g1, e.nx _ _ _ _ (fin sd1 h1 w1) n1 (fr0.trans f1)⟩
theorem lift_while {tc : TEd} {b : TSd} {D : Ends} {σ : L2.St} {H : Hp} (q : liftS K B (fun N s h => whileD (fun s h Q => tc s h Q) (fun nx s h => b { N with nx := nx, ct := nx, bk := N.nx } s h) N.nx s h) D σ H) :
    tWhile (liftT K B tc) (liftS K B b) D σ H := by
  obtain ⟨sd, h, N, n, q, e⟩ := q
  unfold whileD at q
  obtain ⟨W, ⟨m, w0⟩, step⟩ := q
  refine ⟨fun m σ H1 => ∃ sd1 h1, W m sd1 h1 ∧ Now K B sd1 h1 σ H1 ∧ Frm h H h1 H1, ⟨m, sd, h, w0, n, .refl _ _⟩, ?_⟩
  rintro m σ1 H1 ⟨sd1, h1, w1, n1, f1⟩
  refine ⟨sd1, h1, _, n1, step m sd1 h1 w1, fun b h2 H2 q rh fr => ?_⟩
  have n2 := n1.after rh fr
  cases b with
  | true =>
    refine ⟨fun σ' H' => ∃ sd' h' m', m' < m ∧ W m' sd' h' ∧ Now K B sd' h' σ' H' ∧ Frm h H h' H', fun σ' H' ⟨sd', h', m', hm, w', n', f'⟩ => ⟨m', hm, sd', h', w', n', f'⟩, sd1, h2, _, n2, q, ?_⟩
    exact ⟨fun sd' h' σ' H' ⟨m', hm, w'⟩ n' f' => ⟨sd', h', m', hm, w', n', (f1.trans fr).trans f'⟩, fun d h' v H' q p => e.rt _ _ _ _ q ⟨p.rd, p.rh, (f1.trans fr).trans p.fr⟩,
      fun sd' h' σ' H' q n' f' => e.nx _ _ _ _ q n' ((f1.trans fr).trans f'), fun sd' h' σ' H' ⟨m', hm, w'⟩ n' f' => ⟨sd', h', m', hm, w', n', (f1.trans fr).trans f'⟩⟩
  | false => exact e.nx _ _ _ _ q n2 (f1.trans fr)
end DL
namespace DL
open PySem PySem.Spec L2
variable {T : Tab} {Φ : Nat → Ct} {CX : CXT} {k : Nat} {B : Bs} {Ed : XD} {C : CEnv} {X : Cx} {K : KW}

theorem noComp_swap {v : Expr} {tg : Option Expr} {l : Nat} {env : Env} (h : isComp v = false) : swapsWith v tg l env = pure false := by
  cases v <;> first | rfl | (exact nomatch h)
theorem noComp_sole {v tg : Expr} {l : Nat} {env : Env} (h : isComp v = false) : swapsWithSole [tg] v l env = pure false := noComp_swap h
theorem cell_sole {v : Expr} {x : Str} {p : Pos} {l : Nat} {env : Env} (h : env.scope.names.lookup x = some .cell) : swapsWithSole [.Name x p] v l env = pure false := by
  have e1 : (env.kindOf x == some NameKind.local) = false := by
    show (env.scope.names.lookup x == some NameKind.local) = false
    rw [h]; rfl
  show swapsWith v (some (.Name x p)) l env = pure false
  unfold swapsWith
  cases v <;> first
    | rfl
    | (simp only [e1, Bool.and_false, Bool.false_and]; done)
    | (simp only [e1, Bool.and_false, Bool.false_and]; rfl)
theorem noTL_stores {tg v : Expr} {env : Env} (h : (isTL tg && isTupE v) = false) : swappedStores [tg] v env = pure none := by
  cases tg <;> first | rfl | (cases v <;> first | rfl | (exact nomatch h))
theorem cell_stores {x : Str} {p pt : Pos} {k : Nat} {ts : List Expr} {v : Expr} {env : Env} (h : env.scope.names.lookup x = some .cell) : swappedStores [.Tuple (.Name x p :: ts) k pt] v env = pure none := by
  have e1 : (env.kindOf x == some NameKind.local) = false := by
    show (env.scope.names.lookup x == some NameKind.local) = false
    rw [h]; rfl
  cases v with
  | Tuple vs k2 p2 =>
    unfold swappedStores
    dsimp only
    split
    · rfl
    · split
      · rfl
      · rw [if_pos]
        · rw [List.filterMap_cons]
          have : ∀ l : List Str, l.length ≤ ts.length → (l.length != (Expr.Name x p :: ts).length || l.eraseDups.length != l.length) = true := fun l hl => by
            rw [Bool.or_eq_true]
            left
            rw [bne_iff_ne]
            rw [List.length_cons]
            omega
          simp only [e1, Bool.false_and, Bool.false_eq_true, if_false]
          exact this _ (List.length_filterMap_le _ _)
  | _ => rfl
theorem sub_assign {x y : Expr} {p : Pos} {env : Env} (h : isSlc y = false) : ∀ v, assign (.Subscript x y p) env v = (do
      let ov ← holding [v] (eval x env)
      let iv ← holding [v, ov] (eval y env)
      standAt p
      holding [v, ov, iv] (setItem ov iv v)
      release [v, ov, iv] []) := by
  cases y <;> first | (exact fun _ => rfl) | (exact nomatch h)
theorem par_stores {x y : Str} {a b : Expr} {px py pt pt2 : Pos} {kt k2 : Nat} {env : Env} (hk : env.scope.kind = .function) (hx : env.scope.names.lookup x = some .local) (hy : env.scope.names.lookup y = some .local) (hl : (px.line == py.line) = true)
    (hxy : x ≠ y) (ha : isStar a = false) (hb : isStar b = false) (h1 : ([a, b].all (foldedForSure 8)) = false) (h2 : ([a, b].all (constantsAlone 8)) = false) :
    swappedStores [.Tuple [.Name x px, .Name y py] kt pt] (.Tuple [a, b] k2 pt2) env = pure (some [x, y]) := by
  have e0 : env.blockKind = .function := by simp [Env.blockKind, hk]
  have k1 : env.kindOf x = some .local := hx
  have k2 : env.kindOf y = some .local := hy
  have hl2 : (py.line == px.line) = true := by
    rw [beq_iff_eq] at hl ⊢
    exact hl.symm
  have ex : (Expr.Name x px).pos.line = px.line := rfl
  have dd : ([x, y] : List Str).eraseDups = [x, y] := by
    simp [List.eraseDups_cons, hxy, Ne.symm hxy]
  unfold swappedStores
  simp only [e0, h1, h2, ex]
  simp
  refine Eq.trans (if_neg ?_) ?_
  · rintro (h | h)
    · revert ha h; cases a <;> simp [isStar]
    · revert hb h; cases b <;> simp [isStar]
  · have l2 := eq_of_beq hl2
    simp only [List.filterMap_cons, List.filterMap_nil, k1, k2, l2, ex, and_self, if_true, eq_self_iff_true]
    simp [dd]
theorem chkT_star {t : DL.T} {tg : Expr} (h : chkT t C [tg] false = true) : isStar tg = false := by
  cases t <;> cases tg <;> first | rfl | (exact nomatch h)
/-- the parts of a comprehension -/
theorem lc_parts (o : XOk T Φ CX k B Ed C X) {tg : DL.T} {ik : ItK} {src c elt : E} {own : List (Str × Nat)} {x t it : Expr} {ifs : List Expr} {sc : Scope} {pos : Pos}
    (h : chk T (.lc tg ik src c elt own) C (.e (.ListComp x [⟨t, it, ifs, 0⟩] sc pos)) = true) :
    PI X t it (liftI X.kw B (itT (xE T.cs Φ Ed src) ik)) ∧ BlkOk X.N X.env.scope sc own ∧ (∀ i ∈ tSlots tg, i ∈ own.map (·.2)) ∧ isSetD it = false ∧
    (∀ (s : Shared) (H : Hp) (Cc : Addr) (cl : List (Str × Addr)) (fp : List Addr), PG (X.blk s H sc (compEnvC sc cl Cc X.env) fp) t (liftG X.kw B tg)) ∧
    (∀ (s : Shared) (H : Hp) (Cc : Addr) (cl : List (Str × Addr)) (fp : List Addr), PTs (X.blk s H sc (compEnvC sc cl Cc X.env) fp) ifs (liftT X.kw B (xE T.cs Φ (fun _ _ _ => False) c))) ∧
    (∀ (s : Shared) (H : Hp) (Cc : Addr) (cl : List (Str × Addr)) (fp : List Addr), PE (X.blk s H sc (compEnvC sc cl Cc X.env) fp) x (lift X.kw B (xE T.cs Φ (fun _ _ _ => False) elt))) := by
  unfold chk at h
  simp only [Bool.and_eq_true, decide_eq_true_eq, Bool.not_eq_true'] at h
  obtain ⟨⟨⟨⟨⟨⟨h1, h2⟩, h3⟩, h4⟩, h5⟩, h6⟩, h7⟩ := h
  have hi : PI X t it (liftI X.kw B (itT (xE T.cs Φ Ed src) ik)) := by
    cases e : itNode T C ik t it with
    | none => rw [e] at h5; exact nomatch h5
    | some nd => rw [e] at h5; exact itNode_ok o e (chk_ok src C nd X Ed h5 o)
  have ok : BlkOk X.N X.env.scope sc own := by
    have b := blkOk_by h1
    rw [o.N]
    refine ⟨b.kind, b.uniq, b.ix, fun y hy e => ?_, b.own⟩
    rcases b.free y hy e with z | z
    · rcases o.rel _ _ z with r | r
      · exact .inl r
      · exact .inl r.2
    · rcases o.rel _ _ z with r | r
      · exact .inr r
      · exact .inl r.2
  have blk := fun (s : Shared) (H : Hp) (Cc : Addr) (cl : List (Str × Addr)) (fp : List Addr) => o.blk (scope := sc) (nd := o.nd) s H Cc cl fp
  refine ⟨hi, ok, h2, h4, fun s H Cc cl fp => (chkT_ok (blk s H Cc cl fp) tg [t] false h3).1 rfl t rfl, fun s H Cc cl fp => ?_, fun s H Cc cl fp => chk_ok elt _ _ _ _ h7 (blk s H Cc cl fp)⟩
  match ifs, h6 with
  | [], h6 =>
    rw [isTrueC_ok h6]
    refine ⟨fun pins s σ H Q I q => pts_nil.run pins s σ H Q I ?_⟩
    obtain ⟨sd, hh, Qb, n, ⟨b, e, q⟩, kk⟩ := q
    cases e
    exact kk _ _ _ q n.rh (.refl _ _)
  | [y], h6 => exact pts_one (chk_ok c _ _ _ _ h6 (blk s H Cc cl fp))
theorem chk_lc_shape {tg : DL.T} {ik : ItK} {src c elt : E} {own : List (Str × Nat)} {v : Expr} (h : chk T (.lc tg ik src c elt own) C (.e v) = true) : ∃ x t it ifs sc pos, v = .ListComp x [⟨t, it, ifs, 0⟩] sc pos := by
  unfold chk at h
  split at h
  · rename_i e; cases e; exact ⟨_, _, _, _, _, _, rfl⟩
  · cases h
/-- .. of a dict's -/
theorem dc_parts (o : XOk T Φ CX k B Ed C X) {b : Bool} {tg : DL.T} {ik : ItK} {src c ke ve : E} {own : List (Str × Nat)} {x w t it : Expr} {ifs : List Expr} {sc : Scope} {pos : Pos}
    (h : chk T (.dc b tg ik src c ke ve own) C (.e (.DictComp x w [⟨t, it, ifs, 0⟩] sc pos)) = true) :
    PI X t it (liftI X.kw B (itT (xE T.cs Φ Ed src) ik)) ∧ BlkOk X.N X.env.scope sc own ∧ (∀ i ∈ tSlots tg, i ∈ own.map (·.2)) ∧ isSetD it = false ∧
    (∀ (s : Shared) (H : Hp) (Cc : Addr) (cl : List (Str × Addr)) (fp : List Addr), PG (X.blk s H sc (compEnvC sc cl Cc X.env) fp) t (liftG X.kw B tg)) ∧
    (∀ (s : Shared) (H : Hp) (Cc : Addr) (cl : List (Str × Addr)) (fp : List Addr), PTs (X.blk s H sc (compEnvC sc cl Cc X.env) fp) ifs (liftT X.kw B (xE T.cs Φ (fun _ _ _ => False) c))) ∧
    (∀ (s : Shared) (H : Hp) (Cc : Addr) (cl : List (Str × Addr)) (fp : List Addr), PE (X.blk s H sc (compEnvC sc cl Cc X.env) fp) x (lift X.kw B (xE T.cs Φ (fun _ _ _ => False) ke))) ∧
    (∀ (s : Shared) (H : Hp) (Cc : Addr) (cl : List (Str × Addr)) (fp : List Addr), PE (X.blk s H sc (compEnvC sc cl Cc X.env) fp) w (lift X.kw B (xE T.cs Φ (fun _ _ _ => False) ve))) := by
  unfold chk at h
  simp only [Bool.and_eq_true, decide_eq_true_eq, Bool.not_eq_true'] at h
  obtain ⟨⟨⟨⟨⟨⟨⟨h1, h2⟩, h3⟩, h4⟩, h5⟩, h6⟩, h7⟩, h8⟩ := h
  have hi : PI X t it (liftI X.kw B (itT (xE T.cs Φ Ed src) ik)) := by
    cases e : itNode T C ik t it with
    | none => rw [e] at h5; exact nomatch h5
    | some nd => rw [e] at h5; exact itNode_ok o e (chk_ok src C nd X Ed h5 o)
  have ok : BlkOk X.N X.env.scope sc own := by
    have b := blkOk_by h1
    rw [o.N]
    refine ⟨b.kind, b.uniq, b.ix, fun y hy e => ?_, b.own⟩
    rcases b.free y hy e with z | z
    · rcases o.rel _ _ z with r | r
      · exact .inl r
      · exact .inl r.2
    · rcases o.rel _ _ z with r | r
      · exact .inr r
      · exact .inl r.2
  have blk := fun (s : Shared) (H : Hp) (Cc : Addr) (cl : List (Str × Addr)) (fp : List Addr) => o.blk (scope := sc) (nd := o.nd) s H Cc cl fp
  refine ⟨hi, ok, h2, h4, fun s H Cc cl fp => (chkT_ok (blk s H Cc cl fp) tg [t] false h3).1 rfl t rfl, fun s H Cc cl fp => ?_, fun s H Cc cl fp => chk_ok ke _ _ _ _ h7 (blk s H Cc cl fp), fun s H Cc cl fp => chk_ok ve _ _ _ _ h8 (blk s H Cc cl fp)⟩
  match ifs, h6 with
  | [], h6 =>
    rw [isTrueC_ok h6]
    refine ⟨fun pins s σ H Q I q => pts_nil.run pins s σ H Q I ?_⟩
    obtain ⟨sd, hh, Qb, n, ⟨b, e, q⟩, kk⟩ := q
    cases e
    exact kk _ _ _ q n.rh (.refl _ _)
  | [y], h6 => exact pts_one (chk_ok c _ _ _ _ h6 (blk s H Cc cl fp))
theorem chk_dc_shape {b : Bool} {tg : DL.T} {ik : ItK} {src c ke ve : E} {own : List (Str × Nat)} {v : Expr} (h : chk T (.dc b tg ik src c ke ve own) C (.e v) = true) : ∃ x w t it ifs sc pos, v = .DictComp x w [⟨t, it, ifs, 0⟩] sc pos := by
  unfold chk at h
  split at h
  · rename_i e; cases e; exact ⟨_, _, _, _, _, _, _, rfl⟩
  · cases h
theorem chkS_ok : ∀ (ir : S) (C : CEnv) (n : Ns) (X : Cx), chkS T ir C n = true → XOk T Φ CX k B Ed C X → X.env.scope.kind = .function → GoodS T Φ B Ed ir X n := by
  intro ir
  induction ir with
  | skip =>
    intro C n X h o hf
    unfold chkS at h
    split at h
    · exact PSs.imp pss_nil fun _ _ _ q => lift_skip q
    · cases h
  | doc =>
    intro C n X h o hf
    unfold chkS at h
    split at h
    · exact PS.imp ps_pass fun _ _ _ q => lift_skip q
    · cases h
  | seq a b iha ihb =>
    intro C n X h o hf
    unfold chkS at h
    split at h
    · simp only [Bool.and_eq_true] at h
      exact PSs.imp (pss_cons (iha C _ X h.1 o hf) (ihb C _ X h.2 o hf)) fun _ _ _ q => lift_seq q
    · cases h
  | asg t e =>
    intro C n X h o hf
    unfold chkS at h
    split at h
    · rename_i tg v pos
      simp only [Bool.and_eq_true] at h
      obtain ⟨⟨h1, h2⟩, h3⟩ := h
      cases hc : swpC C tg v with
      | false =>
        rw [hc] at h1
        simp only [Bool.false_eq_true, if_false, Bool.or_eq_true, Bool.not_eq_true'] at h1
        unfold swpC at hc
        have hsw : ∀ l, swapsWithSole [tg] v l X.env = pure false := fun l => by
          cases hv : isComp v with
          | false => exact noComp_sole hv
          | true =>
            rw [hv, Bool.true_and, Bool.not_eq_false'] at hc
            unfold cellNm at hc
            split at hc
            · rcases o.rel _ _ (of_decide_eq_true hc) with r | r
              · exact cell_sole r
              · exact nomatch r.1
            · cases hc
        have hno : swappedStores [tg] v X.env = pure none := by
          rcases h1 with h1 | h1
          · exact noTL_stores h1
          · unfold cellTg at h1
            split at h1
            · refine cell_stores ?_
              rcases o.rel _ _ (of_decide_eq_true h1) with r | r
              · exact r
              · exact nomatch r.1
            · cases h1
        exact PS.imp (ps_asg (chk_ok e C _ X Ed h3 o) ((chkT_ok o t [tg] false h2).1 rfl tg rfl) (hsw _) hno (by rw [assignEach_cons (chkT_star h2)]; rfl)) fun _ _ _ q => lift_asg q
      | true =>
        rw [hc] at h1
        simp only [if_true, Bool.and_eq_true] at h1
        obtain ⟨⟨h4, h5⟩, h7⟩ := h1
        cases t with
        | name i =>
          cases e with
          | lc tg2 ik src c elt own =>
            obtain ⟨x, t2, it, ifs, sc, pos2, rfl⟩ := chk_lc_shape h3
            cases tg with
            | Name y py =>
              simp only [lcSwap, Bool.and_eq_true, decide_eq_true_eq, Bool.not_eq_true'] at h4
              obtain ⟨⟨h8, h9⟩, h10⟩ := h4
              have hl : X.env.scope.names.lookup y = some .local := by
                rcases o.rel _ _ h8 with r | r
                · exact r
                · exact nomatch r.1
              simp only [chkT, Bool.and_eq_true, decide_eq_true_eq] at h2
              obtain ⟨p1, p2, p3, p4, p5, p6, p7⟩ := lc_parts o h3
              exact PS.imp (ps_setLc (te := lift X.kw B (xE T.cs Φ (fun _ _ _ => False) elt)) o.calm (by rw [o.N]; exact o.nd) (by rw [o.N]; exact h2.1) hl (sw_true hf hl h9 h10) p1 p2 p5 p6 p7 (set_fold p4)) fun _ _ _ q => lift_asgLc (te := lift X.kw B (xE T.cs Φ (fun _ _ _ => False) elt)) (wi := itT (xE T.cs Φ Ed src) ik) p3 q
            | _ => exact nomatch h4
          | dc b tg2 ik src c ke ve own =>
            obtain ⟨x, w, t2, it, ifs, sc, pos2, rfl⟩ := chk_dc_shape h3
            cases tg with
            | Name y py =>
              simp only [lcSwap, Bool.and_eq_true, decide_eq_true_eq, Bool.not_eq_true'] at h4
              obtain ⟨⟨h8, h9⟩, h10⟩ := h4
              have hl : X.env.scope.names.lookup y = some .local := by
                rcases o.rel _ _ h8 with r | r
                · exact r
                · exact nomatch r.1
              simp only [chkT, Bool.and_eq_true, decide_eq_true_eq] at h2
              obtain ⟨p1, p2, p3, p4, p5, p6, p7, p8⟩ := dc_parts o h3
              exact PS.imp (ps_setDcP (tk := lift X.kw B (xE T.cs Φ (fun _ _ _ => False) ke)) (tv := lift X.kw B (xE T.cs Φ (fun _ _ _ => False) ve)) o.room.units o.calm (by rw [o.N]; exact o.nd) (by rw [o.N]; exact h2.1) hl (sw_trueD hf hl h9 h10) p1 p2 p5 p6 p7 p8 (set_fold p4)) fun _ _ _ q => lift_asgDc (b := b) (wi := itT (xE T.cs Φ Ed src) ik) p3 q
            | _ => exact nomatch h4
          | _ => cases v <;> exact nomatch h7
        | _ => exact nomatch h5
    · cases h
  | asgSub oo i e =>
    intro C n X h o hf
    unfold chkS at h
    split at h
    · simp only [Bool.and_eq_true, Bool.not_eq_true'] at h
      obtain ⟨⟨⟨⟨h1, h2⟩, h3⟩, h4⟩, h5⟩ := h
      exact PS.imp (ps_asg (chk_ok e C _ X Ed h5 o) (pg_sub (chk_ok oo C _ X Ed h3 o) (chk_ok i C _ X Ed h4 o) (set_D o.room.units) (sub_assign h2)) (noComp_sole h1) rfl) fun _ _ _ q => lift_asgSub q
    · cases h
  | asgPar i j es =>
    intro C n X h o hf
    unfold chkS at h
    split at h
    · rename_i x px y py kt pt a b k2 pt2 pos
      simp only [Bool.and_eq_true, Bool.not_eq_true', decide_eq_true_eq] at h
      obtain ⟨⟨⟨⟨⟨⟨⟨⟨⟨⟨⟨h1, h2⟩, h3⟩, h4⟩, h5⟩, h6⟩, h7⟩, h8⟩, h9⟩, h10⟩, h11⟩, h12⟩ := h
      have lx : X.env.scope.names.lookup x = some .local := by
        rcases o.rel _ _ h4 with r | r
        · exact r
        · exact nomatch r.1
      have ly : X.env.scope.names.lookup y = some .local := by
        rcases o.rel _ _ h5 with r | r
        · exact r
        · exact nomatch r.1
      exact PS.imp (ps_par o.calm (by rw [o.N]; exact o.nd) (by rw [o.N]; exact h1) (by rw [o.N]; exact h2) h3 lx ly (chk_ok es C _ X Ed h12 o) (par_stores hf lx ly h7 h6 h8 h9 h10 h11) rfl) fun _ _ _ q => lift_par q
    · cases h
  | aug i op e =>
    intro C n X h o hf
    unfold chkS at h
    split at h
    · simp only [Bool.and_eq_true, decide_eq_true_eq] at h
      obtain ⟨⟨⟨rfl, h1⟩, h2⟩, h3⟩ := h
      obtain ⟨l1, l2⟩ := o.loc h2
      exact PS.imp (ps_aug (by rw [o.N]; exact o.nd) (by rw [o.N]; exact h1) l1 (chk_ok e C _ X Ed h3 o) (ip_D _) l2) fun _ _ _ q => lift_aug q
    · cases h
  | expr e =>
    intro C n X h o hf
    unfold chkS at h
    split at h
    · simp only [Bool.and_eq_true, Bool.not_eq_true'] at h
      exact PS.imp (ps_expr (chk_ok e C _ X Ed h.2 o) (noComp_swap h.1)) fun _ _ _ q => lift_expr q
    · cases h
  | ret e =>
    intro C n X h o hf
    unfold chkS at h
    split at h
    · exact PS.imp (ps_ret (chk_ok e C _ X Ed h o)) fun _ _ _ q => lift_ret q
    · cases h
  | retN =>
    intro C n X h o hf
    unfold chkS at h
    split at h
    · refine PS.imp ps_retN fun D σ H ⟨sd, hh, N, n, t, e⟩ => e.rt _ _ _ _ t ⟨.non, n.rh, .refl _ _⟩
    · cases h
  | ite c a b iha ihb =>
    intro C n X h o hf
    unfold chkS at h
    split at h
    · simp only [Bool.and_eq_true] at h
      exact PS.imp (ps_if (chk_ok c C _ X Ed h.1.1 o) (iha C _ X h.1.2 o hf) (ihb C _ X h.2 o hf)) fun _ _ _ q => lift_if q
    · cases h
  | iteW i e a b iha ihb =>
    intro C n X h o hf
    unfold chkS at h
    split at h
    · simp only [Bool.and_eq_true, decide_eq_true_eq] at h
      obtain ⟨⟨⟨⟨h1, h2⟩, h3⟩, h4⟩, h5⟩ := h
      obtain ⟨l1, l2⟩ := o.loc h2
      exact PS.imp (ps_ifW (ptw_cmp (op_cmpD o.room .IsNot) (pew_named (by rw [o.N]; exact o.nd) (by rw [o.N]; exact h1) l1 (pew_of (chk_ok e C _ X Ed h3 o)) l2) pe_non rfl) (iha C _ X h4 o hf) (ihb C _ X h5 o hf)) fun _ _ _ q => lift_ifW q
    · cases h
  | for_ t ik src b ihb =>
    intro C n X h o hf
    unfold chkS at h
    split at h
    · rename_i tg it body pos
      simp only [Bool.and_eq_true, Bool.not_eq_true'] at h
      obtain ⟨⟨⟨h1, h2⟩, h3⟩, h4⟩ := h
      have hi : PI X tg it (liftI X.kw B (itT (xE T.cs Φ Ed src) ik)) := by
        cases e : itNode T C ik tg it with
        | none => rw [e] at h3; exact nomatch h3
        | some nd => rw [e] at h3; exact itNode_ok o e (chk_ok src C nd X Ed h3 o)
      exact PS.imp (ps_for o.own o.calm hi ((chkT_ok o t [tg] false h1).1 rfl tg rfl) (ihb C _ X h4 o hf) (set_fold h2)) fun _ _ _ q => lift_for (wi := itT (xE T.cs Φ Ed src) ik) q
    · cases h
  | while_ c b ihb =>
    intro C n X h o hf
    unfold chkS at h
    split at h
    · simp only [Bool.and_eq_true] at h
      exact PS.imp (ps_while o.own (chk_ok c C _ X Ed h.1 o) (ihb C _ X h.2 o hf)) fun _ _ _ q => lift_while q
    · cases h
  | brk =>
    intro C n X h o hf
    unfold chkS at h
    split at h
    · refine PS.imp ps_break fun D σ H ⟨sd, hh, N, n, t, e⟩ => e.bk _ _ _ _ t n (.refl _ _)
    · cases h
  | cnt =>
    intro C n X h o hf
    unfold chkS at h
    split at h
    · refine PS.imp ps_continue fun D σ H ⟨sd, hh, N, n, t, e⟩ => e.ct _ _ _ _ t n (.refl _ _)
    · cases h
end DL
namespace DL
open PySem PySem.Spec L2

/-! ## 8. A def keeps its contract; the end -/
/-- the values at a def's entry -/
def dstart (n : Nat) (ds : List D) : DSt := ds.map some ++ List.replicate (n - ds.length) none
theorem RS.start {K : KW} {H : Hp} {N : List Str} {ds : List D} {vs : List V} (r : RDs K H ds vs) : RS K H (dstart N.length ds) (start N vs) := by
  refine ⟨?_, fun i d e => ?_⟩
  · unfold dstart L2.start
    simp [r.length]
  · unfold dstart at e
    unfold L2.start
    by_cases hi : i < ds.length
    · rw [List.getElem?_append_left (by simpa using hi), List.getElem?_map] at e
      cases e1 : ds[i]? with
      | none => rw [e1] at e; cases e
      | some x =>
        rw [e1] at e
        cases e
        obtain ⟨v, e2, q⟩ := r.get e1
        exact ⟨v, by rw [List.getElem?_append_left (by rw [List.length_map, ← r.length]; exact hi), List.getElem?_map, e2]; rfl, q⟩
    · rw [List.getElem?_append_right (by simpa using Nat.le_of_not_lt hi)] at e
      rw [List.getElem?_replicate] at e
      split at e <;> cases e
/-- what the top has left for a table -/
structure TabAt (T : Tab) (Φ : Nat → Ct) (CX : CXT) (k : Nat) (P : Program) (w : World) (K : PySem.W.Frag) (mg : Str → Option Value) (base : Heap) : Prop where
  free : ∀ x ∈ T.free, mg x = none
  cst : ∀ x j, T.gl.lookup x = some j → ∃ u v, mg x = some u ∧ RelV v u ∧ ∀ H, RD ⟨K, w⟩ H (T.cs j) v
  fns : ∀ x f, T.fn.lookup x = some f → ∃ (fa : Addr) (fd : FuncData), mg x = some (.ref fa) ∧ PySem.W.keepIn K (.ref fa) = true ∧ FnOk P w K mg base CX k fa fd (T.ps f) (liftSp ⟨K, w⟩ (Φ f)) ∧ Binds K fd (T.ps f) [] ∧
    ∀ n ks π, (f, n, ks, π) ∈ T.sh → KBn K fd (T.ps f) n ks (fun us ws => permL π (us ++ ws)) (fun vs zs => permL π (vs ++ zs))
def CtLen (n : Nat) (c : Ct) : Prop := ∀ ds h Q E, c ds h Q E → ds.length = n
theorem CXno0 : CXno CX0 := fun _ _ _ _ _ _ _ h => h
section
variable {P : Program} {w : World} {K : PySem.W.Frag} {mg : Str → Option Value} {base : Heap}
theorem fn_ok {x qual : Str} {st : Stmt} {f : Addr} {fd : FuncData} {N ps : List Str} {k : Nat} {T : Tab} {Φ : Nat → Ct} {ir : S} {c : Ct} (F : Fun K x qual st f fd) (S : FnScope N ps (defScope st)) (tab : TabAt T Φ CX0 k P w K mg base)
    (hc : chkS T ir ⟨N, (defScope st).names⟩ (.b (defBody st)) = true) (hl : CtLen ps.length c)
    (hb : ∀ ds h Q E, c ds h Q E → xS T.cs Φ E ir { nx := fun _ h' => Q .non h', rt := Q } (dstart N.length ds) h) : FnOk P w K mg base CX0 (k + 1) f fd ps (liftSp ⟨K, w⟩ c) := by
  refine F.ok S (fun vs H Q E h => ?_) (fun cdv A outer s H vs Q E hr h => ?_)
  · obtain ⟨ds, hd, Qd, Ed, r, _, q, _⟩ := h
    rw [← r.length]
    exact hl _ _ _ _ q
  · obtain ⟨ds, hd, Qd, Ed, r, rh, q, kq, ke⟩ := h
    refine ⟨liftS ⟨K, w⟩ (hd, H) (xS T.cs Φ Ed ir), chkS_ok (CX := CX0) (k := k) (Ed := Ed) ir _ _ _ hc ?_ S.kind, ?_⟩
    · exact { N := rfl, nd := S.nd, calm := rfl, room := hr, rel := fun _ _ e => .inl e, fnc := fun _ _ => rfl, free := tab.free, cst := tab.cst, fns := fun x f e => ⟨tab.fns x f e⟩, pass := fun _ _ _ _ _ _ _ z => z.elim, own := PassesOwn.never, cx := CXno0 }
    · refine ⟨dstart N.length ds, hd, _, ⟨RS.start r, rh, .refl _ _⟩, hb _ _ _ _ q, ⟨fun sd' h' σ' H' q n f => kq _ _ _ _ q ⟨.non, n.rh, f⟩, fun d h' v H' q p => kq _ _ _ _ q p, fun _ _ _ _ z _ _ => z.elim, fun _ _ _ _ z _ _ => z.elim⟩⟩
/-- a def that is not to be called here -/
theorem FnOk.vac {CX : CXT} {k : Nat} {f : Addr} {fd : FuncData} {ps : List Str} : FnOk P w K mg base CX k f fd ps (liftSp ⟨K, w⟩ fun _ _ _ _ => False) :=
  ⟨fun _ _ _ _ ⟨_, _, _, _, _, _, z, _⟩ => z.elim, fun _ _ _ _ _ _ _ _ _ _ _ _ _ ⟨_, _, _, _, _, _, z, _⟩ => z.elim⟩
theorem FnOk.weak {CX : CXT} {k : Nat} {f : Addr} {fd : FuncData} {ps : List Str} {c c' : Ct} (F : FnOk P w K mg base CX k f fd ps (liftSp ⟨K, w⟩ c)) (h : ∀ ds h Q E, c' ds h Q E → c ds h Q E) : FnOk P w K mg base CX k f fd ps (liftSp ⟨K, w⟩ c') :=
  F.imp fun _ _ _ _ ⟨ds, hd, Qd, Ed, r, rh, q, kq, ke⟩ => ⟨ds, hd, Qd, Ed, r, rh, h _ _ _ _ q, kq, ke⟩
/-- a def as the top has left it -/
structure DefAt (K : PySem.W.Frag) (mg : Str → Option Value) (x : Str) (st : Stmt) (f : Addr) (fd : FuncData) : Prop where
  at_ : mg x = some (.ref f)
  fn : Fun K x x st f fd
theorem def_at {h : Heap} {x : Str} {st : Stmt} {f : Addr} {oc kV dc pm cd ct : Value} {od an : Option Addr} {sl : Array (Option Value)} (X : K.In h) (G : h.Ns mainGlobals mg)
    (a : PySem.W.nsIn K mainGlobals x = some (some (.ref f))) (l : K.lookup f = some ⟨oc, od, .func (PySem.W.fnOf x x (defArgs st) (defBody st) (defScope st) .none kV dc pm an cd ct), sl⟩)
    (c : PySem.W.codeIn K cd x = true) (k : PySem.W.keepIn K (.ref f) = true) : DefAt K mg x st f (PySem.W.fnOf x x (defArgs st) (defBody st) (defScope st) .none kV dc pm an cd ct) :=
  ⟨PySem.W.mg_of X G a, fun_mk l c k⟩
/-- .. with its contract, for a table -/
theorem DefAt.tab {CX : CXT} {k : Nat} {x : Str} {st : Stmt} {f : Addr} {fd : FuncData} {ps : List Str} {c : Ct} {sh : List (Nat × Nat × List Str × List Nat)} {i : Nat} (d : DefAt K mg x st f fd) (F : FnOk P w K mg base CX k f fd ps (liftSp ⟨K, w⟩ c)) (b : Binds K fd ps [])
    (kb : ∀ n ks π, (i, n, ks, π) ∈ sh → KBn K fd ps n ks (fun us ws => permL π (us ++ ws)) (fun vs zs => permL π (vs ++ zs))) :
    ∃ (fa : Addr) (fd : FuncData), mg x = some (.ref fa) ∧ PySem.W.keepIn K (.ref fa) = true ∧ FnOk P w K mg base CX k fa fd ps (liftSp ⟨K, w⟩ c) ∧ Binds K fd ps [] ∧
      ∀ n ks π, (i, n, ks, π) ∈ sh → KBn K fd ps n ks (fun us ws => permL π (us ++ ws)) (fun vs zs => permL π (vs ++ zs)) := ⟨f, fd, d.at_, d.fn.kp, F, b, kb⟩
theorem kbn_of {fd : FuncData} {ps : List Str} {n : Nat} {ks : List Str} {π : List Nat} (h : ∀ (s : Shared) (us ws : List Value), us.length = n → ws.length = ks.length → BindsTo s fd ⟨us, ks.zip ws⟩ (ps.zip (permL π (us ++ ws)))) :
    KBn K fd ps n ks (fun us ws => permL π (us ++ ws)) (fun vs zs => permL π (vs ++ zs)) := ⟨fun s us ws _ => h s us ws, fun r q => permL_vals (r.append q)⟩
end
/-- the law's def: True for every list of at most 63 ints -/
def cLaw : Ct := fun ds _ Q _ => ∃ ns : List Int, ds = [.rl (ns.map D.int)] ∧ ns.length ≤ 63 ∧ (∀ z ∈ ns, Builtin.Int.intBits z ≤ 1048576) ∧ ∀ h', Q (.bl true) h'
theorem law_sp {K : KW} {H : Hp} {a : Addr} {ns : List Int} (h1 : ns.length ≤ 63) (h2 : ∀ z ∈ ns, Builtin.Int.intBits z ≤ 1048576) (hO : Only H) (hS : SqL K H a (ns.map V.int)) :
    liftSp K cLaw [.ref a] H (fun v _ => v = .bl true) fun _ _ _ => False := by
  have fz : FzL K H a (ns.map V.int) := by
    rcases hS with (h | ⟨o, h⟩) | h
    · rcases hO a with z | ⟨o, xs, z⟩
      · rw [z] at h; cases h
      · rw [z] at h; cases h
    · exact .inl ⟨o, h⟩
    · exact .inr h
  exact ⟨[.rl (ns.map D.int)], fun _ => none, fun d _ => d = .bl true, fun _ _ _ => False, .cons (.rl fz (RDs.ofInts ns)) .nil, (fun _ _ e => nomatch e), ⟨ns, rfl, h1, h2, fun _ => rfl⟩,
    fun d h' v H' q p => by subst q; obtain ⟨r, _, _⟩ := p; cases r; rfl, fun _ _ _ _ z _ _ => z.elim⟩
theorem law_end {l : PySem.W.OpenLaw} {k : Nat} {q : Program} {loose : List Str} {XP : (Str → Option Value) → Heap → Prop} {YP : World → Heap → Prop} {d : DefRec} {K : Params → PySem.W.Frag} {x : Str}
    (hn : l.most = some 63) (hdf : d.params.defaults = []) (hr : Room k callerA) (hY : ∀ (w : World) (h : Heap), YP w h → (K w.params).In h)
    (F : ∀ (w : World) (mg : Str → Option Value) (fa : Addr) (h : Heap), (K w.params).In h → h.Ns mainGlobals mg → mg d.name = some (.ref fa) →
      ∃ fd : FuncData, (∀ (s : Shared) (u : Value), BindsTo s fd ⟨[u], []⟩ [(x, u)]) ∧ ∀ base : Heap, (K w.params).In base → base.Ns mainGlobals mg → FnOk l.prog w (K w.params) mg base CX0 k fa fd [x] (liftSp ⟨K w.params, w⟩ cLaw)) :
    PySem.W.WalkO q loose XP YP l.row.toRowW d [] (fun f vs => PySem.call f vs) :=
  L2.walk_ofB (n := 63) (k := k) (x := x) (CX := fun _ => CX0) (sp := fun w => liftSp ⟨K w.params, w⟩ cLaw) hn (by decide) hdf hr hY F (fun w H a ns h1 h2 hO hS => law_sp h1 h2 hO hS) fun _ _ _ _ _ z => z
end DL
namespace DL
open PySem PySem.Spec L2

/-! ## 8b. A law's defs, one after the other -/
def Tab.cut (T : Tab) (n : Nat) : Tab := { T with fn := T.fn.take n }
section
variable {P : Program} {w : World} {K : PySem.W.Frag} {mg : Str → Option Value} {base : Heap}
theorem lookup_app {α β : Type} [BEq α] {y : α} : ∀ {xs ys : List (α × β)}, (xs ++ ys).lookup y = match xs.lookup y with
    | some v => some v
    | none => ys.lookup y
  | [], _ => rfl
  | (a, b) :: xs, ys => by
    simp only [List.cons_append, List.lookup_cons]
    cases h : y == a with
    | true => rfl
    | false => exact lookup_app
theorem Tab0 {T : Tab} {C : Nat → Ct} {k : Nat} (h1 : ∀ x ∈ T.free, mg x = none) (h2 : ∀ x j, T.gl.lookup x = some j → ∃ u v, mg x = some u ∧ RelV v u ∧ ∀ H, RD ⟨K, w⟩ H (T.cs j) v) : TabAt (T.cut 0) C CX0 k P w K mg base :=
  ⟨h1, h2, fun x f e => by simp [Tab.cut] at e⟩
theorem tab_up {T : Tab} {C : Nat → Ct} {n k : Nat} {x : Str} {st : Stmt} {f : Addr} {fd : FuncData} (tab : TabAt (T.cut n) C CX0 k P w K mg base) (hn : T.fn[n]? = some (x, n)) (d : DefAt K mg x st f fd)
    (F : FnOk P w K mg base CX0 (k + 1) f fd (T.ps n) (liftSp ⟨K, w⟩ (C n))) (b : Binds K fd (T.ps n) [])
    (kb : ∀ m ks π, (n, m, ks, π) ∈ T.sh → KBn K fd (T.ps n) m ks (fun us ws => permL π (us ++ ws)) (fun vs zs => permL π (vs ++ zs))) : TabAt (T.cut (n + 1)) C CX0 (k + 1) P w K mg base := by
  refine ⟨tab.free, tab.cst, fun y i e => ?_⟩
  have e1 : (T.cut (n + 1)).fn = (T.cut n).fn ++ [(x, n)] := by
    show T.fn.take (n + 1) = T.fn.take n ++ [(x, n)]
    rw [List.take_add_one, hn]
    rfl
  rw [e1, lookup_app] at e
  cases q : (T.cut n).fn.lookup y with
  | some j =>
    rw [q] at e
    cases e
    obtain ⟨fa, fd, a, b, c, d, e⟩ := tab.fns y _ q
    exact ⟨fa, fd, a, b, c.mono (Nat.le_succ k), d, e⟩
  | none =>
    rw [q] at e
    simp only [List.lookup_cons, List.lookup_nil] at e
    cases hx : y == x with
    | false => rw [hx] at e; cases e
    | true =>
      rw [hx] at e
      cases e
      have := eq_of_beq hx
      subst this
      exact ⟨f, fd, d.at_, d.fn.kp, F, b, kb⟩
theorem tab_step {T : Tab} {C : Nat → Ct} {n k : Nat} {x : Str} {st : Stmt} {f : Addr} {fd : FuncData} {N : List Str} {ir : S} {c : Ct} (tab : TabAt (T.cut n) C CX0 k P w K mg base) (hn : T.fn[n]? = some (x, n)) (d : DefAt K mg x st f fd)
    (S : FnScope N (T.ps n) (defScope st)) (hc : chkS (T.cut n) ir ⟨N, (defScope st).names⟩ (.b (defBody st)) = true) (hC : C n = ask c) (hl : CtLen (T.ps n).length c)
    (hb : ∀ ds h Q E, c ds h Q E → xS T.cs C E ir { nx := fun _ h' => Q .non h', rt := Q } (dstart N.length ds) h) (b : Binds K fd (T.ps n) [])
    (kb : ∀ m ks π, (n, m, ks, π) ∈ T.sh → KBn K fd (T.ps n) m ks (fun us ws => permL π (us ++ ws)) (fun vs zs => permL π (vs ++ zs))) : TabAt (T.cut (n + 1)) C CX0 (k + 1) P w K mg base :=
  tab_up tab hn d (by rw [hC]; exact FnOk.weak (fn_ok d.fn S tab hc hl hb) fun _ _ _ _ => ask_el) b kb
theorem FnOk.wk {CX : CXT} {k : Nat} {f : Addr} {fd : FuncData} {ps : List Str} {c c' : Ct} (F : FnOk P w K mg base CX k f fd ps (liftSp ⟨K, w⟩ c)) (h : c' = ask c) : FnOk P w K mg base CX k f fd ps (liftSp ⟨K, w⟩ c') := by
  rw [h]
  exact FnOk.weak F fun _ _ _ _ => ask_el
/-- a table at a higher level, with other contracts for what it does not hold -/
theorem tab_mono {T : Tab} {C C' : Nat → Ct} {n k k' : Nat} (tab : TabAt (T.cut n) C CX0 k P w K mg base) (hk : k ≤ k') (hj : ((T.fn.take n).all fun q => q.2 != n) = true) (hC : ∀ i, i ≠ n → C' i = C i) : TabAt (T.cut n) C' CX0 k' P w K mg base := by
  refine ⟨tab.free, tab.cst, fun y i e => ?_⟩
  obtain ⟨fa, fd, a, b, c, d, q⟩ := tab.fns y i e
  have hi : i ≠ n := by
    have key : ∀ l : List (Str × Nat), (l.all fun q => q.2 != n) = true → l.lookup y = some i → i ≠ n := by
      intro l
      induction l with
      | nil => intro _ e; cases e
      | cons p l ih =>
        intro h e
        rw [List.all_cons, Bool.and_eq_true] at h
        obtain ⟨p1, p2⟩ := p
        simp only [List.lookup_cons] at e
        cases hx : y == p1 with
        | true => rw [hx] at e; cases e; simpa using h.1
        | false => rw [hx] at e; exact ih h.2 e
    exact key _ hj e
  exact ⟨fa, fd, a, b, by rw [hC i hi]; exact c.mono hk, d, q⟩
/-- a def that calls itself: its contracts a family, m the depth that is left -/
theorem tab_rec {T : Tab} {C : Nat → Ct} {n k : Nat} {x : Str} {st : Stmt} {f : Addr} {fd : FuncData} {N : List Str} {ir : S} {fam : Nat → Ct} (M : Nat) (tab : TabAt (T.cut n) C CX0 k P w K mg base) (hn : T.fn[n]? = some (x, n)) (hj : ((T.fn.take n).all fun q => q.2 != n) = true) (d : DefAt K mg x st f fd)
    (S : FnScope N (T.ps n) (defScope st)) (hc : chkS (T.cut (n + 1)) ir ⟨N, (defScope st).names⟩ (.b (defBody st)) = true) (hC : C n = ask (fam M)) (hl : ∀ m, CtLen (T.ps n).length (fam m)) (h0 : ∀ ds h Q E, ¬ fam 0 ds h Q E)
    (hb : ∀ m ds h Q E, fam (m + 1) ds h Q E → xS T.cs (fun i => if i = n then ask (fam m) else C i) E ir { nx := fun _ h' => Q .non h', rt := Q } (dstart N.length ds) h) (b : Binds K fd (T.ps n) [])
    (kb : ∀ m ks π, (n, m, ks, π) ∈ T.sh → KBn K fd (T.ps n) m ks (fun us ws => permL π (us ++ ws)) (fun vs zs => permL π (vs ++ zs))) : TabAt (T.cut (n + 1)) C CX0 (k + M + 1) P w K mg base := by
  have key : ∀ m, FnOk P w K mg base CX0 (k + m) f fd (T.ps n) (liftSp ⟨K, w⟩ (fam m)) := by
    intro m
    induction m with
    | zero => exact FnOk.weak FnOk.vac fun ds h Q E z => (h0 ds h Q E z).elim
    | succ m ih =>
      have tab' : TabAt (T.cut n) (fun i => if i = n then ask (fam m) else C i) CX0 (k + m) P w K mg base := tab_mono tab (Nat.le_add_right k m) hj fun i hi => if_neg hi
      have up : TabAt (T.cut (n + 1)) (fun i => if i = n then ask (fam m) else C i) CX0 (k + m) P w K mg base := by
        refine ⟨tab'.free, tab'.cst, fun y i e => ?_⟩
        have e1 : (T.cut (n + 1)).fn = (T.cut n).fn ++ [(x, n)] := by
          show T.fn.take (n + 1) = T.fn.take n ++ [(x, n)]
          rw [List.take_add_one, hn]
          rfl
        rw [e1, lookup_app] at e
        cases q : (T.cut n).fn.lookup y with
        | some j =>
          rw [q] at e
          cases e
          exact tab'.fns y _ q
        | none =>
          rw [q] at e
          simp only [List.lookup_cons, List.lookup_nil] at e
          cases hx : y == x with
          | false => rw [hx] at e; cases e
          | true =>
            rw [hx] at e
            cases e
            have := eq_of_beq hx
            subst this
            exact ⟨f, fd, d.at_, d.fn.kp, FnOk.wk ih (if_pos rfl), b, kb⟩
      exact fn_ok d.fn S up hc (hl _) (hb m)
  refine tab_up (k := k + M) (tab_mono (C' := C) tab (Nat.le_add_right k M) hj fun _ _ => rfl) hn d ?_ b kb
  rw [hC]
  exact FnOk.weak ((key M).mono (Nat.le_succ _)) fun _ _ _ _ => ask_el
/-- a def that is not called here -/
theorem tab_skip {T : Tab} {C : Nat → Ct} {n k : Nat} {x : Str} {st : Stmt} {f : Addr} {fd : FuncData} (tab : TabAt (T.cut n) C CX0 k P w K mg base) (hn : T.fn[n]? = some (x, n)) (d : DefAt K mg x st f fd) (hC : C n = ask fun _ _ _ _ => False) (b : Binds K fd (T.ps n) [])
    (kb : ∀ m ks π, (n, m, ks, π) ∈ T.sh → KBn K fd (T.ps n) m ks (fun us ws => permL π (us ++ ws)) (fun vs zs => permL π (vs ++ zs))) : TabAt (T.cut (n + 1)) C CX0 (k + 1) P w K mg base :=
  tab_up tab hn d (by rw [hC]; exact FnOk.weak FnOk.vac fun _ _ _ _ => ask_el) b kb
theorem no_sh {T : Tab} {n : Nat} {fd : FuncData} (h : (T.sh.all fun q => q.1 != n) = true) : ∀ m ks π, (n, m, ks, π) ∈ T.sh → KBn K fd (T.ps n) m ks (fun us ws => permL π (us ++ ws)) (fun vs zs => permL π (vs ++ zs)) := fun m ks π q => by
  have := List.all_eq_true.mp h _ q
  simp at this
theorem fr_nil : ∀ x ∈ ([] : List Str), mg x = none := by simp
theorem fr_cons {a : Str} {l : List Str} (h : mg a = none) (t : ∀ x ∈ l, mg x = none) : ∀ x ∈ a :: l, mg x = none := by
  intro x hx
  rcases List.mem_cons.mp hx with rfl | hx
  · exact h
  · exact t x hx
end
/-! constants of the module: read off the frozen heap -/
mutual
inductive GlV (K : PySem.W.Frag) : D → Value → Prop
  | non : GlV K .non .none
  | bl (b : Bool) : GlV K (.bl b) (.bool b)
  | int (i : Int) (t : Tok) : GlV K (.int i) (.int i t)
  | str (x : Str) (t : Tok) : GlV K (.str x) (.str x t)
  | tup {a : Addr} {o : Obj} {its : Array Value} {n : Nat} {ds : List D} {us : List Value} : K.lookup a = some o → o.cls = .type "tuple" → o.data = .seq its n → its.size ≤ sizeLine → its.toList = us → GlVs K ds us → GlV K (.tup ds) (.ref a)
inductive GlVs (K : PySem.W.Frag) : List D → List Value → Prop
  | nil : GlVs K [] []
  | cons {d : D} {ds : List D} {u : Value} {us : List Value} : GlV K d u → GlVs K ds us → GlVs K (d :: ds) (u :: us)
end
mutual
theorem GlV.ok {K : PySem.W.Frag} {w : World} : ∀ {d : D} {u : Value}, GlV K d u → ∃ v, RelV v u ∧ ∀ H, RD ⟨K, w⟩ H d v
  | _, _, .non => ⟨.non, rfl, fun _ => .non⟩
  | _, _, .bl b => ⟨.bl b, rfl, fun _ => .bl b⟩
  | _, _, .int i t => ⟨.int i, ⟨t, rfl⟩, fun _ => .int i⟩
  | _, _, .str x t => ⟨.str x, ⟨t, rfl⟩, fun _ => .str x⟩
  | _, _, .tup l c e z p r => by
    subst p
    obtain ⟨vs, h1, h2⟩ := GlVs.ok r
    exact ⟨.ref _, rfl, fun H => .tup (.inr ⟨_, _, _, l, c, e, z, h1⟩) (h2 H)⟩
theorem GlVs.ok {K : PySem.W.Frag} {w : World} : ∀ {ds : List D} {us : List Value}, GlVs K ds us → ∃ vs, Vals vs us ∧ ∀ H, RDs ⟨K, w⟩ H ds vs
  | _, _, .nil => ⟨[], .nil, fun _ => .nil⟩
  | _, _, .cons h t => by
    obtain ⟨v, h1, h2⟩ := GlV.ok h
    obtain ⟨vs, h3, h4⟩ := GlVs.ok t
    exact ⟨v :: vs, .cons h1 h3, fun H => .cons (h2 H) (h4 H)⟩
end
end DL
namespace DL
open PySem L2

/-! ## 9. For the proofs of bodies -/
theorem iteT {A B : Prop} (a : A) : if true = true then A else B := by rw [if_pos rfl]; exact a
theorem iteF {A B : Prop} (b : B) : if false = true then A else B := by rw [if_neg Bool.false_ne_true]; exact b
theorem iteD {c : Prop} [Decidable c] {A B : Prop} (a : c → A) (b : ¬ c → B) : if decide c = true then A else B := by
  by_cases h : c
  · rw [if_pos (decide_eq_true h)]; exact a h
  · rw [if_neg (by simpa using h)]; exact b h
theorem iteN {c : Prop} [Decidable c] {A B : Prop} (a : ¬ c → A) (b : c → B) : if (!decide c) = true then A else B := by
  by_cases h : c
  · rw [if_neg (by simpa using h)]; exact b h
  · rw [if_pos (by simpa using h)]; exact a h
theorem iteB {c : Bool} {A B : Prop} (a : c = true → A) (b : c = false → B) : if c = true then A else B := by
  cases c with
  | true => rw [if_pos rfl]; exact a rfl
  | false => rw [if_neg Bool.false_ne_true]; exact b rfl
theorem atI_at {α : Type} {xs : List α} {i : Int} {v : α} (h0 : 0 ≤ i) (h : xs[i.toNat]? = some v) : atI xs i = some v := by
  obtain ⟨n, rfl⟩ : ∃ n : Nat, i = n := ⟨i.toNat, by omega⟩
  exact atI_nat (by simpa using h)
theorem atI_m1 {α : Type} {xs : List α} {v : α} (h : xs[xs.length - 1]? = some v) : atI xs (-1) = some v := by
  have hn : xs ≠ [] := fun e => by subst e; simp at h
  obtain ⟨ys, y, rfl⟩ : ∃ ys y, xs = ys ++ [y] := ⟨xs.dropLast, xs.getLast hn, (List.dropLast_concat_getLast hn).symm⟩
  simp at h
  subst h
  exact atI_last _ _
theorem ixN_m1 {n : Nat} (h : 0 < n) : ixN n (-1) = some (n - 1) := by
  unfold ixN
  rw [if_neg (by decide), if_pos (by omega)]
  congr 1
  omega
theorem ixN_at {n : Nat} {i : Int} (h0 : 0 ≤ i) (h : i < n) : ixN n i = some i.toNat := by
  unfold ixN
  rw [if_pos h0, if_pos h]
theorem ne_new {h : DH} {a b : Addr} {o : DO} (e : h a = none) (q : h b = some o) : b ≠ a := fun z => by
  subst z; rw [e] at q; cases q
theorem mulC {i j : Int} (h : -(2 ^ 64) < j ∧ j < 2 ^ 64) : MulOk i j := .inl (.inr h)
theorem mulC' {i j : Int} (h : -(2 ^ 64) < i ∧ i < 2 ^ 64) : MulOk i j := .inl (.inl h)
theorem len_l {h : DH} {p : Addr} {xs : List D} {Q : DK} (l : LR h p xs) (q : Q (.int xs.length) h) : lenD (.ref p) h Q := by unfold lenD lenR; exact .inl ⟨_, l, q⟩
theorem len_t {xs : List D} {h : DH} {Q : DK} (q : Q (.int xs.length) h) : lenD (.tup xs) h Q := by unfold lenD; exact q
theorem len_rl {xs : List D} {h : DH} {Q : DK} (q : Q (.int xs.length) h) : lenD (.rl xs) h Q := by unfold lenD; exact q
theorem len_s {z : Str} {h : DH} {Q : DK} (e : z.length ≤ sizeLine) (q : Q (.int z.length) h) : lenD (.str z) h Q := by unfold lenD; exact ⟨e, q⟩
theorem sub_t {xs : List D} {k : Int} {v : D} {h : DH} {Q : DK} (e : atI xs k = some v) (q : Q v h) : subD (.tup xs) (.int k) h Q := by unfold subD; exact ⟨_, _, rfl, e, q⟩
theorem sub_r {xs : List D} {k : Int} {v : D} {h : DH} {Q : DK} (e : atI xs k = some v) (q : Q v h) : subD (.rl xs) (.int k) h Q := by unfold subD; exact ⟨_, _, rfl, e, q⟩
theorem sub_s {z : Str} {k : Int} {c : Nat} {h : DH} {Q : DK} (b : z.length ≤ sizeLine) (e : atI z.cps.toList k = some c) (q : Q (.str ⟨#[c]⟩) h) : subD (.str z) (.int k) h Q := by unfold subD; exact ⟨_, _, rfl, b, e, q⟩
theorem sub_l {h : DH} {p : Addr} {xs : List D} {k : Int} {v : D} {Q : DK} (l : LR h p xs) (e : atI xs k = some v) (q : Q v h) : subD (.ref p) (.int k) h Q := by unfold subD subR; exact .inl ⟨_, _, _, l, rfl, e, q⟩
theorem set_l {h : DH} {p : Addr} {xs : List D} {k : Int} {j : Nat} {v : D} {Q : DH → Prop} (l : h p = some (.lst xs)) (e : ixN xs.length k = some j) (q : Q (updD h p (.lst (xs.set j v)))) : setR p (.int k) v h Q := by unfold setR; exact .inl ⟨_, _, _, l, rfl, e, q⟩
theorem in_l {h : DH} {p : Addr} {ys : List D} {x : D} {k : Bool → Prop} (l : LR h p ys) (f : flatD x = true) (g : ys.all flatD = true) (q : k (ys.any fun y => eqF y x)) : inR x p h k := by unfold inR; exact .inl ⟨_, l, .inl ⟨f, g, q⟩⟩
theorem len_d {h : DH} {p : Addr} {b : Bool} {kvs : List (D × D)} {o : Obj} {Q : DK} (l : h p = some (.dct b kvs o)) (q : Q (.int kvs.length) h) : lenD (.ref p) h Q := by unfold lenD lenR; exact .inr ⟨b, kvs, ⟨p, o, rfl, l⟩, q⟩
theorem sub_d {h : DH} {p : Addr} {b : Bool} {kvs : List (D × D)} {o : Obj} {i v : D} {Q : DK} (l : h p = some (.dct b kvs o)) (k : keyB b i = true) (e : dget kvs i = some v) (q : Q v h) : subD (.ref p) i h Q := by unfold subD subR; exact .inr ⟨b, kvs, v, ⟨p, o, rfl, l⟩, k, e, q⟩
theorem set_d {h : DH} {p : Addr} {b : Bool} {kvs : List (D × D)} {o : Obj} {i v : D} {Q : DH → Prop} (l : h p = some (.dct b kvs o)) (k : keyB b i = true) (z : kvs.length < sizeLine) (q : ∀ o', Q (updD h p (.dct b (dput kvs i v) o'))) : setR p i v h Q := by unfold setR; exact .inr ⟨p, b, kvs, o, rfl, l, k, z, q⟩
theorem in_d {h : DH} {p : Addr} {b : Bool} {kvs : List (D × D)} {o : Obj} {i : D} {k : Bool → Prop} (l : h p = some (.dct b kvs o)) (kb : keyB b i = true) (q : k (dget kvs i).isSome) : inR i p h k := by unfold inR; exact .inr ⟨b, kvs, ⟨p, o, rfl, l⟩, kb, q⟩
theorem get_d {h : DH} {p : Addr} {b : Bool} {kvs : List (D × D)} {o : Obj} {i z : D} {Q : DK} (l : h p = some (.dct b kvs o)) (kb : keyB b i = true) (q : Q ((dget kvs i).getD z) h) : mthD .get (.ref p) [i, z] h Q := ⟨b, kvs, ⟨p, o, rfl, l⟩, kb, q⟩
theorem it_l {h : DH} {p : Addr} {xs : List D} {R : ItR} (l : LR h p xs) (r : R xs fun h' => LR h' p xs) : itD .val (.ref p) h R := by
  show itR p h R
  unfold itR; exact .inl ⟨xs, l, r⟩
theorem it_d {h : DH} {p : Addr} {b : Bool} {kvs : List (D × D)} {o : Obj} {R : ItR} (l : h p = some (.dct b kvs o)) (r : R (kvs.map (·.1)) fun h' => h' p = some (.dct b kvs o)) : itD .val (.ref p) h R := by
  show itR p h R
  unfold itR; exact .inr (.inl ⟨b, kvs, o, l, r⟩)
theorem it_r {h : DH} {p : Addr} {j : Int} {R : ItR} (m : Nat) (l : h p = some (.rng j)) (e : j.toNat = m) (b : j ≤ 1000000 ∧ -1000000 ≤ j) (r : R (rangeD 0 m) fun _ => True) : itD .val (.ref p) h R := by
  subst e
  show itR p h R
  unfold itR; exact .inr (.inr ⟨j, l, ⟨by omega, by omega⟩, r⟩)
theorem items_d {h : DH} {p : Addr} {b : Bool} {kvs : List (D × D)} {o : Obj} {R : ItR} (l : h p = some (.dct b kvs o)) (r : R (kvs.map fun kv => .tup [kv.1, kv.2]) fun h' => h' p = some (.dct b kvs o)) : itD .items (.ref p) h R := ⟨b, kvs, o, l, r⟩
theorem vals_d {h : DH} {p : Addr} {b : Bool} {kvs : List (D × D)} {o : Obj} {R : ItR} (l : h p = some (.dct b kvs o)) (r : R (kvs.map (·.2)) fun h' => h' p = some (.dct b kvs o)) : itD .vals (.ref p) h R := ⟨b, kvs, o, l, r⟩
theorem tget_d {h : DH} {p : Addr} {b : Bool} {kvs : List (D × D)} {o : Obj} (l : h p = some (.dct b kvs o)) : mthT .get (.ref p) h := ⟨b, kvs, p, o, rfl, l⟩
/-- all stays but p and g -/
def FrP (p g : Addr) (h h' : DH) : Prop := ∀ b o, b ≠ p → b ≠ g → h b = some o → h' b = some o
theorem FrP.refl (p g : Addr) (h : DH) : FrP p g h h := fun _ _ _ _ e => e
theorem FrP.trans {p g : Addr} {h h1 h2 : DH} (x : FrP p g h h1) (y : FrP p g h1 h2) : FrP p g h h2 := fun b o n1 n2 e => y b o n1 n2 (x b o n1 n2 e)
theorem FrP.new {p g a : Addr} {h : DH} {o : DO} (e : h a = none) : FrP p g h (updD h a o) := fun b q _ _ z => by rw [updD_ne (ne_new e z)]; exact z
theorem FrP.at1 {p g : Addr} {h : DH} {o : DO} : FrP p g h (updD h p o) := fun b q n _ z => by rw [updD_ne n]; exact z
theorem FrP.at2 {p g : Addr} {h : DH} {o : DO} : FrP p g h (updD h g o) := fun b q _ n z => by rw [updD_ne n]; exact z
/-- all stays -/
def Sm (h h' : DH) : Prop := ∀ b o, h b = some o → h' b = some o
theorem Sm.refl (h : DH) : Sm h h := fun _ _ e => e
theorem Sm.trans {h h1 h2 : DH} (x : Sm h h1) (y : Sm h1 h2) : Sm h h2 := fun b o e => y b o (x b o e)
theorem Sm.new {a : Addr} {h : DH} {o : DO} (e : h a = none) : Sm h (updD h a o) := fun b q z => by rw [updD_ne (ne_new e z)]; exact z
theorem Sm.frp {p g : Addr} {h h' : DH} (x : Sm h h') : FrP p g h h' := fun b o _ _ e => x b o e
theorem Sm.free {h h' : DH} (x : Sm h h') {a : Addr} (e : h' a = none) : h a = none := by
  cases q : h a with
  | none => rfl
  | some o => rw [x a o q] at e; cases e
/-- an object that was new at h1 is written later -/
theorem Sm.write {h h2 : DH} {a : Addr} {o : DO} (x : Sm h h2) (e : h a = none) : Sm h (updD h2 a o) := fun b q z => by rw [updD_ne (ne_new e z)]; exact x b q z
theorem FrP.write {p g : Addr} {h h2 : DH} {a : Addr} {o : DO} (x : FrP p g h h2) (e : h a = none) : FrP p g h (updD h2 a o) := fun b q n1 n2 z => by rw [updD_ne (ne_new e z)]; exact x b q n1 n2 z
theorem FrP.w1 {p g : Addr} {h h2 : DH} {o : DO} (x : FrP p g h h2) : FrP p g h (updD h2 p o) := fun b q n1 n2 z => by rw [updD_ne n1]; exact x b q n1 n2 z
theorem FrP.w2 {p g : Addr} {h h2 : DH} {o : DO} (x : FrP p g h h2) : FrP p g h (updD h2 g o) := fun b q n1 n2 z => by rw [updD_ne n2]; exact x b q n1 n2 z

/-! ### the pool of the laws -/
/-- its list at p, the list of great cells at g -/
def PoolAt (h : DH) (p g : Addr) : Prop := ∃ (great : List Int) (mixed cnt : Int), h p = some (.lst [.ref g, .int mixed, .int cnt]) ∧ h g = some (.lst (great.map D.int))
theorem PoolAt.ne {h : DH} {p g : Addr} (x : PoolAt h p g) : p ≠ g := fun e => by
  obtain ⟨great, mixed, cnt, hp, hg⟩ := x
  subst e; rw [hp] at hg
  cases great <;> simp at hg
theorem PoolAt.sm {h h' : DH} {p g : Addr} (x : PoolAt h p g) (s : Sm h h') : PoolAt h' p g := let ⟨a, b, c, e, f⟩ := x; ⟨a, b, c, s _ _ e, s _ _ f⟩
theorem PoolAt.new {h : DH} {p g a : Addr} {o : DO} (x : PoolAt h p g) (e : h a = none) : PoolAt (updD h a o) p g := x.sm (.new e)
theorem PoolAt.set {h : DH} {p g a : Addr} {o : DO} (x : PoolAt h p g) (n1 : a ≠ p) (n2 : a ≠ g) : PoolAt (updD h a o) p g := let ⟨u, v, w, e, f⟩ := x; ⟨u, v, w, by rw [updD_ne n1.symm]; exact e, by rw [updD_ne n2.symm]; exact f⟩
theorem PoolAt.nep {h : DH} {p g a : Addr} (x : PoolAt h p g) (e : h a = none) : a ≠ p ∧ a ≠ g := let ⟨_, _, _, hp, hg⟩ := x; ⟨(ne_new e hp).symm, (ne_new e hg).symm⟩
/-- told of the heap in which a is free -/
theorem at_free {h : DH} {a : Addr} (_ : h a = none) {R : DH → Prop} (q : R h) : R h := q
def cPick : Ct := fun ds h Q _ => ∃ p g n, ds = [.ref p, .int n] ∧ PoolAt h p g ∧ n.natAbs.log2 < 9000 ∧
  ∀ k h', 0 ≤ k → (k < n ∨ k = 0) → PoolAt h' p g → FrP p g h h' → Q (.int k) h'
def cPool : Ct := fun ds h Q _ => ∃ (ns : List Int) (salt : Int), ds = [.rl (ns.map D.int), .int salt] ∧ ns.length ≤ 63 ∧
  ∀ p g h', h p = none → h g = none → PoolAt h' p g → Sm h h' → Q (.ref p) h'
/-- one of a row: a list of the caller's -/
def cOne : Ct := fun ds h Q _ => ∃ p g r xs, ds = [.ref p, .ref r] ∧ PoolAt h p g ∧ h r = some (.lst xs) ∧ xs ≠ [] ∧ xs.length ≤ 100000 ∧ r ≠ p ∧ r ≠ g ∧
  ∀ x h', x ∈ xs → PoolAt h' p g → FrP p g h h' → Q x h'
end DL
open PySem L2 DL
local macro_rules | `(tactic| walk_at "ne") => `(tactic| first | assumption | (refine Ne.symm ?_; assumption) | exact ne_new (by assumption) (by assumption) | exact Ne.symm (ne_new (by assumption) (by assumption)) | exact ne_new (by assumption) (by walk_at "hp") | exact Ne.symm (ne_new (by assumption) (by walk_at "hp")))
local macro_rules | `(tactic| walk_at "hp") => `(tactic| first | assumption | exact updD_same | (refine (updD_ne ?_).trans ?_; (walk_at "ne"); (walk_at "hp")))
local macro_rules | `(tactic| walk_at "go") => `(tactic| repeat (first
  | refine ⟨_, rfl, ?_⟩
  | refine ⟨_, _, rfl, rfl, ?_⟩
  | refine sub_l (by walk_at "hp") rfl ?_
  | refine len_l (by walk_at "hp") ?_
  | refine sub_t rfl ?_
  | refine len_t ?_
  | refine len_rl ?_
  | refine set_l (by walk_at "hp") rfl ?_
  | refine ⟨mulC (by decide), ?_⟩
  | refine ⟨mulC' (by decide), ?_⟩
  | refine ⟨(by decide : (0 : Int) < _), ?_⟩
  | refine ⟨(⟨by decide, by decide⟩ : DivOk _), ?_⟩
  | refine ⟨((by simp only [List.length_cons, List.length_nil]; decide) : List.length (_ : List D) ≤ sizeLine), ?_⟩
  | refine ⟨_, (by walk_at "hp" : LR _ _ _), ?_⟩
  | refine it_l (by walk_at "hp") ?_
  | refine ⟨⟨_, _, rfl, (by walk_at "hp")⟩, ?_⟩
  | refine ⟨mulC (by omega), ?_⟩
  | refine ⟨mulC' (by omega), ?_⟩
  | refine iteF ?_
  | refine iteT ?_))
namespace DL
theorem rangeD_get {lo : Int} {n i : Nat} {x : D} (e : (rangeD lo n)[i]? = some x) : x = .int (lo + i) ∧ i < n := by
  by_cases h : i < n
  · have : (rangeD lo n)[i]? = some (.int (lo + i)) := by simp [rangeD, h]
    rw [this] at e; exact ⟨(Option.some.inj e).symm, h⟩
  · rw [List.getElem?_eq_none (by simp [rangeD]; omega)] at e; cases e
theorem rangeD_len {lo : Int} {n : Nat} : (rangeD lo n).length = n := by simp [rangeD]
theorem sz63 {n : Nat} (h : n ≤ 100000) : n ≤ sizeLine := Nat.le_trans h (by decide)
variable {cs : Nat → D} {Φ : Nat → Ct}
/-! the pool's defs, alike in every law -/
def irPick : S :=
  (.seq (.ite (.cmp .Lt (.var 1) (.cst (.int 2))) (.seq (.ret (.cst (.int 0)))
  .skip) .skip)
  (.seq (.asg (.name 2) (.sub (.var 0) (.cst (.int 0))))
  (.seq (.ite (.cmp .Gt (.blt .len (.cons (.var 2) .nil)) (.cst (.int 0))) (.seq (.asg (.name 3) (.bin .Mod (.blt .int (.cons (.sub (.var 2) (.neg (.cst (.int 1)))) .nil)) (.var 1)))
  (.seq (.asgSub (.var 2) (.neg (.cst (.int 1))) (.bin .FloorDiv (.sub (.var 2) (.neg (.cst (.int 1)))) (.var 1)))
  (.seq (.ite (.cmp .Eq (.sub (.var 2) (.neg (.cst (.int 1)))) (.cst (.int 0))) (.seq (.expr (.mth .pop (.var 2) .nil))
  .skip) .skip)
  (.seq (.ret (.var 3))
  .skip)))) .skip)
  (.seq (.asgSub (.var 0) (.cst (.int 2)) (.bin .Add (.sub (.var 0) (.cst (.int 2))) (.cst (.int 1))))
  (.seq (.asg (.name 4) (.bin .Mod (.blt .int (.cons (.bin .Add (.bin .Add (.bin .Mult (.sub (.var 0) (.cst (.int 1))) (.cst (.int 48271))) (.bin .Mult (.cst (.int 11)) (.sub (.var 0) (.cst (.int 2))))) (.cst (.int 5))) .nil)) (.cst (.int 2147483647))))
  (.seq (.asgSub (.var 0) (.cst (.int 1)) (.var 4))
  (.seq (.asg (.name 5) (.bin .Mod (.blt .int (.cons (.bin .Add (.bin .Add (.bin .Mult (.var 4) (.var 4)) (.bin .Mult (.cst (.int 3)) (.sub (.var 0) (.cst (.int 2))))) (.cst (.int 1))) .nil)) (.cst (.int 2147483629))))
  (.seq (.asg (.name 6) (.bin .Mod (.blt .int (.cons (.bin .Add (.bin .Mult (.var 5) (.var 5)) (.var 4)) .nil)) (.cst (.int 2147483587))))
  (.seq (.ret (.bin .Mod (.blt .int (.cons (.bin .FloorDiv (.var 6) (.cst (.int 7))) .nil)) (.var 1)))
  .skip)))))))))
theorem pick_ok (ds : List D) (h : DH) (Q : DK) (E : XD) (c : cPick ds h Q E) : xS cs Φ E irPick { nx := fun _ h' => Q .non h', rt := Q } (dstart 7 ds) h := by
  obtain ⟨p, g, n, rfl, P, hn, k⟩ := c
  have hpg := P.ne
  obtain ⟨great, mixed, cnt, hp, hg⟩ := P
  unfold irPick
  walk_at "go"
  refine iteD (fun h1 => ?_) (fun h1 => ?_)
  · exact k 0 h (Int.le_refl _) (.inr rfl) ⟨_, _, _, hp, hg⟩ (.refl _ _ _)
  · have hn2 : 2 ≤ n := by have : ¬ n < 2 := h1; omega
    -- cells = pool[0]
    walk_at "go"
    refine iteD (fun h2 => ?_) (fun h2 => ?_)
    · -- got = cells[-1] % many
      rw [List.length_map] at h2
      have hl : great ≠ [] := fun e => by subst e; simp at h2
      obtain ⟨gs, z, rfl⟩ : ∃ gs z, great = gs ++ [z] := ⟨great.dropLast, great.getLast hl, (List.dropLast_concat_getLast hl).symm⟩
      have hz : ∀ y : Int, atI (List.map D.int (gs ++ [y])) (-1) = some (.int y) := fun y => by rw [List.map_append]; exact atI_last _ _
      walk_at "go"
      refine sub_l (hg) (hz _) ?_
      walk_at "go"
      refine ⟨show 0 < n by omega, ?_⟩
      walk_at "go"
      -- cells[-1] = cells[-1] // many
      refine sub_l (hg) (hz _) ?_
      walk_at "go"
      refine ⟨⟨by omega, hn⟩, ?_⟩
      walk_at "go"
      refine set_l hg (ixN_m1 (by simp)) ?_
      have e1 : (List.map D.int (gs ++ [z])).set ((List.map D.int (gs ++ [z])).length - 1) (.int (z / n)) = List.map D.int (gs ++ [z / n]) := by simp
      rw [e1]
      have hp2 : updD h g (.lst (List.map D.int (gs ++ [z / n]))) p = some (.lst [.ref g, .int mixed, .int cnt]) := by walk_at "hp"
      have b0 : 0 ≤ z % n := Int.emod_nonneg _ (by omega)
      have b1 : z % n < n := Int.emod_lt_of_pos _ (by omega)
      walk_at "go"
      refine sub_l (updD_same) (hz _) ?_
      walk_at "go"
      refine iteD (fun h3 => ?_) (fun h3 => ?_)
      · walk_at "go"
        refine ⟨_, _, _, rfl, updD_same, List.getElem?_eq_getElem (by simp), ?_⟩
        walk_at "go"
        refine k (z % n) _ b0 (.inl b1) ⟨gs, mixed, cnt, by walk_at "hp", ?_⟩ (.w2 (.w2 (.refl _ _ _)))
        rw [updD_same]
        simp
      · walk_at "go"
        exact k (z % n) _ b0 (.inl b1) ⟨_, mixed, cnt, hp2, updD_same⟩ (.w2 (.refl _ _ _))
    · walk_at "go"
      -- pool[2] = pool[2] + 1
      have bx : 0 ≤ (mixed * 48271 + 11 * (cnt + 1) + 5) % 2147483647 ∧ (mixed * 48271 + 11 * (cnt + 1) + 5) % 2147483647 < 2147483647 := ⟨Int.emod_nonneg _ (by decide), Int.emod_lt_of_pos _ (by decide)⟩
      generalize ex : (mixed * 48271 + 11 * (cnt + 1) + 5) % 2147483647 = x at bx
      walk_at "go"
      have by' : 0 ≤ (x * x + 3 * (cnt + 1) + 1) % 2147483629 ∧ (x * x + 3 * (cnt + 1) + 1) % 2147483629 < 2147483629 := ⟨Int.emod_nonneg _ (by decide), Int.emod_lt_of_pos _ (by decide)⟩
      generalize ey : (x * x + 3 * (cnt + 1) + 1) % 2147483629 = y at by'
      walk_at "go"
      refine ⟨show 0 < n by omega, ?_⟩
      refine k _ _ (Int.emod_nonneg _ (by omega)) (.inl (Int.emod_lt_of_pos _ (by omega))) ⟨great, x, cnt + 1, ?_, ?_⟩ (.w1 (.w1 (.refl _ _ _)))
      · rw [updD_same]; rfl
      · walk_at "hp"

def irPool : S :=
  (.seq (.asg (.name 2) (.lst .nil))
  (.seq (.asg (.name 3) (.bin .Add (.cst (.int 7)) (.var 1)))
  (.seq (.for_ (.name 4) .range1 (.cons (.blt .min (.cons (.blt .len (.cons (.var 0) .nil)) (.cons (.cst (.int 63)) .nil))) .nil) (.seq (.asg (.name 5) (.blt .abs (.cons (.blt .int (.cons (.sub (.var 0) (.var 4)) .nil)) .nil)))
  (.seq (.ite (.cmp .GtE (.var 5) (.bin .Pow (.cst (.int 10)) (.cst (.int 18)))) (.seq (.asg (.name 2) (.bin .Add (.lst (.cons (.var 5) .nil)) (.var 2)))
  .skip) .skip)
  (.seq (.asg (.name 3) (.bin .Mod (.blt .int (.cons (.bin .Add (.bin .Add (.bin .Add (.bin .Add (.bin .Mult (.var 3) (.cst (.int 48271))) (.bin .Mult (.bin .Mod (.blt .int (.cons (.var 5) .nil)) (.cst (.int 999983))) (.cst (.int 69621)))) (.bin .Mod (.blt .int (.cons (.bin .FloorDiv (.var 5) (.cst (.int 999983))) .nil)) (.cst (.int 999979)))) (.var 4)) (.cst (.int 1))) .nil)) (.cst (.int 2147483647))))
  .skip))))
  (.seq (.ret (.lst (.cons (.var 2) (.cons (.var 3) (.cons (.cst (.int 0)) .nil)))))
  .skip))))
theorem pool_ok (ds : List D) (h : DH) (Q : DK) (E : XD) (c : cPool ds h Q E) : xS cs Φ E irPool { nx := fun _ h' => Q .non h', rt := Q } (dstart 6 ds) h := by
  obtain ⟨ns, salt, rfl, hl, k⟩ := c
  unfold irPool
  walk_at "go"
  intro g hg
  walk_at "go"
  refine ⟨by rw [List.length_map]; omega, ?_⟩
  refine for_mk (fun i s h' => ∃ (g : Addr) (great : List Int) (mixed : Int) (c5 c6 : Option D), s = [some (.rl (ns.map D.int)), some (.int salt), some (.ref g), some (.int mixed), c5, c6] ∧ h' g = some (.lst (great.map D.int)) ∧ great.length ≤ i ∧ Sm h h' ∧ h g = none) ?_ (fun _ _ _ _ _ => trivial) ?_ ?_
  · exact ⟨g, [], _, _, _, rfl, updD_same, Nat.le_refl _, .new hg, hg⟩
  · rintro i x s h1 e ⟨g, great, mixed, c5, c6, rfl, h1g, hgl, hsm, hgn⟩
    obtain ⟨rfl, hi⟩ := rangeD_get e
    have hi' : i < ns.length := by rw [List.length_map] at hi; omega
    walk_at "go"
    refine sub_r (v := .int ns[i]) (atI_at (by omega) (by simp [hi'])) ?_
    walk_at "go"
    refine ⟨⟨by decide, by decide, by decide⟩, ?_⟩
    walk_at "go"
    refine iteD (fun _ => ?_) (fun _ => ?_)
    · walk_at "go"
      intro r hr
      walk_at "go"
      refine ⟨_, _, updD_same, by walk_at "hp", Nat.le_trans (m := 1000) (by simp; omega) (by decide), ?_⟩
      intro r2 hr2
      walk_at "go"
      exact ⟨r2, ns[i].natAbs :: great, _, _, _, rfl, updD_same, by simp; omega, (hsm.trans (.new hr)).trans (.new hr2), (hsm.trans (.new hr)).free hr2⟩
    · walk_at "go"
      exact ⟨g, great, _, _, _, rfl, h1g, by omega, hsm, hgn⟩
  · rintro s h1 ⟨g, great, mixed, c5, c6, rfl, h1g, hgl, hsm, hgn⟩
    walk_at "go"
    intro p hp
    exact k p g _ (hsm.free hp) hgn ⟨great, mixed, 0, updD_same, by walk_at "hp"⟩ (hsm.trans (.new hp))
def irOne (f : Nat) : S :=
  (.seq (.ret (.sub (.var 1) (.call f (.cons (.var 0) (.cons (.blt .len (.cons (.var 1) .nil)) .nil)))))
  .skip)
end DL
namespace DL
/-! ### more for bodies -/
theorem lgOk {n : Int} (h : n.natAbs ≤ 1000000) : n.natAbs.log2 < 9000 := by
  by_cases h0 : n.natAbs = 0
  · rw [h0]; decide
  · exact Nat.lt_trans ((Nat.log2_lt h0).2 (Nat.lt_of_le_of_lt h (by decide : 1000000 < 2 ^ 20))) (by decide)
theorem numbered_get' {xs : List D} {n i : Nat} {x : D} (e : (numbered n xs)[i]? = some x) : ∃ v, xs[i]? = some v ∧ x = .tup [.int ((n + i : Nat) : Int), v] := by
  rw [numbered_get] at e
  cases q : xs[i]? with
  | none => rw [q] at e; cases e
  | some v => rw [q] at e; exact ⟨v, rfl, (Option.some.inj e).symm⟩
theorem atI_map {α β : Type} {xs : List α} {f : α → β} {k : Int} {v : β} (h0 : 0 ≤ k) (h1 : k < xs.length) (h : ∀ e : k.toNat < xs.length, f (xs[k.toNat]'e) = v) : atI (xs.map f) k = some v := by
  refine atI_at h0 ?_
  have : k.toNat < xs.length := by omega
  rw [List.getElem?_map, List.getElem?_eq_getElem this]
  exact congrArg some (h this)
/-- an item of a list told by a function of the place -/
theorem atI_rng {β : Type} {f : Nat → β} {n : Nat} {k : Int} {j : Nat} (e : k = (j : Int)) (h : j < n) : atI ((List.range n).map f) k = some (f j) := by
  subst e
  exact atI_nat (by simp [h])
theorem get_map {α β : Type} {xs : List α} {f : α → β} {i : Nat} {y : β} (e : (xs.map f)[i]? = some y) : ∃ x, xs[i]? = some x ∧ y = f x := by
  rw [List.getElem?_map] at e
  cases q : xs[i]? with
  | none => rw [q] at e; cases e
  | some x => rw [q] at e; exact ⟨x, rfl, (Option.some.inj e).symm⟩
theorem get_lt {α : Type} {xs : List α} {i : Nat} {x : α} (e : xs[i]? = some x) : i < xs.length := (List.getElem?_eq_some_iff.mp e).1
theorem rng_succ {β : Type} (f : Nat → β) (n : Nat) : (List.range (n + 1)).map f = (List.range n).map f ++ [f n] := by rw [List.range_succ, List.map_append]; rfl
/-- a list or tuple of ints -/
def ILst (h : DH) (d : D) (ns : List Int) : Prop := d = .tup (ns.map D.int) ∨ ∃ p, d = .ref p ∧ h p = some (.lst (ns.map D.int))
theorem ILst.sm {h h' : DH} {d : D} {ns : List Int} (x : ILst h d ns) (s : Sm h h') : ILst h' d ns := by
  rcases x with e | ⟨p, e, q⟩
  · exact .inl e
  · exact .inr ⟨p, e, s _ _ q⟩
theorem ILst.it {h h1 : DH} {d : D} {ns : List Int} {R : ItR} (x : ILst h d ns) (hs : Sm h h1) (r : ∀ inv, (∀ h', Sm h h' → inv h') → R (ns.map D.int) inv) : itD .val d h1 R := by
  rcases x with rfl | ⟨p, rfl, q⟩
  · exact r _ fun _ _ => trivial
  · exact it_l (hs _ _ q) (r _ fun _ s => s _ _ q)
theorem ILst.enum {h h1 : DH} {d : D} {ns : List Int} {R : ItR} (x : ILst h d ns) (hs : Sm h h1) (r : ∀ inv, (∀ h', Sm h h' → inv h') → R (numbered 0 (ns.map D.int)) inv) : itD .enum (.tup [d]) h1 R := by
  rcases x with rfl | ⟨p, rfl, q⟩
  · exact r _ fun _ _ => trivial
  · exact ⟨_, hs _ _ q, r _ fun _ s => s _ _ q⟩
theorem ILst.len {h : DH} {d : D} {ns : List Int} {Q : DK} (x : ILst h d ns) (r : Q (.int ns.length) h) : bltD .len [d] h Q := by
  rcases x with rfl | ⟨p, rfl, q⟩
  · refine len_t ?_
    rw [List.length_map]; exact r
  · refine len_l q ?_
    rw [List.length_map]; exact r
theorem ILst.sub {h : DH} {d : D} {ns : List Int} {i : Int} {v : Int} {Q : DK} (x : ILst h d ns) (e : atI ns i = some v) (r : Q (.int v) h) : subD d (.int i) h Q := by
  have e' : atI (ns.map D.int) i = some (.int v) := by
    unfold atI at e ⊢
    rw [List.length_map]
    cases q : ixN ns.length i with
    | none => rw [q] at e; cases e
    | some j =>
      rw [q] at e
      show (List.map D.int ns)[j]? = _
      rw [List.getElem?_map, show ns[j]? = some v from e]
      rfl
  rcases x with rfl | ⟨p, rfl, q⟩
  · exact sub_t e' r
  · exact sub_l q e' r
section eq
theorem PDs_ints {h : DH} : ∀ ns : List Int, PDs h (ns.map D.int) (ns.map PyData.int)
  | [] => .nil
  | n :: ns => .cons (.int n) (PDs_ints ns)
theorem lay_ints : ∀ ns : List Int, PyData.canLayAll0 (ns.map PyData.int) = true
  | [] => by simp [PyData.canLayAll0]
  | n :: ns => by simp [PyData.canLayAll0, PyData.canLay0, lay_ints ns]
theorem dep_ints : ∀ ns : List Int, PyData.depthAll (ns.map PyData.int) ≤ 1
  | [] => by simp [PyData.depthAll]
  | n :: ns => by simp [PyData.depthAll, PyData.depth, dep_ints ns]
theorem eqv_ints : ∀ ns ms : List Int, PyData.eqvAll (ns.map PyData.int) (ms.map PyData.int) = decide (ns = ms)
  | [], [] => by simp [PyData.eqvAll]
  | [], _ :: _ => by simp [PyData.eqvAll]
  | _ :: _, [] => by simp [PyData.eqvAll]
  | n :: ns, m :: ms => by
    simp only [List.map_cons, PyData.eqvAll, PyData.eqv, eqv_ints ns ms]
    by_cases h : n = m <;> by_cases h2 : ns = ms <;> simp [h, h2]
theorem shaped_ints (ns : List Int) : SeqAt.shaped (.list (ns.map PyData.int)) = true := by
  unfold SeqAt.shaped
  rw [Bool.and_eq_true_iff]
  refine ⟨by simp only [PyData.canLay0]; exact lay_ints ns, decide_eq_true ?_⟩
  simp only [PyData.depth]
  exact Nat.le_trans (Nat.add_le_add_right (dep_ints ns) 1) (by decide)
theorem eqL_ints {h : DH} {p q : Addr} {ns ms : List Int} {k : Bool → Prop} (a : LR h p (ns.map D.int)) (b : LR h q (ms.map D.int)) (r : k (decide (ns = ms))) : eqR p q h k :=
  eqR_l ⟨_, _, .lst a (PDs_ints ns), .lst b (PDs_ints ms), shaped_ints _, shaped_ints _, by simp only [PyData.eqv, eqv_ints]; exact r⟩
theorem neL_ints {h : DH} {p q : Addr} {ns ms : List Int} {k : Bool → Prop} (a : LR h p (ns.map D.int)) (b : LR h q (ms.map D.int)) (r : k (!decide (ns = ms))) : cmpD .NotEq (.ref p) (.ref q) h k :=
  eqL_ints (k := fun b => k (!b)) a b r
theorem eqC_ints {h : DH} {p q : Addr} {ns ms : List Int} {k : Bool → Prop} (a : LR h p (ns.map D.int)) (b : LR h q (ms.map D.int)) (r : k (decide (ns = ms))) : cmpD .Eq (.ref p) (.ref q) h k := eqL_ints a b r
end eq
theorem FrP.free {p g a : Addr} {h h' : DH} (f : FrP p g h h') (P' : PoolAt h' p g) (e : h' a = none) : h a = none := by
  cases q : h a with
  | none => rfl
  | some o =>
    obtain ⟨n1, n2⟩ := P'.nep e
    rw [f _ _ n1 n2 q] at e
    cases e
theorem cut_ints {ns : List Int} {lo hi : Option Int} : cutL (ns.map D.int) lo hi = ((ns.drop (HT.sIx ns.length 0 lo)).take (HT.sIx ns.length ns.length hi - HT.sIx ns.length 0 lo)).map D.int := by
  unfold cutL; simp
theorem sIx_at {n d : Nat} {k : Int} (h : 0 ≤ k) : HT.sIx n d (some k) = min k.toNat n := by
  obtain ⟨j, rfl⟩ : ∃ j : Nat, k = j := ⟨k.toNat, by omega⟩
  rw [HT.sIx_nat]; simp
theorem cut_pre {ns : List Int} {k : Int} (h : 0 ≤ k) : cutL (ns.map D.int) none (some k) = (ns.take k.toNat).map D.int := by
  rw [cut_ints, sIx_at h, HT.sIx_none, Nat.sub_zero, List.drop_zero]
  congr 1
  rw [List.take_eq_take_iff]; omega
theorem cut_suf {ns : List Int} {k : Int} (h : 0 ≤ k) : cutL (ns.map D.int) (some k) none = (ns.drop k.toNat).map D.int := by
  rw [cut_ints, sIx_at h, HT.sIx_none, List.take_of_length_le (by simp)]
  congr 1
  by_cases q : k.toNat ≤ ns.length
  · rw [Nat.min_eq_left q]
  · rw [Nat.min_eq_right (by omega), List.drop_length, List.drop_of_length_le (by omega)]
end DL
namespace DL
/-! ### edit distances -/
def ul (x y : Int) : Int := b2d (!decide (x = y))
theorem ul_01 (x y : Int) : 0 ≤ ul x y ∧ ul x y ≤ 1 := by
  unfold ul b2d; split <;> decide
/-- the least errors of the first a of a row that end at c -/
def Med (u : Nat → Nat → Int) : Nat → Nat → Int
  | 0, _ => 0
  | a + 1, 0 => Med u a 0 + 1
  | a + 1, c + 1 => min (min (Med u a c + u a c) (Med u a (c + 1) + 1)) (Med u (a + 1) c + 1)
/-- .. of its first a laid on the d from i on -/
def Ced (u : Nat → Nat → Int) (i : Nat) : Nat → Nat → Int
  | 0, a => a
  | d + 1, 0 => Ced u i d 0 + 1
  | d + 1, a + 1 => min (min (Ced u i d a + u a (i + d)) (Ced u i d (a + 1) + 1)) (Ced u i (d + 1) a + 1)
section
variable {u : Nat → Nat → Int}
theorem Ced_zero (i : Nat) : ∀ d, Ced u i d 0 = d
  | 0 => by simp [Ced]
  | d + 1 => by rw [Ced, Ced_zero i d]; omega
theorem Med_step (a c : Nat) : Med u (a + 1) c ≤ Med u a c + 1 := by
  cases c with
  | zero => simp [Med]
  | succ c => rw [Med]; omega
theorem Med_le (a c : Nat) : Med u a c ≤ a := by
  induction a with
  | zero => simp [Med]
  | succ a ih => have := Med_step (u := u) a c; omega
theorem M_le_C (hu : ∀ a c, 0 ≤ u a c ∧ u a c ≤ 1) (i : Nat) : ∀ d a, Med u a (i + d) ≤ Ced u i d a
  | 0, a => by rw [Ced]; exact Med_le a _
  | d + 1, 0 => by rw [Ced_zero, Med]; omega
  | d + 1, a + 1 => by
    have h1 := M_le_C hu i d a
    have h2 := M_le_C hu i d (a + 1)
    have h3 := M_le_C hu i (d + 1) a
    have e : i + (d + 1) = (i + d) + 1 := by omega
    rw [e] at h3
    rw [e, Ced, Med]
    omega
theorem C_le_M (hu : ∀ a c, 0 ≤ u a c ∧ u a c ≤ 1) : ∀ a j, ∃ i d, i + d = j ∧ Ced u i d a ≤ Med u a j
  | 0, j => ⟨j, 0, rfl, by simp [Ced, Med]⟩
  | a + 1, 0 => by
    refine ⟨0, 0, rfl, ?_⟩
    have : ∀ a, Med u a 0 = a := fun a => by
      induction a with
      | zero => simp [Med]
      | succ a ih => rw [Med, ih]; omega
    rw [this, Ced]
    omega
  | a + 1, j + 1 => by
    obtain ⟨i1, d1, e1, h1⟩ := C_le_M hu a j
    obtain ⟨i2, d2, e2, h2⟩ := C_le_M hu a (j + 1)
    obtain ⟨i3, d3, e3, h3⟩ := C_le_M hu (a + 1) j
    rw [Med]
    rcases Int.le_total (min (Med u a j + u a j) (Med u a (j + 1) + 1)) (Med u (a + 1) j + 1) with q | q
    · rcases Int.le_total (Med u a j + u a j) (Med u a (j + 1) + 1) with r | r
      · refine ⟨i1, d1 + 1, by omega, ?_⟩
        rw [Ced, e1]
        omega
      · cases d2 with
        | zero => refine ⟨i2, 0, e2, ?_⟩; rw [Ced] at h2 ⊢; omega
        | succ d2 => refine ⟨i2, d2 + 1, e2, ?_⟩; rw [Ced]; omega
    · refine ⟨i3, d3 + 1, by omega, ?_⟩
      rw [Ced]
      omega
/-- the longer the dearer -/
theorem C_ge (hu : ∀ a c, 0 ≤ u a c ∧ u a c ≤ 1) (i : Nat) : ∀ (d a : Nat), (d : Int) - (a : Int) ≤ Ced u i d a
  | 0, a => by rw [Ced]; omega
  | d + 1, 0 => by rw [Ced_zero]; omega
  | d + 1, a + 1 => by
    have h1 := C_ge hu i d a
    have h2 := C_ge hu i d (a + 1)
    have h3 := C_ge hu i (d + 1) a
    have := hu a (i + d)
    rw [Ced]
    omega
/-- once all are above b, all later are -/
theorem C_up (hu : ∀ a c, 0 ≤ u a c ∧ u a c ≤ 1) {i d m : Nat} {b : Int} (h : ∀ a, a ≤ m → b ≤ Ced u i d a) : ∀ a, a ≤ m → b ≤ Ced u i (d + 1) a
  | 0, _ => by rw [Ced]; have := h 0 (Nat.zero_le _); omega
  | a + 1, ha => by
    have h1 := h a (by omega)
    have h2 := h (a + 1) ha
    have h3 := C_up hu h a (by omega)
    have := hu a (i + d)
    rw [Ced]
    omega
theorem C_up' (hu : ∀ a c, 0 ≤ u a c ∧ u a c ≤ 1) {i d m : Nat} {b : Int} (h : ∀ a, a ≤ m → b ≤ Ced u i d a) : ∀ t a, a ≤ m → b ≤ Ced u i (d + t) a
  | 0, a, ha => h a ha
  | t + 1, a, ha => C_up hu (C_up' hu h t) a ha
end
/-- two lists' letters compared -/
def uOf (row wid : List Int) (a c : Nat) : Int := ul (row.getD a 0) (wid.getD c 0)
theorem uOf_01 (row wid : List Int) (a c : Nat) : 0 ≤ uOf row wid a c ∧ uOf row wid a c ≤ 1 := ul_01 _ _
/-- what the laws' own least costs are good for -/
def GoodB (row wid bs : List Int) : Prop := bs.length = wid.length + 1 ∧ ∀ j, 1 ≤ j → j ≤ wid.length → ∀ most : Int, most ≤ 3 → (bs.getD j 0 ≤ most ↔ Med (uOf row wid) row.length j ≤ most)
end DL
namespace DL
open PySem L2

/-! ## 10. Tools: loops told by the slots that they write, places, frames -/
instance : Inhabited D := ⟨.non⟩
/-- the item at a place -/
def At {α : Type} [Inhabited α] (xs : List α) (k : Int) : α := xs.getD k.toNat default
theorem At_get {α : Type} [Inhabited α] {xs : List α} {i : Nat} {x : α} (e : xs[i]? = some x) : At xs (i : Int) = x := by
  unfold At; rw [Int.toNat_natCast, List.getD_eq_getElem?_getD, e]; rfl
theorem get_At {α : Type} [Inhabited α] {xs : List α} {k : Int} (h0 : 0 ≤ k) (h1 : k < xs.length) : xs[k.toNat]? = some (At xs k) := by
  have h : k.toNat < xs.length := by omega
  unfold At; rw [List.getD_eq_getElem?_getD, List.getElem?_eq_getElem h]; rfl
theorem At_mem {α : Type} [Inhabited α] {xs : List α} {k : Int} (h0 : 0 ≤ k) (h1 : k < xs.length) : At xs k ∈ xs := by
  have h := get_At h0 h1
  exact List.mem_of_getElem? h
theorem atI_in {α : Type} [Inhabited α] {xs : List α} {f : α → D} {k : Int} (h0 : 0 ≤ k) (h1 : k < xs.length) : atI (xs.map f) k = some (f (At xs k)) := by
  refine atI_at h0 ?_
  rw [List.getElem?_map, get_At h0 h1]; rfl
theorem atI_id {α : Type} [Inhabited α] {xs : List α} {k : Int} (h0 : 0 ≤ k) (h1 : k < xs.length) : atI xs k = some (At xs k) := atI_at h0 (get_At h0 h1)
theorem At_map {α β : Type} [Inhabited α] [Inhabited β] {xs : List α} {f : α → β} {k : Int} (h0 : 0 ≤ k) (h1 : k < xs.length) : At (xs.map f) k = f (At xs k) := by
  have h : (xs.map f)[k.toNat]? = some (f (At xs k)) := by rw [List.getElem?_map, get_At h0 h1]; rfl
  have g := get_At (xs := xs.map f) h0 (by rw [List.length_map]; exact h1)
  exact Option.some.inj (g.symm.trans h)
theorem atI_lst {α : Type} [Inhabited α] {xs : List α} {f : α → D} (h : 0 < xs.length) : atI (xs.map f) (-1) = some (f (At xs ((xs.length : Int) - 1))) := by
  refine atI_m1 ?_
  have e := get_At (xs := xs) (k := (xs.length : Int) - 1) (by omega) (by omega)
  rw [show ((xs.length : Int) - 1).toNat = xs.length - 1 by omega] at e
  rw [List.length_map, List.getElem?_map, e]; rfl
theorem szl {n : Nat} (h : n ≤ 1000000) : n < sizeLine := Nat.lt_of_le_of_lt h (by decide)
theorem szle {n : Nat} (h : n ≤ 1000000) : n ≤ sizeLine := Nat.le_trans h (by decide)
theorem szadd {n m : Nat} (h : n + m ≤ 1000000) : n + m ≤ sizeLine := Nat.le_trans h (by decide)
theorem ask_of {C : Nat → Ct} {i : Nat} {c : Ct} {ds : List D} {h : DH} {Q : DK} {E : XD} (e : C i = ask c) (q : c ds h Q E) : C i ds h Q E := by rw [e]; exact ask_mk q
theorem len_lm {α : Type} {h : DH} {p : Addr} {xs : List α} {f : α → D} {Q : DK} (l : LR h p (xs.map f)) (q : Q (.int xs.length) h) : lenD (.ref p) h Q := by
  refine len_l l ?_
  rw [List.length_map]; exact q
theorem len_tm {α : Type} {h : DH} {xs : List α} {f : α → D} {Q : DK} (q : Q (.int xs.length) h) : lenD (.tup (xs.map f)) h Q := by
  refine len_t ?_
  rw [List.length_map]; exact q
theorem rng1 {j : Int} {h : DH} {R : ItR} (m : Nat) (e : j.toNat = m) (b : j ≤ 1000000 ∧ -1000000 ≤ j) (r : R (rangeD 0 m) fun _ => True) : itD .range1 (.tup [.int j]) h R := by
  subst e
  exact ⟨⟨by omega, by omega⟩, r⟩
theorem rng2 {i j : Int} {h : DH} {R : ItR} (m : Nat) (e : (j - i).toNat = m) (b : j ≤ 1000000 ∧ -1000000 ≤ j ∧ i ≤ 1000000 ∧ -1000000 ≤ i) (r : R (rangeD i m) fun _ => True) : itD .range2 (.tup [.int i, .int j]) h R := by
  subst e
  exact ⟨⟨by omega, by omega, by omega, by omega⟩, r⟩
theorem set_self {α : Type} {d : α} : ∀ {s : List α} {j : Nat}, s.set j (s.getD j d) = s
  | [], j => rfl
  | x :: xs, 0 => rfl
  | x :: xs, j + 1 => by
    show x :: xs.set j (xs.getD j d) = _
    rw [set_self]
section loops
variable {items : List D} {inv : DH → Prop} {s : DSt} {h : DH} {turn : D → (DSt → DH → Prop) → DSt → DH → Prop} {nx : DSt → DH → Prop}
/-- a loop that writes one slot (two, ..) -/
theorem for_1 (j : Nat) (P : Nat → Option D → DH → Prop) (h0 : P 0 (s.getD j none) h) (hi : ∀ i c h, i ≤ items.length → P i c h → inv h)
    (hs : ∀ i x c h, items[i]? = some x → P i c h → turn x (fun s' h' => ∃ c', s' = s.set j c' ∧ P (i + 1) c' h') (s.set j c) h)
    (hd : ∀ c h, P items.length c h → nx (s.set j c) h) : forD items inv s h turn nx :=
  for_mk (fun i s' h' => ∃ c', s' = s.set j c' ∧ P i c' h') ⟨_, (set_self (d := none)).symm, h0⟩ (fun i s' h' l ⟨c, _, q⟩ => hi i c h' l q)
    (fun i x s' h' e ⟨c, es, q⟩ => by subst es; exact hs i x c h' e q) (fun s' h' ⟨c, es, q⟩ => by subst es; exact hd c h' q)
theorem for_2 (j1 j2 : Nat) (P : Nat → Option D → Option D → DH → Prop) (h0 : P 0 (s.getD j1 none) (s.getD j2 none) h) (hi : ∀ i c1 c2 h, i ≤ items.length → P i c1 c2 h → inv h)
    (hs : ∀ i x c1 c2 h, items[i]? = some x → P i c1 c2 h → turn x (fun s' h' => ∃ c1' c2', s' = (s.set j1 c1').set j2 c2' ∧ P (i + 1) c1' c2' h') ((s.set j1 c1).set j2 c2) h)
    (hd : ∀ c1 c2 h, P items.length c1 c2 h → nx ((s.set j1 c1).set j2 c2) h) : forD items inv s h turn nx :=
  for_mk (fun i s' h' => ∃ c1' c2', s' = (s.set j1 c1').set j2 c2' ∧ P i c1' c2' h') ⟨_, _, (by rw [set_self, set_self]), h0⟩ (fun i s' h' l ⟨c1, c2, _, q⟩ => hi i c1 c2 h' l q)
    (fun i x s' h' e ⟨c1, c2, es, q⟩ => by subst es; exact hs i x c1 c2 h' e q) (fun s' h' ⟨c1, c2, es, q⟩ => by subst es; exact hd c1 c2 h' q)
theorem for_3 (j1 j2 j3 : Nat) (P : Nat → Option D → Option D → Option D → DH → Prop) (h0 : P 0 (s.getD j1 none) (s.getD j2 none) (s.getD j3 none) h) (hi : ∀ i c1 c2 c3 h, i ≤ items.length → P i c1 c2 c3 h → inv h)
    (hs : ∀ i x c1 c2 c3 h, items[i]? = some x → P i c1 c2 c3 h → turn x (fun s' h' => ∃ c1' c2' c3', s' = ((s.set j1 c1').set j2 c2').set j3 c3' ∧ P (i + 1) c1' c2' c3' h') (((s.set j1 c1).set j2 c2).set j3 c3) h)
    (hd : ∀ c1 c2 c3 h, P items.length c1 c2 c3 h → nx (((s.set j1 c1).set j2 c2).set j3 c3) h) : forD items inv s h turn nx :=
  for_mk (fun i s' h' => ∃ c1' c2' c3', s' = ((s.set j1 c1').set j2 c2').set j3 c3' ∧ P i c1' c2' c3' h') ⟨_, _, _, (by rw [set_self, set_self, set_self]), h0⟩ (fun i s' h' l ⟨c1, c2, c3, _, q⟩ => hi i c1 c2 c3 h' l q)
    (fun i x s' h' e ⟨c1, c2, c3, es, q⟩ => by subst es; exact hs i x c1 c2 c3 h' e q) (fun s' h' ⟨c1, c2, c3, es, q⟩ => by subst es; exact hd c1 c2 c3 h' q)
theorem for_4 (j1 j2 j3 j4 : Nat) (P : Nat → Option D → Option D → Option D → Option D → DH → Prop) (h0 : P 0 (s.getD j1 none) (s.getD j2 none) (s.getD j3 none) (s.getD j4 none) h) (hi : ∀ i c1 c2 c3 c4 h, i ≤ items.length → P i c1 c2 c3 c4 h → inv h)
    (hs : ∀ i x c1 c2 c3 c4 h, items[i]? = some x → P i c1 c2 c3 c4 h → turn x (fun s' h' => ∃ c1' c2' c3' c4', s' = (((s.set j1 c1').set j2 c2').set j3 c3').set j4 c4' ∧ P (i + 1) c1' c2' c3' c4' h') ((((s.set j1 c1).set j2 c2).set j3 c3).set j4 c4) h)
    (hd : ∀ c1 c2 c3 c4 h, P items.length c1 c2 c3 c4 h → nx ((((s.set j1 c1).set j2 c2).set j3 c3).set j4 c4) h) : forD items inv s h turn nx :=
  for_mk (fun i s' h' => ∃ c1' c2' c3' c4', s' = (((s.set j1 c1').set j2 c2').set j3 c3').set j4 c4' ∧ P i c1' c2' c3' c4' h') ⟨_, _, _, _, (by rw [set_self, set_self, set_self, set_self]), h0⟩ (fun i s' h' l ⟨c1, c2, c3, c4, _, q⟩ => hi i c1 c2 c3 c4 h' l q)
    (fun i x s' h' e ⟨c1, c2, c3, c4, es, q⟩ => by subst es; exact hs i x c1 c2 c3 c4 h' e q) (fun s' h' ⟨c1, c2, c3, c4, es, q⟩ => by subst es; exact hd c1 c2 c3 c4 h' q)
theorem for_5 (j1 j2 j3 j4 j5 : Nat) (P : Nat → Option D → Option D → Option D → Option D → Option D → DH → Prop) (h0 : P 0 (s.getD j1 none) (s.getD j2 none) (s.getD j3 none) (s.getD j4 none) (s.getD j5 none) h) (hi : ∀ i c1 c2 c3 c4 c5 h, i ≤ items.length → P i c1 c2 c3 c4 c5 h → inv h)
    (hs : ∀ i x c1 c2 c3 c4 c5 h, items[i]? = some x → P i c1 c2 c3 c4 c5 h → turn x (fun s' h' => ∃ c1' c2' c3' c4' c5', s' = ((((s.set j1 c1').set j2 c2').set j3 c3').set j4 c4').set j5 c5' ∧ P (i + 1) c1' c2' c3' c4' c5' h') (((((s.set j1 c1).set j2 c2).set j3 c3).set j4 c4).set j5 c5) h)
    (hd : ∀ c1 c2 c3 c4 c5 h, P items.length c1 c2 c3 c4 c5 h → nx (((((s.set j1 c1).set j2 c2).set j3 c3).set j4 c4).set j5 c5) h) : forD items inv s h turn nx :=
  for_mk (fun i s' h' => ∃ c1' c2' c3' c4' c5', s' = ((((s.set j1 c1').set j2 c2').set j3 c3').set j4 c4').set j5 c5' ∧ P i c1' c2' c3' c4' c5' h') ⟨_, _, _, _, _, (by rw [set_self, set_self, set_self, set_self, set_self]), h0⟩ (fun i s' h' l ⟨c1, c2, c3, c4, c5, _, q⟩ => hi i c1 c2 c3 c4 c5 h' l q)
    (fun i x s' h' e ⟨c1, c2, c3, c4, c5, es, q⟩ => by subst es; exact hs i x c1 c2 c3 c4 c5 h' e q) (fun s' h' ⟨c1, c2, c3, c4, c5, es, q⟩ => by subst es; exact hd c1 c2 c3 c4 c5 h' q)
theorem for_6 (j1 j2 j3 j4 j5 j6 : Nat) (P : Nat → Option D → Option D → Option D → Option D → Option D → Option D →  DH → Prop) (h0 : P 0 (s.getD j1 none) (s.getD j2 none) (s.getD j3 none) (s.getD j4 none) (s.getD j5 none) (s.getD j6 none) h) (hi : ∀ i c1 c2 c3 c4 c5 c6 h, i ≤ items.length → P i c1 c2 c3 c4 c5 c6 h → inv h)
    (hs : ∀ i x c1 c2 c3 c4 c5 c6 h, items[i]? = some x → P i c1 c2 c3 c4 c5 c6 h → turn x (fun s' h' => ∃ c1' c2' c3' c4' c5' c6', s' = ((((((s.set j1 c1').set j2 c2').set j3 c3').set j4 c4').set j5 c5').set j6 c6') ∧ P (i + 1) c1' c2' c3' c4' c5' c6' h') ((((((s.set j1 c1).set j2 c2).set j3 c3).set j4 c4).set j5 c5).set j6 c6) h)
    (hd : ∀ c1 c2 c3 c4 c5 c6 h, P items.length c1 c2 c3 c4 c5 c6 h → nx ((((((s.set j1 c1).set j2 c2).set j3 c3).set j4 c4).set j5 c5).set j6 c6) h) : forD items inv s h turn nx :=
  for_mk (fun i s' h' => ∃ c1' c2' c3' c4' c5' c6', s' = ((((((s.set j1 c1').set j2 c2').set j3 c3').set j4 c4').set j5 c5').set j6 c6') ∧ P i c1' c2' c3' c4' c5' c6' h') ⟨_, _, _, _, _, _, (by rw [set_self, set_self, set_self, set_self, set_self, set_self]), h0⟩ (fun i s' h' l ⟨c1, c2, c3, c4, c5, c6, _, q⟩ => hi i c1 c2 c3 c4 c5 c6 h' l q)
    (fun i x s' h' e ⟨c1, c2, c3, c4, c5, c6, es, q⟩ => by subst es; exact hs i x c1 c2 c3 c4 c5 c6 h' e q) (fun s' h' ⟨c1, c2, c3, c4, c5, c6, es, q⟩ => by subst es; exact hd c1 c2 c3 c4 c5 c6 h' q)
theorem for_7 (j1 j2 j3 j4 j5 j6 j7 : Nat) (P : Nat → Option D → Option D → Option D → Option D → Option D → Option D → Option D →  DH → Prop) (h0 : P 0 (s.getD j1 none) (s.getD j2 none) (s.getD j3 none) (s.getD j4 none) (s.getD j5 none) (s.getD j6 none) (s.getD j7 none) h) (hi : ∀ i c1 c2 c3 c4 c5 c6 c7 h, i ≤ items.length → P i c1 c2 c3 c4 c5 c6 c7 h → inv h)
    (hs : ∀ i x c1 c2 c3 c4 c5 c6 c7 h, items[i]? = some x → P i c1 c2 c3 c4 c5 c6 c7 h → turn x (fun s' h' => ∃ c1' c2' c3' c4' c5' c6' c7', s' = (((((((s.set j1 c1').set j2 c2').set j3 c3').set j4 c4').set j5 c5').set j6 c6').set j7 c7') ∧ P (i + 1) c1' c2' c3' c4' c5' c6' c7' h') (((((((s.set j1 c1).set j2 c2).set j3 c3).set j4 c4).set j5 c5).set j6 c6).set j7 c7) h)
    (hd : ∀ c1 c2 c3 c4 c5 c6 c7 h, P items.length c1 c2 c3 c4 c5 c6 c7 h → nx (((((((s.set j1 c1).set j2 c2).set j3 c3).set j4 c4).set j5 c5).set j6 c6).set j7 c7) h) : forD items inv s h turn nx :=
  for_mk (fun i s' h' => ∃ c1' c2' c3' c4' c5' c6' c7', s' = (((((((s.set j1 c1').set j2 c2').set j3 c3').set j4 c4').set j5 c5').set j6 c6').set j7 c7') ∧ P i c1' c2' c3' c4' c5' c6' c7' h') ⟨_, _, _, _, _, _, _, (by rw [set_self, set_self, set_self, set_self, set_self, set_self, set_self]), h0⟩ (fun i s' h' l ⟨c1, c2, c3, c4, c5, c6, c7, _, q⟩ => hi i c1 c2 c3 c4 c5 c6 c7 h' l q)
    (fun i x s' h' e ⟨c1, c2, c3, c4, c5, c6, c7, es, q⟩ => by subst es; exact hs i x c1 c2 c3 c4 c5 c6 c7 h' e q) (fun s' h' ⟨c1, c2, c3, c4, c5, c6, c7, es, q⟩ => by subst es; exact hd c1 c2 c3 c4 c5 c6 c7 h' q)
theorem for_8 (j1 j2 j3 j4 j5 j6 j7 j8 : Nat) (P : Nat → Option D → Option D → Option D → Option D → Option D → Option D → Option D → Option D →  DH → Prop) (h0 : P 0 (s.getD j1 none) (s.getD j2 none) (s.getD j3 none) (s.getD j4 none) (s.getD j5 none) (s.getD j6 none) (s.getD j7 none) (s.getD j8 none) h) (hi : ∀ i c1 c2 c3 c4 c5 c6 c7 c8 h, i ≤ items.length → P i c1 c2 c3 c4 c5 c6 c7 c8 h → inv h)
    (hs : ∀ i x c1 c2 c3 c4 c5 c6 c7 c8 h, items[i]? = some x → P i c1 c2 c3 c4 c5 c6 c7 c8 h → turn x (fun s' h' => ∃ c1' c2' c3' c4' c5' c6' c7' c8', s' = ((((((((s.set j1 c1').set j2 c2').set j3 c3').set j4 c4').set j5 c5').set j6 c6').set j7 c7').set j8 c8') ∧ P (i + 1) c1' c2' c3' c4' c5' c6' c7' c8' h') ((((((((s.set j1 c1).set j2 c2).set j3 c3).set j4 c4).set j5 c5).set j6 c6).set j7 c7).set j8 c8) h)
    (hd : ∀ c1 c2 c3 c4 c5 c6 c7 c8 h, P items.length c1 c2 c3 c4 c5 c6 c7 c8 h → nx ((((((((s.set j1 c1).set j2 c2).set j3 c3).set j4 c4).set j5 c5).set j6 c6).set j7 c7).set j8 c8) h) : forD items inv s h turn nx :=
  for_mk (fun i s' h' => ∃ c1' c2' c3' c4' c5' c6' c7' c8', s' = ((((((((s.set j1 c1').set j2 c2').set j3 c3').set j4 c4').set j5 c5').set j6 c6').set j7 c7').set j8 c8') ∧ P i c1' c2' c3' c4' c5' c6' c7' c8' h') ⟨_, _, _, _, _, _, _, _, (by rw [set_self, set_self, set_self, set_self, set_self, set_self, set_self, set_self]), h0⟩ (fun i s' h' l ⟨c1, c2, c3, c4, c5, c6, c7, c8, _, q⟩ => hi i c1 c2 c3 c4 c5 c6 c7 c8 h' l q)
    (fun i x s' h' e ⟨c1, c2, c3, c4, c5, c6, c7, c8, es, q⟩ => by subst es; exact hs i x c1 c2 c3 c4 c5 c6 c7 c8 h' e q) (fun s' h' ⟨c1, c2, c3, c4, c5, c6, c7, c8, es, q⟩ => by subst es; exact hd c1 c2 c3 c4 c5 c6 c7 c8 h' q)
theorem for_9 (j1 j2 j3 j4 j5 j6 j7 j8 j9 : Nat) (P : Nat → Option D → Option D → Option D → Option D → Option D → Option D → Option D → Option D → Option D →  DH → Prop) (h0 : P 0 (s.getD j1 none) (s.getD j2 none) (s.getD j3 none) (s.getD j4 none) (s.getD j5 none) (s.getD j6 none) (s.getD j7 none) (s.getD j8 none) (s.getD j9 none) h) (hi : ∀ i c1 c2 c3 c4 c5 c6 c7 c8 c9 h, i ≤ items.length → P i c1 c2 c3 c4 c5 c6 c7 c8 c9 h → inv h)
    (hs : ∀ i x c1 c2 c3 c4 c5 c6 c7 c8 c9 h, items[i]? = some x → P i c1 c2 c3 c4 c5 c6 c7 c8 c9 h → turn x (fun s' h' => ∃ c1' c2' c3' c4' c5' c6' c7' c8' c9', s' = (((((((((s.set j1 c1').set j2 c2').set j3 c3').set j4 c4').set j5 c5').set j6 c6').set j7 c7').set j8 c8').set j9 c9') ∧ P (i + 1) c1' c2' c3' c4' c5' c6' c7' c8' c9' h') (((((((((s.set j1 c1).set j2 c2).set j3 c3).set j4 c4).set j5 c5).set j6 c6).set j7 c7).set j8 c8).set j9 c9) h)
    (hd : ∀ c1 c2 c3 c4 c5 c6 c7 c8 c9 h, P items.length c1 c2 c3 c4 c5 c6 c7 c8 c9 h → nx (((((((((s.set j1 c1).set j2 c2).set j3 c3).set j4 c4).set j5 c5).set j6 c6).set j7 c7).set j8 c8).set j9 c9) h) : forD items inv s h turn nx :=
  for_mk (fun i s' h' => ∃ c1' c2' c3' c4' c5' c6' c7' c8' c9', s' = (((((((((s.set j1 c1').set j2 c2').set j3 c3').set j4 c4').set j5 c5').set j6 c6').set j7 c7').set j8 c8').set j9 c9') ∧ P i c1' c2' c3' c4' c5' c6' c7' c8' c9' h') ⟨_, _, _, _, _, _, _, _, _, (by rw [set_self, set_self, set_self, set_self, set_self, set_self, set_self, set_self, set_self]), h0⟩ (fun i s' h' l ⟨c1, c2, c3, c4, c5, c6, c7, c8, c9, _, q⟩ => hi i c1 c2 c3 c4 c5 c6 c7 c8 c9 h' l q)
    (fun i x s' h' e ⟨c1, c2, c3, c4, c5, c6, c7, c8, c9, es, q⟩ => by subst es; exact hs i x c1 c2 c3 c4 c5 c6 c7 c8 c9 h' e q) (fun s' h' ⟨c1, c2, c3, c4, c5, c6, c7, c8, c9, es, q⟩ => by subst es; exact hd c1 c2 c3 c4 c5 c6 c7 c8 c9 h' q)
end loops
section comp
variable {items : List D} {inv : DH → Prop} {h : DH} {turn : D → DH → (Option D → DH → Prop) → Prop} {Q : DK}
/-- a comprehension that leaves the heap -/
theorem lc_fm (f : D → Option D) (hz : items.length ≤ sizeLine) (hi : inv h) (hs : ∀ (i : Nat) (x : D) (R : Option D → DH → Prop), items[i]? = some x → R (f x) h → turn x h R) (hd : newL h (items.filterMap f) Q) : lcD items inv h turn Q := by
  refine lc_mk (fun i acc h' => acc = (items.take i).filterMap f ∧ h' = h) hz ⟨by simp, rfl⟩ (fun _ _ _ _ e => e.2 ▸ hi) ?_ ?_
  · rintro i x acc h' e ⟨rfl, rfl⟩
    refine hs i x _ e ?_
    have e2 : (items.take (i + 1)).filterMap f = (items.take i).filterMap f ++ (f x).toList := by
      rw [List.take_add_one, e]
      simp only [Option.toList, List.filterMap_append, List.filterMap_cons, List.filterMap_nil]
      cases f x <;> rfl
    cases q : f x with
    | none => rw [q] at e2; exact ⟨by rw [e2]; simp, rfl⟩
    | some y => rw [q] at e2; exact ⟨by rw [e2]; rfl, rfl⟩
  · rintro acc h' ⟨rfl, rfl⟩
    rw [List.take_length]
    exact hd
theorem lc_map (f : D → D) (hz : items.length ≤ sizeLine) (hi : inv h) (hs : ∀ (i : Nat) (x : D) (R : Option D → DH → Prop), items[i]? = some x → R (some (f x)) h → turn x h R) (hd : newL h (items.map f) Q) : lcD items inv h turn Q :=
  lc_fm (fun x => some (f x)) hz hi hs (by simpa using hd)
end comp
theorem FrP.sm {p g : Addr} {h h1 h2 : DH} (x : FrP p g h h1) (y : Sm h1 h2) : FrP p g h h2 := x.trans y.frp
/-- a new list, the heap told by what is in it -/
theorem newL_mk {h : DH} {xs : List D} {Q : DK} (k : ∀ p h', h p = none → h' p = some (.lst xs) → Sm h h' → Q (.ref p) h') : newL h xs Q := fun p hp => k p _ hp updD_same (.new hp)
theorem add_l {h : DH} {p q : Addr} {xs ys : List D} {Q : DK} (hp : h p = some (.lst xs)) (hq : h q = some (.lst ys)) (z : xs.length + ys.length ≤ 1000000) (k : ∀ r h', h r = none → h' r = some (.lst (xs ++ ys)) → Sm h h' → Q (.ref r) h') : binD .Add (.ref p) (.ref q) h Q :=
  ⟨xs, ys, hp, hq, szle z, fun r hr => k r _ hr updD_same (.new hr)⟩
theorem enum_l {h : DH} {p : Addr} {xs : List D} {R : ItR} (l : LR h p xs) (r : R (numbered 0 xs) fun h' => LR h' p xs) : itD .enum (.tup [.ref p]) h R := ⟨xs, l, r⟩
theorem slice_l {h : DH} {p : Addr} {xs : List D} {lo hi : Option Int} {Q : DK} (l : LR h p xs) (r : newL h (cutL xs lo hi) Q) : sliceD (.ref p) lo hi h Q := ⟨xs, l, r⟩
theorem items_l {h : DH} {p : Addr} {xs : List D} {k : List D → Prop} (l : LR h p xs) (r : k xs) : itemsD (.ref p) h k := ⟨xs, l, r⟩
theorem tru_l {h : DH} {p : Addr} {xs : List D} {k : Bool → Prop} (l : LR h p xs) (r : k (!xs.isEmpty)) : truD (.ref p) h k := ⟨xs, l, r⟩
theorem ty_l {h : DH} {p : Addr} {xs : List D} {k : Ty → Prop} (l : LR h p xs) (r : k .list) : tyD (.ref p) h k := by
  show tyR p h k
  unfold tyR; exact .inl ⟨xs, l, r⟩
theorem ty_d {h : DH} {p : Addr} {b : Bool} {kvs : List (D × D)} {o : Obj} {k : Ty → Prop} (l : h p = some (.dct b kvs o)) (r : k .dict) : tyD (.ref p) h k := by
  show tyR p h k
  unfold tyR; exact .inr ⟨b, kvs, o, l, r⟩
theorem ss_mk {x : D} {h : DH} {Q : DK} (q : itemsD x h fun xs => ∃ bs : List (D × PyData), xs = bs.map (·.1) ∧ SrtOk h bs ∧ (∀ b ∈ bs, keyB true b.1 = true) ∧ bs.length < 64 ∧
    ∀ cs : List (D × PyData), (∀ c ∈ cs, c ∈ bs) → (∀ b ∈ bs, ∃ c ∈ cs, nkey c.1 = nkey b.1) → (cs.map fun c => nkey c.1).Nodup → newL h ((srtD cs).map (·.1)) Q) : ssetD x h Q := by unfold ssetD; exact q
theorem app_l {h : DH} {p : Addr} {xs : List D} {A : Prop} (l : LR h p xs) (r : A) : mthT .append (.ref p) h ∧ A := ⟨⟨p, xs, rfl, l⟩, r⟩
theorem pop_l {h : DH} {p : Addr} {xs : List D} {A : Prop} (l : LR h p xs) (r : A) : mthT .pop (.ref p) h ∧ A := ⟨⟨p, xs, rfl, l⟩, r⟩
theorem ext_l {h : DH} {p : Addr} {xs : List D} {A : Prop} (l : LR h p xs) (r : A) : mthT .extend (.ref p) h ∧ A := ⟨⟨p, xs, rfl, l⟩, r⟩
theorem append_l {h : DH} {p : Addr} {xs : List D} {y : D} {Q : DK} (l : h p = some (.lst xs)) (z : xs.length ≤ 1000000) (r : Q .non (updD h p (.lst (xs ++ [y])))) : mthD .append (.ref p) [y] h Q := ⟨p, xs, rfl, l, szl z, r⟩
theorem par_mk {v w : D} {P : D → D → Prop} (n : P v w) : ∃ v' w', D.tup [v, w] = D.tup [v', w'] ∧ P v' w' := ⟨v, w, rfl, n⟩
theorem drop_at {α : Type} {xs : List α} {i : Nat} {x : α} (e : xs[i]? = some x) : xs.drop i = x :: xs.drop (i + 1) := by
  have h := (List.getElem?_eq_some_iff.mp e)
  rw [List.drop_eq_getElem_cons h.1, h.2]
theorem take_at {α : Type} {xs : List α} {i : Nat} {x : α} (e : xs[i]? = some x) : xs.take (i + 1) = xs.take i ++ [x] := by
  rw [List.take_add_one, e]; rfl
/-- a filter told by a filterMap of values -/
theorem fm_filter {α : Type} {f : α → D} {g : D → Option D} {p : α → Bool} (h : ∀ x, g (f x) = if p x = true then some (f x) else none) : ∀ {xs : List α}, (xs.map f).filterMap g = (xs.filter p).map f
  | [] => rfl
  | x :: xs => by
    rw [List.map_cons, List.filterMap_cons, h, List.filter_cons]
    cases p x with
    | true => simp only [if_true]; rw [List.map_cons, fm_filter h]
    | false => simp only [Bool.false_eq_true, if_false]; exact fm_filter h
/-- a slice of a list told by a map -/
def cutG {α : Type} (xs : List α) (lo hi : Option Int) : List α := (xs.drop (HT.sIx xs.length 0 lo)).take (HT.sIx xs.length xs.length hi - HT.sIx xs.length 0 lo)
theorem cut_map {α : Type} {f : α → D} {xs : List α} {lo hi : Option Int} : cutL (xs.map f) lo hi = (cutG xs lo hi).map f := by
  unfold cutL cutG; simp
theorem cutG_len {α : Type} {xs : List α} {lo hi : Option Int} : (cutG xs lo hi).length ≤ xs.length := by
  unfold cutG; simp; omega
theorem cutG_sub {α : Type} {xs : List α} {lo hi : Option Int} {x : α} (h : x ∈ cutG xs lo hi) : x ∈ xs := List.mem_of_mem_drop (List.mem_of_mem_take h)
theorem rev_tm {α : Type} {f : α → D} {xs : List α} {h : DH} {Q : DK} (r : Q (.tup (xs.reverse.map f)) h) : revD (.tup (xs.map f)) h Q := by
  show Q (.tup (xs.map f).reverse) h
  rw [← List.map_reverse]; exact r
theorem rev_lm {α : Type} {f : α → D} {xs : List α} {p : Addr} {h : DH} {Q : DK} (l : LR h p (xs.map f)) (r : newL h (xs.reverse.map f) Q) : revD (.ref p) h Q := ⟨_, l, by rw [← List.map_reverse]; exact r⟩
theorem at_ls {h : DH} {p : Addr} {xs ys : List D} (e : xs = ys) : updD h p (.lst xs) p = some (.lst ys) := by rw [updD_same, e]
theorem Sm.at_ {h h' : DH} {a : Addr} {o : DO} (x : Sm h h') (e : h a = some o) : h' a = some o := x a o e
theorem FrP.at_ {p g a : Addr} {h h' : DH} {o : DO} (x : FrP p g h h') (n1 : a ≠ p) (n2 : a ≠ g) (e : h a = some o) : h' a = some o := x a o n1 n2 e
theorem updD_at {h : DH} {a b : Addr} {o q : DO} (e : h b = some q) (n : b ≠ a) : updD h a o b = some q := by rw [updD_ne n]; exact e
end DL
namespace DL
open PySem L2

theorem At_rg {n : Nat} {k : Int} {a : Nat} (e : k = (a : Int)) (h : a < n) : At (List.range n) k = a := by
  subst e; exact At_get (by simp [h])
/-! ## 11. Dicts told by lists of typed pairs -/
section alist
variable {κ ν : Type} [DecidableEq κ]
def alook (m : List (κ × ν)) (k : κ) : Option ν := (m.find? fun p => decide (p.1 = k)).map (·.2)
def aput (m : List (κ × ν)) (k : κ) (v : ν) : List (κ × ν) := if (alook m k).isSome = true then m.map (fun p => if p.1 = k then (p.1, v) else p) else m ++ [(k, v)]
/-- the pairs as values -/
def encM (ek : κ → D) (ev : ν → D) (m : List (κ × ν)) : List (D × D) := m.map fun p => (ek p.1, ev p.2)
def KInj (ek : κ → D) : Prop := ∀ a b, nkey (ek a) = nkey (ek b) → a = b
theorem find_map' {α β : Type} {f : α → β} {p : β → Bool} : ∀ {xs : List α}, (xs.map f).find? p = (xs.find? fun x => p (f x)).map f
  | [] => rfl
  | x :: xs => by
    rw [List.map_cons, List.find?_cons, List.find?_cons]
    cases p (f x) with
    | true => rfl
    | false => exact find_map'
theorem dget_enc {ek : κ → D} {ev : ν → D} (inj : KInj ek) (m : List (κ × ν)) (k : κ) : dget (encM ek ev m) (ek k) = (alook m k).map ev := by
  unfold dget encM alook
  rw [find_map', Option.map_map, Option.map_map]
  have e : (fun p : κ × ν => decide (nkey (ek p.1) = nkey (ek k))) = fun p => decide (p.1 = k) := by
    funext p
    by_cases h : p.1 = k
    · rw [h]; simp
    · rw [decide_eq_false h, decide_eq_false fun e => h (inj _ _ e)]
  show Option.map _ (m.find? fun p => decide (nkey (ek p.1) = nkey (ek k))) = _
  rw [e]
  rfl
theorem dput_enc {ek : κ → D} {ev : ν → D} (inj : KInj ek) (m : List (κ × ν)) (k : κ) (v : ν) : dput (encM ek ev m) (ek k) (ev v) = encM ek ev (aput m k v) := by
  unfold dput aput
  rw [dget_enc inj, Option.isSome_map]
  split
  · unfold encM
    rw [List.map_map, List.map_map]
    refine List.map_congr_left fun p _ => ?_
    show (if nkey (ek p.1) = nkey (ek k) then (ek p.1, ev v) else (ek p.1, ev p.2)) = _
    by_cases h : p.1 = k
    · simp [h]
    · rw [if_neg fun e => h (inj _ _ e)]; simp [h]
  · simp [encM]
theorem alook_none {m : List (κ × ν)} {k : κ} : alook m k = none ↔ k ∉ m.map (·.1) := by
  unfold alook
  rw [Option.map_eq_none_iff, List.find?_eq_none]
  simp only [decide_eq_true_eq, List.mem_map, not_exists, not_and]
theorem alook_mem {m : List (κ × ν)} {k : κ} {v : ν} (h : alook m k = some v) : (k, v) ∈ m := by
  unfold alook at h
  rw [Option.map_eq_some_iff] at h
  obtain ⟨p, h1, h2⟩ := h
  have := List.find?_some h1
  simp only [decide_eq_true_eq] at this
  have h3 := List.mem_of_find?_eq_some h1
  subst this h2; exact h3
theorem alook_some {m : List (κ × ν)} {k : κ} : (alook m k).isSome = true ↔ k ∈ m.map (·.1) := by
  by_cases h : k ∈ m.map (·.1)
  · simp only [h, iff_true]
    cases e : alook m k with
    | none => exact absurd h (alook_none.1 e)
    | some v => rfl
  · simp only [h, iff_false]
    rw [alook_none.2 h]; simp
theorem alook_append {m n : List (κ × ν)} {k : κ} : alook (m ++ n) k = (alook m k).or (alook n k) := by
  unfold alook
  rw [List.find?_append]
  cases m.find? fun p => decide (p.1 = k) <;> rfl
theorem alook_cons {m : List (κ × ν)} {a : κ × ν} {k : κ} : alook (a :: m) k = if a.1 = k then some a.2 else alook m k := by
  unfold alook
  rw [List.find?_cons]
  by_cases h : a.1 = k <;> simp [h]
theorem aput_new {m : List (κ × ν)} {k : κ} {v : ν} (h : alook m k = none) : aput m k v = m ++ [(k, v)] := by
  unfold aput; rw [h]; rfl
theorem alook_repl {m : List (κ × ν)} {k j : κ} {v : ν} : alook (m.map fun p => if p.1 = k then (p.1, v) else p) j = if j = k then (alook m j).map fun _ => v else alook m j := by
  induction m with
  | nil => simp [alook]
  | cons a m ih =>
    rw [List.map_cons, alook_cons, alook_cons, ih]
    by_cases h : a.1 = k
    · rw [if_pos h]
      by_cases h2 : a.1 = j
      · have : j = k := h2.symm.trans h
        simp [h, h2, this]
      · simp only [h2, if_false]
    · rw [if_neg h]
      by_cases h2 : a.1 = j
      · have : ¬ j = k := fun e => h (h2.trans e)
        simp [h2, this]
      · simp only [h2, if_false]
theorem alook_aput {m : List (κ × ν)} {k j : κ} {v : ν} : alook (aput m k v) j = if j = k then some v else alook m j := by
  unfold aput
  split
  · rename_i h
    rw [alook_repl]
    by_cases e : j = k
    · subst e
      simp only [if_true]
      cases q : alook m j with
      | none => rw [q] at h; cases h
      | some w => rfl
    · simp [e]
  · rename_i h
    rw [alook_append, alook_cons]
    by_cases e : j = k
    · subst e
      have : alook m j = none := by simpa using h
      rw [this]; simp
    · have e' : ¬ k = j := fun z => e z.symm
      simp [e, e', alook]
theorem aput_len {m : List (κ × ν)} {k : κ} {v : ν} : (aput m k v).length ≤ m.length + 1 := by
  unfold aput; split <;> simp
theorem aput_nd {m : List (κ × ν)} {k : κ} {v : ν} (nd : (m.map (·.1)).Nodup) : ((aput m k v).map (·.1)).Nodup := by
  unfold aput
  split
  · rw [List.map_map]
    have : (fun p : κ × ν => p.1) ∘ (fun p => if p.1 = k then (p.1, v) else p) = fun p => p.1 := by
      funext p; show (if p.1 = k then (p.1, v) else p).1 = p.1; split <;> rfl
    rw [this]; exact nd
  · rename_i h
    have h' : k ∉ m.map (·.1) := fun e => h (alook_some.2 e)
    rw [List.map_append, List.nodup_append]
    refine ⟨nd, by simp, fun a ha b hb => ?_⟩
    simp at hb; subst hb
    exact fun e => h' (e ▸ ha)
theorem encM_len {ek : κ → D} {ev : ν → D} {m : List (κ × ν)} : (encM ek ev m).length = m.length := by simp [encM]
end alist
theorem nodup_lt : ∀ (N : Nat) (xs : List Nat), xs.Nodup → (∀ x ∈ xs, x < N) → xs.length ≤ N
  | 0, [], _, _ => Nat.le_refl _
  | 0, x :: xs, _, h => absurd (h x List.mem_cons_self) (Nat.not_lt_zero _)
  | N + 1, xs, nd, h => by
    have h2 := nodup_lt N (xs.erase N) (nd.erase N) fun x hx => by
      have h3 := h x (List.mem_of_mem_erase hx)
      have : x ≠ N := fun e => by subst e; exact (nd.not_mem_erase) hx
      omega
    rw [List.length_erase] at h2
    split at h2 <;> omega
theorem nodup_sub {α : Type} [DecidableEq α] : ∀ (l d : List α), l.Nodup → (∀ x ∈ l, x ∈ d) → l.length ≤ d.length
  | [], d, _, _ => Nat.zero_le _
  | x :: l, d, nd, h => by
    rw [List.nodup_cons] at nd
    have hx := h x List.mem_cons_self
    have := nodup_sub l (d.erase x) nd.2 fun y hy => (List.mem_erase_of_ne (a := y) (b := x) (fun e => nd.1 (by rw [← e]; exact hy))).2 (h y (List.mem_cons_of_mem _ hy))
    rw [List.length_erase_of_mem hx] at this
    have := List.length_pos_of_mem hx
    rw [List.length_cons]; omega
/-- nodup pairs below two bounds -/
theorem nodup_grid {m n : Nat} {xs : List (Nat × Nat)} (nd : xs.Nodup) (h : ∀ x ∈ xs, x.1 ≤ m ∧ x.2 ≤ n) : xs.length ≤ (m + 1) * (n + 1) := by
  have h1 := nodup_lt ((m + 1) * (n + 1)) (xs.map fun x => x.1 * (n + 1) + x.2) ?_ ?_
  · simpa using h1
  · refine List.pairwise_map.2 (nd.imp_of_mem fun {a b} ha hb hab e => hab ?_)
    have a2 := (h a ha).2
    have b2 := (h b hb).2
    have e1 : a.1 = b.1 := by
      have q : (a.1 * (n + 1) + a.2) / (n + 1) = (b.1 * (n + 1) + b.2) / (n + 1) := by rw [e]
      rw [Nat.mul_comm a.1, Nat.mul_comm b.1, Nat.mul_add_div (by omega), Nat.mul_add_div (by omega), Nat.div_eq_of_lt (by omega), Nat.div_eq_of_lt (by omega)] at q
      omega
    have e2 : a.2 = b.2 := by rw [e1] at e; omega
    exact Prod.ext e1 e2
  · intro x hx
    obtain ⟨y, hy, rfl⟩ := List.mem_map.1 hx
    obtain ⟨h1, h2⟩ := h y hy
    have : y.1 * (n + 1) ≤ m * (n + 1) := Nat.mul_le_mul_right _ h1
    rw [Nat.add_mul]; omega
/-- pairs of ints as keys -/
def ekP (x : Nat × Nat) : D := .tup [.int (x.1 : Int), .int (x.2 : Int)]
theorem ekP_inj : KInj ekP := fun a b e => by
  simp only [ekP, nkey, nkeys, Option.map_some, Option.some.injEq, NestedKey.tup.injEq, List.cons.injEq, NestedKey.num.injEq, and_true] at e
  exact Prod.ext (by omega) (by omega)
theorem ekP_key {x : Nat × Nat} : keyB true (ekP x) = true := by
  simp [ekP, keyB, nkeys, nkey, NestedKey.depthAll, NestedKey.depth]
end DL
namespace DL
open PySem L2
/-! within_years: 0 first, 1 last, 2 lo, 3 hi | g_ORIGIN -/
def q_within_years (g_ORIGIN : Nat) : S :=
  (.seq (.ret (.tup (.cons (.tup (.cons (.var 0) (.cons (.glb g_ORIGIN) (.cons (.var 2) .nil)))) (.cons (.tup (.cons (.glb g_ORIGIN) (.cons (.var 1) (.cons (.neg (.var 3)) .nil)))) .nil))))
  .skip)
/-! range_constraints: 0 points, 1 constraints, 2 point | f_within_years g_ORIGIN g_TOP -/
@[irreducible] def q_range_constraints_r0 (f_within_years g_ORIGIN g_TOP : Nat) : S :=
  (.seq (.ret (.blt .tuple (.cons (.var 1) .nil)))
  .skip)
@[irreducible] def q_range_constraints_b1 (f_within_years g_ORIGIN g_TOP : Nat) : S :=
  (.seq (.ite (.cmp .NotEq (.var 2) (.glb g_ORIGIN)) (.seq (.expr (.mth .extend (.var 1) (.cons (.call f_within_years (.cons (.var 2) (.cons (.var 2) (.cons (.cst (.int 0)) (.cons (.glb g_TOP) .nil))))) .nil)))
  .skip) .skip)
  .skip)
def q_range_constraints (f_within_years g_ORIGIN g_TOP : Nat) : S :=
  (.seq (.asg (.name 1) (.lst .nil))
  (.seq (.for_ (.name 2) .val (.sset (.var 0)) (q_range_constraints_b1 f_within_years g_ORIGIN g_TOP))
  (q_range_constraints_r0 f_within_years g_ORIGIN g_TOP)))
/-! raise_once: 0 years, 1 reasons, 2 constraints, 3 raised, 4 constraint, 5 p, 6 q, 7 c |  -/
@[irreducible] def q_raise_once_r0 : S :=
  (.seq (.ret (.var 3))
  .skip)
@[irreducible] def q_raise_once_b1 : S :=
  (.seq (.asg (.tup (.cons (.name 5) (.cons (.name 6) (.cons (.name 7) .nil)))) (.var 4))
  (.seq (.ite (.cmp .Lt (.sub (.var 0) (.var 5)) (.bin .Add (.sub (.var 0) (.var 6)) (.var 7))) (.seq (.asgSub (.var 0) (.var 5) (.bin .Add (.sub (.var 0) (.var 6)) (.var 7)))
  (.seq (.asgSub (.var 1) (.var 5) (.var 4))
  (.seq (.asg (.name 3) (.cst (.bl true)))
  .skip))) .skip)
  .skip))
def q_raise_once : S :=
  (.seq (.asg (.name 3) (.cst (.bl false)))
  (.seq (.for_ (.name 4) .val (.var 2) (q_raise_once_b1))
  (q_raise_once_r0)))
/-! point_on_cycle: 0 reasons, 1 walks, 2 start, 3 point |  -/
@[irreducible] def q_point_on_cycle_r0 : S :=
  (.seq (.ret (.cst .non))
  .skip)
@[irreducible] def q_point_on_cycle_r1 : S :=
  (.seq (.ite (.andB (.cmp .In (.var 3) (.var 0)) (.cmp .Eq (.sub (.var 1) (.var 3)) (.var 2))) (.seq (.ret (.var 3))
  .skip) .skip)
  .skip)
@[irreducible] def q_point_on_cycle_b2 : S :=
  (.seq (.asgSub (.var 1) (.var 3) (.var 2))
  (.seq (.asg (.name 3) (.sub (.sub (.var 0) (.var 3)) (.cst (.int 1))))
  .skip))
@[irreducible] def q_point_on_cycle_b3 : S :=
  (.seq (.asg (.name 3) (.var 2))
  (.seq (.while_ (.andB (.cmp .In (.var 3) (.var 0)) (.cmp .NotIn (.var 3) (.var 1))) (q_point_on_cycle_b2))
  (q_point_on_cycle_r1)))
def q_point_on_cycle : S :=
  (.seq (.asg (.name 1) (.dnew true))
  (.seq (.for_ (.name 2) .val (.var 0) (q_point_on_cycle_b3))
  (q_point_on_cycle_r0)))
/-! cycle_through: 0 reasons, 1 point, 2 steps |  -/
@[irreducible] def q_cycle_through_r0 : S :=
  (.seq (.ret (.blt .tuple (.cons (.rev (.var 2)) .nil)))
  .skip)
@[irreducible] def q_cycle_through_b1 : S :=
  (.seq (.expr (.mth .append (.var 2) (.cons (.sub (.var 0) (.sub (.sub (.var 2) (.neg (.cst (.int 1)))) (.cst (.int 1)))) .nil)))
  .skip)
def q_cycle_through : S :=
  (.seq (.asg (.name 2) (.lst (.cons (.sub (.var 0) (.var 1)) .nil)))
  (.seq (.while_ (.cmp .NotEq (.sub (.sub (.var 2) (.neg (.cst (.int 1)))) (.cst (.int 1))) (.var 1)) (q_cycle_through_b1))
  (q_cycle_through_r0)))
/-! solved: 0 start, 1 constraints, 2 years, 3 reasons, 4 closed, 5 point | f_cycle_through f_point_on_cycle f_raise_once -/
@[irreducible] def q_solved_r0 (f_cycle_through f_point_on_cycle f_raise_once : Nat) : S :=
  (.seq (.ret (.tup (.cons (.var 2) (.cons (.cst .non) .nil))))
  .skip)
@[irreducible] def q_solved_b1 (f_cycle_through f_point_on_cycle f_raise_once : Nat) : S :=
  (.seq (.iteW 4 (.call f_point_on_cycle (.cons (.var 3) .nil)) (.seq (.ret (.tup (.cons (.cst .non) (.cons (.call f_cycle_through (.cons (.var 3) (.cons (.var 4) .nil))) .nil))))
  .skip) .skip)
  .skip)
def q_solved (f_cycle_through f_point_on_cycle f_raise_once : Nat) : S :=
  (.seq (.asg (.name 2) (.dc true (.name 5) .val (.var 0) (.cst (.bl true)) (.var 5) (.sub (.var 0) (.var 5)) [("point", 5)]))
  (.seq (.asg (.name 3) (.dnew true))
  (.seq (.while_ (.truth (.call f_raise_once (.cons (.var 2) (.cons (.var 3) (.cons (.var 1) .nil))))) (q_solved_b1 f_cycle_through f_point_on_cycle f_raise_once))
  (q_solved_r0 f_cycle_through f_point_on_cycle f_raise_once))))
/-! without_origin: 0 years, 1 point | g_ORIGIN -/
def q_without_origin (g_ORIGIN : Nat) : S :=
  (.seq (.ret (.dc true (.name 1) .val (.var 0) (.cmp .NotEq (.var 1) (.glb g_ORIGIN)) (.var 1) (.sub (.var 0) (.var 1)) [("point", 1)]))
  .skip)
/-! earliest: 0 points, 1 constraints, 2 start, 3 years, 4 cycle, 5 point | f_range_constraints f_solved f_without_origin g_ORIGIN -/
@[irreducible] def q_earliest_r0 (f_range_constraints f_solved f_without_origin g_ORIGIN : Nat) : S :=
  (.seq (.ret (.tup (.cons (.cst (.str "years")) (.cons (.call f_without_origin (.cons (.var 3) .nil)) .nil))))
  .skip)
def q_earliest (f_range_constraints f_solved f_without_origin g_ORIGIN : Nat) : S :=
  (.seq (.asg (.name 2) (.dc true (.name 5) .val (.lst (.scons false (.glb g_ORIGIN) (.scons true (.var 0) .snil))) (.cst (.bl true)) (.var 5) (.cst (.int 0)) [("point", 5)]))
  (.seq (.asg (.tup (.cons (.name 3) (.cons (.name 4) .nil))) (.call f_solved (.cons (.var 2) (.cons (.lst (.scons true (.call f_range_constraints (.cons (.var 0) .nil)) (.scons true (.var 1) .snil))) .nil))))
  (.seq (.ite (.cmp .IsNot (.var 4) (.cst .non)) (.seq (.ret (.tup (.cons (.cst (.str "cycle")) (.cons (.var 4) .nil))))
  .skip) .skip)
  (q_earliest_r0 f_range_constraints f_solved f_without_origin g_ORIGIN))))
/-! law_names: 0 pool, 1 many, 2 taken, 3 signs, 4 told, 5 i, 6 text, 7 j | f_law_one f_law_pick -/
@[irreducible] def q_law_names_r0 (f_law_one f_law_pick : Nat) : S :=
  (.seq (.ret (.var 4))
  .skip)
@[irreducible] def q_law_names_r1 (f_law_one f_law_pick : Nat) : S :=
  (.seq (.expr (.mth .append (.var 4) (.cons (.var 6) .nil)))
  .skip)
@[irreducible] def q_law_names_r2 (f_law_one f_law_pick : Nat) : S :=
  (.seq (.asg (.name 6) (.bin .Add (.slice false true (.var 6) .absent (.cst (.int 4))) (.blt .str (.cons (.bin .Add (.bin .Add (.cst (.int 100)) (.bin .Mult (.cst (.int 90)) (.var 5))) (.var 7)) .nil))))
  .skip)
@[irreducible] def q_law_names_b3 (f_law_one f_law_pick : Nat) : S :=
  (.seq (.ite (.andB (.cmp .NotIn (.var 6) (.var 2)) (.cmp .NotIn (.var 6) (.var 4))) (.seq .brk
  .skip) .skip)
  (q_law_names_r2 f_law_one f_law_pick))
@[irreducible] def q_law_names_r4 (f_law_one f_law_pick : Nat) : S :=
  (.seq (.for_ (.name 7) .range1 (.cons (.cst (.int 90)) .nil) (q_law_names_b3 f_law_one f_law_pick))
  (q_law_names_r1 f_law_one f_law_pick))
@[irreducible] def q_law_names_b5 (f_law_one f_law_pick : Nat) : S :=
  (.seq (.asg (.name 6) (.bin .Add (.var 6) (.sub (.var 3) (.call f_law_pick (.cons (.var 0) (.cons (.cst (.int 36)) .nil))))))
  .skip)
@[irreducible] def q_law_names_b6 (f_law_one f_law_pick : Nat) : S :=
  (.seq (.asg (.name 6) (.sub (.var 3) (.call f_law_pick (.cons (.var 0) (.cons (.cst (.int 26)) .nil)))))
  (.seq (.for_ (.name 7) .range1 (.cons (.call f_law_one (.cons (.var 0) (.cons (.lst (.cons (.cst (.int 0)) (.cons (.cst (.int 0)) (.cons (.cst (.int 1)) (.cons (.cst (.int 1)) (.cons (.cst (.int 2)) (.cons (.cst (.int 3)) (.cons (.cst (.int 4)) (.cons (.cst (.int 5)) (.cons (.cst (.int 6)) (.cons (.cst (.int 7)) .nil))))))))))) .nil))) .nil) (q_law_names_b5 f_law_one f_law_pick))
  (q_law_names_r4 f_law_one f_law_pick)))
def q_law_names (f_law_one f_law_pick : Nat) : S :=
  (.seq (.asg (.name 3) (.cst (.str "abcdefghijklmnopqrstuvwxyz0123456789")))
  (.seq (.asg (.name 4) (.lst .nil))
  (.seq (.for_ (.name 5) .range1 (.cons (.var 1) .nil) (q_law_names_b6 f_law_one f_law_pick))
  (q_law_names_r0 f_law_one f_law_pick))))
/-! law_points: 0 pool, 1 many, 2 texts, 3 told, 4 i, 5 p | f_law_names f_law_one f_law_pick -/
@[irreducible] def q_law_points_r0 (f_law_names f_law_one f_law_pick : Nat) : S :=
  (.seq (.ret (.var 3))
  .skip)
@[irreducible] def q_law_points_r1 (f_law_names f_law_one f_law_pick : Nat) : S :=
  (.seq (.expr (.mth .append (.var 3) (.cons (.var 5) .nil)))
  .skip)
@[irreducible] def q_law_points_b2 (f_law_names f_law_one f_law_pick : Nat) : S :=
  (.seq (.asg (.name 5) (.tup (.cons (.call f_law_one (.cons (.var 0) (.cons (.lst (.cons (.cst (.str "b")) (.cons (.cst (.str "e")) (.cons (.cst (.str "m")) (.cons (.cst (.str "f")) (.cons (.cst (.str "l")) .nil)))))) .nil))) (.cons (.sub (.var 2) (.call f_law_pick (.cons (.var 0) (.cons (.bin .Add (.var 4) (.cst (.int 1))) .nil)))) .nil))))
  (.seq (.ite (.cmp .In (.var 5) (.var 3)) (.seq (.asg (.name 5) (.tup (.cons (.sub (.var 5) (.cst (.int 0))) (.cons (.sub (.var 2) (.var 4)) .nil))))
  .skip) .skip)
  (q_law_points_r1 f_law_names f_law_one f_law_pick)))
def q_law_points (f_law_names f_law_one f_law_pick : Nat) : S :=
  (.seq (.asg (.name 2) (.call f_law_names (.cons (.var 0) (.cons (.var 1) (.cons (.lst .nil) .nil)))))
  (.seq (.asg (.name 3) (.lst .nil))
  (.seq (.for_ (.name 4) .range1 (.cons (.var 1) .nil) (q_law_points_b2 f_law_names f_law_one f_law_pick))
  (q_law_points_r0 f_law_names f_law_one f_law_pick))))
/-! law_dated: 0 pool, 1 pts, 2 way, 3 at, 4 low, 5 p | f_law_pick -/
@[irreducible] def q_law_dated_r0 (f_law_pick : Nat) : S :=
  (.seq (.ret (.var 3))
  .skip)
@[irreducible] def q_law_dated_r1 (f_law_pick : Nat) : S :=
  (.seq (.asgSub (.var 3) (.var 5) (.var 4))
  .skip)
@[irreducible] def q_law_dated_r2 (f_law_pick : Nat) : S :=
  (.seq (.ite (.cmp .Eq (.var 2) (.cst (.int 3))) (.seq (.asg (.name 4) (.bin .Sub (.cst (.int 4000)) (.call f_law_pick (.cons (.var 0) (.cons (.cst (.int 13)) .nil)))))
  .skip) .skip)
  (q_law_dated_r1 f_law_pick))
@[irreducible] def q_law_dated_r3 (f_law_pick : Nat) : S :=
  (.seq (.ite (.cmp .Eq (.var 2) (.cst (.int 2))) (.seq (.asg (.name 4) (.blt .min (.cons (.cst (.int 4000)) (.cons (.bin .Add (.var 4) (.call f_law_pick (.cons (.var 0) (.cons (.cst (.int 5)) .nil)))) .nil))))
  .skip) .skip)
  (q_law_dated_r2 f_law_pick))
@[irreducible] def q_law_dated_r4 (f_law_pick : Nat) : S :=
  (.seq (.ite (.cmp .Eq (.var 2) (.cst (.int 1))) (.seq (.asg (.name 4) (.call f_law_pick (.cons (.var 0) (.cons (.cst (.int 4001)) .nil))))
  .skip) .skip)
  (q_law_dated_r3 f_law_pick))
@[irreducible] def q_law_dated_b5 (f_law_pick : Nat) : S :=
  (.seq (.ite (.cmp .Eq (.var 2) (.cst (.int 0))) (.seq (.asg (.name 4) (.call f_law_pick (.cons (.var 0) (.cons (.cst (.int 13)) .nil))))
  .skip) .skip)
  (q_law_dated_r4 f_law_pick))
@[irreducible] def q_law_dated_r6 (f_law_pick : Nat) : S :=
  (.seq (.asg (.name 3) (.dmk true (.tup (.cons (.cst (.str "o")) (.cons (.cst (.str "")) .nil))) (.cst (.int 0))))
  (.seq (.asg (.name 4) (.cst (.int 0)))
  (.seq (.for_ (.name 5) .val (.var 1) (q_law_dated_b5 f_law_pick))
  (q_law_dated_r0 f_law_pick))))
def q_law_dated (f_law_pick : Nat) : S :=
  (.seq (.asg (.name 2) (.call f_law_pick (.cons (.var 0) (.cons (.cst (.int 4)) .nil))))
  (.seq (.ite (.andB (.cmp .Gt (.blt .len (.cons (.var 1) .nil)) (.cst (.int 9))) (.cmp .NotEq (.var 2) (.cst (.int 1)))) (.seq (.asg (.name 2) (.cst (.int 2)))
  .skip) .skip)
  (q_law_dated_r6 f_law_pick)))
/-! law_met: 0 pool, 1 pts, 2 at, 3 every, 4 rows, 5 deep, 6 n, 7 i, 8 j, 9 gap, 10 spare, 11 links | f_law_one f_law_pick -/
@[irreducible] def q_law_met_r0 (f_law_one f_law_pick : Nat) : S :=
  (.seq (.ret (.bin .Add (.var 4) (.rev (.var 11))))
  .skip)
@[irreducible] def q_law_met_r1 (f_law_one f_law_pick : Nat) : S :=
  (.seq (.ite (.andB (.notB (.truth (.var 5))) (.cmp .Eq (.call f_law_pick (.cons (.var 0) (.cons (.cst (.int 2)) .nil))) (.cst (.int 0)))) (.seq (.ret (.var 4))
  .skip) .skip)
  (q_law_met_r0 f_law_one f_law_pick))
@[irreducible] def q_law_met_r2 (f_law_one f_law_pick : Nat) : S :=
  (.seq (.asg (.name 11) (.lc (.name 7) .range2 (.cons (.cst (.int 1)) (.cons (.blt .len (.cons (.var 3) .nil)) .nil)) (.cst (.bl true)) (.tup (.cons (.sub (.var 3) (.var 7)) (.cons (.sub (.var 3) (.bin .Sub (.var 7) (.cst (.int 1)))) (.cons (.bin .Sub (.sub (.var 2) (.sub (.var 3) (.var 7))) (.sub (.var 2) (.sub (.var 3) (.bin .Sub (.var 7) (.cst (.int 1)))))) .nil)))) [("i", 7)]))
  (.seq (.ite (.andB (.truth (.var 5)) (.cmp .Eq (.call f_law_pick (.cons (.var 0) (.cons (.cst (.int 2)) .nil))) (.cst (.int 0)))) (.seq (.ret (.bin .Add (.var 4) (.var 11)))
  .skip) .skip)
  (q_law_met_r1 f_law_one f_law_pick)))
@[irreducible] def q_law_met_r3 (f_law_one f_law_pick : Nat) : S :=
  (.seq (.expr (.mth .append (.var 4) (.cons (.tup (.cons (.sub (.var 3) (.var 7)) (.cons (.sub (.var 3) (.var 8)) (.cons (.bin .Sub (.var 9) (.var 10)) .nil)))) .nil)))
  .skip)
@[irreducible] def q_law_met_b4 (f_law_one f_law_pick : Nat) : S :=
  (.seq (.asg (.name 7) (.call f_law_pick (.cons (.var 0) (.cons (.blt .len (.cons (.var 3) .nil)) .nil))))
  (.seq (.asg (.name 8) (.bin .Mod (.blt .int (.cons (.bin .Add (.bin .Add (.var 7) (.cst (.int 1))) (.call f_law_pick (.cons (.var 0) (.cons (.bin .Sub (.blt .len (.cons (.var 3) .nil)) (.cst (.int 1))) .nil)))) .nil)) (.blt .len (.cons (.var 3) .nil))))
  (.seq (.asg (.name 9) (.bin .Sub (.sub (.var 2) (.sub (.var 3) (.var 7))) (.sub (.var 2) (.sub (.var 3) (.var 8)))))
  (.seq (.asg (.name 10) (.call f_law_one (.cons (.var 0) (.cons (.lst (.cons (.cst (.int 0)) (.cons (.cst (.int 0)) (.cons (.cst (.int 1)) (.cons (.cst (.int 3)) (.cons (.call f_law_pick (.cons (.var 0) (.cons (.bin .Add (.var 9) (.cst (.int 1000001))) .nil))) .nil)))))) .nil))))
  (.seq (.ite (.truth (.var 5)) (.seq (.asg (.name 10) (.blt .max (.cons (.cst (.int 1)) (.cons (.var 10) .nil))))
  .skip) .skip)
  (q_law_met_r3 f_law_one f_law_pick))))))
@[irreducible] def q_law_met_r5 (f_law_one f_law_pick : Nat) : S :=
  (.seq (.asg (.name 5) (.andV (.cmp .Gt (.blt .len (.cons (.var 1) .nil)) (.cst (.int 9))) (.cmp .Eq (.call f_law_pick (.cons (.var 0) (.cons (.cst (.int 2)) .nil))) (.cst (.int 0)))))
  (.seq (.for_ (.name 6) .range1 (.cons (.call f_law_pick (.cons (.var 0) (.cons (.bin .Add (.bin .Mult (.cst (.int 3)) (.blt .len (.cons (.var 3) .nil))) (.cst (.int 1))) .nil))) .nil) (q_law_met_b4 f_law_one f_law_pick))
  (q_law_met_r2 f_law_one f_law_pick)))
def q_law_met (f_law_one f_law_pick : Nat) : S :=
  (.seq (.asg (.name 3) (.bin .Add (.lst (.cons (.tup (.cons (.cst (.str "o")) (.cons (.cst (.str "")) .nil))) .nil)) (.var 1)))
  (.seq (.asg (.name 4) (.lst .nil))
  (.seq (.ite (.cmp .Eq (.blt .len (.cons (.var 1) .nil)) (.cst (.int 0))) (.seq (.ret (.var 4))
  .skip) .skip)
  (q_law_met_r5 f_law_one f_law_pick))))
/-! law_handed: 0 pool, 1 pts, 2 told, 3 i | f_law_one f_law_pick -/
@[irreducible] def q_law_handed_r0 (f_law_one f_law_pick : Nat) : S :=
  (.seq (.ret (.var 2))
  .skip)
@[irreducible] def q_law_handed_r1 (f_law_one f_law_pick : Nat) : S :=
  (.seq (.ite (.cmp .Eq (.call f_law_pick (.cons (.var 0) (.cons (.cst (.int 2)) .nil))) (.cst (.int 0))) (.seq (.expr (.mth .insert (.var 2) (.cons (.call f_law_pick (.cons (.var 0) (.cons (.bin .Add (.blt .len (.cons (.var 2) .nil)) (.cst (.int 1))) .nil))) (.cons (.tup (.cons (.cst (.str "o")) (.cons (.cst (.str "")) .nil))) .nil))))
  .skip) .skip)
  (q_law_handed_r0 f_law_one f_law_pick))
@[irreducible] def q_law_handed_b2 (f_law_one f_law_pick : Nat) : S :=
  (.seq (.expr (.mth .append (.var 2) (.cons (.call f_law_one (.cons (.var 0) (.cons (.var 1) .nil))) .nil)))
  .skip)
def q_law_handed (f_law_one f_law_pick : Nat) : S :=
  (.seq (.asg (.name 2) (.blt .list (.cons (.var 1) .nil)))
  (.seq (.ite (.cmp .Gt (.blt .len (.cons (.var 1) .nil)) (.cst (.int 0))) (.seq (.for_ (.name 3) .range1 (.cons (.call f_law_one (.cons (.var 0) (.cons (.lst (.cons (.cst (.int 0)) (.cons (.cst (.int 0)) (.cons (.cst (.int 1)) (.cons (.cst (.int 3)) .nil))))) .nil))) .nil) (q_law_handed_b2 f_law_one f_law_pick))
  .skip) .skip)
  (q_law_handed_r1 f_law_one f_law_pick)))
/-! law_solve: 0 pts, 1 rows, 2 at, 3 p, 4 i, 5 moved, 6 row, 7 need |  -/
@[irreducible] def q_law_solve_r0 : S :=
  (.seq (.ret (.cst .non))
  .skip)
@[irreducible] def q_law_solve_r1 : S :=
  (.seq (.ite (.notB (.truth (.var 5))) (.seq (.ret (.var 2))
  .skip) .skip)
  .skip)
@[irreducible] def q_law_solve_r2 : S :=
  (.seq (.asgSub (.var 2) (.sub (.var 6) (.cst (.int 0))) (.var 7))
  (.seq (.asg (.name 5) (.cst (.bl true)))
  .skip))
@[irreducible] def q_law_solve_b3 : S :=
  (.seq (.asg (.name 7) (.bin .Add (.sub (.var 2) (.sub (.var 6) (.cst (.int 1)))) (.sub (.var 6) (.cst (.int 2)))))
  (.seq (.ite (.cmp .Gt (.var 7) (.sub (.var 2) (.sub (.var 6) (.cst (.int 0))))) (.seq (.ite (.orB (.cmp .Gt (.var 7) (.cst (.int 4000))) (.cmp .Eq (.sub (.sub (.var 6) (.cst (.int 0))) (.cst (.int 0))) (.cst (.str "o")))) (.seq (.ret (.cst .non))
  .skip) .skip)
  (q_law_solve_r2)) .skip)
  .skip))
@[irreducible] def q_law_solve_b4 : S :=
  (.seq (.asg (.name 5) (.cst (.bl false)))
  (.seq (.for_ (.name 6) .val (.var 1) (q_law_solve_b3))
  (q_law_solve_r1)))
@[irreducible] def q_law_solve_r5 : S :=
  (.seq (.for_ (.name 4) .range1 (.cons (.bin .Add (.blt .len (.cons (.var 0) .nil)) (.cst (.int 2))) .nil) (q_law_solve_b4))
  (q_law_solve_r0))
@[irreducible] def q_law_solve_b6 : S :=
  (.seq (.asgSub (.var 2) (.var 3) (.cst (.int 0)))
  .skip)
def q_law_solve : S :=
  (.seq (.asg (.name 2) (.dmk true (.tup (.cons (.cst (.str "o")) (.cons (.cst (.str "")) .nil))) (.cst (.int 0))))
  (.seq (.for_ (.name 3) .val (.var 0) (q_law_solve_b6))
  (q_law_solve_r5)))
/-! law_ring: 0 pool, 1 pts, 2 at, 3 extra, 4 swing, 5 left, 6 seq, 7 i, 8 gaps, 9 one, 10 two | f_law_pick -/
@[irreducible] def q_law_ring_r0 (f_law_pick : Nat) : S :=
  (.seq (.asg (.name 8) (.lc (.name 7) .range1 (.cons (.blt .len (.cons (.var 6) .nil)) .nil) (.cst (.bl true)) (.bin .Sub (.sub (.var 2) (.sub (.var 6) (.bin .Mod (.blt .int (.cons (.bin .Add (.var 7) (.cst (.int 1))) .nil)) (.blt .len (.cons (.var 6) .nil))))) (.sub (.var 2) (.sub (.var 6) (.var 7)))) [("i", 7)]))
  (.seq (.asg (.name 9) (.call f_law_pick (.cons (.var 0) (.cons (.blt .len (.cons (.var 6) .nil)) .nil))))
  (.seq (.asg (.name 10) (.call f_law_pick (.cons (.var 0) (.cons (.blt .len (.cons (.var 6) .nil)) .nil))))
  (.seq (.asgSub (.var 8) (.var 9) (.bin .Add (.bin .Add (.sub (.var 8) (.var 9)) (.var 3)) (.var 4)))
  (.seq (.asgSub (.var 8) (.var 10) (.bin .Sub (.sub (.var 8) (.var 10)) (.var 4)))
  (.seq (.ret (.lc (.name 7) .range1 (.cons (.blt .len (.cons (.var 6) .nil)) .nil) (.cst (.bl true)) (.tup (.cons (.sub (.var 6) (.bin .Mod (.blt .int (.cons (.bin .Add (.var 7) (.cst (.int 1))) .nil)) (.blt .len (.cons (.var 6) .nil)))) (.cons (.sub (.var 6) (.var 7)) (.cons (.sub (.var 8) (.var 7)) .nil)))) [("i", 7)]))
  .skip))))))
@[irreducible] def q_law_ring_b1 (f_law_pick : Nat) : S :=
  (.seq (.expr (.mth .append (.var 6) (.cons (.mth .popAt (.var 5) (.cons (.call f_law_pick (.cons (.var 0) (.cons (.blt .len (.cons (.var 5) .nil)) .nil))) .nil)) .nil)))
  .skip)
def q_law_ring (f_law_pick : Nat) : S :=
  (.seq (.asg (.name 5) (.bin .Add (.lst (.cons (.tup (.cons (.cst (.str "o")) (.cons (.cst (.str "")) .nil))) .nil)) (.var 1)))
  (.seq (.asg (.name 6) (.lst .nil))
  (.seq (.for_ (.name 7) .range1 (.cons (.blt .min (.cons (.blt .len (.cons (.var 5) .nil)) (.cons (.bin .Add (.cst (.int 2)) (.call f_law_pick (.cons (.var 0) (.cons (.cst (.int 6)) .nil)))) .nil))) .nil) (q_law_ring_b1 f_law_pick))
  (q_law_ring_r0 f_law_pick))))
/-! law_within: 0 pool, 1 rows, 2 ring, 3 at | f_law_pick -/
def q_law_within (f_law_pick : Nat) : S :=
  (.seq (.asg (.name 3) (.call f_law_pick (.cons (.var 0) (.cons (.bin .Add (.blt .len (.cons (.var 1) .nil)) (.cst (.int 1))) .nil))))
  (.seq (.ret (.bin .Add (.bin .Add (.slice false true (.var 1) .absent (.var 3)) (.var 2)) (.slice true false (.var 1) (.var 3) .absent)))
  .skip))
/-! law_free: 0 pool, 1 pts, 2 every, 3 rows, 4 n, 5 i, 6 j, 7 menu | f_law_one f_law_pick -/
@[irreducible] def q_law_free_r0 (f_law_one f_law_pick : Nat) : S :=
  (.seq (.ret (.var 3))
  .skip)
@[irreducible] def q_law_free_b1 (f_law_one f_law_pick : Nat) : S :=
  (.seq (.asg (.name 5) (.call f_law_pick (.cons (.var 0) (.cons (.blt .len (.cons (.var 2) .nil)) .nil))))
  (.seq (.asg (.name 6) (.bin .Mod (.blt .int (.cons (.bin .Add (.bin .Add (.var 5) (.cst (.int 1))) (.call f_law_pick (.cons (.var 0) (.cons (.bin .Sub (.blt .len (.cons (.var 2) .nil)) (.cst (.int 1))) .nil)))) .nil)) (.blt .len (.cons (.var 2) .nil))))
  (.seq (.asg (.name 7) (.lst (.cons (.cst (.int 0)) (.cons (.cst (.int 1)) (.cons (.neg (.call f_law_pick (.cons (.var 0) (.cons (.cst (.int 20)) .nil)))) (.cons (.neg (.call f_law_pick (.cons (.var 0) (.cons (.cst (.int 4001)) .nil)))) (.cons (.call f_law_pick (.cons (.var 0) (.cons (.cst (.int 60)) .nil))) (.cons (.bin .Sub (.call f_law_pick (.cons (.var 0) (.cons (.cst (.int 2000001)) .nil))) (.cst (.int 1000000))) .nil))))))))
  (.seq (.expr (.mth .append (.var 3) (.cons (.tup (.cons (.sub (.var 2) (.var 5)) (.cons (.sub (.var 2) (.var 6)) (.cons (.call f_law_one (.cons (.var 0) (.cons (.var 7) .nil))) .nil)))) .nil)))
  .skip))))
def q_law_free (f_law_one f_law_pick : Nat) : S :=
  (.seq (.asg (.name 2) (.bin .Add (.lst (.cons (.tup (.cons (.cst (.str "o")) (.cons (.cst (.str "")) .nil))) .nil)) (.var 1)))
  (.seq (.asg (.name 3) (.lst .nil))
  (.seq (.for_ (.name 4) .range1 (.cons (.call f_law_pick (.cons (.var 0) (.cons (.bin .Add (.bin .Mult (.cst (.int 3)) (.blt .len (.cons (.var 2) .nil))) (.cst (.int 1))) .nil))) .nil) (q_law_free_b1 f_law_one f_law_pick))
  (q_law_free_r0 f_law_one f_law_pick))))
/-! law_floyd: 0 pts, 1 rows, 2 every, 3 at, 4 p, 5 q, 6 row, 7 x |  -/
@[irreducible] def q_law_floyd_r0 : S :=
  (.seq (.ret (.var 3))
  .skip)
@[irreducible] def q_law_floyd_r1 : S :=
  (.seq (.ite (.cmp .Gt (.blt .len (.cons (.lc (.name 4) .val (.var 2) (.cmp .Gt (.sub (.var 3) (.tup (.cons (.var 4) (.cons (.var 4) .nil)))) (.cst (.int 0))) (.cst (.int 1)) [("p", 4)]) .nil)) (.cst (.int 0))) (.seq (.ret (.cst .non))
  .skip) .skip)
  (q_law_floyd_r0))
@[irreducible] def q_law_floyd_b2 : S :=
  (.seq (.ite (.andB (.cmp .IsNot (.sub (.var 3) (.tup (.cons (.var 4) (.cons (.var 7) .nil)))) (.cst .non)) (.cmp .IsNot (.sub (.var 3) (.tup (.cons (.var 7) (.cons (.var 5) .nil)))) (.cst .non))) (.seq (.ite (.orB (.cmp .Is (.sub (.var 3) (.tup (.cons (.var 4) (.cons (.var 5) .nil)))) (.cst .non)) (.cmp .Lt (.sub (.var 3) (.tup (.cons (.var 4) (.cons (.var 5) .nil)))) (.bin .Add (.sub (.var 3) (.tup (.cons (.var 4) (.cons (.var 7) .nil)))) (.sub (.var 3) (.tup (.cons (.var 7) (.cons (.var 5) .nil))))))) (.seq (.asgSub (.var 3) (.tup (.cons (.var 4) (.cons (.var 5) .nil))) (.bin .Add (.sub (.var 3) (.tup (.cons (.var 4) (.cons (.var 7) .nil)))) (.sub (.var 3) (.tup (.cons (.var 7) (.cons (.var 5) .nil))))))
  .skip) .skip)
  .skip) .skip)
  .skip)
@[irreducible] def q_law_floyd_b3 : S :=
  (.seq (.for_ (.name 5) .val (.var 2) (q_law_floyd_b2))
  .skip)
@[irreducible] def q_law_floyd_b4 : S :=
  (.seq (.for_ (.name 4) .val (.var 2) (q_law_floyd_b3))
  .skip)
@[irreducible] def q_law_floyd_r5 : S :=
  (.seq (.for_ (.name 7) .val (.var 2) (q_law_floyd_b4))
  (q_law_floyd_r1))
@[irreducible] def q_law_floyd_b6 : S :=
  (.seq (.ite (.orB (.cmp .Is (.sub (.var 3) (.slice false true (.var 6) .absent (.cst (.int 2)))) (.cst .non)) (.cmp .Lt (.sub (.var 3) (.slice false true (.var 6) .absent (.cst (.int 2)))) (.sub (.var 6) (.cst (.int 2))))) (.seq (.asgSub (.var 3) (.slice false true (.var 6) .absent (.cst (.int 2))) (.sub (.var 6) (.cst (.int 2))))
  .skip) .skip)
  .skip)
@[irreducible] def q_law_floyd_r7 : S :=
  (.seq (.for_ (.name 6) .val (.var 1) (q_law_floyd_b6))
  (q_law_floyd_r5))
@[irreducible] def q_law_floyd_b8 : S :=
  (.seq (.asgSub (.var 3) (.tup (.cons (.var 4) (.cons (.tup (.cons (.cst (.str "o")) (.cons (.cst (.str "")) .nil))) .nil))) (.cst (.int 0)))
  (.seq (.asgSub (.var 3) (.tup (.cons (.tup (.cons (.cst (.str "o")) (.cons (.cst (.str "")) .nil))) (.cons (.var 4) .nil))) (.neg (.cst (.int 4000))))
  .skip))
@[irreducible] def q_law_floyd_r9 : S :=
  (.seq (.for_ (.name 4) .val (.var 0) (q_law_floyd_b8))
  (q_law_floyd_r7))
@[irreducible] def q_law_floyd_r10 : S :=
  (.seq (.asgSub (.var 3) (.tup (.cons (.var 4) (.cons (.var 4) .nil))) (.cst (.int 0)))
  .skip)
@[irreducible] def q_law_floyd_b11 : S :=
  (.seq (.asgSub (.var 3) (.tup (.cons (.var 4) (.cons (.var 5) .nil))) (.cst .non))
  .skip)
@[irreducible] def q_law_floyd_b12 : S :=
  (.seq (.for_ (.name 5) .val (.var 2) (q_law_floyd_b11))
  (q_law_floyd_r10))
def q_law_floyd : S :=
  (.seq (.asg (.name 2) (.bin .Add (.lst (.cons (.tup (.cons (.cst (.str "o")) (.cons (.cst (.str "")) .nil))) .nil)) (.lc (.name 4) .val (.var 0) (.cst (.bl true)) (.var 4) [("p", 4)])))
  (.seq (.asg (.name 3) (.dnew true))
  (.seq (.for_ (.name 4) .val (.var 2) (q_law_floyd_b12))
  (q_law_floyd_r9))))
end DL
local macro_rules | `(tactic| walk_at "om") => `(tactic| first | omega | (simp only [List.length_map, List.length_append, List.length_cons, List.length_nil, List.length_set, List.length_range, List.length_replicate, List.length_reverse]; omega))
local macro_rules | `(tactic| walk_at "at") => `(tactic| first | rfl | exact atI_in (by walk_at "om") (by walk_at "om"))
local macro_rules | `(tactic| walk_at "fr") => `(tactic| first | assumption | exact Sm.free (by assumption) (by assumption) | exact Sm.free (by walk_at "sm") (by assumption))
local macro_rules | `(tactic| walk_at "sm") => `(tactic| first | assumption | exact Sm.refl _ | (refine Sm.write ?_ (by walk_at "fr"); walk_at "sm") | (refine Sm.trans ?_ (by assumption); walk_at "sm"))
local macro_rules | `(tactic| walk_at "h") => `(tactic| first | assumption | exact updD_same | exact Sm.at_ (by assumption) (by assumption) | (refine (updD_ne ?_).trans ?_; (walk_at "nn"); (walk_at "h")) | solve_by_elim only [Sm.at_, *])
local macro_rules | `(tactic| walk_at "nn") => `(tactic| first | assumption | (refine Ne.symm ?_; assumption) | exact ne_new (by assumption) (by walk_at "h") | exact Ne.symm (ne_new (by assumption) (by walk_at "h")))
local macro_rules | `(tactic| walk_at "g") => `(tactic| ((try dsimp only [dstart, List.set, List.map, List.length, Nat.reduceAdd, Nat.reduceSub, List.replicate, List.cons_append, List.nil_append]); repeat (first
  | refine ⟨_, rfl, ?_⟩
  | refine ⟨_, _, rfl, rfl, ?_⟩
  | (refine (?_ : subD (D.ref _) (D.int _) _ _); refine sub_l (by walk_at "h") (by walk_at "at") ?_)
  | (refine (?_ : subD (D.tup _) (D.int _) _ _); refine sub_t (by walk_at "at") ?_)
  | refine par_mk ?_
  | refine rev_tm ?_
  | (refine (?_ : revD (D.ref _) _ _); refine rev_lm (by walk_at "h") ?_)
  | refine len_tm ?_
  | refine len_t ?_
  | (refine (?_ : lenD (D.ref _) _ _); first | refine len_lm (by walk_at "h") ?_ | refine len_l (by walk_at "h") ?_)
  | (refine (?_ : itD ItK.val (D.ref _) _ _); refine it_l (by walk_at "h") ?_)
  | (refine (?_ : itD ItK.enum (D.tup [D.ref _]) _ _); refine enum_l (by walk_at "h") ?_)
  | (refine (?_ : sliceD (D.ref _) _ _ _ _); refine slice_l (by walk_at "h") ?_)
  | (refine (?_ : itemsD (D.ref _) _ _); refine items_l (by walk_at "h") ?_)
  | (refine (?_ : truD (D.ref _) _ _); refine tru_l (by walk_at "h") ?_)
  | (refine (?_ : tyD (D.ref _) _ _); refine ty_l (by walk_at "h") ?_)
  | (refine (?_ : mthT Mth.append (D.ref _) _ ∧ _); refine app_l (by walk_at "h") ?_)
  | (refine (?_ : mthT Mth.pop (D.ref _) _ ∧ _); refine pop_l (by walk_at "h") ?_)
  | (refine (?_ : mthT Mth.extend (D.ref _) _ ∧ _); refine ext_l (by walk_at "h") ?_)
  | (refine (?_ : mthD Mth.append (D.ref _) [_] _ _); refine append_l (by walk_at "h") (by walk_at "om") ?_)
  | (refine (?_ : setR _ (D.int _) _ _ _); refine set_l (by walk_at "h") rfl ?_)
  | refine ⟨mulC (by decide), ?_⟩
  | refine ⟨mulC' (by decide), ?_⟩
  | refine ⟨(by decide : (0 : Int) < _), ?_⟩
  | refine ⟨(⟨by decide, by decide⟩ : DivOk _), ?_⟩
  | refine ⟨((by simp only [List.length_cons, List.length_nil]; decide) : List.length (_ : List D) ≤ sizeLine), ?_⟩
  | refine ⟨mulC (by omega), ?_⟩
  | refine ⟨mulC' (by omega), ?_⟩
  | refine iteF ?_
  | refine iteT ?_)))
namespace DL
/-! ### texts -/
theorem str_ext {a b : Str} (h : a.cps.toList = b.cps.toList) : a = b := by
  cases a; cases b; simp only [Str.mk.injEq]; exact Array.ext' h
theorem str_add (a b : Str) : (a ++ b).cps.toList = a.cps.toList ++ b.cps.toList := by
  show (a.cps ++ b.cps).toList = _
  simp
theorem str_cut (a : Str) (n : Nat) : (cutS a none (some (n : Int))).cps.toList = a.cps.toList.take n := by
  unfold cutS
  simp [HT.sIx_nat, HT.sIx_none, Str.length]
theorem str_cut4 (a : Str) : (cutS a none (some 4)).cps.toList = a.cps.toList.take 4 := str_cut a 4
theorem str_len (a : Str) : a.length = a.cps.toList.length := by
  show a.cps.size = _; simp
theorem num_cps (n : Nat) : (Str.ofString (toString (n : Int))).cps.toList = (Nat.toDigits 10 n).map Char.toNat := by
  rw [Str.ofString_eq_toList]
  show (List.map Char.toNat (toString n).toList) = _
  rw [show (toString n).toList = Nat.toDigits 10 n by simp]
theorem num_inj {m n : Nat} (h : (Str.ofString (toString (m : Int))).cps.toList = (Str.ofString (toString (n : Int))).cps.toList) : m = n := by
  rw [num_cps, num_cps] at h
  have h2 : Nat.toDigits 10 m = Nat.toDigits 10 n := by
    refine (List.map_inj_right fun a b e => ?_).1 h
    exact Char.ext (UInt32.toNat_inj.1 e)
  rw [← Nat.ofDigitChars_toDigits (b := 10) (n := m) (by decide) (by decide), h2, Nat.ofDigitChars_toDigits (by decide) (by decide)]
theorem num_len {n : Nat} (h : n < 10000) : (Nat.toDigits 10 n).length ≤ 4 := by
  rw [Nat.toDigits_eq_if (by decide)]
  split
  · simp
  · rw [Nat.toDigits_eq_if (by decide)]
    split
    · simp
    · rw [Nat.toDigits_eq_if (by decide)]
      split
      · simp
      · rw [Nat.toDigits_eq_if (by decide), if_pos (by omega)]
        simp
theorem num_ge {n : Nat} (h : 100 ≤ n) : 3 ≤ (Nat.toDigits 10 n).length := by
  rw [Nat.toDigits_eq_if (by decide), if_neg (by omega), Nat.toDigits_eq_if (by decide), if_neg (by omega)]
  have : 1 ≤ (Nat.toDigits 10 (n / 10 / 10)).length := by
    rw [Nat.toDigits_eq_if (by decide)]; split <;> simp
  simp; omega
theorem okS {x : Str} : PyData.strOk x = true ↔ ∀ c ∈ x.cps.toList, c < 0x110000 := by
  unfold PyData.strOk
  rw [← Array.all_toList, List.all_eq_true]
  simp
theorem ok_num (n : Nat) : PyData.strOk (Str.ofString (toString (n : Int))) = true := okS.2 fun c hc => by
  rw [num_cps] at hc
  obtain ⟨d, hd, rfl⟩ := List.mem_map.1 hc
  have := d.valid
  show d.val.toNat < _
  rcases this with h | ⟨_, h⟩
  · exact Nat.lt_trans h (by decide)
  · exact h
theorem ok_add {a b : Str} (ha : PyData.strOk a = true) (hb : PyData.strOk b = true) : PyData.strOk (a ++ b) = true := okS.2 fun c hc => by
  rw [str_add] at hc
  rcases List.mem_append.1 hc with hc | hc
  · exact okS.1 ha c hc
  · exact okS.1 hb c hc
theorem ok_cut4 {a : Str} (ha : PyData.strOk a = true) : PyData.strOk (cutS a none (some 4)) = true := okS.2 fun c hc => by
  rw [str_cut4] at hc
  exact okS.1 ha c (List.mem_of_mem_take hc)
/-- the texts that are tried -/
def tryT (t0 : Str) (i : Nat) : Nat → Str
  | 0 => t0
  | j + 1 => cutS (tryT t0 i j) none (some 4) ++ Str.ofString (toString ((100 + 90 * i + j : Nat) : Int))
theorem tryT_succ (t0 : Str) (i j : Nat) : tryT t0 i (j + 1) = cutS (tryT t0 i j) none (some 4) ++ Str.ofString (toString ((100 + 90 * i + j : Nat) : Int)) := rfl
theorem tryT_len {t0 : Str} {i : Nat} (h0 : 1 ≤ t0.length) (h8 : t0.length ≤ 8) (hi : i ≤ 88) : ∀ j, j ≤ 90 → (1 ≤ (tryT t0 i j).length ∧ (tryT t0 i j).length ≤ 8) ∧ (1 ≤ j → 4 ≤ (tryT t0 i j).length)
  | 0, _ => ⟨⟨h0, h8⟩, fun h => absurd h (by decide)⟩
  | j + 1, hj => by
    have ih := tryT_len h0 h8 hi j (by omega)
    have e := congrArg (fun z : Str => z.cps.toList.length) (tryT_succ t0 i j)
    simp only [str_add, str_cut4, num_cps, List.length_append, List.length_take, List.length_map, ← str_len] at e
    have h1 := num_len (n := 100 + 90 * i + j) (by omega)
    have h2 := num_ge (n := 100 + 90 * i + j) (by omega)
    omega
theorem tryT_pre {t0 : Str} {i : Nat} (h0 : 1 ≤ t0.length) (h8 : t0.length ≤ 8) (hi : i ≤ 88) : ∀ j, j + 1 ≤ 90 → (tryT t0 i (j + 1)).cps.toList.take 4 = (tryT t0 i 1).cps.toList.take 4
  | 0, _ => rfl
  | j + 1, hj => by
    have l := (tryT_len h0 h8 hi (j + 1) (by omega)).2 (by omega)
    rw [str_len] at l
    rw [← tryT_pre h0 h8 hi j (by omega)]
    rw [tryT_succ, str_add, str_cut4, List.take_append_of_le_length (by rw [List.length_take]; omega), List.take_take]
    rfl
theorem tryT_inj {t0 : Str} {i : Nat} (h0 : 1 ≤ t0.length) (h8 : t0.length ≤ 8) (hi : i ≤ 88) {a b : Nat} (ha : a + 2 ≤ 90) (hb : b + 2 ≤ 90) (h : tryT t0 i (a + 2) = tryT t0 i (b + 2)) : a = b := by
  have e : ∀ a, a + 2 ≤ 90 → (tryT t0 i (a + 2)).cps.toList = (tryT t0 i 1).cps.toList.take 4 ++ (Str.ofString (toString ((100 + 90 * i + (a + 1) : Nat) : Int))).cps.toList := fun a ha => by
    rw [show a + 2 = (a + 1) + 1 from rfl, tryT_succ, str_add, str_cut4, tryT_pre h0 h8 hi a (by omega)]
  have h2 : (tryT t0 i (a + 2)).cps.toList = (tryT t0 i (b + 2)).cps.toList := by rw [h]
  rw [e a ha, e b hb] at h2
  have := num_inj (List.append_cancel_left h2)
  omega
theorem tryT_ok {t0 : Str} (h : PyData.strOk t0 = true) (i : Nat) : ∀ j, PyData.strOk (tryT t0 i j) = true
  | 0 => h
  | j + 1 => by rw [tryT_succ]; exact ok_add (ok_cut4 (tryT_ok h i j)) (ok_num _)
/-- one of them is not there -/
theorem tryT_some {t0 : Str} {i : Nat} (h0 : 1 ≤ t0.length) (h8 : t0.length ≤ 8) (hi : i ≤ 88) {A : List Str} (hA : A.length < 88) (all : ∀ j, j < 90 → tryT t0 i j ∈ A) : False := by
  have h1 : ((List.range 88).map fun a => tryT t0 i (a + 2)).Nodup := by
    refine List.pairwise_map.mpr (List.Pairwise.imp_of_mem (fun {a b} ha hb hne e => hne (tryT_inj h0 h8 hi (by have := List.mem_range.1 ha; omega) (by have := List.mem_range.1 hb; omega) e)) List.nodup_range)
  have h2 := nodup_sub _ A h1 fun x hx => by
    obtain ⟨a, ha, rfl⟩ := List.mem_map.1 hx
    have := List.mem_range.1 ha
    exact all _ (by omega)
  rw [List.length_map, List.length_range] at h2
  omega
/-! ### calls -/
section
variable {C : Nat → Ct} {f : Nat} {p g r : Addr} {h : DH} {Q : DK} {E : XD}
theorem lgB {n : Int} (h : n.natAbs < 2 ^ 200) : n.natAbs.log2 < 9000 := by
  by_cases h0 : n.natAbs = 0
  · rw [h0]; decide
  · exact Nat.lt_trans ((Nat.log2_lt h0).2 h) (by decide)
theorem pick_i {n : Int} (e : C f = ask cPick) (P : PoolAt h p g) (h0 : 0 < n) (hl : n.natAbs < 2 ^ 200) (k : ∀ i h', 0 ≤ i → i < n → PoolAt h' p g → FrP p g h h' → Q (.int i) h') : C f [.ref p, .int n] h Q E :=
  ask_of e ⟨p, g, n, rfl, P, lgB hl, fun i h' a b c d => k i h' a (by omega) c d⟩
theorem one_l {α : Type} {F : α → D} {xs : List α} (e : C f = ask cOne) (P : PoolAt h p g) (hr : h r = some (.lst (xs.map F))) (n1 : r ≠ p) (n2 : r ≠ g) (hn : xs ≠ []) (hl : xs.length ≤ 100000) (k : ∀ x h', x ∈ xs → PoolAt h' p g → FrP p g h h' → Q (F x) h') : C f [.ref p, .ref r] h Q E :=
  ask_of e ⟨p, g, r, xs.map F, rfl, P, hr, by simpa using hn, by rw [List.length_map]; exact hl, n1, n2, fun x h' hx P' f' => by
    obtain ⟨y, hy, rfl⟩ := List.mem_map.1 hx
    exact k y h' hy P' f'⟩
/-- one of a list written for the call -/
theorem one_n {α : Type} {F : α → D} {xs : List α} {h1 : DH} (e : C f = ask cOne) (P : PoolAt h p g) (hr : h r = none) (he : h1 = updD h r (.lst (xs.map F))) (hn : xs ≠ []) (hl : xs.length ≤ 100000) (k : ∀ x h', x ∈ xs → PoolAt h' p g → FrP p g h h' → Q (F x) h') : C f [.ref p, .ref r] h1 Q E := by
  subst he
  obtain ⟨n1, n2⟩ := P.nep hr
  exact one_l e (P.new hr) updD_same n1 n2 hn hl fun x h' hx P' f' => k x h' hx P' ((FrP.new hr).trans f')
end
theorem one_ok {C : Nat → Ct} {cs : Nat → D} {f : Nat} (e : C f = ask cPick) (ds : List D) (h : DH) (Q : DK) (E : XD) (c : cOne ds h Q E) : xS cs C E (irOne f) { nx := fun _ h' => Q .non h', rt := Q } (dstart 2 ds) h := by
  obtain ⟨p, g, r, xs, rfl, P, hr, hn, hl, n1, n2, k⟩ := c
  have h0 : 0 < xs.length := List.length_pos_iff.mpr hn
  unfold irOne
  walk_at "go"
  refine pick_i e P (by omega) (by have : (2 : Nat) ^ 200 > 100000 := by decide
                                   omega) fun i h' a b P' f' => ?_
  exact sub_l (f' _ _ n1 n2 hr) (atI_id a b) (k _ _ (At_mem a b) P' f')
end DL
namespace DL
def encT (xs : List Str) : List D := xs.map D.str
/-- names: texts that are not there -/
def cNames : Ct := fun ds h Q _ => ∃ (p g : Addr) (many : Nat) (t : Addr) (taken : List Str), ds = [.ref p, .int many, .ref t] ∧ PoolAt h p g ∧ h t = some (.lst (taken.map D.str)) ∧ many + taken.length ≤ 87 ∧ t ≠ p ∧ t ≠ g ∧
  ∀ (told : List Str) (r : Addr) (h' : DH), told.length = many → told.Nodup → (∀ x ∈ told, x ∉ taken ∧ x.length ≤ 8 ∧ PyData.strOk x = true) → PoolAt h' p g → FrP p g h h' → h r = none → h' r = some (.lst (told.map D.str)) → Q (.ref r) h'
theorem any_str {x : Str} : ∀ {xs : List Str}, ((xs.map D.str).any fun y => eqF y (.str x)) = decide (x ∈ xs)
  | [] => rfl
  | y :: xs => by
    rw [List.map_cons, List.any_cons, any_str]
    show ((y == x) || decide (x ∈ xs)) = _
    by_cases h : y = x
    · subst h; simp
    · have h' : ¬ x = y := fun e => h e.symm
      simp [h, h']
theorem all_str : ∀ {xs : List Str}, (xs.map D.str).all flatD = true
  | [] => rfl
  | y :: xs => by rw [List.map_cons, List.all_cons, all_str]; rfl
theorem in_strs {h : DH} {t : Addr} {xs : List Str} {x : Str} {k : Bool → Prop} (l : LR h t (xs.map D.str)) (q : k (decide (x ∈ xs))) : inR (.str x) t h k := by
  refine in_l l rfl all_str ?_
  rw [any_str]; exact q
theorem FrP.get {p g a : Addr} {h h' : DH} {o : DO} (f : FrP p g h h') (P : PoolAt h p g) (e : h a = some o) (n1 : a ≠ p) (n2 : a ≠ g) : h' a = some o := f _ _ n1 n2 e
theorem sgn_len : (Str.ofString "abcdefghijklmnopqrstuvwxyz0123456789").cps.toList.length = 36 := by decide +kernel
theorem sgn_ok : ∀ c ∈ (Str.ofString "abcdefghijklmnopqrstuvwxyz0123456789").cps.toList, c < 0x110000 := by decide +kernel
theorem ok_one {c : Nat} (h : c < 0x110000) : PyData.strOk (⟨#[c]⟩ : Str) = true := okS.2 fun d hd => by simp at hd; subst hd; exact h
theorem sgn_at {i : Int} {n : Int} (a : 0 ≤ i) (b : i < n) (hn : n ≤ 36) {h : DH} {Q : DK} (q : ∀ c, c < 0x110000 → Q (.str ⟨#[c]⟩) h) : subD (.str (Str.ofString "abcdefghijklmnopqrstuvwxyz0123456789")) (.int i) h Q :=
  sub_s (by decide +kernel) (atI_id a (by rw [sgn_len]; omega)) (q _ (sgn_ok _ (At_mem a (by rw [sgn_len]; omega))))
theorem notIn_strs {h : DH} {t : Addr} {xs : List Str} {x : Str} {k : Bool → Prop} (l : LR h t (xs.map D.str)) (q : k (!decide (x ∈ xs))) : inR (.str x) t h (fun b => k (!b)) := in_strs (k := fun b => k (!b)) l q
theorem lgB_small {n : Nat} (h : n < 10000) : ((n : Int)).natAbs.log2 < 1920 := by
  by_cases h0 : n = 0
  · subst h0; decide
  · exact Nat.lt_trans ((Nat.log2_lt (by omega)).2 (by have : (2:Nat) ^ 20 > 10000 := by decide
                                                       omega)) (by decide : 20 < 1920)
theorem names_ok {C : Nat → Ct} {cs : Nat → D} {f1 f2 : Nat} (e1 : C f1 = ask cOne) (e2 : C f2 = ask cPick) (ds : List D) (h : DH) (Q : DK) (E : XD) (c : cNames ds h Q E) : xS cs C E (q_law_names f1 f2) { nx := fun _ h' => Q .non h', rt := Q } (dstart 8 ds) h := by
  obtain ⟨p, g, many, t, taken, rfl, P, ht, hm, n1, n2, k⟩ := c
  unfold q_law_names
  walk_at "g"
  intro r hr
  walk_at "g"
  obtain ⟨m1, m2⟩ := P.nep hr
  have ntr : t ≠ r := ne_new hr ht
  refine rng1 many (by omega) (by omega) ?_
  refine for_3 6 7 5 (fun i _ _ _ h' => ∃ told : List Str, told.length = i ∧ told.Nodup ∧ (∀ x ∈ told, x ∉ taken ∧ x.length ≤ 8 ∧ PyData.strOk x = true) ∧ PoolAt h' p g ∧ FrP p g h h' ∧ h' r = some (.lst (told.map D.str))) ⟨[], rfl, List.nodup_nil, (fun _ hx => by cases hx), P.new hr, .new hr, updD_same⟩ (fun _ _ _ _ _ _ _ => trivial) ?_ ?_
  · rintro i x c1 c2 c3 h1 hi ⟨told, hl, nd, ht', P1, f1', hr1⟩
    obtain ⟨rfl, him⟩ := rangeD_get hi
    have ht1 : h1 t = some (.lst (taken.map D.str)) := f1' _ _ n1 n2 ht
    unfold q_law_names_b6
    walk_at "g"
    refine pick_i e2 P1 (by decide) (by decide) fun j h2 a b P2 fr2 => ?_
    walk_at "g"
    refine sgn_at a b (by decide) fun ch hch => ?_
    walk_at "g"
    intro u hu
    walk_at "g"
    refine one_n (xs := [0, 0, 1, 1, 2, 3, 4, 5, 6, 7]) (F := D.int) e1 P2 hu rfl (by simp) (by simp) fun len h3 hlen P3 f3 => ?_
    have bl : 0 ≤ len ∧ len ≤ 7 := by simp at hlen; omega
    walk_at "g"
    refine rng1 len.toNat rfl (by omega) ?_
    have hr3 : h3 r = some (.lst (told.map D.str)) := f3 _ _ m1 m2 (fr2 _ _ m1 m2 hr1)
    have ht3 : h3 t = some (.lst (taken.map D.str)) := f3 _ _ n1 n2 (fr2 _ _ n1 n2 ht1)
    have f03 : FrP p g h h3 := (f1'.trans fr2).trans f3
    refine for_2 6 7 (fun j c6 _ h' => ∃ tx : Str, c6 = some (.str tx) ∧ 1 ≤ tx.length ∧ tx.length ≤ 1 + j ∧ PoolAt h' p g ∧ FrP p g h3 h' ∧ PyData.strOk tx = true) ⟨_, rfl, Nat.le_refl 1, Nat.le_refl 1, P3, .refl _ _ _, ok_one hch⟩ (fun _ _ _ _ _ _ => trivial) ?_ ?_
    · rintro j x c6 c7 h4 hj ⟨tx, rfl, l1, l2, P4, f4, otx⟩
      obtain ⟨rfl, hjl⟩ := rangeD_get hj
      unfold q_law_names_b5
      walk_at "g"
      refine pick_i e2 P4 (by decide) (by decide) fun j2 h5 a5 b5 P5 f5 => ?_
      walk_at "g"
      refine sgn_at a5 b5 (by decide) fun ch2 hch2 => ?_
      have el : (tx ++ (⟨#[ch2]⟩ : Str)).length = tx.length + 1 := by rw [str_len, str_add, List.length_append, ← str_len]; rfl
      refine ⟨szle (by show tx.length + 1 ≤ _; omega), ?_⟩
      walk_at "g"
      exact ⟨_, _, rfl, _, rfl, by rw [el]; omega, by rw [el]; omega, P5, f4.trans f5, ok_add otx (ok_one hch2)⟩
    · rintro c6 c7 h4 ⟨tx, rfl, l1, l2, P4, f4, otx⟩
      rw [rangeD_len] at l2
      have l8 : tx.length ≤ 8 := by omega
      have hr4 := f4 _ _ m1 m2 hr3
      have ht4 := f4 _ _ n1 n2 ht3
      have fin : ∀ (z : Str) (c7 : Option D) (N : DEnds), z ∉ taken → z ∉ told → z.length ≤ 8 → (∀ h', h' = updD h4 r (.lst ((told ++ [z]).map D.str)) → N.nx [some (.ref p), some (.int many), some (.ref t), some (.str "abcdefghijklmnopqrstuvwxyz0123456789"), some (.ref r), some (.int (0 + (i : Int))), some (.str z), c7] h') →
          xS cs C E (q_law_names_r1 f1 f2) N [some (.ref p), some (.int many), some (.ref t), some (.str "abcdefghijklmnopqrstuvwxyz0123456789"), some (.ref r), some (.int (0 + (i : Int))), some (.str z), c7] h4 := by
        intro z c7 N z1 z2 z3 kN
        unfold q_law_names_r1
        walk_at "g"
        exact kN _ (by rw [List.map_append]; rfl)
      have done : ∀ (z : Str) (h' : DH), z ∉ taken → z ∉ told → z.length ≤ 8 → PyData.strOk z = true → h' = updD h4 r (.lst ((told ++ [z]).map D.str)) → ∃ told' : List Str, told'.length = i + 1 ∧ told'.Nodup ∧ (∀ x ∈ told', x ∉ taken ∧ x.length ≤ 8 ∧ PyData.strOk x = true) ∧ PoolAt h' p g ∧ FrP p g h h' ∧ h' r = some (.lst (told'.map D.str)) := by
        rintro z h' z1 z2 z3 z4 rfl
        refine ⟨told ++ [z], by simp [hl], List.nodup_append.2 ⟨nd, by simp, fun a ha b hb e => ?_⟩, fun y hy => ?_, P4.set m1 m2, (f03.trans f4).write hr, updD_same⟩
        · rw [List.mem_singleton.1 hb] at e; exact z2 (e ▸ ha)
        · rcases List.mem_append.1 hy with hy | hy
          · exact ht' y hy
          · rw [List.mem_singleton.1 hy]; exact ⟨z1, z3, z4⟩
      unfold q_law_names_r4
      walk_at "g"
      refine rng1 90 rfl (by omega) ?_
      have tl := tryT_len (i := i) l1 l8 (by omega)
      refine for_2 6 7 (fun j c6 _ h' => c6 = some (.str (tryT tx i j)) ∧ h' = h4 ∧ ∀ a, a < j → tryT tx i a ∈ taken ++ told) ⟨rfl, rfl, fun a ha => absurd ha (Nat.not_lt_zero _)⟩ (fun _ _ _ _ _ _ => trivial) ?_ ?_
      · rintro j x c6 c7 h5 hj ⟨rfl, rfl, hall⟩
        obtain ⟨rfl, hj90⟩ := rangeD_get hj
        have lj := (tl j (by omega)).1
        have next : ∀ (N : DEnds), (∀ c7 h', h' = h5 → tryT tx i j ∈ taken ++ told → N.nx [some (.ref p), some (.int many), some (.ref t), some (.str "abcdefghijklmnopqrstuvwxyz0123456789"), some (.ref r), some (.int (0 + (i : Int))), some (.str (tryT tx i (j + 1))), c7] h') → tryT tx i j ∈ taken ++ told →
            xS cs C E (q_law_names_r2 f1 f2) N [some (.ref p), some (.int many), some (.ref t), some (.str "abcdefghijklmnopqrstuvwxyz0123456789"), some (.ref r), some (.int (0 + (i : Int))), some (.str (tryT tx i j)), some (.int (0 + (j : Int)))] h5 := by
          intro N kN hin
          unfold q_law_names_r2
          walk_at "g"
          have en : (100 : Int) + 90 * (0 + (i : Int)) + (0 + (j : Int)) = ((100 + 90 * i + j : Nat) : Int) := by omega
          have lc : (cutS (tryT tx i j) none (some 4)).length ≤ 4 := by rw [str_len, str_cut4, List.length_take]; omega
          have ln : (Str.ofString (toString ((100 + 90 * i + j : Nat) : Int))).length ≤ 4 := by rw [str_len, num_cps, List.length_map]; exact num_len (by omega)
          refine ⟨szle (by omega), ?_⟩
          walk_at "g"
          rw [en]
          refine ⟨lgB_small (by omega), ?_⟩
          walk_at "g"
          refine ⟨szle (by omega), ?_⟩
          walk_at "g"
          exact kN _ _ rfl hin
        unfold q_law_names_b3
        walk_at "g"
        show inR (.str (tryT tx i j)) t h5 _
        refine in_strs ht4 ?_
        walk_at "g"
        refine iteN (fun o1 => ?_) (fun o1 => ?_)
        · walk_at "g"
          show inR (.str (tryT tx i j)) r h5 _
          refine in_strs hr4 ?_
          walk_at "g"
          refine iteN (fun o2 => ?_) (fun o2 => ?_)
          · walk_at "g"
            show xS cs C E (q_law_names_r1 f1 f2) _ _ _
            exact fin _ _ _ o1 o2 lj.2 fun h' e => ⟨_, _, _, rfl, done _ _ o1 o2 lj.2 (tryT_ok otx i j) e⟩
          · walk_at "g"
            show xS cs C E (q_law_names_r2 f1 f2) _ _ _
            refine next _ (fun c7 h' e hin => ⟨_, _, rfl, rfl, e, fun a ha => ?_⟩) (List.mem_append_right _ o2)
            rcases Nat.lt_succ_iff_lt_or_eq.1 ha with ha | rfl
            · exact hall a ha
            · exact hin
        · walk_at "g"
          show xS cs C E (q_law_names_r2 f1 f2) _ _ _
          refine next _ (fun c7 h' e hin => ⟨_, _, rfl, rfl, e, fun a ha => ?_⟩) (List.mem_append_left _ o1)
          rcases Nat.lt_succ_iff_lt_or_eq.1 ha with ha | rfl
          · exact hall a ha
          · exact hin
      · rintro c6 c7 h5 ⟨rfl, rfl, hall⟩
        exact absurd (tryT_some (t0 := tx) (i := i) l1 l8 (by omega) (A := taken ++ told) (by simp; omega) (by rw [rangeD_len] at hall; exact hall)) (fun e => e)
  · rintro c1 c2 c3 h1 ⟨told, hl, nd, ht', P1, f1', hr1⟩
    unfold q_law_names_r0
    walk_at "g"
    rw [rangeD_len] at hl
    exact k told r h1 hl nd ht' P1 f1' hr hr1
end DL
namespace DL
/-! ### points, rows -/
/-- a point: a letter and a name -/
structure Pt where
  a : Str
  n : Str
  ok : PyData.strOk a = true ∧ PyData.strOk n = true
  deriving DecidableEq
theorem Pt.ext' {p q : Pt} (h1 : p.a = q.a) (h2 : p.n = q.n) : p = q := by cases p; cases q; simp only [Pt.mk.injEq]; exact ⟨h1, h2⟩
abbrev Con := Pt × Pt × Int
def eP (p : Pt) : D := .tup [.str p.a, .str p.n]
def eR (r : Con) : D := .tup [eP r.1, eP r.2.1, .int r.2.2]
def org : Pt := ⟨"o", "", by decide +kernel⟩
def dP (p : Pt) : PyData := .tuple [.str p.a, .str p.n]
def dR (r : Con) : PyData := .tuple [dP r.1, dP r.2.1, .int r.2.2]
theorem eP_inj : KInj eP := fun a b e => by
  simp only [eP, nkey, nkeys, Option.map_some, Option.some.injEq, NestedKey.tup.injEq, List.cons.injEq, NestedKey.text.injEq, and_true] at e
  exact Pt.ext' e.1 e.2
theorem eP_key {p : Pt} : keyB true (eP p) = true := by
  simp [eP, keyB, nkeys, nkey, NestedKey.depthAll, NestedKey.depth]
theorem pdP (h : DH) (p : Pt) : PD h (eP p) (dP p) := .tup (.cons (.str _) (.cons (.str _) .nil))
theorem pdR (h : DH) (r : Con) : PD h (eR r) (dR r) := .tup (.cons (pdP h _) (.cons (pdP h _) (.cons (.int _) .nil)))
theorem eqvP (a b : Pt) : PyData.eqv (dP a) (dP b) = decide (a = b) := by
  obtain ⟨a1, a2, a3⟩ := a; obtain ⟨b1, b2, b3⟩ := b
  simp only [dP, PyData.eqv, PyData.eqvAll, Bool.and_true, Pt.mk.injEq]
  by_cases h1 : a1 = b1 <;> by_cases h2 : a2 = b2 <;> simp [h1, h2]
theorem eqvR (a b : Con) : PyData.eqv (dR a) (dR b) = decide (a = b) := by
  obtain ⟨a1, a2, a3⟩ := a; obtain ⟨b1, b2, b3⟩ := b
  simp only [dR, PyData.eqv, PyData.eqvAll, Bool.and_true, eqvP]
  by_cases h1 : a1 = b1 <;> by_cases h2 : a2 = b2 <;> by_cases h3 : a3 = b3 <;> simp [h1, h2, h3]
theorem shP (a : Pt) : SeqAt.shaped (dP a) = true := by
  simp [dP, SeqAt.shaped, PyData.canLay0, PyData.canLayAll0, PyData.depth, PyData.depthAll, a.ok]
theorem shR (a : Con) : SeqAt.shaped (dR a) = true := by
  simp [dR, dP, SeqAt.shaped, PyData.canLay0, PyData.canLayAll0, PyData.depth, PyData.depthAll, a.1.ok, a.2.1.ok]
/-- a list of such -/
structure Dat (α : Type) where
  e : α → D
  d : α → PyData
  pd : ∀ h x, PD h (e x) (d x)
  lay : ∀ x, PyData.canLay0 (d x) = true
  dep : ∀ x, (d x).depth ≤ 3
section
variable {α : Type} (F : Dat α)
theorem Dat.pds (h : DH) : ∀ xs : List α, PDs h (xs.map F.e) (xs.map F.d)
  | [] => .nil
  | x :: xs => .cons (F.pd h x) (Dat.pds h xs)
theorem Dat.lays : ∀ xs : List α, PyData.canLayAll0 (xs.map F.d) = true
  | [] => by simp [PyData.canLayAll0]
  | x :: xs => by simp [PyData.canLayAll0, F.lay x, Dat.lays xs]
theorem Dat.deps : ∀ xs : List α, PyData.depthAll (xs.map F.d) ≤ 4
  | [] => by simp [PyData.depthAll]
  | x :: xs => by
    have h1 := F.dep x; have h2 := Dat.deps xs
    simp only [List.map_cons, PyData.depthAll]
    omega
theorem Dat.shl (xs : List α) : SeqAt.shaped (.list (xs.map F.d)) = true := by
  unfold SeqAt.shaped
  rw [Bool.and_eq_true_iff]
  refine ⟨by simp only [PyData.canLay0]; exact F.lays xs, decide_eq_true ?_⟩
  simp only [PyData.depth]
  exact Nat.le_trans (Nat.add_le_add_right (F.deps xs) 1) (by decide)
theorem Dat.sht (xs : List α) : SeqAt.shaped (.tuple (xs.map F.d)) = true := by
  unfold SeqAt.shaped
  rw [Bool.and_eq_true_iff]
  refine ⟨by simp only [PyData.canLay0]; exact F.lays xs, decide_eq_true ?_⟩
  simp only [PyData.depth]
  exact Nat.le_trans (Nat.add_le_add_right (F.deps xs) 1) (by decide)
theorem Dat.sh (x : α) : SeqAt.shaped (F.d x) = true := by
  unfold SeqAt.shaped
  rw [Bool.and_eq_true_iff]
  exact ⟨F.lay x, decide_eq_true (Nat.le_trans (F.dep x) (by decide))⟩
end
def fP : Dat Pt := ⟨eP, dP, pdP, fun a => by simp [dP, PyData.canLay0, PyData.canLayAll0, a.ok], fun a => by simp [dP, PyData.depth, PyData.depthAll]⟩
def fR : Dat Con := ⟨eR, dR, pdR, fun a => by simp [dR, dP, PyData.canLay0, PyData.canLayAll0, a.1.ok, a.2.1.ok], fun a => by simp [dR, dP, PyData.depth, PyData.depthAll]⟩
theorem any_pt {x : Pt} : ∀ {xs : List Pt}, ((xs.map dP).any fun z => PyData.eqv z (dP x)) = decide (x ∈ xs)
  | [] => rfl
  | y :: xs => by
    rw [List.map_cons, List.any_cons, any_pt, eqvP]
    by_cases h : y = x
    · subst h; simp
    · have h' : ¬ x = y := fun e => h e.symm
      simp [h, h']
theorem any_row {x : Con} : ∀ {xs : List Con}, ((xs.map dR).any fun z => PyData.eqv z (dR x)) = decide (x ∈ xs)
  | [] => rfl
  | y :: xs => by
    rw [List.map_cons, List.any_cons, any_row, eqvR]
    by_cases h : y = x
    · subst h; simp
    · have h' : ¬ x = y := fun e => h e.symm
      simp [h, h']
section
variable {h : DH} {t : Addr} {k : Bool → Prop}
theorem in_pts {xs : List Pt} {x : Pt} (l : LR h t (xs.map eP)) (q : k (decide (x ∈ xs))) : inR (eP x) t h k := by
  unfold inR
  refine .inl ⟨_, l, .inr ⟨dP x, xs.map dP, pdP h x, fP.pds h xs, shP x, fP.shl xs, ?_⟩⟩
  rw [any_pt]; exact q
theorem in_rows {xs : List Con} {x : Con} (l : LR h t (xs.map eR)) (q : k (decide (x ∈ xs))) : inR (eR x) t h k := by
  unfold inR
  refine .inl ⟨_, l, .inr ⟨dR x, xs.map dR, pdR h x, fR.pds h xs, shR x, fR.shl xs, ?_⟩⟩
  rw [any_row]; exact q
theorem eqvL {α : Type} [DecidableEq α] {d : α → PyData} (hd : ∀ a b, PyData.eqv (d a) (d b) = decide (a = b)) : ∀ xs ys : List α, PyData.eqvAll (xs.map d) (ys.map d) = decide (xs = ys)
  | [], [] => by simp [PyData.eqvAll]
  | [], _ :: _ => by simp [PyData.eqvAll]
  | _ :: _, [] => by simp [PyData.eqvAll]
  | n :: ns, m :: ms => by
    simp only [List.map_cons, PyData.eqvAll, hd, eqvL hd ns ms]
    by_cases h : n = m <;> by_cases h2 : ns = ms <;> simp [h, h2]
/-- == of two lists of such -/
theorem eq_lists {α : Type} [DecidableEq α] (F : Dat α) (hd : ∀ a b, PyData.eqv (F.d a) (F.d b) = decide (a = b)) {p q : Addr} {xs ys : List α} (a : LR h p (xs.map F.e)) (b : LR h q (ys.map F.e)) (r : k (decide (xs = ys))) : eqR p q h k :=
  eqR_l ⟨_, _, .lst a (F.pds h xs), .lst b (F.pds h ys), F.shl _, F.shl _, by simp only [PyData.eqv, eqvL hd]; exact r⟩
theorem ne_pts {p q : Addr} {xs ys : List Pt} (a : LR h p (xs.map eP)) (b : LR h q (ys.map eP)) (r : k (!decide (xs = ys))) : cmpD .NotEq (.ref p) (.ref q) h k := eq_lists (k := fun b => k (!b)) fP eqvP a b r
theorem ne_rows {p q : Addr} {xs ys : List Con} (a : LR h p (xs.map eR)) (b : LR h q (ys.map eR)) (r : k (!decide (xs = ys))) : cmpD .NotEq (.ref p) (.ref q) h k := eq_lists (k := fun b => k (!b)) fR eqvR a b r
theorem eq_pt {a b : Pt} (r : k (decide (a = b))) : cmpD .Eq (eP a) (eP b) h k := ⟨dP a, dP b, pdP h a, pdP h b, shP a, shP b, by rw [eqvP]; exact r⟩
theorem ne_pt {a b : Pt} (r : k (!decide (a = b))) : cmpD .NotEq (eP a) (eP b) h k := ⟨dP a, dP b, pdP h a, pdP h b, shP a, shP b, by rw [eqvP]; exact r⟩
end
/-! ### dicts of points -/
abbrev dY (m : List (Pt × Int)) (o : Obj) : DO := .dct true (encM eP D.int m) o
abbrev dQ (m : List (Pt × Con)) (o : Obj) : DO := .dct true (encM eP eR m) o
section
variable {ν : Type} {ev : ν → D} {h : DH} {p : Addr} {m : List (Pt × ν)} {o : Obj} {x : Pt} {Q : DK}
theorem sub_m {v : ν} (l : h p = some (.dct true (encM eP ev m) o)) (e : alook m x = some v) (q : Q (ev v) h) : subD (.ref p) (eP x) h Q := sub_d l eP_key (by rw [dget_enc eP_inj, e]; rfl) q
theorem in_m {k : Bool → Prop} (l : h p = some (.dct true (encM eP ev m) o)) (q : k (decide (x ∈ m.map (·.1)))) : inR (eP x) p h k := by
  refine in_d l eP_key ?_
  rw [dget_enc eP_inj, Option.isSome_map]
  have : (alook m x).isSome = decide (x ∈ m.map (·.1)) := by
    by_cases hx : x ∈ m.map (·.1)
    · rw [alook_some.2 hx, decide_eq_true hx]
    · rw [decide_eq_false hx, alook_none.2 hx]; rfl
  rw [this]; exact q
theorem put_m {v : ν} {Q : DH → Prop} (l : h p = some (.dct true (encM eP ev m) o)) (z : m.length ≤ 1000000) (q : ∀ o', Q (updD h p (.dct true (encM eP ev (aput m x v)) o'))) : setD (.ref p) (eP x) (ev v) h Q := by
  show setR p (eP x) (ev v) h Q
  refine set_d l eP_key (by rw [encM_len]; exact szl z) fun o' => ?_
  rw [dput_enc eP_inj]; exact q o'
end
end DL
namespace DL
instance : Inhabited Pt := ⟨org⟩
def letters : List Str := ["b", "e", "m", "f", "l"]
theorem letters_ok : ∀ x ∈ letters, PyData.strOk x = true ∧ x ≠ ("o" : Str) := by decide +kernel
theorem alook_fn {α ν : Type} [DecidableEq α] {y : α → ν} {xs : List α} {x : α} (h : x ∈ xs) : alook (xs.map fun x => (x, y x)) x = some (y x) := by
  induction xs with
  | nil => cases h
  | cons z xs ih =>
    rw [List.map_cons, alook_cons]
    by_cases e : z = x
    · subst e; simp
    · simp only [e, if_false]; exact ih (by rcases List.mem_cons.1 h with rfl | h
                                            · exact absurd rfl e
                                            · exact h)
theorem fn_keys {α ν : Type} {y : α → ν} {xs : List α} : (xs.map fun x => (x, y x)).map (·.1) = xs := by rw [List.map_map]; simp [Function.comp_def]
def cPoints : Ct := fun ds h Q _ => ∃ (p g : Addr) (many : Nat), ds = [.ref p, .int many] ∧ PoolAt h p g ∧ many ≤ 80 ∧
  ∀ (pts : List Pt) (r : Addr) (h' : DH), pts.length = many → pts.Nodup → (∀ x ∈ pts, x.a ≠ ("o" : Str)) → PoolAt h' p g → FrP p g h h' → h r = none → h' r = some (.lst (pts.map eP)) → Q (.ref r) h'
theorem points_ok {C : Nat → Ct} {cs : Nat → D} {f0 f1 f2 : Nat} (e0 : C f0 = ask cNames) (e1 : C f1 = ask cOne) (e2 : C f2 = ask cPick) (ds : List D) (h : DH) (Q : DK) (E : XD) (c : cPoints ds h Q E) : xS cs C E (q_law_points f0 f1 f2) { nx := fun _ h' => Q .non h', rt := Q } (dstart 6 ds) h := by
  obtain ⟨p, g, many, rfl, P, hm, k⟩ := c
  unfold q_law_points
  walk_at "g"
  intro u hu
  walk_at "g"
  refine ask_of e0 ⟨p, g, many, u, [], rfl, P.new hu, updD_same, by simp; omega, (P.nep hu).1, (P.nep hu).2, fun texts t h1 tl tn tok P1 fr1 ht ht1 => ?_⟩
  have fr1 : FrP p g h h1 := (FrP.new hu).trans fr1
  have t0 : h t = none := (Sm.new hu).free ht
  obtain ⟨nt1, nt2⟩ := P.nep t0
  walk_at "g"
  intro r hr
  walk_at "g"
  obtain ⟨nr1, nr2⟩ := P1.nep hr
  have r0 : h r = none := fr1.free P1 hr
  refine rng1 many (by omega) (by omega) ?_
  refine for_2 4 5 (fun i _ _ h' => ∃ pts : List Pt, pts.length = i ∧ pts.Nodup ∧ (∀ x ∈ pts, x.a ≠ ("o" : Str) ∧ x.n ∈ texts.take i) ∧ PoolAt h' p g ∧ FrP p g h1 h' ∧ h' r = some (.lst (pts.map eP))) ⟨[], rfl, List.nodup_nil, (fun _ hx => by cases hx), P1.new hr, .new hr, updD_same⟩ (fun _ _ _ _ _ _ => trivial) ?_ ?_
  · rintro i x c4 c5 h2 hi ⟨pts, hl, nd, hp, P2, fr2, hr2⟩
    obtain ⟨rfl, him⟩ := rangeD_get hi
    have hit : i < texts.length := by omega
    have ht2 : h2 t = some (.lst (texts.map D.str)) := fr2 _ _ nt1 nt2 ht1
    unfold q_law_points_b2
    walk_at "g"
    intro v hv
    walk_at "g"
    refine one_n (xs := letters) (F := D.str) e1 P2 hv rfl (by decide) (by decide) fun l h3 hlt P3 fr3 => ?_
    walk_at "g"
    refine pick_i e2 P3 (by omega) (by have : (2:Nat) ^ 200 > 100000 := by decide
                                       omega) fun j h4 a b P4 fr4 => ?_
    have ht4 : h4 t = some (.lst (texts.map D.str)) := fr4 _ _ nt1 nt2 (fr3 _ _ nt1 nt2 ht2)
    have hr4 : h4 r = some (.lst (pts.map eP)) := fr4 _ _ nr1 nr2 (fr3 _ _ nr1 nr2 hr2)
    walk_at "g"
    have lok := letters_ok l hlt
    have mem : ∀ j : Int, 0 ≤ j → j < texts.length → At texts j ∈ texts := fun j a b => At_mem a b
    have jb : j < texts.length := by omega
    have fr14 : FrP p g h1 h4 := (fr2.trans fr3).trans fr4
    -- the point that is put in
    have fin : ∀ (z : Pt) (N : DEnds), z ∉ pts → z.a ≠ ("o" : Str) → z.n ∈ texts.take (i + 1) → (∀ h', (∃ pts : List Pt, pts.length = i + 1 ∧ pts.Nodup ∧ (∀ x ∈ pts, x.a ≠ ("o" : Str) ∧ x.n ∈ texts.take (i + 1)) ∧ PoolAt h' p g ∧ FrP p g h1 h' ∧ h' r = some (.lst (pts.map eP))) → N.nx [some (.ref p), some (.int many), some (.ref t), some (.ref r), some (.int (0 + (i : Int))), some (eP z)] h') →
        xS cs C E (q_law_points_r1 f0 f1 f2) N [some (.ref p), some (.int many), some (.ref t), some (.ref r), some (.int (0 + (i : Int))), some (eP z)] h4 := by
      intro z N z1 z2 z3 kN
      unfold q_law_points_r1
      walk_at "g"
      refine kN _ ⟨pts ++ [z], by simp [hl], List.nodup_append.2 ⟨nd, by simp, fun a ha b hb e => ?_⟩, fun y hy => ?_, P4.set nr1 nr2, fr14.write hr, by rw [updD_same, List.map_append]; rfl⟩
      · rw [List.mem_singleton.1 hb] at e; exact z1 (e ▸ ha)
      · rcases List.mem_append.1 hy with hy | hy
        · exact ⟨(hp y hy).1, List.mem_of_mem_take (i := i) (by rw [List.take_take, Nat.min_eq_left (Nat.le_succ i)]; exact (hp y hy).2)⟩
        · rw [List.mem_singleton.1 hy]; exact ⟨z2, z3⟩
    have ok1 := (tok _ (mem j a jb)).2.2
    have ok2 := (tok _ (mem (0 + (i : Int)) (by omega) (by omega))).2.2
    have in1 : At texts j ∈ texts.take (i + 1) := by
      have := get_At a jb
      refine List.mem_of_getElem? (i := j.toNat) ?_
      rw [List.getElem?_take, if_pos (by omega)]; exact this
    have in2 : At texts (0 + (i : Int)) ∈ texts.take (i + 1) := by
      have := get_At (xs := texts) (k := 0 + (i : Int)) (by omega) (by omega)
      refine List.mem_of_getElem? (i := (0 + (i : Int)).toNat) ?_
      rw [List.getElem?_take, if_pos (by omega)]; exact this
    show inR (eP ⟨l, At texts j, lok.1, ok1⟩) r h4 _
    refine in_pts hr4 ?_
    walk_at "g"
    refine iteD (fun o1 => ?_) (fun o1 => ?_)
    · walk_at "g"
      show xS cs C E (q_law_points_r1 f0 f1 f2) _ _ _
      refine fin ⟨l, At texts (0 + (i : Int)), lok.1, ok2⟩ _ (fun hin => ?_) lok.2 in2 fun h' e => ⟨_, _, rfl, e⟩
      have h1 := (hp _ hin).2
      obtain ⟨q, hq, e⟩ := List.getElem_of_mem h1
      rw [List.length_take] at hq
      rw [List.getElem_take] at e
      have h2 := get_At (xs := texts) (k := 0 + (i : Int)) (by omega) (by omega)
      obtain ⟨hz, ez⟩ := List.getElem?_eq_some_iff.1 h2
      have := (List.getElem_inj (h₀ := by omega) (h₁ := hz) tn).1 (e.trans ez.symm)
      omega
    · walk_at "g"
      show xS cs C E (q_law_points_r1 f0 f1 f2) _ _ _
      exact fin ⟨l, At texts j, lok.1, ok1⟩ _ o1 lok.2 in1 fun h' e => ⟨_, _, rfl, e⟩
  · rintro c4 c5 h2 ⟨pts, hl, nd, hp, P2, fr2, hr2⟩
    unfold q_law_points_r0
    walk_at "g"
    rw [rangeD_len] at hl
    exact k pts r h2 hl nd (fun x hx => (hp x hx).1) P2 (fr1.trans fr2) r0 hr2

/-- years of the origin and the points -/
abbrev yM (y : Pt → Int) (pts : List Pt) : List (Pt × Int) := (org :: pts).map fun x => (x, y x)
def YOk (y : Pt → Int) (pts : List Pt) : Prop := y org = 0 ∧ ∀ x ∈ pts, 0 ≤ y x ∧ y x ≤ 4000
def cDated : Ct := fun ds h Q _ => ∃ (p g t : Addr) (pts : List Pt), ds = [.ref p, .ref t] ∧ PoolAt h p g ∧ h t = some (.lst (pts.map eP)) ∧ t ≠ p ∧ t ≠ g ∧ pts.Nodup ∧ org ∉ pts ∧ pts.length ≤ 100 ∧
  ∀ (y : Pt → Int) (r : Addr) (o : Obj) (h' : DH), YOk y pts → PoolAt h' p g → FrP p g h h' → h r = none → h' r = some (dY (yM y pts) o) → Q (.ref r) h'
theorem dated_ok {C : Nat → Ct} {cs : Nat → D} {f2 : Nat} (e2 : C f2 = ask cPick) (ds : List D) (h : DH) (Q : DK) (E : XD) (c : cDated ds h Q E) : xS cs C E (q_law_dated f2) { nx := fun _ h' => Q .non h', rt := Q } (dstart 6 ds) h := by
  obtain ⟨p, g, t, pts, rfl, P, ht, n1, n2, nd, no, hl, k⟩ := c
  unfold q_law_dated
  walk_at "g"
  refine pick_i e2 P (by decide) (by decide) fun w h1 wa wb P1 fr1 => ?_
  have ht1 := fr1 _ _ n1 n2 ht
  -- from the way on
  have rest : ∀ (w : Int) (N : DEnds), N.rt = Q → xS cs C E (q_law_dated_r6 f2) N [some (.ref p), some (.ref t), some (.int w), none, none, none] h1 := by
    intro w N hN
    unfold q_law_dated_r6
    walk_at "g"
    intro r o hr
    walk_at "g"
    obtain ⟨nr1, nr2⟩ := P1.nep hr
    refine ⟨o, updD_same, eP_key (p := org), fun o1 => ?_⟩
    walk_at "g"
    have st : FrP p g h1 (updD (updD h1 r (.dct true [] o)) r (.dct true [(eP org, .int 0)] o1)) := (FrP.new hr).write hr
    have Pn : PoolAt (updD (updD h1 r (.dct true [] o)) r (.dct true [(eP org, .int 0)] o1)) p g := (P1.new hr).set nr1 nr2
    refine for_2 4 5 (fun i c4 _ h' => ∃ (low : Int) (y : Pt → Int) (o : Obj), c4 = some (.int low) ∧ (0 ≤ low ∧ low ≤ 4000) ∧ YOk y pts ∧ h' r = some (dY (yM y (pts.take i)) o) ∧ PoolAt h' p g ∧ FrP p g h1 h')
      ⟨0, fun _ => 0, o1, rfl, by omega, ⟨rfl, fun _ _ => ⟨Int.le_refl 0, (by decide : (0 : Int) ≤ 4000)⟩⟩, updD_same, Pn, st⟩ (fun i _ _ h' _ ⟨_, _, _, _, _, _, _, P', f'⟩ => f'.get P1 ht1 n1 n2) ?_ ?_
    · rintro i x c4 c5 h2 hi ⟨low, y, o2, rfl, lb, yok, hr2, P2, fr2⟩
      obtain ⟨z, hz, rfl⟩ := get_map hi
      have zm : z ∈ pts := List.mem_of_getElem? hz
      -- stored
      have fin : ∀ (low : Int) (h3 : DH) (N : DEnds), 0 ≤ low ∧ low ≤ 4000 → PoolAt h3 p g → FrP p g h2 h3 → (∀ h', (∃ (low' : Int) (y : Pt → Int) (o : Obj), some (D.int low) = some (.int low') ∧ (0 ≤ low' ∧ low' ≤ 4000) ∧ YOk y pts ∧ h' r = some (dY (yM y (pts.take (i + 1))) o) ∧ PoolAt h' p g ∧ FrP p g h1 h') → N.nx [some (.ref p), some (.ref t), some (.int w), some (.ref r), some (.int low), some (eP z)] h') →
          xS cs C E (q_law_dated_r1 f2) N [some (.ref p), some (.ref t), some (.int w), some (.ref r), some (.int low), some (eP z)] h3 := by
        intro low h3 N lb P3 fr3 kN
        have hr3 := fr3 _ _ nr1 nr2 hr2
        unfold q_law_dated_r1
        walk_at "g"
        refine put_m (ev := D.int) hr3 (by simp; omega) fun o3 => ?_
        refine kN _ ⟨low, fun x => if x = z then low else y x, o3, rfl, lb, ⟨?_, fun x hx => ?_⟩, ?_, P3.set nr1 nr2, (fr2.trans fr3).write hr⟩
        · have : ¬ org = z := fun e => no (e ▸ zm)
          simp only [this, if_false]; exact yok.1
        · by_cases e : x = z
          · simp only [e, if_true]; exact lb
          · simp only [e, if_false]; exact yok.2 x hx
        · rw [updD_same]
          have hin : z ∉ org :: pts.take i := fun hm => by
            rcases List.mem_cons.1 hm with e | hm
            · exact no (e ▸ zm)
            · obtain ⟨q, hq, e⟩ := List.getElem_of_mem hm
              rw [List.length_take] at hq
              rw [List.getElem_take] at e
              obtain ⟨hz1, hz2⟩ := List.getElem?_eq_some_iff.1 hz
              have := (List.getElem_inj (h₀ := by omega) (h₁ := hz1) nd).1 (e.trans hz2.symm)
              omega
          have e1 : alook (yM y (pts.take i)) z = none := alook_none.2 (by rw [fn_keys]; exact hin)
          have e2 : yM (fun x => if x = z then low else y x) (pts.take (i + 1)) = aput (yM y (pts.take i)) z low := by
            rw [aput_new e1, yM, take_at hz, ← List.cons_append, List.map_append]
            congr 1
            · refine List.map_congr_left fun x hx => ?_
              have : ¬ x = z := fun e => hin (e ▸ hx)
              simp [this]
            · simp
          rw [e2]
      have r2 : ∀ (low : Int) (h3 : DH) (N : DEnds), 0 ≤ low ∧ low ≤ 4000 → PoolAt h3 p g → FrP p g h2 h3 → (∀ low h', (∃ (low' : Int) (y : Pt → Int) (o : Obj), some (D.int low) = some (.int low') ∧ (0 ≤ low' ∧ low' ≤ 4000) ∧ YOk y pts ∧ h' r = some (dY (yM y (pts.take (i + 1))) o) ∧ PoolAt h' p g ∧ FrP p g h1 h') → N.nx [some (.ref p), some (.ref t), some (.int w), some (.ref r), some (.int low), some (eP z)] h') →
          xS cs C E (q_law_dated_r2 f2) N [some (.ref p), some (.ref t), some (.int w), some (.ref r), some (.int low), some (eP z)] h3 := by
        intro low h3 N lb P3 fr3 kN
        unfold q_law_dated_r2
        walk_at "g"
        refine iteD (fun _ => ?_) (fun _ => ?_)
        · walk_at "g"
          refine pick_i e2 P3 (by decide) (by decide) fun j h4 a b P4 fr4 => ?_
          walk_at "g"
          show xS cs C E (q_law_dated_r1 f2) _ _ _
          exact fin _ h4 _ (by omega) P4 (fr3.trans fr4) (kN _)
        · walk_at "g"
          show xS cs C E (q_law_dated_r1 f2) _ _ _
          exact fin _ h3 _ lb P3 fr3 (kN _)
      have r3 : ∀ (low : Int) (h3 : DH) (N : DEnds), 0 ≤ low ∧ low ≤ 4000 → PoolAt h3 p g → FrP p g h2 h3 → (∀ low h', (∃ (low' : Int) (y : Pt → Int) (o : Obj), some (D.int low) = some (.int low') ∧ (0 ≤ low' ∧ low' ≤ 4000) ∧ YOk y pts ∧ h' r = some (dY (yM y (pts.take (i + 1))) o) ∧ PoolAt h' p g ∧ FrP p g h1 h') → N.nx [some (.ref p), some (.ref t), some (.int w), some (.ref r), some (.int low), some (eP z)] h') →
          xS cs C E (q_law_dated_r3 f2) N [some (.ref p), some (.ref t), some (.int w), some (.ref r), some (.int low), some (eP z)] h3 := by
        intro low h3 N lb P3 fr3 kN
        unfold q_law_dated_r3
        walk_at "g"
        refine iteD (fun _ => ?_) (fun _ => ?_)
        · walk_at "g"
          refine pick_i e2 P3 (by decide) (by decide) fun j h4 a b P4 fr4 => ?_
          walk_at "g"
          show xS cs C E (q_law_dated_r2 f2) _ _ _
          exact r2 _ h4 _ (by omega) P4 (fr3.trans fr4) kN
        · walk_at "g"
          show xS cs C E (q_law_dated_r2 f2) _ _ _
          exact r2 _ h3 _ lb P3 fr3 kN
      have r4 : ∀ (low : Int) (h3 : DH) (N : DEnds), 0 ≤ low ∧ low ≤ 4000 → PoolAt h3 p g → FrP p g h2 h3 → (∀ low h', (∃ (low' : Int) (y : Pt → Int) (o : Obj), some (D.int low) = some (.int low') ∧ (0 ≤ low' ∧ low' ≤ 4000) ∧ YOk y pts ∧ h' r = some (dY (yM y (pts.take (i + 1))) o) ∧ PoolAt h' p g ∧ FrP p g h1 h') → N.nx [some (.ref p), some (.ref t), some (.int w), some (.ref r), some (.int low), some (eP z)] h') →
          xS cs C E (q_law_dated_r4 f2) N [some (.ref p), some (.ref t), some (.int w), some (.ref r), some (.int low), some (eP z)] h3 := by
        intro low h3 N lb P3 fr3 kN
        unfold q_law_dated_r4
        walk_at "g"
        refine iteD (fun _ => ?_) (fun _ => ?_)
        · walk_at "g"
          refine pick_i e2 P3 (by decide) (by decide) fun j h4 a b P4 fr4 => ?_
          walk_at "g"
          show xS cs C E (q_law_dated_r3 f2) _ _ _
          exact r3 _ h4 _ (by omega) P4 (fr3.trans fr4) kN
        · walk_at "g"
          show xS cs C E (q_law_dated_r3 f2) _ _ _
          exact r3 _ h3 _ lb P3 fr3 kN
      unfold q_law_dated_b5
      walk_at "g"
      refine iteD (fun _ => ?_) (fun _ => ?_)
      · walk_at "g"
        refine pick_i e2 P2 (by decide) (by decide) fun j h4 a b P4 fr4 => ?_
        walk_at "g"
        show xS cs C E (q_law_dated_r4 f2) _ _ _
        exact r4 _ h4 _ (by omega) P4 fr4 fun low h' e => ⟨_, _, rfl, e⟩
      · walk_at "g"
        show xS cs C E (q_law_dated_r4 f2) _ _ _
        exact r4 _ h2 _ lb P2 (.refl _ _ _) fun low h' e => ⟨_, _, rfl, e⟩
    · rintro c4 c5 h2 ⟨low, y, o2, rfl, lb, yok, hr2, P2, fr2⟩
      rw [List.length_map, List.take_length] at hr2
      unfold q_law_dated_r0
      walk_at "g"
      rw [hN]
      exact k y r o2 h2 yok P2 (fr1.trans fr2) (fr1.free P1 hr) hr2
  walk_at "g"
  refine iteD (fun _ => ?_) (fun _ => ?_)
  · walk_at "g"
    refine iteN (fun _ => ?_) (fun _ => ?_)
    · walk_at "g"
      show xS cs C E (q_law_dated_r6 f2) _ _ _
      exact rest _ _ rfl
    · walk_at "g"
      show xS cs C E (q_law_dated_r6 f2) _ _ _
      exact rest _ _ rfl
  · walk_at "g"
    show xS cs C E (q_law_dated_r6 f2) _ _ _
    exact rest _ _ rfl
end DL
namespace K02
open PySem L2 DL
def top (i : Nat) : Stmt := PySem.Challenge.pw_digstead_k02_cycles.main.body.getD i (.Pass ⟨0, 0, 0, 0⟩)
def T : Tab where
  fn := [("is_cycle", 0), ("total", 1), ("_law_pool", 2), ("_law_pick", 3), ("_law_one", 4), ("_law_names", 5), ("_law_points", 6), ("_law_long", 7), ("_law_gap", 8), ("_law_ring", 9), ("_law_bent", 10), ("_law_free", 11), ("_law_round", 12), ("_law_cycle_right", 13), ("_law_rows_right", 14), ("law", 15)]
  gl := []
  free := ["abs", "bool", "int", "isinstance", "len", "list", "min", "range", "set", "str", "sum", "tuple"]
  ps := fun i => ([["constraints"], ["constraints"], ["script", "salt"], ["pool", "many"], ["pool", "row"], ["pool", "many", "taken"], ["pool", "many"], ["pool"], ["pool"], ["pool", "seq"], ["pool", "rows", "spare"], ["pool", "seq"], ["rows"], ["told", "rows"], ["rows"], ["script"]] : List (List Str)).getD i []
  cs := fun i => ([] : List D).getD i .non
  sh := [(1, 0, ["constraints"], [0]), (0, 0, ["constraints"], [0])]
/-! 0: 0 constraints, 1 heads, 2 tails, 3 constraint -/
abbrev st_is_cycle : Stmt := top 1
def N_is_cycle : List Str := ["constraints", "heads", "tails", "constraint"]
@[irreducible] def ir_is_cycle_r0 : S :=
  (.seq (.asg (.name 1) (.lc (.name 3) .val (.var 0) (.cst (.bl true)) (.sub (.var 3) (.cst (.int 0))) [("constraint", 3)]))
  (.seq (.asg (.name 2) (.lc (.name 3) .val (.var 0) (.cst (.bl true)) (.sub (.var 3) (.cst (.int 1))) [("constraint", 3)]))
  (.seq (.ret (.andV (.cmp .Eq (.var 1) (.bin .Add (.slice true false (.var 2) (.cst (.int 1)) .absent) (.slice false true (.var 2) .absent (.cst (.int 1))))) (.cmp .Eq (.lset (.var 2)) (.blt .len (.cons (.var 2) .nil)))))
  .skip)))
def ir_is_cycle : S :=
  (.seq (.ite (.cmp .Lt (.blt .len (.cons (.var 0) .nil)) (.cst (.int 2))) (.seq (.ret (.cst (.bl false)))
  .skip) .skip)
  ir_is_cycle_r0)
theorem sc_is_cycle : FnScope N_is_cycle ["constraints"] (defScope st_is_cycle) := ⟨rfl, rfl, rfl, by decide +kernel, rfl, by decide +kernel, by decide +kernel⟩
theorem ch_is_cycle : chkS (T.cut 0) ir_is_cycle ⟨N_is_cycle, (defScope st_is_cycle).names⟩ (.b (defBody st_is_cycle)) = true := by decide +kernel
/-! 1: 0 constraints, 1 constraint -/
abbrev st_total : Stmt := top 2
def N_total : List Str := ["constraints", "constraint"]
def ir_total : S :=
  (.seq (.ret (.blt .sum (.cons (.lc (.name 1) .val (.var 0) (.cst (.bl true)) (.sub (.var 1) (.cst (.int 2))) [("constraint", 1)]) .nil)))
  .skip)
theorem sc_total : FnScope N_total ["constraints"] (defScope st_total) := ⟨rfl, rfl, rfl, by decide +kernel, rfl, by decide +kernel, by decide +kernel⟩
theorem ch_total : chkS (T.cut 1) ir_total ⟨N_total, (defScope st_total).names⟩ (.b (defBody st_total)) = true := by decide +kernel
/-! 2: 0 script, 1 salt, 2 great, 3 mixed, 4 i, 5 cell -/
abbrev st_law_pool : Stmt := top 4
def N_law_pool : List Str := ["script", "salt", "great", "mixed", "i", "cell"]
@[irreducible] def ir_law_pool_r0 : S :=
  (.seq (.ret (.lst (.cons (.var 2) (.cons (.var 3) (.cons (.cst (.int 0)) .nil)))))
  .skip)
@[irreducible] def ir_law_pool_r1 : S :=
  (.seq (.asg (.name 3) (.bin .Mod (.blt .int (.cons (.bin .Add (.bin .Add (.bin .Add (.bin .Add (.bin .Mult (.var 3) (.cst (.int 48271))) (.bin .Mult (.bin .Mod (.blt .int (.cons (.var 5) .nil)) (.cst (.int 999983))) (.cst (.int 69621)))) (.bin .Mod (.blt .int (.cons (.bin .FloorDiv (.var 5) (.cst (.int 999983))) .nil)) (.cst (.int 999979)))) (.var 4)) (.cst (.int 1))) .nil)) (.cst (.int 2147483647))))
  .skip)
@[irreducible] def ir_law_pool_b2 : S :=
  (.seq (.asg (.name 5) (.blt .abs (.cons (.blt .int (.cons (.sub (.var 0) (.var 4)) .nil)) .nil)))
  (.seq (.ite (.cmp .GtE (.var 5) (.bin .Pow (.cst (.int 10)) (.cst (.int 18)))) (.seq (.asg (.name 2) (.bin .Add (.lst (.cons (.var 5) .nil)) (.var 2)))
  .skip) .skip)
  ir_law_pool_r1))
def ir_law_pool : S :=
  (.seq (.asg (.name 2) (.lst .nil))
  (.seq (.asg (.name 3) (.bin .Add (.cst (.int 7)) (.var 1)))
  (.seq (.for_ (.name 4) .range1 (.cons (.blt .min (.cons (.blt .len (.cons (.var 0) .nil)) (.cons (.cst (.int 63)) .nil))) .nil) ir_law_pool_b2)
  ir_law_pool_r0)))
theorem sc_law_pool : FnScope N_law_pool ["script", "salt"] (defScope st_law_pool) := ⟨rfl, rfl, rfl, by decide +kernel, rfl, by decide +kernel, by decide +kernel⟩
theorem ch_law_pool : chkS (T.cut 2) ir_law_pool ⟨N_law_pool, (defScope st_law_pool).names⟩ (.b (defBody st_law_pool)) = true := by decide +kernel
/-! 3: 0 pool, 1 many, 2 row, 3 got, 4 x, 5 y, 6 z -/
abbrev st_law_pick : Stmt := top 5
def N_law_pick : List Str := ["pool", "many", "row", "got", "x", "y", "z"]
@[irreducible] def ir_law_pick_r0 : S :=
  (.seq (.asgSub (.var 0) (.cst (.int 2)) (.bin .Add (.sub (.var 0) (.cst (.int 2))) (.cst (.int 1))))
  (.seq (.asg (.name 4) (.bin .Mod (.blt .int (.cons (.bin .Add (.bin .Add (.bin .Mult (.sub (.var 0) (.cst (.int 1))) (.cst (.int 48271))) (.bin .Mult (.cst (.int 11)) (.sub (.var 0) (.cst (.int 2))))) (.cst (.int 5))) .nil)) (.cst (.int 2147483647))))
  (.seq (.asgSub (.var 0) (.cst (.int 1)) (.var 4))
  (.seq (.asg (.name 5) (.bin .Mod (.blt .int (.cons (.bin .Add (.bin .Add (.bin .Mult (.var 4) (.var 4)) (.bin .Mult (.cst (.int 3)) (.sub (.var 0) (.cst (.int 2))))) (.cst (.int 1))) .nil)) (.cst (.int 2147483629))))
  (.seq (.asg (.name 6) (.bin .Mod (.blt .int (.cons (.bin .Add (.bin .Mult (.var 5) (.var 5)) (.var 4)) .nil)) (.cst (.int 2147483587))))
  (.seq (.ret (.bin .Mod (.blt .int (.cons (.bin .FloorDiv (.var 6) (.cst (.int 7))) .nil)) (.var 1)))
  .skip))))))
@[irreducible] def ir_law_pick_r1 : S :=
  (.seq (.ret (.var 3))
  .skip)
@[irreducible] def ir_law_pick_r2 : S :=
  (.seq (.asg (.name 2) (.sub (.var 0) (.cst (.int 0))))
  (.seq (.ite (.cmp .Gt (.blt .len (.cons (.var 2) .nil)) (.cst (.int 0))) (.seq (.asg (.name 3) (.bin .Mod (.blt .int (.cons (.sub (.var 2) (.neg (.cst (.int 1)))) .nil)) (.var 1)))
  (.seq (.asgSub (.var 2) (.neg (.cst (.int 1))) (.bin .FloorDiv (.sub (.var 2) (.neg (.cst (.int 1)))) (.var 1)))
  (.seq (.ite (.cmp .Eq (.sub (.var 2) (.neg (.cst (.int 1)))) (.cst (.int 0))) (.seq (.expr (.mth .pop (.var 2) .nil))
  .skip) .skip)
  ir_law_pick_r1))) .skip)
  ir_law_pick_r0))
def ir_law_pick : S :=
  (.seq (.ite (.cmp .Lt (.var 1) (.cst (.int 2))) (.seq (.ret (.cst (.int 0)))
  .skip) .skip)
  ir_law_pick_r2)
theorem sc_law_pick : FnScope N_law_pick ["pool", "many"] (defScope st_law_pick) := ⟨rfl, rfl, rfl, by decide +kernel, rfl, by decide +kernel, by decide +kernel⟩
theorem ch_law_pick : chkS (T.cut 3) ir_law_pick ⟨N_law_pick, (defScope st_law_pick).names⟩ (.b (defBody st_law_pick)) = true := by decide +kernel
/-! 4: 0 pool, 1 row -/
abbrev st_law_one : Stmt := top 6
def N_law_one : List Str := ["pool", "row"]
def ir_law_one : S :=
  (.seq (.ret (.sub (.var 1) (.call 3 (.cons (.var 0) (.cons (.blt .len (.cons (.var 1) .nil)) .nil)))))
  .skip)
theorem sc_law_one : FnScope N_law_one ["pool", "row"] (defScope st_law_one) := ⟨rfl, rfl, rfl, by decide +kernel, rfl, by decide +kernel, by decide +kernel⟩
theorem ch_law_one : chkS (T.cut 4) ir_law_one ⟨N_law_one, (defScope st_law_one).names⟩ (.b (defBody st_law_one)) = true := by decide +kernel
/-! 5: 0 pool, 1 many, 2 taken, 3 signs, 4 told, 5 i, 6 text, 7 j -/
abbrev st_law_names : Stmt := top 7
def N_law_names : List Str := ["pool", "many", "taken", "signs", "told", "i", "text", "j"]
def ir_law_names : S :=
  q_law_names 4 3
theorem sc_law_names : FnScope N_law_names ["pool", "many", "taken"] (defScope st_law_names) := ⟨rfl, rfl, rfl, by decide +kernel, rfl, by decide +kernel, by decide +kernel⟩
theorem ch_law_names : chkS (T.cut 5) ir_law_names ⟨N_law_names, (defScope st_law_names).names⟩ (.b (defBody st_law_names)) = true := by decide +kernel
/-! 6: 0 pool, 1 many, 2 texts, 3 told, 4 i, 5 p -/
abbrev st_law_points : Stmt := top 8
def N_law_points : List Str := ["pool", "many", "texts", "told", "i", "p"]
def ir_law_points : S :=
  q_law_points 5 4 3
theorem sc_law_points : FnScope N_law_points ["pool", "many"] (defScope st_law_points) := ⟨rfl, rfl, rfl, by decide +kernel, rfl, by decide +kernel, by decide +kernel⟩
theorem ch_law_points : chkS (T.cut 6) ir_law_points ⟨N_law_points, (defScope st_law_points).names⟩ (.b (defBody st_law_points)) = true := by decide +kernel
/-! 7: 0 pool, 1 signs, 2 head, 3 turn, 4 i -/
abbrev st_law_long : Stmt := top 9
def N_law_long : List Str := ["pool", "signs", "head", "turn", "i"]
def ir_law_long : S :=
  (.seq (.asg (.name 1) (.cst (.str "abcdefghijklmnopqrstuvwxyz")))
  (.seq (.asg (.name 2) (.sub (.var 1) (.call 3 (.cons (.var 0) (.cons (.cst (.int 26)) .nil)))))
  (.seq (.asg (.name 3) (.call 3 (.cons (.var 0) (.cons (.cst (.int 5)) .nil))))
  (.seq (.ret (.lc (.name 4) .range1 (.cons (.bin .Add (.cst (.int 11)) (.call 3 (.cons (.var 0) (.cons (.cst (.int 191)) .nil)))) .nil) (.cst (.bl true)) (.tup (.cons (.sub (.lst (.cons (.cst (.str "b")) (.cons (.cst (.str "e")) (.cons (.cst (.str "m")) (.cons (.cst (.str "f")) (.cons (.cst (.str "l")) .nil)))))) (.bin .Mod (.blt .int (.cons (.bin .Add (.var 4) (.var 3)) .nil)) (.cst (.int 5)))) (.cons (.bin .Add (.var 2) (.blt .str (.cons (.var 4) .nil))) .nil))) [("i", 4)]))
  .skip))))
theorem sc_law_long : FnScope N_law_long ["pool"] (defScope st_law_long) := ⟨rfl, rfl, rfl, by decide +kernel, rfl, by decide +kernel, by decide +kernel⟩
theorem ch_law_long : chkS (T.cut 7) ir_law_long ⟨N_law_long, (defScope st_law_long).names⟩ (.b (defBody st_law_long)) = true := by decide +kernel
/-! 8: 0 pool, 1 menu -/
abbrev st_law_gap : Stmt := top 10
def N_law_gap : List Str := ["pool", "menu"]
def ir_law_gap : S :=
  (.seq (.asg (.name 1) (.lst (.cons (.cst (.int 0)) (.cons (.cst (.int 1)) (.cons (.neg (.cst (.int 1))) (.cons (.bin .Sub (.call 3 (.cons (.var 0) (.cons (.cst (.int 21)) .nil))) (.cst (.int 10))) (.cons (.bin .Pow (.cst (.int 10)) (.cst (.int 6))) (.cons (.neg (.bin .Pow (.cst (.int 10)) (.cst (.int 6)))) (.cons (.bin .Sub (.call 3 (.cons (.var 0) (.cons (.cst (.int 2000001)) .nil))) (.cst (.int 1000000))) .nil)))))))))
  (.seq (.ret (.call 4 (.cons (.var 0) (.cons (.var 1) .nil))))
  .skip))
theorem sc_law_gap : FnScope N_law_gap ["pool"] (defScope st_law_gap) := ⟨rfl, rfl, rfl, by decide +kernel, rfl, by decide +kernel, by decide +kernel⟩
theorem ch_law_gap : chkS (T.cut 8) ir_law_gap ⟨N_law_gap, (defScope st_law_gap).names⟩ (.b (defBody st_law_gap)) = true := by decide +kernel
/-! 9: 0 pool, 1 seq, 2 rows, 3 i, 4 p -/
abbrev st_law_ring : Stmt := top 11
def N_law_ring : List Str := ["pool", "seq", "rows", "i", "p"]
@[irreducible] def ir_law_ring_r0 : S :=
  (.seq (.ret (.var 2))
  .skip)
@[irreducible] def ir_law_ring_b1 : S :=
  (.seq (.asg (.name 4) (.sub (.var 1) (.bin .Mod (.blt .int (.cons (.bin .Add (.var 3) (.cst (.int 1))) .nil)) (.blt .len (.cons (.var 1) .nil)))))
  (.seq (.ite (.cmp .NotEq (.var 4) (.sub (.var 1) (.var 3))) (.seq (.expr (.mth .append (.var 2) (.cons (.tup (.cons (.var 4) (.cons (.sub (.var 1) (.var 3)) (.cons (.call 8 (.cons (.var 0) .nil)) .nil)))) .nil)))
  .skip) .skip)
  .skip))
def ir_law_ring : S :=
  (.seq (.asg (.name 2) (.lst .nil))
  (.seq (.for_ (.name 3) .range1 (.cons (.blt .len (.cons (.var 1) .nil)) .nil) ir_law_ring_b1)
  ir_law_ring_r0))
theorem sc_law_ring : FnScope N_law_ring ["pool", "seq"] (defScope st_law_ring) := ⟨rfl, rfl, rfl, by decide +kernel, rfl, by decide +kernel, by decide +kernel⟩
theorem ch_law_ring : chkS (T.cut 9) ir_law_ring ⟨N_law_ring, (defScope st_law_ring).names⟩ (.b (defBody st_law_ring)) = true := by decide +kernel
/-! 10: 0 pool, 1 rows, 2 spare, 3 way, 4 at, 5 to, 6 row, 7 new -/
abbrev st_law_bent : Stmt := top 12
def N_law_bent : List Str := ["pool", "rows", "spare", "way", "at", "to", "row", "new"]
@[irreducible] def ir_law_bent_r0 : S :=
  (.seq (.ret (.var 7))
  .skip)
@[irreducible] def ir_law_bent_r1 : S :=
  (.seq (.asg (.name 7) (.blt .list (.cons (.var 1) .nil)))
  (.seq (.ite (.cmp .Eq (.var 3) (.cst (.int 4))) (.seq (.asgSub (.var 7) (.var 4) (.sub (.var 1) (.var 5)))
  (.seq (.asgSub (.var 7) (.var 5) (.var 6))
  .skip)) .skip)
  ir_law_bent_r0))
@[irreducible] def ir_law_bent_r2 : S :=
  (.seq (.ite (.cmp .Eq (.var 3) (.cst (.int 9))) (.seq (.ret (.rev (.var 1)))
  .skip) .skip)
  ir_law_bent_r1)
@[irreducible] def ir_law_bent_r3 : S :=
  (.seq (.ite (.cmp .Eq (.var 3) (.cst (.int 8))) (.seq (.ret (.bin .Add (.slice true false (.var 1) (.var 4) .absent) (.slice false true (.var 1) .absent (.var 4))))
  .skip) .skip)
  ir_law_bent_r2)
@[irreducible] def ir_law_bent_r4 : S :=
  (.seq (.ite (.cmp .Eq (.var 3) (.cst (.int 7))) (.seq (.ret (.bin .Add (.var 1) (.var 1)))
  .skip) .skip)
  ir_law_bent_r3)
@[irreducible] def ir_law_bent_r5 : S :=
  (.seq (.ite (.cmp .Eq (.var 3) (.cst (.int 6))) (.seq (.ret (.bin .Add (.bin .Add (.slice false true (.var 1) .absent (.var 4)) (.lst (.cons (.tup (.cons (.sub (.var 6) (.cst (.int 0))) (.cons (.var 2) (.cons (.sub (.var 6) (.cst (.int 2))) .nil)))) .nil))) (.slice true false (.var 1) (.bin .Add (.var 4) (.cst (.int 1))) .absent)))
  .skip) .skip)
  ir_law_bent_r4)
@[irreducible] def ir_law_bent_r6 : S :=
  (.seq (.ite (.cmp .Eq (.var 3) (.cst (.int 5))) (.seq (.ret (.bin .Add (.bin .Add (.slice false true (.var 1) .absent (.var 4)) (.lst (.cons (.tup (.cons (.var 2) (.cons (.sub (.var 6) (.cst (.int 1))) (.cons (.sub (.var 6) (.cst (.int 2))) .nil)))) .nil))) (.slice true false (.var 1) (.bin .Add (.var 4) (.cst (.int 1))) .absent)))
  .skip) .skip)
  ir_law_bent_r5)
@[irreducible] def ir_law_bent_r7 : S :=
  (.seq (.ite (.cmp .Eq (.var 3) (.cst (.int 3))) (.seq (.ret (.bin .Add (.bin .Add (.slice false true (.var 1) .absent (.var 5)) (.lst (.cons (.var 6) .nil))) (.slice true false (.var 1) (.var 5) .absent)))
  .skip) .skip)
  ir_law_bent_r6)
@[irreducible] def ir_law_bent_r8 : S :=
  (.seq (.ite (.cmp .Eq (.var 3) (.cst (.int 2))) (.seq (.ret (.bin .Add (.bin .Add (.slice false true (.var 1) .absent (.var 4)) (.lst (.cons (.var 6) .nil))) (.slice true false (.var 1) (.var 4) .absent)))
  .skip) .skip)
  ir_law_bent_r7)
@[irreducible] def ir_law_bent_r9 : S :=
  (.seq (.ite (.cmp .Eq (.var 3) (.cst (.int 1))) (.seq (.ret (.bin .Add (.slice false true (.var 1) .absent (.var 4)) (.slice true false (.var 1) (.bin .Add (.var 4) (.cst (.int 1))) .absent)))
  .skip) .skip)
  ir_law_bent_r8)
def ir_law_bent : S :=
  (.seq (.asg (.name 3) (.call 3 (.cons (.var 0) (.cons (.cst (.int 12)) .nil))))
  (.seq (.asg (.name 4) (.call 3 (.cons (.var 0) (.cons (.blt .len (.cons (.var 1) .nil)) .nil))))
  (.seq (.asg (.name 5) (.call 3 (.cons (.var 0) (.cons (.blt .len (.cons (.var 1) .nil)) .nil))))
  (.seq (.asg (.name 6) (.sub (.var 1) (.var 4)))
  (.seq (.ite (.cmp .Eq (.var 3) (.cst (.int 0))) (.seq (.ret (.bin .Add (.bin .Add (.slice false true (.var 1) .absent (.var 4)) (.lst (.cons (.tup (.cons (.sub (.var 6) (.cst (.int 1))) (.cons (.sub (.var 6) (.cst (.int 0))) (.cons (.sub (.var 6) (.cst (.int 2))) .nil)))) .nil))) (.slice true false (.var 1) (.bin .Add (.var 4) (.cst (.int 1))) .absent)))
  .skip) .skip)
  ir_law_bent_r9)))))
theorem sc_law_bent : FnScope N_law_bent ["pool", "rows", "spare"] (defScope st_law_bent) := ⟨rfl, rfl, rfl, by decide +kernel, rfl, by decide +kernel, by decide +kernel⟩
theorem ch_law_bent : chkS (T.cut 10) ir_law_bent ⟨N_law_bent, (defScope st_law_bent).names⟩ (.b (defBody st_law_bent)) = true := by decide +kernel
/-! 11: 0 pool, 1 seq, 2 rows, 3 i, 4 p, 5 q -/
abbrev st_law_free : Stmt := top 13
def N_law_free : List Str := ["pool", "seq", "rows", "i", "p", "q"]
@[irreducible] def ir_law_free_r0 : S :=
  (.seq (.ret (.var 2))
  .skip)
@[irreducible] def ir_law_free_b1 : S :=
  (.seq (.asg (.name 4) (.call 4 (.cons (.var 0) (.cons (.var 1) .nil))))
  (.seq (.asg (.name 5) (.call 4 (.cons (.var 0) (.cons (.var 1) .nil))))
  (.seq (.ite (.cmp .NotEq (.var 4) (.var 5)) (.seq (.expr (.mth .append (.var 2) (.cons (.tup (.cons (.var 4) (.cons (.var 5) (.cons (.call 8 (.cons (.var 0) .nil)) .nil)))) .nil)))
  .skip) .skip)
  .skip)))
def ir_law_free : S :=
  (.seq (.asg (.name 2) (.lst .nil))
  (.seq (.for_ (.name 3) .range1 (.cons (.call 3 (.cons (.var 0) (.cons (.cst (.int 10)) .nil))) .nil) ir_law_free_b1)
  ir_law_free_r0))
theorem sc_law_free : FnScope N_law_free ["pool", "seq"] (defScope st_law_free) := ⟨rfl, rfl, rfl, by decide +kernel, rfl, by decide +kernel, by decide +kernel⟩
theorem ch_law_free : chkS (T.cut 11) ir_law_free ⟨N_law_free, (defScope st_law_free).names⟩ (.b (defBody st_law_free)) = true := by decide +kernel
/-! 12: 0 rows, 1 seen, 2 i -/
abbrev st_law_round : Stmt := top 14
def N_law_round : List Str := ["rows", "seen", "i"]
@[irreducible] def ir_law_round_r0 : S :=
  (.seq (.ret (.cmp .Gt (.blt .len (.cons (.var 0) .nil)) (.cst (.int 1))))
  .skip)
@[irreducible] def ir_law_round_r1 : S :=
  (.seq (.asgSub (.var 1) (.sub (.sub (.var 0) (.var 2)) (.cst (.int 1))) (.cst (.bl true)))
  .skip)
@[irreducible] def ir_law_round_b2 : S :=
  (.seq (.ite (.orB (.cmp .NotEq (.sub (.sub (.var 0) (.var 2)) (.cst (.int 0))) (.sub (.sub (.var 0) (.bin .Mod (.blt .int (.cons (.bin .Add (.var 2) (.cst (.int 1))) .nil)) (.blt .len (.cons (.var 0) .nil)))) (.cst (.int 1)))) (.cmp .In (.sub (.sub (.var 0) (.var 2)) (.cst (.int 1))) (.var 1))) (.seq (.ret (.cst (.bl false)))
  .skip) .skip)
  ir_law_round_r1)
def ir_law_round : S :=
  (.seq (.asg (.name 1) (.dnew true))
  (.seq (.for_ (.name 2) .range1 (.cons (.blt .len (.cons (.var 0) .nil)) .nil) ir_law_round_b2)
  ir_law_round_r0))
theorem sc_law_round : FnScope N_law_round ["rows"] (defScope st_law_round) := ⟨rfl, rfl, rfl, by decide +kernel, rfl, by decide +kernel, by decide +kernel⟩
theorem ch_law_round : chkS (T.cut 12) ir_law_round ⟨N_law_round, (defScope st_law_round).names⟩ (.b (defBody st_law_round)) = true := by decide +kernel
/-! 13: 0 told, 1 rows -/
abbrev st_law_cycle_right : Stmt := top 15
def N_law_cycle_right : List Str := ["told", "rows"]
def ir_law_cycle_right : S :=
  (.seq (.ret (.andV (.isi .bool (.var 0)) (.cmp .Eq (.var 0) (.call 12 (.cons (.var 1) .nil)))))
  .skip)
theorem sc_law_cycle_right : FnScope N_law_cycle_right ["told", "rows"] (defScope st_law_cycle_right) := ⟨rfl, rfl, rfl, by decide +kernel, rfl, by decide +kernel, by decide +kernel⟩
theorem ch_law_cycle_right : chkS (T.cut 13) ir_law_cycle_right ⟨N_law_cycle_right, (defScope st_law_cycle_right).names⟩ (.b (defBody st_law_cycle_right)) = true := by decide +kernel
/-! 14: 0 rows, 1 mine, 2 count, 3 row, 4 told -/
abbrev st_law_rows_right : Stmt := top 16
def N_law_rows_right : List Str := ["rows", "mine", "count", "row", "told"]
@[irreducible] def ir_law_rows_right_r0 : S :=
  (.seq (.expr (.mth .pop (.var 1) .nil))
  (.seq (.ret (.andV (.call 13 (.cons (.call 0 (.cons (.var 1) .nil)) (.cons (.slice false true (.var 0) .absent (.neg (.cst (.int 1)))) .nil))) (.cmp .Eq (.call 1 (.cons (.var 1) .nil)) (.bin .Sub (.var 2) (.sub (.sub (.var 0) (.neg (.cst (.int 1)))) (.cst (.int 2)))))))
  .skip))
@[irreducible] def ir_law_rows_right_r1 : S :=
  (.seq (.ite (.cmp .Eq (.blt .len (.cons (.var 0) .nil)) (.cst (.int 0))) (.seq (.ret (.cst (.bl true)))
  .skip) .skip)
  ir_law_rows_right_r0)
@[irreducible] def ir_law_rows_right_r2 : S :=
  (.seq (.ite (.cmp .NotEq (.var 1) (.var 0)) (.seq (.ret (.cst (.bl false)))
  .skip) .skip)
  ir_law_rows_right_r1)
@[irreducible] def ir_law_rows_right_b3 : S :=
  (.seq (.ite (.orB (.notB (.truth (.isi .int (.var 4)))) (.orB (.truth (.isi .bool (.var 4))) (.cmp .NotEq (.var 4) (.var 2)))) (.seq (.ret (.cst (.bl false)))
  .skip) .skip)
  .skip)
@[irreducible] def ir_law_rows_right_r4 : S :=
  (.seq (.for_ (.name 4) .val (.lst (.cons (.call 1 (.cons (.var 1) .nil)) (.cons (.callK 1 0 ["constraints"] [0] .nil (.cons (.blt .tuple (.cons (.var 0) .nil)) .nil)) .nil))) ir_law_rows_right_b3)
  ir_law_rows_right_r2)
@[irreducible] def ir_law_rows_right_b5 : S :=
  (.seq (.asg (.name 2) (.bin .Add (.var 2) (.sub (.var 3) (.cst (.int 2)))))
  .skip)
@[irreducible] def ir_law_rows_right_r6 : S :=
  (.seq (.asg (.name 2) (.cst (.int 0)))
  (.seq (.for_ (.name 3) .val (.var 0) ir_law_rows_right_b5)
  ir_law_rows_right_r4))
def ir_law_rows_right : S :=
  (.seq (.asg (.name 1) (.blt .list (.cons (.var 0) .nil)))
  (.seq (.ite (.orB (.notB (.truth (.call 13 (.cons (.call 0 (.cons (.var 1) .nil)) (.cons (.var 0) .nil))))) (.notB (.truth (.call 13 (.cons (.callK 0 0 ["constraints"] [0] .nil (.cons (.blt .tuple (.cons (.var 0) .nil)) .nil)) (.cons (.var 0) .nil)))))) (.seq (.ret (.cst (.bl false)))
  .skip) .skip)
  ir_law_rows_right_r6))
theorem sc_law_rows_right : FnScope N_law_rows_right ["rows"] (defScope st_law_rows_right) := ⟨rfl, rfl, rfl, by decide +kernel, rfl, by decide +kernel, by decide +kernel⟩
theorem ch_law_rows_right : chkS (T.cut 14) ir_law_rows_right ⟨N_law_rows_right, (defScope st_law_rows_right).names⟩ (.b (defBody st_law_rows_right)) = true := by decide +kernel
/-! 15: 0 script, 1 pool, 2 i, 3 pts, 4 seq, 5 rows, 6 at, 7 twice, 8 free, 9 one -/
abbrev st_law : Stmt := top 17
def N_law : List Str := ["script", "pool", "i", "pts", "seq", "rows", "at", "twice", "free", "one"]
@[irreducible] def ir_law_r0 : S :=
  (.seq (.ret (.cst (.bl true)))
  .skip)
@[irreducible] def ir_law_b1 : S :=
  (.seq (.ite (.notB (.truth (.call 14 (.cons (.var 9) .nil)))) (.seq (.ret (.cst (.bl false)))
  .skip) .skip)
  .skip)
@[irreducible] def ir_law_r2 : S :=
  (.seq (.asg (.name 5) (.call 9 (.cons (.var 1) (.cons (.var 4) .nil))))
  (.seq (.asg (.name 6) (.call 3 (.cons (.var 1) (.cons (.bin .Add (.blt .len (.cons (.var 4) .nil)) (.cst (.int 1))) .nil))))
  (.seq (.asg (.name 7) (.bin .Add (.bin .Add (.slice false true (.var 4) .absent (.var 6)) (.lst (.cons (.call 4 (.cons (.var 1) (.cons (.var 4) .nil))) .nil))) (.slice true false (.var 4) (.var 6) .absent)))
  (.seq (.asg (.name 8) (.call 11 (.cons (.var 1) (.cons (.slice false true (.var 4) .absent (.call 4 (.cons (.var 1) (.cons (.lst (.cons (.cst (.int 2)) (.cons (.cst (.int 3)) (.cons (.cst (.int 3)) (.cons (.cst (.int 200)) .nil))))) .nil)))) .nil))))
  (.seq (.for_ (.name 9) .val (.lst (.cons (.var 5) (.cons (.call 10 (.cons (.var 1) (.cons (.var 5) (.cons (.sub (.var 3) (.neg (.cst (.int 1)))) .nil)))) (.cons (.call 9 (.cons (.var 1) (.cons (.var 7) .nil))) (.cons (.var 8) .nil))))) ir_law_b1)
  .skip)))))
@[irreducible] def ir_law_r3 : S :=
  (.seq (.asg (.name 4) (.slice false true (.var 3) .absent (.neg (.cst (.int 1)))))
  (.seq (.ite (.cmp .Eq (.call 3 (.cons (.var 1) (.cons (.cst (.int 2)) .nil))) (.cst (.int 0))) (.seq (.asgSub (.var 4) (.call 3 (.cons (.var 1) (.cons (.blt .len (.cons (.var 4) .nil)) .nil))) (.tup (.cons (.cst (.str "o")) (.cons (.cst (.str "")) .nil))))
  .skip) .skip)
  ir_law_r2))
@[irreducible] def ir_law_b4 : S :=
  (.seq (.asg (.name 3) (.call 6 (.cons (.var 1) (.cons (.bin .Add (.cst (.int 1)) (.call 4 (.cons (.var 1) (.cons (.lst (.cons (.cst (.int 2)) (.cons (.cst (.int 2)) (.cons (.cst (.int 3)) (.cons (.cst (.int 4)) (.cons (.cst (.int 5)) (.cons (.cst (.int 7)) (.cons (.cst (.int 9)) .nil)))))))) .nil)))) .nil))))
  (.seq (.ite (.andB (.cmp .Eq (.var 2) (.cst (.int 2))) (.cmp .Eq (.call 3 (.cons (.var 1) (.cons (.cst (.int 16)) .nil))) (.cst (.int 15)))) (.seq (.asg (.name 3) (.call 7 (.cons (.var 1) .nil)))
  .skip) .skip)
  ir_law_r3))
def ir_law : S :=
  (.seq (.asg (.name 1) (.call 2 (.cons (.var 0) (.cons (.cst (.int 102)) .nil))))
  (.seq (.for_ (.name 2) .range1 (.cons (.cst (.int 3)) .nil) ir_law_b4)
  ir_law_r0))
theorem sc_law : FnScope N_law ["script"] (defScope st_law) := ⟨rfl, rfl, rfl, by decide +kernel, rfl, by decide +kernel, by decide +kernel⟩
theorem ch_law : chkS (T.cut 15) ir_law ⟨N_law, (defScope st_law).names⟩ (.b (defBody st_law)) = true := by decide +kernel
theorem sh_is_cycle {K : PySem.W.Frag} {f : Addr} {fd : FuncData} (F : Fun K "is_cycle" "is_cycle" st_is_cycle f fd) : ∀ m ks π, (0, m, ks, π) ∈ T.sh → KBn K fd (T.ps 0) m ks (fun us ws => permL π (us ++ ws)) (fun vs zs => permL π (vs ++ zs)) := by
  intro m ks π hm
  obtain ⟨oc, od, kV, doc, pm, an, cdv, ct, osl, rfl, lk, hcd⟩ := F.ex
  simp [T] at hm
  obtain ⟨rfl, rfl, rfl⟩ := hm
  · exact kbn_of fun s us ws h1 h2 => match us, ws, h1, h2 with | [], [_], _, _ => .of_eq rfl
theorem sh_total {K : PySem.W.Frag} {f : Addr} {fd : FuncData} (F : Fun K "total" "total" st_total f fd) : ∀ m ks π, (1, m, ks, π) ∈ T.sh → KBn K fd (T.ps 1) m ks (fun us ws => permL π (us ++ ws)) (fun vs zs => permL π (vs ++ zs)) := by
  intro m ks π hm
  obtain ⟨oc, od, kV, doc, pm, an, cdv, ct, osl, rfl, lk, hcd⟩ := F.ex
  simp [T] at hm
  obtain ⟨rfl, rfl, rfl⟩ := hm
  · exact kbn_of fun s us ws h1 h2 => match us, ws, h1, h2 with | [], [_], _, _ => .of_eq rfl
end K02
namespace K02
/-! ### the plain law -/
abbrev hds (rows : List Con) : List Pt := rows.map (·.1)
abbrev tls (rows : List Con) : List Pt := rows.map (·.2.1)
def cycB (rows : List Con) : Bool := decide (2 ≤ rows.length ∧ hds rows = (tls rows).drop 1 ++ (tls rows).take 1 ∧ (tls rows).Nodup)
def RowsOk (rows : List Con) : Prop := rows.length ≤ 1000 ∧ ∃ S : List Pt, S.length ≤ 250 ∧ ∀ r ∈ rows, r.1 ∈ S ∧ r.2.1 ∈ S
theorem dup_short {α : Type} : ∀ {B : List α}, ¬ B.Nodup → ∃ B' : List α, B'.length < B.length ∧ ∀ x ∈ B, x ∈ B'
  | [], h => absurd List.nodup_nil h
  | b :: B, h => by
    by_cases hb : b ∈ B
    · exact ⟨B, Nat.lt_succ_self _, fun x hx => (List.mem_cons.1 hx).elim (fun e => e ▸ hb) id⟩
    · obtain ⟨B', h1, h2⟩ := dup_short (B := B) fun n => h (List.nodup_cons.2 ⟨hb, n⟩)
      exact ⟨b :: B', Nat.succ_lt_succ h1, fun x hx => (List.mem_cons.1 hx).elim (fun e => e ▸ List.mem_cons_self) fun hx => List.mem_cons_of_mem _ (h2 x hx)⟩
theorem same_len {α : Type} {A B : List α} (hA : A.Nodup) (h1 : ∀ x ∈ A, x ∈ B) (h2 : ∀ x ∈ B, x ∈ A) : A.length = B.length ↔ B.Nodup := by
  constructor
  · intro e
    refine Classical.byContradiction fun n => ?_
    obtain ⟨B', h3, h4⟩ := dup_short n
    have := nodup_len_le hA fun k hk => h4 k (h1 k hk)
    omega
  · intro n
    have a := nodup_len_le hA h1
    have b := nodup_len_le n h2
    omega
theorem nk_inj {xs : List Pt} : (xs.map fun x => nkey (eP x)).Nodup ↔ xs.Nodup := by
  constructor
  · intro h
    exact (List.pairwise_map.1 h).imp fun hne e => hne (by rw [e])
  · intro h
    exact List.pairwise_map.2 (h.imp fun hne e => hne (eP_inj _ _ e))
theorem turn_iff {xs ys : List Pt} (h : xs.length = ys.length) (h0 : 0 < ys.length) : xs = ys.drop 1 ++ ys.take 1 ↔ ∀ i, i < ys.length → xs[i]? = ys[(i + 1) % ys.length]? := by
  have at_ : ∀ i, i < ys.length → (ys.drop 1 ++ ys.take 1)[i]? = ys[(i + 1) % ys.length]? := fun i hi => by
    by_cases c : i + 1 < ys.length
    · rw [List.getElem?_append_left (by rw [List.length_drop]; omega), List.getElem?_drop, Nat.mod_eq_of_lt c, Nat.add_comm]
    · have e : i + 1 = ys.length := by omega
      rw [List.getElem?_append_right (by rw [List.length_drop]; omega), e, Nat.mod_self, List.length_drop, show i - (ys.length - 1) = 0 by omega, List.getElem?_take, if_pos (by decide)]
  constructor
  · intro e i hi
    rw [← at_ i hi, ← e]
  · intro a
    refine List.ext_getElem? fun i => ?_
    by_cases hi : i < ys.length
    · rw [a i hi, at_ i hi]
    · rw [List.getElem?_eq_none (by omega), List.getElem?_eq_none (by simp; omega)]
/-! ### contracts -/
def RowsAt (x : D) (h : DH) (rows : List Con) : Prop := x = .tup (rows.map eR) ∨ ∃ t, x = .ref t ∧ h t = some (.lst (rows.map eR))
def cCycle : Ct := fun ds h Q _ => ∃ x rows, ds = [x] ∧ RowsAt x h rows ∧ RowsOk rows ∧ ∀ h', Sm h h' → Q (.bl (cycB rows)) h'
def sumB (rows : List Con) : Int := (rows.map fun r => r.2.2).sum
def cTotal : Ct := fun ds h Q _ => ∃ x rows, ds = [x] ∧ RowsAt x h rows ∧ RowsOk rows ∧ ∀ h', Sm h h' → Q (.int (sumB rows)) h'
theorem rows_len {x : D} {h : DH} {rows : List Con} {Q : DK} (r : RowsAt x h rows) (q : Q (.int rows.length) h) : bltD .len [x] h Q := by
  rcases r with rfl | ⟨t, rfl, l⟩
  · exact len_t (by rw [List.length_map]; exact q)
  · exact len_l l (by rw [List.length_map]; exact q)
theorem rows_it {x : D} {h : DH} {rows : List Con} {R : ItR} (r : RowsAt x h rows) (q : ∀ inv : DH → Prop, (∀ h', Sm h h' → inv h') → R (rows.map eR) inv) : itD .val x h R := by
  rcases r with rfl | ⟨t, rfl, l⟩
  · exact q _ fun _ _ => trivial
  · exact it_l l (q _ fun h' s => s _ _ l)
theorem RowsAt.sm {x : D} {h h' : DH} {rows : List Con} (r : RowsAt x h rows) (s : Sm h h') : RowsAt x h' rows := r.imp id fun ⟨t, e, l⟩ => ⟨t, e, s _ _ l⟩
/-- a comprehension over rows that leaves the heap -/
theorem lc_rows {α : Type} {F : α → D} {rows : List Con} {g : Con → α} {inv : DH → Prop} {h : DH} {turn : D → DH → (Option D → DH → Prop) → Prop} {Q : DK} (hz : rows.length ≤ 1000) (hi : inv h)
    (hs : ∀ (r : Con) (R : Option D → DH → Prop), R (some (F (g r))) h → turn (eR r) h R) (hd : ∀ p h', h p = none → h' p = some (.lst ((rows.map g).map F)) → Sm h h' → Q (.ref p) h') : lcD (rows.map eR) inv h turn Q := by
  refine lc_mk (fun i acc h' => acc = ((rows.map g).map F).take i ∧ h' = h) (szle (by rw [List.length_map]; omega)) ⟨rfl, rfl⟩ (fun _ _ _ _ e => e.2 ▸ hi) ?_ ?_
  · rintro i x acc h' e ⟨rfl, rfl⟩
    obtain ⟨z, hz, rfl⟩ := get_map e
    refine hs z _ ⟨?_, rfl⟩
    rw [take_at (x := F (g z)) (by rw [List.getElem?_map, List.getElem?_map, hz]; rfl)]
  · rintro acc h' ⟨rfl, rfl⟩
    rw [List.take_of_length_le (by simp)]
    exact newL_mk hd
theorem ok_cycle {C : Nat → Ct} (ds : List D) (h : DH) (Q : DK) (E : XD) (c : cCycle ds h Q E) : xS T.cs C E ir_is_cycle { nx := fun _ h' => Q .non h', rt := Q } (dstart N_is_cycle.length ds) h := by
  obtain ⟨x, rows, rfl, ra, ro, k⟩ := c
  show xS T.cs C E ir_is_cycle _ (dstart 4 _) h
  unfold ir_is_cycle
  walk_at "g"
  refine rows_len ra ?_
  walk_at "g"
  refine iteD (fun q => ?_) (fun q => ?_)
  · walk_at "g"
    have e : cycB rows = false := decide_eq_false fun z => by omega
    rw [← e]; exact k h (.refl h)
  · walk_at "g"
    refine (?_ : xS T.cs C E ir_is_cycle_r0 _ _ _)
    unfold ir_is_cycle_r0
    walk_at "g"
    refine rows_it ra fun inv hi => ?_
    refine lc_rows (F := eP) (g := fun r => r.1) ro.1 (hi h (.refl h)) (fun r R q => ?_) fun p h1 hp hp1 s1 => ?_
    · walk_at "g"
      exact q
    walk_at "g"
    have ra1 := ra.sm s1
    refine rows_it ra1 fun inv hi => ?_
    refine lc_rows (F := eP) (g := fun r => r.2.1) ro.1 (hi h1 (.refl h1)) (fun r R q => ?_) fun p2 h2 hp2 hq2 s2 => ?_
    · walk_at "g"
      exact q
    walk_at "g"
    rw [cut_map]
    refine newL_mk fun p3 h3 hp3 hq3 s3 => ?_
    walk_at "g"
    rw [cut_map]
    refine newL_mk fun p4 h4 hp4 hq4 s4 => ?_
    walk_at "g"
    have e1 : cutG (tls rows) (some 1) none = (tls rows).drop 1 := by
      simp only [cutG, HT.sIx_none]
      rw [show HT.sIx (tls rows).length 0 (some 1) = 1 from by rw [show (some (1 : Int)) = some ((1 : Nat) : Int) from rfl, HT.sIx_nat, List.length_map]; omega]
      exact List.take_of_length_le (by simp)
    have e2 : cutG (tls rows) none (some 1) = (tls rows).take 1 := by
      simp only [cutG, HT.sIx_none]
      rw [show HT.sIx (tls rows).length (tls rows).length (some 1) = 1 from by rw [show (some (1 : Int)) = some ((1 : Nat) : Int) from rfl, HT.sIx_nat, List.length_map]; omega]
      rfl
    rw [show List.map (fun r : Con => r.2.1) rows = tls rows from rfl] at *
    rw [e1] at hq3
    rw [e2] at hq4
    refine add_l (s4 _ _ hq3) hq4 (by have := ro.1; simp only [List.length_map, List.length_drop, List.length_take]; omega) fun p5 h5 hp5 hq5 s5 => ?_
    rw [← List.map_append] at hq5
    walk_at "g"
    have sm15 := ((s2.trans s3).trans s4).trans s5
    refine eq_lists fP eqvP (sm15 _ _ hp1) hq5 ?_
    have sm5 := s1.trans sm15
    have t5 := ((s3.trans s4).trans s5) _ _ hq2
    obtain ⟨r1, S, r2, r3⟩ := ro
    walk_at "g"
    refine iteD (fun a => ?_) (fun a => ?_)
    · walk_at "g"
      refine lset_mk (items_l t5 ⟨fun b hb => ?_, fun l ln ls => ?_, fun cs c1 c2 c3 => ?_⟩)
      · obtain ⟨z, hz, rfl⟩ := List.mem_map.1 hb
        exact eP_key
      · have := nodup_len_le ln (ks := S.map fun z => nkey (eP z)) fun k hk => by
          obtain ⟨b, hb, rfl⟩ := List.mem_map.1 (ls k hk)
          obtain ⟨z, hz, rfl⟩ := List.mem_map.1 hb
          obtain ⟨r, hr, rfl⟩ := List.mem_map.1 hz
          exact List.mem_map.2 ⟨_, (r3 r hr).2, rfl⟩
        rw [List.length_map] at this
        omega
      · walk_at "g"
        have e3 : decide ((cs.length : Int) = ((tls rows).length : Nat)) = cycB rows := by
          refine decide_eq_decide.2 ?_
          have z := same_len (A := cs.map nkey) (B := ((tls rows).map eP).map nkey) c3 (fun x hx => by
            obtain ⟨c, hc, rfl⟩ := List.mem_map.1 hx
            exact List.mem_map.2 ⟨c, c1 c hc, rfl⟩) fun x hx => by
            obtain ⟨b, hb, rfl⟩ := List.mem_map.1 hx
            obtain ⟨c, hc, e⟩ := c2 b hb
            exact List.mem_map.2 ⟨c, hc, e⟩
          rw [List.map_map, List.length_map, List.length_map] at z
          have z2 := nk_inj (xs := tls rows)
          constructor
          · intro e
            exact ⟨by omega, a, z2.1 (z.1 (by omega))⟩
          · rintro ⟨_, _, n⟩
            have := z.2 (z2.2 n)
            omega
        show Q (.bl (decide ((cs.length : Int) = ((tls rows).length : Nat)))) h5
        rw [e3]
        exact k h5 sm5
    · walk_at "g"
      have e3 : cycB rows = decide (hds rows = (tls rows).drop 1 ++ (tls rows).take 1) := by rw [decide_eq_false a]; exact decide_eq_false fun z => a z.2.1
      rw [← e3]; exact k h5 sm5
theorem ok_total {C : Nat → Ct} (ds : List D) (h : DH) (Q : DK) (E : XD) (c : cTotal ds h Q E) : xS T.cs C E ir_total { nx := fun _ h' => Q .non h', rt := Q } (dstart N_total.length ds) h := by
  obtain ⟨x, rows, rfl, ra, ro, k⟩ := c
  show xS T.cs C E ir_total _ (dstart 2 _) h
  unfold ir_total
  walk_at "g"
  refine rows_it ra fun inv hi => ?_
  refine lc_rows (F := D.int) (g := fun r => r.2.2) ro.1 (hi h (.refl h)) (fun r R q => ?_) fun p h1 hp hp1 s1 => ?_
  · walk_at "g"
    exact q
  walk_at "g"
  exact ⟨_, hp1, k h1 s1⟩
end K02
namespace K02
def cRound : Ct := fun ds h Q _ => ∃ t rows, ds = [.ref t] ∧ h t = some (.lst (rows.map eR)) ∧ rows.length ≤ 1000 ∧ ∀ h', Sm h h' → Q (.bl (cycB rows)) h'
def cRight : Ct := fun ds h Q _ => ∃ b t rows, ds = [.bl b, .ref t] ∧ h t = some (.lst (rows.map eR)) ∧ rows.length ≤ 1000 ∧ ∀ h', Sm h h' → Q (.bl (b == cycB rows)) h'
def cRows : Ct := fun ds h Q _ => ∃ t rows, ds = [.ref t] ∧ h t = some (.lst (rows.map eR)) ∧ RowsOk rows ∧ ∀ h', Sm h h' → Q (.bl true) h'
theorem row_at {rows : List Con} {i : Nat} (hi : i < rows.length) : atI (rows.map eR) (0 + (i : Int)) = some (eR (rows.getD i (org, org, 0))) := by
  refine atI_at (by omega) ?_
  rw [show (0 + (i : Int)).toNat = i by omega, List.getElem?_map, List.getElem?_eq_getElem hi]
  simp [List.getD, hi]
theorem next_at {rows : List Con} {i : Nat} (hi : i < rows.length) : atI (rows.map eR) ((0 + (i : Int) + 1) % ((rows.map eR).length : Nat)) = some (eR (rows.getD ((i + 1) % rows.length) (org, org, 0))) := by
  have e : (0 + (i : Int) + 1) % ((rows.map eR).length : Nat) = (((i + 1) % rows.length : Nat) : Int) := by
    rw [List.length_map, show (0 + (i : Int) + 1) = ((i + 1 : Nat) : Int) by omega]; exact (Int.natCast_emod _ _).symm
  have := row_at (rows := rows) (i := (i + 1) % rows.length) (Nat.mod_lt _ (by omega))
  rw [e, ← this]; congr 1; omega
theorem ok_round {C : Nat → Ct} (ds : List D) (h : DH) (Q : DK) (E : XD) (c : cRound ds h Q E) : xS T.cs C E ir_law_round { nx := fun _ h' => Q .non h', rt := Q } (dstart N_law_round.length ds) h := by
  obtain ⟨t, rows, rfl, ht, hl, k⟩ := c
  show xS T.cs C E ir_law_round _ (dstart 3 _) h
  have gd : ∀ i, i < rows.length → rows[i]? = some (rows.getD i (org, org, 0)) := fun i hi => by
    rw [List.getElem?_eq_getElem hi]; simp [List.getD, hi]
  unfold ir_law_round
  walk_at "g"
  intro w o hw
  have tw : t ≠ w := ne_new hw ht
  walk_at "g"
  refine rng1 rows.length (by simp) (by simp; omega) ?_
  refine for_1 2 (fun i _ h' => ∃ (m : List (Pt × Bool)) (o : Obj), m.map (·.1) = (tls rows).take i ∧ h' w = some (.dct true (encM eP D.bl m) o) ∧ Sm h h' ∧ ((tls rows).take i).Nodup ∧ ∀ j, j < i → (hds rows)[j]? = (tls rows)[(j + 1) % rows.length]?)
    ⟨[], o, rfl, updD_same, .new hw, List.nodup_nil, fun j hj => absurd hj (Nat.not_lt_zero _)⟩ (fun _ _ _ _ _ => trivial) ?_ ?_
  · rintro i x c2 h1 hi ⟨m, o1, hm, hw1, s1, nd, hj⟩
    obtain ⟨rfl, hil⟩ := rangeD_get hi
    have ht1 := s1 _ _ ht
    have ml : m.length ≤ rows.length := by
      have := congrArg List.length hm
      rw [List.length_map, List.length_take, List.length_map] at this
      omega
    have hy : (i + 1) % rows.length < rows.length := Nat.mod_lt _ (by omega)
    unfold ir_law_round_b2
    walk_at "g"
    refine ⟨by omega, ?_⟩
    rw [show (0 + (i : Int) + 1) % (rows.length : Int) = (((i + 1) % rows.length : Nat) : Int) by rw [show (0 + (i : Int) + 1) = ((i + 1 : Nat) : Int) by omega]; exact (Int.natCast_emod _ _).symm]
    walk_at "g"
    have gi : rows[i]? = some (At rows (0 + (i : Int))) := by
      have := get_At (xs := rows) (k := 0 + (i : Int)) (by omega) (by omega)
      rwa [show (0 + (i : Int)).toNat = i by omega] at this
    have gy : rows[(i + 1) % rows.length]? = some (At rows (((i + 1) % rows.length : Nat) : Int)) := by
      have := get_At (xs := rows) (k := (((i + 1) % rows.length : Nat) : Int)) (by omega) (by omega)
      rwa [Int.toNat_natCast] at this
    obtain ⟨ri, ei⟩ : ∃ r, At rows (0 + (i : Int)) = r := ⟨_, rfl⟩
    obtain ⟨ry, ey⟩ : ∃ r, At rows (((i + 1) % rows.length : Nat) : Int) = r := ⟨_, rfl⟩
    rw [ei] at gi
    rw [ey] at gy
    rw [ei, ey]
    have hi1 : (hds rows)[i]? = some ri.1 := by rw [List.getElem?_map, gi]; rfl
    have hi2 : (tls rows)[(i + 1) % rows.length]? = some ry.2.1 := by rw [List.getElem?_map, gy]; rfl
    have hi3 : (tls rows)[i]? = some ri.2.1 := by rw [List.getElem?_map, gi]; rfl
    have no : (ri.1 ≠ ry.2.1 ∨ ri.2.1 ∈ (tls rows).take i) → cycB rows = false := fun z => decide_eq_false fun ⟨n2, e, d⟩ => by
      have tl := List.length_map (as := rows) (f := fun r : Con => r.2.1)
      rcases z with z | z
      · have := (turn_iff (by simp) (by simp; omega)).1 e i (by simp; omega)
        rw [hi1, List.length_map, hi2] at this
        exact z (Option.some.inj this)
      · obtain ⟨q, hq, e⟩ := List.getElem_of_mem z
        rw [List.length_take] at hq
        rw [List.getElem_take] at e
        obtain ⟨hz1, hz2⟩ := List.getElem?_eq_some_iff.1 hi3
        have := (List.getElem_inj (h₀ := by omega) (h₁ := hz1) d).1 (e.trans hz2.symm)
        omega
    refine ne_pt ?_
    walk_at "g"
    refine iteN (fun a => ?_) (fun a => ?_)
    · walk_at "g"
      rw [← no (.inl a)]; exact k h1 s1
    · walk_at "g"
      show inR _ w h1 _
      rw [ei]
      refine in_m hw1 ?_
      rw [hm]
      walk_at "g"
      refine iteD (fun b => ?_) (fun b => ?_)
      · walk_at "g"
        rw [← no (.inr b)]; exact k h1 s1
      · walk_at "g"
        refine (?_ : xS T.cs C E ir_law_round_r1 _ _ _)
        unfold ir_law_round_r1
        walk_at "g"
        rw [ei]
        have e1 : alook m ri.2.1 = none := alook_none.2 (by rw [hm]; exact b)
        refine put_m (ev := D.bl) hw1 (by omega) fun o2 => ?_
        walk_at "g"
        refine ⟨aput m ri.2.1 true, o2, ?_, updD_same, s1.write hw, ?_, fun j hjl => ?_⟩
        · rw [aput_new e1, List.map_append, hm, take_at hi3]; rfl
        · rw [take_at hi3]
          exact List.nodup_append.2 ⟨nd, by simp, fun x hx y hy e => b (by rw [List.mem_singleton.1 hy] at e; exact e ▸ hx)⟩
        · rcases Nat.lt_succ_iff_lt_or_eq.1 hjl with hjl | rfl
          · exact hj j hjl
          · rw [hi1, hi2, a]
  · rintro c2 h1 ⟨m, o1, hm, hw1, s1, nd, hj⟩
    rw [rangeD_len] at nd hj
    unfold ir_law_round_r0
    walk_at "g"
    walk_at "g"
    have e : cycB rows = decide (1 < (rows.length : Int)) := by
      refine decide_eq_decide.2 ⟨fun z => by omega, fun z => ⟨by omega, (turn_iff (by simp) (by simp; omega)).2 fun i hi => ?_, ?_⟩⟩
      · rw [List.length_map] at hi ⊢
        exact hj i hi
      · rwa [List.take_of_length_le (by simp)] at nd
    show Q (.bl (decide (1 < (rows.length : Int)))) h1
    rw [← e]; exact k h1 s1
theorem ok_right {C : Nat → Ct} (e : C 12 = ask cRound) (ds : List D) (h : DH) (Q : DK) (E : XD) (c : cRight ds h Q E) : xS T.cs C E ir_law_cycle_right { nx := fun _ h' => Q .non h', rt := Q } (dstart N_law_cycle_right.length ds) h := by
  obtain ⟨b, t, rows, rfl, ht, hl, k⟩ := c
  show xS T.cs C E ir_law_cycle_right _ (dstart 2 _) h
  unfold ir_law_cycle_right
  walk_at "g"
  refine ask_of e ⟨t, rows, rfl, ht, hl, fun h' s => ?_⟩
  walk_at "g"
  show Q (.bl (decide (b = cycB rows))) h'
  rw [show decide (b = cycB rows) = (b == cycB rows) by cases b <;> cases cycB rows <;> rfl]
  exact k h' s
end K02
namespace K02
theorem ok_rows {C : Nat → Ct} (e0 : C 0 = ask cCycle) (e1 : C 1 = ask cTotal) (e13 : C 13 = ask cRight) (ds : List D) (h : DH) (Q : DK) (E : XD) (c : cRows ds h Q E) : xS T.cs C E ir_law_rows_right { nx := fun _ h' => Q .non h', rt := Q } (dstart N_law_rows_right.length ds) h := by
  obtain ⟨t, rows, rfl, ht, ro, k⟩ := c
  show xS T.cs C E ir_law_rows_right _ (dstart 5 _) h
  have beq : ∀ b : Bool, (b == b) = true := fun b => by cases b <;> rfl
  unfold ir_law_rows_right
  walk_at "g"
  refine newL_mk fun w h1 hw hw1 s1 => ?_
  walk_at "g"
  refine ask_of e0 ⟨.ref w, rows, rfl, .inr ⟨w, rfl, hw1⟩, ro, fun h2 s2 => ?_⟩
  walk_at "g"
  refine ask_of e13 ⟨cycB rows, t, rows, rfl, (s1.trans s2) _ _ ht, ro.1, fun h3 s3 => ?_⟩
  rw [beq]
  walk_at "g"
  refine ⟨⟨rfl, rfl⟩, ?_⟩
  refine ask_of e0 ⟨.tup (rows.map eR), rows, rfl, .inl rfl, ro, fun h4 s4 => ?_⟩
  have sm4 := ((s1.trans s2).trans s3).trans s4
  walk_at "g"
  refine ask_of e13 ⟨cycB rows, t, rows, rfl, sm4 _ _ ht, ro.1, fun h5 s5 => ?_⟩
  rw [beq]
  have sm5 := sm4.trans s5
  have w5 := (((s2.trans s3).trans s4).trans s5) _ _ hw1
  have t5 := sm5 _ _ ht
  walk_at "g"
  refine (?_ : xS T.cs C E ir_law_rows_right_r6 _ _ _)
  unfold ir_law_rows_right_r6
  walk_at "g"
  refine for_2 2 3 (fun i c2 _ h' => c2 = some (.int (sumB (rows.take i))) ∧ h' = h5) ⟨rfl, rfl⟩ (fun i _ _ h' _ e => by rw [e.2]; exact t5) ?_ ?_
  · rintro i x c2 c3 h6 hi ⟨rfl, rfl⟩
    obtain ⟨z, hz, rfl⟩ := get_map hi
    unfold ir_law_rows_right_b5
    walk_at "g"
    refine ⟨_, _, rfl, ?_, rfl⟩
    rw [take_at hz]
    simp [sumB]
  · rintro c2 c3 h6 ⟨rfl, rfl⟩
    rw [List.length_map, List.take_length]
    refine (?_ : xS T.cs C E ir_law_rows_right_r4 _ _ _)
    unfold ir_law_rows_right_r4
    walk_at "g"
    refine ask_of e1 ⟨.ref w, rows, rfl, .inr ⟨w, rfl, w5⟩, ro, fun h7 s7 => ?_⟩
    walk_at "g"
    refine ⟨⟨rfl, rfl⟩, ?_⟩
    refine ask_of e1 ⟨.tup (rows.map eR), rows, rfl, .inl rfl, ro, fun h8 s8 => ?_⟩
    have sm8 := (sm5.trans s7).trans s8
    have w8 := (s7.trans s8) _ _ w5
    have t8 := sm8 _ _ ht
    walk_at "g"
    refine newL_mk fun u h9 hu hu9 s9 => ?_
    walk_at "g"
    refine for_1 4 (fun _ _ h' => h' = h9) rfl (fun i _ h' _ e => by rw [e]; exact hu9) ?_ ?_
    · rintro i x c4 h10 hi rfl
      have ex : x = .int (sumB rows) := by
        have := List.mem_of_getElem? hi
        simpa using this
      subst ex
      unfold ir_law_rows_right_b3
      walk_at "g"
      refine iteN (fun q => absurd rfl q) (fun _ => ?_)
      walk_at "g"
      rfl
    · rintro c4 h10 rfl
      have s59 := (s7.trans s8).trans s9
      have w9 := s59 _ _ w5
      have sm9 := sm5.trans s59
      have t9 := sm9 _ _ ht
      refine (?_ : xS T.cs C E ir_law_rows_right_r2 _ _ _)
      unfold ir_law_rows_right_r2
      walk_at "g"
      refine ne_rows w9 t9 ?_
      walk_at "g"
      refine iteN (fun q => absurd rfl q) (fun _ => ?_)
      walk_at "g"
      refine (?_ : xS T.cs C E ir_law_rows_right_r1 _ _ _)
      unfold ir_law_rows_right_r1
      walk_at "g"
      refine iteD (fun _ => ?_) (fun hn => ?_)
      · walk_at "g"
        exact k _ sm9
      · walk_at "g"
        refine (?_ : xS T.cs C E ir_law_rows_right_r0 _ _ _)
        unfold ir_law_rows_right_r0
        walk_at "g"
        have h0 : 0 < rows.length := by omega
        have lt := get_At (xs := rows) (k := (rows.length : Int) - 1) (by omega) (by omega)
        rw [show ((rows.length : Int) - 1).toNat = rows.length - 1 by omega] at lt
        obtain ⟨z, ez⟩ : ∃ z, At rows ((rows.length : Int) - 1) = z := ⟨_, rfl⟩
        rw [ez] at lt
        refine ⟨w, rows.map eR, eR z, rfl, w9, by rw [List.length_map, List.getElem?_map, lt]; rfl, ?_⟩
        have smp : Sm h (updD h10 w (.lst ((rows.map eR).dropLast))) := sm9.write hw
        have dl : (rows.map eR).dropLast = rows.dropLast.map eR := List.map_dropLast.symm
        have dr : RowsOk rows.dropLast := ⟨by rw [List.length_dropLast]; have := ro.1; omega, let ⟨S, a, b⟩ := ro.2; ⟨S, a, fun r hr => b r (List.dropLast_subset _ hr)⟩⟩
        have wp : updD h10 w (.lst ((rows.map eR).dropLast)) w = some (.lst (rows.dropLast.map eR)) := by rw [updD_same, dl]
        have tp := smp _ _ ht
        generalize updD h10 w (.lst ((rows.map eR).dropLast)) = hp at smp wp tp ⊢
        walk_at "g"
        refine ask_of e0 ⟨.ref w, rows.dropLast, rfl, .inr ⟨w, rfl, wp⟩, dr, fun h11 s11 => ?_⟩
        walk_at "g"
        rw [cut_map]
        have ec : cutG rows none (some (-1)) = rows.dropLast := by
          simp only [cutG, HT.sIx_none]
          rw [show HT.sIx rows.length rows.length (some (-1)) = rows.length - 1 from by simp [HT.sIx]; omega]
          rw [List.drop_zero, Nat.sub_zero, List.dropLast_eq_take]
        rw [ec]
        refine newL_mk fun v h12 hv hv12 s12 => ?_
        walk_at "g"
        refine ask_of e13 ⟨cycB rows.dropLast, v, rows.dropLast, rfl, hv12, dr.1, fun h13 s13 => ?_⟩
        rw [beq]
        have s113 := (s11.trans s12).trans s13
        have w13 := s113 _ _ wp
        have t13 := s113 _ _ tp
        walk_at "g"
        refine ask_of e1 ⟨.ref w, rows.dropLast, rfl, .inr ⟨w, rfl, w13⟩, dr, fun h14 s14 => ?_⟩
        have t14 := s14 _ _ t13
        walk_at "g"
        refine sub_l t14 (atI_lst h0) ?_
        rw [ez]
        walk_at "g"
        have es : sumB rows.dropLast = sumB rows - z.2.2 := by
          have e : rows = rows.dropLast ++ [z] := by
            have h1 := List.dropLast_concat_getLast (l := rows) (List.length_pos_iff.mp h0)
            rw [List.getLast_eq_getElem] at h1
            have h2 := (List.getElem?_eq_some_iff.1 lt).2
            rw [h2] at h1
            exact h1.symm
          have e2 : sumB rows = sumB rows.dropLast + z.2.2 := by
            conv => lhs; rw [e]
            simp [sumB]
          omega
        show Q (.bl (decide (sumB rows.dropLast = sumB rows - z.2.2))) h14
        rw [decide_eq_true es]
        exact k _ ((smp.trans s113).trans s14)
end K02
namespace K02
theorem abc_ok : (Str.ofString "abcdefghijklmnopqrstuvwxyz").cps.toList.length = 26 ∧ ∀ c ∈ (Str.ofString "abcdefghijklmnopqrstuvwxyz").cps.toList, c < 0x110000 := by decide +kernel
theorem abc_at {i : Int} (a : 0 ≤ i) (b : i < 26) {h : DH} {Q : DK} (q : ∀ c, c < 0x110000 → Q (.str ⟨#[c]⟩) h) : subD (.str (Str.ofString "abcdefghijklmnopqrstuvwxyz")) (.int i) h Q :=
  sub_s (by decide +kernel) (atI_id a (by rw [abc_ok.1]; omega)) (q _ (abc_ok.2 _ (At_mem a (by rw [abc_ok.1]; omega))))
def numT (hd : Str) (j : Nat) : Str := hd ++ Str.ofString (toString (j : Int))
theorem numT_inj {hd : Str} {i j : Nat} (e : numT hd i = numT hd j) : i = j := by
  have h := congrArg (fun z : Str => z.cps.toList) e
  simp only [numT, str_add] at h
  exact num_inj (List.append_cancel_left h)
def cLong : Ct := fun ds h Q _ => ∃ p g, ds = [.ref p] ∧ PoolAt h p g ∧ ∀ (pts : List Pt) (r : Addr) (h' : DH), 11 ≤ pts.length → pts.length ≤ 201 → pts.Nodup → (∀ x ∈ pts, x.a ≠ ("o" : Str)) → PoolAt h' p g → FrP p g h h' → h r = none → h' r = some (.lst (pts.map eP)) → Q (.ref r) h'
theorem ok_long {C : Nat → Ct} (e3 : C 3 = ask cPick) (ds : List D) (h : DH) (Q : DK) (E : XD) (c : cLong ds h Q E) : xS T.cs C E ir_law_long { nx := fun _ h' => Q .non h', rt := Q } (dstart N_law_long.length ds) h := by
  obtain ⟨p, g, rfl, P, k⟩ := c
  show xS T.cs C E ir_law_long _ (dstart 5 _) h
  unfold ir_law_long
  walk_at "g"
  refine pick_i e3 P (by decide) (by decide) fun a h1 a0 a1 P1 fr1 => ?_
  walk_at "g"
  refine abc_at a0 a1 fun ch hch => ?_
  walk_at "g"
  refine pick_i e3 P1 (by decide) (by decide) fun turn h2 b0 b1 P2 fr2 => ?_
  walk_at "g"
  refine pick_i e3 P2 (by decide) (by decide) fun n h3 n0 n1 P3 fr3 => ?_
  walk_at "g"
  have fr := (fr1.trans fr2).trans fr3
  refine rng1 (11 + n).toNat rfl (by omega) ?_
  refine lc_mk (fun i acc h' => ∃ pts : List Pt, acc = pts.map eP ∧ pts.map (·.n) = (List.range i).map (numT ⟨#[ch]⟩) ∧ (∀ x ∈ pts, x.a ≠ ("o" : Str)) ∧ Sm h3 h') (szle (by rw [rangeD_len]; omega)) ⟨[], rfl, rfl, (fun _ hx => by cases hx), .refl _⟩ (fun _ _ _ _ _ => trivial) ?_ ?_
  · rintro i x acc h4 hi ⟨pts, rfl, hn, hp, s4⟩
    obtain ⟨rfl, hil⟩ := rangeD_get hi
    walk_at "g"
    intro u hu
    walk_at "g"
    have kb : 0 ≤ (0 + (i : Int) + turn) % 5 ∧ (0 + (i : Int) + turn) % 5 < 5 := by omega
    have ll : letters.length = 5 := rfl
    refine sub_l (xs := letters.map D.str) updD_same (atI_in kb.1 (by omega)) ?_
    have lm := letters_ok _ (At_mem (xs := letters) (k := (0 + (i : Int) + turn) % 5) kb.1 (by omega))
    generalize At letters ((0 + (i : Int) + turn) % 5) = l at lm
    walk_at "g"
    have en : (0 : Int) + (i : Int) = ((i : Nat) : Int) := by omega
    rw [en]
    refine ⟨lgB_small (by omega), ?_⟩
    walk_at "g"
    have ln : (Str.ofString (toString ((i : Nat) : Int))).length ≤ 4 := by rw [str_len, num_cps, List.length_map]; exact num_len (by omega)
    refine ⟨szle (by show 1 + _ ≤ _; omega), ?_⟩
    walk_at "g"
    refine ⟨pts ++ [⟨l, numT ⟨#[ch]⟩ i, lm.1, ok_add (ok_one hch) (ok_num _)⟩], by rw [List.map_append]; rfl, ?_, fun x hx => ?_, s4.trans (.new hu)⟩
    · rw [List.map_append, hn, List.range_succ, List.map_append]; rfl
    · rcases List.mem_append.1 hx with hx | hx
      · exact hp x hx
      · rw [List.mem_singleton.1 hx]; exact lm.2
  · rintro acc h4 ⟨pts, rfl, hn, hp, s4⟩
    rw [rangeD_len] at hn
    have hl := congrArg List.length hn
    rw [List.length_map, List.length_map, List.length_range] at hl
    refine newL_mk fun r h5 hr hr5 s5 => ?_
    have s35 := s4.trans s5
    refine k pts r h5 (by omega) (by omega) ?_ hp (P3.sm s35) (fr.trans s35.frp) (fr.free P3 (s4.free hr)) hr5
    have nd : (pts.map (·.n)).Nodup := by
      rw [hn]
      exact List.pairwise_map.2 (List.nodup_range.imp fun hne e => hne (numT_inj e))
    exact (List.pairwise_map.1 nd).imp fun hne e => hne (by rw [e])
theorem cpow_ok : CPow 10 6 := by unfold CPow; decide +kernel
def cGap : Ct := fun ds h Q _ => ∃ p g, ds = [.ref p] ∧ PoolAt h p g ∧ ∀ (n : Int) (h' : DH), PoolAt h' p g → FrP p g h h' → Q (.int n) h'
theorem ok_gap {C : Nat → Ct} (e3 : C 3 = ask cPick) (e4 : C 4 = ask cOne) (ds : List D) (h : DH) (Q : DK) (E : XD) (c : cGap ds h Q E) : xS T.cs C E ir_law_gap { nx := fun _ h' => Q .non h', rt := Q } (dstart N_law_gap.length ds) h := by
  obtain ⟨p, g, rfl, P, k⟩ := c
  show xS T.cs C E ir_law_gap _ (dstart 2 _) h
  unfold ir_law_gap
  walk_at "g"
  refine pick_i (n := 21) e3 P (by decide) (by decide) fun a h1 a0 a1 P1 fr1 => ?_
  walk_at "g"
  refine ⟨(cpow_ok : CPow 10 6), ?_⟩
  walk_at "g"
  refine ⟨(cpow_ok : CPow 10 6), ?_⟩
  walk_at "g"
  refine pick_i (n := 2000001) e3 P1 (by decide) (by decide) fun b h2 b0 b1 P2 fr2 => ?_
  walk_at "g"
  intro u hu
  walk_at "g"
  refine one_n (F := D.int) (xs := [0, 1, -1, a - 10, 10 ^ 6, -(10 ^ 6), b - 1000000]) e4 P2 hu rfl (by simp) (by simp) fun n h3 _ P3 fr3 => ?_
  exact k n h3 P3 ((fr1.trans fr2).trans fr3)
def cRing : Ct := fun ds h Q _ => ∃ (p g t : Addr) (pts : List Pt), ds = [.ref p, .ref t] ∧ PoolAt h p g ∧ h t = some (.lst (pts.map eP)) ∧ t ≠ p ∧ t ≠ g ∧ pts.length ≤ 500 ∧
  ∀ (rows : List Con) (r : Addr) (h' : DH), (∀ x ∈ rows, x.1 ∈ pts ∧ x.2.1 ∈ pts) → rows.length ≤ pts.length → (pts.Nodup → 2 ≤ pts.length → rows ≠ []) → PoolAt h' p g → FrP p g h h' → h r = none → h' r = some (.lst (rows.map eR)) → Q (.ref r) h'
theorem ok_ring {C : Nat → Ct} (e8 : C 8 = ask cGap) (ds : List D) (h : DH) (Q : DK) (E : XD) (c : cRing ds h Q E) : xS T.cs C E ir_law_ring { nx := fun _ h' => Q .non h', rt := Q } (dstart N_law_ring.length ds) h := by
  obtain ⟨p, g, t, pts, rfl, P, ht, n1, n2, hl, k⟩ := c
  show xS T.cs C E ir_law_ring _ (dstart 5 _) h
  unfold ir_law_ring
  walk_at "g"
  intro r hr
  have tr : t ≠ r := ne_new hr ht
  obtain ⟨r1, r2⟩ := P.nep hr
  walk_at "g"
  refine rng1 pts.length (by simp) (by simp; omega) ?_
  refine for_2 3 4 (fun i _ _ h' => ∃ rows : List Con, (∀ x ∈ rows, x.1 ∈ pts ∧ x.2.1 ∈ pts) ∧ rows.length ≤ i ∧ (pts.Nodup → 2 ≤ pts.length → 1 ≤ i → rows ≠ []) ∧ PoolAt h' p g ∧ FrP p g h h' ∧ h' r = some (.lst (rows.map eR)))
    ⟨[], (fun _ hx => by cases hx), Nat.zero_le _, fun _ _ z => absurd z (by decide), P.new hr, .new hr, updD_same⟩ (fun _ _ _ _ _ _ => trivial) ?_ ?_
  · rintro i x c3 c4 h1 hi ⟨rows, in_, rl, rn, P1, fr1, hr1⟩
    obtain ⟨rfl, hil⟩ := rangeD_get hi
    have ht1 := fr1 _ _ n1 n2 ht
    have hy : (i + 1) % pts.length < pts.length := Nat.mod_lt _ (by omega)
    unfold ir_law_ring_b1
    walk_at "g"
    refine ⟨by omega, ?_⟩
    rw [show (0 + (i : Int) + 1) % (pts.length : Int) = (((i + 1) % pts.length : Nat) : Int) by rw [show (0 + (i : Int) + 1) = ((i + 1 : Nat) : Int) by omega]; exact (Int.natCast_emod _ _).symm]
    walk_at "g"
    refine ne_pt ?_
    walk_at "g"
    have m1 : At pts (((i + 1) % pts.length : Nat) : Int) ∈ pts := At_mem (by omega) (by omega)
    have m2 : At pts (0 + (i : Int)) ∈ pts := At_mem (by omega) (by omega)
    refine iteN (fun a => ?_) (fun a => ?_)
    · walk_at "g"
      refine ask_of e8 ⟨p, g, rfl, P1, fun n h2 P2 fr2 => ?_⟩
      have hr2 := fr2 _ _ r1 r2 hr1
      walk_at "g"
      refine ⟨_, _, rfl, rows ++ [(At pts (((i + 1) % pts.length : Nat) : Int), At pts (0 + (i : Int)), n)], fun x hx => ?_, by simp; omega, fun _ _ _ => by simp, P2.set r1 r2, (fr1.trans fr2).write hr, by rw [updD_same, List.map_append]; rfl⟩
      rcases List.mem_append.1 hx with hx | hx
      · exact in_ x hx
      · rw [List.mem_singleton.1 hx]; exact ⟨m1, m2⟩
    · walk_at "g"
      refine ⟨_, _, rfl, rows, in_, by omega, fun nd l2 _ => ?_, P1, fr1, hr1⟩
      have g1 := get_At (xs := pts) (k := (((i + 1) % pts.length : Nat) : Int)) (by omega) (by omega)
      have g2 := get_At (xs := pts) (k := 0 + (i : Int)) (by omega) (by omega)
      rw [a] at g1
      obtain ⟨z1, y1⟩ := List.getElem?_eq_some_iff.1 g1
      obtain ⟨z2, y2⟩ := List.getElem?_eq_some_iff.1 g2
      have := (List.getElem_inj (h₀ := z1) (h₁ := z2) nd).1 (y1.trans y2.symm)
      have ne : (i + 1) % pts.length = i := by omega
      by_cases c : i + 1 < pts.length
      · rw [Nat.mod_eq_of_lt c] at ne; omega
      · rw [show i + 1 = pts.length by omega, Nat.mod_self] at ne; omega
  · rintro c3 c4 h1 ⟨rows, in_, rl, rn, P1, fr1, hr1⟩
    rw [rangeD_len] at rl rn
    unfold ir_law_ring_r0
    walk_at "g"
    exact k rows r h1 in_ rl (fun nd l2 => rn nd l2 (by omega)) P1 fr1 hr hr1
def cFree : Ct := fun ds h Q _ => ∃ (p g t : Addr) (pts : List Pt), ds = [.ref p, .ref t] ∧ PoolAt h p g ∧ h t = some (.lst (pts.map eP)) ∧ t ≠ p ∧ t ≠ g ∧ pts.length ≤ 300 ∧ pts ≠ [] ∧
  ∀ (rows : List Con) (r : Addr) (h' : DH), (∀ x ∈ rows, x.1 ∈ pts ∧ x.2.1 ∈ pts) → rows.length ≤ 10 → PoolAt h' p g → FrP p g h h' → h r = none → h' r = some (.lst (rows.map eR)) → Q (.ref r) h'
theorem ok_free {C : Nat → Ct} (e3 : C 3 = ask cPick) (e4 : C 4 = ask cOne) (e8 : C 8 = ask cGap) (ds : List D) (h : DH) (Q : DK) (E : XD) (c : cFree ds h Q E) : xS T.cs C E ir_law_free { nx := fun _ h' => Q .non h', rt := Q } (dstart N_law_free.length ds) h := by
  obtain ⟨p, g, t, pts, rfl, P, ht, n1, n2, hl, hne, k⟩ := c
  show xS T.cs C E ir_law_free _ (dstart 6 _) h
  unfold ir_law_free
  walk_at "g"
  intro r hr
  have tr : t ≠ r := ne_new hr ht
  obtain ⟨r1, r2⟩ := P.nep hr
  walk_at "g"
  refine pick_i e3 (P.new hr) (by decide) (by decide) fun n h0 na nb P0 fr0 => ?_
  have fr00 : FrP p g h h0 := (FrP.new hr).trans fr0
  have hr0 := fr0 _ _ r1 r2 updD_same
  walk_at "g"
  refine rng1 n.toNat rfl (by omega) ?_
  refine for_3 3 4 5 (fun i _ _ _ h' => ∃ rows : List Con, (∀ x ∈ rows, x.1 ∈ pts ∧ x.2.1 ∈ pts) ∧ rows.length ≤ i ∧ PoolAt h' p g ∧ FrP p g h h' ∧ h' r = some (.lst (rows.map eR)))
    ⟨[], (fun _ hx => by cases hx), Nat.zero_le _, P0, fr00, hr0⟩ (fun _ _ _ _ _ _ _ => trivial) ?_ ?_
  · rintro i x c3 c4 c5 h1 hi ⟨rows, in_, rl, P1, fr1, hr1⟩
    obtain ⟨rfl, hil⟩ := rangeD_get hi
    have ht1 := fr1 _ _ n1 n2 ht
    unfold ir_law_free_b1
    walk_at "g"
    refine one_l e4 P1 ht1 n1 n2 hne (by omega) fun a h2 ha P2 fr2 => ?_
    walk_at "g"
    refine one_l e4 P2 (fr2 _ _ n1 n2 ht1) n1 n2 hne (by omega) fun b h3 hb P3 fr3 => ?_
    have fr13 := (fr1.trans fr2).trans fr3
    have hr3 := fr3 _ _ r1 r2 (fr2 _ _ r1 r2 hr1)
    walk_at "g"
    refine ne_pt ?_
    walk_at "g"
    refine iteN (fun _ => ?_) (fun _ => ?_)
    · walk_at "g"
      refine ask_of e8 ⟨p, g, rfl, P3, fun n h4 P4 fr4 => ?_⟩
      have hr4 := fr4 _ _ r1 r2 hr3
      walk_at "g"
      refine ⟨_, _, _, rfl, rows ++ [(a, b, n)], fun x hx => ?_, by simp; omega, P4.set r1 r2, (fr13.trans fr4).write hr, by rw [updD_same, List.map_append]; rfl⟩
      rcases List.mem_append.1 hx with hx | hx
      · exact in_ x hx
      · rw [List.mem_singleton.1 hx]; exact ⟨ha, hb⟩
    · walk_at "g"
      exact ⟨_, _, _, rfl, rows, in_, by omega, P3, fr13, hr3⟩
  · rintro c3 c4 c5 h1 ⟨rows, in_, rl, P1, fr1, hr1⟩
    rw [rangeD_len] at rl
    unfold ir_law_free_r0
    walk_at "g"
    exact k rows r h1 in_ (by omega) P1 fr1 hr hr1
end K02
namespace K02
instance : Inhabited DL.Con := ⟨(org, org, 0)⟩
def InS (S : List Pt) (rows : List Con) : Prop := ∀ x ∈ rows, x.1 ∈ S ∧ x.2.1 ∈ S
theorem InS.cut {S : List Pt} {rows : List Con} (i : InS S rows) {lo hi : Option Int} : InS S (cutG rows lo hi) := fun x hx => i x (cutG_sub hx)
theorem InS.add {S : List Pt} {a b : List Con} (i : InS S a) (j : InS S b) : InS S (a ++ b) := fun x hx => (List.mem_append.1 hx).elim (i x) (j x)
theorem InS.one {S : List Pt} {x : Con} (i : x.1 ∈ S ∧ x.2.1 ∈ S) : InS S [x] := fun y hy => by rw [List.mem_singleton.1 hy]; exact i
def cBent : Ct := fun ds h Q _ => ∃ p g t rows z S, ds = [.ref p, .ref t, eP z] ∧ PoolAt h p g ∧ h t = some (.lst (rows.map eR)) ∧ t ≠ p ∧ t ≠ g ∧ rows ≠ [] ∧ rows.length ≤ 300 ∧ InS S rows ∧ z ∈ S ∧
  ∀ (rows' : List Con) (r : Addr) (h' : DH), InS S rows' → rows'.length ≤ 700 → PoolAt h' p g → FrP p g h h' → h r = none → h' r = some (.lst (rows'.map eR)) → Q (.ref r) h'
theorem ok_bent {C : Nat → Ct} (e3 : C 3 = ask cPick) (ds : List D) (h : DH) (Q : DK) (E : XD) (c : cBent ds h Q E) : xS T.cs C E ir_law_bent { nx := fun _ h' => Q .non h', rt := Q } (dstart N_law_bent.length ds) h := by
  obtain ⟨p, g, t, rows, z, S, rfl, P, ht, n1, n2, hne, hl, inS, zS, k⟩ := c
  show xS T.cs C E ir_law_bent _ (dstart 8 _) h
  have h0 : 0 < rows.length := List.length_pos_iff.mpr hne
  have big : (300 : Nat) < 2 ^ 200 := by decide
  unfold ir_law_bent
  walk_at "g"
  refine pick_i e3 P (by decide) (by decide) fun way h1 w0 w1 P1 fr1 => ?_
  walk_at "g"
  refine pick_i (n := rows.length) e3 P1 (by omega) (by omega) fun a h2 a0 a1 P2 fr2 => ?_
  walk_at "g"
  have ht2 := (fr1.trans fr2) _ _ n1 n2 ht
  refine len_l ht2 ?_
  rw [List.length_map]
  walk_at "g"
  refine pick_i (n := rows.length) e3 P2 (by omega) (by omega) fun b h3 b0 b1 P3 fr3 => ?_
  have fr := (fr1.trans fr2).trans fr3
  have ht3 := fr _ _ n1 n2 ht
  have fin : ∀ (rows' : List Con) (r : Addr) (h' : DH), InS S rows' → rows'.length ≤ 700 → Sm h3 h' → h3 r = none → h' r = some (.lst (rows'.map eR)) → Q (.ref r) h' := fun rows' r h' i l s f e =>
    k rows' r h' i l (P3.sm s) (fr.trans s.frp) (fr.free P3 f) e
  clear k P P1 P2 fr1 fr2 fr3
  walk_at "g"
  have ri := inS _ (At_mem (xs := rows) a0 a1)
  obtain ⟨row, er⟩ : ∃ r, At rows a = r := ⟨_, rfl⟩
  rw [er] at ri ⊢
  have cl : ∀ lo hi, (cutG rows lo hi).length ≤ 300 := fun lo hi => Nat.le_trans cutG_len hl
  have last : ∀ (lo hi : Option Int) (L : List DL.Con) (v1 : Addr) (g1 : DH), InS S L → L.length ≤ 310 → h3 v1 = none → g1 v1 = some (.lst (L.map eR)) → Sm h3 g1 → newL g1 ((cutG rows lo hi).map eR) fun y h' => binD .Add (.ref v1) y h' Q := by
    intro lo hi L v1 g1 i1 l1 f1 e1 s1
    refine newL_mk fun v2 g2 f2 e2 s2 => ?_
    refine add_l (s2 _ _ e1) e2 (by have := cl lo hi; simp only [List.length_map]; omega) fun v3 g3 f3 e3 s3 => ?_
    rw [← List.map_append] at e3
    exact fin _ v3 g3 (i1.add inS.cut) (by have := cl lo hi; rw [List.length_append]; omega) ((s1.trans s2).trans s3) (s1.free (s2.free f3)) e3
  have mid : ∀ (lo hi : Option Int) (x : DL.Con) (v1 : Addr) (g1 : DH) (K : DK), x.1 ∈ S ∧ x.2.1 ∈ S → h3 v1 = none → g1 v1 = some (.lst ((cutG rows lo hi).map eR)) → Sm h3 g1 →
      (∀ (L : List DL.Con) (v3 : Addr) (g3 : DH), InS S L → L.length ≤ 310 → h3 v3 = none → g3 v3 = some (.lst (L.map eR)) → Sm h3 g3 → K (.ref v3) g3) → newL g1 [eR x] fun y h' => binD .Add (.ref v1) y h' K := by
    intro lo hi x v1 g1 K ix f1 e1 s1 kk
    refine newL_mk fun v2 g2 f2 e2 s2 => ?_
    refine add_l (ys := [eR x]) (s2 _ _ e1) e2 (by have := cl lo hi; simp; omega) fun v3 g3 f3 e3 s3 => ?_
    exact kk (cutG rows lo hi ++ [x]) v3 g3 (inS.cut.add (.one ix)) (by have := cl lo hi; simp; omega) (s1.free (s2.free f3)) (by rw [List.map_append]; exact e3) ((s1.trans s2).trans s3)
  refine iteD (fun q => ?_) (fun q => ?_)
  · walk_at "g"
    rw [cut_map]
    refine newL_mk fun v1 g1 hv1 gv1 s1 => ?_
    walk_at "g"
    refine mid _ _ (row.2.1, row.1, row.2.2) v1 g1 _ ⟨ri.2, ri.1⟩ hv1 gv1 s1 fun L v3 g3 iL lL f3 e3 s3 => ?_
    have t3 := s3 _ _ ht3
    walk_at "g"
    rw [cut_map]
    exact last _ _ L v3 g3 iL lL f3 e3 s3
  walk_at "g"
  refine (?_ : xS T.cs C E ir_law_bent_r9 _ _ _)
  unfold ir_law_bent_r9
  walk_at "g"
  refine iteD (fun q => ?_) (fun q => ?_)
  · walk_at "g"
    rw [cut_map]
    refine newL_mk fun v1 g1 hv1 gv1 s1 => ?_
    have t1 := s1 _ _ ht3
    walk_at "g"
    rw [cut_map]
    exact last _ _ _ v1 g1 inS.cut (by have := cl none (some a); omega) hv1 gv1 s1
  walk_at "g"
  refine (?_ : xS T.cs C E ir_law_bent_r8 _ _ _)
  unfold ir_law_bent_r8
  walk_at "g"
  refine iteD (fun q => ?_) (fun q => ?_)
  · walk_at "g"
    rw [cut_map]
    refine newL_mk fun v1 g1 hv1 gv1 s1 => ?_
    walk_at "g"
    refine mid _ _ row v1 g1 _ ri hv1 gv1 s1 fun L v3 g3 iL lL f3 e3 s3 => ?_
    have t3 := s3 _ _ ht3
    walk_at "g"
    rw [cut_map]
    exact last _ _ L v3 g3 iL lL f3 e3 s3
  walk_at "g"
  refine (?_ : xS T.cs C E ir_law_bent_r7 _ _ _)
  unfold ir_law_bent_r7
  walk_at "g"
  refine iteD (fun q => ?_) (fun q => ?_)
  · walk_at "g"
    rw [cut_map]
    refine newL_mk fun v1 g1 hv1 gv1 s1 => ?_
    walk_at "g"
    refine mid _ _ row v1 g1 _ ri hv1 gv1 s1 fun L v3 g3 iL lL f3 e3 s3 => ?_
    have t3 := s3 _ _ ht3
    walk_at "g"
    rw [cut_map]
    exact last _ _ L v3 g3 iL lL f3 e3 s3
  walk_at "g"
  refine (?_ : xS T.cs C E ir_law_bent_r6 _ _ _)
  unfold ir_law_bent_r6
  walk_at "g"
  refine iteD (fun q => ?_) (fun q => ?_)
  · walk_at "g"
    rw [cut_map]
    refine newL_mk fun v1 g1 hv1 gv1 s1 => ?_
    walk_at "g"
    refine mid _ _ (z, row.2.1, row.2.2) v1 g1 _ ⟨zS, ri.2⟩ hv1 gv1 s1 fun L v3 g3 iL lL f3 e3 s3 => ?_
    have t3 := s3 _ _ ht3
    walk_at "g"
    rw [cut_map]
    exact last _ _ L v3 g3 iL lL f3 e3 s3
  walk_at "g"
  refine (?_ : xS T.cs C E ir_law_bent_r5 _ _ _)
  unfold ir_law_bent_r5
  walk_at "g"
  refine iteD (fun q => ?_) (fun q => ?_)
  · walk_at "g"
    rw [cut_map]
    refine newL_mk fun v1 g1 hv1 gv1 s1 => ?_
    walk_at "g"
    refine mid _ _ (row.1, z, row.2.2) v1 g1 _ ⟨ri.1, zS⟩ hv1 gv1 s1 fun L v3 g3 iL lL f3 e3 s3 => ?_
    have t3 := s3 _ _ ht3
    walk_at "g"
    rw [cut_map]
    exact last _ _ L v3 g3 iL lL f3 e3 s3
  walk_at "g"
  refine (?_ : xS T.cs C E ir_law_bent_r4 _ _ _)
  unfold ir_law_bent_r4
  walk_at "g"
  refine iteD (fun q => ?_) (fun q => ?_)
  · walk_at "g"
    refine add_l ht3 ht3 (by simp only [List.length_map]; omega) fun v3 g3 f3 e3 s3 => ?_
    rw [← List.map_append] at e3
    exact fin _ v3 g3 (inS.add inS) (by rw [List.length_append]; omega) s3 f3 e3
  walk_at "g"
  refine (?_ : xS T.cs C E ir_law_bent_r3 _ _ _)
  unfold ir_law_bent_r3
  walk_at "g"
  refine iteD (fun q => ?_) (fun q => ?_)
  · walk_at "g"
    rw [cut_map]
    refine newL_mk fun v1 g1 hv1 gv1 s1 => ?_
    have t1 := s1 _ _ ht3
    walk_at "g"
    rw [cut_map]
    exact last _ _ _ v1 g1 inS.cut (by have := cl (some a) none; omega) hv1 gv1 s1
  walk_at "g"
  refine (?_ : xS T.cs C E ir_law_bent_r2 _ _ _)
  unfold ir_law_bent_r2
  walk_at "g"
  refine iteD (fun q => ?_) (fun q => ?_)
  · walk_at "g"
    refine newL_mk fun v1 g1 hv1 gv1 s1 => ?_
    exact fin rows.reverse v1 g1 (fun x hx => inS x (List.mem_reverse.1 hx)) (by rw [List.length_reverse]; omega) s1 hv1 gv1
  walk_at "g"
  refine (?_ : xS T.cs C E ir_law_bent_r1 _ _ _)
  unfold ir_law_bent_r1
  walk_at "g"
  refine newL_mk fun v1 g1 hv1 gv1 s1 => ?_
  have t1 := s1 _ _ ht3
  walk_at "g"
  have r0 : ∀ (L : List DL.Con) (g2 : DH), InS S L → L.length ≤ 310 → g2 v1 = some (.lst (L.map eR)) → Sm h3 g2 → xS T.cs C E ir_law_bent_r0 { nx := fun _ h' => Q .non h', rt := Q } [some (.ref p), some (.ref t), some (eP z), some (.int way), some (.int a), some (.int b), some (eR row), some (.ref v1)] g2 := by
    intro L g2 iL lL e2 s2
    unfold ir_law_bent_r0
    walk_at "g"
    exact fin L v1 g2 iL (by omega) s2 hv1 e2
  refine iteD (fun q => ?_) (fun q => ?_)
  · walk_at "g"
    show setR v1 (.int a) (eR (At rows b)) g1 _
    refine set_l gv1 (ixN_at a0 (by rw [List.length_map]; exact a1)) ?_
    walk_at "g"
    show setR v1 (.int b) (eR row) _ _
    refine set_l updD_same (ixN_at b0 (by rw [List.length_set, List.length_map]; exact b1)) ?_
    walk_at "g"
    refine (?_ : xS T.cs C E ir_law_bent_r0 _ _ _)
    refine r0 ((rows.set a.toNat (At rows b)).set b.toNat row) _ (fun x hx => ?_) (by simp; omega) (by rw [updD_same, List.map_set, List.map_set]) ((s1.write hv1).write hv1)
    rcases List.mem_or_eq_of_mem_set hx with hx | rfl
    · rcases List.mem_or_eq_of_mem_set hx with hx | rfl
      · exact inS x hx
      · exact inS _ (At_mem b0 b1)
    · exact ri
  · walk_at "g"
    refine (?_ : xS T.cs C E ir_law_bent_r0 _ _ _)
    exact r0 rows g1 inS (by omega) gv1 s1
end K02
namespace K02
def C : Nat → Ct := fun i => match i with
  | 0 => ask cCycle
  | 1 => ask cTotal
  | 2 => ask cPool
  | 3 => ask cPick
  | 4 => ask cOne
  | 5 => ask cNames
  | 6 => ask cPoints
  | 7 => ask cLong
  | 8 => ask cGap
  | 9 => ask cRing
  | 10 => ask cBent
  | 11 => ask cFree
  | 12 => ask cRound
  | 13 => ask cRight
  | 14 => ask cRows
  | _ => ask cPool
theorem cut_ne {seq : List Pt} {n : Int} (h : 2 ≤ seq.length) (hn : 2 ≤ n) : cutG seq none (some n) ≠ [] := by
  obtain ⟨m, rfl⟩ : ∃ m : Nat, n = m := ⟨n.toNat, by omega⟩
  intro e
  have := congrArg List.length e
  simp only [cutG, HT.sIx_none, HT.sIx_nat, List.length_take, List.length_drop, List.length_nil] at this
  omega
theorem set_nd {α : Type} {y : α} : ∀ {xs : List α} {j : Nat}, xs.Nodup → y ∉ xs → (xs.set j y).Nodup
  | [], _, n, _ => n
  | x :: xs, 0, n, h => List.nodup_cons.2 ⟨fun e => h (List.mem_cons_of_mem _ e), (List.nodup_cons.1 n).2⟩
  | x :: xs, j + 1, n, h => by
    obtain ⟨n1, n2⟩ := List.nodup_cons.1 n
    refine List.nodup_cons.2 ⟨fun e => ?_, set_nd n2 fun e => h (List.mem_cons_of_mem _ e)⟩
    rcases List.mem_or_eq_of_mem_set e with e | e
    · exact n1 e
    · exact h (by rw [← e]; exact List.mem_cons_self)
theorem r2_ok {pts seq : List Pt} {ns : List Int} {p g t v : Addr} {h : DH} {i : Nat} {N : DEnds} {c5 c6 c7 c8 c9 : Option D} {E : XD} (l3 : 3 ≤ pts.length) (l201 : pts.length ≤ 201) (P : PoolAt h p g) (ht : h t = some (.lst (pts.map eP))) (n1 : t ≠ p) (n2 : t ≠ g)
    (s2 : 2 ≤ seq.length) (s200 : seq.length ≤ 200) (nd : seq.Nodup) (sub : ∀ x ∈ seq, x ∈ org :: pts) (hv : h v = some (.lst (seq.map eP))) (m1 : v ≠ p) (m2 : v ≠ g)
    (kN : ∀ c5 c6 c7 c8 c9 h', PoolAt h' p g → N.nx [some (.rl (ns.map D.int)), some (.ref p), some (.int (0 + (i : Int))), some (.ref t), some (.ref v), c5, c6, c7, c8, c9] h') :
    xS T.cs C E ir_law_r2 N [some (.rl (ns.map D.int)), some (.ref p), some (.int (0 + (i : Int))), some (.ref t), some (.ref v), c5, c6, c7, c8, c9] h := by
  have inS : ∀ {rows : List DL.Con} {qs : List Pt}, (∀ x ∈ rows, x.1 ∈ qs ∧ x.2.1 ∈ qs) → (∀ x ∈ qs, x ∈ org :: pts) → InS (org :: pts) rows := fun a b x hx => ⟨b _ (a x hx).1, b _ (a x hx).2⟩
  have ok : ∀ {rows : List DL.Con}, InS (org :: pts) rows → rows.length ≤ 1000 → RowsOk rows := fun i l => ⟨l, org :: pts, by simp; omega, i⟩
  have big : (300 : Nat) < 2 ^ 200 := by decide
  unfold ir_law_r2
  walk_at "g"
  refine ask_of (c := cRing) rfl ⟨p, g, v, seq, rfl, P, hv, m1, m2, by omega, fun rows r h1 in1 rl1 rn1 P1 fr1 fr hr1 => ?_⟩
  obtain ⟨r1, r2⟩ := P.nep fr
  have hv1 := fr1 _ _ m1 m2 hv
  have rne := rn1 nd s2
  walk_at "g"
  refine pick_i (f := 3) (n := (seq.length : Int) + 1) rfl P1 (by omega) (by have := big; omega) fun a h2 a0 a1 P2 fr2 => ?_
  have hv2 := fr2 _ _ m1 m2 hv1
  walk_at "g"
  rw [cut_map]
  refine newL_mk fun w1 h3 hw1 gw1 s3 => ?_
  walk_at "g"
  refine one_l (f := 4) rfl (P2.sm s3) (s3 _ _ hv2) m1 m2 (by intro e; rw [e] at s2; exact absurd s2 (by decide)) (by omega) fun y h4 hy P4 fr4 => ?_
  obtain ⟨w11, w12⟩ := P2.nep hw1
  have gw14 := fr4 _ _ w11 w12 gw1
  have hv4 := fr4 _ _ m1 m2 (s3 _ _ hv2)
  walk_at "g"
  refine newL_mk fun w2 h5 hw2 gw2 s5 => ?_
  walk_at "g"
  refine add_l (ys := [eP y]) (s5 _ _ gw14) gw2 (by have := cutG_len (xs := seq) (lo := none) (hi := some a); simp; omega) fun w3 h6 hw3 gw3 s6 => ?_
  have s46 := s5.trans s6
  have hv6 := s46 _ _ hv4
  walk_at "g"
  rw [cut_map]
  refine newL_mk fun w4 h7 hw4 gw4 s7 => ?_
  walk_at "g"
  refine add_l (s7 _ _ gw3) gw4 (by have := cutG_len (xs := seq) (lo := none) (hi := some a); have := cutG_len (xs := seq) (lo := some a) (hi := none); simp; omega) fun w5 h8 hw5 gw5 s8 => ?_
  have etw : (cutG seq none (some a)).map eP ++ [eP y] ++ (cutG seq (some a) none).map eP = (cutG seq none (some a) ++ [y] ++ cutG seq (some a) none).map eP := by rw [List.map_append, List.map_append]; rfl
  rw [etw] at gw5
  have tsub : ∀ x ∈ cutG seq none (some a) ++ [y] ++ cutG seq (some a) none, x ∈ org :: pts := fun x hx => by
    rcases List.mem_append.1 hx with hx | hx
    · rcases List.mem_append.1 hx with hx | hx
      · exact sub x (cutG_sub hx)
      · rw [List.mem_singleton.1 hx]; exact sub y hy
    · exact sub x (cutG_sub hx)
  have tlen : (cutG seq none (some a) ++ [y] ++ cutG seq (some a) none).length ≤ 401 := by
    have := cutG_len (xs := seq) (lo := none) (hi := some a); have := cutG_len (xs := seq) (lo := some a) (hi := none); simp; omega
  generalize cutG seq none (some a) ++ [y] ++ cutG seq (some a) none = tw at gw5 tsub tlen
  have s48 := (s46.trans s7).trans s8
  have P8 := P4.sm s48
  obtain ⟨w51, w52⟩ := P4.nep (((s5.trans s6).trans s7).free hw5)
  have fr48 : FrP p g h h8 := (((fr1.trans fr2).trans s3.frp).trans fr4).trans s48.frp
  have hv8 := fr48 _ _ m1 m2 hv
  have hr8 : h8 r = some (.lst (rows.map eR)) := s48 _ _ (fr4 _ _ r1 r2 (s3 _ _ (fr2 _ _ r1 r2 hr1)))
  have ht8 := fr48 _ _ n1 n2 ht
  clear s46 s48
  walk_at "g"
  intro w6 hw6
  walk_at "g"
  refine one_n (xs := [2, 3, 3, 200]) (F := D.int) (f := 4) rfl P8 hw6 rfl (by simp) (by simp) fun cut h9 hc P9 fr9 => ?_
  have cb : 2 ≤ cut ∧ cut ≤ 200 := by simp at hc; omega
  have hv9 := fr9 _ _ m1 m2 hv8
  walk_at "g"
  rw [cut_map]
  refine newL_mk fun w7 h10 hw7 gw7 s10 => ?_
  obtain ⟨w71, w72⟩ := P9.nep hw7
  walk_at "g"
  refine ask_of (c := cFree) rfl ⟨p, g, w7, cutG seq none (some cut), rfl, P9.sm s10, gw7, w71, w72, by have := cutG_len (xs := seq) (lo := none) (hi := some cut); omega, cut_ne s2 cb.1, fun free f h11 in2 rl2 P11 fr11 ff hf11 => ?_⟩
  obtain ⟨f1, f2⟩ := (P9.sm s10).nep ff
  have fr811 := (fr9.trans s10.frp).trans fr11
  have hr11 := fr811 _ _ r1 r2 hr8
  have gw11 := fr811 _ _ w51 w52 gw5
  have ht11 := fr811 _ _ n1 n2 ht8
  walk_at "g"
  refine sub_l ht11 (atI_lst (by omega)) ?_
  have zS : At pts ((pts.length : Int) - 1) ∈ org :: pts := List.mem_cons_of_mem _ (At_mem (by omega) (by omega))
  walk_at "g"
  have iS := inS in1 sub
  refine ask_of (c := cBent) rfl ⟨p, g, r, rows, At pts ((pts.length : Int) - 1), org :: pts, rfl, P11, hr11, r1, r2, rne, by omega, iS, zS, fun rows2 rb h12 iS2 lb P12 fr12 fb hb12 => ?_⟩
  obtain ⟨b1, b2⟩ := P11.nep fb
  walk_at "g"
  refine ask_of (c := cRing) rfl ⟨p, g, w5, tw, rfl, P12, fr12 _ _ w51 w52 gw11, w51, w52, by omega, fun rows3 r3 h13 in3 rl3 _ P13 fr13 f3 hr13 => ?_⟩
  obtain ⟨r31, r32⟩ := P12.nep f3
  have hr_13 := fr13 _ _ r1 r2 (fr12 _ _ r1 r2 hr11)
  have hb_13 := fr13 _ _ b1 b2 hb12
  have hf_13 := fr13 _ _ f1 f2 (fr12 _ _ f1 f2 hf11)
  walk_at "g"
  refine newL_mk fun w8 h14 hw8 gw8 s14 => ?_
  have P14 := P13.sm s14
  obtain ⟨w81, w82⟩ := P13.nep hw8
  walk_at "g"
  have oks : ∀ x ∈ [D.ref r, .ref rb, .ref r3, .ref f], ∃ u L, x = .ref u ∧ h14 u = some (.lst (L.map eR)) ∧ RowsOk L := fun x hx => by
    simp only [List.mem_cons, List.not_mem_nil, or_false] at hx
    rcases hx with rfl | rfl | rfl | rfl
    · exact ⟨_, _, rfl, s14 _ _ hr_13, ok iS (by omega)⟩
    · exact ⟨_, _, rfl, s14 _ _ hb_13, ok iS2 (by omega)⟩
    · exact ⟨_, _, rfl, s14 _ _ hr13, ok (inS in3 tsub) (by omega)⟩
    · exact ⟨_, _, rfl, s14 _ _ hf_13, ok (inS in2 fun x hx => sub x (cutG_sub hx)) (by omega)⟩
  refine for_1 9 (fun _ _ h' => Sm h14 h') (.refl _) (fun i _ h' _ s => s _ _ gw8) ?_ ?_
  · rintro j x c9 h15 hj s15
    obtain ⟨u, L, rfl, hu, lo⟩ := oks x (List.mem_of_getElem? hj)
    unfold ir_law_b1
    walk_at "g"
    refine ask_of (c := cRows) rfl ⟨u, L, rfl, s15 _ _ hu, lo, fun h16 s16 => ?_⟩
    walk_at "g"
    exact s15.trans s16
  · rintro c9 h15 s15
    walk_at "g"
    exact kN _ _ _ _ _ _ (P14.sm s15)
theorem ok_law (ds : List D) (h : DH) (Q : DK) (E : XD) (c : cLaw ds h Q E) : xS T.cs C E ir_law { nx := fun _ h' => Q .non h', rt := Q } (dstart N_law.length ds) h := by
  obtain ⟨ns, rfl, ln, _, k⟩ := c
  show xS T.cs C E ir_law _ (dstart 10 _) h
  unfold ir_law
  walk_at "g"
  refine ask_of (c := cPool) rfl ⟨ns, 102, rfl, ln, fun p g h1 hp hg P1 s1 => ?_⟩
  walk_at "g"
  refine rng1 3 (by decide) (by decide) ?_
  refine for_8 2 3 4 5 6 7 8 9 (fun i _ _ _ _ _ _ _ _ h' => PoolAt h' p g) P1 (fun _ _ _ _ _ _ _ _ _ _ _ _ => trivial) ?_ ?_
  · rintro i x c2 c3 c4 c5 c6 c7 c8 c9 h2 hi P2
    obtain ⟨rfl, hil⟩ := rangeD_get hi
    unfold ir_law_b4
    walk_at "g"
    intro u hu
    walk_at "g"
    refine one_n (xs := [2, 2, 3, 4, 5, 7, 9]) (F := D.int) (f := 4) rfl P2 hu rfl (by simp) (by simp) fun many h3 hm P3 fr3 => ?_
    have hmb : 2 ≤ many ∧ many ≤ 9 := by simp at hm; omega
    walk_at "g"
    refine ask_of (c := cPoints) rfl ⟨p, g, (1 + many).toNat, by rw [show (((1 + many).toNat : Nat) : Int) = 1 + many by omega], P3, by omega, fun pts t h4 pl pnd po P4 fr4 ht ht4 => ?_⟩
    have rest : ∀ (pts : List Pt) (t : Addr) (h4 : DH) (N : DEnds), 3 ≤ pts.length → pts.length ≤ 201 → pts.Nodup → (∀ x ∈ pts, x.a ≠ ("o" : Str)) → PoolAt h4 p g → h4 t = some (.lst (pts.map eP)) → t ≠ p → t ≠ g →
        (∀ c3 c4 c5 c6 c7 c8 c9 h', PoolAt h' p g → N.nx [some (.rl (ns.map D.int)), some (.ref p), some (.int (0 + (i : Int))), c3, c4, c5, c6, c7, c8, c9] h') →
        xS T.cs C E ir_law_r3 N [some (.rl (ns.map D.int)), some (.ref p), some (.int (0 + (i : Int))), some (.ref t), c4, c5, c6, c7, c8, c9] h4 := by
      intro pts t h4 N l3 l201 nd po P4 ht4 n1 n2 kN
      have big : (300 : Nat) < 2 ^ 200 := by decide
      unfold ir_law_r3
      walk_at "g"
      rw [cut_map]
      have ec : cutG pts none (some (-1)) = pts.dropLast := by
        simp only [cutG, HT.sIx_none]
        rw [show HT.sIx pts.length pts.length (some (-1)) = pts.length - 1 from by simp [HT.sIx]; omega]
        rw [List.drop_zero, Nat.sub_zero, List.dropLast_eq_take]
      rw [ec]
      refine newL_mk fun v h5 hv hv5 s5 => ?_
      obtain ⟨m1, m2⟩ := P4.nep hv
      have dl := List.length_dropLast (xs := pts)
      have dsub := List.dropLast_subset pts
      have dnd : pts.dropLast.Nodup := by rw [List.dropLast_eq_take]; exact nd.sublist (List.take_sublist _ _)
      walk_at "g"
      refine pick_i (f := 3) (n := 2) rfl (P4.sm s5) (by decide) (by decide) fun b h6 b0 b1 P6 fr6 => ?_
      have hv6 := fr6 _ _ m1 m2 hv5
      have ht6 := fr6 _ _ n1 n2 (s5 _ _ ht4)
      walk_at "g"
      refine iteD (fun _ => ?_) (fun _ => ?_)
      · walk_at "g"
        refine pick_i (f := 3) (n := (pts.dropLast.length : Nat)) rfl P6 (by omega) (by have := big; omega) fun j h7 j0 j1 P7 fr7 => ?_
        have hv7 := fr7 _ _ m1 m2 hv6
        have ht7 := fr7 _ _ n1 n2 ht6
        walk_at "g"
        show setR v (.int j) (eP org) h7 _
        refine set_l hv7 (ixN_at j0 (by rw [List.length_map]; exact j1)) ?_
        walk_at "g"
        refine (?_ : xS T.cs C E ir_law_r2 _ _ _)
        have no : org ∉ pts.dropLast := fun hm => po _ (dsub hm) rfl
        exact r2_ok (seq := pts.dropLast.set j.toNat org) l3 l201 (P7.set m1 m2) (by rw [updD_ne (ne_new hv ht4)]; exact ht7) n1 n2 (by rw [List.length_set]; omega) (by rw [List.length_set]; omega) (set_nd dnd no) (fun x hx => (List.mem_or_eq_of_mem_set hx).elim (fun hx => List.mem_cons_of_mem _ (dsub hx)) fun e => by rw [e]; exact List.mem_cons_self)
          (by rw [updD_same, List.map_set]) m1 m2 fun _ _ _ _ _ h' P' => kN _ _ _ _ _ _ _ h' P'
      · walk_at "g"
        refine (?_ : xS T.cs C E ir_law_r2 _ _ _)
        exact r2_ok l3 l201 P6 ht6 n1 n2 (by omega) (by omega) dnd (fun x hx => List.mem_cons_of_mem _ (dsub hx)) hv6 m1 m2 fun _ _ _ _ _ h' P' => kN _ _ _ _ _ _ _ h' P'
    obtain ⟨nt1, nt2⟩ := P3.nep ht
    walk_at "g"
    refine iteD (fun _ => ?_) (fun _ => ?_)
    · walk_at "g"
      refine pick_i (f := 3) (n := 16) rfl P4 (by decide) (by decide) fun b h5 b0 b1 P5 fr5 => ?_
      walk_at "g"
      refine iteD (fun _ => ?_) (fun _ => ?_)
      · walk_at "g"
        refine ask_of (c := cLong) rfl ⟨p, g, rfl, P5, fun pts2 t2 h6 l11 l201 nd2 po2 P6 fr6 ht2 ht26 => ?_⟩
        obtain ⟨q1, q2⟩ := P5.nep ht2
        walk_at "g"
        refine (?_ : xS T.cs C E ir_law_r3 _ _ _)
        exact rest pts2 t2 h6 _ (by omega) l201 nd2 po2 P6 ht26 q1 q2 fun c3 c4 c5 c6 c7 c8 c9 h' P' => ⟨_, _, _, _, _, _, _, _, rfl, P'⟩
      · walk_at "g"
        refine (?_ : xS T.cs C E ir_law_r3 _ _ _)
        exact rest pts t h5 _ (by omega) (by omega) pnd po P5 (fr5 _ _ nt1 nt2 ht4) nt1 nt2 fun c3 c4 c5 c6 c7 c8 c9 h' P' => ⟨_, _, _, _, _, _, _, _, rfl, P'⟩
    · walk_at "g"
      refine (?_ : xS T.cs C E ir_law_r3 _ _ _)
      exact rest pts t h4 _ (by omega) (by omega) pnd po P4 ht4 nt1 nt2 fun c3 c4 c5 c6 c7 c8 c9 h' P' => ⟨_, _, _, _, _, _, _, _, rfl, P'⟩
  · intro c2 c3 c4 c5 c6 c7 c8 c9 h2 P2
    refine (?_ : xS T.cs C E ir_law_r0 _ _ _)
    unfold ir_law_r0
    walk_at "g"
    exact k h2
end K02
open PySem L2 DL
namespace K02
theorem ct_is_cycle : CtLen (T.ps 0).length cCycle := fun ds h Q E c => by
  repeat (obtain ⟨a, c⟩ := c; first | (subst a; rfl) | skip)
theorem ct_total : CtLen (T.ps 1).length cTotal := fun ds h Q E c => by
  repeat (obtain ⟨a, c⟩ := c; first | (subst a; rfl) | skip)
theorem ct_law_pool : CtLen (T.ps 2).length cPool := fun ds h Q E c => by
  repeat (obtain ⟨a, c⟩ := c; first | (subst a; rfl) | skip)
theorem ct_law_pick : CtLen (T.ps 3).length cPick := fun ds h Q E c => by
  repeat (obtain ⟨a, c⟩ := c; first | (subst a; rfl) | skip)
theorem ct_law_one : CtLen (T.ps 4).length cOne := fun ds h Q E c => by
  repeat (obtain ⟨a, c⟩ := c; first | (subst a; rfl) | skip)
theorem ct_law_names : CtLen (T.ps 5).length cNames := fun ds h Q E c => by
  repeat (obtain ⟨a, c⟩ := c; first | (subst a; rfl) | skip)
theorem ct_law_points : CtLen (T.ps 6).length cPoints := fun ds h Q E c => by
  repeat (obtain ⟨a, c⟩ := c; first | (subst a; rfl) | skip)
theorem ct_law_long : CtLen (T.ps 7).length cLong := fun ds h Q E c => by
  repeat (obtain ⟨a, c⟩ := c; first | (subst a; rfl) | skip)
theorem ct_law_gap : CtLen (T.ps 8).length cGap := fun ds h Q E c => by
  repeat (obtain ⟨a, c⟩ := c; first | (subst a; rfl) | skip)
theorem ct_law_ring : CtLen (T.ps 9).length cRing := fun ds h Q E c => by
  repeat (obtain ⟨a, c⟩ := c; first | (subst a; rfl) | skip)
theorem ct_law_bent : CtLen (T.ps 10).length cBent := fun ds h Q E c => by
  repeat (obtain ⟨a, c⟩ := c; first | (subst a; rfl) | skip)
theorem ct_law_free : CtLen (T.ps 11).length cFree := fun ds h Q E c => by
  repeat (obtain ⟨a, c⟩ := c; first | (subst a; rfl) | skip)
theorem ct_law_round : CtLen (T.ps 12).length cRound := fun ds h Q E c => by
  repeat (obtain ⟨a, c⟩ := c; first | (subst a; rfl) | skip)
theorem ct_law_cycle_right : CtLen (T.ps 13).length cRight := fun ds h Q E c => by
  repeat (obtain ⟨a, c⟩ := c; first | (subst a; rfl) | skip)
theorem ct_law_rows_right : CtLen (T.ps 14).length cRows := fun ds h Q E c => by
  repeat (obtain ⟨a, c⟩ := c; first | (subst a; rfl) | skip)
theorem ct_law : CtLen (["script"] : List Str).length cLaw := fun ds h Q E c => by
  repeat (obtain ⟨a, c⟩ := c; first | (subst a; rfl) | skip)
theorem ok_law_pool (ds : List D) (h : DH) (Q : DK) (E : XD) (c : cPool ds h Q E) : xS T.cs C E ir_law_pool { nx := fun _ h' => Q .non h', rt := Q } (dstart N_law_pool.length ds) h := by
  unfold ir_law_pool ir_law_pool_b2 ir_law_pool_r0 ir_law_pool_r1
  exact pool_ok ds h Q E c
theorem ok_law_pick (ds : List D) (h : DH) (Q : DK) (E : XD) (c : cPick ds h Q E) : xS T.cs C E ir_law_pick { nx := fun _ h' => Q .non h', rt := Q } (dstart N_law_pick.length ds) h := by
  unfold ir_law_pick ir_law_pick_r2 ir_law_pick_r1 ir_law_pick_r0
  exact pick_ok ds h Q E c
theorem okS_law_names (ds : List D) (h : DH) (Q : DK) (E : XD) (c : cNames ds h Q E) : xS T.cs C E ir_law_names { nx := fun _ h' => Q .non h', rt := Q } (dstart N_law_names.length ds) h := by
  unfold ir_law_names
  exact names_ok (C := C) (cs := T.cs) rfl rfl ds h Q E c
theorem okS_law_points (ds : List D) (h : DH) (Q : DK) (E : XD) (c : cPoints ds h Q E) : xS T.cs C E ir_law_points { nx := fun _ h' => Q .non h', rt := Q } (dstart N_law_points.length ds) h := by
  unfold ir_law_points
  exact points_ok (C := C) (cs := T.cs) rfl rfl rfl ds h Q E c
theorem ok_law_one (ds : List D) (h : DH) (Q : DK) (E : XD) (c : cOne ds h Q E) : xS T.cs C E ir_law_one { nx := fun _ h' => Q .non h', rt := Q } (dstart N_law_one.length ds) h := by
  unfold ir_law_one
  exact one_ok rfl ds h Q E c
end K02
namespace K02
open PySem L2 DL
theorem all_mk {l : PySem.W.OpenLaw} {w : World} {K : PySem.W.Frag} {h : Heap} {mg : Str → Option Value} {fa f0 f1 f2 f3 f4 f5 f6 f7 f8 f9 f10 f11 f12 f13 f14 f15 : Addr} (X : K.In h) (G : h.Ns mainGlobals mg) (hfa : mg "law" = some (.ref fa))
    {od0 an0 od1 an1 od2 an2 od3 an3 od4 an4 od5 an5 od6 an6 od7 an7 od8 an8 od9 an9 od10 an10 od11 an11 od12 an12 od13 an13 od14 an14 od15 an15 : Option Addr} {sl0 sl1 sl2 sl3 sl4 sl5 sl6 sl7 sl8 sl9 sl10 sl11 sl12 sl13 sl14 sl15 : Array (Option Value)} {oc0 kV0 dc0 pm0 cd0 ct0 oc1 kV1 dc1 pm1 cd1 ct1 oc2 kV2 dc2 pm2 cd2 ct2 oc3 kV3 dc3 pm3 cd3 ct3 oc4 kV4 dc4 pm4 cd4 ct4 oc5 kV5 dc5 pm5 cd5 ct5 oc6 kV6 dc6 pm6 cd6 ct6 oc7 kV7 dc7 pm7 cd7 ct7 oc8 kV8 dc8 pm8 cd8 ct8 oc9 kV9 dc9 pm9 cd9 ct9 oc10 kV10 dc10 pm10 cd10 ct10 oc11 kV11 dc11 pm11 cd11 ct11 oc12 kV12 dc12 pm12 cd12 ct12 oc13 kV13 dc13 pm13 cd13 ct13 oc14 kV14 dc14 pm14 cd14 ct14 oc15 kV15 dc15 pm15 cd15 ct15 : Value}
    (a0 : PySem.W.nsIn K mainGlobals "is_cycle" = some (some (.ref f0))) (l0 : K.lookup f0 = some ⟨oc0, od0, .func (PySem.W.fnOf "is_cycle" "is_cycle" (defArgs st_is_cycle) (defBody st_is_cycle) (defScope st_is_cycle) .none kV0 dc0 pm0 an0 cd0 ct0), sl0⟩) (c0 : PySem.W.codeIn K cd0 "is_cycle" = true) (k0 : PySem.W.keepIn K (.ref f0) = true)
    (a1 : PySem.W.nsIn K mainGlobals "total" = some (some (.ref f1))) (l1 : K.lookup f1 = some ⟨oc1, od1, .func (PySem.W.fnOf "total" "total" (defArgs st_total) (defBody st_total) (defScope st_total) .none kV1 dc1 pm1 an1 cd1 ct1), sl1⟩) (c1 : PySem.W.codeIn K cd1 "total" = true) (k1 : PySem.W.keepIn K (.ref f1) = true)
    (a2 : PySem.W.nsIn K mainGlobals "_law_pool" = some (some (.ref f2))) (l2 : K.lookup f2 = some ⟨oc2, od2, .func (PySem.W.fnOf "_law_pool" "_law_pool" (defArgs st_law_pool) (defBody st_law_pool) (defScope st_law_pool) .none kV2 dc2 pm2 an2 cd2 ct2), sl2⟩) (c2 : PySem.W.codeIn K cd2 "_law_pool" = true) (k2 : PySem.W.keepIn K (.ref f2) = true)
    (a3 : PySem.W.nsIn K mainGlobals "_law_pick" = some (some (.ref f3))) (l3 : K.lookup f3 = some ⟨oc3, od3, .func (PySem.W.fnOf "_law_pick" "_law_pick" (defArgs st_law_pick) (defBody st_law_pick) (defScope st_law_pick) .none kV3 dc3 pm3 an3 cd3 ct3), sl3⟩) (c3 : PySem.W.codeIn K cd3 "_law_pick" = true) (k3 : PySem.W.keepIn K (.ref f3) = true)
    (a4 : PySem.W.nsIn K mainGlobals "_law_one" = some (some (.ref f4))) (l4 : K.lookup f4 = some ⟨oc4, od4, .func (PySem.W.fnOf "_law_one" "_law_one" (defArgs st_law_one) (defBody st_law_one) (defScope st_law_one) .none kV4 dc4 pm4 an4 cd4 ct4), sl4⟩) (c4 : PySem.W.codeIn K cd4 "_law_one" = true) (k4 : PySem.W.keepIn K (.ref f4) = true)
    (a5 : PySem.W.nsIn K mainGlobals "_law_names" = some (some (.ref f5))) (l5 : K.lookup f5 = some ⟨oc5, od5, .func (PySem.W.fnOf "_law_names" "_law_names" (defArgs st_law_names) (defBody st_law_names) (defScope st_law_names) .none kV5 dc5 pm5 an5 cd5 ct5), sl5⟩) (c5 : PySem.W.codeIn K cd5 "_law_names" = true) (k5 : PySem.W.keepIn K (.ref f5) = true)
    (a6 : PySem.W.nsIn K mainGlobals "_law_points" = some (some (.ref f6))) (l6 : K.lookup f6 = some ⟨oc6, od6, .func (PySem.W.fnOf "_law_points" "_law_points" (defArgs st_law_points) (defBody st_law_points) (defScope st_law_points) .none kV6 dc6 pm6 an6 cd6 ct6), sl6⟩) (c6 : PySem.W.codeIn K cd6 "_law_points" = true) (k6 : PySem.W.keepIn K (.ref f6) = true)
    (a7 : PySem.W.nsIn K mainGlobals "_law_long" = some (some (.ref f7))) (l7 : K.lookup f7 = some ⟨oc7, od7, .func (PySem.W.fnOf "_law_long" "_law_long" (defArgs st_law_long) (defBody st_law_long) (defScope st_law_long) .none kV7 dc7 pm7 an7 cd7 ct7), sl7⟩) (c7 : PySem.W.codeIn K cd7 "_law_long" = true) (k7 : PySem.W.keepIn K (.ref f7) = true)
    (a8 : PySem.W.nsIn K mainGlobals "_law_gap" = some (some (.ref f8))) (l8 : K.lookup f8 = some ⟨oc8, od8, .func (PySem.W.fnOf "_law_gap" "_law_gap" (defArgs st_law_gap) (defBody st_law_gap) (defScope st_law_gap) .none kV8 dc8 pm8 an8 cd8 ct8), sl8⟩) (c8 : PySem.W.codeIn K cd8 "_law_gap" = true) (k8 : PySem.W.keepIn K (.ref f8) = true)
    (a9 : PySem.W.nsIn K mainGlobals "_law_ring" = some (some (.ref f9))) (l9 : K.lookup f9 = some ⟨oc9, od9, .func (PySem.W.fnOf "_law_ring" "_law_ring" (defArgs st_law_ring) (defBody st_law_ring) (defScope st_law_ring) .none kV9 dc9 pm9 an9 cd9 ct9), sl9⟩) (c9 : PySem.W.codeIn K cd9 "_law_ring" = true) (k9 : PySem.W.keepIn K (.ref f9) = true)
    (a10 : PySem.W.nsIn K mainGlobals "_law_bent" = some (some (.ref f10))) (l10 : K.lookup f10 = some ⟨oc10, od10, .func (PySem.W.fnOf "_law_bent" "_law_bent" (defArgs st_law_bent) (defBody st_law_bent) (defScope st_law_bent) .none kV10 dc10 pm10 an10 cd10 ct10), sl10⟩) (c10 : PySem.W.codeIn K cd10 "_law_bent" = true) (k10 : PySem.W.keepIn K (.ref f10) = true)
    (a11 : PySem.W.nsIn K mainGlobals "_law_free" = some (some (.ref f11))) (l11 : K.lookup f11 = some ⟨oc11, od11, .func (PySem.W.fnOf "_law_free" "_law_free" (defArgs st_law_free) (defBody st_law_free) (defScope st_law_free) .none kV11 dc11 pm11 an11 cd11 ct11), sl11⟩) (c11 : PySem.W.codeIn K cd11 "_law_free" = true) (k11 : PySem.W.keepIn K (.ref f11) = true)
    (a12 : PySem.W.nsIn K mainGlobals "_law_round" = some (some (.ref f12))) (l12 : K.lookup f12 = some ⟨oc12, od12, .func (PySem.W.fnOf "_law_round" "_law_round" (defArgs st_law_round) (defBody st_law_round) (defScope st_law_round) .none kV12 dc12 pm12 an12 cd12 ct12), sl12⟩) (c12 : PySem.W.codeIn K cd12 "_law_round" = true) (k12 : PySem.W.keepIn K (.ref f12) = true)
    (a13 : PySem.W.nsIn K mainGlobals "_law_cycle_right" = some (some (.ref f13))) (l13 : K.lookup f13 = some ⟨oc13, od13, .func (PySem.W.fnOf "_law_cycle_right" "_law_cycle_right" (defArgs st_law_cycle_right) (defBody st_law_cycle_right) (defScope st_law_cycle_right) .none kV13 dc13 pm13 an13 cd13 ct13), sl13⟩) (c13 : PySem.W.codeIn K cd13 "_law_cycle_right" = true) (k13 : PySem.W.keepIn K (.ref f13) = true)
    (a14 : PySem.W.nsIn K mainGlobals "_law_rows_right" = some (some (.ref f14))) (l14 : K.lookup f14 = some ⟨oc14, od14, .func (PySem.W.fnOf "_law_rows_right" "_law_rows_right" (defArgs st_law_rows_right) (defBody st_law_rows_right) (defScope st_law_rows_right) .none kV14 dc14 pm14 an14 cd14 ct14), sl14⟩) (c14 : PySem.W.codeIn K cd14 "_law_rows_right" = true) (k14 : PySem.W.keepIn K (.ref f14) = true)
    (a15 : PySem.W.nsIn K mainGlobals "law" = some (some (.ref f15))) (l15 : K.lookup f15 = some ⟨oc15, od15, .func (PySem.W.fnOf "law" "law" (defArgs st_law) (defBody st_law) (defScope st_law) .none kV15 dc15 pm15 an15 cd15 ct15), sl15⟩) (c15 : PySem.W.codeIn K cd15 "law" = true) (k15 : PySem.W.keepIn K (.ref f15) = true)
    (z0 : PySem.W.nsIn K mainGlobals "abs" = some none)
    (z1 : PySem.W.nsIn K mainGlobals "bool" = some none)
    (z2 : PySem.W.nsIn K mainGlobals "int" = some none)
    (z3 : PySem.W.nsIn K mainGlobals "isinstance" = some none)
    (z4 : PySem.W.nsIn K mainGlobals "len" = some none)
    (z5 : PySem.W.nsIn K mainGlobals "list" = some none)
    (z6 : PySem.W.nsIn K mainGlobals "min" = some none)
    (z7 : PySem.W.nsIn K mainGlobals "range" = some none)
    (z8 : PySem.W.nsIn K mainGlobals "set" = some none)
    (z9 : PySem.W.nsIn K mainGlobals "str" = some none)
    (z10 : PySem.W.nsIn K mainGlobals "sum" = some none)
    (z11 : PySem.W.nsIn K mainGlobals "tuple" = some none)
    : ∃ fd : FuncData, (∀ (s : Shared) (v : Value), BindsTo s fd ⟨[v], []⟩ [("script", v)]) ∧ ∀ base : Heap, K.In base → base.Ns mainGlobals mg → FnOk l.prog w K mg base CX0 16 fa fd ["script"] (liftSp ⟨K, w⟩ cLaw) := by
  have e := hfa.symm.trans (PySem.W.mg_of X G a15)
  cases e
  have D0 := def_at (st := st_is_cycle) X G a0 l0 c0 k0
  have D1 := def_at (st := st_total) X G a1 l1 c1 k1
  have D2 := def_at (st := st_law_pool) X G a2 l2 c2 k2
  have D3 := def_at (st := st_law_pick) X G a3 l3 c3 k3
  have D4 := def_at (st := st_law_one) X G a4 l4 c4 k4
  have D5 := def_at (st := st_law_names) X G a5 l5 c5 k5
  have D6 := def_at (st := st_law_points) X G a6 l6 c6 k6
  have D7 := def_at (st := st_law_long) X G a7 l7 c7 k7
  have D8 := def_at (st := st_law_gap) X G a8 l8 c8 k8
  have D9 := def_at (st := st_law_ring) X G a9 l9 c9 k9
  have D10 := def_at (st := st_law_bent) X G a10 l10 c10 k10
  have D11 := def_at (st := st_law_free) X G a11 l11 c11 k11
  have D12 := def_at (st := st_law_round) X G a12 l12 c12 k12
  have D13 := def_at (st := st_law_cycle_right) X G a13 l13 c13 k13
  have D14 := def_at (st := st_law_rows_right) X G a14 l14 c14 k14
  have D15 := def_at (st := st_law) X G a15 l15 c15 k15
  refine ⟨PySem.W.fnOf "law" "law" (defArgs st_law) (defBody st_law) (defScope st_law) .none kV15 dc15 pm15 an15 cd15 ct15, fun s v => .of_eq rfl, fun base _ _ => ?_⟩
  have t0 : TabAt (T.cut 0) C CX0 0 l.prog w K mg base := Tab0 (fr_cons (PySem.W.mg_none_of X G z0) (fr_cons (PySem.W.mg_none_of X G z1) (fr_cons (PySem.W.mg_none_of X G z2) (fr_cons (PySem.W.mg_none_of X G z3) (fr_cons (PySem.W.mg_none_of X G z4) (fr_cons (PySem.W.mg_none_of X G z5) (fr_cons (PySem.W.mg_none_of X G z6) (fr_cons (PySem.W.mg_none_of X G z7) (fr_cons (PySem.W.mg_none_of X G z8) (fr_cons (PySem.W.mg_none_of X G z9) (fr_cons (PySem.W.mg_none_of X G z10) (fr_cons (PySem.W.mg_none_of X G z11) (fr_nil))))))))))))) (fun x j e => by simp [T] at e)
  have t1 := tab_step t0 rfl D0 sc_is_cycle ch_is_cycle rfl ct_is_cycle (ok_cycle (C := C)) (D0.fn.binds fun _ _ _ _ _ _ us hl => match us, hl with | [_], _ => rfl) (sh_is_cycle D0.fn)
  have t2 := tab_step t1 rfl D1 sc_total ch_total rfl ct_total (ok_total (C := C)) (D1.fn.binds fun _ _ _ _ _ _ us hl => match us, hl with | [_], _ => rfl) (sh_total D1.fn)
  have t3 := tab_step t2 rfl D2 sc_law_pool ch_law_pool rfl ct_law_pool ok_law_pool (D2.fn.binds fun _ _ _ _ _ _ us hl => match us, hl with | [_, _], _ => rfl) (no_sh rfl)
  have t4 := tab_step t3 rfl D3 sc_law_pick ch_law_pick rfl ct_law_pick ok_law_pick (D3.fn.binds fun _ _ _ _ _ _ us hl => match us, hl with | [_, _], _ => rfl) (no_sh rfl)
  have t5 := tab_step t4 rfl D4 sc_law_one ch_law_one rfl ct_law_one ok_law_one (D4.fn.binds fun _ _ _ _ _ _ us hl => match us, hl with | [_, _], _ => rfl) (no_sh rfl)
  have t6 := tab_step t5 rfl D5 sc_law_names ch_law_names rfl ct_law_names okS_law_names (D5.fn.binds fun _ _ _ _ _ _ us hl => match us, hl with | [_, _, _], _ => rfl) (no_sh rfl)
  have t7 := tab_step t6 rfl D6 sc_law_points ch_law_points rfl ct_law_points okS_law_points (D6.fn.binds fun _ _ _ _ _ _ us hl => match us, hl with | [_, _], _ => rfl) (no_sh rfl)
  have t8 := tab_step t7 rfl D7 sc_law_long ch_law_long rfl ct_law_long (ok_long (C := C) rfl) (D7.fn.binds fun _ _ _ _ _ _ us hl => match us, hl with | [_], _ => rfl) (no_sh rfl)
  have t9 := tab_step t8 rfl D8 sc_law_gap ch_law_gap rfl ct_law_gap (ok_gap (C := C) rfl rfl) (D8.fn.binds fun _ _ _ _ _ _ us hl => match us, hl with | [_], _ => rfl) (no_sh rfl)
  have t10 := tab_step t9 rfl D9 sc_law_ring ch_law_ring rfl ct_law_ring (ok_ring (C := C) rfl) (D9.fn.binds fun _ _ _ _ _ _ us hl => match us, hl with | [_, _], _ => rfl) (no_sh rfl)
  have t11 := tab_step t10 rfl D10 sc_law_bent ch_law_bent rfl ct_law_bent (ok_bent (C := C) rfl) (D10.fn.binds fun _ _ _ _ _ _ us hl => match us, hl with | [_, _, _], _ => rfl) (no_sh rfl)
  have t12 := tab_step t11 rfl D11 sc_law_free ch_law_free rfl ct_law_free (ok_free (C := C) rfl rfl rfl) (D11.fn.binds fun _ _ _ _ _ _ us hl => match us, hl with | [_, _], _ => rfl) (no_sh rfl)
  have t13 := tab_step t12 rfl D12 sc_law_round ch_law_round rfl ct_law_round (ok_round (C := C)) (D12.fn.binds fun _ _ _ _ _ _ us hl => match us, hl with | [_], _ => rfl) (no_sh rfl)
  have t14 := tab_step t13 rfl D13 sc_law_cycle_right ch_law_cycle_right rfl ct_law_cycle_right (ok_right (C := C) rfl) (D13.fn.binds fun _ _ _ _ _ _ us hl => match us, hl with | [_, _], _ => rfl) (no_sh rfl)
  have t15 := tab_step t14 rfl D14 sc_law_rows_right ch_law_rows_right rfl ct_law_rows_right (ok_rows (C := C) rfl rfl rfl) (D14.fn.binds fun _ _ _ _ _ _ us hl => match us, hl with | [_], _ => rfl) (no_sh rfl)
  exact fn_ok D15.fn sc_law t15 ch_law ct_law ok_law
end K02
open PySem PySem.W PyProof.Rows
set_option maxRecDepth 100000 in
set_option maxHeartbeats 0 in
theorem PySem.Challenge.cw_digstead_k02_cycles_holds : PySem.Challenge.rw_digstead_k02_cycles.Holds := by
  w_on; o_law; k_head; (case hw => w_witness2)
  k_fill
  refine DL.law_end (l := PySem.Challenge.rw_digstead_k02_cycles) (x := "script") (k := 16) rfl rfl ⟨rfl, by decide, by decide⟩ (fun w h Y => PySem.W.kIn_of Y) ?F
  case F =>
    intro w mg fa h KX G hmg
    refine' K02.all_mk KX G hmg ?a0 ?l0 ?c0 ?k0 ?a1 ?l1 ?c1 ?k1 ?a2 ?l2 ?c2 ?k2 ?a3 ?l3 ?c3 ?k3 ?a4 ?l4 ?c4 ?k4 ?a5 ?l5 ?c5 ?k5 ?a6 ?l6 ?c6 ?k6 ?a7 ?l7 ?c7 ?k7 ?a8 ?l8 ?c8 ?k8 ?a9 ?l9 ?c9 ?k9 ?a10 ?l10 ?c10 ?k10 ?a11 ?l11 ?c11 ?k11 ?a12 ?l12 ?c12 ?k12 ?a13 ?l13 ?c13 ?k13 ?a14 ?l14 ?c14 ?k14 ?a15 ?l15 ?c15 ?k15 ?z0 ?z1 ?z2 ?z3 ?z4 ?z5 ?z6 ?z7 ?z8 ?z9 ?z10 ?z11 
    (case a0 => k_is); (case l0 => k_is); (case c0 => k_is); (case k0 => k_is)
    (case a1 => k_is); (case l1 => k_is); (case c1 => k_is); (case k1 => k_is)
    (case a2 => k_is); (case l2 => k_is); (case c2 => k_is); (case k2 => k_is)
    (case a3 => k_is); (case l3 => k_is); (case c3 => k_is); (case k3 => k_is)
    (case a4 => k_is); (case l4 => k_is); (case c4 => k_is); (case k4 => k_is)
    (case a5 => k_is); (case l5 => k_is); (case c5 => k_is); (case k5 => k_is)
    (case a6 => k_is); (case l6 => k_is); (case c6 => k_is); (case k6 => k_is)
    (case a7 => k_is); (case l7 => k_is); (case c7 => k_is); (case k7 => k_is)
    (case a8 => k_is); (case l8 => k_is); (case c8 => k_is); (case k8 => k_is)
    (case a9 => k_is); (case l9 => k_is); (case c9 => k_is); (case k9 => k_is)
    (case a10 => k_is); (case l10 => k_is); (case c10 => k_is); (case k10 => k_is)
    (case a11 => k_is); (case l11 => k_is); (case c11 => k_is); (case k11 => k_is)
    (case a12 => k_is); (case l12 => k_is); (case c12 => k_is); (case k12 => k_is)
    (case a13 => k_is); (case l13 => k_is); (case c13 => k_is); (case k13 => k_is)
    (case a14 => k_is); (case l14 => k_is); (case c14 => k_is); (case k14 => k_is)
    (case a15 => k_is); (case l15 => k_is); (case c15 => k_is); (case k15 => k_is)
    (case z0 => k_is); (case z1 => k_is); (case z2 => k_is); (case z3 => k_is); (case z4 => k_is); (case z5 => k_is); (case z6 => k_is); (case z7 => k_is); (case z8 => k_is); (case z9 => k_is); (case z10 => k_is); (case z11 => k_is)
#print axioms PySem.Challenge.cw_digstead_k02_cycles_holds
