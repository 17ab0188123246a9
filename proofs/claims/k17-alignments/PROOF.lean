import PyProof.Rows.All
import Wide.All
import OpenK.AllK
import Wide.FinOn
import HandS.ForMost
import HandS.Wide
import HandS.IsInst
import HandS.TupAny
import HandS.TupMul
import HandS.Walk
import HandS.Flow
import HandS.Style
import HandS.EndBits
import HandS.Deep
import HandS.Conv
import HandS.Flt
import HandS.Defaults
import KE.KDictKeyed
import HandS.Strs
import HandS.SortInts
import KE.GoesDict
import HandS.SetFor
import HandS.TupLe
import HandS.TupLen
import KE.GoesMore
import KE.GoesEnum
import PySem.Challenge.RW_digstead_k17_alignments
set_option Elab.async false
set_option maxRecDepth 100000
set_option linter.all false
set_option maxHeartbeats 4000000
namespace DL
open PySem PySem.Spec L2

/-! ## 1. Values with tuples by value; the heap of mutable objects -/
inductive D where
  | non | bl (b : Bool) | int (i : Int) | str (x : Str) | tup (xs : List D) | ref (a : Addr) | ty (n : String)
  /-- a list that nobody writes (the script, a list of the module) -/
  | rl (xs : List D)

inductive DO where
  /-- a list -/
  | lst (xs : List D)
  /-- a dict: are its keys tuples, its pairs, the very object -/
  | dct (b : Bool) (kvs : List (D × D)) (o : Obj)
  /-- a set of ints -/
  | iset (S : Int → Bool) (n : Nat)
/-- a value as a key -/
def leafD : D → Option Key
  | .int i => some (.inl i)
  | .str x => some (.inr x)
  | _ => none
mutual
def nkey : D → Option NestedKey
  | .non => some .none
  | .int i => some (.num i)
  | .bl b => some (.num (if b = true then 1 else 0))
  | .str x => some (.text x)
  | .tup ds => (nkeys ds).map NestedKey.tup
  | .ref _ => none
  | .rl _ => none
  | .ty _ => none
def nkeys : List D → Option (List NestedKey)
  | [] => some []
  | d :: ds => match nkey d with
    | none => none
    | some k => match nkeys ds with
      | none => none
      | some ks => some (k :: ks)
end

/-- what is known of the run: the fragment, the world -/
structure KW where
  K : PySem.W.Frag
  w : World
instance : Coe KW PySem.W.Frag := ⟨KW.K⟩
abbrev _root_.L2.Cx.kw (X : L2.Cx) : KW := ⟨X.K, X.w⟩
abbrev DSt := List (Option D)
abbrev DH := Addr → Option DO
abbrev DK := D → DH → Prop
abbrev XD := Value → Option Addr → DH → Prop
abbrev Ct := List D → DH → DK → XD → Prop

def updD (h : DH) (a : Addr) (o : DO) : DH := fun b => if b = a then some o else h b
theorem updD_same {h : DH} {a : Addr} {o : DO} : updD h a o a = some o := if_pos rfl
theorem updD_ne {h : DH} {a b : Addr} {o : DO} (e : b ≠ a) : updD h a o b = h b := if_neg e

variable {K : KW}

/-- a list that nobody writes -/
def FzL (K : KW) (H : Hp) (a : Addr) (vs : List V) : Prop :=
  (∃ o, H a = some (.frz o (.lst vs))) ∨ ∃ (o : Obj) (its : Array Value) (n : Nat), K.K.lookup a = some o ∧ o.cls = .type "list" ∧ o.dict = none ∧ o.data = .seq its n ∧ its.size ≤ sizeLine ∧ Vals vs its.toList
theorem FzL.sq {H : Hp} {a : Addr} {vs : List V} (h : FzL K H a vs) : SqL K H a vs := by
  rcases h with ⟨o, h⟩ | h
  · exact .inl (.inr ⟨o, h⟩)
  · exact .inr h
mutual
inductive RD (K : KW) (H : Hp) : D → V → Prop
  | non : RD K H .non .non
  | bl (b : Bool) : RD K H (.bl b) (.bl b)
  | int (i : Int) : RD K H (.int i) (.int i)
  | str (x : Str) : RD K H (.str x) (.str x)
  | ty (n : String) : RD K H (.ty n) (.ty n)
  | ref (a : Addr) : RD K H (.ref a) (.ref a)
  | tup {a : Addr} {vs : List V} {ds : List D} : SqT K H a vs → RDs K H ds vs → RD K H (.tup ds) (.ref a)
  | rl {a : Addr} {vs : List V} {ds : List D} : FzL K H a vs → RDs K H ds vs → RD K H (.rl ds) (.ref a)
inductive RDs (K : KW) (H : Hp) : List D → List V → Prop
  | nil : RDs K H [] []
  | cons {d : D} {ds : List D} {v : V} {vs : List V} : RD K H d v → RDs K H ds vs → RDs K H (d :: ds) (v :: vs)
end

/-- the tuples and what nobody writes stay -/
structure TM (K : KW) (H H' : Hp) : Prop where
  tup : ∀ a vs, SqT K H a vs → SqT K H' a vs
  frz : ∀ a vs, FzL K H a vs → FzL K H' a vs
mutual
theorem RD.mono {H H' : Hp} (m : TM K H H') : ∀ {d : D} {v : V}, RD K H d v → RD K H' d v
  | _, _, .non => .non
  | _, _, .bl b => .bl b
  | _, _, .int i => .int i
  | _, _, .str x => .str x
  | _, _, .ty n => .ty n
  | _, _, .ref a => .ref a
  | _, _, .tup h hs => .tup (m.tup _ _ h) (RDs.mono m hs)
  | _, _, .rl h hs => .rl (m.frz _ _ h) (RDs.mono m hs)
theorem RDs.mono {H H' : Hp} (m : TM K H H') : ∀ {ds : List D} {vs : List V}, RDs K H ds vs → RDs K H' ds vs
  | _, _, .nil => .nil
  | _, _, .cons h hs => .cons (RD.mono m h) (RDs.mono m hs)
end
section
variable {H H' : Hp}
theorem RDs.length : ∀ {ds : List D} {vs : List V}, RDs K H ds vs → ds.length = vs.length
  | _, _, .nil => rfl
  | _, _, .cons _ hs => by simp [RDs.length hs]
theorem RDs.get : ∀ {ds : List D} {vs : List V} {i : Nat} {d : D}, RDs K H ds vs → ds[i]? = some d → ∃ v, vs[i]? = some v ∧ RD K H d v
  | _, _, _, _, .nil, e => by simp at e
  | _, _, 0, _, .cons h _, e => by simp at e; subst e; exact ⟨_, rfl, h⟩
  | _, _, i + 1, _, .cons _ hs, e => by
    obtain ⟨v, e1, r⟩ := RDs.get (i := i) hs (by simpa using e)
    exact ⟨v, by simpa using e1, r⟩
theorem RDs.get' : ∀ {ds : List D} {vs : List V} {i : Nat} {v : V}, RDs K H ds vs → vs[i]? = some v → ∃ d, ds[i]? = some d ∧ RD K H d v
  | _, _, _, _, .nil, e => by simp at e
  | _, _, 0, _, .cons h _, e => by simp at e; subst e; exact ⟨_, rfl, h⟩
  | _, _, i + 1, _, .cons _ hs, e => by
    obtain ⟨d, e1, r⟩ := RDs.get' (i := i) hs (by simpa using e)
    exact ⟨d, by simpa using e1, r⟩
theorem RDs.set : ∀ {ds : List D} {vs : List V} (i : Nat) {d : D} {v : V}, RDs K H ds vs → RD K H d v → RDs K H (ds.set i d) (vs.set i v)
  | _, _, _, _, _, .nil, _ => by simp; exact .nil
  | _, _, 0, _, _, .cons _ hs, r => .cons r hs
  | _, _, i + 1, _, _, .cons h hs, r => .cons h (RDs.set i hs r)
theorem RDs.append : ∀ {ds es : List D} {vs ws : List V}, RDs K H ds vs → RDs K H es ws → RDs K H (ds ++ es) (vs ++ ws)
  | _, _, _, _, .nil, q => q
  | _, _, _, _, .cons h hs, q => .cons h (RDs.append hs q)
theorem RDs.take : ∀ {ds : List D} {vs : List V} (n : Nat), RDs K H ds vs → RDs K H (ds.take n) (vs.take n)
  | _, _, 0, _ => by simp; exact .nil
  | _, _, _ + 1, .nil => .nil
  | _, _, n + 1, .cons h hs => .cons h (RDs.take n hs)
theorem RDs.drop : ∀ {ds : List D} {vs : List V} (n : Nat), RDs K H ds vs → RDs K H (ds.drop n) (vs.drop n)
  | _, _, 0, r => r
  | _, _, _ + 1, .nil => .nil
  | _, _, n + 1, .cons _ hs => RDs.drop n hs
theorem RDs.reverse : ∀ {ds : List D} {vs : List V}, RDs K H ds vs → RDs K H ds.reverse vs.reverse
  | _, _, .nil => .nil
  | _, _, .cons h hs => by rw [List.reverse_cons, List.reverse_cons]; exact (RDs.reverse hs).append (.cons h .nil)
theorem RDs.one {d : D} {vs : List V} (r : RDs K H [d] vs) : ∃ v, vs = [v] ∧ RD K H d v := by
  cases r with | cons h t => cases t; exact ⟨_, rfl, h⟩
theorem RDs.two {d e : D} {vs : List V} (r : RDs K H [d, e] vs) : ∃ v w, vs = [v, w] ∧ RD K H d v ∧ RD K H e w := by
  cases r with | cons h t => obtain ⟨w, rfl, q⟩ := t.one; exact ⟨_, _, rfl, h, q⟩
theorem RDs.three {d e f : D} {vs : List V} (r : RDs K H [d, e, f] vs) : ∃ v w x, vs = [v, w, x] ∧ RD K H d v ∧ RD K H e w ∧ RD K H f x := by
  cases r with | cons h t => obtain ⟨w, x, rfl, q⟩ := t.two; exact ⟨_, _, _, rfl, h, q⟩
theorem RDs.ints : ∀ {ns : List Int} {vs : List V}, RDs K H (ns.map D.int) vs → vs = ns.map V.int
  | [], _, r => by cases r; rfl
  | n :: ns, _, r => by
    cases r with | cons h t => cases h; rw [RDs.ints t]; rfl
theorem RDs.ofInts : ∀ (ns : List Int), RDs K H (ns.map D.int) (ns.map V.int)
  | [] => .nil
  | n :: ns => .cons (.int n) (RDs.ofInts ns)
theorem RDs.bls : ∀ {ns : List Bool} {vs : List V}, RDs K H (ns.map D.bl) vs → vs = ns.map V.bl
  | [], _, r => by cases r; rfl
  | n :: ns, _, r => by
    cases r with | cons h t => cases h; rw [RDs.bls t]; rfl
theorem RDs.strs : ∀ {ns : List Str} {vs : List V}, RDs K H (ns.map D.str) vs → vs = ns.map V.str
  | [], _, r => by cases r; rfl
  | n :: ns, _, r => by
    cases r with | cons h t => cases h; rw [RDs.strs t]; rfl
theorem RDs.ofStrs : ∀ (ns : List Str), RDs K H (ns.map D.str) (ns.map V.str)
  | [] => .nil
  | n :: ns => .cons (.str n) (RDs.ofStrs ns)
end

/-! ### the heaps -/
/-- an entry of a dict whose keys are tuples -/
structure EntT (K : KW) (H : Hp) (kv : D × D) (e : DictEntry) : Prop where
  ex : ∃ (n : NestedKey) (a : Addr) (v : V), nkey kv.1 = some n ∧ n.depth ≤ 8 ∧ e.hash = n.hash K.w ∧ e.key = .ref a ∧ RD K H kv.1 (.ref a) ∧ RD K H kv.2 v ∧ RelV v e.val
/-- .. an int or a text -/
structure EntL (K : KW) (H : Hp) (kv : D × D) (e : DictEntry) : Prop where
  ex : ∃ (l : Key) (v : V), leafD kv.1 = some l ∧ e.hash = keyH K.w l ∧ keyIs l e.key = true ∧ RD K H kv.2 v ∧ RelV v e.val
def Ent (K : KW) (H : Hp) : Bool → D × D → DictEntry → Prop
  | true => EntT K H
  | false => EntL K H
theorem Ent.mono {K : KW} {H H' : Hp} (m : TM K H H') {b : Bool} {kv : D × D} {e : DictEntry} (r : Ent K H b kv e) : Ent K H' b kv e := by
  cases b with
  | true => obtain ⟨n, a, v, h1, h2, h3, h4, h5, h6, h7⟩ := r.ex; exact ⟨n, a, v, h1, h2, h3, h4, h5.mono m, h6.mono m, h7⟩
  | false => obtain ⟨l, v, h1, h2, h3, h4, h5⟩ := r.ex; exact ⟨l, v, h1, h2, h3, h4.mono m, h5⟩
/-- the object is the dict of these pairs -/
structure DctO (K : KW) (H : Hp) (a : Addr) (b : Bool) (kvs : List (D × D)) (o : Obj) : Prop where
  nosys : (a == sysModules) = false
  exact_ : o.ExactDict
  len : kvs.length ≤ sizeLine
  ex : ∃ es ep, o.data = .dict es ep ∧ Paired (Ent K H b) kvs es.toList
  nd : (kvs.map fun kv => nkey kv.1).Nodup
theorem DctO.mono {K : KW} {H H' : Hp} (m : TM K H H') {a : Addr} {b : Bool} {kvs : List (D × D)} {o : Obj} (r : DctO K H a b kvs o) : DctO K H' a b kvs o :=
  ⟨r.nosys, r.exact_, r.len, let ⟨es, ep, e, p⟩ := r.ex; ⟨es, ep, e, Paired.mono (fun _ _ q => Ent.mono m q) p⟩, r.nd⟩
def PinO (a : Addr) (o : Obj) : HO := .ext fun h => h.get? a = some o
def RO (K : KW) (H : Hp) (a : Addr) : DO → Prop
  | .lst ds => ∃ vs, H a = some (.lst vs) ∧ RDs K H ds vs
  | .dct b kvs o => H a = some (PinO a o) ∧ DctO K H a b kvs o
  | .iset S n => H a = some (SetO K.w a S n)
def RH (K : KW) (H : Hp) (h : DH) : Prop := ∀ a o, h a = some o → RO K H a o
/-- what is not told stays -/
def Frm (h : DH) (H : Hp) (h' : DH) (H' : Hp) : Prop := ∀ b o, H b = some o → h b = none → H' b = some o ∧ h' b = none
section
variable {H H1 H2 H' : Hp} {h h1 h2 h' : DH} {a : Addr}
theorem Frm.refl (h : DH) (H : Hp) : Frm h H h H := fun _ _ e n => ⟨e, n⟩
theorem Frm.trans (x : Frm h H h1 H1) (y : Frm h1 H1 h2 H2) : Frm h H h2 H2 := fun b o e n => let ⟨e1, n1⟩ := x b o e n; y b o e1 n1
theorem RH.noTup {vs : List V} (r : RH K H h) (e : Rd H a (.tup vs)) : h a = none := by
  cases q : h a with
  | none => rfl
  | some o =>
    have := r a o q
    cases o with
    | lst ds => obtain ⟨ws, e1, _⟩ := this; rcases e with e | ⟨_, e⟩ <;> rw [e1] at e <;> cases e
    | dct b kvs o => obtain ⟨e1, _⟩ := this; rcases e with e | ⟨_, e⟩ <;> rw [e1] at e <;> cases e
    | iset S n => rcases e with e | ⟨_, e⟩ <;> rw [show H a = _ from this] at e <;> cases e
theorem RH.noFrz {o : Obj} {u : HO} (r : RH K H h) (e : H a = some (.frz o u)) : h a = none := by
  cases q : h a with
  | none => rfl
  | some p =>
    have := r a p q
    cases p with
    | lst ds => obtain ⟨ws, e1, _⟩ := this; rw [e1] at e; cases e
    | dct b kvs o => obtain ⟨e1, _⟩ := this; rw [e1] at e; cases e
    | iset S n => rw [show H a = _ from this] at e; cases e
theorem Frm.tm (r : RH K H h) (f : Frm h H h' H') : TM K H H' := by
  refine ⟨fun a vs e => ?_, fun a vs e => ?_⟩
  · rcases e with e | e
    · have n := r.noTup e
      rcases e with e | ⟨o, e⟩
      · exact .inl (.inl (f _ _ e n).1)
      · exact .inl (.inr ⟨o, (f _ _ e n).1⟩)
    · exact .inr e
  · rcases e with ⟨o, e⟩ | e
    · exact .inl ⟨o, (f _ _ e (r.noFrz e)).1⟩
    · exact .inr e
theorem RH.free (r : RH K H h) (e : H a = none) : h a = none := by
  cases q : h a with
  | none => rfl
  | some o =>
    have := r a o q
    cases o with
    | lst ds => obtain ⟨ws, e1, _⟩ := this; rw [e1] at e; cases e
    | dct b kvs o => obtain ⟨e1, _⟩ := this; rw [e1] at e; cases e
    | iset S n => rw [show H a = _ from this] at e; cases e
theorem RO.mono {o : DO} (m : TM K H H') (e : H' a = H a) (r : RO K H a o) : RO K H' a o := by
  cases o with
  | lst ds => obtain ⟨vs, e1, q⟩ := r; exact ⟨vs, e.trans e1, q.mono m⟩
  | dct b kvs o => exact ⟨e.trans r.1, r.2.mono m⟩
  | iset S n => exact e.trans r
/-- a new object -/
theorem TM.new {u : HO} (e : H a = none) : TM K H (upd H a u) := by
  refine ⟨fun b vs q => ?_, fun b vs q => ?_⟩
  · rcases q with (q | ⟨o, q⟩) | q
    · exact .inl (.inl (by rw [upd_ne (ne_of_none q e)]; exact q))
    · exact .inl (.inr ⟨o, by rw [upd_ne (ne_of_none q e)]; exact q⟩)
    · exact .inr q
  · rcases q with ⟨o, q⟩ | q
    · exact .inl ⟨o, by rw [upd_ne (ne_of_none q e)]; exact q⟩
    · exact .inr q
theorem RH.new {o : DO} {u : HO} (r : RH K H h) (e : H a = none) (ro : RO K (upd H a u) a o) : RH K (upd H a u) (updD h a o) := fun b p q => by
  by_cases hb : b = a
  · subst hb; rw [updD_same] at q; cases q; exact ro
  · rw [updD_ne hb] at q
    exact (r b p q).mono (TM.new e) (upd_ne hb)
theorem Frm.new {o : DO} {u : HO} (e : H a = none) : Frm h H (updD h a o) (upd H a u) := fun b p q n => by
  have hb := ne_of_none q e
  exact ⟨by rw [upd_ne hb]; exact q, by rw [updD_ne hb]; exact n⟩
/-- a new tuple: the heap of the mutable objects as it was -/
theorem RH.newT {u : HO} (r : RH K H h) (e : H a = none) : RH K (upd H a u) h := fun b p q => by
  have hb : b ≠ a := fun z => by subst z; rw [r.free e] at q; cases q
  exact (r b p q).mono (TM.new e) (upd_ne hb)
theorem Frm.newT {u : HO} (e : H a = none) : Frm h H h (upd H a u) := fun b p q n => ⟨by rw [upd_ne (ne_of_none q e)]; exact q, n⟩
theorem RD.newT {ds : List D} {vs : List V} (e : H a = none) (r : RDs K H ds vs) : RD K (upd H a (.tup vs)) (.tup ds) (.ref a) :=
  .tup (.of upd_same) (r.mono (TM.new e))
/-- a list is written -/
theorem TM.write {xs : List V} {u : HO} (e : H a = some (.lst xs)) : TM K H (upd H a u) := by
  have ne : ∀ {b : Addr} {z : HO}, H b = some z → (∀ ys, z ≠ .lst ys) → b ≠ a := fun {b z} q hz c => by subst c; rw [e] at q; exact hz xs (Option.some.inj q).symm
  refine ⟨fun b vs q => ?_, fun b vs q => ?_⟩
  · rcases q with (q | ⟨o, q⟩) | q
    · exact .inl (.inl (by rw [upd_ne (ne q fun _ c => by cases c)]; exact q))
    · exact .inl (.inr ⟨o, by rw [upd_ne (ne q fun _ c => by cases c)]; exact q⟩)
    · exact .inr q
  · rcases q with ⟨o, q⟩ | q
    · exact .inl ⟨o, by rw [upd_ne (ne q fun _ c => by cases c)]; exact q⟩
    · exact .inr q
theorem RH.write {xs : List V} {o : DO} {u : HO} (r : RH K H h) (e : H a = some (.lst xs)) (ro : RO K (upd H a u) a o) : RH K (upd H a u) (updD h a o) := fun b p q => by
  by_cases hb : b = a
  · subst hb; rw [updD_same] at q; cases q; exact ro
  · rw [updD_ne hb] at q
    exact (r b p q).mono (TM.write e) (upd_ne hb)
theorem Frm.write {p : DO} {o : DO} {u : HO} (e : h a = some p) : Frm h H (updD h a o) (upd H a u) := fun b z q n => by
  have hb : b ≠ a := fun c => by subst c; rw [e] at n; cases n
  exact ⟨by rw [upd_ne hb]; exact q, by rw [updD_ne hb]; exact n⟩
/-- a dict is written -/
theorem TM.writeO {o : Obj} {u : HO} (e : H a = some (PinO a o)) : TM K H (upd H a u) := by
  have ne : ∀ {b : Addr} {z : HO}, H b = some z → z ≠ PinO a o → b ≠ a := fun {b z} q hz c => by subst c; rw [e] at q; exact hz (Option.some.inj q).symm
  refine ⟨fun b vs q => ?_, fun b vs q => ?_⟩
  · rcases q with (q | ⟨o, q⟩) | q
    · exact .inl (.inl (by rw [upd_ne (ne q fun c => by cases c)]; exact q))
    · exact .inl (.inr ⟨o, by rw [upd_ne (ne q fun c => by cases c)]; exact q⟩)
    · exact .inr q
  · rcases q with ⟨o, q⟩ | q
    · exact .inl ⟨o, by rw [upd_ne (ne q fun c => by cases c)]; exact q⟩
    · exact .inr q
theorem RH.writeO {b : Bool} {kvs kvs' : List (D × D)} {o o' : Obj} (r : RH K H h) (e : h a = some (.dct b kvs o)) (new : DctO K H a b kvs' o') : RH K (upd H a (PinO a o')) (updD h a (.dct b kvs' o')) := fun c p q => by
  have e1 := (r a _ e).1
  by_cases hb : c = a
  · subst hb; rw [updD_same] at q; cases q; exact ⟨upd_same, new.mono (TM.writeO e1)⟩
  · rw [updD_ne hb] at q
    exact (r c p q).mono (TM.writeO e1) (upd_ne hb)
theorem RH.lst {ds : List D} (r : RH K H h) (e : h a = some (.lst ds)) : ∃ vs, H a = some (.lst vs) ∧ RDs K H ds vs := r a _ e
theorem RH.lstSet {ds es : List D} {vs : List V} (r : RH K H h) (e : h a = some (.lst ds)) (q : RDs K H es vs) : RH K (upd H a (.lst vs)) (updD h a (.lst es)) := by
  obtain ⟨ws, e1, _⟩ := r.lst e
  exact r.write e1 ⟨vs, upd_same, q.mono (TM.write e1)⟩
theorem RH.lstNew {es : List D} {vs : List V} (r : RH K H h) (e : H a = none) (q : RDs K H es vs) : RH K (upd H a (.lst vs)) (updD h a (.lst es)) :=
  r.new e ⟨vs, upd_same, q.mono (TM.new e)⟩
/-- the list at a -/
abbrev LR (h : DH) (a : Addr) (ds : List D) : Prop := h a = some (.lst ds)
theorem RH.sq {ds : List D} (r : RH K H h) (e : LR h a ds) : ∃ vs, SqL K H a vs ∧ RDs K H ds vs := by
  obtain ⟨vs, e1, q⟩ := r _ _ e
  exact ⟨vs, .inl (.inl e1), q⟩
end

/-! ### the slots -/
structure RS (K : KW) (H : Hp) (sd : DSt) (σ : St) : Prop where
  len : sd.length = σ.length
  at_ : ∀ (i : Nat) (d : D), sd[i]? = some (some d) → ∃ v, σ[i]? = some (some v) ∧ RD K H d v
section
variable {H H' : Hp} {sd : DSt} {σ : St}
theorem RS.mono (m : TM K H H') (r : RS K H sd σ) : RS K H' sd σ := ⟨r.len, fun i d e => let ⟨v, e1, q⟩ := r.at_ i d e; ⟨v, e1, q.mono m⟩⟩
theorem RS.set {i : Nat} {d : D} {v : V} (r : RS K H sd σ) (q : RD K H d v) : RS K H (sd.set i (some d)) (σ.set i (some v)) := by
  refine ⟨by simp [r.len], fun j e h => ?_⟩
  by_cases hj : i = j
  · subst hj
    by_cases hi : i < sd.length
    · rw [List.getElem?_set_self hi] at h
      cases h
      exact ⟨v, List.getElem?_set_self (by rw [← r.len]; exact hi), q⟩
    · rw [List.getElem?_eq_none (by simpa using hi)] at h; cases h
  · rw [List.getElem?_set_ne hj] at h
    obtain ⟨w, e1, q1⟩ := r.at_ j e h
    exact ⟨w, by rw [List.getElem?_set_ne hj]; exact e1, q1⟩
/-- the slots of a comprehension's own names forgotten -/
def dwipe (sd : DSt) : List Nat → DSt
  | [] => sd
  | v :: vs => (dwipe sd vs).set v none
theorem dwipe_some {i : Nat} {x : D} : ∀ {vs : List Nat}, (dwipe sd vs)[i]? = some (some x) → sd[i]? = some (some x) ∧ i ∉ vs
  | [], h => ⟨h, by simp⟩
  | v :: vs, h => by
    unfold dwipe at h
    by_cases hi : v = i
    · subst hi
      by_cases hv : v < (dwipe sd vs).length
      · rw [List.getElem?_set_self hv] at h; cases h
      · rw [List.getElem?_eq_none (by simpa using hv)] at h; cases h
    · rw [List.getElem?_set_ne hi] at h
      obtain ⟨h1, h2⟩ := dwipe_some h
      exact ⟨h1, by simp only [List.mem_cons, not_or]; exact ⟨fun e => hi e.symm, h2⟩⟩
theorem dwipe_length (sd : DSt) : ∀ vs : List Nat, (dwipe sd vs).length = sd.length
  | [] => rfl
  | v :: vs => by unfold dwipe; rw [List.length_set, dwipe_length sd vs]
theorem RS.wipe (r : RS K H sd σ) (vs : List Nat) : RS K H (dwipe sd vs) (L2.wipe σ vs) := by
  refine ⟨by rw [dwipe_length, wipe_length, r.len], fun i d h => ?_⟩
  obtain ⟨h1, h2⟩ := dwipe_some h
  obtain ⟨v, e, q⟩ := r.at_ i d h1
  exact ⟨v, by rw [wipe_out h2]; exact e, q⟩
theorem wipe_set {σ : St} {i : Nat} {x : Option V} : ∀ {vs : List Nat}, i ∈ vs → L2.wipe (σ.set i x) vs = L2.wipe σ vs
  | [], h => by simp at h
  | v :: vs, h => by
    have comm : ∀ (us : List Nat), L2.wipe (σ.set i x) us = (if i ∈ us then L2.wipe σ us else (L2.wipe σ us).set i x) := by
      intro us
      induction us with
      | nil => rfl
      | cons u us ih =>
        unfold L2.wipe
        rw [ih]
        by_cases hu : i ∈ us
        · rw [if_pos hu, if_pos (List.mem_cons_of_mem _ hu)]
        · rw [if_neg hu]
          by_cases hiu : i = u
          · subst hiu
            rw [if_pos List.mem_cons_self, List.set_set]
          · rw [if_neg (by simp only [List.mem_cons, not_or]; exact ⟨hiu, hu⟩)]
            exact List.set_comm _ _ hiu
    rw [comm, if_pos h]
theorem wipe_wipe (σ : St) : ∀ vs : List Nat, L2.wipe (L2.wipe σ vs) vs = L2.wipe σ vs := by
  intro vs
  have sub : ∀ us : List Nat, (∀ u ∈ us, u ∈ vs) → L2.wipe (L2.wipe σ us) vs = L2.wipe σ vs := by
    intro us
    induction us with
    | nil => intro _; rfl
    | cons u us ih =>
      intro h
      rw [show L2.wipe σ (u :: us) = (L2.wipe σ us).set u none from rfl, wipe_set (h u List.mem_cons_self)]
      exact ih fun w hw => h w (List.mem_cons_of_mem _ hw)
  exact sub vs fun _ h => h
end

/-! ### readings, lifted -/
abbrev Bs := DH × Hp
abbrev TEd := DSt → DH → DK → Prop
/-- what a value's coming leaves -/
structure Post (K : KW) (h : DH) (H : Hp) (d : D) (h' : DH) (v : V) (H' : Hp) : Prop where
  rd : RD K H' d v
  rh : RH K H' h'
  fr : Frm h H h' H'
structure Now (K : KW) (B : Bs) (sd : DSt) (h : DH) (σ : St) (H : Hp) : Prop where
  rs : RS K H sd σ
  rh : RH K H h
  fr : Frm B.1 B.2 h H
theorem Now.after {B : Bs} {sd : DSt} {h h' : DH} {σ : St} {H H' : Hp} (n : Now K B sd h σ H) (r : RH K H' h') (f : Frm h H h' H') : Now K B sd h' σ H' :=
  ⟨n.rs.mono (Frm.tm n.rh f), r, n.fr.trans f⟩
theorem Now.tm {B : Bs} {sd : DSt} {h h' : DH} {σ : St} {H H' : Hp} (n : Now K B sd h σ H) (f : Frm h H h' H') : TM K H H' := Frm.tm n.rh f
def lift (K : KW) (B : Bs) (t : TEd) : TE := fun σ H Q => ∃ sd h Qd, Now K B sd h σ H ∧ t sd h Qd ∧ ∀ d h' v H', Qd d h' → Post K h H d h' v H' → Q v H'
def liftT (K : KW) (B : Bs) (t : TEd) : TT := fun σ H Q => ∃ sd h, ∃ Qb : Bool → DH → Prop, Now K B sd h σ H ∧ t sd h (fun d h' => ∃ b, d = .bl b ∧ Qb b h') ∧ ∀ b h' H', Qb b h' → RH K H' h' → Frm h H h' H' → Q b H'
/-- an argument list: its value a tuple of the arguments -/
def liftA (K : KW) (B : Bs) (t : TEd) : TA := fun σ H Q => ∃ sd h Qd, Now K B sd h σ H ∧ t sd h Qd ∧ ∀ ds h' vs H', Qd (.tup ds) h' → RDs K H' ds vs → RH K H' h' → Frm h H h' H' → Q vs H'
end DL
namespace DL
open PySem PySem.Spec L2

/-! ## 2. The inner form of a program: names are slots; its weakest preconditions -/
inductive Ty where
  | int | bool | str | tuple | list | none | dict
  deriving DecidableEq
inductive Blt where
  | len | int | abs | min | max | list | tuple | sum | any | all | str | ord | sorted | set
  deriving DecidableEq
inductive Mth where
  | append | pop | extend | get
  deriving DecidableEq
inductive ItK where
  | val | range1 | range2 | enum | zip
  deriving DecidableEq
/-- targets -/
inductive T where
  | name (i : Nat) | tup (ts : T) | nil | cons (t ts : T)
/-- expressions; argument lists are nil, cons -/
inductive E where
  | var (i : Nat)
  | cst (d : D)
  | glb (j : Nat)
  | bin (op : Operator) (a b : E)
  | neg (a : E)
  | cmp (op : CmpOp) (a b : E)
  | cmp2 (op op' : CmpOp) (a b c : E)
  | dnew (b : Bool)
  | truth (a : E) | notB (a : E) | andB (a b : E) | orB (a b : E)
  | notV (a : E) | andV (a b : E) | orV (a b : E)
  | ife (c a b : E)
  | tup (es : E) | lst (es : E) | nil | cons (e es : E)
  | sub (a i : E)
  | slice (bl bh : Bool) (a lo hi : E) | absent
  | rev (a : E)
  | call (f : Nat) (es : E)
  | callK (f : Nat) (n : Nat) (ks : List Str) (π : List Nat) (es kes : E)
  | blt (b : Blt) (es : E)
  | isi (t : Ty) (a : E)
  | mth (m : Mth) (o es : E)
  | lc (tg : T) (k : ItK) (src cs elt : E) (own : List (Str × Nat))
inductive S where
  | skip | seq (a b : S)
  | asg (t : T) (e : E)
  | asgSub (o i e : E)
  | asgPar (i j : Nat) (es : E)
  | aug (i : Nat) (op : Operator) (e : E)
  | expr (e : E) | ret (e : E) | retN
  | ite (c : E) (a b : S)
  | for_ (t : T) (k : ItK) (src : E) (b : S)
  | while_ (c : E) (b : S)
  | brk | cnt | doc

/-! ### data for == -/
mutual
inductive PD (h : DH) : D → PyData → Prop
  | non : PD h .non .none
  | bl (b : Bool) : PD h (.bl b) (.bool b)
  | int (i : Int) : PD h (.int i) (.int i)
  | str (x : Str) : PD h (.str x) (.str x)
  | tup {ds : List D} {as : List PyData} : PDs h ds as → PD h (.tup ds) (.tuple as)
  | lst {p : Addr} {ds : List D} {as : List PyData} : LR h p ds → PDs h ds as → PD h (.ref p) (.list as)
  | rl {ds : List D} {as : List PyData} : PDs h ds as → PD h (.rl ds) (.list as)
inductive PDs (h : DH) : List D → List PyData → Prop
  | nil : PDs h [] []
  | cons {d : D} {ds : List D} {a : PyData} {as : List PyData} : PD h d a → PDs h ds as → PDs h (d :: ds) (a :: as)
end

/-! ### dicts by values -/
def dget (kvs : List (D × D)) (k : D) : Option D := (kvs.find? fun kv => decide (nkey kv.1 = nkey k)).map (·.2)
def dput (kvs : List (D × D)) (k v : D) : List (D × D) := if (dget kvs k).isSome = true then kvs.map (fun kv => if nkey kv.1 = nkey k then (kv.1, v) else kv) else kvs ++ [(k, v)]
/-- may this be a key of a dict whose keys are tuples, whose keys are ints and texts -/
def keyB : Bool → D → Bool
  | true, .tup ds => match nkeys ds with
    | some ks => decide (NestedKey.depthAll ks ≤ 7)
    | none => false
  | true, _ => false
  | false, d => (leafD d).isSome
abbrev DctAt (h : DH) (x : D) (b : Bool) (kvs : List (D × D)) : Prop := ∃ p o, x = .ref p ∧ h p = some (.dct b kvs o)
def dnewD (b : Bool) (h : DH) (Q : DK) : Prop := ∀ p o, h p = none → Q (.ref p) (updD h p (.dct b [] o))
def dsubD (x i : D) (h : DH) (Q : DK) : Prop := ∃ b kvs v, DctAt h x b kvs ∧ keyB b i = true ∧ dget kvs i = some v ∧ Q v h
def dinD (x i : D) (h : DH) (k : Bool → Prop) : Prop := ∃ b kvs, DctAt h x b kvs ∧ keyB b i = true ∧ k (dget kvs i).isSome
def dgetD (x i z : D) (h : DH) (Q : DK) : Prop := ∃ b kvs, DctAt h x b kvs ∧ keyB b i = true ∧ Q ((dget kvs i).getD z) h
def dlenD (x : D) (h : DH) (Q : DK) : Prop := ∃ b kvs, DctAt h x b kvs ∧ Q (.int kvs.length) h
def dputD (x i v : D) (h : DH) (Q : DH → Prop) : Prop := ∃ p b kvs o, x = .ref p ∧ h p = some (.dct b kvs o) ∧ keyB b i = true ∧ kvs.length < sizeLine ∧ ∀ o', Q (updD h p (.dct b (dput kvs i v) o'))

/-! ### operations by values -/
def MulOk (i j : Int) : Prop := CMul i j ∨ CMulW i j
def addD (x y : D) (h : DH) (Q : DK) : Prop := match x with
  | .int i => match y with
    | .int j => Q (.int (i + j)) h
    | _ => False
  | .str a => match y with
    | .str b => a.length + b.length ≤ sizeLine ∧ Q (.str (a ++ b)) h
    | _ => False
  | .tup a => match y with
    | .tup b => a.length + b.length ≤ sizeLine ∧ Q (.tup (a ++ b)) h
    | _ => False
  | .ref p => match y with
    | .ref q => ∃ xs ys, h p = some (.lst xs) ∧ h q = some (.lst ys) ∧ xs.length + ys.length ≤ sizeLine ∧ ∀ r, h r = none → Q (.ref r) (updD h r (.lst (xs ++ ys)))
    | _ => False
  | _ => False
def mulD (x y : D) (h : DH) (Q : DK) : Prop := match y with
  | .int j => match x with
    | .int i => MulOk i j ∧ Q (.int (i * j)) h
    | .tup a => (a ≠ [] ∧ 0 ≤ j ∧ j ≤ 1000 ∧ a.length ≤ 1000) ∧ Q (.tup (List.replicate j.toNat a).flatten) h
    | .ref p => ∃ xs, h p = some (.lst xs) ∧ (-(2 ^ 63) ≤ j ∧ j < 2 ^ 63 ∧ xs.length * j.toNat ≤ sizeLine) ∧ ∀ r, h r = none → Q (.ref r) (updD h r (.lst (List.replicate j.toNat xs).flatten))
    | _ => False
  | _ => False
def DivOk (j : Int) : Prop := 0 < j ∧ j.natAbs.log2 < 9000
def binD (op : Operator) (x y : D) (h : DH) (Q : DK) : Prop := match op with
  | .Add => addD x y h Q
  | .Sub => match x with
    | .int i => match y with
      | .int j => Q (.int (i - j)) h
      | _ => False
    | _ => False
  | .Mult => mulD x y h Q
  | .FloorDiv => match x with
    | .int i => match y with
      | .int j => DivOk j ∧ Q (.int (i / j)) h
      | _ => False
    | _ => False
  | .Mod => match x with
    | .int i => match y with
      | .int j => 0 < j ∧ Q (.int (i % j)) h
      | _ => False
    | _ => False
  | .Pow => match x with
    | .int i => match y with
      | .int j => CPow i j ∧ Q (.int (i ^ j.toNat)) h
      | _ => False
    | _ => False
  | _ => False
/-- x op= y at a name -/
def augD (op : Operator) (x y : D) (h : DH) (Q : DK) : Prop := match op with
  | .Add => match x with
    | .int i => match y with
      | .int j => Q (.int (i + j)) h
      | _ => False
    | .str a => match y with
      | .str b => a.length + b.length ≤ sizeLine ∧ Q (.str (a ++ b)) h
      | _ => False
    | .ref p => match y with
      | .ref q => ∃ xs ys, h p = some (.lst xs) ∧ h q = some (.lst ys) ∧ xs.length + ys.length ≤ sizeLine ∧ Q (.ref p) (updD h p (.lst (xs ++ ys)))
      | _ => False
    | _ => False
  | .Sub => match x with
    | .int i => match y with
      | .int j => Q (.int (i - j)) h
      | _ => False
    | _ => False
  | _ => False
def negD (x : D) (h : DH) (Q : DK) : Prop := match x with
  | .int i => Q (.int (-i)) h
  | _ => False
/-- == of data -/
def eqG (x y : D) (h : DH) (k : Bool → Prop) : Prop := ∃ a b, PD h x a ∧ PD h y b ∧ SeqAt.shaped a = true ∧ SeqAt.shaped b = true ∧ k (PyData.eqv a b)
def eqD (x y : D) (h : DH) (k : Bool → Prop) : Prop := match x with
  | .int i => match y with
    | .int j => k (decide (i = j))
    | .str _ => k false
    | _ => eqG x y h k
  | .str a => match y with
    | .str b => k (decide (a = b))
    | .int _ => k false
    | _ => eqG x y h k
  | .bl a => match y with
    | .bl b => k (decide (a = b))
    | _ => eqG x y h k
  | _ => eqG x y h k
def isNon : D → Bool
  | .non => true
  | _ => false
def sLt (a b : Str) : Bool := decide (a.cps.toList < b.cps.toList)
def ordD (fi : Int → Int → Bool) (fs : Str → Str → Bool) (x y : D) (k : Bool → Prop) : Prop := match x with
  | .int i => match y with
    | .int j => k (fi i j)
    | _ => False
  | .str a => match y with
    | .str b => k (fs a b)
    | _ => False
  | _ => False
/-- == of flat values -/
def flatD : D → Bool
  | .non => true
  | .bl _ => true
  | .int _ => true
  | .str _ => true
  | _ => false
def eqF : D → D → Bool
  | .non, .non => true
  | .bl a, .bl b => a == b
  | .bl a, .int b => (if a then 1 else 0) == b
  | .int a, .bl b => a == (if b then 1 else 0)
  | .int a, .int b => a == b
  | .str a, .str b => a == b
  | _, _ => false
def inF (x : D) (ys : List D) (k : Bool → Prop) : Prop := flatD x = true ∧ ys.all flatD = true ∧ k (ys.any fun y => eqF y x)
/-- an item of a list, a key of a dict -/
@[irreducible] def inR (x : D) (p : Addr) (h : DH) (k : Bool → Prop) : Prop := (∃ ys, LR h p ys ∧ (inF x ys k ∨ ∃ a as, PD h x a ∧ PDs h ys as ∧ SeqAt.shaped a = true ∧ SeqAt.shaped (.list as) = true ∧ k (as.any fun z => PyData.eqv z a))) ∨ dinD (.ref p) x h k
def inD (x y : D) (h : DH) (k : Bool → Prop) : Prop := match y with
  | .rl ys => inF x ys k
  | .str z => ∃ c, x = .str ⟨#[c]⟩ ∧ k (decide (c ∈ z.cps.toList))
  | .tup ys => inF x ys k
  | .ref p => inR x p h k
  | _ => False
/-- x is y, for None and the two truths -/
def isD (x y : D) (k : Bool → Prop) : Prop := match y with
  | .non => k (isNon x)
  | .bl b => match x with
    | .bl a => k (decide (a = b))
    | _ => False
  | _ => False
def cmpD (op : CmpOp) (x y : D) (h : DH) (k : Bool → Prop) : Prop := match op with
  | .Eq => eqD x y h k
  | .NotEq => eqD x y h fun b => k (!b)
  | .Lt => ordD (fun i j => decide (i < j)) (fun a b => sLt a b) x y k
  | .LtE => ordD (fun i j => decide (i ≤ j)) (fun a b => !sLt b a) x y k
  | .Gt => ordD (fun i j => decide (j < i)) (fun a b => sLt b a) x y k
  | .GtE => ordD (fun i j => decide (j ≤ i)) (fun a b => !sLt a b) x y k
  | .In => inD x y h k
  | .NotIn => inD x y h fun b => k (!b)
  | .Is => isD x y k
  | .IsNot => isD x y fun b => k (!b)
/-- truth -/
def truD (x : D) (h : DH) (k : Bool → Prop) : Prop := match x with
  | .non => k false
  | .bl b => k b
  | .int i => k (i != 0)
  | .str z => z.length ≤ sizeLine ∧ k (z.length != 0)
  | .tup xs => k (!xs.isEmpty)
  | .ref p => ∃ xs, LR h p xs ∧ k (!xs.isEmpty)
  | .rl xs => k (!xs.isEmpty)
  | .ty _ => False
def b2d (b : Bool) : Int := if b then 1 else 0
def tyD (x : D) (h : DH) (k : Ty → Prop) : Prop := match x with
  | .non => k .none
  | .bl _ => k .bool
  | .int _ => k .int
  | .str _ => k .str
  | .tup _ => k .tuple
  | .ref p => ∃ xs, LR h p xs ∧ k .list
  | .rl _ => k .list
  | .ty _ => False
def isiB (t n : Ty) : Bool := decide (t = n) || (decide (t = .bool) && decide (n = .int))
/-- items of a list or tuple -/
def itemsD (x : D) (h : DH) (k : List D → Prop) : Prop := match x with
  | .tup xs => k xs
  | .rl xs => k xs
  | .ref p => ∃ xs, LR h p xs ∧ k xs
  | _ => False
def newL (h : DH) (xs : List D) (Q : DK) : Prop := ∀ p, h p = none → Q (.ref p) (updD h p (.lst xs))
/-- sorted: a set of ints, a list of ints -/
@[irreducible] def sortR (p : Addr) (h : DH) (Q : DK) : Prop :=
  (∃ S n, h p = some (.iset S n) ∧ n < 64 ∧ ∀ ns : List Int, ns.Pairwise (· < ·) → (∀ k, k ∈ ns ↔ S k = true) → newL h (ns.map D.int) Q) ∨
  ∃ ns : List Int, LR h p (ns.map D.int) ∧ ∀ ms : List Int, ms.Perm ns → ms.Pairwise (· ≤ ·) → newL h (ms.map D.int) Q
@[irreducible] def lenR (p : Addr) (h : DH) (Q : DK) : Prop := (∃ xs, LR h p xs ∧ Q (.int xs.length) h) ∨ dlenD (.ref p) h Q
@[irreducible] def lenD (x : D) (h : DH) (Q : DK) : Prop := match x with
  | .str z => z.length ≤ sizeLine ∧ Q (.int z.length) h
  | .tup xs => Q (.int xs.length) h
  | .rl xs => Q (.int xs.length) h
  | .ref p => lenR p h Q
  | _ => False
def bltD (b : Blt) (ds : List D) (h : DH) (Q : DK) : Prop := match b with
  | .len => match ds with
    | [.str z] => lenD (.str z) h Q
    | [.tup xs] => lenD (.tup xs) h Q
    | [.rl xs] => lenD (.rl xs) h Q
    | [.ref p] => lenD (.ref p) h Q
    | _ => False
  | .int => match ds with
    | [.int i] => Q (.int i) h
    | [.bl k] => Q (.int (b2d k)) h
    | _ => False
  | .abs => match ds with
    | [.int i] => Q (.int i.natAbs) h
    | _ => False
  | .min => match ds with
    | [.int i, .int j] => Q (.int (min i j)) h
    | [.int i, .int j, .int l] => Q (.int (min (min i j) l)) h
    | [.ref p] => ∃ ns : List Int, LR h p (ns.map D.int) ∧ 0 < ns.length ∧ ∀ m, m ∈ ns → (∀ y, y ∈ ns → m ≤ y) → Q (.int m) h
    | _ => False
  | .max => match ds with
    | [.int i, .int j] => Q (.int (max i j)) h
    | [.ref p] => ∃ ns : List Int, LR h p (ns.map D.int) ∧ 0 < ns.length ∧ ∀ m, m ∈ ns → (∀ y, y ∈ ns → y ≤ m) → Q (.int m) h
    | _ => False
  | .list => match ds with
    | [x] => itemsD x h fun xs => newL h xs Q
    | _ => False
  | .tuple => match ds with
    | [x] => itemsD x h fun xs => Q (.tup xs) h
    | _ => False
  | .sum => match ds with
    | [.ref p] => ∃ ns : List Int, LR h p (ns.map D.int) ∧ Q (.int ns.sum) h
    | _ => False
  | .any => match ds with
    | [.ref p] => ∃ bs : List Bool, LR h p (bs.map D.bl) ∧ Q (.bl (bs.any id)) h
    | _ => False
  | .all => match ds with
    | [.ref p] => ∃ bs : List Bool, LR h p (bs.map D.bl) ∧ Q (.bl (bs.all id)) h
    | _ => False
  | .str => match ds with
    | [.int i] => i.natAbs.log2 < 1920 ∧ Q (.str (toString i)) h
    | _ => False
  | .ord => match ds with
    | [.str x] => x.length = 1 ∧ Q (.int (x.cps.getD 0 0 : Nat)) h
    | _ => False
  | .sorted => match ds with
    | [.ref p] => sortR p h Q
    | _ => False
  | .set => match ds with
    | [.ref p] => ∃ ns : List Int, LR h p (ns.map D.int) ∧ ns.length ≤ 4000 ∧ ∀ q S n, h q = none → (∀ k, S k = true ↔ k ∈ ns) → n ≤ ns.length → Q (.ref q) (updD h q (.iset S n))
    | _ => False
def mthD (m : Mth) (x : D) (ds : List D) (h : DH) (Q : DK) : Prop := match m with
  | .append => match ds with
    | [y] => ∃ p xs, x = .ref p ∧ h p = some (.lst xs) ∧ xs.length < sizeLine ∧ Q .non (updD h p (.lst (xs ++ [y])))
    | _ => False
  | .pop => match ds with
    | [] => ∃ p xs y, x = .ref p ∧ h p = some (.lst xs) ∧ xs[xs.length - 1]? = some y ∧ Q y (updD h p (.lst xs.dropLast))
    | _ => False
  | .extend => match ds with
    | [.ref q] => ∃ p xs ys, x = .ref p ∧ h p = some (.lst xs) ∧ h q = some (.lst ys) ∧ xs.length + ys.length ≤ sizeLine ∧ Q .non (updD h p (.lst (xs ++ ys)))
    | _ => False
  | .get => match ds with
    | [i] => dgetD x i .non h Q
    | [i, z] => dgetD x i z h Q
    | _ => False
/-- the receiver's kind -/
def mthT (m : Mth) (x : D) (h : DH) : Prop := match m with
  | .append => ∃ p xs, x = .ref p ∧ LR h p xs
  | .pop => ∃ p xs, x = .ref p ∧ LR h p xs
  | .extend => ∃ p xs, x = .ref p ∧ LR h p xs
  | .get => ∃ b kvs, DctAt h x b kvs
@[irreducible] def subR (p : Addr) (i : D) (h : DH) (Q : DK) : Prop := (∃ xs k v, LR h p xs ∧ i = .int k ∧ atI xs k = some v ∧ Q v h) ∨ dsubD (.ref p) i h Q
@[irreducible] def subD (x i : D) (h : DH) (Q : DK) : Prop := match x with
  | .tup xs => ∃ k v, i = .int k ∧ atI xs k = some v ∧ Q v h
  | .rl xs => ∃ k v, i = .int k ∧ atI xs k = some v ∧ Q v h
  | .str z => ∃ k c, i = .int k ∧ z.length ≤ sizeLine ∧ atI z.cps.toList k = some c ∧ Q (.str ⟨#[c]⟩) h
  | .ref p => subR p i h Q
  | _ => False
@[irreducible] def setR (p : Addr) (i v : D) (h : DH) (Q : DH → Prop) : Prop := (∃ xs k j, h p = some (.lst xs) ∧ i = .int k ∧ ixN xs.length k = some j ∧ Q (updD h p (.lst (xs.set j v)))) ∨ dputD (.ref p) i v h Q
def setD (o i v : D) (h : DH) (Q : DH → Prop) : Prop := match o with
  | .ref p => setR p i v h Q
  | _ => False
def cutL (xs : List D) (lo hi : Option Int) : List D := (xs.drop (HT.sIx xs.length 0 lo)).take (HT.sIx xs.length xs.length hi - HT.sIx xs.length 0 lo)
def sliceD (x : D) (lo hi : Option Int) (h : DH) (Q : DK) : Prop := match x with
  | .tup xs => Q (.tup (cutL xs lo hi)) h
  | .str z => z.length ≤ sizeLine ∧ Q (.str (cutS z lo hi)) h
  | .ref p => ∃ xs, LR h p xs ∧ newL h (cutL xs lo hi) Q
  | _ => False
/-- [::-1] -/
def revD (x : D) (h : DH) (Q : DK) : Prop := match x with
  | .tup xs => Q (.tup xs.reverse) h
  | .rl xs => newL h xs.reverse Q
  | .ref p => ∃ xs, LR h p xs ∧ newL h xs.reverse Q
  | _ => False
/-- a slice's part: false stands for one left out -/
def partD (b : Bool) (x : D) (k : Option Int → Prop) : Prop := match b with
  | false => k none
  | true => match x with
    | .int i => k (some i)
    | _ => False
/-- what a loop goes through: its items, what must stand at each turn -/
abbrev ItR := List D → (DH → Prop) → Prop
def pairUp : List D → List D → List D
  | x :: xs, y :: ys => .tup [x, y] :: pairUp xs ys
  | _, _ => []
def numbered : Nat → List D → List D
  | _, [] => []
  | n, x :: xs => .tup [.int (n : Int), x] :: numbered (n + 1) xs
def rangeD (lo : Int) (n : Nat) : List D := (List.range n).map fun (i : Nat) => D.int (lo + (i : Int))
def signsD (z : Str) : List D := z.cps.toList.map fun c => D.str ⟨#[c]⟩
def itD (k : ItK) (x : D) (h : DH) (R : ItR) : Prop := match k with
  | .val => match x with
    | .tup xs => R xs fun _ => True
    | .rl xs => R xs fun _ => True
    | .str z => R (signsD z) fun _ => True
    | .ref p => ∃ xs, LR h p xs ∧ R xs fun h' => LR h' p xs
    | _ => False
  | .range1 => match x with
    | .tup [.int j] => (-(2 ^ 62) ≤ j ∧ j < 2 ^ 62) ∧ R (rangeD 0 j.toNat) fun _ => True
    | _ => False
  | .range2 => match x with
    | .tup [.int i, .int j] => (-(2 ^ 62) ≤ i ∧ i < 2 ^ 62 ∧ -(2 ^ 62) ≤ j ∧ j < 2 ^ 62) ∧ R (rangeD i (j - i).toNat) fun _ => True
    | _ => False
  | .enum => match x with
    | .tup [.ref p] => ∃ xs, LR h p xs ∧ R (numbered 0 xs) fun h' => LR h' p xs
    | .tup [.tup xs] => R (numbered 0 xs) fun _ => True
    | _ => False
  | .zip => match x with
    | .tup [.ref p, .ref q] => ∃ xs ys, LR h p xs ∧ LR h q ys ∧ R (pairUp xs ys) fun h' => LR h' p xs ∧ LR h' q ys
    | _ => False
/-- targets -/
def bindT : T → D → DSt → Option DSt
  | .name i, d, s => some (s.set i (some d))
  | .tup ts, d, s => match d with
    | .tup ds => bindT ts (.tup ds) s
    | _ => none
  | .nil, d, s => match d with
    | .tup [] => some s
    | _ => none
  | .cons t ts, d, s => match d with
    | .tup (x :: xs) => match bindT t x s with
      | some s1 => bindT ts (.tup xs) s1
      | none => none
    | _ => none
def permL {α : Type} (π : List Nat) (xs : List α) : List α := π.filterMap fun j => xs[j]?
/-- what a comprehension asks -/
@[irreducible] def lcD (items : List D) (inv : DH → Prop) (h : DH) (turn : D → DH → (Option D → DH → Prop) → Prop) (Q : DK) : Prop :=
  items.length ≤ sizeLine ∧ ∃ W : Nat → List D → DH → Prop, W 0 [] h ∧ (∀ i acc h, i ≤ items.length → W i acc h → inv h) ∧
    (∀ i x acc h, items[i]? = some x → W i acc h → turn x h fun r h' => match r with
      | some y => W (i + 1) (acc ++ [y]) h'
      | none => W (i + 1) acc h') ∧
    ∀ acc h, W items.length acc h → newL h acc Q

def xE (cs : Nat → D) (Φ : Nat → Ct) (Ed : XD) : E → DSt → DH → DK → Prop
  | .var i, s, h, Q => ∃ d, s[i]? = some (some d) ∧ Q d h
  | .cst d, _, h, Q => Q d h
  | .glb j, _, h, Q => Q (cs j) h
  | .bin op a b, s, h, Q => xE cs Φ Ed a s h fun x h1 => xE cs Φ Ed b s h1 fun y h2 => binD op x y h2 Q
  | .neg a, s, h, Q => xE cs Φ Ed a s h fun x h1 => negD x h1 Q
  | .cmp op a b, s, h, Q => xE cs Φ Ed a s h fun x h1 => xE cs Φ Ed b s h1 fun y h2 => cmpD op x y h2 fun k => Q (.bl k) h2
  | .cmp2 op op' a b c, s, h, Q => xE cs Φ Ed a s h fun x h1 => xE cs Φ Ed b s h1 fun y h2 => cmpD op x y h2 fun k =>
      if k = true then xE cs Φ Ed c s h2 fun z h3 => cmpD op' y z h3 fun k' => Q (.bl k') h3 else Q (.bl false) h2
  | .dnew b, _, h, Q => dnewD b h Q
  | .truth a, s, h, Q => xE cs Φ Ed a s h fun x h1 => truD x h1 fun k => Q (.bl k) h1
  | .notB a, s, h, Q => xE cs Φ Ed a s h fun x h1 => ∃ k, x = .bl k ∧ Q (.bl (!k)) h1
  | .andB a b, s, h, Q => xE cs Φ Ed a s h fun x h1 => ∃ k, x = .bl k ∧ if k = true then xE cs Φ Ed b s h1 Q else Q (.bl false) h1
  | .orB a b, s, h, Q => xE cs Φ Ed a s h fun x h1 => ∃ k, x = .bl k ∧ if k = true then Q (.bl true) h1 else xE cs Φ Ed b s h1 Q
  | .notV a, s, h, Q => xE cs Φ Ed a s h fun x h1 => truD x h1 fun k => Q (.bl (!k)) h1
  | .andV a b, s, h, Q => xE cs Φ Ed a s h fun x h1 => truD x h1 fun k => if k = true then xE cs Φ Ed b s h1 Q else Q x h1
  | .orV a b, s, h, Q => xE cs Φ Ed a s h fun x h1 => truD x h1 fun k => if k = true then Q x h1 else xE cs Φ Ed b s h1 Q
  | .ife c a b, s, h, Q => xE cs Φ Ed c s h fun x h1 => ∃ k, x = .bl k ∧ if k = true then xE cs Φ Ed a s h1 Q else xE cs Φ Ed b s h1 Q
  | .tup es, s, h, Q => xE cs Φ Ed es s h fun x h1 => ∃ ds, x = .tup ds ∧ ds.length ≤ sizeLine ∧ Q (.tup ds) h1
  | .lst es, s, h, Q => xE cs Φ Ed es s h fun x h1 => ∃ ds, x = .tup ds ∧ ds.length ≤ sizeLine ∧ newL h1 ds Q
  | .nil, _, h, Q => Q (.tup []) h
  | .cons e es, s, h, Q => xE cs Φ Ed e s h fun x h1 => xE cs Φ Ed es s h1 fun y h2 => ∃ ds, y = .tup ds ∧ Q (.tup (x :: ds)) h2
  | .sub a i, s, h, Q => xE cs Φ Ed a s h fun x h1 => xE cs Φ Ed i s h1 fun y h2 => subD x y h2 Q
  | .slice bl bh a lo hi, s, h, Q => xE cs Φ Ed a s h fun x h1 => xE cs Φ Ed lo s h1 fun y h2 => partD bl y fun l => xE cs Φ Ed hi s h2 fun z h3 => partD bh z fun u => sliceD x l u h3 Q
  | .absent, _, h, Q => Q .non h
  | .rev a, s, h, Q => xE cs Φ Ed a s h fun x h1 => revD x h1 Q
  | .call f es, s, h, Q => xE cs Φ Ed es s h fun x h1 => ∃ ds, x = .tup ds ∧ Φ f ds h1 Q Ed
  | .callK f n ks π es kes, s, h, Q => xE cs Φ Ed es s h fun x h1 => xE cs Φ Ed kes s h1 fun y h2 => ∃ ds zs, x = .tup ds ∧ y = .tup zs ∧ (ds.length = n ∧ zs.length = ks.length) ∧ Φ f (permL π (ds ++ zs)) h2 Q Ed
  | .blt b es, s, h, Q => xE cs Φ Ed es s h fun x h1 => ∃ ds, x = .tup ds ∧ bltD b ds h1 Q
  | .isi t a, s, h, Q => xE cs Φ Ed a s h fun x h1 => tyD x h1 fun u => Q (.bl (isiB u t)) h1
  | .mth m o es, s, h, Q => xE cs Φ Ed o s h fun x h1 => mthT m x h1 ∧ xE cs Φ Ed es s h1 fun y h2 => ∃ ds, y = .tup ds ∧ mthD m x ds h2 Q
  | .lc tg k src c elt own, s, h, Q => xE cs Φ Ed src s h fun x h0 => itD k x h0 fun items inv => lcD items inv h0 (fun y h1 R => ∃ s1, bindT tg y (dwipe s (own.map (·.2))) = some s1 ∧
      xE cs Φ (fun _ _ _ => False) c s1 h1 fun b h2 => ∃ k, b = .bl k ∧ if k = true then xE cs Φ (fun _ _ _ => False) elt s1 h2 fun z h3 => R (some z) h3 else R none h2) Q

structure DEnds where
  nx : DSt → DH → Prop
  rt : DK
  bk : DSt → DH → Prop := fun _ _ => False
  ct : DSt → DH → Prop := fun _ _ => False
@[irreducible] def forD (items : List D) (inv : DH → Prop) (s : DSt) (h : DH) (turn : D → (DSt → DH → Prop) → DSt → DH → Prop) (nx : DSt → DH → Prop) : Prop :=
  ∃ W : Nat → DSt → DH → Prop, W 0 s h ∧ (∀ i s h, i ≤ items.length → W i s h → inv h) ∧
    (∀ i x s h, items[i]? = some x → W i s h → turn x (W (i + 1)) s h) ∧ ∀ s h, W items.length s h → nx s h
@[irreducible] def whileD (test : DSt → DH → DK → Prop) (turn : (DSt → DH → Prop) → DSt → DH → Prop) (nx : DSt → DH → Prop) (s : DSt) (h : DH) : Prop :=
  ∃ W : Nat → DSt → DH → Prop, (∃ m, W m s h) ∧ ∀ m s h, W m s h → test s h fun x h1 => ∃ k, x = .bl k ∧
    if k = true then turn (fun s' h' => ∃ m', m' < m ∧ W m' s' h') s h1 else nx s h1
/-- a callee's contract, asked: opened by ask_mk alone -/
@[irreducible] def ask (c : Ct) : Ct := c
theorem ask_mk {c : Ct} {ds : List D} {h : DH} {Q : DK} {E : XD} (q : c ds h Q E) : ask c ds h Q E := by unfold ask; exact q
theorem ask_el {c : Ct} {ds : List D} {h : DH} {Q : DK} {E : XD} (q : ask c ds h Q E) : c ds h Q E := by unfold ask at q; exact q
def xS (cs : Nat → D) (Φ : Nat → Ct) (Ed : XD) : S → DEnds → DSt → DH → Prop
  | .skip, N, s, h => N.nx s h
  | .doc, N, s, h => N.nx s h
  | .seq a b, N, s, h => xS cs Φ Ed a { N with nx := xS cs Φ Ed b N } s h
  | .asg t e, N, s, h => xE cs Φ Ed e s h fun x h1 => ∃ s1, bindT t x s = some s1 ∧ N.nx s1 h1
  | .asgSub o i e, N, s, h => xE cs Φ Ed e s h fun x h1 => xE cs Φ Ed o s h1 fun y h2 => xE cs Φ Ed i s h2 fun z h3 => setD y z x h3 fun h4 => N.nx s h4
  | .asgPar i j es, N, s, h => xE cs Φ Ed es s h fun x h1 => ∃ v w, x = .tup [v, w] ∧ N.nx ((s.set i (some v)).set j (some w)) h1
  | .aug i op e, N, s, h => ∃ d, s[i]? = some (some d) ∧ xE cs Φ Ed e s h fun x h1 => augD op d x h1 fun z h2 => N.nx (s.set i (some z)) h2
  | .expr e, N, s, h => xE cs Φ Ed e s h fun _ h1 => N.nx s h1
  | .ret e, N, s, h => xE cs Φ Ed e s h N.rt
  | .retN, N, _, h => N.rt .non h
  | .ite c a b, N, s, h => xE cs Φ Ed c s h fun x h1 => ∃ k, x = .bl k ∧ if k = true then xS cs Φ Ed a N s h1 else xS cs Φ Ed b N s h1
  | .for_ t k src b, N, s, h => xE cs Φ Ed src s h fun x h1 => itD k x h1 fun items inv => forD items inv s h1 (fun y nx s h => ∃ s1, bindT t y s = some s1 ∧ xS cs Φ Ed b { N with nx := nx, ct := nx, bk := N.nx } s1 h) N.nx
  | .while_ c b, N, s, h => whileD (fun s h Q => xE cs Φ Ed c s h Q) (fun nx s h => xS cs Φ Ed b { N with nx := nx, ct := nx, bk := N.nx } s h) N.nx s h
  | .brk, N, s, h => N.bk s h
  | .cnt, N, s, h => N.ct s h
/-- the three loops, opened -/
theorem lc_mk {items : List D} {inv : DH → Prop} {h : DH} {turn : D → DH → (Option D → DH → Prop) → Prop} {Q : DK} (W : Nat → List D → DH → Prop) (hz : items.length ≤ sizeLine) (h0 : W 0 [] h) (hi : ∀ i acc h, i ≤ items.length → W i acc h → inv h)
    (hs : ∀ i x acc h, items[i]? = some x → W i acc h → turn x h fun r h' => match r with
      | some y => W (i + 1) (acc ++ [y]) h'
      | none => W (i + 1) acc h') (hd : ∀ acc h, W items.length acc h → newL h acc Q) : lcD items inv h turn Q := by
  unfold lcD
  exact ⟨hz, W, h0, hi, hs, hd⟩
theorem for_mk {items : List D} {inv : DH → Prop} {s : DSt} {h : DH} {turn : D → (DSt → DH → Prop) → DSt → DH → Prop} {nx : DSt → DH → Prop} (W : Nat → DSt → DH → Prop) (h0 : W 0 s h) (hi : ∀ i s h, i ≤ items.length → W i s h → inv h)
    (hs : ∀ i x s h, items[i]? = some x → W i s h → turn x (W (i + 1)) s h) (hd : ∀ s h, W items.length s h → nx s h) : forD items inv s h turn nx := by
  unfold forD
  exact ⟨W, h0, hi, hs, hd⟩
theorem while_mk {test : DSt → DH → DK → Prop} {turn : (DSt → DH → Prop) → DSt → DH → Prop} {nx : DSt → DH → Prop} {s : DSt} {h : DH} (W : Nat → DSt → DH → Prop) (m : Nat) (h0 : W m s h)
    (hs : ∀ m s h, W m s h → test s h fun x h1 => ∃ k, x = .bl k ∧ if k = true then turn (fun s' h' => ∃ m', m' < m ∧ W m' s' h') s h1 else nx s h1) : whileD test turn nx s h := by
  unfold whileD
  exact ⟨W, ⟨m, h0⟩, hs⟩
end DL
/-! ## 3a. Tuples at the machine: * 0, * 1, [::-1] -/
namespace DL
open PySem PySem.Spec PyProof.Rows L2
theorem tuple_mul1 (l : Addr) (items : Array Value) (n : Nat) (dd : Option Addr) (sl : Array (Option Value)) (u : Tok) :
    Meets (Builtin.«tuple.__mul__» ⟨[.ref l, .int 1 u], []⟩) (fun _ R s => s.heap.get? l = some { cls := .type "tuple", dict := dd, data := .seq items n, slots := sl } ∧
      R (.ok (.ret (Value.ref l))) s) :=
  .of_wp fun prog w A R s h => by
    obtain ⟨hp, g, d, tk, os⟩ := s
    obtain ⟨hl, h⟩ := h
    have f1 := AutoSeq1.idx_int
    have c0 : (decide ((1 : Int) < -(2 ^ 63)) || decide ((1 : Int) ≥ 2 ^ 63)) = false := by decide
    have c1 : (items.isEmpty || (1 : Int) == 1) = true := by simp
    wp_walk using wpAny_loadPart' hl
    repeat (first
      | (refine wpAny_ite_false (decide_eq_false (by rw [c0]; exact Bool.false_ne_true)) ?_; wp_walk using wpAny_loadPart' hl)
      | (refine wpAny_ite_true (decide_eq_true (by rw [c1])) ?_; wp_walk using wpAny_loadPart' hl))
    exact ⟨_, rfl, h⟩
theorem tuple_mul0 (l : Addr) (items : Array Value) (n : Nat) (dd : Option Addr) (sl : Array (Option Value)) (u : Tok) (hne : items.isEmpty = false) :
    Meets (Builtin.«tuple.__mul__» ⟨[.ref l, .int 0 u], []⟩) (fun _ R s => s.heap.get? l = some { cls := .type "tuple", dict := dd, data := .seq items n, slots := sl } ∧
      R (.ok (.ret (Value.ref s.heap.objs.size))) { s with heap := s.heap.push { cls := Value.type "tuple", data := Data.seq #[] }, toks := s.toks }) :=
  .of_wp fun prog w A R s h => by
    obtain ⟨hp, g, d, tk, os⟩ := s
    obtain ⟨hl, h⟩ := h
    have f1 := AutoSeq1.idx_int
    have c0 : (decide ((0 : Int) < -(2 ^ 63)) || decide ((0 : Int) ≥ 2 ^ 63)) = false := by decide
    have c1 : (items.isEmpty || (0 : Int) == 1) = false := by rw [hne]; decide
    have c2 : (decide ((0 : Int) ≤ 0) || items.isEmpty) = true := by simp
    wp_walk using wpAny_loadPart' hl
    repeat (first
      | (refine wpAny_ite_false (decide_eq_false (by rw [c0]; exact Bool.false_ne_true)) ?_; wp_walk using wpAny_loadPart' hl)
      | (refine wpAny_ite_false (decide_eq_false (by rw [c1]; exact Bool.false_ne_true)) ?_; wp_walk using wpAny_loadPart' hl)
      | (refine wpAny_ite_true (decide_eq_true (by rw [c2])) ?_; wp_walk using wpAny_loadPart' hl))
    exact ⟨_, rfl, h⟩
def rRep01 (K : PySem.W.Frag) : R2 := fun x y H Q => ∃ l k xs, x = .ref l ∧ y = .int k ∧ SqT K H l xs ∧ xs ≠ [] ∧ ((k = 1 ∧ Q (.ref l) H) ∨ (k = 0 ∧ ∀ p, H p = none → Q (.ref p) (upd H p (.tup []))))
variable {X : Cx}
theorem op_rep01 : OpR X (binaryOp .Mult) (rRep01 X.K) := by
  intro pins s σ H x y v u Q I rx ry h
  obtain ⟨l, k, xs, rfl, rfl, hT, hne, h⟩ := h
  cases rx
  obtain ⟨t, rfl⟩ := ry
  obtain ⟨its, r, ⟨⟨cls, dd, data, sl⟩, ho, hc, n, hd⟩, hs⟩ := I.tuple hT
  simp only at hc hd
  subst hc hd
  have hi : its.toArray.isEmpty = false := by
    cases its with
    | nil => exact absurd (List.eq_nil_of_length_eq_zero r.length) hne
    | cons a b => rfl
  rcases h with ⟨rfl, q⟩ | ⟨rfl, q⟩
  · refine wpAny_binaryOp_repeat_ref (T := "tuple") (U := "int") (by decide) ⟨_, ho, rfl⟩ (fun s' => typeIs_int s' 1 t) noFill_tuple_mul PySem.F.fills_int_mul PySem.F.slot_int_rmul repeat_tuple PySem.F.slot_int_index.lookup
      (call_meets PySem.F.slot_int_rmul (typeIs_int s 1 t) PySem.F.entry_int_rmul (PySem.F.args_int_rmul_2 _ _) (int_rmul_tuple 1 t l its.toArray n dd sl)
        ⟨ho, rfl, ⟨_, ho, rfl⟩, call_meets PySem.F.slot_tuple_mul ⟨_, ho, rfl⟩ PySem.F.entry_tuple_mul (PySem.F.args_tuple_mul_2 _ _) (tuple_mul1 l its.toArray n dd sl t) ⟨ho, ?_⟩⟩)
    exact ⟨.ref l, H, I, rfl, q⟩
  · refine wpAny_binaryOp_repeat_ref (T := "tuple") (U := "int") (by decide) ⟨_, ho, rfl⟩ (fun s' => typeIs_int s' 0 t) noFill_tuple_mul PySem.F.fills_int_mul PySem.F.slot_int_rmul repeat_tuple PySem.F.slot_int_index.lookup
      (call_meets PySem.F.slot_int_rmul (typeIs_int s 0 t) PySem.F.entry_int_rmul (PySem.F.args_int_rmul_2 _ _) (int_rmul_tuple 0 t l its.toArray n dd sl)
        ⟨ho, rfl, ⟨_, ho, rfl⟩, call_meets PySem.F.slot_tuple_mul ⟨_, ho, rfl⟩ PySem.F.entry_tuple_mul (PySem.F.args_tuple_mul_2 _ _) (tuple_mul0 l its.toArray n dd sl t hi) ⟨ho, ?_⟩⟩)
    refine ⟨.ref s.heap.objs.size, _, I.laid (t' := s.toks) (o := .tup []) (fun b ob q => Heap.get?_push_of_some _ q) (Nat.le_refl _) ?_, rfl, q _ (I.hok.fresh (Nat.le_refl _))⟩
    exact ⟨by simp, _, .nil, IsTup.new _ _⟩
/-! ### t[::-1] -/
section
variable {prog : Program} {w : World} {A : Around} {E : Value → Shared → Prop} {s : Shared}
theorem sliceApplied_rev {sl : Addr} {vl vu vs : Value} {n : Nat} {Q : Int × Int × Nat → Shared → Prop} (hs : s.heap.IsSliceOf sl vl vu vs) (pl : IsPart vl none) (pu : IsPart vu none) (ps : IsPart vs (some (-1)))
    (h : Q ((n : Int) - 1, -1, n) s) : wpAny (model prog w) A (Builtin.Slice.sliceApplied (.ref sl) (pure (n : Int))) Q E s := by
  obtain ⟨os, hos, hcs, hds⟩ := id hs
  unfold Builtin.Slice.sliceApplied Builtin.Slice.sliceFields
  refine wpAny_bind (wpAny_bind (wpAny_field hos hds (x := vl) rfl (wpAny_bind (wpAny_field hos hds (x := vu) rfl (wpAny_bind (wpAny_field hos hds (x := vs) rfl (wpAny_pure ?_)))))))
  refine wpAny_bind (HT.slicePart_ ps ?_)
  show wpAny _ _ (if ((-1 : Int) == 0) = true then _ else _) _ _ s
  rw [if_neg (by decide)]
  refine wpAny_bind (HT.slicePart_ pl (wpAny_bind (HT.slicePart_ pu (wpAny_bind (wpAny_pure ?_)))))
  show wpAny _ _ (match Builtin.Slice.sliceAdjust none none (-1) (n : Int) with | (lo, hi) => pure (lo, (-1 : Int), Builtin.Slice.slicePlaces lo hi (-1))) _ _ s
  have e1 : Builtin.Slice.sliceAdjust none none (-1) (n : Int) = ((n : Int) - 1, -1) := by
    unfold Builtin.Slice.sliceAdjust; rfl
  rw [e1]
  show wpAny _ _ (pure ((n : Int) - 1, (-1 : Int), Builtin.Slice.slicePlaces ((n : Int) - 1) (-1) (-1))) _ _ s
  have e2 : Builtin.Slice.slicePlaces ((n : Int) - 1) (-1) (-1) = n := by
    unfold Builtin.Slice.slicePlaces
    have h1 : ¬ ((-1 : Int) > 0) := by omega
    simp only [h1, if_false, Int.neg_neg, Int.ediv_one]
    split <;> omega
  rw [e2]
  exact wpAny_pure h
theorem fm_map {α β : Type} {f : α → Option β} {g : α → β} : ∀ {l : List α}, (∀ m ∈ l, f m = some (g m)) → l.filterMap f = l.map g
  | [], _ => rfl
  | a :: l, h => by rw [List.filterMap_cons, h a List.mem_cons_self, List.map_cons, fm_map fun m hm => h m (List.mem_cons_of_mem _ hm)]
theorem pick_rev (xs : Array Value) : ((List.range xs.size).filterMap fun (m : Nat) => xs[(((xs.size : Int) - 1) + (m : Int) * (-1)).toNat]?).toArray = xs.toList.reverse.toArray := by
  congr 1
  refine List.ext_getElem? fun i => ?_
  have e : (List.range xs.size).filterMap (fun (m : Nat) => xs[(((xs.size : Int) - 1) + (m : Int) * (-1)).toNat]?) = (List.range xs.size).map fun m => xs.getD (xs.size - 1 - m) .none := by
    refine fm_map fun m hm => ?_
    have hm' := List.mem_range.1 hm
    have : (((xs.size : Int) - 1) + (m : Int) * (-1)).toNat = xs.size - 1 - m := by omega
    rw [this]
    rw [Array.getD_eq_getD_getElem?, Array.getElem?_eq_getElem (by omega)]
    rfl
  rw [e, List.getElem?_map]
  by_cases hi : i < xs.size
  · rw [List.getElem?_range hi, List.getElem?_reverse (by simpa using hi)]
    simp only [Option.map_some, Array.length_toList, Array.getElem?_toList]
    rw [Array.getD_eq_getD_getElem?, Array.getElem?_eq_getElem (by omega)]
    rfl
  · rw [List.getElem?_eq_none (by simpa using hi), List.getElem?_eq_none (by simpa using hi)]
    rfl
theorem getItem_tuple_rev {t sl : Addr} {items : Array Value} {vl vu vs : Value} {Q : Value → Shared → Prop} (ht : IsTup s.heap t items) (hs : s.heap.IsSliceOf sl vl vu vs) (pl : IsPart vl none) (pu : IsPart vu none) (ps : IsPart vs (some (-1)))
    (h : Q (.ref s.heap.objs.size) { s with heap := s.heap.push { cls := .type "tuple", data := .seq items.toList.reverse.toArray } })
    (hsz : items.size ≤ sizeLine) : wpAny (model prog w) A (getItem (.ref t) (.ref sl)) Q E s := by
  have htake : sizeOk (.seq items.toList.reverse.toArray) := by
    show items.toList.reverse.toArray.size ≤ sizeLine
    simpa using hsz
  obtain ⟨os, hos, hcs, hds⟩ := id hs
  have hTs : s.TypeIs (.ref sl) "slice" := ⟨os, hos, hcs⟩
  unfold getItem
  try with_reducible refine wpAny_holding ?_
  first | refine wpAny_bind (wpAny_pure ?_) | skip
  refine wpAny_bind (wpAny_sequenceKey ht.typeIs (by decide) ?_)
  refine wpAny_bind (wpAny_callSpecial?_slot (name := Str.ofString "__getitem__") ht.typeIs PyProof.Rows.slot_tuple_getitem
    (wpAny_call_entry PyProof.Rows.slot_tuple_getitem ht.typeIs entry_tuple_getitem ?_ (args_tuple_getitem _ _)))
  show wpAny _ _ (Builtin.Tuple.tupleItemsOf (.ref t) >>= _) _ _ s
  refine wpAny_bind (tupleItemsOf_ ht ?_)
  refine wpAny_bind (wpAny_typeOf hTs ?_)
  rw [if_pos (by decide)]
  refine wpAny_bind (sliceApplied_rev hs pl pu ps ?_)
  have hno : ¬ ((((items.size : Int) - 1) == 0 && (-1 : Int) == 1 && items.size == items.size) = true) := by
    intro q
    rw [Bool.and_eq_true, Bool.and_eq_true] at q
    exact absurd q.1.2 (by decide)
  show wpAny _ _ (if (((items.size : Int) - 1) == 0 && (-1 : Int) == 1 && items.size == items.size) = true then _ else _) _ _ s
  rw [if_neg hno, pick_rev]
  first
    | exact wpAny_bind (m := Builtin.Tuple.tupleExact _) (wpAny_newObj_type (wpAny_pure ⟨_, rfl, wpAny_pure h⟩) htake)
    | exact wpAny_bind (m := Builtin.Tuple.tupleExact _) (wpAny_newObj_type (wpAny_bind (wpAny_pure (wpAny_pure ⟨_, rfl, wpAny_pure h⟩))) htake)
    | exact wpAny_bind (wpAny_bind (m := Builtin.Tuple.tupleExact _) (wpAny_newObj_type (wpAny_pure (wpAny_pure ⟨_, rfl, wpAny_pure h⟩)) htake))
    | exact wpAny_bind (wpAny_bind (m := Builtin.Tuple.tupleExact _) (wpAny_newObj_type (wpAny_pure ⟨_, rfl, wpAny_pure h⟩) htake))
end
def tRevT (K : PySem.W.Frag) (te : TE) : TE := fun σ H Q => te σ H fun x H1 => ∃ a xs, x = .ref a ∧ ((SqL K H1 a xs ∧ ∀ p, H1 p = none → Q (.ref p) (upd H1 p (.lst xs.reverse))) ∨ (SqT K H1 a xs ∧ ∀ p, H1 p = none → Q (.ref p) (upd H1 p (.tup xs.reverse))))
theorem pe_revT {e : Expr} {te : TE} {k : Nat} {p1 p2 p3 pos : Pos} (he : PE X e te) : PE X (.Subscript e (.Slice none none (some (.UnaryOp .USub (.Constant (.int 1) k p1) p2)) p3) pos) (tRevT X.K te) := by
  refine ⟨fun pins s σ H Q I h => ?_⟩
  refine Subscript_ (thn (he.run pins s σ H _ I h) fun v s1 ⟨x, H1, I1, r1, q1⟩ => ?_)
  obtain ⟨a, xs, ex, q⟩ := q1
  subst ex
  cases r1
  have hst : PO X (some (.UnaryOp .USub (.Constant (.int 1) k p1) p2)) (tPart (tUn (rU fun i => .int (-i)) (tC (.int 1)))) := po_some (pe_un un_neg pe_int)
  refine wpAny_Slice (thn (po_none.run pins s1 σ H1 (fun o H2 => o = none ∧ H2 = H1) I1 ⟨rfl, rfl⟩) fun vl s2 ⟨l, H2, I2, pl, el, e2⟩ => ?_)
  subst el e2
  refine thn (po_none.run pins s2 σ H2 (fun o H3 => o = none ∧ H3 = H2) I2 ⟨rfl, rfl⟩) fun vu s3 ⟨u, H3, I3, pu, eu, e3⟩ => ?_
  subst eu e3
  refine thn (hst.run pins s3 σ H3 (fun o H4 => o = some (-1) ∧ H4 = H3) I3 ⟨1, rfl, -1, rfl, rfl, rfl⟩) fun vs s4 ⟨o, H4, I4, ps, eo, e4⟩ => ?_
  subst eo e4
  have I5 : Inv X pins σ H4 { s4 with heap := s4.heap.push { cls := .type "slice", data := .fields #[vl, vu, vs] } } := I4.kept (t' := s4.toks) fun b ob q => Heap.get?_push_of_some _ q
  show wpAny (model X.prog X.w) X.A (subscriptTail e (.Slice none none (some (.UnaryOp .USub (.Constant (.int 1) k p1) p2)) p3) (.ref a) (.ref s4.heap.objs.size)) (EP X pins σ Q) X.xe { s4 with heap := s4.heap.push { cls := .type "slice", data := .fields #[vl, vu, vs] } }
  rcases q with ⟨hx, q⟩ | ⟨hx, q⟩
  · obtain ⟨its, r, ht, hz⟩ := I5.list hx
    have hlen := r.length
    refine tail_any (ops := [.ref a, .ref s4.heap.objs.size]) ht.isList.typeIs (PySem.slot_list_getitem.lookup) ?_ (by with_unfolding_all rfl)
    refine wpAny_getItem_list_slice ht.isList (Heap.IsSliceOf.new _ vl vu vs) pl pu ps (by decide) ?_ (by rw [List.size_toArray]; omega)
    rw [PySem.W.krv_pick]
    refine ⟨.ref _, _, I5.laid (t' := s4.toks) (o := .lst xs.reverse) (fun b ob q => Heap.get?_push_of_some _ q) (Nat.le_refl _) ?_, rfl, q _ (I5.hok.fresh (Nat.le_refl _))⟩
    exact ⟨by rw [List.length_reverse]; exact hz, _, 0, r.reverse, Heap.get?_push_size _ rfl⟩
  · obtain ⟨its, r, ht, hz⟩ := I5.tuple hx
    have hlen := r.length
    refine tail_any (ops := [.ref a, .ref s4.heap.objs.size]) ht.typeIs (PyProof.Rows.slot_tuple_getitem.lookup) ?_ (by with_unfolding_all rfl)
    refine getItem_tuple_rev ht (Heap.IsSliceOf.new _ vl vu vs) pl pu ps ?_ (by rw [List.size_toArray]; omega)
    refine ⟨.ref _, _, I5.laid (t' := s4.toks) (o := .tup xs.reverse) (fun b ob q => Heap.get?_push_of_some _ q) (Nat.le_refl _) ?_, rfl, q _ (I5.hok.fresh (Nat.le_refl _))⟩
    exact ⟨by rw [List.length_reverse]; exact hz, _, r.reverse, IsTup.new _ _⟩
end DL
namespace DL
open PySem PySem.Spec L2 PyProof.Rows

/-! ## dicts at the machine -/
section
variable {X : Cx} {pins : List (Addr × Obj)} {σ : L2.St} {H : Hp} {s : Shared} {h : DH}
mutual
theorem nest_of (I : Inv X pins σ H s) : ∀ (d : D) (n : NestedKey) (v : V) (u : Value), nkey d = some n → RD X.kw H d v → RelV v u → NestedIs s.heap n u
  | .non, n, v, u, e, r, q => by
    cases r
    simp only [nkey, Option.some.injEq] at e
    subst e
    cases (show u = Value.none from q)
    exact .none
  | .int i, n, v, u, e, r, q => by
    cases r
    simp only [nkey, Option.some.injEq] at e
    subst e
    obtain ⟨t, rfl⟩ := (show ∃ t, u = Value.int i t from q)
    exact .int _ _
  | .bl b, n, v, u, e, r, q => by
    cases r
    simp only [nkey, Option.some.injEq] at e
    subst e
    cases (show u = Value.bool b from q)
    exact .bool rfl
  | .str x, n, v, u, e, r, q => by
    cases r
    simp only [nkey, Option.some.injEq] at e
    subst e
    obtain ⟨t, rfl⟩ := (show ∃ t, u = Value.str x t from q)
    exact .text _ _
  | .tup ds, n, v, u, e, r, q => by
    cases r with | tup sq rs =>
    simp only [nkey] at e
    cases e1 : nkeys ds with
    | none => rw [e1] at e; cases e
    | some ks =>
      rw [e1] at e
      cases e
      obtain ⟨its, rv, ⟨o, ho, hc, n, hd⟩, _⟩ := I.tuple sq
      cases (show u = Value.ref _ from q)
      exact .tup ho hc hd (nests_of I ds ks _ _ e1 rs rv)
  | .ref _, _, _, _, e, _, _ => by simp [nkey] at e
  | .rl _, _, _, _, e, _, _ => by simp [nkey] at e
  | .ty _, _, _, _, e, _, _ => by simp [nkey] at e
theorem nests_of (I : Inv X pins σ H s) : ∀ (ds : List D) (ns : List NestedKey) (vs : List V) (us : List Value), nkeys ds = some ns → RDs X.kw H ds vs → Vals vs us → NestedAll s.heap ns us
  | [], ns, vs, us, e, r, q => by
    cases r
    simp only [nkeys, Option.some.injEq] at e
    subst e
    cases q
    exact .nil
  | d :: ds, ns, vs, us, e, r, q => by
    cases r with | cons r rs =>
    cases q with | cons q qs =>
    simp only [nkeys] at e
    cases e1 : nkey d with
    | none => rw [e1] at e; cases e
    | some k =>
      cases e2 : nkeys ds with
      | none => rw [e1, e2] at e; cases e
      | some ks =>
        rw [e1, e2] at e
        cases e
        exact .cons (nest_of I d k _ _ e1 r q) (nests_of I ds ks _ _ e2 rs qs)
end
theorem dct_obj (I : Inv X pins σ H s) {a : Addr} {o : Obj} (e : H a = some (PinO a o)) : s.heap.get? a = some o := (I.hok a _ e).1
/-- what the pairs are to the machine: keys that are tuples -/
abbrev PairT (K : KW) (H : Hp) : D × D → NestedKey × Addr × Value → Prop := fun p q => nkey p.1 = some q.1 ∧ RD K H p.1 (.ref q.2.1) ∧ ∃ v, RD K H p.2 v ∧ RelV v q.2.2
theorem dct_keyed (I : Inv X pins σ H s) {a : Addr} {kvs : List (D × D)} {o : Obj} (e : H a = some (PinO a o)) (r : DctO X.kw H a true kvs o) :
    ∃ xs, s.heap.DictOfH (nestedKind X.prog X.w) a xs ∧ Paired (PairT X.kw H) kvs xs := by
  obtain ⟨es, ep, hd, pr⟩ := r.ex
  have go : ∀ (kvs : List (D × D)) (es : List DictEntry), Paired (Ent X.kw H true) kvs es → ∃ xs : List (NestedKey × Addr × Value), es = xs.map (entryOfKey (nestedKind X.prog X.w)) ∧ (∀ x ∈ xs, (nestedKind X.prog X.w).is s.heap x.1 x.2.1) ∧
      (xs.map fun x => some x.1) = kvs.map (fun kv => nkey kv.1) ∧ Paired (PairT X.kw H) kvs xs := by
    intro kvs es pr
    induction pr with
    | nil => exact ⟨[], rfl, by simp, rfl, .nil⟩
    | @cons kv e kvs es q _ ih =>
      obtain ⟨xs, h1, h2, h3, h4⟩ := ih
      obtain ⟨n, b, v, e1, e2, e3, e4, e5, e6, e7⟩ := q.ex
      refine ⟨(n, b, e.val) :: xs, ?_, ?_, ?_, .cons ⟨e1, e5, v, e6, e7⟩ h4⟩
      · rw [List.map_cons, ← h1]
        congr 1
        cases e
        simp only at e3 e4
        subst e3 e4
        rfl
      · intro x hx
        rcases List.mem_cons.mp hx with rfl | hx
        · exact ⟨nest_of I _ _ _ _ e1 e5 rfl, e2⟩
        · exact h2 x hx
      · simp [h3, e1]
  obtain ⟨xs, h1, h2, h3, h4⟩ := go kvs es.toList pr
  refine ⟨xs, ⟨o, es, ep, dct_obj I e, r.exact_, hd, h1, h2, ?_⟩, h4⟩
  have nd := r.nd
  rw [← h3, show (fun x : NestedKey × Addr × Value => some x.1) = some ∘ (·.1) from rfl, ← List.map_map] at nd
  exact List.Pairwise.of_map some (fun a b hne e => hne (congrArg some e)) nd
/-- .. that are ints and texts -/
abbrev PairL (K : KW) (H : Hp) : D × D → Key × Value → Prop := fun p q => leafD p.1 = some q.1 ∧ ∃ v, RD K H p.2 v ∧ RelV v q.2
theorem leaf_nkey {d : D} {l : Key} (e : leafD d = some l) : nkey d = some (match l with | .inl i => .num i | .inr x => .text x) := by
  cases d <;> simp [leafD] at e <;> subst e <;> rfl
theorem leaf_inj {d e : D} {l m : Key} (h1 : leafD d = some l) (h2 : leafD e = some m) : nkey d = nkey e ↔ l = m := by
  rw [leaf_nkey h1, leaf_nkey h2]
  cases l <;> cases m <;> simp
theorem dct_leafs (I : Inv X pins σ H s) {a : Addr} {kvs : List (D × D)} {o : Obj} (e : H a = some (PinO a o)) (r : DctO X.kw H a false kvs o) :
    ∃ xs, s.heap.DictOf (mixKind X.prog X.w) a xs ∧ Paired (PairL X.kw H) kvs xs := by
  obtain ⟨es, ep, hd, pr⟩ := r.ex
  have go : ∀ (kvs : List (D × D)) (es : List DictEntry), Paired (Ent X.kw H false) kvs es → ∃ xs : List (Key × Value), Pairs (mixKind X.prog X.w) es xs ∧ (∀ e ∈ es, ∃ k, (mixKind X.prog X.w).is k e.key = true ∧ e.hash = (mixKind X.prog X.w).hash k) ∧
      (∀ x ∈ xs, ∃ kv ∈ kvs, leafD kv.1 = some x.1) ∧ Paired (PairL X.kw H) kvs xs := by
    intro kvs es pr
    induction pr with
    | nil => exact ⟨[], .nil, by simp, by simp, .nil⟩
    | @cons kv e kvs es q _ ih =>
      obtain ⟨xs, h1, h2, h3, h4⟩ := ih
      obtain ⟨l, v, e1, e2, e3, e4, e5⟩ := q.ex
      refine ⟨(l, e.val) :: xs, .cons e3 rfl h1, ?_, ?_, .cons ⟨e1, v, e4, e5⟩ h4⟩
      · intro x hx
        rcases List.mem_cons.mp hx with rfl | hx
        · exact ⟨l, e3, e2⟩
        · exact h2 x hx
      · intro x hx
        rcases List.mem_cons.mp hx with rfl | hx
        · exact ⟨kv, List.mem_cons_self, e1⟩
        · obtain ⟨kv', m, z⟩ := h3 x hx
          exact ⟨kv', List.mem_cons_of_mem _ m, z⟩
  obtain ⟨xs, h1, h2, h3, h4⟩ := go kvs es.toList pr
  refine ⟨xs, ⟨o, es, ep, dct_obj I e, r.exact_, hd, fun e he => h2 e (by simpa using he), h1, ?_⟩, h4⟩
  -- no key twice
  have nd := r.nd
  have key : ∀ (kvs : List (D × D)) (xs : List (Key × Value)), Paired (PairL X.kw H) kvs xs → (kvs.map fun kv => nkey kv.1).Nodup → (xs.map (·.1)).Nodup := by
    intro kvs xs p
    induction p with
    | nil => intro _; exact List.nodup_nil
    | @cons kv x kvs xs q t ih =>
      intro nd
      rw [List.map_cons, List.nodup_cons] at nd ⊢
      refine ⟨fun hm => nd.1 ?_, ih nd.2⟩
      obtain ⟨y, hy, ey⟩ := List.mem_map.mp hm
      obtain ⟨kv', hk, q'⟩ : ∃ kv' ∈ kvs, PairL X.kw H kv' y := by
        clear ih nd hm
        induction t with
        | nil => cases hy
        | @cons a b as bs u _ ih2 =>
          rcases List.mem_cons.mp hy with rfl | hy
          · exact ⟨a, List.mem_cons_self, u⟩
          · obtain ⟨z, m, w⟩ := ih2 hy; exact ⟨z, List.mem_cons_of_mem _ m, w⟩
      refine List.mem_map.mpr ⟨kv', hk, ?_⟩
      exact (leaf_inj q'.1 q.1).mpr ey
  exact key _ _ h4 nd
/-- what is found -/
theorem find_T {K : KW} {H : Hp} {kvs : List (D × D)} {xs : List (NestedKey × Addr × Value)} (p : Paired (PairT K H) kvs xs) {k : D} {n : NestedKey} (e : nkey k = some n) :
    match dget kvs k with
    | none => atKey xs n = none
    | some d => ∃ q v, atKey xs n = some q ∧ RD K H d v ∧ RelV v q.2 := by
  induction p with
  | nil => simp [dget, atKey]
  | @cons kv x kvs xs q _ ih =>
    unfold dget atKey at ih ⊢
    rw [List.find?_cons, List.find?_cons]
    by_cases h : x.1 = n
    · have h1 : nkey kv.1 = nkey k := by rw [q.1, e, h]
      rw [decide_eq_true h1, decide_eq_true h]
      obtain ⟨v, r1, r2⟩ := q.2.2
      exact ⟨_, v, rfl, r1, r2⟩
    · have h1 : ¬ nkey kv.1 = nkey k := by rw [q.1, e]; exact fun z => h (Option.some.inj z)
      rw [decide_eq_false h1, decide_eq_false h]
      exact ih
theorem find_L {K : KW} {H : Hp} {kvs : List (D × D)} {xs : List (Key × Value)} (p : Paired (PairL K H) kvs xs) {k : D} {n : Key} (e : leafD k = some n) :
    match dget kvs k with
    | none => valueAt xs n = none
    | some d => ∃ u v, valueAt xs n = some u ∧ RD K H d v ∧ RelV v u := by
  induction p with
  | nil => simp [dget, valueAt]
  | @cons kv x kvs xs q _ ih =>
    unfold dget valueAt at ih ⊢
    rw [List.find?_cons, List.find?_cons]
    by_cases h : x.1 = n
    · have h1 : nkey kv.1 = nkey k := (leaf_inj q.1 e).mpr h
      rw [decide_eq_true h1, decide_eq_true h]
      obtain ⟨v, r1, r2⟩ := q.2
      exact ⟨_, v, rfl, r1, r2⟩
    · have h1 : ¬ nkey kv.1 = nkey k := fun z => h ((leaf_inj q.1 e).mp z)
      rw [decide_eq_false h1, decide_eq_false h]
      exact ih
theorem key_T (I : Inv X pins σ H s) {i : D} {y : V} {u : Value} (hk : keyB true i = true) (ri : RD X.kw H i y) (ru : RelV y u) : ∃ n a, nkey i = some n ∧ y = .ref a ∧ u = .ref a ∧ (nestedKind X.prog X.w).is s.heap n a := by
  cases i with
  | tup ds =>
    cases e : nkeys ds with
    | none => simp only [keyB, e] at hk; cases hk
    | some ks =>
      simp only [keyB, e] at hk
      have hd : NestedKey.depthAll ks ≤ 7 := of_decide_eq_true hk
      have en : nkey (.tup ds) = some (.tup ks) := by simp [nkey, e]
      have ni := nest_of I _ _ _ _ en ri ru
      cases ri with | tup sq rs =>
      cases (show u = Value.ref _ from ru)
      exact ⟨_, _, en, rfl, rfl, ni, by simp only [NestedKey.depth]; omega⟩
  | _ => cases hk
theorem key_L {i : D} {y : V} {u : Value} (hk : keyB false i = true) (ri : RD X.kw H i y) (ru : RelV y u) : ∃ l, leafD i = some l ∧ (mixKind X.prog X.w).is l u = true := by
  cases i with
  | int j => cases ri; exact ⟨.inl j, rfl, kV_is (k := .inl j) ru⟩
  | str x => cases ri; exact ⟨.inr x, rfl, kV_is (k := .inr x) ru⟩
  | _ => cases hk
theorem room1 {A : Around} (hu : A.units + 64 < cLine) : (nestedKind X.prog X.w).room A.in1 := by
  show A.in1.units + 8 < cLine
  rw [Around.in1_units]
  omega
variable {E : Value → Shared → Prop} {p : Addr} {b : Bool} {kvs : List (D × D)} {o : Obj} {i v : D} {y : V} {u : Value}
/-- d[k] -/
theorem dd_get {Q : Value → Shared → Prop} (hu : X.A.units + 64 < cLine) (I : Inv X pins σ H s) (rh : RH X.kw H h) (e : h p = some (.dct b kvs o)) (hk : keyB b i = true) (hv : dget kvs i = some v) (ri : RD X.kw H i y) (ru : RelV y u)
    (k : ∀ w' s' z, Inv X pins σ H s' → RD X.kw H v z → RelV z w' → Q w' s') : wpAny (model X.prog X.w) X.A (getItem (.ref p) u) Q E s := by
  obtain ⟨eo, r⟩ := rh _ _ e
  cases b with
  | true =>
    obtain ⟨n, a, en, rfl, rfl, ki⟩ := key_T I hk ri ru
    obtain ⟨xs, dd, pr⟩ := dct_keyed I eo r
    have f := find_T pr en
    rw [hv] at f
    obtain ⟨q, z, f1, f2, f3⟩ := f
    exact wpAny_getItem_heap (room1 hu) ki dd f1 (k _ _ z (I.tok _) f2 f3)
  | false =>
    obtain ⟨l, el, ki⟩ := key_L hk ri ru
    obtain ⟨xs, dd, pr⟩ := dct_leafs I eo r
    have f := find_L pr el
    rw [hv] at f
    obtain ⟨q, z, f1, f2, f3⟩ := f
    exact wpAny_getItem_of ki dd.mapOf f1 (k _ _ z (I.tok _) f2 f3)
theorem found_T {K : KW} {H : Hp} {kvs : List (D × D)} {xs : List (NestedKey × Addr × Value)} (pr : Paired (PairT K H) kvs xs) {k : D} {n : NestedKey} (e : nkey k = some n) : (atKey xs n).isSome = (dget kvs k).isSome := by
  have f := find_T pr e
  cases q : dget kvs k with
  | none => rw [q] at f; rw [f]; rfl
  | some d => rw [q] at f; obtain ⟨_, _, f1, _⟩ := f; rw [f1]; rfl
theorem found_L {K : KW} {H : Hp} {kvs : List (D × D)} {xs : List (Key × Value)} (pr : Paired (PairL K H) kvs xs) {k : D} {n : Key} (e : leafD k = some n) : (valueAt xs n).isSome = (dget kvs k).isSome := by
  have f := find_L pr e
  cases q : dget kvs k with
  | none => rw [q] at f; rw [f]; rfl
  | some d => rw [q] at f; obtain ⟨_, _, f1, _⟩ := f; rw [f1]; rfl
/-- k in d -/
theorem dd_in {Q : Value → Shared → Prop} (hu : X.A.units + 64 < cLine) (I : Inv X pins σ H s) (rh : RH X.kw H h) (e : h p = some (.dct b kvs o)) (hk : keyB b i = true) (ri : RD X.kw H i y) (ru : RelV y u)
    (k : ∀ s', Inv X pins σ H s' → Q (.bool (dget kvs i).isSome) s') : wpAny (model X.prog X.w) X.A (compareOp .In u (.ref p)) Q E s := by
  obtain ⟨eo, r⟩ := rh _ _ e
  cases b with
  | true =>
    obtain ⟨n, a, en, rfl, rfl, ki⟩ := key_T I hk ri ru
    obtain ⟨xs, dd, pr⟩ := dct_keyed I eo r
    refine wpAny_in_heap (room1 hu) ki r.nosys dd ?_
    rw [found_T pr en]
    exact k _ (I.tok _)
  | false =>
    obtain ⟨l, el, ki⟩ := key_L hk ri ru
    obtain ⟨xs, dd, pr⟩ := dct_leafs I eo r
    refine wpAny_in_of ki r.nosys dd.mapOf ?_
    rw [found_L pr el]
    exact k _ (I.tok _)
theorem dd_notIn {Q : Value → Shared → Prop} (hu : X.A.units + 64 < cLine) (I : Inv X pins σ H s) (rh : RH X.kw H h) (e : h p = some (.dct b kvs o)) (hk : keyB b i = true) (ri : RD X.kw H i y) (ru : RelV y u)
    (k : ∀ s', Inv X pins σ H s' → Q (.bool (!(dget kvs i).isSome)) s') : wpAny (model X.prog X.w) X.A (compareOp .NotIn u (.ref p)) Q E s := by
  obtain ⟨eo, r⟩ := rh _ _ e
  cases b with
  | true =>
    obtain ⟨n, a, en, rfl, rfl, ki⟩ := key_T I hk ri ru
    obtain ⟨xs, dd, pr⟩ := dct_keyed I eo r
    refine wpAny_notIn_heap (room1 hu) ki r.nosys dd ?_
    rw [found_T pr en]
    exact k _ (I.tok _)
  | false =>
    obtain ⟨l, el, ki⟩ := key_L hk ri ru
    obtain ⟨xs, dd, pr⟩ := dct_leafs I eo r
    refine wpAny_notIn_of ki r.nosys dd.mapOf ?_
    rw [found_L pr el]
    exact k _ (I.tok _)
/-- the pairs written back -/
theorem put_T {K : KW} {H : Hp} {kvs : List (D × D)} {xs : List (NestedKey × Addr × Value)} (pr : Paired (PairT K H) kvs xs) {k v : D} {n : NestedKey} {a : Addr} {w : V} {r : Value} (e : nkey k = some n) (rk : RD K H k (.ref a)) (rv : RD K H v w) (rw' : RelV w r) :
    Paired (PairT K H) (dput kvs k v) (storedH xs n a r) := by
  unfold dput storedH
  rw [found_T pr e]
  cases hq : (dget kvs k).isSome with
  | false =>
    rw [if_neg Bool.false_ne_true, if_neg Bool.false_ne_true]
    exact pr.snoc ⟨e, rk, w, rv, rw'⟩
  | true =>
    rw [if_pos rfl, if_pos rfl]
    clear hq
    induction pr with
    | nil => exact .nil
    | @cons kv x kvs xs q _ ih =>
      refine .cons ?_ ih
      unfold putAt
      dsimp only
      by_cases h : x.1 = n
      · have h1 : nkey kv.1 = nkey k := by rw [q.1, e, h]
        rw [if_pos h1, if_pos h]
        exact ⟨q.1, q.2.1, w, rv, rw'⟩
      · have h1 : ¬ nkey kv.1 = nkey k := by rw [q.1, e]; exact fun z => h (Option.some.inj z)
        rw [if_neg h1, if_neg h]
        exact q
theorem put_L {K : KW} {H : Hp} {kvs : List (D × D)} {xs : List (Key × Value)} (pr : Paired (PairL K H) kvs xs) {k v : D} {n : Key} {w : V} {r : Value} (e : leafD k = some n) (rv : RD K H v w) (rw' : RelV w r) :
    Paired (PairL K H) (dput kvs k v) (stored xs n r) := by
  unfold dput stored
  have hf : (xs.any fun kv => decide (kv.1 = n)) = (dget kvs k).isSome := by
    rw [← found_L pr e]
    clear pr
    induction xs with
    | nil => rfl
    | cons x xs ih =>
      unfold valueAt at ih ⊢
      rw [List.any_cons, List.find?_cons, ih]
      cases h : decide (x.1 = n) <;> simp
  rw [hf]
  cases hq : (dget kvs k).isSome with
  | false =>
    rw [if_neg Bool.false_ne_true, if_neg Bool.false_ne_true]
    exact pr.snoc ⟨e, w, rv, rw'⟩
  | true =>
    rw [if_pos rfl, if_pos rfl]
    clear hq hf
    induction pr with
    | nil => exact .nil
    | @cons kv x kvs xs q _ ih =>
      refine .cons ?_ ih
      dsimp only
      by_cases h : x.1 = n
      · have h1 : nkey kv.1 = nkey k := (leaf_inj q.1 e).mpr h
        rw [if_pos h1, if_pos h]
        exact ⟨q.1, w, rv, rw'⟩
      · have h1 : ¬ nkey kv.1 = nkey k := fun z => h ((leaf_inj q.1 e).mp z)
        rw [if_neg h1, if_neg h]
        exact q
theorem dput_len {kvs : List (D × D)} {k v : D} : (dput kvs k v).length ≤ kvs.length + 1 := by
  unfold dput
  split <;> simp
theorem dget_some {kvs : List (D × D)} {k : D} : (dget kvs k).isSome = true ↔ nkey k ∈ kvs.map fun kv => nkey kv.1 := by
  unfold dget
  rw [Option.isSome_map, List.find?_isSome]
  constructor
  · rintro ⟨x, h1, h2⟩
    exact List.mem_map.mpr ⟨x, h1, of_decide_eq_true h2⟩
  · intro h
    obtain ⟨x, h1, h2⟩ := List.mem_map.mp h
    exact ⟨x, h1, decide_eq_true h2⟩
theorem dput_nd {kvs : List (D × D)} {k v : D} (nd : (kvs.map fun kv => nkey kv.1).Nodup) : ((dput kvs k v).map fun kv => nkey kv.1).Nodup := by
  unfold dput
  split
  · rw [List.map_map]
    have : ((fun kv : D × D => nkey kv.1) ∘ fun kv => if nkey kv.1 = nkey k then (kv.1, v) else kv) = fun kv => nkey kv.1 := by
      funext kv
      simp only [Function.comp]
      split <;> rfl
    rw [this]
    exact nd
  · rename_i h
    rw [List.map_append, List.nodup_append]
    refine ⟨nd, by simp, ?_⟩
    intro a ha b hb e
    simp only [List.map_cons, List.map_nil, List.mem_singleton] at hb
    subst hb
    subst e
    exact h (dget_some.mpr ha)
theorem ent_T {kvs : List (D × D)} {xs : List (NestedKey × Addr × Value)} {H : Hp} {prog : Program} {hp : Heap} {K : KW} (pr : Paired (PairT K H) kvs xs) (hd : ∀ x ∈ xs, (nestedKind prog K.w).is hp x.1 x.2.1) : Paired (Ent K H true) kvs (xs.map (entryOfKey (nestedKind prog K.w))) := by
  induction pr with
  | nil => exact .nil
  | @cons kv x kvs xs q _ ih =>
    obtain ⟨v, r1, r2⟩ := q.2.2
    exact .cons ⟨_, _, v, q.1, (hd x List.mem_cons_self).2, rfl, rfl, q.2.1, r1, r2⟩ (ih fun y hy => hd y (List.mem_cons_of_mem _ hy))
theorem ent_L {H : Hp} {prog : Program} {K : KW} : ∀ {kvs : List (D × D)} {xs : List (Key × Value)} {es : List DictEntry}, Paired (PairL K H) kvs xs → Pairs (mixKind prog K.w) es xs → (∀ e ∈ es, ∃ k, (mixKind prog K.w).is k e.key = true ∧ e.hash = (mixKind prog K.w).hash k) → Paired (Ent K H false) kvs es := by
  intro kvs xs es pr
  induction pr generalizing es with
  | nil => intro p _; cases p; exact .nil
  | @cons kv x kvs xs q _ ih =>
    intro p hk
    cases p with | @cons e _ es _ h1 h2 h3 =>
    obtain ⟨v, r1, r2⟩ := q.2
    obtain ⟨k, k1, k2⟩ := hk e List.mem_cons_self
    have ek : k = x.1 := (mixKind prog K.w).inj _ _ _ k1 h1
    subst ek
    exact .cons ⟨_, v, q.1, k2, h1, r1, by rw [h2]; exact r2⟩ (ih h3 fun y hy => hk y (List.mem_cons_of_mem _ hy))
/-- the object at p is the dict o' now -/
theorem dct_write (I : Inv X pins σ H s) {o' : Obj} {h' : Heap} {t' : Nat} (eo : H p = some (PinO p o)) (hs : Heap.SameBut p s.heap h') (ho : h'.get? p = some o') : Inv X pins σ (upd H p (PinO p o')) { s with heap := h', toks := t' } :=
  I.write (x := p) (e := p) (by rw [eo]; exact True.intro) (.inl rfl) (fun b q hb z => (hs.2 b hb).trans z) ⟨o', ho⟩ ⟨ho, ⟨_, ho⟩, fun _ _ q k => k _ q⟩
/-- d[k] = v -/
theorem dd_set {Q : Unit → Shared → Prop} {w : V} {r : Value} (hu : X.A.units + 64 < cLine) (I : Inv X pins σ H s) (rh : RH X.kw H h) (e : h p = some (.dct b kvs o)) (hk : keyB b i = true) (hl : kvs.length < sizeLine) (ri : RD X.kw H i y) (ru : RelV y u) (rv : RD X.kw H v w) (rw' : RelV w r)
    (k : ∀ s' o', Inv X pins σ (upd H p (PinO p o')) s' → DctO X.kw H p b (dput kvs i v) o' → Q () s') : wpAny (model X.prog X.w) X.A (setItem (.ref p) u r) Q E s := by
  obtain ⟨eo, d⟩ := rh _ _ e
  have hl2 : (dput kvs i v).length ≤ sizeLine := Nat.le_trans dput_len hl
  cases b with
  | true =>
    obtain ⟨n, a, en, rfl, rfl, ki⟩ := key_T I hk ri ru
    obtain ⟨xs, dd, pr⟩ := dct_keyed I eo d
    refine wpAny_setItem_heap (hsz := by rw [← pr.length]; exact d.len) (room1 hu) ki dd fun h' dd' hs => ?_
    obtain ⟨o', es, ep, ho, h2, h3, h4, h5, h6⟩ := dd'
    refine k _ o' (dct_write I eo hs ho) ⟨d.nosys, h2, hl2, ⟨es, ep, h3, ?_⟩, dput_nd d.nd⟩
    rw [h4]
    exact ent_T (put_T pr en ri rv rw') h5
  | false =>
    obtain ⟨l, el, ki⟩ := key_L hk ri ru
    obtain ⟨xs, dd, pr⟩ := dct_leafs I eo d
    refine wpAny_setItem_pairs (hsz := by rw [← pr.length]; exact d.len) ki dd fun h' dd' hs => ?_
    obtain ⟨o', es, ep, ho, h2, h3, h4, h5, h6⟩ := dd'
    exact k _ o' (dct_write I eo hs ho) ⟨d.nosys, h2, hl2, ⟨es, ep, h3, ent_L (put_L pr el rv rw') h5 fun e he => h4 e (by simpa using he)⟩, dput_nd d.nd⟩
end
end DL
namespace DL
open PySem PySem.Spec L2 PyProof.Rows
open Builtin.Frozenset

/-! ## set(xs), xs a list of ints -/
abbrev setE (w : World) : Obj := { cls := .type "set", dict := none, data := .set #[] 0 (.fresh 0 0 (!w.params.followText "set-order")) }
variable {P : Program} {w : World} {A : Around} {E : Value → Shared → Prop} {s : Shared}
theorem set_of_list {l : Addr} {items : Array Value} (ns : List Int) {Q : Value → Shared → Prop} (hh : A.handled = none) (hl : s.heap.IsList l items) (hit : IntsAre items.toList ns) (hb : ns.length + 1 < scanBound)
    (k : ∀ (h' : Heap) (tk c : Nat), SetR w h' s.heap.objs.size (fun j => decide (j ∈ ns)) c → c ≤ ns.length → (∀ b o, s.heap.get? b = some o → h'.get? b = some o) → Q (.ref s.heap.objs.size) { s with heap := h', toks := tk }) :
    wpAny (model P w) A (call (.type "set") [.ref l]) Q E s := by
  have sz : items.size = ns.length := by rw [← Array.length_toList]; exact IntsAre.length hit
  have c1 := F.called_set.mro
  obtain ⟨c, tl, hmro⟩ := c1
  have hmade := F.called_set.made
  have hsub := F.called_set.sub
  have h1 := F.called_set.notType
  have h2 := F.called_set.canCreate
  have hct := F.typeCall_set_1 (.ref l)
  refine wpAny_call (codeAny_of_tree ?_)
  show wpAny _ _ (callAny (.type "set") _) _ _ _
  refine wpAny_pure ⟨Code.quiet_builtin _ (by decide +kernel), codeAny_builtin F.entry_type_call ?_⟩
  rw [Around.under_plain (weight_type_call_type "set" [.ref l] []) rfl]
  repeat (any_goals first | assumption | wp_step)
  refine codeAny_mono (code_set_led1 (.ref l) (E := E) (Q₁ := fun obj s1 => obj = .ref s.heap.objs.size ∧ s1 = { s with heap := s.heap.push (setE w) }) ⟨rfl, rfl⟩) fun r s1 hr => ?_
  cases r with
  | error e => exact hr
  | ok fl =>
    cases fl with
    | ret obj =>
      obtain ⟨rfl, rfl⟩ := hr
      have e0 : (s.heap.push (setE w)).get? s.heap.objs.size = some (setE w) := Heap.get?_push_size _ rfl
      have hT : Shared.TypeIs { s with heap := s.heap.push (setE w) } (.ref s.heap.objs.size) "set" := ⟨_, e0, rfl⟩
      have hli := F.called_set.init.lookup
      have hbi := F.called_set.init.bind (.ref s.heap.objs.size)
      repeat (any_goals first | assumption | wp_step)
      refine codeAny_mono (codeAny_call_builtin (R := wants (fun r s2 => r = .none ∧ ∃ h' tk c, s2 = { s with heap := h', toks := tk } ∧ SetR w h' s.heap.objs.size (fun j => decide (j ∈ ns)) c ∧ c ≤ ns.length ∧ (∀ b o, s.heap.get? b = some o → h'.get? b = some o)) E) F.called_set.init.plain F.entry_set_init (check_set_init_1 hT ?_)) fun r2 s2 hr2 => ?_
      · have hlt : l < s.heap.objs.size := by obtain ⟨_, q, _⟩ := hl; exact Heap.lt_size q
        have hl1 : (s.heap.push (setE w)).IsList l items := hl.push _
        have z1 : (s.heap.push (setE w)).objs.size = s.heap.objs.size + 1 := Heap.size_push ..
        have hh3 : A.in1.in1.in1.handled = none := by simp [hh]
        have hneI : l ≠ (s.heap.push (setE w)).objs.size := by rw [z1]; exact Nat.ne_of_lt (Nat.lt_succ_of_lt hlt)
        have hSf : s.heap.objs.size ∉ [(s.heap.push (setE w)).objs.size, l] := by
          rw [z1]
          simp only [List.mem_cons, List.mem_singleton, List.not_mem_nil, or_false, not_or]
          exact ⟨Nat.ne_of_lt (Nat.lt_succ_self _), Nat.ne_of_gt hlt⟩
        have hval : ∀ (i : Nat) (v : Value), items[i]? = some v → ∃ k t, ns[i]? = some k ∧ v = .int k t := fun i v hv => by
          have hi : i < ns.length := by rw [← sz]; exact (Array.getElem?_eq_some_iff.mp hv).1
          obtain ⟨t, e⟩ := IntsAre.int_at hit i v (by rw [Array.getElem?_toList]; exact hv)
          exact ⟨ns[i], t, List.getElem?_eq_getElem hi, by rw [e, List.getD_eq_getElem?_getD, List.getElem?_eq_getElem hi]; rfl⟩
        obtain ⟨ol, hol, hcl, nl, hdl⟩ := id hl1
        obtain ⟨ocls, odict, odata, oslots⟩ := ol
        simp only at hcl hdl
        subst hcl; subst hdl
        have a1 := F.sub_list_set
        have a2 := F.sub_list_frozenset
        have a3 : (Value.type "list" == Value.type "dict") = false := by decide
        unfold Builtin.«set.__init__» noKeywords Builtin.Frozenset.updateFrom
        generalize hPI : pyIter = PI
        wp_walk
        subst hPI
        refine wpAny_pyIter_list hl1 ?_
        refine wpAny_bind (wpAny_runValue ?_)
        refine set_update_ints ((Walks.list hh3 _ l hneI items).toS) s.heap.objs.size hSf ns sz hb hval (items.size - 0) 0 _ (by omega) (Nat.zero_le _) ⟨⟨_, Heap.get?_push_size _ rfl, rfl, rfl⟩, hl1.push _⟩ ⟨0, Nat.le_refl 0, setR_new_at (Heap.get?_push_of_some _ e0)⟩ ?_
        rintro ⟨h', g2, d', tk', os'⟩ c' hm hc' hS'
        have eg : g2 = s.gens := hm.gens
        have ed : d' = s.drawn := hm.drawn
        have eo : os' = s.os := hm.os
        subst eg ed eo
        refine wpAny_pure ?_
        show wpAny _ _ (ret Value.none) _ _ _
        refine wpAny_pure ⟨rfl, h', tk', c', rfl, hS', by rw [← sz]; exact hc', fun b o e => ?_⟩
        have hb0 : b < s.heap.objs.size := Heap.lt_size e
        refine hm.heap b o ?_ (Heap.get?_push_of_some _ (Heap.get?_push_of_some _ e))
        rw [z1]
        simp only [List.mem_cons, List.mem_singleton, List.not_mem_nil, or_false, not_or]
        exact ⟨Nat.ne_of_lt hb0, Nat.ne_of_lt (Nat.lt_succ_of_lt hb0)⟩
      · cases r2 with
        | error e => exact hr2
        | ok fl2 =>
          cases fl2 with
          | ret r =>
            obtain ⟨rfl, h', tk, c, rfl, hS, hc, hk⟩ := hr2
            repeat (any_goals first | assumption | wp_step)
            exact k _ _ _ hS hc hk
          | _ => exact hr2.elim
    | _ => exact hr.elim
end DL
namespace DL
open PySem PySem.Spec L2

/-! ## 3. The operations are those of the machine -/
theorem PE.imp {X : Cx} {e : Expr} {t t' : TE} (h : PE X e t) (k : ∀ σ H Q, t' σ H Q → t σ H Q) : PE X e t' := ⟨fun pins s σ H Q I q => h.run pins s σ H Q I (k σ H Q q)⟩
theorem PT.imp {X : Cx} {e : Expr} {t t' : TT} (h : PT X e t) (k : ∀ σ H Q, t' σ H Q → t σ H Q) : PT X e t' := ⟨fun pins s σ H Q I q => h.run pins s σ H Q I (k σ H Q q)⟩
theorem PW.imp {X : Cx} {e : Expr} {t t' : TT} (h : PW X e t) (k : ∀ σ H Q, t' σ H Q → t σ H Q) : PW X e t' := ⟨fun w pins s σ H Q I q => h.run w pins s σ H Q I (k σ H Q q)⟩
theorem PA.imp {X : Cx} {e : List Expr} {t t' : TA} (h : PA X e t) (k : ∀ σ H Q, t' σ H Q → t σ H Q) : PA X e t' := ⟨fun p pins s σ H Q I q => h.run p pins s σ H Q I (k σ H Q q)⟩
theorem PK.imp {X : Cx} {e : List Keyword} {t t' : TA} (h : PK X e t) (k : ∀ σ H Q, t' σ H Q → t σ H Q) : PK X e t' := ⟨fun p pins s σ H Q I q => h.run p pins s σ H Q I (k σ H Q q)⟩
theorem PS.imp {X : Cx} {e : Stmt} {t t' : TS} (h : PS X e t) (k : ∀ D σ H, t' D σ H → t D σ H) : PS X e t' := ⟨fun pins s σ H D I q => h.run pins s σ H D I (k D σ H q)⟩
theorem PSs.imp {X : Cx} {e : List Stmt} {t t' : TS} (h : PSs X e t) (k : ∀ D σ H, t' D σ H → t D σ H) : PSs X e t' := ⟨fun pins s σ H D I q => h.run pins s σ H D I (k D σ H q)⟩

variable {K : KW} {X : Cx} {B : Bs}
abbrev Rd2 := D → D → DH → DK → Prop
def liftR2 (K : KW) (rd : Rd2) : R2 := fun x y H Q => ∃ d1 d2 h Qd, RD K H d1 x ∧ RD K H d2 y ∧ RH K H h ∧ rd d1 d2 h Qd ∧ ∀ d h' v H', Qd d h' → Post K h H d h' v H' → Q v H'
theorem lift_bin {ta tb : TEd} {rd : Rd2} {σ : L2.St} {H : Hp} {Q : VK} (q : lift K B (fun s h Q => ta s h fun x h1 => tb s h1 fun y h2 => rd x y h2 Q) σ H Q) :
    tOp (liftR2 K rd) (lift K B ta) (lift K B tb) σ H Q := by
  obtain ⟨sd, h, Qd, n, t, k⟩ := q
  exact ⟨sd, h, _, n, t, fun d1 h1 v1 H1 q1 p1 => ⟨sd, h1, _, n.after p1.rh p1.fr, q1, fun d2 h2 v2 H2 q2 p2 =>
    ⟨d1, d2, h2, Qd, p1.rd.mono (Frm.tm p1.rh p2.fr), p2.rd, p2.rh, q2, fun d h' v H' q p => k d h' v H' q ⟨p.rd, p.rh, (p1.fr.trans p2.fr).trans p.fr⟩⟩⟩⟩
abbrev Rd1 := D → DH → DK → Prop
def liftR1 (K : KW) (rd : Rd1) : V → Hp → VK → Prop := fun x H Q => ∃ d1 h Qd, RD K H d1 x ∧ RH K H h ∧ rd d1 h Qd ∧ ∀ d h' v H', Qd d h' → Post K h H d h' v H' → Q v H'
theorem lift_un {ta : TEd} {rd : Rd1} {σ : L2.St} {H : Hp} {Q : VK} (q : lift K B (fun s h Q => ta s h fun x h1 => rd x h1 Q) σ H Q) :
    tUn (liftR1 K rd) (lift K B ta) σ H Q := by
  obtain ⟨sd, h, Qd, n, t, k⟩ := q
  exact ⟨sd, h, _, n, t, fun d1 h1 v1 H1 q1 p1 => ⟨d1, h1, Qd, p1.rd, p1.rh, q1, fun d h' v H' q p => k d h' v H' q ⟨p.rd, p.rh, p1.fr.trans p.fr⟩⟩⟩
theorem Post.scal {h : DH} {H : Hp} {d : D} {v : V} (r : RH K H h) (q : RD K H d v) : Post K h H d h v H := ⟨q, r, .refl _ _⟩
theorem Post.lst {h : DH} {H : Hp} {p : Addr} {ds : List D} {vs : List V} (r : RH K H h) (e : H p = none) (q : RDs K H ds vs) : Post K h H (.ref p) (updD h p (.lst ds)) (.ref p) (upd H p (.lst vs)) :=
  ⟨.ref p, r.lstNew e q, .new e⟩
theorem Post.tup {h : DH} {H : Hp} {p : Addr} {ds : List D} {vs : List V} (r : RH K H h) (e : H p = none) (q : RDs K H ds vs) : Post K h H (.tup ds) h (.ref p) (upd H p (.tup vs)) :=
  ⟨.newT e q, r.newT e, .newT e⟩
theorem Post.write {h : DH} {H : Hp} {p : Addr} {d : D} {v : V} {xs ds : List D} {vs : List V} (r : RH K H h) (e : h p = some (.lst xs)) (q : RDs K H ds vs) (rd : RD K (upd H p (.lst vs)) d v) : Post K h H d (updD h p (.lst ds)) v (upd H p (.lst vs)) :=
  ⟨rd, r.lstSet e q, .write e⟩
theorem RDs.nil_iff {H : Hp} {ds : List D} {vs : List V} (r : RDs K H ds vs) : vs = [] ↔ ds = [] := by cases r <;> simp

theorem RDs.rep {H : Hp} {ds : List D} {vs : List V} (r : RDs K H ds vs) : ∀ n : Nat, RDs K H (List.replicate n ds).flatten (List.replicate n vs).flatten
  | 0 => by simp; exact .nil
  | n + 1 => by rw [List.replicate_succ, List.replicate_succ, List.flatten_cons, List.flatten_cons]; exact r.append (RDs.rep r n)
theorem op_addD : OpR X (binaryOp .Add) (liftR2 X.kw addD) := by
  intro pins s σ H x y v u Q I rx ry ⟨d1, d2, h, Qd, r1, r2, rh, t, k⟩
  cases d1 with
  | int i =>
    cases d2 with
    | int j => cases r1; cases r2; exact op_add pins s σ H _ _ v u Q I rx ry ⟨i, j, rfl, rfl, k _ _ _ _ t (.scal rh (.int _))⟩
    | _ => exact t.elim
  | str i =>
    cases d2 with
    | str j => cases r1; cases r2; exact op_add_str pins s σ H _ _ v u Q I rx ry ⟨i, j, rfl, rfl, t.1, k _ _ _ _ t.2 (.scal rh (.str _))⟩
    | _ => exact t.elim
  | tup a =>
    cases d2 with
    | tup b =>
      cases r1 with | tup s1 q1 =>
      cases r2 with | tup s2 q2 =>
      refine op_catA pins s σ H _ _ v u Q I rx ry ⟨_, _, _, _, rfl, rfl, s1, s2, by rw [← q1.length, ← q2.length]; exact t.1, fun e => ?_, fun _ e => ?_, fun _ _ p np => ?_⟩
      · have ea := q1.nil_iff.mp e
        subst ea
        exact k _ _ _ _ t.2 (.scal rh (.tup s2 q2))
      · have eb := q2.nil_iff.mp e
        subst eb
        have t' : Qd (.tup (a ++ [])) h := t.2
        rw [List.append_nil] at t'
        exact k _ _ _ _ t' (.scal rh (.tup s1 q1))
      · exact k _ _ _ _ t.2 (.tup rh np (q1.append q2))
    | _ => exact t.elim
  | ref a =>
    cases d2 with
    | ref b =>
      obtain ⟨xs, ys, e1, e2, hz, q⟩ := t
      cases r1; cases r2
      obtain ⟨vs, f1, q1⟩ := rh.lst e1
      obtain ⟨ws, f2, q2⟩ := rh.lst e2
      exact op_cat pins s σ H _ _ v u Q I rx ry ⟨a, b, vs, ws, rfl, rfl, f1, f2, by rw [← q1.length, ← q2.length]; exact hz, fun p np => k _ _ _ _ (q p (rh.free np)) (.lst rh np (q1.append q2))⟩
    | _ => exact t.elim
  | _ => exact t.elim
theorem op_mulD : OpR X (binaryOp .Mult) (liftR2 X.kw mulD) := by
  intro pins s σ H x y v u Q I rx ry ⟨d1, d2, h, Qd, r1, r2, rh, t, k⟩
  cases d2 with
  | int j =>
    cases d1 with
    | int i =>
      cases r1; cases r2
      rcases t.1 with c | c
      · exact op_mul pins s σ H _ _ v u Q I rx ry ⟨i, j, rfl, rfl, c, k _ _ _ _ t.2 (.scal rh (.int _))⟩
      · exact op_mulW pins s σ H _ _ v u Q I rx ry ⟨i, j, rfl, rfl, c, k _ _ _ _ t.2 (.scal rh (.int _))⟩
    | tup a =>
      cases r2
      cases r1 with | tup s1 q1 =>
      obtain ⟨⟨c1, c2, c3, c4⟩, q⟩ := t
      have ne : _ ≠ [] := fun e => c1 (q1.nil_iff.mp e)
      by_cases j0 : j = 0
      · subst j0
        exact op_rep01 pins s σ H _ _ v u Q I rx ry ⟨_, 0, _, rfl, rfl, s1, ne, .inr ⟨rfl, fun p np => k _ _ _ _ q (.tup rh np (q1.rep 0))⟩⟩
      · by_cases j1 : j = 1
        · subst j1
          refine op_rep01 pins s σ H _ _ v u Q I rx ry ⟨_, 1, _, rfl, rfl, s1, ne, .inl ⟨rfl, ?_⟩⟩
          have e1 : (List.replicate (1 : Int).toNat a).flatten = a := by simp
          rw [e1] at q
          exact k _ _ _ _ q (.scal rh (.tup s1 q1))
        · exact op_repT pins s σ H _ _ v u Q I rx ry ⟨_, j, _, rfl, rfl, s1, ne, by omega, c3, by rw [← q1.length]; exact c4, fun p np => k _ _ _ _ q (.tup rh np (q1.rep _))⟩
    | ref a =>
      cases r1; cases r2
      obtain ⟨xs, e1, ⟨c1, c2, c3⟩, q⟩ := t
      obtain ⟨vs, f1, q1⟩ := rh.lst e1
      exact op_rep pins s σ H _ _ v u Q I rx ry ⟨a, j, vs, rfl, rfl, f1, c1, c2, by rw [← q1.length]; exact c3, fun p np => k _ _ _ _ (q p (rh.free np)) (.lst rh np (q1.rep _))⟩
    | _ => exact t.elim
  | _ => exact t.elim
theorem op_binD (op : Operator) : OpR X (binaryOp op) (liftR2 X.kw (binD op)) := by
  cases op with
  | Add => exact op_addD
  | Mult => exact op_mulD
  | Sub =>
    intro pins s σ H x y v u Q I rx ry ⟨d1, d2, h, Qd, r1, r2, rh, t, k⟩
    cases d1 with
    | int i =>
      cases d2 with
      | int j => cases r1; cases r2; exact op_sub pins s σ H _ _ v u Q I rx ry ⟨i, j, rfl, rfl, k _ _ _ _ t (.scal rh (.int _))⟩
      | _ => exact t.elim
    | _ => exact t.elim
  | FloorDiv =>
    intro pins s σ H x y v u Q I rx ry ⟨d1, d2, h, Qd, r1, r2, rh, t, k⟩
    cases d1 with
    | int i =>
      cases d2 with
      | int j => cases r1; cases r2; exact op_fdivW pins s σ H _ _ v u Q I rx ry ⟨i, j, rfl, rfl, t.1, k _ _ _ _ t.2 (.scal rh (.int _))⟩
      | _ => exact t.elim
    | _ => exact t.elim
  | Mod =>
    intro pins s σ H x y v u Q I rx ry ⟨d1, d2, h, Qd, r1, r2, rh, t, k⟩
    cases d1 with
    | int i =>
      cases d2 with
      | int j => cases r1; cases r2; exact op_mod pins s σ H _ _ v u Q I rx ry ⟨i, j, rfl, rfl, t.1, k _ _ _ _ t.2 (.scal rh (.int _))⟩
      | _ => exact t.elim
    | _ => exact t.elim
  | Pow =>
    intro pins s σ H x y v u Q I rx ry ⟨d1, d2, h, Qd, r1, r2, rh, t, k⟩
    cases d1 with
    | int i =>
      cases d2 with
      | int j => cases r1; cases r2; exact op_pow pins s σ H _ _ v u Q I rx ry ⟨i, j, rfl, rfl, t.1, k _ _ _ _ t.2 (.scal rh (.int _))⟩
      | _ => exact t.elim
    | _ => exact t.elim
  | _ =>
    intro pins s σ H x y v u Q I rx ry ⟨d1, d2, h, Qd, r1, r2, rh, t, k⟩
    exact t.elim
theorem un_negD : UnR X (unaryOp .USub) (liftR1 X.kw negD) := by
  intro pins s σ H x v Q I rx ⟨d1, h, Qd, r1, rh, t, k⟩
  cases d1 with
  | int i => cases r1; exact un_neg pins s σ H _ v Q I rx ⟨i, rfl, k _ _ _ _ t (.scal rh (.int _))⟩
  | _ => exact t.elim

/-! ### == -/
mutual
theorem PD.dp {h : DH} {H : Hp} (rh : RH K H h) : ∀ {d : D} {a : PyData} {v : V}, PD h d a → RD K H d v → Dp K H v a
  | _, _, _, .non, r => by cases r; exact .non
  | _, _, _, .bl b, r => by cases r; exact .bl b
  | _, _, _, .int i, r => by cases r; exact .int i
  | _, _, _, .str x, r => by cases r; exact .str x
  | _, _, _, .tup q, r => by cases r with | tup s rs => exact .tup s (PDs.dp rh q rs)
  | _, _, _, .lst l q, r => by
    cases r
    obtain ⟨vs, s, rs⟩ := rh.sq l
    exact .lst s (PDs.dp rh q rs)
  | _, _, _, .rl q, r => by cases r with | rl s rs => exact .lst s.sq (PDs.dp rh q rs)
theorem PDs.dp {h : DH} {H : Hp} (rh : RH K H h) : ∀ {ds : List D} {as : List PyData} {vs : List V}, PDs h ds as → RDs K H ds vs → DpAll K H vs as
  | _, _, _, .nil, r => by cases r; exact .nil
  | _, _, _, .cons p q, r => by cases r with | cons r rs => exact .cons (PD.dp rh p r) (PDs.dp rh q rs)
end
theorem op_eqGD (hu : X.A.units + 64 < cLine) {pins : List (Addr × Obj)} {s : Shared} {σ : L2.St} {H : Hp} {x y : V} {v u : Value} {Q : VK} {d1 d2 : D} {h : DH} {k : Bool → Prop}
    (I : Inv X pins σ H s) (rx : RelV x v) (ry : RelV y u) (r1 : RD X.kw H d1 x) (r2 : RD X.kw H d2 y) (rh : RH X.kw H h) (t : eqG d1 d2 h k) (hk : ∀ b, k b → Q (.bl b) H) :
    wpAny (model X.prog X.w) X.A (compareOp .Eq v u) (EP X pins σ Q) X.xe s := by
  obtain ⟨a, b, p1, p2, s1, s2, q⟩ := t
  exact op_eqD hu pins s σ H x y v u Q I rx ry ⟨a, b, p1.dp rh r1, p2.dp rh r2, s1, s2, hk _ q⟩
theorem op_neGD (hu : X.A.units + 64 < cLine) {pins : List (Addr × Obj)} {s : Shared} {σ : L2.St} {H : Hp} {x y : V} {v u : Value} {Q : VK} {d1 d2 : D} {h : DH} {k : Bool → Prop}
    (I : Inv X pins σ H s) (rx : RelV x v) (ry : RelV y u) (r1 : RD X.kw H d1 x) (r2 : RD X.kw H d2 y) (rh : RH X.kw H h) (t : eqG d1 d2 h fun b => k (!b)) (hk : ∀ b, k b → Q (.bl b) H) :
    wpAny (model X.prog X.w) X.A (compareOp .NotEq v u) (EP X pins σ Q) X.xe s := by
  obtain ⟨a, b, p1, p2, s1, s2, q⟩ := t
  exact op_neD hu pins s σ H x y v u Q I rx ry ⟨a, b, p1.dp rh r1, p2.dp rh r2, s1, s2, hk _ q⟩
/-- a comparison, by values -/
def rdC (op : CmpOp) : Rd2 := fun x y h Q => cmpD op x y h fun k => Q (.bl k) h
theorem decV_int (i j : Int) : decide (V.int i = V.int j) = decide (i = j) := by by_cases e : i = j <;> simp [e]
theorem decV_str (i j : Str) : decide (V.str i = V.str j) = decide (i = j) := by by_cases e : i = j <;> simp [e]
theorem decV_bl (i j : Bool) : decide (V.bl i = V.bl j) = decide (i = j) := by by_cases e : i = j <;> simp [e]
theorem op_eqDD (hu : X.A.units + 64 < cLine) : OpR X (compareOp .Eq) (liftR2 X.kw (rdC .Eq)) := by
  intro pins s σ H x y v u Q I rx ry ⟨d1, d2, h, Qd, r1, r2, rh, t, k⟩
  have hk : ∀ b, Qd (.bl b) h → Q (.bl b) H := fun b q => k _ _ _ _ q (.scal rh (.bl b))
  cases d1 with
  | int i =>
    cases d2 with
    | int j => cases r1; cases r2; exact op_eq pins s σ H _ _ v u Q I rx ry ⟨rfl, by rw [decV_int]; exact hk _ t⟩
    | str j => cases r1; cases r2; exact op_eq pins s σ H _ _ v u Q I rx ry ⟨rfl, by rw [decide_eq_false (by intro z; cases z)]; exact hk _ t⟩
    | _ => exact op_eqGD (k := fun b => Qd (.bl b) h) hu I rx ry r1 r2 rh t hk
  | str i =>
    cases d2 with
    | str j => cases r1; cases r2; exact op_eq pins s σ H _ _ v u Q I rx ry ⟨rfl, by rw [decV_str]; exact hk _ t⟩
    | int j => cases r1; cases r2; exact op_eq pins s σ H _ _ v u Q I rx ry ⟨rfl, by rw [decide_eq_false (by intro z; cases z)]; exact hk _ t⟩
    | _ => exact op_eqGD (k := fun b => Qd (.bl b) h) hu I rx ry r1 r2 rh t hk
  | bl i =>
    cases d2 with
    | bl j => cases r1; cases r2; exact op_eq pins s σ H _ _ v u Q I rx ry ⟨rfl, by rw [decV_bl]; exact hk _ t⟩
    | _ => exact op_eqGD (k := fun b => Qd (.bl b) h) hu I rx ry r1 r2 rh t hk
  | _ => exact op_eqGD (k := fun b => Qd (.bl b) h) hu I rx ry r1 r2 rh t hk
theorem op_neDD (hu : X.A.units + 64 < cLine) : OpR X (compareOp .NotEq) (liftR2 X.kw (rdC .NotEq)) := by
  intro pins s σ H x y v u Q I rx ry ⟨d1, d2, h, Qd, r1, r2, rh, t, k⟩
  have hk : ∀ b, Qd (.bl b) h → Q (.bl b) H := fun b q => k _ _ _ _ q (.scal rh (.bl b))
  cases d1 with
  | int i =>
    cases d2 with
    | int j => cases r1; cases r2; exact op_ne pins s σ H _ _ v u Q I rx ry ⟨rfl, by rw [decV_int]; exact hk _ t⟩
    | str j => cases r1; cases r2; exact op_ne pins s σ H _ _ v u Q I rx ry ⟨rfl, by rw [decide_eq_false (by intro z; cases z)]; exact hk _ t⟩
    | _ => exact op_neGD (k := fun b => Qd (.bl b) h) hu I rx ry r1 r2 rh t hk
  | str i =>
    cases d2 with
    | str j => cases r1; cases r2; exact op_ne pins s σ H _ _ v u Q I rx ry ⟨rfl, by rw [decV_str]; exact hk _ t⟩
    | int j => cases r1; cases r2; exact op_ne pins s σ H _ _ v u Q I rx ry ⟨rfl, by rw [decide_eq_false (by intro z; cases z)]; exact hk _ t⟩
    | _ => exact op_neGD (k := fun b => Qd (.bl b) h) hu I rx ry r1 r2 rh t hk
  | bl i =>
    cases d2 with
    | bl j => cases r1; cases r2; exact op_ne pins s σ H _ _ v u Q I rx ry ⟨rfl, by rw [decV_bl]; exact hk _ t⟩
    | _ => exact op_neGD (k := fun b => Qd (.bl b) h) hu I rx ry r1 r2 rh t hk
  | _ => exact op_neGD (k := fun b => Qd (.bl b) h) hu I rx ry r1 r2 rh t hk
/-! ### order -/
theorem op_ordD {f : Value → Value → Sem Value} {fi : Int → Int → Bool} {fs : Str → Str → Bool} (hi : OpR X f (rI0 fun i j => .bl (fi i j))) (hs : OpR X f (fun x y H Q => ∃ i j, x = .str i ∧ y = .str j ∧ Q (.bl (fs i j)) H)) :
    OpR X f (liftR2 X.kw fun x y h Q => ordD fi fs x y fun k => Q (.bl k) h) := by
  intro pins s σ H x y v u Q I rx ry ⟨d1, d2, h, Qd, r1, r2, rh, t, k⟩
  cases d1 with
  | int i =>
    cases d2 with
    | int j => cases r1; cases r2; exact hi pins s σ H _ _ v u Q I rx ry ⟨i, j, rfl, rfl, k _ _ _ _ t (.scal rh (.bl _))⟩
    | _ => exact t.elim
  | str i =>
    cases d2 with
    | str j => cases r1; cases r2; exact hs pins s σ H _ _ v u Q I rx ry ⟨i, j, rfl, rfl, k _ _ _ _ t (.scal rh (.bl _))⟩
    | _ => exact t.elim
  | _ => exact t.elim
/-! ### in -/
theorem RDs.flat {H : Hp} : ∀ {ds : List D} {vs : List V}, RDs K H ds vs → ds.all flatD = true → vs.all flatV = true
  | _, _, .nil, _ => rfl
  | d :: ds, _, .cons r rs, f => by
    rw [List.all_cons, Bool.and_eq_true] at f
    rw [List.all_cons, RDs.flat rs f.2]
    cases r <;> first | rfl | (exact absurd f.1 Bool.false_ne_true)
theorem eqF_V {H : Hp} {d e : D} {v w : V} (r : RD K H d v) (q : RD K H e w) (f : flatD d = true) (g : flatD e = true) : eqV v w = eqF d e := by
  cases r <;> first | (exact absurd f Bool.false_ne_true) | skip
  all_goals (cases q <;> first | rfl | (exact absurd g Bool.false_ne_true))
theorem any_F {H : Hp} {d : D} {v : V} (r : RD K H d v) (f : flatD d = true) : ∀ {es : List D} {ws : List V}, RDs K H es ws → es.all flatD = true → (ws.any fun y => eqV y v) = es.any fun y => eqF y d
  | _, _, .nil, _ => rfl
  | e :: es, _, .cons q qs, g => by
    rw [List.all_cons, Bool.and_eq_true] at g
    rw [List.any_cons, List.any_cons, any_F r f qs g.2, eqF_V q r g.1 f]
theorem RD.flat1 {H : Hp} {d : D} {v : V} (r : RD K H d v) (f : flatD d = true) : flatV v = true := by
  cases r <;> first | rfl | (exact absurd f Bool.false_ne_true)
theorem inF_ok {neg : Bool} {op : CmpOp} (ho : OpR X (compareOp op) (rIn X.kw neg)) {pins : List (Addr × Obj)} {s : Shared} {σ : L2.St} {H : Hp} {x : V} {p : Addr} {v u : Value} {Q : VK} {d1 : D} {ds : List D} {vs : List V} {k : Bool → Prop}
    (I : Inv X pins σ H s) (rx : RelV x v) (ry : RelV (.ref p) u) (r1 : RD X.kw H d1 x) (hs : SqL X.kw H p vs ∨ SqT X.kw H p vs) (r2 : RDs X.kw H ds vs) (t : inF d1 ds k) (hk : ∀ b, k b → Q (.bl (if neg then !b else b)) H) :
    wpAny (model X.prog X.w) X.A (compareOp op v u) (EP X pins σ Q) X.xe s := by
  obtain ⟨f1, f2, q⟩ := t
  refine ho pins s σ H x (.ref p) v u Q I rx ry ⟨p, vs, rfl, hs, r1.flat1 f1, r2.flat f2, ?_⟩
  have e : inV x vs = ds.any fun y => eqF y d1 := any_F r1 f1 r2 f2
  rw [e]
  exact hk _ q
theorem in_el {x : D} {p : Addr} {h : DH} {k : Bool → Prop} (t : inR x p h k) : (∃ ys, LR h p ys ∧ (inF x ys k ∨ ∃ a as, PD h x a ∧ PDs h ys as ∧ SeqAt.shaped a = true ∧ SeqAt.shaped (.list as) = true ∧ k (as.any fun z => PyData.eqv z a))) ∨ dinD (.ref p) x h k := by
  unfold inR at t; exact t
theorem sub_el {p : Addr} {i : D} {h : DH} {Q : DK} (t : subR p i h Q) : (∃ xs k v, LR h p xs ∧ i = .int k ∧ atI xs k = some v ∧ Q v h) ∨ dsubD (.ref p) i h Q := by
  unfold subR at t; exact t
theorem set_el {p : Addr} {i v : D} {h : DH} {Q : DH → Prop} (t : setR p i v h Q) : (∃ xs k j, h p = some (.lst xs) ∧ i = .int k ∧ ixN xs.length k = some j ∧ Q (updD h p (.lst (xs.set j v)))) ∨ dputD (.ref p) i v h Q := by
  unfold setR at t; exact t
theorem len_el {p : Addr} {h : DH} {Q : DK} (t : lenR p h Q) : (∃ xs, LR h p xs ∧ Q (.int xs.length) h) ∨ dlenD (.ref p) h Q := by
  unfold lenR at t; exact t
theorem op_inDD (hu : X.A.units + 65 < cLine) : OpR X (compareOp .In) (liftR2 X.kw (rdC .In)) := by
  intro pins s σ H x y v u Q I rx ry ⟨d1, d2, h, Qd, r1, r2, rh, t, k⟩
  have hk : ∀ b, Qd (.bl b) h → Q (.bl b) H := fun b q => k _ _ _ _ q (.scal rh (.bl b))
  cases d2 with
  | str z =>
    obtain ⟨c, rfl, q⟩ := t
    cases r1; cases r2
    exact op_in_sign pins s σ H _ _ v u Q I rx ry ⟨c, z, rfl, rfl, hk _ q⟩
  | rl ys =>
    cases r2 with | rl s2 q2 =>
    exact inF_ok (neg := false) op_in_seq (k := fun b => Qd (.bl b) h) I rx ry r1 (.inl s2.sq) q2 t hk
  | tup ys =>
    cases r2 with | tup s2 q2 =>
    exact inF_ok (neg := false) op_in_seq (k := fun b => Qd (.bl b) h) I rx ry r1 (.inr s2) q2 t hk
  | ref p =>
    rcases in_el t with ⟨ys, l, t⟩ | ⟨b, kvs, ⟨p', o, e', e⟩, hk', q⟩
    rotate_left
    · cases e'
      cases r2
      cases (show u = Value.ref p from ry)
      exact dd_in (by omega) I rh e hk' r1 rx fun s' I' => ⟨.bl _, H, I', rfl, hk _ q⟩
    cases r2
    obtain ⟨vs, s2, q2⟩ := rh.sq l
    rcases t with t | ⟨a, as, p1, p2, s1, s2', q⟩
    · exact inF_ok (neg := false) op_in_seq (k := fun b => Qd (.bl b) h) I rx ry r1 (.inl s2) q2 t hk
    · exact op_inD hu pins s σ H _ _ v u Q I rx ry ⟨a, as, p1.dp rh r1, .lst s2 (p2.dp rh q2), s1, s2', hk _ q⟩
  | _ => exact t.elim
theorem op_notInDD (hu : X.A.units + 65 < cLine) : OpR X (compareOp .NotIn) (liftR2 X.kw (rdC .NotIn)) := by
  intro pins s σ H x y v u Q I rx ry ⟨d1, d2, h, Qd, r1, r2, rh, t, k⟩
  have hk : ∀ b, Qd (.bl b) h → Q (.bl b) H := fun b q => k _ _ _ _ q (.scal rh (.bl b))
  cases d2 with
  | str z =>
    obtain ⟨c, rfl, q⟩ := t
    cases r1; cases r2
    exact op_notIn_sign pins s σ H _ _ v u Q I rx ry ⟨c, z, rfl, rfl, hk _ q⟩
  | rl ys =>
    cases r2 with | rl s2 q2 =>
    exact inF_ok (neg := true) op_notIn_seq (k := fun b => Qd (.bl (!b)) h) I rx ry r1 (.inl s2.sq) q2 t (fun b q => hk _ q)
  | tup ys =>
    cases r2 with | tup s2 q2 =>
    exact inF_ok (neg := true) op_notIn_seq (k := fun b => Qd (.bl (!b)) h) I rx ry r1 (.inr s2) q2 t (fun b q => hk _ q)
  | ref p =>
    rcases in_el t with ⟨ys, l, t⟩ | ⟨b, kvs, ⟨p', o, e', e⟩, hk', q⟩
    rotate_left
    · cases e'
      cases r2
      cases (show u = Value.ref p from ry)
      exact dd_notIn (by omega) I rh e hk' r1 rx fun s' I' => ⟨.bl _, H, I', rfl, hk _ q⟩
    cases r2
    obtain ⟨vs, s2, q2⟩ := rh.sq l
    rcases t with t | ⟨a, as, p1, p2, s1, s2', q⟩
    · exact inF_ok (neg := true) op_notIn_seq (k := fun b => Qd (.bl (!b)) h) I rx ry r1 (.inl s2) q2 t (fun b q => hk _ q)
    · exact op_notInD hu pins s σ H _ _ v u Q I rx ry ⟨a, as, p1.dp rh r1, .lst s2 (p2.dp rh q2), s1, s2', hk _ q⟩
  | _ => exact t.elim
theorem isNon_V {H : Hp} {d : D} {v : V} (r : RD K H d v) : decide (v = V.non) = isNon d := by
  cases r <;> first | rfl | (exact decide_eq_false (by intro z; cases z))
theorem isNon_eq {H : Hp} {d : D} {v : V} (r : RD K H d v) (e : isNon d = true) : v = .non := by
  cases r <;> first | rfl | (exact absurd e Bool.false_ne_true)
theorem op_cmpD {k : Nat} (hr : Room k X.A) (op : CmpOp) : OpR X (compareOp op) (liftR2 X.kw (rdC op)) := by
  have hu := hr.units
  have hu2 : X.A.units + 65 < cLine := by have := hr.un; omega
  cases op with
  | Eq => exact op_eqDD hu
  | NotEq => exact op_neDD hu
  | Lt => exact op_ordD op_lt op_lt_str
  | LtE => exact op_ordD op_le op_le_str
  | Gt => exact op_ordD op_gt op_gt_str
  | GtE => exact op_ordD op_ge op_ge_str
  | In => exact op_inDD hu2
  | NotIn => exact op_notInDD hu2
  | Is =>
    intro pins s σ H x y v u Q I rx ry ⟨d1, d2, h, Qd, r1, r2, rh, t, k⟩
    cases d2 with
    | non =>
      cases r2
      exact op_isN pins s σ H _ _ v u Q I rx ry ⟨rfl, by rw [isNon_V r1]; exact k _ _ _ _ t (.scal rh (.bl _))⟩
    | bl b =>
      cases d1 with
      | bl a => cases r1; cases r2; exact op_is_bl pins s σ H _ _ v u Q I rx ry ⟨a, b, rfl, rfl, k _ _ _ _ t (.scal rh (.bl _))⟩
      | _ => exact t.elim
    | _ => exact t.elim
  | IsNot =>
    intro pins s σ H x y v u Q I rx ry ⟨d1, d2, h, Qd, r1, r2, rh, t, k⟩
    cases d2 with
    | non =>
      cases r2
      exact op_notN pins s σ H _ _ v u Q I rx ry ⟨rfl, by rw [isNon_V r1]; exact k _ _ _ _ t (.scal rh (.bl _))⟩
    | bl b =>
      cases d1 with
      | bl a => cases r1; cases r2; exact op_isnot_bl pins s σ H _ _ v u Q I rx ry ⟨a, b, rfl, rfl, k _ _ _ _ t (.scal rh (.bl _))⟩
      | _ => exact t.elim
    | _ => exact t.elim

/-! ### truth -/
theorem RDs.emp {H : Hp} {ds : List D} {vs : List V} (r : RDs K H ds vs) : vs.isEmpty = ds.isEmpty := by cases r <;> rfl
theorem tru_of {H : Hp} {h : DH} {d : D} {v : V} {k : Bool → Prop} (rh : RH K H h) (r : RD K H d v) (t : truD d h k) : ∃ b, TruV K v H b ∧ k b := by
  cases r with
  | non => exact ⟨false, rfl, t⟩
  | bl b => exact ⟨b, rfl, t⟩
  | int i => exact ⟨_, rfl, t⟩
  | str z =>
    refine ⟨_, ⟨t.1, rfl⟩, ?_⟩
    have e : ((z.length : Int) != 0) = (z.length != 0) := by
      by_cases h0 : z.length = 0
      · rw [h0]; rfl
      · have h1 : ((z.length : Int) != 0) = true := bne_iff_ne.mpr (by omega)
        have h2 : (z.length != 0) = true := bne_iff_ne.mpr h0
        rw [h1, h2]
    rw [e]
    exact t.2
  | tup s q => exact ⟨_, .inr (.inl ⟨_, s, rfl⟩), by rw [q.emp]; exact t⟩
  | rl s q => exact ⟨_, .inl ⟨_, s.sq, rfl⟩, by rw [q.emp]; exact t⟩
  | ref a =>
    obtain ⟨xs, l, q⟩ := t
    obtain ⟨vs, s, r⟩ := rh.sq l
    exact ⟨_, .inl ⟨_, s, rfl⟩, by rw [r.emp]; exact q⟩
  | ty n => exact t.elim

/-! ### subscripts, stores, slices -/
theorem atI_RD {H : Hp} {ds : List D} {vs : List V} {i : Int} {d : D} (r : RDs K H ds vs) (e : atI ds i = some d) : ∃ v, atI vs i = some v ∧ RD K H d v := by
  unfold atI at e ⊢
  rw [r.length] at e
  cases q : ixN vs.length i with
  | none => rw [q] at e; cases e
  | some j =>
    rw [q] at e
    exact r.get (show ds[j]? = some d from e)
/-- d[k] behind its parts -/
theorem tail_dict {prog : Program} {w : World} {A : Around} {E : Value → Shared → Prop} {s : Shared} {value slice : Expr} {v u : Value} {Q : Value → Shared → Prop} (ty : s.TypeIs v "dict") (hs : subscripted slice false v u = operate [v, u] (getItem v u))
    (g : wpAny (model prog w) A (getItem v u) Q E s) : wpAny (model prog w) A (PyProof.Rows.subscriptTail value slice v u) Q E s := by
  have fin : wpAny (model prog w) A (subscripted slice false v u) (fun r s3 => wpAny (model prog w) A (letTemporaryGo value v r >>= fun _ => pure r) Q E s3) E s := by
    rw [hs]
    exact wpAny_operating (wpAny_mono g (fun r s3 h3 => wpAny_bind (wpAny_letTemporaryGo (wpAny_pure h3))) fun _ _ x => x)
  unfold PyProof.Rows.subscriptTail
  refine wpAny_bind ?_
  rw [getitemInPython_of_ne ty.not_modules]
  refine wpAny_bind (wpAny_specialOf ty PySem.F.slot_dict_getitem.lookup ?_)
  first
    | exact wpAny_pure (wpAny_bind fin)
    | exact wpAny_bind (wpAny_pure (wpAny_bind fin))
    | exact wpAny_bind fin
theorem dct_ty {pins : List (Addr × Obj)} {σ : L2.St} {H : Hp} {s : Shared} {h : DH} {p : Addr} {b : Bool} {kvs : List (D × D)} {o : Obj} (I : Inv X pins σ H s) (rh : RH X.kw H h) (e : h p = some (.dct b kvs o)) : s.TypeIs (.ref p) "dict" :=
  ⟨o, dct_obj I (rh _ _ e).1, (rh _ _ e).2.exact_.1⟩
theorem ix_D (hu : X.A.units + 64 < cLine) : IxR X (liftR2 X.kw subD) := by
  intro value slice pins s σ H x y v u Q I rx ry ⟨d1, d2, h, Qd, r1, r2, rh, t, k⟩ hs
  unfold subD at t
  cases d1 with
  | tup xs =>
    obtain ⟨i, d, rfl, e, q⟩ := t
    cases r2
    cases r1 with | tup s1 q1 =>
    obtain ⟨w, e1, rw⟩ := atI_RD q1 e
    exact ix_tup value slice pins s σ H _ _ v u Q I rx ry ⟨_, _, i, w, rfl, rfl, s1, e1, k _ _ _ _ q (.scal rh rw)⟩ hs
  | rl xs =>
    obtain ⟨i, d, rfl, e, q⟩ := t
    cases r2
    cases r1 with | rl s1 q1 =>
    obtain ⟨w, e1, rw⟩ := atI_RD q1 e
    exact ix_list value slice pins s σ H _ _ v u Q I rx ry ⟨_, _, i, w, rfl, rfl, s1.sq, e1, k _ _ _ _ q (.scal rh rw)⟩ hs
  | str z =>
    obtain ⟨i, c, rfl, hz, e, q⟩ := t
    cases r1; cases r2
    exact ix_str value slice pins s σ H _ _ v u Q I rx ry ⟨z, i, c, rfl, rfl, hz, e, k _ _ _ _ q (.scal rh (.str _))⟩ hs
  | ref p =>
    rcases sub_el t with ⟨xs, i, d, l, rfl, e, q⟩ | ⟨b, kvs, d, ⟨p', o, e', e⟩, hk', hv, q⟩
    rotate_left
    · cases e'
      cases r1
      cases (show v = Value.ref p from rx)
      exact tail_dict (dct_ty I rh e) hs (dd_get hu I rh e hk' hv r2 ry fun w' s' z I' rz rw' => ⟨z, H, I', rw', k _ _ _ _ q (.scal rh rz)⟩)
    cases r1; cases r2
    obtain ⟨vs, s1, q1⟩ := rh.sq l
    obtain ⟨w, e1, rw⟩ := atI_RD q1 e
    exact ix_list value slice pins s σ H _ _ v u Q I rx ry ⟨_, _, i, w, rfl, rfl, s1, e1, k _ _ _ _ q (.scal rh rw)⟩ hs
  | _ => exact t.elim
def liftSet (K : KW) : TSet := fun o i v H Q => ∃ d1 d2 d3 h Qd, RD K H d1 o ∧ RD K H d2 i ∧ RD K H d3 v ∧ RH K H h ∧ setD d1 d2 d3 h Qd ∧ ∀ h' H', Qd h' → RH K H' h' → Frm h H h' H' → Q H'
theorem set_D (hu : X.A.units + 64 < cLine) : PSet X (liftSet X.kw) := by
  intro pins s σ H o i v ov iv u Q I ro ri rv ⟨d1, d2, d3, h, Qd, r1, r2, r3, rh, t, k⟩
  cases d1 with
  | ref p =>
    rcases set_el t with ⟨xs, n, j, e, rfl, ej, q⟩ | ⟨p', b, kvs, o, e', e, hk', hl, q⟩
    rotate_left
    · cases e'
      cases r1
      cases (show ov = Value.ref p from ro)
      exact dd_set hu I rh e hk' hl r2 ri r3 rv fun s' o' I' new => ⟨_, I', k _ _ (q o') (rh.writeO e new) (.write e)⟩
    cases r1; cases r2
    obtain ⟨vs, f1, q1⟩ := rh.lst e
    exact set_list pins s σ H _ _ v ov iv u Q I ro ri rv ⟨p, vs, n, j, rfl, rfl, f1, by rw [← q1.length]; exact ej, k _ _ q (rh.lstSet e (q1.set j r3)) (.write e)⟩
  | _ => exact t.elim
theorem RDs.cut {H : Hp} {ds : List D} {vs : List V} (r : RDs K H ds vs) (lo hi : Option Int) : RDs K H (cutL ds lo hi) (cutV vs lo hi) := by
  unfold cutL cutV
  rw [r.length]
  exact (r.drop _).take _
theorem cutL_whole {ds : List D} {lo hi : Option Int} (e : HT.sIx ds.length 0 lo = 0 ∧ HT.sIx ds.length ds.length hi = ds.length) : cutL ds lo hi = ds := by
  unfold cutL
  rw [e.1, e.2]
  simp
theorem sl_D : SlR X (fun x lo hi H Q => liftR1 X.kw (fun d h Q => sliceD d lo hi h Q) x H Q) := by
  intro pins s σ H x v vl vu lo hi sl Q I rx hs pl pu ⟨d1, h, Qd, r1, rh, t, k⟩
  cases d1 with
  | tup xs =>
    cases r1 with | tup s1 q1 =>
    refine sl_tupA pins s σ H _ v vl vu lo hi sl Q I rx hs pl pu ⟨_, _, rfl, s1, fun e => ?_, fun _ p np => ?_⟩
    · rw [← q1.length] at e
      have t' : Qd (.tup (cutL xs lo hi)) h := t
      rw [cutL_whole e] at t'
      exact k _ _ _ _ t' (.scal rh (.tup s1 q1))
    · exact k _ _ _ _ t (.tup rh np (q1.cut lo hi))
  | str z =>
    cases r1
    exact sl_str pins s σ H _ v vl vu lo hi sl Q I rx hs pl pu ⟨z, rfl, t.1, k _ _ _ _ t.2 (.scal rh (.str _))⟩
  | ref p =>
    cases r1
    obtain ⟨xs, l, q⟩ := t
    obtain ⟨vs, s1, q1⟩ := rh.sq l
    exact sl_list pins s σ H _ v vl vu lo hi sl Q I rx hs pl pu ⟨p, vs, rfl, s1, fun a na => k _ _ _ _ (q a (rh.free na)) (.lst rh na (q1.cut lo hi))⟩
  | _ => exact t.elim
end DL
namespace DL
open PySem PySem.Spec L2
variable {K : KW} {X : Cx} {B : Bs}
abbrev RdC := List D → DH → DK → Prop
def liftC (K : KW) (rd : RdC) : List V → Hp → VK → Prop := fun vs H Q => ∃ ds h Qd, RDs K H ds vs ∧ RH K H h ∧ rd ds h Qd ∧ ∀ d h' v H', Qd d h' → Post K h H d h' v H' → Q v H'
theorem callImp {f : Value} {r r' : List V → Hp → VK → Prop} (h : CallR X f r) (k : ∀ xs H Q, r' xs H Q → r xs H Q) : CallR X f r' :=
  fun pins s σ H xs us Q I rv q => h pins s σ H xs us Q I rv (k xs H Q q)
theorem LR.ints {H : Hp} {h : DH} {p : Addr} {ns : List Int} (rh : RH K H h) (l : LR h p (ns.map D.int)) : SqL K H p (ns.map V.int) := by
  obtain ⟨vs, s, r⟩ := rh.sq l
  rw [r.ints] at s
  exact s
theorem LR.bls {H : Hp} {h : DH} {p : Addr} {ns : List Bool} (rh : RH K H h) (l : LR h p (ns.map D.bl)) : SqL K H p (ns.map V.bl) := by
  obtain ⟨vs, s, r⟩ := rh.sq l
  rw [r.bls] at s
  exact s
theorem b_len : CallR X (.builtin "len") (liftC X.kw (bltD .len)) := fun pins s σ H vs us Q I rv ⟨ds, h, Qd, r, rh, t, k⟩ => by
  unfold bltD lenD at t
  match ds, r, t with
  | [.str z], r, t => obtain ⟨v, rfl, r1⟩ := r.one; cases r1; exact call_len pins s σ H _ us Q I rv ⟨_, z.length, rfl, ⟨t.1, rfl⟩, k _ _ _ _ t.2 (.scal rh (.int _))⟩
  | [.tup xs], r, t =>
    obtain ⟨v, rfl, r1⟩ := r.one
    cases r1 with | tup sq q => exact call_len pins s σ H _ us Q I rv ⟨_, xs.length, rfl, .inr ⟨_, sq, q.length⟩, k _ _ _ _ t (.scal rh (.int _))⟩
  | [.rl xs], r, t =>
    obtain ⟨v, rfl, r1⟩ := r.one
    cases r1 with | rl sq q => exact call_len pins s σ H _ us Q I rv ⟨_, xs.length, rfl, .inl ⟨_, sq.sq, q.length⟩, k _ _ _ _ t (.scal rh (.int _))⟩
  | [.ref p], r, t =>
    obtain ⟨v, rfl, r1⟩ := r.one
    cases r1
    rcases len_el t with ⟨xs, l, q⟩ | ⟨b, kvs, ⟨p', o, e', e⟩, q⟩
    · obtain ⟨ws, sq, q1⟩ := rh.sq l
      exact call_len pins s σ H _ us Q I rv ⟨_, xs.length, rfl, .inl ⟨_, sq, q1.length⟩, k _ _ _ _ q (.scal rh (.int _))⟩
    · cases e'
      obtain rfl := rv.ref1
      obtain ⟨eo, d⟩ := rh _ _ e
      have hz : ((kvs.length : Nat) : Int) < 2 ^ 63 := by have := d.len; unfold sizeLine at this; omega
      cases b with
      | true =>
        obtain ⟨xs, dd, pr⟩ := dct_keyed I eo d
        refine call_len_dictH d.nosys dd (by rw [← pr.length]; exact hz) ?_
        rw [← pr.length]
        exact ⟨.int _, H, I.tok _, ⟨_, rfl⟩, k _ _ _ _ q (.scal rh (.int _))⟩
      | false =>
        obtain ⟨xs, dd, pr⟩ := dct_leafs I eo d
        refine call_len_dict d.nosys dd (by rw [← pr.length]; exact hz) ?_
        rw [← pr.length]
        exact ⟨.int _, H, I.tok _, ⟨_, rfl⟩, k _ _ _ _ q (.scal rh (.int _))⟩
  | [], _, t => exact t.elim
  | [.non], _, t => exact t.elim
  | [.bl _], _, t => exact t.elim
  | [.int _], _, t => exact t.elim
  | [.ty _], _, t => exact t.elim
  | _ :: _ :: _, _, t => simp at t
theorem b_int : CallR X (.type "int") (liftC X.kw (bltD .int)) := callImp call_int1 fun vs H Q ⟨ds, h, Qd, r, rh, t, k⟩ => by
  match ds, r, t with
  | [.int i], r, t => obtain ⟨v, rfl, r1⟩ := r.one; cases r1; exact .inl ⟨i, rfl, k _ _ _ _ t (.scal rh (.int _))⟩
  | [.bl b], r, t => obtain ⟨v, rfl, r1⟩ := r.one; cases r1; exact .inr ⟨b, rfl, k _ _ _ _ t (.scal rh (.int _))⟩
  | [], _, t => exact t.elim
  | [.non], _, t => exact t.elim
  | [.str _], _, t => exact t.elim
  | [.tup _], _, t => exact t.elim
  | [.ref _], _, t => exact t.elim
  | [.rl _], _, t => exact t.elim
  | [.ty _], _, t => exact t.elim
  | _ :: _ :: _, _, t => simp [bltD] at t
theorem b_abs : CallR X (.builtin "abs") (liftC X.kw (bltD .abs)) := callImp call_abs fun vs H Q ⟨ds, h, Qd, r, rh, t, k⟩ => by
  match ds, r, t with
  | [.int i], r, t =>
    obtain ⟨v, rfl, r1⟩ := r.one; cases r1
    have e : (if i < 0 then -i else i) = (i.natAbs : Int) := by split <;> omega
    exact ⟨i, rfl, by rw [e]; exact k _ _ _ _ t (.scal rh (.int _))⟩
  | [], _, t => exact t.elim
  | [.non], _, t => exact t.elim
  | [.bl _], _, t => exact t.elim
  | [.str _], _, t => exact t.elim
  | [.tup _], _, t => exact t.elim
  | [.ref _], _, t => exact t.elim
  | [.rl _], _, t => exact t.elim
  | [.ty _], _, t => exact t.elim
  | _ :: _ :: _, _, t => simp [bltD] at t
/-- one, two or three arguments: which case it is -/
theorem nuMin3_int (i j l : Int) : nuMin3 (.int i) (.int j) (.int l) = some (.int (min (min i j) l)) := by
  have e2 : ∀ a b : Int, nuMin2 (.int a) (.int b) = some (.int (min a b)) := fun a b => by
    show (nuLt (.int b) (.int a)).map (fun c => if c = true then V.int b else V.int a) = _
    have e : nuLt (.int b) (.int a) = some (decide (b < a)) := rfl
    rw [e]
    show some (if decide (b < a) = true then V.int b else V.int a) = _
    by_cases h : b < a
    · rw [if_pos (decide_eq_true h), Int.min_eq_right (by omega)]
    · rw [if_neg (by simpa using h), Int.min_eq_left (by omega)]
  show (nuMin2 (.int i) (.int j)).bind (fun m => nuMin2 m (.int l)) = _
  rw [e2]
  exact e2 _ _
theorem b_min (hc : X.calm = true) : CallR X (.builtin "min") (liftC X.kw (bltD .min)) := fun pins s σ H xs us Q I rv ⟨ds, h, Qd, r, rh, t, k⟩ => by
  match ds, r, t with
  | [.int i, .int j], r, t =>
    obtain ⟨v, w, rfl, r1, r2⟩ := r.two; cases r1; cases r2
    refine call_min2 hc pins s σ H _ us Q I rv ⟨i, j, rfl, ?_⟩
    have e : (if j < i then j else i) = min i j := by
      by_cases h : j < i
      · rw [if_pos h, Int.min_eq_right (by omega)]
      · rw [if_neg h, Int.min_eq_left (by omega)]
    rw [e]
    exact k _ _ _ _ t (.scal rh (.int _))
  | [.int i, .int j, .int l], r, t =>
    obtain ⟨v, w, x, rfl, r1, r2, r3⟩ := r.three; cases r1; cases r2; cases r3
    exact call_min3Nu hc pins s σ H _ us Q I rv ⟨_, _, _, _, rfl, nuMin3_int i j l, k _ _ _ _ t (.scal rh (.int _))⟩
  | [.ref p], r, t =>
    obtain ⟨v, rfl, r1⟩ := r.one; cases r1
    obtain ⟨ns, l, h0, q⟩ := t
    exact cr_min hc pins s σ H _ us Q I rv ⟨p, ns, rfl, l.ints rh, h0, fun m hm hy => k _ _ _ _ (q m hm hy) (.scal rh (.int _))⟩
theorem b_max (hc : X.calm = true) : CallR X (.builtin "max") (liftC X.kw (bltD .max)) := fun pins s σ H xs us Q I rv ⟨ds, h, Qd, r, rh, t, k⟩ => by
  match ds, r, t with
  | [.int i, .int j], r, t =>
    obtain ⟨v, w, rfl, r1, r2⟩ := r.two; cases r1; cases r2
    refine call_max2 hc pins s σ H _ us Q I rv ⟨i, j, rfl, ?_⟩
    have e : (if j > i then j else i) = max i j := by
      by_cases h : j > i
      · rw [if_pos h, Int.max_eq_right (by omega)]
      · rw [if_neg h, Int.max_eq_left (by omega)]
    rw [e]
    exact k _ _ _ _ t (.scal rh (.int _))
  | [.ref p], r, t =>
    obtain ⟨v, rfl, r1⟩ := r.one; cases r1
    obtain ⟨ns, l, h0, q⟩ := t
    exact cr_max hc pins s σ H _ us Q I rv ⟨p, ns, rfl, l.ints rh, h0, fun m hm hy => k _ _ _ _ (q m hm hy) (.scal rh (.int _))⟩
theorem b_list : CallR X (.type "list") (liftC X.kw (bltD .list)) := callImp call_list_of fun vs H Q ⟨ds, h, Qd, r, rh, t, k⟩ => by
  match ds, r, t with
  | [.tup xs], r, t =>
    obtain ⟨v, rfl, r1⟩ := r.one
    cases r1 with | tup s q => exact ⟨_, _, rfl, .inr s, fun l nl => k _ _ _ _ (t l (rh.free nl)) (.lst rh nl q)⟩
  | [.rl xs], r, t =>
    obtain ⟨v, rfl, r1⟩ := r.one
    cases r1 with | rl s q => exact ⟨_, _, rfl, .inl s.sq, fun l nl => k _ _ _ _ (t l (rh.free nl)) (.lst rh nl q)⟩
  | [.ref p], r, t =>
    obtain ⟨v, rfl, r1⟩ := r.one
    cases r1
    obtain ⟨xs, l, q⟩ := t
    obtain ⟨ws, s, q1⟩ := rh.sq l
    exact ⟨_, _, rfl, .inl s, fun l nl => k _ _ _ _ (q l (rh.free nl)) (.lst rh nl q1)⟩
  | [], _, t => exact t.elim
  | [.non], _, t => exact t.elim
  | [.bl _], _, t => exact t.elim
  | [.int _], _, t => exact t.elim
  | [.str _], _, t => exact t.elim
  | [.ty _], _, t => exact t.elim
  | _ :: _ :: _, _, t => simp [bltD] at t
theorem b_tuple : CallR X (.type "tuple") (liftC X.kw (bltD .tuple)) := callImp call_tuple_of fun vs H Q ⟨ds, h, Qd, r, rh, t, k⟩ => by
  match ds, r, t with
  | [.tup xs], r, t =>
    obtain ⟨v, rfl, r1⟩ := r.one
    cases r1 with | tup s q => exact ⟨_, _, rfl, .inr ⟨s, k _ _ _ _ t (.scal rh (.tup s q))⟩⟩
  | [.rl xs], r, t =>
    obtain ⟨v, rfl, r1⟩ := r.one
    cases r1 with | rl s q => exact ⟨_, _, rfl, .inl ⟨s.sq, fun l nl => k _ _ _ _ t (.tup rh nl q)⟩⟩
  | [.ref p], r, t =>
    obtain ⟨v, rfl, r1⟩ := r.one
    cases r1
    obtain ⟨xs, l, q⟩ := t
    obtain ⟨ws, s, q1⟩ := rh.sq l
    exact ⟨_, _, rfl, .inl ⟨s, fun l nl => k _ _ _ _ q (.tup rh nl q1)⟩⟩
  | [], _, t => exact t.elim
  | [.non], _, t => exact t.elim
  | [.bl _], _, t => exact t.elim
  | [.int _], _, t => exact t.elim
  | [.str _], _, t => exact t.elim
  | [.ty _], _, t => exact t.elim
  | _ :: _ :: _, _, t => simp [bltD] at t
theorem b_sum (hc : X.calm = true) : CallR X (.builtin "sum") (liftC X.kw (bltD .sum)) := callImp (cr_sum hc) fun vs H Q ⟨ds, h, Qd, r, rh, t, k⟩ => by
  match ds, r, t with
  | [.ref p], r, t =>
    obtain ⟨v, rfl, r1⟩ := r.one; cases r1
    obtain ⟨ns, l, q⟩ := t
    exact ⟨p, ns, rfl, l.ints rh, k _ _ _ _ q (.scal rh (.int _))⟩
theorem b_any (hc : X.calm = true) : CallR X (.builtin "any") (liftC X.kw (bltD .any)) := callImp (cr_any hc) fun vs H Q ⟨ds, h, Qd, r, rh, t, k⟩ => by
  match ds, r, t with
  | [.ref p], r, t =>
    obtain ⟨v, rfl, r1⟩ := r.one; cases r1
    obtain ⟨ns, l, q⟩ := t
    exact ⟨p, ns, rfl, l.bls rh, k _ _ _ _ q (.scal rh (.bl _))⟩
theorem b_all (hc : X.calm = true) : CallR X (.builtin "all") (liftC X.kw (bltD .all)) := callImp (cr_all hc) fun vs H Q ⟨ds, h, Qd, r, rh, t, k⟩ => by
  match ds, r, t with
  | [.ref p], r, t =>
    obtain ⟨v, rfl, r1⟩ := r.one; cases r1
    obtain ⟨ns, l, q⟩ := t
    exact ⟨p, ns, rfl, l.bls rh, k _ _ _ _ q (.scal rh (.bl _))⟩
theorem b_str : CallR X (.type "str") (liftC X.kw (bltD .str)) := callImp call_str_int fun vs H Q ⟨ds, h, Qd, r, rh, t, k⟩ => by
  match ds, r, t with
  | [.int i], r, t =>
    obtain ⟨v, rfl, r1⟩ := r.one; cases r1
    exact ⟨i, rfl, t.1, k _ _ _ _ t.2 (.scal rh (.str _))⟩
theorem b_ord : CallR X (.builtin "ord") (liftC X.kw (bltD .ord)) := callImp call_ord fun vs H Q ⟨ds, h, Qd, r, rh, t, k⟩ => by
  match ds, r, t with
  | [.str x], r, t =>
    obtain ⟨v, rfl, r1⟩ := r.one; cases r1
    exact ⟨x, rfl, t.1, k _ _ _ _ t.2 (.scal rh (.int _))⟩
/-! ### isinstance -/
def tyNm : Ty → String
  | .int => "int" | .bool => "bool" | .str => "str" | .tuple => "tuple" | .list => "list" | .none => "NoneType" | .dict => "dict"
theorem kit_all (t n : Ty) (hn : n ≠ .none) : kitB (tyNm t) (tyNm n) = some (isiB t n) := by
  cases n <;> first | exact absurd rfl hn | (cases t <;> decide +kernel)
theorem tyD_X {H : Hp} {h : DH} {d : D} {v : V} {k : Ty → Prop} (rh : RH K H h) (r : RD K H d v) (t : tyD d h k) : ∃ u, TyX K H v (.type (tyNm u)) ∧ k u := by
  cases r with
  | non => exact ⟨_, .base .non, t⟩
  | bl b => exact ⟨_, .base (.bl b), t⟩
  | int b => exact ⟨_, .base (.int b), t⟩
  | str b => exact ⟨_, .base (.str b), t⟩
  | tup s q =>
    refine ⟨_, ?_, t⟩
    rcases s with (s | ⟨o, s⟩) | ⟨o, its, n, e1, e2, _⟩
    · exact .base (.tup s)
    · exact .fTuple s
    · exact .kTuple e1 e2
  | rl s q =>
    refine ⟨_, ?_, t⟩
    rcases s with ⟨o, s⟩ | ⟨o, its, n, e1, e2, _⟩
    · exact .base (.frz s)
    · exact .kList e1 e2
  | ref a =>
    obtain ⟨xs, l, q⟩ := t
    obtain ⟨vs, s, r⟩ := rh.sq l
    refine ⟨_, ?_, q⟩
    rcases s with (s | ⟨o, s⟩) | ⟨o, its, n, e1, e2, _⟩
    · exact .base (.lst s)
    · exact .base (.frz s)
    · exact .kList e1 e2
  | ty n => exact t.elim
/-! ### methods -/
abbrev RdM := D → List D → DH → DK → Prop
def liftM (K : KW) (T : String) (rd : RdM) : V → List V → Hp → VK → Prop := fun x vs H Q => ∃ d ds h Qd, RD K H d x ∧ RDs K H ds vs ∧ RH K H h ∧ rd d ds h Qd ∧ ∀ d' h' v H', Qd d' h' → Post K h H d' h' v H' → Q v H'
theorem m_append : MtR X "list.append" (liftM X.kw "list" (mthD .append)) := fun pins s σ H x xs v us Q I rx rv ⟨d, ds, h, Qd, r, rs, rh, t, k⟩ => by
  match ds, rs, t with
  | [y], rs, t =>
    obtain ⟨p, zs, rfl, e, hz, q⟩ := t
    obtain ⟨w, rfl, ry⟩ := rs.one
    cases r
    obtain ⟨vs, f1, q1⟩ := rh.lst e
    exact mt_append pins s σ H _ _ v us Q I rx rv ⟨p, vs, w, rfl, rfl, f1, by rw [← q1.length]; exact hz, k _ _ _ _ q (.write rh e (q1.append (.cons ry .nil)) .non)⟩
theorem RDs.dropLast {H : Hp} {ds : List D} {vs : List V} (r : RDs K H ds vs) : RDs K H ds.dropLast vs.dropLast := by
  rw [List.dropLast_eq_take, List.dropLast_eq_take, r.length]
  exact r.take _
theorem m_pop : MtR X "list.pop" (liftM X.kw "list" (mthD .pop)) := fun pins s σ H x xs v us Q I rx rv ⟨d, ds, h, Qd, r, rs, rh, t, k⟩ => by
  match ds, rs, t with
  | [], rs, t =>
    obtain ⟨p, zs, y, rfl, e, hy, q⟩ := t
    cases rs
    cases r
    obtain ⟨vs, f1, q1⟩ := rh.lst e
    obtain ⟨w, e1, ry⟩ := q1.get hy
    exact mt_pop pins s σ H _ _ v us Q I rx rv ⟨p, vs, w, rfl, rfl, f1, by rw [← q1.length]; exact e1, k _ _ _ _ q (.write rh e q1.dropLast (ry.mono (TM.write f1)))⟩
theorem m_extend : MtR X "list.extend" (liftM X.kw "list" (mthD .extend)) := fun pins s σ H x xs v us Q I rx rv ⟨d, ds, h, Qd, r, rs, rh, t, k⟩ => by
  match ds, rs, t with
  | [.ref b], rs, t =>
    obtain ⟨p, zs, ys, rfl, e, e2, hz, q⟩ := t
    obtain ⟨w, rfl, ry⟩ := rs.one
    cases r; cases ry
    obtain ⟨vs, f1, q1⟩ := rh.lst e
    obtain ⟨ws, f2, q2⟩ := rh.lst e2
    exact mt_extend pins s σ H _ _ v us Q I rx rv ⟨p, b, vs, ws, rfl, rfl, f1, f2, by rw [← q1.length, ← q2.length]; exact hz, k _ _ _ _ q (.write rh e (q1.append q2) .non)⟩
/-- d.get(k), d.get(k, x) -/
theorem m_get (hu : X.A.units + 64 < cLine) : MtR X "dict.get" (liftM X.kw "dict" (mthD .get)) := fun pins s σ H x xs v us Q I rx rv ⟨d, ds, h, Qd, r, rs, rh, t, k⟩ => by
  have key : ∀ {i z : D} {y w : V} {u r' : Value}, dgetD d i z h Qd → RD X.kw H i y → RelV y u → RD X.kw H z w → RelV w r' →
      (us = [u] ∧ z = .non ∨ us = [u, r']) → wpAny (model X.prog X.w) X.A (call (.builtin "dict.get") (v :: us)) (EP X pins σ Q) X.xe s := by
    rintro i z y w u r' ⟨b, kvs, ⟨p, o, rfl, e⟩, hk, q⟩ ri ru rz rw' hus
    cases r
    cases (show v = Value.ref p from rx)
    obtain ⟨eo, d⟩ := rh _ _ e
    cases b with
    | true =>
      obtain ⟨n, a, en, rfl, rfl, ki⟩ := key_T I hk ri ru
      obtain ⟨xs, dd, pr⟩ := dct_keyed I eo d
      have f := find_T pr en
      rcases hus with ⟨rfl, rfl⟩ | rfl
      · refine get_keyed (room1 hu) ki d.nosys ⟨xs, dd, rfl⟩ ?_
        rw [valueAt_pairsH]
        cases hq : dget kvs i with
        | none => rw [hq] at f q; rw [f]; exact ⟨.non, H, I.tok _, rfl, k _ _ _ _ q (.scal rh .non)⟩
        | some g => rw [hq] at f q; obtain ⟨q', z, f1, f2, f3⟩ := f; rw [f1]; exact ⟨z, H, I.tok _, f3, k _ _ _ _ q (.scal rh f2)⟩
      · refine getOr_keyed (room1 hu) ki d.nosys ⟨xs, dd, rfl⟩ ?_
        rw [valueAt_pairsH]
        cases hq : dget kvs i with
        | none => rw [hq] at f q; rw [f]; exact ⟨w, H, I.tok _, rw', k _ _ _ _ q (.scal rh rz)⟩
        | some g => rw [hq] at f q; obtain ⟨q', z, f1, f2, f3⟩ := f; rw [f1]; exact ⟨z, H, I.tok _, f3, k _ _ _ _ q (.scal rh f2)⟩
    | false =>
      obtain ⟨l, el, ki⟩ := key_L hk ri ru
      obtain ⟨xs, dd, pr⟩ := dct_leafs I eo d
      have f := find_L pr el
      rcases hus with ⟨rfl, rfl⟩ | rfl
      · refine call_meetsIn PySem.F.slot_dict_get dd.typeIs PySem.F.entry_dict_get (PySem.F.args_dict_get_2 _ _) (meets_dict_get (mixKind X.prog X.w) p ki d.nosys) ⟨_, dd.mapOf, ?_⟩
        cases hq : dget kvs i with
        | none => rw [hq] at f q; rw [f]; exact ⟨.non, H, I.tok _, rfl, k _ _ _ _ q (.scal rh .non)⟩
        | some g => rw [hq] at f q; obtain ⟨q', z, f1, f2, f3⟩ := f; rw [f1]; exact ⟨z, H, I.tok _, f3, k _ _ _ _ q (.scal rh f2)⟩
      · refine call_meetsIn PySem.F.slot_dict_get dd.typeIs PySem.F.entry_dict_get (PySem.F.args_dict_get_3 _ _ _) (meets_dict_get_default (mixKind X.prog X.w) p ki d.nosys _) ⟨_, dd.mapOf, ?_⟩
        cases hq : dget kvs i with
        | none => rw [hq] at f q; rw [f]; exact ⟨w, H, I.tok _, rw', k _ _ _ _ q (.scal rh rz)⟩
        | some g => rw [hq] at f q; obtain ⟨q', z, f1, f2, f3⟩ := f; rw [f1]; exact ⟨z, H, I.tok _, f3, k _ _ _ _ q (.scal rh f2)⟩
  match ds, rs, t with
  | [i], rs, t =>
    obtain ⟨y, rfl, ry⟩ := rs.one
    cases rv with | @cons _ u _ us ru rv =>
    cases rv
    exact key t ry ru .non (show RelV .non Value.none from rfl) (.inl ⟨rfl, rfl⟩)
  | [i, z], rs, t =>
    obtain ⟨y, w, rfl, ry, rz⟩ := rs.two
    cases rv with | @cons _ u _ us ru rv =>
    cases rv with | @cons _ u2 _ us ru2 rv =>
    cases rv
    exact key t ry ru rz ru2 (.inr rfl)
theorem sort_el {p : Addr} {h : DH} {Q : DK} (t : sortR p h Q) : (∃ S n, h p = some (.iset S n) ∧ n < 64 ∧ ∀ ns : List Int, ns.Pairwise (· < ·) → (∀ k, k ∈ ns ↔ S k = true) → newL h (ns.map D.int) Q) ∨
    ∃ ns : List Int, LR h p (ns.map D.int) ∧ ∀ ms : List Int, ms.Perm ns → ms.Pairwise (· ≤ ·) → newL h (ms.map D.int) Q := by
  unfold sortR at t; exact t
theorem b_sorted (hc : X.calm = true) : CallR X (.builtin "sorted") (liftC X.kw (bltD .sorted)) := fun pins s σ H vs us Q I rv ⟨ds, h, Qd, r, rh, t, k⟩ => by
  match ds, r, t with
  | [.ref p], r, t =>
    obtain ⟨v, rfl, r1⟩ := r.one; cases r1
    rcases sort_el t with ⟨S, n, e, h64, q⟩ | ⟨ns, l, q⟩
    · exact cr_sortedSet hc pins s σ H _ us Q I rv ⟨p, S, n, rfl, rh _ _ e, h64, fun ns a pw hm _ np => k _ _ _ _ (q ns pw hm a (rh.free np)) (.lst rh np (RDs.ofInts ns))⟩
    · exact cr_sortedI pins s σ H _ us Q I rv ⟨p, ns, rfl, l.ints rh, fun ms a pm pw np => k _ _ _ _ (q ms pm pw a (rh.free np)) (.lst rh np (RDs.ofInts ms))⟩
theorem b_set (hc : X.calm = true) : CallR X (.type "set") (liftC X.kw (bltD .set)) := fun pins s σ H vs us Q I rv ⟨ds, h, Qd, r, rh, t, k⟩ => by
  match ds, r, t with
  | [.ref p], r, t =>
    obtain ⟨v, rfl, r1⟩ := r.one; cases r1
    obtain ⟨ns, l, hl, q⟩ := t
    obtain rfl := rv.ref1
    obtain ⟨its, rr, pl, _⟩ := I.list (l.ints rh)
    refine set_of_list ns (I.ok.hd hc) pl.isList (by simpa using intsAre_of rr) (by unfold scanBound; omega) fun h' tk c hS hle hk => ?_
    have np : H s.heap.objs.size = none := I.hok.fresh (Nat.le_refl _)
    exact ⟨.ref s.heap.objs.size, _, I.laid (a := s.heap.objs.size) (t' := tk) hk (Nat.le_refl _) (setO_new hS), rfl, k _ _ _ _ (q _ (fun j => decide (j ∈ ns)) c (rh.free np) (fun j => by simp) hle) ⟨.ref _, rh.new np upd_same, .new np⟩⟩
end DL
namespace DL
open PySem PySem.Spec L2

/-! ## 4. What a loop goes through -/
variable {K : KW} {X : Cx} {B : Bs}
structure WalkD (K : KW) (J : It) (items : List D) (inv : DH → Prop) (G : Hp → Prop) : Prop where
  mono : ∀ H H', TM K H H' → G H → G H'
  goes : ∀ i h H, i < items.length → RH K H h → inv h → G H → J.go i H
  stops : ∀ h H, RH K H h → inv h → G H → J.stop items.length H
  yields : ∀ i h H x H', i < items.length → RH K H h → inv h → G H → J.yld i H x H' → ∃ d, items[i]? = some d ∧ RD K H' d x ∧ RH K H' h ∧ Frm h H h H'
theorem RDs.getX {H : Hp} {ds : List D} {vs : List V} {i : Nat} (r : RDs K H ds vs) (hi : i < ds.length) : ∃ v, vs[i]? = some v ∧ RD K H ds[i] v :=
  r.get (List.getElem?_eq_getElem hi)
theorem walkD_list {a : Addr} {xs : List D} : WalkD K (Itl K a) xs (fun h => LR h a xs) (fun _ => True) where
  mono := fun _ _ _ g => g
  goes := fun i h H hi rh l _ => by
    obtain ⟨vs, s, r⟩ := rh.sq l
    obtain ⟨v, e, _⟩ := r.getX hi
    exact ⟨vs, v, s, e⟩
  stops := fun h H rh l _ => by
    obtain ⟨vs, s, r⟩ := rh.sq l
    exact ⟨vs, s, by rw [r.length]; exact Nat.le_refl _⟩
  yields := fun i h H x H' hi rh l _ y => by
    obtain ⟨vs, s, r⟩ := rh.sq l
    obtain ⟨rfl, y⟩ := y
    obtain ⟨d, e, q⟩ := r.get' (y vs s)
    exact ⟨d, e, q, rh, .refl _ _⟩
theorem walkD_range {lo : Int} {n : Nat} : WalkD K (Itr lo n) (rangeD lo n) (fun _ => True) (fun _ => True) where
  mono := fun _ _ _ g => g
  goes := fun i h H hi _ _ _ => by
    have e : (rangeD lo n).length = n := by simp [rangeD]
    rw [e] at hi
    exact hi
  stops := fun h H _ _ _ => by
    have e : (rangeD lo n).length = n := by simp [rangeD]
    rw [e]
    exact Nat.le_refl n
  yields := fun i h H x H' hi rh _ _ y => by
    obtain ⟨rfl, rfl⟩ := y
    have e : (rangeD lo n).length = n := by simp [rangeD]
    rw [e] at hi
    exact ⟨.int (lo + i), by simp [rangeD, hi], .int _, rh, .refl _ _⟩
theorem walkD_str {z : Str} : WalkD K (Its z) (signsD z) (fun _ => True) (fun _ => True) where
  mono := fun _ _ _ g => g
  goes := fun i h H hi _ _ _ => by
    have e : (signsD z).length = z.cps.size := by simp [signsD]
    rw [e] at hi
    exact hi
  stops := fun h H _ _ _ => by
    have e : (signsD z).length = z.cps.size := by simp [signsD]
    rw [e]
    exact Nat.le_refl _
  yields := fun i h H x H' hi rh _ _ y => by
    obtain ⟨rfl, c, e, rfl⟩ := y
    exact ⟨.str ⟨#[c]⟩, by simp [signsD, e], .str _, rh, .refl _ _⟩
theorem numbered_get : ∀ (xs : List D) (n i : Nat), (numbered n xs)[i]? = xs[i]?.map fun x => D.tup [.int ((n + i : Nat) : Int), x]
  | [], _, _ => by simp [numbered]
  | x :: xs, n, 0 => by simp [numbered]
  | x :: xs, n, i + 1 => by
    have ih := numbered_get xs (n + 1) i
    rw [show (numbered n (x :: xs))[i + 1]? = (numbered (n + 1) xs)[i]? from by simp [numbered], ih]
    rw [show n + 1 + i = n + (i + 1) from by omega]
    simp
theorem numbered_length : ∀ (xs : List D) (n : Nat), (numbered n xs).length = xs.length
  | [], _ => rfl
  | x :: xs, n => by simp [numbered, numbered_length xs]
theorem walkD_enum {a : Addr} {xs : List D} : WalkD K (Ite K a) (numbered 0 xs) (fun h => LR h a xs) (fun _ => True) where
  mono := fun _ _ _ g => g
  goes := fun i h H hi rh l _ => by
    rw [numbered_length] at hi
    obtain ⟨vs, s, r⟩ := rh.sq l
    obtain ⟨v, e, _⟩ := r.getX hi
    exact ⟨vs, v, s, e⟩
  stops := fun h H rh l _ => by
    obtain ⟨vs, s, r⟩ := rh.sq l
    exact ⟨vs, s, by rw [numbered_length, r.length]; exact Nat.le_refl _⟩
  yields := fun i h H x H' hi rh l _ y => by
    obtain ⟨vs, s, r⟩ := rh.sq l
    obtain ⟨p, w, rfl, np, rfl, y⟩ := y
    obtain ⟨d, e, q⟩ := r.get' (y vs s)
    exact ⟨_, by rw [numbered_get, e]; rfl, .newT np (.cons (by rw [Nat.zero_add]; exact .int _) (.cons q .nil)), rh.newT np, .newT np⟩
theorem pairUp_get : ∀ (xs ys : List D) (i : Nat) (x y : D), xs[i]? = some x → ys[i]? = some y → (pairUp xs ys)[i]? = some (.tup [x, y])
  | [], _, _, _, _, h, _ => by simp at h
  | _ :: _, [], _, _, _, _, h => by simp at h
  | x :: xs, y :: ys, 0, _, _, h1, h2 => by simp at h1 h2; subst h1 h2; simp [pairUp]
  | x :: xs, y :: ys, i + 1, _, _, h1, h2 => by simp [pairUp]; exact pairUp_get xs ys i _ _ (by simpa using h1) (by simpa using h2)
theorem pairUp_length : ∀ (xs ys : List D), (pairUp xs ys).length = min xs.length ys.length
  | [], _ => by simp [pairUp]
  | _ :: _, [] => by simp [pairUp]
  | x :: xs, y :: ys => by simp [pairUp, pairUp_length xs ys, Nat.succ_min_succ]
theorem walkD_zip {a b : Addr} {xs ys : List D} : WalkD K (Itz K a b) (pairUp xs ys) (fun h => LR h a xs ∧ LR h b ys) (fun _ => True) where
  mono := fun _ _ _ g => g
  goes := fun i h H hi rh l _ => by
    rw [pairUp_length] at hi
    obtain ⟨vs, s, r⟩ := rh.sq l.1
    obtain ⟨ws, s', r'⟩ := rh.sq l.2
    obtain ⟨v, e, _⟩ := r.getX (Nat.lt_of_lt_of_le hi (Nat.min_le_left _ _))
    obtain ⟨w, e', _⟩ := r'.getX (Nat.lt_of_lt_of_le hi (Nat.min_le_right _ _))
    exact ⟨vs, ws, v, w, s, s', e, e'⟩
  stops := fun h H rh l _ => by
    obtain ⟨vs, s, r⟩ := rh.sq l.1
    obtain ⟨ws, s', r'⟩ := rh.sq l.2
    refine ⟨vs, ws, s, s', ?_⟩
    rw [pairUp_length, r.length, r'.length]
    omega
  yields := fun i h H x H' hi rh l _ y => by
    obtain ⟨vs, s, r⟩ := rh.sq l.1
    obtain ⟨ws, s', r'⟩ := rh.sq l.2
    obtain ⟨p, v, w, rfl, np, rfl, y1, y2⟩ := y
    obtain ⟨d, e, q⟩ := r.get' (y1 vs s)
    obtain ⟨d', e', q'⟩ := r'.get' (y2 ws s')
    exact ⟨_, pairUp_get _ _ _ _ _ e e', .newT np (.cons q (.cons q' .nil)), rh.newT np, .newT np⟩
theorem walkD_tup {a : Addr} {xs : List D} {vs : List V} : WalkD K (Itt K a) xs (fun _ => True) (fun H => SqT K H a vs ∧ RDs K H xs vs) where
  mono := fun _ _ m g => ⟨m.tup _ _ g.1, g.2.mono m⟩
  goes := fun i h H hi _ _ g => by
    obtain ⟨v, e, _⟩ := g.2.getX hi
    exact ⟨vs, v, g.1, e⟩
  stops := fun h H _ _ g => ⟨vs, g.1, by rw [g.2.length]; exact Nat.le_refl _⟩
  yields := fun i h H x H' hi rh _ g y => by
    obtain ⟨rfl, y⟩ := y
    obtain ⟨d, e, q⟩ := g.2.get' (y vs g.1)
    exact ⟨d, e, q, rh, .refl _ _⟩

theorem walkD_rl {a : Addr} {xs : List D} {vs : List V} : WalkD K (Itl K a) xs (fun _ => True) (fun H => FzL K H a vs ∧ RDs K H xs vs) where
  mono := fun _ _ m g => ⟨m.frz _ _ g.1, g.2.mono m⟩
  goes := fun i h H hi _ _ g => by
    obtain ⟨v, e, _⟩ := g.2.getX hi
    exact ⟨vs, v, g.1.sq, e⟩
  stops := fun h H _ _ g => ⟨vs, g.1.sq, by rw [g.2.length]; exact Nat.le_refl _⟩
  yields := fun i h H x H' hi rh _ g y => by
    obtain ⟨rfl, y⟩ := y
    obtain ⟨d, e, q⟩ := g.2.get' (y vs g.1.sq)
    exact ⟨d, e, q, rh, .refl _ _⟩

/-! ### the readings of what is walked -/
abbrev TId := DSt → DH → (List D → (DH → Prop) → DH → Prop) → Prop
def liftI (K : KW) (B : Bs) (t : TId) : TI := fun σ H R => ∃ sd h Rd, Now K B sd h σ H ∧ t sd h Rd ∧
  ∀ items inv h' H' J G, Rd items inv h' → RH K H' h' → Frm h H h' H' → WalkD K J items inv G → G H' → R J H'
/-- a list, a tuple or a text -/
def iAny (K : KW) (te : TE) : TI := fun σ H R => te σ H fun x H1 => (∃ a, x = .ref a ∧ (∃ xs, SqL K H1 a xs) ∧ R (Itl K a) H1) ∨ (∃ a, x = .ref a ∧ (∃ xs, SqT K H1 a xs) ∧ R (Itt K a) H1) ∨ ∃ z, x = .str z ∧ R (Its z) H1
theorem pi_any {tg e : Expr} {te : TE} (he : PE X e te) : PI X tg e (iAny X.kw te) := by
  refine ⟨fun pins s σ H R I h => thn (he.run pins s σ H _ I h) fun v s1 ⟨x, H1, I1, r1, q1⟩ => ?_⟩
  rcases q1 with ⟨a, rfl, ⟨xs, hq⟩, q⟩ | ⟨a, rfl, ⟨xs, hq⟩, q⟩ | ⟨z, rfl, q⟩
  · cases r1
    obtain ⟨its, rv, p, hz⟩ := I1.list hq
    exact wpAny_pyIter_list p.isList (pi_one (tk := s1.toks) I1 _ (turn_list a _) ⟨_, Heap.get?_push_size _ rfl, rfl, rfl⟩ q)
  · cases r1
    obtain ⟨its, rv, p, hz⟩ := I1.tuple hq
    exact wpAny_pyIter_tuple (show s1.heap.IsTuple a its.toArray from p) (pi_one (tk := s1.toks) I1 _ (turn_tuple a _) ⟨_, Heap.get?_push_size _ rfl, rfl, rfl⟩ q)
  · obtain ⟨t, rfl⟩ := r1
    cases ha : z.cps.all (· < 128)
    · exact wpAny_pyIter_wide ha (pi_one (tk := s1.toks) I1 _ (turn_str _ z t "str_iterator" (.inr rfl)) ⟨_, Heap.get?_push_size _ rfl, rfl, rfl⟩ q)
    · exact wpAny_pyIter_ascii ha (pi_one (tk := s1.toks) I1 _ (turn_str _ z t "str_ascii_iterator" (.inl rfl)) ⟨_, Heap.get?_push_size _ rfl, rfl, rfl⟩ q)
theorem PI.imp {tg iter : Expr} {t t' : TI} (h : PI X tg iter t) (k : ∀ σ H R, t' σ H R → t σ H R) : PI X tg iter t' := ⟨fun pins s σ H R I q => h.run pins s σ H R I (k σ H R q)⟩
theorem lift_iVal {ta : TEd} {σ : L2.St} {H : Hp} {R : It → Hp → Prop} (q : liftI K B (fun s h Rd => ta s h fun x h1 => itD .val x h1 fun items inv => Rd items inv h1) σ H R) : iAny K (lift K B ta) σ H R := by
  obtain ⟨sd, h, Rd, n, t, k⟩ := q
  refine ⟨sd, h, _, n, t, fun d h1 v H1 q p => ?_⟩
  cases d with
  | tup xs =>
    obtain ⟨r, rh, fr⟩ := p
    cases r with | tup s r => exact .inr (.inl ⟨_, rfl, ⟨_, s⟩, k _ _ _ _ _ _ q rh fr walkD_tup ⟨s, r⟩⟩)
  | rl xs =>
    obtain ⟨r, rh, fr⟩ := p
    cases r with | rl s r => exact .inl ⟨_, rfl, ⟨_, s.sq⟩, k _ _ _ _ _ _ q rh fr walkD_rl ⟨s, r⟩⟩
  | str z =>
    obtain ⟨r, rh, fr⟩ := p
    cases r
    exact .inr (.inr ⟨z, rfl, k _ _ _ _ _ _ q rh fr walkD_str trivial⟩)
  | ref a =>
    obtain ⟨r, rh, fr⟩ := p
    cases r
    obtain ⟨xs, l, q⟩ := q
    obtain ⟨vs, s, _⟩ := rh.sq l
    exact .inl ⟨a, rfl, ⟨vs, s⟩, k _ _ _ _ _ _ q rh fr walkD_list trivial⟩
  | _ => exact q.elim
theorem lift_iRange1 {ta : TEd} {σ : L2.St} {H : Hp} {R : It → Hp → Prop} (q : liftI K B (fun s h Rd => ta s h fun x h1 => itD .range1 x h1 fun items inv => Rd items inv h1) σ H R) : iRng1 (liftA K B ta) σ H R := by
  obtain ⟨sd, h, Rd, n, t, k⟩ := q
  refine ⟨sd, h, _, n, t, fun ds h1 vs H1 q r rh fr => ?_⟩
  obtain ⟨j, e, ⟨b1, b2⟩, q2⟩ : ∃ j : Int, ds = [.int j] ∧ (-(2 ^ 62) ≤ j ∧ j < 2 ^ 62) ∧ Rd (rangeD 0 j.toNat) (fun _ => True) h1 := by
    match ds, q with
    | [.int j], q => exact ⟨j, rfl, q⟩
  cases e
  obtain ⟨v, rfl, r1⟩ := r.one
  cases r1
  exact ⟨j, rfl, b1, b2, k _ _ _ _ _ _ q2 rh fr walkD_range trivial⟩
theorem lift_iRange2 {ta : TEd} {σ : L2.St} {H : Hp} {R : It → Hp → Prop} (q : liftI K B (fun s h Rd => ta s h fun x h1 => itD .range2 x h1 fun items inv => Rd items inv h1) σ H R) : iRng2 (liftA K B ta) σ H R := by
  obtain ⟨sd, h, Rd, n, t, k⟩ := q
  refine ⟨sd, h, _, n, t, fun ds h1 vs H1 q r rh fr => ?_⟩
  obtain ⟨i, j, e, b, q2⟩ : ∃ i j : Int, ds = [.int i, .int j] ∧ (-(2 ^ 62) ≤ i ∧ i < 2 ^ 62 ∧ -(2 ^ 62) ≤ j ∧ j < 2 ^ 62) ∧ Rd (rangeD i (j - i).toNat) (fun _ => True) h1 := by
    match ds, q with
    | [.int i, .int j], q => exact ⟨i, j, rfl, q⟩
  cases e
  obtain ⟨v, w, rfl, r1, r2⟩ := r.two
  cases r1; cases r2
  exact ⟨i, j, rfl, b, k _ _ _ _ _ _ q2 rh fr walkD_range trivial⟩
theorem lift_iZip {ta : TEd} {σ : L2.St} {H : Hp} {R : It → Hp → Prop} (q : liftI K B (fun s h Rd => ta s h fun x h1 => itD .zip x h1 fun items inv => Rd items inv h1) σ H R) : iZip K (liftA K B ta) σ H R := by
  obtain ⟨sd, h, Rd, n, t, k⟩ := q
  refine ⟨sd, h, _, n, t, fun ds h1 vs H1 q r rh fr => ?_⟩
  obtain ⟨p, p', xs, ys, e, l, l', q2⟩ : ∃ p q xs ys, ds = [.ref p, .ref q] ∧ LR h1 p xs ∧ LR h1 q ys ∧ Rd (pairUp xs ys) (fun h' => LR h' p xs ∧ LR h' q ys) h1 := by
    match ds, q with
    | [.ref p, .ref p'], q => obtain ⟨xs, ys, q⟩ := q; exact ⟨p, p', xs, ys, rfl, q⟩
  cases e
  obtain ⟨v, w, rfl, r1, r2⟩ := r.two
  cases r1; cases r2
  obtain ⟨ws, s, _⟩ := rh.sq l
  obtain ⟨ws', s', _⟩ := rh.sq l'
  exact ⟨p, p', ws, ws', rfl, s, s', k _ _ _ _ _ _ q2 rh fr walkD_zip trivial⟩
end DL
namespace DL
open PySem PySem.Spec L2
open AutoSeq1 (wpAny_loadPart')

/-! ## enumerate of a tuple -/
theorem meets_enum1 {v : Value} {o : Obj} {H : Heap → Prop} (bg : Begins v o H) :
    Meets (Builtin.«enumerate.__new__» ⟨[.type "enumerate", v], []⟩) (fun _ R s => H s.heap ∧
      R (.ok (.ret (.ref (s.heap.push o).objs.size))) { s with heap := (s.heap.push o).push { cls := .type "enumerate", data := .fields #[.none, .bool false, .ref s.heap.objs.size, rawInt 0, .none, .none] } }) :=
  .of_wp fun prog w A R s h => by
    obtain ⟨hp, gg, dd, tk, os⟩ := s
    obtain ⟨hH, hR⟩ := h
    have sb := sub_enumerate
    have pq : ∀ {A' : Around} {E : Value → Shared → Prop} {Q : Value → Shared → Prop}, Q (.ref hp.objs.size) ⟨hp.push o, gg, dd, tk, os⟩ → wpAny (model prog w) A' (pyIter v) Q E ⟨hp, gg, dd, tk, os⟩ := fun q => bg.iter prog w _ _ ⟨hp, gg, dd, tk, os⟩ _ hH q
    wp_walk using pq
    refine wpAny_stack_any fun st => wpAny_pure ?_
    split
    · rename_i c _ _ _ _ _
      cases (c == Value.type "enumerate") <;> (wp_walk using pq; exact ⟨_, rfl, hR⟩)
    · wp_walk using pq
      exact ⟨_, rfl, hR⟩
theorem call_enum1 {prog : Program} {w : World} {A : Around} {E : Value → Shared → Prop} {s : Shared} {v : Value} {o : Obj} {H : Heap → Prop} {Q : Value → Shared → Prop} (bg : Begins v o H) (h1 : H s.heap)
    (h : ∀ h', IsEnum h' (s.heap.objs.size + 1) s.heap.objs.size 0 .none → h'.get? s.heap.objs.size = some o → (∀ b o, s.heap.get? b = some o → h'.get? b = some o) → Q (.ref (s.heap.objs.size + 1)) { s with heap := h' }) :
    wpAny (model prog w) A (call (.type "enumerate") [v]) Q E s := by
  refine callType_new F.called_enumerate (by decide) (F.typeCall_enumerate_1 _) (F.newCall_enumerate_1 _) (fun obj => F.args_object_init_2 obj _) F.entry_enumerate_new (meets_enum1 bg) ⟨h1, ?_⟩
  have hz : (s.heap.push o).objs.size = s.heap.objs.size + 1 := Heap.size_push ..
  have he : IsEnum ((s.heap.push o).push { cls := .type "enumerate", data := .fields #[.none, .bool false, .ref s.heap.objs.size, rawInt 0, .none, .none] }) (s.heap.objs.size + 1) s.heap.objs.size 0 .none := by
    have z := Heap.get?_push_size (s.heap.push o) (o := { cls := .type "enumerate", data := .fields #[.none, .bool false, .ref s.heap.objs.size, rawInt 0, .none, .none] }) rfl
    rw [hz] at z
    exact z
  show _ ∧ _
  rw [hz]
  exact ⟨⟨_, he, rfl⟩, h _ he (Heap.get?_push_of_some _ (Heap.get?_push_size _ bg.free)) fun b o x => Heap.get?_push_of_some _ (Heap.get?_push_of_some _ x)⟩
/-- i, x of a tuple -/
def IteT (K : PySem.W.Frag) (a : Addr) : It :=
  ⟨fun i H => ∃ (xs : List V) (x : V), SqT K H a xs ∧ xs[i]? = some x, fun i H v H' => ∃ p x, v = .ref p ∧ H p = none ∧ H' = upd H p (.tup [.int (i : Nat), x]) ∧ ∀ xs, SqT K H a xs → xs[i]? = some x, fun i H => ∃ xs : List V, SqT K H a xs ∧ xs.length = i⟩
theorem turn_enumT {P : Program} {w : World} {K : PySem.W.Frag} {elts : List Expr} {kk : Nat} {tpos : Pos} (a e it : Addr) :
    Turn P w K (.Tuple elts kk tpos) (IteT K a) [e, it] e (fun i h => (∃ old, IsEnum h e it ((i : Nat) : Int) old) ∧ h.IsTupleIter it a i ∧ e ≠ it ∧ e ≠ a ∧ a ≠ it) where
  mem := by simp
  obj := fun i h st b hb => by
    obtain ⟨⟨old, he⟩, ⟨o, ho, hc, hd⟩, _⟩ := st
    have z : b = e ∨ b = it := by simpa using hb
    rcases z with rfl | rfl
    · exact ⟨_, he, fun v q => nomatch q⟩
    · exact ⟨o, ho, fun v q => by rw [hd] at q; cases q⟩
  keep := fun i h h' st k => let ⟨⟨old, he⟩, hi, hne⟩ := st; ⟨⟨old, k e (by simp) _ he⟩, hi.at fun o q => k it (by simp) o q, hne⟩
  item := by
    intro X hP hw hK hc i pins s σ H E I hf st hg
    subst hP hw hK
    obtain ⟨⟨old, he⟩, hit, hne, hea, hai⟩ := st
    obtain ⟨xs, x, hq, hx⟩ := hg
    obtain ⟨its, rv, p, hz⟩ := I.tuple hq
    obtain ⟨u, hu, ru⟩ := rv.get hx
    have lt1 : e < s.heap.objs.size := Heap.lt_size he
    have lt2 : it < s.heap.objs.size := by obtain ⟨_, q, _⟩ := hit; exact Heap.lt_size q
    have DD := Draws.tuple (prog := X.prog) (w := X.w) (A := X.A.in1) (I.ok.hd hc) it a hai its.toArray
    have hi : i < its.toArray.size := by
      have := (List.getElem?_eq_some_iff.mp hu).1
      simpa using this
    refine wpAny_pyNext_enum_itemD DD he ⟨hit, p⟩ hi hne (by simp; exact ⟨hne, hea⟩) fun y h' tk hy ho hit' hT hsz hk => ?_
    have ey : u = y := by
      have hy' : its[i]? = some y := by simpa using hy
      rw [hu] at hy'
      exact Option.some.inj hy'
    subst ey
    refine ⟨_, rfl, wpAny_letOwnedTupleGo_enum (s := { s with heap := h', toks := tk + 1 }) ho fun h2 he2 sb => ?_⟩
    have hT2 : h2.get? s.heap.objs.size = some { cls := .type "tuple", data := .seq #[.int i tk, u] } := (sb.2 _ (Nat.ne_of_gt lt1)).trans hT
    have new : ObjOk X.prog X.w (upd H s.heap.objs.size (.tup [.int (i : Nat), x])) h2 s.heap.objs.size (.tup [.int (i : Nat), x]) :=
      ⟨(by show 2 ≤ sizeLine; decide), [.int i tk, u], .cons ⟨_, rfl⟩ (.cons ru .nil), ⟨_, hT2, rfl, _, rfl⟩⟩
    have I1 : Inv X pins σ (upd H s.heap.objs.size (.tup [.int (i : Nat), x])) { s with heap := h2, toks := tk + 1 } :=
      I.turnedNew (ch := [e, it]) (fun b ob hb q => (sb.2 b (fun z => hb (by simp [z]))).trans (hk b ob (fun z => hb (by simp [z])) (fun z => hb (by simp [z])) q)) hf (Nat.le_refl _) new
    refine ⟨.ref s.heap.objs.size, _, I1, rfl, ⟨_, x, rfl, I.hok.fresh (Nat.le_refl _), rfl, fun ys hy => by rw [I.tuple_inj hy hq]; exact hx⟩, ⟨⟨u, ?_⟩, hit'.1.at fun o q => (sb.2 it (Ne.symm hne)).trans q, hne, hea, hai⟩, fun b hb => ?_⟩
    · rw [show ((i + 1 : Nat) : Int) = (i : Int) + 1 from by omega]
      exact he2
    · have z : b = e ∨ b = it := by simpa using hb
      have lb : b < s.heap.objs.size := by rcases z with rfl | rfl <;> assumption
      rw [upd_ne (Nat.ne_of_lt lb)]
      exact (hf b hb).1
  done := by
    intro X hP hw hK hc i pins s σ H E I hf st hg
    subst hP hw hK
    obtain ⟨⟨old, he⟩, hit, hne, hea, hai⟩ := st
    obtain ⟨xs, hq, hx⟩ := hg
    obtain ⟨its, rv, p, hz⟩ := I.tuple hq
    obtain ⟨f0, f1, f2, f3, f4, f5⟩ := hf it (by simp)
    have hl : its.toArray.size = i := by rw [List.size_toArray, ← rv.length]; exact hx
    have DD := Draws.tuple (prog := X.prog) (w := X.w) (A := X.A.in1) (I.ok.hd hc) it a hai its.toArray
    rw [hl] at DD
    exact wpAny_pyNext_enum_endD DD he ⟨hit, p⟩ fun h' eb => ⟨rfl, I.turned (t' := s.toks) (fun b o hb q => eb b o hb q) f0 f1 f3 f4 f5⟩
  self := fun A i s Q E st h => let ⟨⟨_, he⟩, _⟩ := st; wpAny_pyIter_enum he h
/-- enumerate of a list or a tuple -/
def iEnumA (K : PySem.W.Frag) (ta : TA) : TI := fun σ H R => ta σ H fun vs H1 => ∃ a, vs = [.ref a] ∧ ((∃ xs, SqL K H1 a xs ∧ R (Ite K a) H1) ∨ (∃ xs, SqT K H1 a xs ∧ R (IteT K a) H1))
theorem pi_enumA {X : Cx} {e : Expr} {ta : TA} {p pos tpos : Pos} {elts : List Expr} {kk : Nat} (hg : Gl X "enumerate") (hm : X.mg "enumerate" = none) (ha : PA X [e] ta) (hs : starEach [e] X.env = [(false, eval e X.env)]) :
    PI X (.Tuple elts kk tpos) (.Call (.Name "enumerate" p) [e] [] pos) (iEnumA X.K ta) := by
  refine ⟨fun pins s σ H R I h => PyProof.Rows.Call_ (ld_blt I hg hm PyProof.Rows.boot_enumerate (PyProof.Rows.callWith_type1 (thn (ha.run pos pins s σ H _ I h) fun us s1 ⟨vs, H1, I1, r1, q1⟩ => ?_) hs rfl))⟩
  obtain ⟨a, rfl, q1⟩ := q1
  obtain rfl := r1.ref1
  have hle : ∀ b, b ∈ [s1.heap.objs.size + 1, s1.heap.objs.size] → FpOk X pins H1 b := fun b hb => by
    have z : b = s1.heap.objs.size + 1 ∨ b = s1.heap.objs.size := by simpa using hb
    have l : s1.heap.objs.size ≤ b := by rcases z with rfl | rfl; exact Nat.le_succ _; exact Nat.le_refl _
    exact I1.fpOk l (I1.hok.fresh l)
  rcases q1 with ⟨xs, hq, q⟩ | ⟨xs, hq, q⟩
  · obtain ⟨its, rv, p', hz⟩ := I1.list hq
    refine call_enum1 (begins_list a its.toArray) p'.isList fun h' he ho hk => wpAny_pyIter_enum he ?_
    exact ⟨s1.heap.objs.size + 1, _, _, _, H1, rfl, I1.kept (t' := s1.toks) hk, turn_enum a (s1.heap.objs.size + 1) s1.heap.objs.size, ⟨⟨.none, he⟩, ⟨_, ho, rfl, rfl⟩, Nat.succ_ne_self _⟩, hle, q⟩
  · obtain ⟨its, rv, p', hz⟩ := I1.tuple hq
    have la : a < s1.heap.objs.size := p'.lt
    refine call_enum1 (begins_tuple a its.toArray) p' fun h' he ho hk => wpAny_pyIter_enum he ?_
    exact ⟨s1.heap.objs.size + 1, _, _, _, H1, rfl, I1.kept (t' := s1.toks) hk, turn_enumT a (s1.heap.objs.size + 1) s1.heap.objs.size,
      ⟨⟨.none, he⟩, ⟨_, ho, rfl, rfl⟩, Nat.succ_ne_self _, Nat.ne_of_gt (Nat.lt_succ_of_lt la), Nat.ne_of_lt la⟩, hle, q⟩
theorem walkD_enumT {K : KW} {a : Addr} {xs : List D} {vs : List V} : WalkD K (IteT K a) (numbered 0 xs) (fun _ => True) (fun H => SqT K H a vs ∧ RDs K H xs vs) where
  mono := fun _ _ m g => ⟨m.tup _ _ g.1, g.2.mono m⟩
  goes := fun i h H hi _ _ g => by
    rw [numbered_length] at hi
    obtain ⟨v, e, _⟩ := g.2.getX hi
    exact ⟨vs, v, g.1, e⟩
  stops := fun h H _ _ g => ⟨vs, g.1, by rw [numbered_length, g.2.length]⟩
  yields := fun i h H x H' hi rh _ g y => by
    obtain ⟨p, w, rfl, np, rfl, y⟩ := y
    obtain ⟨d, e, q⟩ := g.2.get' (y vs g.1)
    exact ⟨_, by rw [numbered_get, e]; rfl, .newT np (.cons (by rw [Nat.zero_add]; exact .int _) (.cons q .nil)), rh.newT np, .newT np⟩
theorem lift_iEnum {K : KW} {B : Bs} {ta : TEd} {σ : L2.St} {H : Hp} {R : It → Hp → Prop} (q : liftI K B (fun s h Rd => ta s h fun x h1 => itD .enum x h1 fun items inv => Rd items inv h1) σ H R) : iEnumA K (liftA K B ta) σ H R := by
  obtain ⟨sd, h, Rd, n, t, k⟩ := q
  refine ⟨sd, h, _, n, t, fun ds h1 vs H1 q r rh fr => ?_⟩
  match ds, q with
  | [.ref p], q =>
    obtain ⟨v, rfl, r1⟩ := r.one
    cases r1
    obtain ⟨xs, l, q⟩ := q
    obtain ⟨ws, s, _⟩ := rh.sq l
    exact ⟨p, rfl, .inl ⟨ws, s, k _ _ _ _ _ _ q rh fr walkD_enum trivial⟩⟩
  | [.tup xs], q =>
    obtain ⟨v, rfl, r1⟩ := r.one
    cases r1 with | tup s r2 => exact ⟨_, rfl, .inr ⟨_, s, k _ _ _ _ _ _ q rh fr walkD_enumT ⟨s, r2⟩⟩⟩
end DL
namespace DL
open PySem PySem.Spec L2

/-! ## 5. The given text is the inner form: a check by computation -/
structure Tab where
  /-- the defs that may be called, the module's constants, the names that are still the built-ins -/
  fn : List (Str × Nat)
  gl : List (Str × Nat)
  free : List Str
  ps : Nat → List Str
  cs : Nat → D
  sh : List (Nat × Nat × List Str × List Nat)
structure CEnv where
  N : List Str
  nm : List (Str × NameKind)
inductive Nd where
  | e (x : Expr) | t (x : Expr) | w (op : PySem.BoolOp) (xs : List Expr) | a (xs : List Expr) | k (kws : List Keyword)

def plainNm (x : Str) : Bool := !(x == ("__debug__" : Str)) && !(x == ("__classdict__" : Str)) && !(x == ("__name__" : Str))
def visB (C : CEnv) (x : Str) : Bool := match C.nm.lookup x with
  | some .local => true
  | some .cell => true
  | some .free => true
  | _ => false
def locB (C : CEnv) (x : Str) : Bool := match C.nm.lookup x with
  | some .local => true
  | some .cell => true
  | _ => false
def glB (C : CEnv) (x : Str) : Bool := match C.nm.lookup x with
  | some .globalImplicit => true
  | _ => false
def cstB (d : D) (c : Const) : Bool := match d with
  | .non => match c with
    | .none => true
    | _ => false
  | .bl b => match c with
    | .bool b' => decide (b = b')
    | _ => false
  | .int i => match c with
    | .int j => decide (i = j)
    | _ => false
  | .str x => match c with
    | .str y => decide (x = y)
    | _ => false
  | _ => false
def isStar : Expr → Bool
  | .Starred .. => true
  | _ => false
def isSlc : Expr → Bool
  | .Slice .. => true
  | _ => false
def isSetD : Expr → Bool
  | .Set .. => true
  | _ => false
def isComp : Expr → Bool
  | .ListComp .. => true
  | .SetComp .. => true
  | .DictComp .. => true
  | _ => false
def truthB : Expr → Bool
  | .Name .. => true
  | .Call .. => true
  | .Subscript .. => true
  | .Attribute .. => true
  | .BinOp .. => true
  | .Constant .. => true
  | _ => false
def noSup : Expr → Bool
  | .Call (.Name _ _) [] [] _ => false
  | _ => true
def tyNmS : Ty → Str
  | .int => "int" | .bool => "bool" | .str => "str" | .tuple => "tuple" | .list => "list" | .none => "NoneType" | .dict => "dict"
def bltN : Blt → Str
  | .len => "len" | .int => "int" | .abs => "abs" | .min => "min" | .max => "max" | .list => "list" | .tuple => "tuple" | .sum => "sum" | .any => "any" | .all => "all" | .str => "str" | .ord => "ord" | .sorted => "sorted" | .set => "set"
def mthN : Mth → Str
  | .append => "append" | .pop => "pop" | .extend => "extend" | .get => "get"
def tSlots : T → List Nat
  | .name i => [i]
  | .tup ts => tSlots ts
  | .nil => []
  | .cons t ts => tSlots t ++ tSlots ts
/-- targets: of one expression, of several -/
def chkT : T → CEnv → List Expr → Bool → Bool
  | .name i, C, xs, false => match xs with
    | [.Name x _] => decide (C.N[i]? = some x) && locB C x
    | _ => false
  | .tup ts, C, xs, false => match xs with
    | [.Tuple es _ _] => chkT ts C es true
    | _ => false
  | .nil, _, xs, true => xs.isEmpty
  | .cons t ts, C, xs, true => match xs with
    | e :: es => !isStar e && chkT t C [e] false && chkT ts C es true
    | _ => false
  | _, _, _, _ => false
def tupTg : Expr → Bool
  | .Tuple .. => true
  | _ => false
/-- what is walked: the node that the source is held against -/
def itNode (T : Tab) (C : CEnv) (k : ItK) (tg x : Expr) : Option Nd := match k with
  | .val => if isSetD x then none else some (.e x)
  | .range1 => match x with
    | .Call (.Name f _) [a] [] _ => if decide (f = "range") && glB C f && decide (f ∈ T.free) && !isStar a then some (.a [a]) else none
    | _ => none
  | .range2 => match x with
    | .Call (.Name f _) [a, b] [] _ => if decide (f = "range") && glB C f && decide (f ∈ T.free) && !isStar a && !isStar b then some (.a [a, b]) else none
    | _ => none
  | .enum => match x with
    | .Call (.Name f _) [a] [] _ => if decide (f = "enumerate") && glB C f && decide (f ∈ T.free) && !isStar a && tupTg tg then some (.a [a]) else none
    | _ => none
  | .zip => match x with
    | .Call (.Name f _) [a, b] [] _ => if decide (f = "zip") && glB C f && decide (f ∈ T.free) && !isStar a && !isStar b && tupTg tg then some (.a [a, b]) else none
    | _ => none
def chkO (chkE : Nd → Bool) (b : Bool) (x : Option Expr) (ab : Bool) : Bool := match b with
  | false => x.isNone && ab
  | true => match x with
    | some e => chkE (.e e)
    | none => false
def isAbs : E → Bool
  | .absent => true
  | _ => false
def isTrueC : E → Bool
  | .cst (.bl true) => true
  | _ => false
def shOk (T : Tab) (f n : Nat) (ks : List Str) (π : List Nat) : Bool := decide ((f, n, ks, π) ∈ T.sh)

def chk (T : Tab) : E → CEnv → Nd → Bool
  | .var i, C, n => match n with
    | .e (.Name x _) => decide (C.N[i]? = some x) && visB C x && plainNm x
    | _ => false
  | .cst d, _, n => match n with
    | .e (.Constant c _ _) => cstB d c
    | _ => false
  | .glb j, C, n => match n with
    | .e (.Name x _) => decide (T.gl.lookup x = some j) && glB C x && plainNm x
    | _ => false
  | .bin op a b, C, n => match n with
    | .e (.BinOp l o r _) => decide (op = o) && chk T a C (.e l) && chk T b C (.e r)
    | _ => false
  | .neg a, C, n => match n with
    | .e (.UnaryOp .USub l _) => chk T a C (.e l)
    | _ => false
  | .cmp op a b, C, n => match n with
    | .e (.Compare l [o] [r] _) => decide (op = o) && !behindInMarks op r && chk T a C (.e l) && chk T b C (.e r)
    | .t (.Compare l [o] [r] _) => decide (op = o) && !behindInMarks op r && chk T a C (.e l) && chk T b C (.e r)
    | _ => false
  | .cmp2 op op' a b c, C, n => match n with
    | .e (.Compare l [o, o'] [r, r'] _) => decide (op = o) && decide (op' = o') && !behindInMarks op' r' && chk T a C (.e l) && chk T b C (.e r) && chk T c C (.e r')
    | .t (.Compare l [o, o'] [r, r'] _) => decide (op = o) && decide (op' = o') && !behindInMarks op' r' && chk T a C (.e l) && chk T b C (.e r) && chk T c C (.e r')
    | _ => false
  | .dnew _, _, n => match n with
    | .e (.Dict [] [] _) => true
    | _ => false
  | .truth a, C, n => match n with
    | .t x => truthB x && chk T a C (.e x)
    | _ => false
  | .notB a, C, n => match n with
    | .t (.UnaryOp .Not x _) => chk T a C (.t x)
    | _ => false
  | .andB a b, C, n => match n with
    | .t (.BoolOp .And [x, y] _) => chk T a C (.t x) && chk T b C (.t y)
    | .t (.BoolOp .And (x :: y :: z :: r) _) => chk T a C (.t x) && chk T b C (.w .And (y :: z :: r))
    | .w .And [x, y] => chk T a C (.t x) && chk T b C (.t y)
    | .w .And (x :: y :: z :: r) => chk T a C (.t x) && chk T b C (.w .And (y :: z :: r))
    | _ => false
  | .orB a b, C, n => match n with
    | .t (.BoolOp .Or [x, y] _) => chk T a C (.t x) && chk T b C (.t y)
    | .t (.BoolOp .Or (x :: y :: z :: r) _) => chk T a C (.t x) && chk T b C (.w .Or (y :: z :: r))
    | .w .Or [x, y] => chk T a C (.t x) && chk T b C (.t y)
    | .w .Or (x :: y :: z :: r) => chk T a C (.t x) && chk T b C (.w .Or (y :: z :: r))
    | _ => false
  | .notV a, C, n => match n with
    | .e (.UnaryOp .Not x _) => chk T a C (.e x)
    | _ => false
  | .andV a b, C, n => match n with
    | .e (.BoolOp .And [x, y] _) => chk T a C (.e x) && chk T b C (.e y)
    | .e (.BoolOp .And (x :: y :: z :: r) p) => chk T a C (.e x) && chk T b C (.e (.BoolOp .And (y :: z :: r) p))
    | _ => false
  | .orV a b, C, n => match n with
    | .e (.BoolOp .Or [x, y] _) => chk T a C (.e x) && chk T b C (.e y)
    | .e (.BoolOp .Or (x :: y :: z :: r) p) => chk T a C (.e x) && chk T b C (.e (.BoolOp .Or (y :: z :: r) p))
    | _ => false
  | .ife c a b, C, n => match n with
    | .e (.IfExp t x y _) => chk T c C (.t t) && chk T a C (.e x) && chk T b C (.e y)
    | _ => false
  | .tup es, C, n => match n with
    | .e (.Tuple xs _ _) => chk T es C (.a xs)
    | _ => false
  | .lst es, C, n => match n with
    | .e (.List xs _) => chk T es C (.a xs)
    | _ => false
  | .nil, _, n => match n with
    | .a [] => true
    | .k [] => true
    | _ => false
  | .cons e es, C, n => match n with
    | .a (x :: xs) => !isStar x && chk T e C (.e x) && chk T es C (.a xs)
    | .k (⟨_, x, _⟩ :: xs) => chk T e C (.e x) && chk T es C (.k xs)
    | _ => false
  | .sub a i, C, n => match n with
    | .e (.Subscript x y _) => !isSlc y && chk T a C (.e x) && chk T i C (.e y)
    | _ => false
  | .slice bl bh a lo hi, C, n => match n with
    | .e (.Subscript x (.Slice l u none _) _) => chk T a C (.e x) && chkO (fun n => chk T lo C n) bl l (isAbs lo) && chkO (fun n => chk T hi C n) bh u (isAbs hi)
    | _ => false
  | .absent, _, _ => false
  | .rev a, C, n => match n with
    | .e (.Subscript x (.Slice none none (some (.UnaryOp .USub (.Constant (.int 1) _ _) _)) _) _) => chk T a C (.e x)
    | _ => false
  | .call f es, C, n => match n with
    | .e (.Call (.Name x _) args [] _) => decide (T.fn.lookup x = some f) && glB C x && plainNm x && chk T es C (.a args)
    | _ => false
  | .callK f m ks π es kes, C, n => match n with
    | .e (.Call (.Name x _) args kws _) => decide (T.fn.lookup x = some f) && glB C x && plainNm x && decide (args.length = m) && decide (kws.map (·.arg) = ks.map some) && decide (kws.length = ks.length) && shOk T f m ks π && chk T es C (.a args) && chk T kes C (.k kws)
    | _ => false
  | .blt b es, C, n => match n with
    | .e (.Call (.Name x _) (a :: as) [] _) => decide (x = bltN b) && glB C x && decide (x ∈ T.free) && chk T es C (.a (a :: as))
    | _ => false
  | .isi t a, C, n => match n with
    | .e (.Call (.Name x _) [y, .Name z _] [] _) => decide (x = "isinstance") && decide (z = tyNmS t) && glB C x && glB C z && decide (x ∈ T.free) && decide (z ∈ T.free) && decide (t ≠ .none) && !isStar y && chk T a C (.e y)
    | _ => false
  | .mth m o es, C, n => match n with
    | .e (.Call (.Attribute x nm ap) args [] cp) => decide (nm = mthN m) && noSup x && (ap.endLine == cp.line) && decide (args.length < 20) && (match m with | .pop => args.isEmpty | _ => !args.isEmpty) && chk T o C (.e x) && chk T es C (.a args)
    | _ => false
  | .lc tg k src c elt own, C, n => match n with
    | .e (.ListComp x [⟨t, it, ifs, 0⟩] sc _) => blkC C.N { kind := .function, names := C.nm, isGenerator := false, isCoroutine := false } sc own && decide (∀ i ∈ tSlots tg, i ∈ own.map (·.2)) &&
        chkT tg ⟨C.N, sc.names⟩ [t] false && !isSetD it && (match itNode T C k t it with | some nd => chk T src C nd | none => false) &&
        (match ifs with | [] => isTrueC c | [y] => chk T c ⟨C.N, sc.names⟩ (.t y) | _ => false) && chk T elt ⟨C.N, sc.names⟩ (.e x)
    | _ => false
end DL
namespace DL
open PySem PySem.Spec L2

/-! ## 6. The check is enough: expressions -/
def liftSp (K : KW) (c : Ct) : Sp := fun vs H Q E => ∃ ds h Qd Ed, RDs K H ds vs ∧ RH K H h ∧ c ds h Qd Ed ∧
  (∀ d h' v H', Qd d h' → Post K h H d h' v H' → Q v H') ∧ ∀ c od h' H', Ed c od h' → RH K H' h' → Frm h H h' H' → E c od H'
def liftX (K : KW) (B : Bs) (Ed : XD) : XK := fun c od H' => ∃ h', Ed c od h' ∧ RH K H' h' ∧ Frm B.1 B.2 h' H'
structure FnAt (T : Tab) (Φ : Nat → Ct) (CX : CXT) (k : Nat) (X : Cx) (x : Str) (f : Nat) : Prop where
  ex : ∃ (fa : Addr) (fd : FuncData), X.mg x = some (.ref fa) ∧ PySem.W.keepIn X.kw (.ref fa) = true ∧ FnOk X.prog X.w X.kw X.mg X.base CX k fa fd (T.ps f) (liftSp X.kw (Φ f)) ∧ Binds X.kw fd (T.ps f) [] ∧
    ∀ n ks π, (f, n, ks, π) ∈ T.sh → KBn X.kw fd (T.ps f) n ks (fun us ws => permL π (us ++ ws)) (fun vs zs => permL π (vs ++ zs))
/-- no exception comes where none is let out -/
def CXno (CX : CXT) : Prop := ∀ outer H s (E : XK) e s', (∀ c od H', ¬ E c od H') → ¬ CX outer H s E e s'
structure XOk (T : Tab) (Φ : Nat → Ct) (CX : CXT) (k : Nat) (B : Bs) (Ed : XD) (C : CEnv) (X : Cx) : Prop where
  N : X.N = C.N
  nd : C.N.Nodup
  calm : X.calm = true
  room : Room k X.A
  rel : ∀ x y, C.nm.lookup x = some y → X.env.scope.names.lookup x = some y ∨ (y = .free ∧ X.env.scope.names.lookup x = some .cell)
  fnc : ∀ x, C.nm.lookup x = some .cell → X.fn x = true
  free : ∀ x ∈ T.free, X.mg x = none
  cst : ∀ x j, T.gl.lookup x = some j → ∃ u v, X.mg x = some u ∧ RelV v u ∧ ∀ H, RD X.kw H (T.cs j) v
  fns : ∀ x f, T.fn.lookup x = some f → FnAt T Φ CX k X x f
  pass : Passes CX X (liftX X.kw B Ed)
  own : PassesOwn (model X.prog X.w) X.A X.env X.xe
  cx : CXno CX
variable {T : Tab} {Φ : Nat → Ct} {CX : CXT} {k : Nat} {B : Bs} {Ed : XD} {C : CEnv} {X : Cx}
theorem XOk.vis (o : XOk T Φ CX k B Ed C X) {x : Str} (h : visB C x = true) : Vis X.env.scope x := by
  unfold visB at h
  split at h
  · rename_i e; rcases o.rel _ _ e with r | r
    · exact .inl r
    · exact .inr (.inl r.2)
  · rename_i e; rcases o.rel _ _ e with r | r
    · exact .inr (.inl r)
    · exact .inr (.inl r.2)
  · rename_i e; rcases o.rel _ _ e with r | r
    · exact .inr (.inr r)
    · exact .inr (.inl r.2)
  · cases h
theorem XOk.loc (o : XOk T Φ CX k B Ed C X) {x : Str} (h : locB C x = true) : Loc X.env.scope x ∧ (X.fn x = true ∨ X.env.scope.names.lookup x = some .local) := by
  unfold locB at h
  split at h
  · rename_i e; rcases o.rel _ _ e with r | r
    · exact ⟨.inl r, .inr r⟩
    · cases r.1
  · rename_i e; rcases o.rel _ _ e with r | r
    · exact ⟨.inr r, .inl (o.fnc _ e)⟩
    · cases r.1
  · cases h
theorem XOk.gl (o : XOk T Φ CX k B Ed C X) {x : Str} (h : glB C x = true) : Gl X x := by
  unfold glB at h
  split at h
  · rename_i e; rcases o.rel _ _ e with r | r
    · exact r
    · cases r.1
  · cases h
theorem plain3 {x : Str} (h : plainNm x = true) : (x == ("__debug__" : Str)) = false ∧ (x == ("__classdict__" : Str)) = false := by
  unfold plainNm at h
  simp only [Bool.and_eq_true, Bool.not_eq_true'] at h
  exact ⟨h.1.1, h.1.2⟩
theorem cstB_ok {d : D} {c : Const} {j : Nat} {pos : Pos} (h : cstB d c = true) : PE X (.Constant c j pos) (lift X.kw B fun _ h Q => Q d h) := by
  have fin : ∀ {v : V}, (∀ H, RD X.kw H d v) → PE X (.Constant c j pos) (tC v) → PE X (.Constant c j pos) (lift X.kw B fun _ h Q => Q d h) := fun {v} r p =>
    PE.imp p fun σ H Q ⟨sd, h, Qd, n, t, k⟩ => k _ _ _ _ t ⟨r H, n.rh, .refl _ _⟩
  cases d with
  | non => cases c <;> first | exact fin (fun _ => .non) pe_non | (exact absurd h Bool.false_ne_true)
  | bl b =>
    cases c with
    | bool b' => have e : b = b' := of_decide_eq_true h; subst e; exact fin (fun _ => .bl b) pe_bl
    | _ => exact absurd h Bool.false_ne_true
  | int i =>
    cases c with
    | int b' => have e : i = b' := of_decide_eq_true h; subst e; exact fin (fun _ => .int i) pe_int
    | _ => exact absurd h Bool.false_ne_true
  | str i =>
    cases c with
    | str b' => have e : i = b' := of_decide_eq_true h; subst e; exact fin (fun _ => .str i) pe_str
    | _ => exact absurd h Bool.false_ne_true
  | _ => exact absurd h Bool.false_ne_true
theorem starEach_cons {e : Expr} {es : List Expr} {env : Env} (h : isStar e = false) : starEach (e :: es) env = (false, eval e env) :: starEach es env := by
  cases e <;> first | rfl | (exact nomatch h)
theorem starEach_no {env : Env} {pos : Pos} : ∀ {es : List Expr}, (es.all fun e => !isStar e) = true → (backTo pos (starEach es env)).any (·.1) = false
  | [], _ => rfl
  | e :: es, h => by
    rw [List.all_cons, Bool.and_eq_true] at h
    rw [starEach_cons (by simpa using h.1)]
    show (false || (backTo pos (starEach es env)).any (·.1)) = false
    rw [starEach_no h.2]; rfl
theorem chk_stars : ∀ (ir : E) (C : CEnv) (xs : List Expr), chk T ir C (.a xs) = true → (xs.all fun e => !isStar e) = true := by
  intro ir
  induction ir with
  | nil => intro C xs h; cases xs with
    | nil => rfl
    | cons x xs => simp [chk] at h
  | cons e es ih1 ih2 =>
    intro C xs h
    cases xs with
    | nil => simp [chk] at h
    | cons x xs =>
      simp only [chk, Bool.and_eq_true] at h
      rw [List.all_cons, h.1.1, ih2 C xs h.2]; rfl
  | _ => intros; simp_all [chk]
theorem slc_plain {y : Expr} (h : isSlc y = false) : PlainIx y := by
  cases y <;> first | (exact fun _ _ => rfl) | (exact nomatch h)
theorem truthB_ok {x : Expr} {env : Env} (h : truthB x = true) : ∀ whole, isTrue x env whole = (do let v ← whole; standAt x.pos; holding [v] (truthy v)) := by
  cases x <;> first | (exact fun _ => rfl) | (exact nomatch h)
theorem set_fold {x : Expr} {env : Env} (h : isSetD x = false) : ∀ v, foldedSetIterable x env v = pure v := by
  cases x <;> first | (exact fun _ => rfl) | (exact nomatch h)
theorem noSup_ok {x : Expr} {m : Str} {env : Env} {t : Sem Value} (h : noSup x = true) : attributeBase x m env t = t := by
  cases x with
  | Call f args kws pos =>
    cases f with
    | Name id p =>
      cases args with
      | nil =>
        cases kws with
        | nil => exact nomatch h
        | cons => rfl
      | cons => rfl
    | _ => rfl
  | _ => rfl
theorem permL_vals {π : List Nat} {vs : List V} {us : List Value} (r : Vals vs us) : Vals (permL π vs) (permL π us) := by
  unfold permL
  induction π with
  | nil => exact .nil
  | cons i π ih =>
    cases e : vs[i]? with
    | none =>
      have e' := r.none_of e
      rw [List.filterMap_cons_none e, List.filterMap_cons_none e']
      exact ih
    | some v =>
      obtain ⟨u, e', q⟩ := r.get e
      rw [List.filterMap_cons_some e, List.filterMap_cons_some e']
      exact .cons q ih
theorem permL_RDs {H : Hp} {π : List Nat} {ds : List D} {vs : List V} (r : RDs K H ds vs) : RDs K H (permL π ds) (permL π vs) := by
  unfold permL
  induction π with
  | nil => exact .nil
  | cons i π ih =>
    cases e : ds[i]? with
    | none =>
      have e' : vs[i]? = none := by
        rw [List.getElem?_eq_none_iff] at e ⊢
        rw [← r.length]; exact e
      rw [List.filterMap_cons_none e, List.filterMap_cons_none e']
      exact ih
    | some v =>
      obtain ⟨u, e', q⟩ := r.get e
      rw [List.filterMap_cons_some e, List.filterMap_cons_some e']
      exact .cons q ih
/-- f(k = v, ..): keywords alone -/
theorem pe_callN0 {kk : Nat} {f : Addr} {fd : FuncData} {ps ks : List Str} {sp : Sp} {E : XK} {x : Str} {p pos : Pos} {kws : List Keyword} {tk : TA} {g : List Value → List Value → List Value} {gV : List V → List V → List V}
    (F : FnOk X.prog X.w X.kw X.mg X.base CX kk f fd ps sp) (hr : Room kk X.A) (hg : Gl X x) (hm : X.mg x = some (.ref f)) (hk : PySem.W.keepIn X.kw (.ref f) = true) (hb : KBn X.kw fd ps 0 ks g gV) (hx : Passes CX X E) (hkw : PK X kws tk)
    (hall : (backToKw pos (keywordEach kws X.env)).all (·.1.isSome) = true) (hks : (backToKw pos (keywordEach kws X.env)).filterMap (·.1) = ks) (hdb : (x == ("__debug__" : Str)) = false)
    (hpl : ((backTo pos (starEach [] X.env)).any (·.1) || (backToKw pos (keywordEach kws X.env)).any (·.1.isNone)) = false) :
    PE X (.Call (.Name x p) [] kws pos) (tCallN 0 ks.length sp gV E tNil tk) := by
  refine ⟨fun pins s σ H Q I h => wpAny_Call_Name_kw (ld_glob I hg hm (PySem.W.callWith_KW0 (h₀ := X.base) I.ok.mod.kin hk hall ?_ hpl) hdb)⟩
  refine thn (hkw.run pos pins s σ H _ I h) fun ws s2 ⟨zs, H2, I2, rz, l1, l2, q2⟩ => ⟨I2.kIn, ?_⟩
  rw [hks]
  exact run_fnN (us := []) (vs := []) F hr hb hx I2 .nil rz rfl l2 q2
theorem kw_facts {env : Env} {pos : Pos} : ∀ {kws : List Keyword} {ks : List Str}, kws.map (·.arg) = ks.map some →
    (backToKw pos (keywordEach kws env)).all (·.1.isSome) = true ∧ (backToKw pos (keywordEach kws env)).filterMap (·.1) = ks ∧ (backToKw pos (keywordEach kws env)).any (·.1.isNone) = false
  | [], [], _ => ⟨rfl, rfl, rfl⟩
  | [], k :: ks, h => by simp at h
  | _ :: _, [], h => by simp at h
  | ⟨nm, e, p⟩ :: kws, k :: ks, h => by
    simp only [List.map_cons, List.cons.injEq] at h
    obtain ⟨rfl, h⟩ := h
    obtain ⟨a, b, c⟩ := kw_facts (env := env) (pos := pos) h
    refine ⟨?_, ?_, ?_⟩
    · show (true && (backToKw pos (keywordEach kws env)).all (·.1.isSome)) = true
      rw [a]; rfl
    · show (k :: (backToKw pos (keywordEach kws env)).filterMap (·.1)) = k :: ks
      rw [b]
    · show (false || (backToKw pos (keywordEach kws env)).any (·.1.isNone)) = false
      rw [c]; rfl
end DL
namespace DL
open PySem PySem.Spec L2
variable {T : Tab} {Φ : Nat → Ct} {CX : CXT} {k : Nat} {B : Bs} {Ed : XD} {C : CEnv} {X : Cx} {K : KW}

/-! ### the readings of the parts, lifted -/
theorem lift_test {ta tb : TEd} {op : CmpOp} {σ : L2.St} {H : Hp} {Q : Bool → Hp → Prop} (q : liftT K B (fun s h Q => ta s h fun x h1 => tb s h1 fun y h2 => rdC op x y h2 Q) σ H Q) :
    tTest (tOp (liftR2 K (rdC op)) (lift K B ta) (lift K B tb)) σ H Q := by
  obtain ⟨sd, h, Qb, n, t, k⟩ := q
  refine lift_bin (rd := rdC op) ⟨sd, h, _, n, t, fun d h' v H' q p => ?_⟩
  obtain ⟨b, rfl, q⟩ := q
  obtain ⟨r, rh, fr⟩ := p
  cases r
  exact ⟨b, rfl, k b h' H' q rh fr⟩
theorem lift_chain {ta tb tc : TEd} {op op' : CmpOp} {σ : L2.St} {H : Hp} {Q : VK} (q : lift K B (fun s h Q => ta s h fun x h1 => tb s h1 fun y h2 => cmpD op x y h2 fun k => if k = true then tc s h2 fun z h3 => cmpD op' y z h3 fun k' => Q (.bl k') h3 else Q (.bl false) h2) σ H Q) :
    tChain (liftR2 K (rdC op)) (liftR2 K (rdC op')) (lift K B ta) (lift K B tb) (lift K B tc) σ H Q := by
  obtain ⟨sd, h, Qd, n, t, k⟩ := q
  refine ⟨sd, h, _, n, t, fun d1 h1 v1 H1 q1 p1 => ⟨sd, h1, _, n.after p1.rh p1.fr, q1, fun d2 h2 v2 H2 q2 p2 => ?_⟩⟩
  refine ⟨d1, d2, h2, fun d h' => h' = h2 ∧ ∃ b, d = .bl b ∧ (if b = true then tc sd h2 fun z h3 => cmpD op' d2 z h3 fun k' => Qd (.bl k') h3 else Qd (.bl false) h2), p1.rd.mono (Frm.tm p1.rh p2.fr), p2.rd, p2.rh, ?_, ?_⟩
  · have e : (fun kk : Bool => (h2 = h2 ∧ ∃ b, D.bl kk = .bl b ∧ (if b = true then tc sd h2 fun z h3 => cmpD op' d2 z h3 fun k' => Qd (.bl k') h3 else Qd (.bl false) h2))) =
        fun kk => if kk = true then tc sd h2 fun z h3 => cmpD op' d2 z h3 fun k' => Qd (.bl k') h3 else Qd (.bl false) h2 := by
      funext kk
      apply propext
      constructor
      · rintro ⟨_, b, e, q⟩; cases e; exact q
      · intro q; exact ⟨rfl, kk, rfl, q⟩
    show cmpD op d1 d2 h2 _
    rw [e]
    exact q2
  · rintro d h' v H' ⟨rfl, b, rfl, q⟩ p
    obtain ⟨r, rh, fr⟩ := p
    cases r
    refine ⟨b, rfl, ?_⟩
    have n2 := (n.after p1.rh p1.fr).after p2.rh p2.fr
    have n3 := n2.after rh fr
    cases b with
    | false => exact k _ _ _ _ q ⟨.bl _, rh, (p1.fr.trans p2.fr).trans fr⟩
    | true =>
      refine ⟨sd, h', _, n3, q, fun d3 h3 v3 H3 q3 p3 => ⟨d2, d3, h3, Qd, (p2.rd.mono (Frm.tm p2.rh fr)).mono (Frm.tm rh p3.fr), p3.rd, p3.rh, q3, fun d h' v H' q p => k _ _ _ _ q ⟨p.rd, p.rh, (((p1.fr.trans p2.fr).trans fr).trans p3.fr).trans p.fr⟩⟩⟩
theorem lift_chainT {ta tb tc : TEd} {op op' : CmpOp} {σ : L2.St} {H : Hp} {Q : Bool → Hp → Prop} (q : liftT K B (fun s h Q => ta s h fun x h1 => tb s h1 fun y h2 => cmpD op x y h2 fun k => if k = true then tc s h2 fun z h3 => cmpD op' y z h3 fun k' => Q (.bl k') h3 else Q (.bl false) h2) σ H Q) :
    tTest (tChain (liftR2 K (rdC op)) (liftR2 K (rdC op')) (lift K B ta) (lift K B tb) (lift K B tc)) σ H Q := by
  obtain ⟨sd, h, Qb, n, t, k⟩ := q
  refine lift_chain ⟨sd, h, fun d h' => ∃ b, d = D.bl b ∧ Qb b h', n, t, fun d h' v H' q p => ?_⟩
  obtain ⟨b, rfl, q⟩ := q
  obtain ⟨r, rh, fr⟩ := p
  cases r
  exact ⟨b, rfl, k b h' H' q rh fr⟩
theorem lift_truth {ta : TEd} {σ : L2.St} {H : Hp} {Q : Bool → Hp → Prop} (q : liftT K B (fun s h Q => ta s h fun x h1 => truD x h1 fun k => Q (.bl k) h1) σ H Q) :
    lift K B ta σ H fun x H' => ∃ k, TruV K x H' k ∧ Q k H' := by
  obtain ⟨sd, h, Qb, n, t, k⟩ := q
  refine ⟨sd, h, _, n, t, fun d h' v H' q p => ?_⟩
  obtain ⟨b, tv, b', e, q⟩ := tru_of p.rh p.rd q
  cases e
  exact ⟨b, tv, k b h' H' q p.rh p.fr⟩
theorem lift_notT {ta : TEd} {σ : L2.St} {H : Hp} {Q : Bool → Hp → Prop} (q : liftT K B (fun s h Q => ta s h fun x h1 => ∃ k, x = .bl k ∧ Q (.bl (!k)) h1) σ H Q) : tNot (liftT K B ta) σ H Q := by
  obtain ⟨sd, h, Qb, n, t, k⟩ := q
  refine ⟨sd, h, _, n, t, fun b h' H' q rh fr => ?_⟩
  obtain ⟨b', e, q⟩ := q
  cases e
  exact k _ h' H' q rh fr
theorem lift_andT {ta tb : TEd} {σ : L2.St} {H : Hp} {Q : Bool → Hp → Prop} (q : liftT K B (fun s h Q => ta s h fun x h1 => ∃ k, x = .bl k ∧ if k = true then tb s h1 Q else Q (.bl false) h1) σ H Q) : tAnd (liftT K B ta) (liftT K B tb) σ H Q := by
  obtain ⟨sd, h, Qb, n, t, k⟩ := q
  refine ⟨sd, h, _, n, t, fun b h' H' q rh fr => ?_⟩
  cases b with
  | true => exact ⟨sd, h', Qb, n.after rh fr, q, fun b h2 H2 q rh2 fr2 => k b h2 H2 q rh2 (fr.trans fr2)⟩
  | false =>
    obtain ⟨b', e, q⟩ := q
    cases e
    exact k _ h' H' q rh fr
theorem lift_orT {ta tb : TEd} {σ : L2.St} {H : Hp} {Q : Bool → Hp → Prop} (q : liftT K B (fun s h Q => ta s h fun x h1 => ∃ k, x = .bl k ∧ if k = true then Q (.bl true) h1 else tb s h1 Q) σ H Q) : tOr (liftT K B ta) (liftT K B tb) σ H Q := by
  obtain ⟨sd, h, Qb, n, t, k⟩ := q
  refine ⟨sd, h, _, n, t, fun b h' H' q rh fr => ?_⟩
  cases b with
  | false => exact ⟨sd, h', Qb, n.after rh fr, q, fun b h2 H2 q rh2 fr2 => k b h2 H2 q rh2 (fr.trans fr2)⟩
  | true =>
    obtain ⟨b', e, q⟩ := q
    cases e
    exact k _ h' H' q rh fr
theorem lift_notV {ta : TEd} {σ : L2.St} {H : Hp} {Q : VK} (q : lift K B (fun s h Q => ta s h fun x h1 => truD x h1 fun k => Q (.bl (!k)) h1) σ H Q) : tNotT K (lift K B ta) σ H Q := by
  obtain ⟨sd, h, Qd, n, t, k⟩ := q
  refine ⟨sd, h, _, n, t, fun d h' v H' q p => ?_⟩
  obtain ⟨b, tv, q⟩ := tru_of p.rh p.rd q
  exact ⟨b, tv, k _ _ _ _ q ⟨.bl _, p.rh, p.fr⟩⟩
theorem lift_andV {ta tb : TEd} {σ : L2.St} {H : Hp} {Q : VK} (q : lift K B (fun s h Q => ta s h fun x h1 => truD x h1 fun k => if k = true then tb s h1 Q else Q x h1) σ H Q) : tAndT K (lift K B ta) (lift K B tb) σ H Q := by
  obtain ⟨sd, h, Qd, n, t, k⟩ := q
  refine ⟨sd, h, _, n, t, fun d h' v H' q p => ?_⟩
  obtain ⟨b, tv, q⟩ := tru_of p.rh p.rd q
  refine ⟨b, tv, ?_⟩
  cases b with
  | true => exact ⟨sd, h', Qd, n.after p.rh p.fr, q, fun d2 h2 v2 H2 q p2 => k _ _ _ _ q ⟨p2.rd, p2.rh, p.fr.trans p2.fr⟩⟩
  | false => exact k _ _ _ _ q p
theorem lift_orV {ta tb : TEd} {σ : L2.St} {H : Hp} {Q : VK} (q : lift K B (fun s h Q => ta s h fun x h1 => truD x h1 fun k => if k = true then Q x h1 else tb s h1 Q) σ H Q) : tOrT K (lift K B ta) (lift K B tb) σ H Q := by
  obtain ⟨sd, h, Qd, n, t, k⟩ := q
  refine ⟨sd, h, _, n, t, fun d h' v H' q p => ?_⟩
  obtain ⟨b, tv, q⟩ := tru_of p.rh p.rd q
  refine ⟨b, tv, ?_⟩
  cases b with
  | false => exact ⟨sd, h', Qd, n.after p.rh p.fr, q, fun d2 h2 v2 H2 q p2 => k _ _ _ _ q ⟨p2.rd, p2.rh, p.fr.trans p2.fr⟩⟩
  | true => exact k _ _ _ _ q p
theorem lift_ife {tc ta tb : TEd} {σ : L2.St} {H : Hp} {Q : VK} (q : lift K B (fun s h Q => tc s h fun x h1 => ∃ k, x = .bl k ∧ if k = true then ta s h1 Q else tb s h1 Q) σ H Q) : tIf (liftT K B tc) (lift K B ta) (lift K B tb) σ H Q := by
  obtain ⟨sd, h, Qd, n, t, k⟩ := q
  refine ⟨sd, h, _, n, t, fun b h' H' q rh fr => ?_⟩
  cases b with
  | true => exact ⟨sd, h', Qd, n.after rh fr, q, fun d2 h2 v2 H2 q p2 => k _ _ _ _ q ⟨p2.rd, p2.rh, fr.trans p2.fr⟩⟩
  | false => exact ⟨sd, h', Qd, n.after rh fr, q, fun d2 h2 v2 H2 q p2 => k _ _ _ _ q ⟨p2.rd, p2.rh, fr.trans p2.fr⟩⟩
theorem lift_tup {ta : TEd} {σ : L2.St} {H : Hp} {Q : VK} (q : lift K B (fun s h Q => ta s h fun x h1 => ∃ ds, x = .tup ds ∧ ds.length ≤ sizeLine ∧ Q (.tup ds) h1) σ H Q) : tTup (liftA K B ta) σ H Q := by
  obtain ⟨sd, h, Qd, n, t, k⟩ := q
  refine ⟨sd, h, _, n, t, fun ds h1 vs H1 q r rh fr => ?_⟩
  obtain ⟨es, e, hz, q⟩ := q
  cases e
  exact ⟨by rw [← r.length]; exact hz, fun p np => k _ _ _ _ q ⟨.newT np r, rh.newT np, fr.trans (.newT np)⟩⟩
theorem lift_lst {ta : TEd} {σ : L2.St} {H : Hp} {Q : VK} (q : lift K B (fun s h Q => ta s h fun x h1 => ∃ ds, x = .tup ds ∧ ds.length ≤ sizeLine ∧ newL h1 ds Q) σ H Q) : tLst (liftA K B ta) σ H Q := by
  obtain ⟨sd, h, Qd, n, t, k⟩ := q
  refine ⟨sd, h, _, n, t, fun ds h1 vs H1 q r rh fr => ?_⟩
  obtain ⟨es, e, hz, q⟩ := q
  cases e
  exact ⟨by rw [← r.length]; exact hz, fun p np => k _ _ _ _ (q p (rh.free np)) ⟨.ref p, rh.lstNew np r, fr.trans (.new np)⟩⟩
theorem lift_cons {ta tb : TEd} {σ : L2.St} {H : Hp} {Q : List V → Hp → Prop} (q : liftA K B (fun s h Q => ta s h fun x h1 => tb s h1 fun y h2 => ∃ ds, y = .tup ds ∧ Q (.tup (x :: ds)) h2) σ H Q) : tCons (lift K B ta) (liftA K B tb) σ H Q := by
  obtain ⟨sd, h, Qd, n, t, k⟩ := q
  refine ⟨sd, h, _, n, t, fun d h1 v H1 q p => ⟨sd, h1, _, n.after p.rh p.fr, q, fun ds h2 vs H2 q2 r rh fr => ?_⟩⟩
  obtain ⟨es, e, q2⟩ := q2
  cases e
  exact k _ _ _ _ q2 (.cons (p.rd.mono (Frm.tm p.rh fr)) r) rh (p.fr.trans fr)
theorem lift_nil {σ : L2.St} {H : Hp} {Q : List V → Hp → Prop} (q : liftA K B (fun _ h Q => Q (.tup []) h) σ H Q) : tNil σ H Q := by
  obtain ⟨sd, h, Qd, n, t, k⟩ := q
  exact k _ _ _ _ t .nil n.rh (.refl _ _)
/-- a slice's part -/
def liftO (K : KW) (B : Bs) (b : Bool) (t : TEd) : TO := fun σ H Q => ∃ sd h, ∃ Qd : Option Int → DH → Prop, Now K B sd h σ H ∧ (t sd h fun z h' => partD b z fun o => Qd o h') ∧ ∀ o h' H', Qd o h' → RH K H' h' → Frm h H h' H' → Q o H'
theorem PO.imp {e : Option Expr} {t t' : TO} (h : PO X e t) (k : ∀ σ H Q, t' σ H Q → t σ H Q) : PO X e t' := ⟨fun pins s σ H Q I q => h.run pins s σ H Q I (k σ H Q q)⟩
theorem po_lift {e : Expr} {t : TEd} (h : PE X e (lift X.kw B t)) : PO X (some e) (liftO X.kw B true t) := PO.imp (po_some h) fun σ H Q ⟨sd, hh, Qd, n, q, k⟩ => by
  refine ⟨sd, hh, _, n, q, fun d h' v H' q p => ?_⟩
  cases d with
  | int i =>
    obtain ⟨r, rh, fr⟩ := p
    cases r
    exact ⟨i, rfl, k _ _ _ q rh fr⟩
  | _ => exact q.elim
theorem po_abs : PO X none (liftO X.kw B false fun _ h Q => Q .non h) := PO.imp po_none fun σ H Q ⟨sd, hh, Qd, n, q, k⟩ => k _ _ _ q n.rh (.refl _ _)
theorem lift_slice {ta tl tu : TEd} {bl bh : Bool} {σ : L2.St} {H : Hp} {Q : VK} (q : lift K B (fun s h Q => ta s h fun x h1 => tl s h1 fun y h2 => partD bl y fun l => tu s h2 fun z h3 => partD bh z fun u => sliceD x l u h3 Q) σ H Q) :
    tSl (fun x lo hi H Q => liftR1 K (fun d h Q => sliceD d lo hi h Q) x H Q) (lift K B ta) (liftO K B bl tl) (liftO K B bh tu) σ H Q := by
  obtain ⟨sd, h, Qd, n, t, k⟩ := q
  refine ⟨sd, h, _, n, t, fun d h1 v H1 q p => ?_⟩
  have n1 := n.after p.rh p.fr
  refine ⟨sd, h1, _, n1, q, fun o h2 H2 q2 rh2 fr2 => ?_⟩
  have n2 := n1.after rh2 fr2
  refine ⟨sd, h2, _, n2, q2, fun u h3 H3 q3 rh3 fr3 => ?_⟩
  exact ⟨d, h3, Qd, (p.rd.mono (Frm.tm p.rh fr2)).mono (Frm.tm rh2 fr3), rh3, q3, fun d' h' v' H' q' p' => k _ _ _ _ q' ⟨p'.rd, p'.rh, ((p.fr.trans fr2).trans fr3).trans p'.fr⟩⟩
theorem lift_rev {ta : TEd} {σ : L2.St} {H : Hp} {Q : VK} (q : lift K B (fun s h Q => ta s h fun x h1 => revD x h1 Q) σ H Q) : tRevT K (lift K B ta) σ H Q := by
  obtain ⟨sd, h, Qd, n, t, k⟩ := q
  refine ⟨sd, h, _, n, t, fun d h1 v H1 q p => ?_⟩
  obtain ⟨r, rh, fr⟩ := p
  cases d with
  | tup xs =>
    cases r with | tup s1 q1 =>
    exact ⟨_, _, rfl, .inr ⟨s1, fun p np => k _ _ _ _ q ⟨.newT np q1.reverse, rh.newT np, fr.trans (.newT np)⟩⟩⟩
  | rl xs =>
    cases r with | rl s1 q1 =>
    exact ⟨_, _, rfl, .inl ⟨s1.sq, fun p np => k _ _ _ _ (q p (rh.free np)) ⟨.ref p, rh.lstNew np q1.reverse, fr.trans (.new np)⟩⟩⟩
  | ref p =>
    cases r
    obtain ⟨xs, l, q⟩ := q
    obtain ⟨vs, s1, q1⟩ := rh.sq l
    exact ⟨_, _, rfl, .inl ⟨s1, fun p np => k _ _ _ _ (q p (rh.free np)) ⟨.ref p, rh.lstNew np q1.reverse, fr.trans (.new np)⟩⟩⟩
  | _ => exact q.elim
theorem lift_blt {ta : TEd} {rd : RdC} {σ : L2.St} {H : Hp} {Q : VK} (q : lift K B (fun s h Q => ta s h fun x h1 => ∃ ds, x = .tup ds ∧ rd ds h1 Q) σ H Q) : tCB (liftC K rd) (liftA K B ta) σ H Q := by
  obtain ⟨sd, h, Qd, n, t, k⟩ := q
  refine ⟨sd, h, _, n, t, fun ds h1 vs H1 q r rh fr => ?_⟩
  obtain ⟨es, e, q⟩ := q
  cases e
  exact ⟨ds, h1, Qd, r, rh, q, fun d h' v H' q p => k _ _ _ _ q ⟨p.rd, p.rh, fr.trans p.fr⟩⟩
theorem lift_mth {m : Mth} {to ta : TEd} {TT : String} {rd : RdM} {σ : L2.St} {H : Hp} {Q : VK} (hT : ∀ d h v H, mthT m d h → RD K H d v → RH K H h → tyV K TT v H) (q : lift K B (fun s h Q => to s h fun x h1 => mthT m x h1 ∧ ta s h1 fun y h2 => ∃ ds, y = .tup ds ∧ rd x ds h2 Q) σ H Q) :
    tBM K TT (liftM K TT rd) (lift K B to) (liftA K B ta) σ H Q := by
  obtain ⟨sd, h, Qd, n, t, k⟩ := q
  refine ⟨sd, h, _, n, t, fun d h1 v H1 q p => ⟨hT _ _ _ _ q.1 p.rd p.rh, sd, h1, _, n.after p.rh p.fr, q.2, fun ds h2 vs H2 q2 r rh fr => ?_⟩⟩
  obtain ⟨es, e, q2⟩ := q2
  cases e
  exact ⟨d, ds, h2, Qd, p.rd.mono (Frm.tm p.rh fr), r, rh, q2, fun d' h' v H' q p' => k _ _ _ _ q ⟨p'.rd, p'.rh, (p.fr.trans fr).trans p'.fr⟩⟩
theorem lift_mth0 {m : Mth} {to : TEd} {TT : String} {rd : RdM} {σ : L2.St} {H : Hp} {Q : VK} (hT : ∀ d h v H, mthT m d h → RD K H d v → RH K H h → tyV K TT v H) (q : lift K B (fun s h Q => to s h fun x h1 => mthT m x h1 ∧ ∃ ds, D.tup [] = .tup ds ∧ rd x ds h1 Q) σ H Q) :
    tBM0 K TT (liftM K TT rd) (lift K B to) σ H Q := by
  obtain ⟨sd, h, Qd, n, t, k⟩ := q
  refine ⟨sd, h, _, n, t, fun d h1 v H1 q p => ⟨hT _ _ _ _ q.1 p.rd p.rh, ?_⟩⟩
  obtain ⟨es, e, q2⟩ := q.2
  cases e
  exact ⟨d, [], h1, Qd, p.rd, .nil, p.rh, q2, fun d' h' v H' q p' => k _ _ _ _ q ⟨p'.rd, p'.rh, p.fr.trans p'.fr⟩⟩
/-- a method of a dict -/
def tDM (r : V → List V → Hp → VK → Prop) (to : TE) (t : TA) : TE := fun σ H Q => to σ H fun x H1 => (∃ p o, x = V.ref p ∧ H1 p = some (PinO p o) ∧ o.ExactDict) ∧ t σ H1 fun vs H2 => r x vs H2 Q
theorem pe_dm {id : String} {name : Str} {r : V → List V → Hp → VK → Prop} {o e : Expr} {es : List Expr} {to : TE} {t : TA} {apos cpos : Pos} (slot : Slot "dict" name id) (hty : typeOf (.builtin id) = pure (.type "method_descriptor")) (hm : MtR X id r) (ho : PE X o to) (ha : PA X (e :: es) t)
    (hbase : attributeBase o name X.env (eval o X.env) = eval o X.env)
    (hfew : ((backTo cpos (starEach (e :: es) X.env)).all (fun x => !x.1) && (backToKw cpos (keywordEach [] X.env)).all (fun x => x.1.isSome)
      && decide ((e :: es).length + ([] : List Keyword).length + (if ([] : List Keyword).isEmpty then 0 else 1) < 30)) = true)
    (hline : (apos.endLine == cpos.line) = true) (hs : starEach (e :: es) X.env = (false, eval e X.env) :: starEach es X.env) (hplain : (backTo cpos (starEach es X.env)).any (·.1) = false) :
    PE X (.Call (.Attribute o name apos) (e :: es) [] cpos) (tDM r to t) := by
  refine ⟨fun pins s σ H Q I h => wpAny_Call_method_late hbase hfew hline rfl (thn (ho.run pins s σ H _ I h) fun v s1 ⟨x, H1, I1, r1, ⟨p, ob, ex, eo, xd⟩, q1⟩ => ?_)⟩
  subst ex
  cases (show v = Value.ref p from r1)
  have go := dct_obj I1 eo
  refine ⟨"dict", id, PySem.F.plainAttrs_dict, slot, hty, ⟨ob, go, xd.1⟩, (fun a z => by cases z; exact ⟨ob, go, xd.2.1⟩), ?_⟩
  have hA := ha.run cpos pins s1 σ H1 _ I1 q1
  rw [hs] at hA ⊢
  exact Calls.callWith_builtin (by show (false || (backTo cpos (starEach es X.env)).any (·.1)) = false; rw [hplain]; rfl) (Calls.evalArgs_plain (thn hA fun us s2 ⟨vs, H2, I2, r2, q2⟩ => hm pins s2 σ H2 (.ref p) vs (.ref p) us Q I2 rfl r2 q2))
theorem lift_dm {m : Mth} {to ta : TEd} {rd : RdM} {σ : L2.St} {H : Hp} {Q : VK} (hT : ∀ d h, mthT m d h → ∃ b kvs, DctAt h d b kvs) (q : lift K B (fun s h Q => to s h fun x h1 => mthT m x h1 ∧ ta s h1 fun y h2 => ∃ ds, y = .tup ds ∧ rd x ds h2 Q) σ H Q) :
    tDM (liftM K "dict" rd) (lift K B to) (liftA K B ta) σ H Q := by
  obtain ⟨sd, h, Qd, n, t, k⟩ := q
  refine ⟨sd, h, _, n, t, fun d h1 v H1 q p => ⟨?_, sd, h1, _, n.after p.rh p.fr, q.2, fun ds h2 vs H2 q2 r rh fr => ?_⟩⟩
  · obtain ⟨b, kvs, a, o, rfl, e⟩ := hT _ _ q.1
    obtain ⟨rd, rh, _⟩ := p
    cases rd
    exact ⟨a, o, rfl, (rh _ _ e).1, (rh _ _ e).2.exact_⟩
  · obtain ⟨es, e, q2⟩ := q2
    cases e
    exact ⟨d, ds, h2, Qd, p.rd.mono (Frm.tm p.rh fr), r, rh, q2, fun d' h' v' H' q p' => k _ _ _ _ q ⟨p'.rd, p'.rh, (p.fr.trans fr).trans p'.fr⟩⟩
/-- {} -/
theorem pe_dnewD {b : Bool} {pos : Pos} : PE X (.Dict [] [] pos) (lift X.kw B fun _ h Q => dnewD b h Q) := ⟨fun pins s σ H Q I ⟨sd, h, Qd, n, t, k⟩ => by
  have np : H s.heap.objs.size = none := I.hok.fresh (Nat.le_refl _)
  have ho : (s.heap.push { cls := .type "dict", data := .dict #[] }).get? s.heap.objs.size = some { cls := .type "dict", data := .dict #[] } := Heap.get?_push_size _ rfl
  refine wpAny_Dict_empty ⟨.ref s.heap.objs.size, upd H s.heap.objs.size (PinO s.heap.objs.size { cls := .type "dict", data := .dict #[] }), I.laid (a := s.heap.objs.size) (t' := s.toks) (fun _ _ q => Heap.get?_push_of_some _ q) (Nat.le_refl _) ⟨ho, ⟨_, ho⟩, fun _ _ q k => k _ q⟩, rfl, ?_⟩
  refine k _ _ _ _ (t _ { cls := .type "dict", data := .dict #[] } (n.rh.free np)) ⟨.ref _, n.rh.new np ⟨upd_same, ⟨beq_eq_false_iff_ne.mpr (Ne.symm (Nat.ne_of_lt I.big)), ⟨rfl, rfl, rfl⟩, Nat.zero_le _, ⟨#[], 0, rfl, .nil⟩, List.nodup_nil⟩⟩, .new np⟩⟩
theorem mthT_list {m : Mth} (hm : m ≠ .get) {d : D} {h : DH} {v : V} {H : Hp} (q : mthT m d h) (r : RD K H d v) (rh : RH K H h) : tyV K "list" v H := by
  have : ∃ p xs, d = .ref p ∧ LR h p xs := by cases m <;> first | exact q | exact absurd rfl hm
  obtain ⟨p, xs, rfl, l⟩ := this
  cases r
  obtain ⟨vs, s, _⟩ := rh.sq l
  exact .inl ⟨rfl, _, s⟩
theorem lift_isi {ta : TEd} {t : Ty} (ht : t ≠ .none) {σ : L2.St} {H : Hp} {Q : VK} (q : lift K B (fun s h Q => ta s h fun x h1 => tyD x h1 fun u => Q (.bl (isiB u t)) h1) σ H Q) : tCB (rIsi K) (tCons (lift K B ta) (tCons (tC (.ty (tyNm t))) tNil)) σ H Q := by
  obtain ⟨sd, h, Qd, n, tt, k⟩ := q
  refine ⟨sd, h, _, n, tt, fun d h1 v H1 q p => ?_⟩
  obtain ⟨u, ty, q⟩ := tyD_X p.rh p.rd q
  exact ⟨v, .ty (tyNm t), _, _, _, rfl, .ty _, ty, kit_ty (kit_all u t ht), k _ _ _ _ q ⟨.bl _, p.rh, p.fr⟩⟩
theorem lift_call {ta : TEd} {f : Nat} {σ : L2.St} {H : Hp} {Q : VK} (q : lift K B (fun s h Q => ta s h fun x h1 => ∃ ds, x = .tup ds ∧ Φ f ds h1 Q Ed) σ H Q) : tCall (liftSp K (Φ f)) [] (liftX K B Ed) (liftA K B ta) σ H Q := by
  obtain ⟨sd, h, Qd, n, t, k⟩ := q
  refine ⟨sd, h, _, n, t, fun ds h1 vs H1 q r rh fr => ?_⟩
  obtain ⟨es, e, q⟩ := q
  cases e
  rw [List.append_nil]
  exact ⟨ds, h1, Qd, Ed, r, rh, q, fun d h' v H' q p => k _ _ _ _ q ⟨p.rd, p.rh, fr.trans p.fr⟩, fun c od h' H' q rh' fr' => ⟨h', q, rh', (n.fr.trans fr).trans fr'⟩⟩
theorem lift_call0 {f : Nat} {σ : L2.St} {H : Hp} {Q : VK} (q : lift K B (fun s h Q => ∃ ds, D.tup [] = .tup ds ∧ Φ f ds h Q Ed) σ H Q) : tCall (liftSp K (Φ f)) [] (liftX K B Ed) tNil σ H Q := by
  obtain ⟨sd, h, Qd, n, ⟨ds, e, q⟩, k⟩ := q
  cases e
  exact ⟨[], h, Qd, Ed, .nil, n.rh, q, k, fun c od h' H' q rh' fr' => ⟨h', q, rh', n.fr.trans fr'⟩⟩
theorem lift_callK {ta tk : TEd} {f m : Nat} {ks : List Str} {π : List Nat} {σ : L2.St} {H : Hp} {Q : VK}
    (q : lift K B (fun s h Q => ta s h fun x h1 => tk s h1 fun y h2 => ∃ ds zs, x = .tup ds ∧ y = .tup zs ∧ (ds.length = m ∧ zs.length = ks.length) ∧ Φ f (permL π (ds ++ zs)) h2 Q Ed) σ H Q) :
    tCallN m ks.length (liftSp K (Φ f)) (fun vs zs => permL π (vs ++ zs)) (liftX K B Ed) (liftA K B ta) (liftA K B tk) σ H Q := by
  obtain ⟨sd, h, Qd, n, t, k⟩ := q
  refine ⟨sd, h, _, n, t, fun ds h1 vs H1 q r rh fr => ⟨sd, h1, _, n.after rh fr, q, fun zs h2 ws H2 q2 r2 rh2 fr2 => ?_⟩⟩
  obtain ⟨es, fs, e, e', ⟨l1, l2⟩, q2⟩ := q2
  cases e; cases e'
  exact ⟨by rw [← r.length]; exact l1, by rw [← r2.length]; exact l2, permL π (ds ++ zs), h2, Qd, Ed, permL_RDs ((r.mono (Frm.tm rh fr2)).append r2), rh2, q2,
    fun d h' v H' q p => k _ _ _ _ q ⟨p.rd, p.rh, (fr.trans fr2).trans p.fr⟩, fun c od h' H' q rh' fr' => ⟨h', q, rh', ((n.fr.trans fr).trans fr2).trans fr'⟩⟩
theorem lift_callK0 {tk : TEd} {f : Nat} {ks : List Str} {π : List Nat} {σ : L2.St} {H : Hp} {Q : VK}
    (q : lift K B (fun s h Q => tk s h fun y h2 => ∃ ds zs, D.tup [] = .tup ds ∧ y = .tup zs ∧ (ds.length = 0 ∧ zs.length = ks.length) ∧ Φ f (permL π (ds ++ zs)) h2 Q Ed) σ H Q) :
    tCallN 0 ks.length (liftSp K (Φ f)) (fun vs zs => permL π (vs ++ zs)) (liftX K B Ed) tNil (liftA K B tk) σ H Q := by
  obtain ⟨sd, h, Qd, n, t, k⟩ := q
  refine ⟨sd, h, _, n, t, fun zs h2 ws H2 q2 r2 rh2 fr2 => ?_⟩
  obtain ⟨es, fs, e, e', ⟨l1, l2⟩, q2⟩ := q2
  cases e; cases e'
  exact ⟨rfl, by rw [← r2.length]; exact l2, permL π ([] ++ zs), h2, Qd, Ed, permL_RDs (RDs.append .nil r2), rh2, q2,
    fun d h' v H' q p => k _ _ _ _ q ⟨p.rd, p.rh, fr2.trans p.fr⟩, fun c od h' H' q rh' fr' => ⟨h', q, rh', (n.fr.trans fr2).trans fr'⟩⟩
end DL
namespace DL
open PySem PySem.Spec L2
variable {T : Tab} {Φ : Nat → Ct} {CX : CXT} {k : Nat} {B : Bs} {Ed : XD} {C : CEnv} {X : Cx} {K : KW}

/-! ### targets -/
def liftG (K : KW) (B : Bs) (t : DL.T) : TG := fun v σ H Q => ∃ d sd h sd', RD K H d v ∧ Now K B sd h σ H ∧ bindT t d sd = some sd' ∧
  ∀ σ', Now K B sd' h σ' H → (∀ vs : List Nat, (∀ i ∈ tSlots t, i ∈ vs) → L2.wipe σ' vs = L2.wipe σ vs) → Q σ' H
def liftGs (K : KW) (B : Bs) (t : DL.T) : TGs := fun vs σ H Q => ∃ ds sd h sd', RDs K H ds vs ∧ Now K B sd h σ H ∧ bindT t (.tup ds) sd = some sd' ∧
  ∀ σ', Now K B sd' h σ' H → (∀ vs : List Nat, (∀ i ∈ tSlots t, i ∈ vs) → L2.wipe σ' vs = L2.wipe σ vs) → Q σ' H
theorem PG.imp {e : Expr} {t t' : TG} (h : PG X e t) (k : ∀ v σ H Q, t' v σ H Q → t v σ H Q) : PG X e t' := ⟨fun pins s σ H v u Q I r q => h.run pins s σ H v u Q I r (k v σ H Q q)⟩
theorem PGs.imp {e : List Expr} {t t' : TGs} (h : PGs X e t) (k : ∀ v σ H Q, t' v σ H Q → t v σ H Q) : PGs X e t' := ⟨fun pins s σ H v u Q I r q => h.run pins s σ H v u Q I r (k v σ H Q q)⟩
theorem assignEach_cons {e : Expr} {es : List Expr} {env : Env} (h : isStar e = false) : assignEach (e :: es) env = (false, assign e env) :: assignEach es env := by
  cases e <;> first | rfl | (exact nomatch h)
theorem assign_facts {env : Env} : ∀ {t : DL.T} {C : CEnv} {es : List Expr}, chkT t C es true = true → (assignEach es env).length = es.length ∧ (assignEach es env).findIdx? (·.1) = none := by
  intro t
  induction t with
  | nil => intro C es h; cases es with
    | nil => exact ⟨rfl, rfl⟩
    | cons => exact nomatch h
  | cons t ts _ ih =>
    intro C es h
    cases es with
    | nil => exact nomatch h
    | cons e es =>
      simp only [chkT, Bool.and_eq_true, Bool.not_eq_true'] at h
      obtain ⟨a, b⟩ := ih h.2
      rw [assignEach_cons h.1.1]
      refine ⟨by simp [a], ?_⟩
      rw [List.findIdx?_cons]
      simp [b]
  | name i => intro C es h; exact nomatch h
  | tup ts => intro C es h; exact nomatch h
theorem bindT_len : ∀ (t : DL.T) {C : CEnv} {es : List Expr} {ds : List D} {sd sd' : DSt}, chkT t C es true = true → bindT t (.tup ds) sd = some sd' → ds.length = es.length := by
  intro t
  induction t with
  | nil =>
    intro C es ds sd sd' h e
    cases es with
    | nil =>
      cases ds with
      | nil => rfl
      | cons => simp [bindT] at e
    | cons => exact nomatch h
  | cons t ts _ ih =>
    intro C es ds sd sd' h e
    cases es with
    | nil => exact nomatch h
    | cons x xs =>
      simp only [chkT, Bool.and_eq_true, Bool.not_eq_true'] at h
      cases ds with
      | nil => simp [bindT] at e
      | cons d ds =>
        simp only [bindT] at e
        cases e1 : bindT t d sd with
        | none => rw [e1] at e; cases e
        | some s1 => rw [e1] at e; simp [ih h.2 e]
  | name i => intro C es ds sd sd' h e; exact nomatch h
  | tup ts => intro C es ds sd sd' h e; exact nomatch h
theorem chkT_ok (o : XOk T Φ CX k B Ed C X) : ∀ (t : DL.T) (es : List Expr) (b : Bool), chkT t C es b = true →
    (b = false → ∀ e, es = [e] → PG X e (liftG X.kw B t)) ∧ (b = true → PGs X es (liftGs X.kw B t)) := by
  intro t
  induction t with
  | name i =>
    intro es b h
    cases b with
    | true => exact nomatch h
    | false =>
      refine ⟨fun _ e he => ?_, (fun z => nomatch z)⟩
      subst he
      cases e with
      | Name x p =>
        simp only [chkT, Bool.and_eq_true] at h
        have e1 : C.N[i]? = some x := of_decide_eq_true h.1
        obtain ⟨l1, l2⟩ := o.loc h.2
        refine PG.imp (pg_name (by rw [o.N]; exact o.nd) (by rw [o.N]; exact e1) l1 l2) fun v σ H Q ⟨d, sd, hh, sd', r, n, e, q⟩ => ?_
        simp only [bindT, Option.some.injEq] at e
        subst e
        exact q _ ⟨n.rs.set r, n.rh, n.fr⟩ fun vs hv => wipe_set (hv i List.mem_cons_self)
      | _ => exact nomatch h
  | tup ts ih =>
    intro es b h
    cases b with
    | true => exact nomatch h
    | false =>
      refine ⟨fun _ e he => ?_, (fun z => nomatch z)⟩
      subst he
      cases e with
      | Tuple xs kk p =>
        simp only [chkT] at h
        obtain ⟨f1, f2⟩ := assign_facts (env := X.env) h
        refine PG.imp (pg_tup o.calm ((ih xs true h).2 rfl) f1 f2) fun v σ H Q ⟨d, sd, hh, sd', r, n, e, q⟩ => ?_
        cases d with
        | tup ds =>
          cases r with | tup s r =>
          simp only [bindT] at e
          exact ⟨_, _, rfl, s, by rw [← r.length]; exact bindT_len ts h e, ds, sd, hh, sd', r, n, e, q⟩
        | _ => simp [bindT] at e
      | _ => exact nomatch h
  | nil =>
    intro es b h
    cases b with
    | false => exact nomatch h
    | true =>
      refine ⟨(fun z => nomatch z), fun _ => ?_⟩
      cases es with
      | nil =>
        refine PGs.imp pgs_nil fun v σ H Q ⟨ds, sd, hh, sd', r, n, e, q⟩ => ?_
        cases ds with
        | nil =>
          cases r
          simp only [bindT, Option.some.injEq] at e
          subst e
          exact ⟨rfl, q _ n fun _ _ => rfl⟩
        | cons => simp [bindT] at e
      | cons => exact nomatch h
  | cons t ts ih1 ih2 =>
    intro es b h
    cases b with
    | false => exact nomatch h
    | true =>
      refine ⟨(fun z => nomatch z), fun _ => ?_⟩
      cases es with
      | nil => exact nomatch h
      | cons x xs =>
        simp only [chkT, Bool.and_eq_true, Bool.not_eq_true'] at h
        have hs : (assignEach (x :: xs) X.env).map (·.2) = assign x X.env :: (assignEach xs X.env).map (·.2) := by
          rw [assignEach_cons h.1.1]; rfl
        refine PGs.imp (pgs_cons ((ih1 [x] false h.1.2).1 rfl x rfl) ((ih2 xs true h.2).2 rfl) hs) fun v σ H Q ⟨ds, sd, hh, sd', r, n, e, q⟩ => ?_
        cases ds with
        | nil => simp [bindT] at e
        | cons d ds =>
          cases r with | cons r rs =>
          simp only [bindT] at e
          cases e1 : bindT t d sd with
          | none => rw [e1] at e; cases e
          | some s1 =>
            rw [e1] at e
            refine ⟨_, _, rfl, d, sd, hh, s1, r, n, e1, fun σ1 n1 w1 => ⟨ds, s1, hh, sd', rs, n1, e, fun σ2 n2 w2 => q σ2 n2 fun vs hv => ?_⟩⟩
            rw [w2 vs fun i hi => hv i (List.mem_append_right _ hi), w1 vs fun i hi => hv i (List.mem_append_left _ hi)]

/-! ### what is walked -/
def itT (te : TEd) (k : ItK) : TId := fun s h Rd => te s h fun x h1 => itD k x h1 fun items inv => Rd items inv h1
/-- a def's comprehension: the block's context -/
theorem relabel_look {env : Env} {x : Str} {kd : NameKind} : ∀ {names : List (Str × NameKind)}, names.lookup x = some kd →
    (names.map fun (n, k) => if (k == NameKind.free && env.scope.kind == .function && env.kindOf n == some .cell) then (n, NameKind.cell) else (n, k)).lookup x = some kd ∨
    (kd = .free ∧ (names.map fun (n, k) => if (k == NameKind.free && env.scope.kind == .function && env.kindOf n == some .cell) then (n, NameKind.cell) else (n, k)).lookup x = some .cell)
  | [], h => by simp at h
  | (n, k') :: r, h => by
    have ih := @relabel_look env x kd r
    rw [List.map_cons]
    rw [List.lookup_cons] at h
    cases hx : x == n with
    | true =>
      rw [hx] at h
      cases h
      by_cases hc : (kd == NameKind.free && env.scope.kind == .function && env.kindOf n == some .cell) = true
      · refine .inr ⟨?_, ?_⟩
        · simp only [Bool.and_eq_true] at hc
          exact eq_of_beq hc.1.1
        · show List.lookup x ((if (kd == NameKind.free && env.scope.kind == .function && env.kindOf n == some .cell) = true then (n, NameKind.cell) else (n, kd)) :: _) = _
          rw [if_pos hc, List.lookup_cons, hx]
      · left
        show List.lookup x ((if (kd == NameKind.free && env.scope.kind == .function && env.kindOf n == some .cell) = true then (n, NameKind.cell) else (n, kd)) :: _) = _
        rw [if_neg hc, List.lookup_cons, hx]
    | false =>
      rw [hx] at h
      have key : ∀ z, List.lookup x ((if (k' == NameKind.free && env.scope.kind == .function && env.kindOf n == some .cell) = true then (n, NameKind.cell) else (n, k')) :: z) = List.lookup x z := fun z => by
        split <;> rw [List.lookup_cons, hx]
      show List.lookup x ((if (k' == NameKind.free && env.scope.kind == .function && env.kindOf n == some .cell) = true then (n, NameKind.cell) else (n, k')) :: _) = _ ∨ (_ ∧ List.lookup x ((if (k' == NameKind.free && env.scope.kind == .function && env.kindOf n == some .cell) = true then (n, NameKind.cell) else (n, k')) :: _) = _)
      rw [key]
      exact ih h
theorem XOk.blk (o : XOk T Φ CX k B Ed C X) {scope : Scope} {nd : C.N.Nodup} (s : Shared) (H : Hp) (Cc : Addr) (cl : List (Str × Addr)) (fp : List Addr) :
    XOk T Φ CX k B (fun _ _ _ => False) ⟨C.N, scope.names⟩ (X.blk s H scope (compEnvC scope cl Cc X.env) fp) where
  N := o.N
  nd := o.nd
  calm := o.calm
  room := o.room
  rel := fun x y e => relabel_look e
  fnc := fun x e => by
    show (scope.names.lookup x == some .cell) = true
    rw [e]; rfl
  free := o.free
  cst := o.cst
  fns := fun x f e => by
    obtain ⟨fa, fd, a, b, c, d, g⟩ := (o.fns x f e).ex
    exact ⟨fa, fd, a, b, c, d, g⟩
  pass := fun pins σ H' s' e s'' I h => by
    refine absurd h (o.cx _ _ _ _ _ _ fun c od H2 => ?_)
    rintro ⟨_, z, _⟩
    exact z.elim
  own := PassesOwn.never
  cx := o.cx
end DL
namespace DL
open PySem PySem.Spec L2
variable {T : Tab} {Φ : Nat → Ct} {CX : CXT} {k : Nat} {B : Bs} {Ed : XD} {C : CEnv} {X : Cx} {K : KW}

/-- the turn of a comprehension -/
def lcTurn (tg : DL.T) (tc te : TEd) (vs : List Nat) (sd : DSt) : D → DH → (Option D → DH → Prop) → Prop := fun y h1 R => ∃ s1, bindT tg y (dwipe sd vs) = some s1 ∧
  tc s1 h1 fun b h2 => ∃ k, b = .bl k ∧ if k = true then te s1 h2 fun z h3 => R (some z) h3 else R none h2
theorem Frm.patch {h0 h4 : DH} {H0 H4 : Hp} {D : Addr} {u : HO} (f : Frm h0 H0 h4 H4) (nD : H0 D = none) : Frm h0 H0 h4 (upd H4 D u) := fun b o e n => by
  obtain ⟨e1, n1⟩ := f b o e n
  exact ⟨by rw [upd_ne (ne_of_none e nD)]; exact e1, n1⟩
theorem Frm.patchD {h0 h4 : DH} {H0 H4 : Hp} {D : Addr} {u : DO} (f : Frm h0 H0 h4 H4) (nD : H0 D = none) : Frm h0 H0 (updD h4 D u) H4 := fun b o e n => by
  obtain ⟨e1, n1⟩ := f b o e n
  exact ⟨e1, by rw [updD_ne (ne_of_none e nD)]; exact n1⟩
theorem lift_lc {wi : TId} {tg : DL.T} {tc te : TEd} {vs : List Nat} (hv : ∀ i ∈ tSlots tg, i ∈ vs) {σ : L2.St} {H : Hp} {Q : VK}
    (q : lift K B (fun s h Q => wi s h fun items inv h0 => lcD items inv h0 (lcTurn tg tc te vs s) Q) σ H Q) :
    tLc (liftI K B wi) (liftG K B tg) (liftT K B tc) (lift K B te) vs σ H Q := by
  obtain ⟨sd, h, Qd, n, t, k⟩ := q
  refine ⟨sd, h, _, n, t, fun items inv h0 H0 J G q rh0 fr0 wk g0 D nD => ?_⟩
  unfold lcD at q
  obtain ⟨hz, W, w0, wi', step, fin⟩ := q
  have n0 := n.after rh0 fr0
  -- the state at turn i: the new list at D is not told
  refine ⟨fun i m H1 => m = items.length - i ∧ i ≤ items.length ∧ ∃ (acc : List DL.D) (avs : List V) (h1 : DH), W i acc h1 ∧ acc.length ≤ i ∧ Now K B (dwipe sd vs) h1 (L2.wipe σ vs) H1 ∧ Frm h0 H0 h1 H1 ∧ G H1 ∧ H1 D = some (.lst avs) ∧ h1 D = none ∧ RDs K H1 acc avs,
    ⟨items.length, by simp, Nat.zero_le _, [], [], h0, w0, Nat.le_refl _, ⟨(n0.rs.wipe vs).mono (TM.new nD), rh0.newT nD, n0.fr.trans (.newT nD)⟩, .newT nD, wk.mono _ _ (TM.new nD) g0, upd_same, rh0.free nD, .nil⟩, ?_⟩
  rintro i m H1 ⟨rfl, hi, acc, avs, h1, w1, la, n1, f1, g1, eD, hD, ra⟩
  by_cases hlt : i < items.length
  · refine .inr ⟨wk.goes i h1 H1 hlt n1.rh (wi' _ _ _ hi w1) g1, fun H2 => ∃ (acc : List DL.D) (avs : List V) (h1 : DH), W (i + 1) acc h1 ∧ acc.length ≤ i + 1 ∧ Now K B (dwipe sd vs) h1 (L2.wipe σ vs) H2 ∧ Frm h0 H0 h1 H2 ∧ G H2 ∧ H2 D = some (.lst avs) ∧ h1 D = none ∧ RDs K H2 acc avs,
      fun H2 h => ⟨items.length - (i + 1), by omega, rfl, hlt, h⟩, fun x H2 y => ?_⟩
    obtain ⟨d, ed, rd, rh2, fr2⟩ := wk.yields i h1 H1 x H2 hlt n1.rh (wi' _ _ _ hi w1) g1 y
    obtain ⟨s1, eb, tt⟩ := step i d acc h1 ed w1
    have n2 := n1.after rh2 fr2
    obtain ⟨eD2, hD2⟩ := fr2 D _ eD hD
    refine ⟨d, dwipe sd vs, h1, s1, rd, n2, eb, fun σ' n3 w3 => ⟨by rw [w3 vs hv, wipe_wipe], s1, h1, _, n3, tt, fun b h3 H3 q3 rh3 fr3 => ?_⟩⟩
    have n4 := n2.after rh3 fr3
    have n5 := n3.after rh3 fr3
    obtain ⟨eD3, hD3⟩ := fr3 D _ eD2 hD2
    have m1 : TM K H1 H2 := Frm.tm n1.rh fr2
    have m2 : TM K H2 H3 := Frm.tm rh2 fr3
    cases b with
    | false =>
      exact ⟨acc, avs, h3, q3, by omega, n4, (f1.trans fr2).trans fr3, wk.mono _ _ m2 (wk.mono _ _ m1 g1), eD3, hD3, (ra.mono m1).mono m2⟩
    | true =>
      refine ⟨s1, h3, _, n5, q3, fun z h4 v H4 q4 p4 => ?_⟩
      obtain ⟨eD4, hD4⟩ := p4.fr D _ eD3 hD3
      have n6 := n4.after p4.rh p4.fr
      have m3 : TM K H3 H4 := Frm.tm rh3 p4.fr
      have m4 : TM K H4 (upd H4 D (.lst (avs ++ [v]))) := TM.write eD4
      have ln := ra.length
      refine ⟨avs, eD4, by omega, acc ++ [z], avs ++ [v], h4, q4, by simp; omega, ⟨n6.rs.mono m4, fun b p e => ?_, n0.fr.trans ((((f1.trans fr2).trans fr3).trans p4.fr).patch nD)⟩, (((f1.trans fr2).trans fr3).trans p4.fr).patch nD, wk.mono _ _ m4 (wk.mono _ _ m3 (wk.mono _ _ m2 (wk.mono _ _ m1 g1))), upd_same, hD4, ((((ra.mono m1).mono m2).mono m3).append (.cons p4.rd .nil)).mono m4⟩
      · have hb : b ≠ D := fun z => by subst z; rw [hD4] at e; cases e
        exact (n6.rh b p e).mono m4 (upd_ne hb)
  · have e : i = items.length := by omega
    subst e
    refine .inl ⟨wk.stops h1 H1 n1.rh (wi' _ _ _ hi w1) g1, k _ _ _ _ (fin acc h1 w1 D hD) ⟨.ref D, fun b p e => ?_, ?_⟩⟩
    · by_cases hb : b = D
      · subst hb; rw [updD_same] at e; cases e; exact ⟨avs, eD, ra⟩
      · rw [updD_ne hb] at e; exact n1.rh b p e
    · exact fr0.trans (f1.patchD nD)

/-! ### the whole of it -/
def Good (T : Tab) (Φ : Nat → Ct) (B : Bs) (Ed : XD) (ir : E) (X : Cx) : Nd → Prop
  | .e x => PE X x (lift X.kw B (xE T.cs Φ Ed ir))
  | .t x => PT X x (liftT X.kw B (xE T.cs Φ Ed ir))
  | .w op xs => ∀ pos, PW X (.BoolOp op xs pos) (liftT X.kw B (xE T.cs Φ Ed ir))
  | .a xs => PA X xs (liftA X.kw B (xE T.cs Φ Ed ir))
  | .k kws => PK X kws (liftA X.kw B (xE T.cs Φ Ed ir))
theorem itNode_ok (o : XOk T Φ CX k B Ed C X) {ik : ItK} {tg x : Expr} {nd : Nd} {src : E} (e : itNode T C ik tg x = some nd) (g : Good T Φ B Ed src X nd) : PI X tg x (liftI X.kw B (itT (xE T.cs Φ Ed src) ik)) := by
  cases ik with
  | val =>
    simp only [itNode] at e
    split at e
    · cases e
    · cases e
      exact PI.imp (pi_any g) fun _ _ _ q => lift_iVal q
  | range1 =>
    simp only [itNode] at e
    split at e
    · split at e
      · rename_i h
        simp only [Bool.and_eq_true, Bool.not_eq_true', decide_eq_true_eq] at h
        obtain ⟨⟨⟨rfl, h2⟩, h3⟩, h4⟩ := h
        cases e
        exact PI.imp (pi_range1 (o.gl h2) (o.free _ h3) g (starEach_cons h4)) fun _ _ _ q => lift_iRange1 q
      · cases e
    · cases e
  | range2 =>
    simp only [itNode] at e
    split at e
    · split at e
      · rename_i h
        simp only [Bool.and_eq_true, Bool.not_eq_true', decide_eq_true_eq] at h
        obtain ⟨⟨⟨⟨rfl, h2⟩, h3⟩, h4⟩, h5⟩ := h
        cases e
        exact PI.imp (pi_range2 (o.gl h2) (o.free _ h3) g (by rw [starEach_cons h4, starEach_cons h5]; rfl) (starEach_cons h5)) fun _ _ _ q => lift_iRange2 q
      · cases e
    · cases e
  | enum =>
    simp only [itNode] at e
    split at e
    · split at e
      · rename_i h
        simp only [Bool.and_eq_true, Bool.not_eq_true', decide_eq_true_eq] at h
        obtain ⟨⟨⟨⟨rfl, h2⟩, h3⟩, h4⟩, h5⟩ := h
        cases e
        cases tg with
        | Tuple es kk tp => exact PI.imp (pi_enumA (o.gl h2) (o.free _ h3) g (starEach_cons h4)) fun _ _ _ q => lift_iEnum q
        | _ => exact nomatch h5
      · cases e
    · cases e
  | zip =>
    simp only [itNode] at e
    split at e
    · split at e
      · rename_i h
        simp only [Bool.and_eq_true, Bool.not_eq_true', decide_eq_true_eq] at h
        obtain ⟨⟨⟨⟨⟨rfl, h2⟩, h3⟩, h4⟩, h5⟩, h6⟩ := h
        cases e
        cases tg with
        | Tuple es kk tp => exact PI.imp (pi_zip (o.gl h2) (o.free _ h3) g (starEach_cons h4) (starEach_no (by simp [h5]))) fun _ _ _ q => lift_iZip q
        | _ => exact nomatch h6
      · cases e
    · cases e
theorem chk_nil {ir : E} (h : chk T ir C (.a []) = true) : ir = .nil := by
  cases ir <;> first | rfl | simp [chk] at h
theorem isTrueC_ok {c : E} (h : isTrueC c = true) : c = .cst (.bl true) := by
  unfold isTrueC at h
  split at h
  · rfl
  · cases h
theorem isAbs_ok {c : E} (h : isAbs c = true) : c = .absent := by
  cases c <;> first | rfl | exact nomatch h
theorem blt_ok (o : XOk T Φ CX k B Ed C X) {b : Blt} {p pos : Pos} {e : Expr} {es : List Expr} {t : TEd} (hg : Gl X (bltN b)) (hm : X.mg (bltN b) = none) (ha : PA X (e :: es) (liftA X.kw B t)) (hs : ((e :: es).all fun e => !isStar e) = true) :
    PE X (.Call (.Name (bltN b) p) (e :: es) [] pos) (tCB (liftC X.kw (bltD b)) (liftA X.kw B t)) := by
  rw [List.all_cons, Bool.and_eq_true, Bool.not_eq_true'] at hs
  have h1 := starEach_cons (es := es) (env := X.env) hs.1
  have h2 := starEach_no (env := X.env) (pos := pos) hs.2
  cases b with
  | len => exact pe_callB b_len hg hm (by decide +kernel) ha (by decide) (by decide) h1 h2
  | int => exact pe_callTy b_int hg hm (by decide +kernel) ha (by decide) (by decide) h1 h2
  | abs => exact pe_callB b_abs hg hm (by decide +kernel) ha (by decide) (by decide) h1 h2
  | min => exact pe_callB (b_min o.calm) hg hm (by decide +kernel) ha (by decide) (by decide) h1 h2
  | max => exact pe_callB (b_max o.calm) hg hm (by decide +kernel) ha (by decide) (by decide) h1 h2
  | list => exact pe_callTy b_list hg hm (by decide +kernel) ha (by decide) (by decide) h1 h2
  | tuple => exact pe_callTy b_tuple hg hm (by decide +kernel) ha (by decide) (by decide) h1 h2
  | sum => exact pe_callB (b_sum o.calm) hg hm (by decide +kernel) ha (by decide) (by decide) h1 h2
  | any => exact pe_callB (b_any o.calm) hg hm (by decide +kernel) ha (by decide) (by decide) h1 h2
  | all => exact pe_callB (b_all o.calm) hg hm (by decide +kernel) ha (by decide) (by decide) h1 h2
  | str => exact pe_callTy b_str hg hm (by decide +kernel) ha (by decide) (by decide) h1 h2
  | ord => exact pe_callB b_ord hg hm (by decide +kernel) ha (by decide) (by decide) h1 h2
  | sorted => exact pe_callB (b_sorted o.calm) hg hm (by decide +kernel) ha (by decide) (by decide) h1 h2
  | set => exact pe_callTy (b_set o.calm) hg hm (by decide +kernel) ha (by decide) (by decide) h1 h2
end DL
namespace DL
open PySem PySem.Spec L2
variable {T : Tab} {Φ : Nat → Ct} {CX : CXT} {k : Nat} {B : Bs} {K : KW}

theorem pw_two {X : Cx} {x y : Expr} {pos : Pos} {a b : TT} (ha : PT X x a) (hb : PT X y b) : PW X (.BoolOp .And [x, y] pos) (tAnd a b) := pw_and ha (pw_and1 hb)
theorem pw_two' {X : Cx} {x y : Expr} {pos : Pos} {a b : TT} (ha : PT X x a) (hb : PT X y b) : PW X (.BoolOp .Or [x, y] pos) (tOr a b) := pw_or ha (pw_or1 hb)
theorem chk_ok : ∀ (ir : E) (C : CEnv) (nd : Nd) (X : Cx) (Ed : XD), chk T ir C nd = true → XOk T Φ CX k B Ed C X → Good T Φ B Ed ir X nd := by
  intro ir
  induction ir with
  | var i =>
    intro C nd X Ed h o
    unfold chk at h
    split at h
    · simp only [Bool.and_eq_true, decide_eq_true_eq] at h
      obtain ⟨⟨h1, h2⟩, h3⟩ := h
      obtain ⟨p1, p2⟩ := plain3 h3
      refine PE.imp (pe_var (by rw [o.N]; exact h1) (o.vis h2) p1 p2) fun σ H Q ⟨sd, hh, Qd, n, ⟨d, e, q⟩, kk⟩ => ?_
      obtain ⟨v, e1, r⟩ := n.rs.at_ i d e
      exact ⟨v, e1, kk _ _ _ _ q ⟨r, n.rh, .refl _ _⟩⟩
    · cases h
  | cst d =>
    intro C nd X Ed h o
    unfold chk at h
    split at h
    · exact cstB_ok h
    · cases h
  | glb j =>
    intro C nd X Ed h o
    unfold chk at h
    split at h
    · simp only [Bool.and_eq_true, decide_eq_true_eq] at h
      obtain ⟨⟨h1, h2⟩, h3⟩ := h
      obtain ⟨u, v, e1, r, rd⟩ := o.cst _ _ h1
      exact PE.imp (pe_glob (o.gl h2) e1 r (plain3 h3).1) fun σ H Q ⟨sd, hh, Qd, n, q, kk⟩ => kk _ _ _ _ q ⟨rd H, n.rh, .refl _ _⟩
    · cases h
  | bin op a b iha ihb =>
    intro C nd X Ed h o
    unfold chk at h
    split at h
    · simp only [Bool.and_eq_true, decide_eq_true_eq] at h
      obtain ⟨⟨rfl, h1⟩, h2⟩ := h
      exact PE.imp (pe_op (op_binD op) (iha C _ X Ed h1 o) (ihb C _ X Ed h2 o)) fun σ H Q q => lift_bin q
    · cases h
  | neg a iha =>
    intro C nd X Ed h o
    unfold chk at h
    split at h
    · exact PE.imp (pe_un un_negD (iha C _ X Ed h o)) fun σ H Q q => lift_un q
    · cases h
  | cmp op a b iha ihb =>
    intro C nd X Ed h o
    unfold chk at h
    split at h
    · simp only [Bool.and_eq_true, decide_eq_true_eq, Bool.not_eq_true'] at h
      obtain ⟨⟨⟨rfl, h0⟩, h1⟩, h2⟩ := h
      exact PE.imp (pe_cmpR (op_cmpD o.room op) (iha C _ X Ed h1 o) (ihb C _ X Ed h2 o) h0) fun σ H Q q => lift_bin (rd := rdC op) q
    · simp only [Bool.and_eq_true, decide_eq_true_eq, Bool.not_eq_true'] at h
      obtain ⟨⟨⟨rfl, h0⟩, h1⟩, h2⟩ := h
      exact PT.imp (pt_cmpR (op_cmpD o.room op) (iha C _ X Ed h1 o) (ihb C _ X Ed h2 o) h0) fun σ H Q q => lift_test q
    · cases h
  | cmp2 op op' a b c iha ihb ihc =>
    intro C nd X Ed h o
    unfold chk at h
    split at h
    · simp only [Bool.and_eq_true, decide_eq_true_eq, Bool.not_eq_true'] at h
      obtain ⟨⟨⟨⟨⟨rfl, rfl⟩, h0⟩, h1⟩, h2⟩, h3⟩ := h
      exact PE.imp (pe_chain (op_cmpD o.room op) (op_cmpD o.room op') (iha C _ X Ed h1 o) (ihb C _ X Ed h2 o) (ihc C _ X Ed h3 o) h0) fun σ H Q q => lift_chain q
    · simp only [Bool.and_eq_true, decide_eq_true_eq, Bool.not_eq_true'] at h
      obtain ⟨⟨⟨⟨⟨rfl, rfl⟩, h0⟩, h1⟩, h2⟩, h3⟩ := h
      exact PT.imp (pt_chain (op_cmpD o.room op) (op_cmpD o.room op') (iha C _ X Ed h1 o) (ihb C _ X Ed h2 o) (ihc C _ X Ed h3 o) h0) fun σ H Q q => lift_chainT q
    · cases h
  | dnew b =>
    intro C nd X Ed h o
    unfold chk at h
    split at h
    · exact pe_dnewD
    · cases h
  | truth a iha =>
    intro C nd X Ed h o
    unfold chk at h
    split at h
    · simp only [Bool.and_eq_true] at h
      exact PT.imp (pt_truth (iha C _ X Ed h.2 o) (truthB_ok h.1)) fun σ H Q q => lift_truth q
    · cases h
  | notB a iha =>
    intro C nd X Ed h o
    unfold chk at h
    split at h
    · exact PT.imp (pt_not (iha C _ X Ed h o)) fun σ H Q q => lift_notT q
    · cases h
  | andB a b iha ihb =>
    intro C nd X Ed h o
    unfold chk at h
    split at h
    · simp only [Bool.and_eq_true] at h
      exact PT.imp (PW.pt (pw_two (iha C _ X Ed h.1 o) (ihb C _ X Ed h.2 o))) fun σ H Q q => lift_andT q
    · simp only [Bool.and_eq_true] at h
      exact PT.imp (PW.pt (pw_and (iha C _ X Ed h.1 o) (ihb C _ X Ed h.2 o _))) fun σ H Q q => lift_andT q
    · simp only [Bool.and_eq_true] at h
      exact fun pos => PW.imp (pw_two (iha C _ X Ed h.1 o) (ihb C _ X Ed h.2 o)) fun σ H Q q => lift_andT q
    · simp only [Bool.and_eq_true] at h
      exact fun pos => PW.imp (pw_and (iha C _ X Ed h.1 o) (ihb C _ X Ed h.2 o _)) fun σ H Q q => lift_andT q
    · cases h
  | orB a b iha ihb =>
    intro C nd X Ed h o
    unfold chk at h
    split at h
    · simp only [Bool.and_eq_true] at h
      exact PT.imp (PW.pt (pw_two' (iha C _ X Ed h.1 o) (ihb C _ X Ed h.2 o))) fun σ H Q q => lift_orT q
    · simp only [Bool.and_eq_true] at h
      exact PT.imp (PW.pt (pw_or (iha C _ X Ed h.1 o) (ihb C _ X Ed h.2 o _))) fun σ H Q q => lift_orT q
    · simp only [Bool.and_eq_true] at h
      exact fun pos => PW.imp (pw_two' (iha C _ X Ed h.1 o) (ihb C _ X Ed h.2 o)) fun σ H Q q => lift_orT q
    · simp only [Bool.and_eq_true] at h
      exact fun pos => PW.imp (pw_or (iha C _ X Ed h.1 o) (ihb C _ X Ed h.2 o _)) fun σ H Q q => lift_orT q
    · cases h
  | notV a iha =>
    intro C nd X Ed h o
    unfold chk at h
    split at h
    · exact PE.imp (pe_notT (iha C _ X Ed h o)) fun σ H Q q => lift_notV q
    · cases h
  | andV a b iha ihb =>
    intro C nd X Ed h o
    unfold chk at h
    split at h
    · simp only [Bool.and_eq_true] at h
      exact PE.imp (pe_andT (iha C _ X Ed h.1 o) (pe_one (ihb C _ X Ed h.2 o))) fun σ H Q q => lift_andV q
    · simp only [Bool.and_eq_true] at h
      exact PE.imp (pe_andT (iha C _ X Ed h.1 o) (ihb C _ X Ed h.2 o)) fun σ H Q q => lift_andV q
    · cases h
  | orV a b iha ihb =>
    intro C nd X Ed h o
    unfold chk at h
    split at h
    · simp only [Bool.and_eq_true] at h
      exact PE.imp (pe_orT (iha C _ X Ed h.1 o) (pe_one (ihb C _ X Ed h.2 o))) fun σ H Q q => lift_orV q
    · simp only [Bool.and_eq_true] at h
      exact PE.imp (pe_orT (iha C _ X Ed h.1 o) (ihb C _ X Ed h.2 o)) fun σ H Q q => lift_orV q
    · cases h
  | ife c a b ihc iha ihb =>
    intro C nd X Ed h o
    unfold chk at h
    split at h
    · simp only [Bool.and_eq_true] at h
      exact PE.imp (pe_ifExp (ihc C _ X Ed h.1.1 o) (iha C _ X Ed h.1.2 o) (ihb C _ X Ed h.2 o)) fun σ H Q q => lift_ife q
    · cases h
  | tup es ih =>
    intro C nd X Ed h o
    unfold chk at h
    split at h
    · exact PE.imp (pe_tup (ih C _ X Ed h o)) fun σ H Q q => lift_tup q
    · cases h
  | lst es ih =>
    intro C nd X Ed h o
    unfold chk at h
    split at h
    · exact PE.imp (pe_lst (ih C _ X Ed h o)) fun σ H Q q => lift_lst q
    · cases h
  | nil =>
    intro C nd X Ed h o
    unfold chk at h
    split at h
    · exact PA.imp pa_nil fun σ H Q q => lift_nil q
    · exact PK.imp pk_nil fun σ H Q q => lift_nil q
    · cases h
  | cons e es ih1 ih2 =>
    intro C nd X Ed h o
    unfold chk at h
    split at h
    · simp only [Bool.and_eq_true, Bool.not_eq_true'] at h
      exact PA.imp (pa_cons (ih1 C _ X Ed h.1.2 o) (ih2 C _ X Ed h.2 o) (starEach_cons h.1.1)) fun σ H Q q => lift_cons q
    · simp only [Bool.and_eq_true] at h
      exact PK.imp (pk_cons (ih1 C _ X Ed h.1 o) (ih2 C _ X Ed h.2 o)) fun σ H Q q => lift_cons q
    · cases h
  | sub a i iha ihi =>
    intro C nd X Ed h o
    unfold chk at h
    split at h
    · simp only [Bool.and_eq_true, Bool.not_eq_true'] at h
      exact PE.imp (pe_ix (ix_D o.room.units) (iha C _ X Ed h.1.2 o) (ihi C _ X Ed h.2 o) (slc_plain h.1.1)) fun σ H Q q => lift_bin q
    · cases h
  | slice bl bh a lo hi iha ihl ihh =>
    intro C nd X Ed h o
    unfold chk at h
    split at h
    · simp only [Bool.and_eq_true] at h
      obtain ⟨⟨h1, h2⟩, h3⟩ := h
      have pl : ∀ {b : Bool} {ir : E} {x : Option Expr}, chkO (fun n => chk T ir C n) b x (isAbs ir) = true → (∀ (C : CEnv) (nd : Nd) (X : Cx) (Ed : XD), chk T ir C nd = true → XOk T Φ CX k B Ed C X → Good T Φ B Ed ir X nd) → PO X x (liftO X.kw B b (xE T.cs Φ Ed ir)) := by
        intro b ir x hx ih
        cases b with
        | false =>
          simp only [chkO, Bool.and_eq_true] at hx
          cases x with
          | some => exact nomatch hx.1
          | none => rw [isAbs_ok hx.2]; exact po_abs
        | true =>
          cases x with
          | none => exact nomatch hx
          | some e => exact po_lift (ih C _ X Ed hx o)
      exact PE.imp (pe_slice sl_D (iha C _ X Ed h1 o) (pl h2 ihl) (pl h3 ihh)) fun σ H Q q => lift_slice q
    · cases h
  | absent =>
    intro C nd X Ed h o
    unfold chk at h
    cases h
  | rev a iha =>
    intro C nd X Ed h o
    unfold chk at h
    split at h
    · exact PE.imp (pe_revT (iha C _ X Ed h o)) fun σ H Q q => lift_rev q
    · cases h
  | call f es ih =>
    intro C nd X Ed h o
    unfold chk at h
    split at h
    · rename_i x p args pos
      simp only [Bool.and_eq_true, decide_eq_true_eq] at h
      obtain ⟨⟨⟨h1, h2⟩, h3⟩, h4⟩ := h
      obtain ⟨fa, fd, a1, a2, a3, a4, _⟩ := (o.fns _ _ h1).ex
      have hs := chk_stars es C args h4
      cases args with
      | nil =>
        have e := chk_nil h4
        subst e
        exact PE.imp (pe_call0 a3 o.room (o.gl h2) a1 a2 a4 .nil o.pass (plain3 h3).1) fun σ H Q q => lift_call0 q
      | cons e args =>
        rw [List.all_cons, Bool.and_eq_true, Bool.not_eq_true'] at hs
        exact PE.imp (pe_call a3 o.room (o.gl h2) a1 a2 a4 .nil o.pass (ih C _ X Ed h4 o) (plain3 h3).1 (starEach_cons hs.1) (starEach_no hs.2)) fun σ H Q q => lift_call q
    · cases h
  | callK f m ks π es kes ih1 ih2 =>
    intro C nd X Ed h o
    unfold chk at h
    split at h
    · rename_i x p args kws pos
      simp only [Bool.and_eq_true, decide_eq_true_eq, shOk] at h
      obtain ⟨⟨⟨⟨⟨⟨⟨⟨h1, h2⟩, h3⟩, h4⟩, h5⟩, h6⟩, h7⟩, h8⟩, h9⟩ := h
      obtain ⟨fa, fd, a1, a2, a3, _, a5⟩ := (o.fns _ _ h1).ex
      have hs := chk_stars es C args h8
      obtain ⟨k1, k2, k3⟩ := kw_facts (env := X.env) (pos := pos) h5
      cases args with
      | nil =>
        have e := chk_nil h8
        subst e
        subst h4
        refine PE.imp (pe_callN0 a3 o.room (o.gl h2) a1 a2 (a5 _ _ _ h7) o.pass (ih2 C _ X Ed h9 o) k1 k2 (plain3 h3).1 ?_) fun σ H Q q => lift_callK0 q
        show (false || _) = false
        rw [k3]; rfl
      | cons e args =>
        rw [List.all_cons, Bool.and_eq_true, Bool.not_eq_true'] at hs
        refine PE.imp (pe_callN a3 o.room (o.gl h2) a1 a2 (a5 _ _ _ h7) o.pass (ih1 C _ X Ed h8 o) (ih2 C _ X Ed h9 o) k1 k2 (plain3 h3).1 (starEach_cons hs.1) ?_) fun σ H Q q => lift_callK q
        rw [k3, Bool.or_false]
        exact starEach_no (by rw [List.all_cons, Bool.and_eq_true, Bool.not_eq_true']; exact hs)
    · cases h
  | blt b es ih =>
    intro C nd X Ed h o
    unfold chk at h
    split at h
    · simp only [Bool.and_eq_true, decide_eq_true_eq] at h
      obtain ⟨⟨⟨rfl, h2⟩, h3⟩, h4⟩ := h
      exact PE.imp (blt_ok o (o.gl h2) (o.free _ h3) (ih C _ X Ed h4 o) (chk_stars es C _ h4)) fun σ H Q q => lift_blt q
    · cases h
  | isi t a ih =>
    intro C nd X Ed h o
    unfold chk at h
    split at h
    · rename_i x p y z q pos
      simp only [Bool.and_eq_true, decide_eq_true_eq, Bool.not_eq_true'] at h
      obtain ⟨⟨⟨⟨⟨⟨⟨⟨rfl, rfl⟩, h2⟩, h3⟩, h4⟩, h5⟩, h6⟩, h7⟩, h8⟩ := h
      have bt : ∀ t : Ty, t ≠ .none → bootBuiltins (tyNmS t) = some (.type (tyNm t)) ∧ tyNmS t ≠ "__name__" ∧ (tyNmS t == ("__debug__" : Str)) = false := fun t ht => by
        cases t <;> first | exact absurd rfl ht | exact ⟨by decide +kernel, by decide +kernel, by decide +kernel⟩
      obtain ⟨b1, b2, b3⟩ := bt t h6
      refine PE.imp (pe_callB call_isi (o.gl h2) (o.free _ h4) (by decide +kernel) (pa_cons (ih C _ X Ed h8 o) (pa_cons (pe_bltn (v := .ty (tyNm t)) (o.gl h3) (o.free _ h5) b1 rfl b2 b3) pa_nil) (starEach_cons h7)) (by decide) (by decide) (starEach_cons h7)) fun σ H Q q => lift_isi h6 q
    · cases h
  | mth m oo es ih1 ih2 =>
    intro C nd X Ed h o
    unfold chk at h
    split at h
    · rename_i x nm ap args cp
      simp only [Bool.and_eq_true, decide_eq_true_eq] at h
      obtain ⟨⟨⟨⟨⟨⟨rfl, h2⟩, h3⟩, h4⟩, h5⟩, h6⟩, h7⟩ := h
      have hs := chk_stars es C args h7
      have hb : ∀ m : Str, attributeBase x m X.env (eval x X.env) = eval x X.env := fun m => noSup_ok h2
      have few : ∀ (e : Expr) (es : List Expr), ((e :: es).all fun e => !isStar e) = true → (e :: es).length < 20 → ((backTo cp (starEach (e :: es) X.env)).all (fun x => !x.1) && (backToKw cp (keywordEach [] X.env)).all (fun x => x.1.isSome)
          && decide ((e :: es).length + ([] : List Keyword).length + (if ([] : List Keyword).isEmpty then 0 else 1) < 30)) = true := fun e es hs hl => by
        have z := starEach_no (env := X.env) (pos := cp) hs
        have z2 : (backTo cp (starEach (e :: es) X.env)).all (fun x => !x.1) = true := by
          rw [List.all_eq_not_any_not]
          simp only [Bool.not_not]
          rw [z]; rfl
        rw [z2]
        have : decide ((e :: es).length + ([] : List Keyword).length + (if ([] : List Keyword).isEmpty then 0 else 1) < 30) = true := decide_eq_true (by
          have e0 : ([] : List Keyword).length = 0 := rfl
          have e1 : (if ([] : List Keyword).isEmpty then 0 else 1) = 0 := rfl
          rw [e0, e1]; omega)
        rw [this]; rfl
      cases m with
      | append =>
        cases args with
        | nil => exact nomatch h5
        | cons e args =>
          have hs' := hs
          rw [List.all_cons, Bool.and_eq_true, Bool.not_eq_true'] at hs'
          exact PE.imp (pe_bm PySem.F.plainAttrs_list PySem.F.slot_list_append PySem.F.type_list_append m_append (ih1 C _ X Ed h6 o) (ih2 C _ X Ed h7 o) (hb _) (few _ _ hs h4) h3 (starEach_cons hs'.1) (starEach_no hs'.2)) fun σ H Q q => lift_mth (fun d h v H a b c => mthT_list (by decide) a b c) q
      | extend =>
        cases args with
        | nil => exact nomatch h5
        | cons e args =>
          have hs' := hs
          rw [List.all_cons, Bool.and_eq_true, Bool.not_eq_true'] at hs'
          exact PE.imp (pe_bm PySem.F.plainAttrs_list PySem.F.slot_list_extend PySem.F.type_list_extend m_extend (ih1 C _ X Ed h6 o) (ih2 C _ X Ed h7 o) (hb _) (few _ _ hs h4) h3 (starEach_cons hs'.1) (starEach_no hs'.2)) fun σ H Q q => lift_mth (fun d h v H a b c => mthT_list (by decide) a b c) q
      | get =>
        cases args with
        | nil => exact nomatch h5
        | cons e args =>
          have hs' := hs
          rw [List.all_cons, Bool.and_eq_true, Bool.not_eq_true'] at hs'
          exact PE.imp (pe_dm PySem.F.slot_dict_get PySem.F.type_dict_get (m_get o.room.units) (ih1 C _ X Ed h6 o) (ih2 C _ X Ed h7 o) (hb _) (few _ _ hs h4) h3 (starEach_cons hs'.1) (starEach_no hs'.2)) fun σ H Q q => lift_dm (m := .get) (fun d h z => z) q
      | pop =>
        cases args with
        | cons => exact nomatch h5
        | nil =>
          have e := chk_nil h7
          subst e
          exact PE.imp (pe_bm0 PySem.F.plainAttrs_list PySem.F.slot_list_pop PySem.F.type_list_pop m_pop (ih1 C _ X Ed h6 o) (hb _) h3) fun σ H Q q => lift_mth0 (fun d h v H a b c => mthT_list (by decide) a b c) q
    · cases h
  | lc tg ik src c elt own ih1 ih2 ih3 =>
    intro C nd X Ed h o
    unfold chk at h
    split at h
    · rename_i x t it ifs sc pos
      simp only [Bool.and_eq_true, decide_eq_true_eq, Bool.not_eq_true'] at h
      obtain ⟨⟨⟨⟨⟨⟨h1, h2⟩, h3⟩, h4⟩, h5⟩, h6⟩, h7⟩ := h
      have hi : PI X t it (liftI X.kw B (itT (xE T.cs Φ Ed src) ik)) := by
        cases e : itNode T C ik t it with
        | none => rw [e] at h5; exact nomatch h5
        | some nd => rw [e] at h5; exact itNode_ok o e (ih1 C nd X Ed h5 o)
      have ok : BlkOk X.N X.env.scope sc own := by
        have b := blkOk_by h1
        rw [o.N]
        refine ⟨b.kind, b.uniq, b.ix, fun y hy e => ?_, b.own⟩
        rcases b.free y hy e with z | z
        · rcases o.rel _ _ z with r | r
          · exact .inl r
          · exact .inl r.2
        · rcases o.rel _ _ z with r | r
          · exact .inr r
          · exact .inl r.2
      have blk := fun (s : Shared) (H : Hp) (Cc : Addr) (cl : List (Str × Addr)) (fp : List Addr) => o.blk (scope := sc) (nd := o.nd) s H Cc cl fp
      have ht : ∀ (s : Shared) (H : Hp) (Cc : Addr) (cl : List (Str × Addr)) (fp : List Addr), PTs (X.blk s H sc (compEnvC sc cl Cc X.env) fp) ifs (liftT X.kw B (xE T.cs Φ (fun _ _ _ => False) c)) := fun s H Cc cl fp => by
        match ifs, h6 with
        | [], h6 =>
          rw [isTrueC_ok h6]
          refine ⟨fun pins s σ H Q I q => pts_nil.run pins s σ H Q I ?_⟩
          obtain ⟨sd, hh, Qb, n, ⟨b, e, q⟩, kk⟩ := q
          cases e
          exact kk _ _ _ q n.rh (.refl _ _)
        | [y], h6 => exact pts_one (ih2 _ _ _ _ h6 (blk s H Cc cl fp))
      exact PE.imp (pe_lc (te := lift X.kw B (xE T.cs Φ (fun _ _ _ => False) elt)) o.calm (by rw [o.N]; exact o.nd) hi ok (fun s H Cc cl fp => (chkT_ok (blk s H Cc cl fp) tg [t] false h3).1 rfl t rfl) ht (fun s H Cc cl fp => ih3 _ _ _ _ h7 (blk s H Cc cl fp)) (set_fold h4)) fun σ H Q q => lift_lc (wi := itT (xE T.cs Φ Ed src) ik) h2 q
    · cases h
end DL
namespace DL
open PySem PySem.Spec L2
variable {T : Tab} {Φ : Nat → Ct} {CX : CXT} {k : Nat} {B : Bs} {Ed : XD} {C : CEnv} {X : Cx} {K : KW}

/-! ## 7. Statements -/
inductive Ns where
  | s (st : Stmt) | b (sts : List Stmt)
def isTupE : Expr → Bool
  | .Tuple .. => true
  | _ => false
def isTL : Expr → Bool
  | .Tuple .. => true
  | .List .. => true
  | _ => false
/-- name = [..]: the name a local, on one line, not the block's own -/
def lcSwap (C : CEnv) (tg v : Expr) : Bool := match tg with
  | .Name y py => match v with
    | .ListComp _ _ sc pos => decide (C.nm.lookup y = some .local) && (py.line == pos.line) && !(sc.names.any fun (n, k) => n == y && (k == .local || k == .cell))
    | _ => false
  | _ => false
def isLc : Expr → Bool
  | .ListComp .. => true
  | _ => false
def chkS (T : Tab) : S → CEnv → Ns → Bool
  | .skip, _, n => match n with
    | .b [] => true
    | _ => false
  | .doc, _, n => match n with
    | .s (.Pass _) => true
    | _ => false
  | .seq a b, C, n => match n with
    | .b (st :: rest) => chkS T a C (.s st) && chkS T b C (.b rest)
    | _ => false
  | .asg t e, C, n => match n with
    | .s (.Assign [tg] v _) => (if isComp v then lcSwap C tg v && (match t with | .name _ => true | _ => false) && isLc v && (match e with | .lc .. => true | _ => false) else !(isTL tg && isTupE v)) && chkT t C [tg] false && chk T e C (.e v)
    | _ => false
  | .asgSub o i e, C, n => match n with
    | .s (.Assign [.Subscript x y _] v _) => !isComp v && !isSlc y && chk T o C (.e x) && chk T i C (.e y) && chk T e C (.e v)
    | _ => false
  | .asgPar i j es, C, n => match n with
    | .s (.Assign [.Tuple [.Name x px, .Name y py] _ _] (.Tuple [a, b] _ _) _) => decide (C.N[i]? = some x) && decide (C.N[j]? = some y) && decide (i ≠ j) && decide (C.nm.lookup x = some .local) && decide (C.nm.lookup y = some .local) && decide (x ≠ y) && (px.line == py.line) &&
        !isStar a && !isStar b && !([a, b].all (foldedForSure 8)) && !([a, b].all (constantsAlone 8)) && chk T es C (.a [a, b])
    | _ => false
  | .aug i op e, C, n => match n with
    | .s (.AugAssign (.Name x _) o v _) => decide (op = o) && decide (C.N[i]? = some x) && locB C x && chk T e C (.e v)
    | _ => false
  | .expr e, C, n => match n with
    | .s (.Expr v _) => !isComp v && chk T e C (.e v)
    | _ => false
  | .ret e, C, n => match n with
    | .s (.Return (some v) _) => chk T e C (.e v)
    | _ => false
  | .retN, _, n => match n with
    | .s (.Return none _) => true
    | _ => false
  | .ite c a b, C, n => match n with
    | .s (.If t x y _) => chk T c C (.t t) && chkS T a C (.b x) && chkS T b C (.b y)
    | _ => false
  | .for_ t ik src b, C, n => match n with
    | .s (.For tg it body [] _) => chkT t C [tg] false && !isSetD it && (match itNode T C ik tg it with | some nd => chk T src C nd | none => false) && chkS T b C (.b body)
    | _ => false
  | .while_ c b, C, n => match n with
    | .s (.While t body [] _) => chk T c C (.t t) && chkS T b C (.b body)
    | _ => false
  | .brk, _, n => match n with
    | .s (.Break _) => true
    | _ => false
  | .cnt, _, n => match n with
    | .s (.Continue _) => true
    | _ => false

structure EndsOk (K : KW) (B : Bs) (h : DH) (H : Hp) (N : DEnds) (E : Ends) : Prop where
  nx : ∀ sd' h' σ' H', N.nx sd' h' → Now K B sd' h' σ' H' → Frm h H h' H' → E.nx σ' H'
  rt : ∀ d h' v H', N.rt d h' → Post K h H d h' v H' → E.rt v H'
  bk : ∀ sd' h' σ' H', N.bk sd' h' → Now K B sd' h' σ' H' → Frm h H h' H' → E.bk σ' H'
  ct : ∀ sd' h' σ' H', N.ct sd' h' → Now K B sd' h' σ' H' → Frm h H h' H' → E.ct σ' H'
theorem EndsOk.after {h h1 : DH} {H H1 : Hp} {N : DEnds} {E : Ends} (x : EndsOk K B h H N E) (f : Frm h H h1 H1) : EndsOk K B h1 H1 N E where
  nx := fun sd' h' σ' H' q n f' => x.nx sd' h' σ' H' q n (f.trans f')
  rt := fun d h' v H' q p => x.rt d h' v H' q ⟨p.rd, p.rh, f.trans p.fr⟩
  bk := fun sd' h' σ' H' q n f' => x.bk sd' h' σ' H' q n (f.trans f')
  ct := fun sd' h' σ' H' q n f' => x.ct sd' h' σ' H' q n (f.trans f')
abbrev TSd := DEnds → DSt → DH → Prop
def liftS (K : KW) (B : Bs) (t : TSd) : TS := fun E σ H => ∃ sd h N, Now K B sd h σ H ∧ t N sd h ∧ EndsOk K B h H N E
def GoodS (T : Tab) (Φ : Nat → Ct) (B : Bs) (Ed : XD) (ir : S) (X : Cx) : Ns → Prop
  | .s st => PS X st (liftS X.kw B (xS T.cs Φ Ed ir))
  | .b sts => PSs X sts (liftS X.kw B (xS T.cs Φ Ed ir))

theorem lift_seq {a b : TSd} {D : Ends} {σ : L2.St} {H : Hp} (q : liftS K B (fun N s h => a { N with nx := b N } s h) D σ H) : tSeq (liftS K B a) (liftS K B b) D σ H := by
  obtain ⟨sd, h, N, n, t, e⟩ := q
  refine ⟨sd, h, { N with nx := b N }, n, t, ⟨fun sd' h' σ' H' q n' f => ⟨sd', h', N, n', q, e.after f⟩, e.rt, e.bk, e.ct⟩⟩
theorem lift_skip {D : Ends} {σ : L2.St} {H : Hp} (q : liftS K B (fun N s h => N.nx s h) D σ H) : tNext D σ H := by
  obtain ⟨sd, h, N, n, t, e⟩ := q
  exact e.nx _ _ _ _ t n (.refl _ _)
/-- an assignment, by the reading of its value -/
theorem lift_asg {te : TEd} {t : DL.T} {D : Ends} {σ : L2.St} {H : Hp} (q : liftS K B (fun N s h => te s h fun x h1 => ∃ s1, bindT t x s = some s1 ∧ N.nx s1 h1) D σ H) : tAsg (lift K B te) (liftG K B t) D σ H := by
  obtain ⟨sd, h, N, n, tt, e⟩ := q
  refine ⟨sd, h, _, n, tt, fun d h' v H' q p => ?_⟩
  obtain ⟨s1, eb, q⟩ := q
  exact ⟨d, sd, h', s1, p.rd, n.after p.rh p.fr, eb, fun σ' n' _ => e.nx _ _ _ _ q n' p.fr⟩
theorem lift_asgLc {te : TE} {wi : TId} {tg : DL.T} {tc tx : TEd} {vs : List Nat} (hv : ∀ i ∈ tSlots tg, i ∈ vs) {i : Nat} {D : Ends} {σ : L2.St} {H : Hp}
    (q : liftS K B (fun N s h => wi s h fun items inv h0 => lcD items inv h0 (lcTurn tg tc tx vs s) fun x h1 => ∃ s1, bindT (.name i) x s = some s1 ∧ N.nx s1 h1) D σ H) :
    tAsg (tLc (liftI K B wi) (liftG K B tg) (liftT K B tc) (lift K B tx) vs) (gName i) D σ H := by
  obtain ⟨sd, h, N, n, tt, e⟩ := q
  refine lift_lc hv ⟨sd, h, _, n, tt, fun d h' v H' q p => ?_⟩
  obtain ⟨s1, eb, q⟩ := q
  simp only [bindT, Option.some.injEq] at eb
  subst eb
  have n' := n.after p.rh p.fr
  exact e.nx _ _ _ _ q ⟨n'.rs.set p.rd, n'.rh, n'.fr⟩ p.fr
theorem lift_asgSub {to ti te : TEd} {D : Ends} {σ : L2.St} {H : Hp} (q : liftS K B (fun N s h => te s h fun x h1 => to s h1 fun y h2 => ti s h2 fun z h3 => setD y z x h3 fun h4 => N.nx s h4) D σ H) :
    tAsg (lift K B te) (gSub (lift K B to) (lift K B ti) (liftSet K)) D σ H := by
  obtain ⟨sd, h, N, n, tt, e⟩ := q
  refine ⟨sd, h, _, n, tt, fun d h1 v H1 q p => ?_⟩
  have n1 := n.after p.rh p.fr
  refine ⟨sd, h1, _, n1, q, fun d2 h2 v2 H2 q2 p2 => ?_⟩
  have n2 := n1.after p2.rh p2.fr
  refine ⟨sd, h2, _, n2, q2, fun d3 h3 v3 H3 q3 p3 => ?_⟩
  have n3 := n2.after p3.rh p3.fr
  refine ⟨d2, d3, d, h3, _, p2.rd.mono (n2.tm p3.fr), p3.rd, (p.rd.mono (n1.tm p2.fr)).mono (n2.tm p3.fr), p3.rh, q3, fun h4 H4 q4 r4 f4 => ?_⟩
  exact e.nx _ _ _ _ q4 (n3.after r4 f4) (((p.fr.trans p2.fr).trans p3.fr).trans f4)
theorem ip_D (op : Operator) : PIp X op (liftR2 X.kw (augD op)) := by
  intro pins s σ H x y v u Q I rx ry ⟨d1, d2, h, Qd, r1, r2, rh, t, k⟩
  cases op with
  | Add =>
    cases d1 with
    | int i =>
      cases d2 with
      | int j => cases r1; cases r2; exact iop_add pins s σ H _ _ v u Q I rx ry ⟨i, j, rfl, rfl, k _ _ _ _ t (.scal rh (.int _))⟩
      | _ => exact t.elim
    | str i =>
      cases d2 with
      | str j => cases r1; cases r2; exact iop_add_str pins s σ H _ _ v u Q I rx ry ⟨i, j, rfl, rfl, t.1, k _ _ _ _ t.2 (.scal rh (.str _))⟩
      | _ => exact t.elim
    | ref a =>
      cases d2 with
      | ref b =>
        obtain ⟨xs, ys, e1, e2, hz, q⟩ := t
        cases r1; cases r2
        obtain ⟨vs, f1, q1⟩ := rh.lst e1
        obtain ⟨ws, f2, q2⟩ := rh.lst e2
        exact iop_ext pins s σ H _ _ v u Q I rx ry ⟨a, b, vs, ws, rfl, rfl, f1, f2, by rw [← q1.length, ← q2.length]; exact hz, k _ _ _ _ q (.write rh e1 (q1.append q2) (.ref _))⟩
      | _ => exact t.elim
    | _ => exact t.elim
  | Sub =>
    cases d1 with
    | int i =>
      cases d2 with
      | int j => cases r1; cases r2; exact iop_sub pins s σ H _ _ v u Q I rx ry ⟨i, j, rfl, rfl, k _ _ _ _ t (.scal rh (.int _))⟩
      | _ => exact t.elim
    | _ => exact t.elim
  | _ => exact t.elim
theorem lift_aug {te : TEd} {op : Operator} {i : Nat} {D : Ends} {σ : L2.St} {H : Hp} (q : liftS K B (fun N s h => ∃ d, s[i]? = some (some d) ∧ te s h fun x h1 => augD op d x h1 fun z h2 => N.nx (s.set i (some z)) h2) D σ H) :
    tAug i (lift K B te) (liftR2 K (augD op)) D σ H := by
  obtain ⟨sd, h, N, n, ⟨d, e0, tt⟩, e⟩ := q
  obtain ⟨v, e1, r⟩ := n.rs.at_ i d e0
  refine ⟨v, e1, sd, h, _, n, tt, fun d2 h1 v2 H1 q p => ?_⟩
  have n1 := n.after p.rh p.fr
  refine ⟨d, d2, h1, _, r.mono (n.tm p.fr), p.rd, p.rh, q, fun d3 h2 v3 H2 q2 p2 => ?_⟩
  have n2 := n1.after p2.rh p2.fr
  exact e.nx _ _ _ _ q2 ⟨n2.rs.set p2.rd, n2.rh, n2.fr⟩ (p.fr.trans p2.fr)
theorem lift_par {ta : TEd} {i j : Nat} {D : Ends} {σ : L2.St} {H : Hp} (q : liftS K B (fun N s h => ta s h fun x h1 => ∃ v w, x = .tup [v, w] ∧ N.nx ((s.set i (some v)).set j (some w)) h1) D σ H) :
    tPar i j (liftA K B ta) D σ H := by
  obtain ⟨sd, h, N, n, tt, e⟩ := q
  refine ⟨sd, h, _, n, tt, fun ds h1 vs H1 q r rh fr => ?_⟩
  obtain ⟨v, w, ex, q⟩ := q
  cases ex
  obtain ⟨a, b, rfl, r1, r2⟩ := r.two
  have n1 := n.after rh fr
  exact ⟨a, b, rfl, e.nx _ _ _ _ q ⟨(n1.rs.set r1).set r2, n1.rh, n1.fr⟩ fr⟩
theorem lift_expr {te : TEd} {D : Ends} {σ : L2.St} {H : Hp} (q : liftS K B (fun N s h => te s h fun _ h1 => N.nx s h1) D σ H) : tDrop (lift K B te) D σ H := by
  obtain ⟨sd, h, N, n, tt, e⟩ := q
  exact ⟨sd, h, _, n, tt, fun d h' v H' q p => e.nx _ _ _ _ q (n.after p.rh p.fr) p.fr⟩
theorem lift_ret {te : TEd} {D : Ends} {σ : L2.St} {H : Hp} (q : liftS K B (fun N s h => te s h N.rt) D σ H) : tRet (lift K B te) D σ H := by
  obtain ⟨sd, h, N, n, tt, e⟩ := q
  exact ⟨sd, h, _, n, tt, fun d h' v H' q p => e.rt _ _ _ _ q p⟩
theorem lift_if {tc : TEd} {a b : TSd} {D : Ends} {σ : L2.St} {H : Hp} (q : liftS K B (fun N s h => tc s h fun x h1 => ∃ k, x = .bl k ∧ if k = true then a N s h1 else b N s h1) D σ H) : tIfS (liftT K B tc) (liftS K B a) (liftS K B b) D σ H := by
  obtain ⟨sd, h, N, n, tt, e⟩ := q
  refine ⟨sd, h, _, n, tt, fun b h' H' q rh fr => ?_⟩
  cases b with
  | true => exact ⟨sd, h', N, n.after rh fr, q, e.after fr⟩
  | false => exact ⟨sd, h', N, n.after rh fr, q, e.after fr⟩
theorem lift_for {wi : TId} {t : DL.T} {b : TSd} {D : Ends} {σ : L2.St} {H : Hp} (q : liftS K B (fun N s h => wi s h fun items inv h1 => forD items inv s h1 (fun y nx s h => ∃ s1, bindT t y s = some s1 ∧ b { N with nx := nx, ct := nx, bk := N.nx } s1 h) N.nx) D σ H) :
    tFor (liftI K B wi) (liftG K B t) (liftS K B b) D σ H := by
  obtain ⟨sd, h, N, n, tt, e⟩ := q
  refine ⟨sd, h, _, n, tt, fun items inv h0 H0 J G q rh0 fr0 wk g0 => ?_⟩
  unfold forD at q
  obtain ⟨W, w0, wi', step, fin⟩ := q
  have n0 := n.after rh0 fr0
  refine ⟨fun i m σ H1 => m = items.length - i ∧ i ≤ items.length ∧ ∃ sd1 h1, W i sd1 h1 ∧ Now K B sd1 h1 σ H1 ∧ Frm h0 H0 h1 H1, ⟨items.length, by simp, Nat.zero_le _, sd, h0, w0, n0, .refl _ _⟩, ?_⟩
  rintro i m σ1 H1 ⟨rfl, hi, sd1, h1, w1, n1, f1⟩
  have g1 : G H1 := wk.mono _ _ (Frm.tm rh0 f1) g0
  by_cases hlt : i < items.length
  · refine .inr ⟨wk.goes i h1 H1 hlt n1.rh (wi' _ _ _ hi w1) g1, fun σ2 H2 => ∃ sd2 h2, W (i + 1) sd2 h2 ∧ Now K B sd2 h2 σ2 H2 ∧ Frm h0 H0 h2 H2, fun σ2 H2 h => ⟨items.length - (i + 1), by omega, rfl, hlt, h⟩, fun x H2 y => ?_⟩
    obtain ⟨d, ed, rd, rh2, fr2⟩ := wk.yields i h1 H1 x H2 hlt n1.rh (wi' _ _ _ hi w1) g1 y
    obtain ⟨s1, eb, tt⟩ := step i d sd1 h1 ed w1
    have n2 := n1.after rh2 fr2
    refine ⟨d, sd1, h1, s1, rd, n2, eb, fun σ' n3 _ => ⟨s1, h1, _, n3, tt, ?_⟩⟩
    exact ⟨fun sd' h' σ' H' q n' f' => ⟨sd', h', q, n', (f1.trans fr2).trans f'⟩, fun d h' v H' q p => e.rt _ _ _ _ q ⟨p.rd, p.rh, ((fr0.trans f1).trans fr2).trans p.fr⟩,
      fun sd' h' σ' H' q n' f' => e.nx _ _ _ _ q n' (((fr0.trans f1).trans fr2).trans f'), fun sd' h' σ' H' q n' f' => ⟨sd', h', q, n', (f1.trans fr2).trans f'⟩⟩
  · have e2 : i = items.length := by omega
    subst e2
    exact .inl ⟨wk.stops h1 H1 n1.rh (wi' _ _ _ hi w1) g1, e.nx _ _ _ _ (fin sd1 h1 w1) n1 (fr0.trans f1)⟩
theorem lift_while {tc : TEd} {b : TSd} {D : Ends} {σ : L2.St} {H : Hp} (q : liftS K B (fun N s h => whileD (fun s h Q => tc s h Q) (fun nx s h => b { N with nx := nx, ct := nx, bk := N.nx } s h) N.nx s h) D σ H) :
    tWhile (liftT K B tc) (liftS K B b) D σ H := by
  obtain ⟨sd, h, N, n, q, e⟩ := q
  unfold whileD at q
  obtain ⟨W, ⟨m, w0⟩, step⟩ := q
  refine ⟨fun m σ H1 => ∃ sd1 h1, W m sd1 h1 ∧ Now K B sd1 h1 σ H1 ∧ Frm h H h1 H1, ⟨m, sd, h, w0, n, .refl _ _⟩, ?_⟩
  rintro m σ1 H1 ⟨sd1, h1, w1, n1, f1⟩
  refine ⟨sd1, h1, _, n1, step m sd1 h1 w1, fun b h2 H2 q rh fr => ?_⟩
  have n2 := n1.after rh fr
  cases b with
  | true =>
    refine ⟨fun σ' H' => ∃ sd' h' m', m' < m ∧ W m' sd' h' ∧ Now K B sd' h' σ' H' ∧ Frm h H h' H', fun σ' H' ⟨sd', h', m', hm, w', n', f'⟩ => ⟨m', hm, sd', h', w', n', f'⟩, sd1, h2, _, n2, q, ?_⟩
    exact ⟨fun sd' h' σ' H' ⟨m', hm, w'⟩ n' f' => ⟨sd', h', m', hm, w', n', (f1.trans fr).trans f'⟩, fun d h' v H' q p => e.rt _ _ _ _ q ⟨p.rd, p.rh, (f1.trans fr).trans p.fr⟩,
      fun sd' h' σ' H' q n' f' => e.nx _ _ _ _ q n' ((f1.trans fr).trans f'), fun sd' h' σ' H' ⟨m', hm, w'⟩ n' f' => ⟨sd', h', m', hm, w', n', (f1.trans fr).trans f'⟩⟩
  | false => exact e.nx _ _ _ _ q n2 (f1.trans fr)
end DL
namespace DL
open PySem PySem.Spec L2
variable {T : Tab} {Φ : Nat → Ct} {CX : CXT} {k : Nat} {B : Bs} {Ed : XD} {C : CEnv} {X : Cx} {K : KW}

theorem noComp_swap {v : Expr} {tg : Option Expr} {l : Nat} {env : Env} (h : isComp v = false) : swapsWith v tg l env = pure false := by
  cases v <;> first | rfl | (exact nomatch h)
theorem noComp_sole {v tg : Expr} {l : Nat} {env : Env} (h : isComp v = false) : swapsWithSole [tg] v l env = pure false := noComp_swap h
theorem noTL_stores {tg v : Expr} {env : Env} (h : (isTL tg && isTupE v) = false) : swappedStores [tg] v env = pure none := by
  cases tg <;> first | rfl | (cases v <;> first | rfl | (exact nomatch h))
theorem sub_assign {x y : Expr} {p : Pos} {env : Env} (h : isSlc y = false) : ∀ v, assign (.Subscript x y p) env v = (do
      let ov ← holding [v] (eval x env)
      let iv ← holding [v, ov] (eval y env)
      standAt p
      holding [v, ov, iv] (setItem ov iv v)
      release [v, ov, iv] []) := by
  cases y <;> first | (exact fun _ => rfl) | (exact nomatch h)
theorem par_stores {x y : Str} {a b : Expr} {px py pt pt2 : Pos} {kt k2 : Nat} {env : Env} (hk : env.scope.kind = .function) (hx : env.scope.names.lookup x = some .local) (hy : env.scope.names.lookup y = some .local) (hl : (px.line == py.line) = true)
    (hxy : x ≠ y) (ha : isStar a = false) (hb : isStar b = false) (h1 : ([a, b].all (foldedForSure 8)) = false) (h2 : ([a, b].all (constantsAlone 8)) = false) :
    swappedStores [.Tuple [.Name x px, .Name y py] kt pt] (.Tuple [a, b] k2 pt2) env = pure (some [x, y]) := by
  have e0 : env.blockKind = .function := by simp [Env.blockKind, hk]
  have k1 : env.kindOf x = some .local := hx
  have k2 : env.kindOf y = some .local := hy
  have hl2 : (py.line == px.line) = true := by
    rw [beq_iff_eq] at hl ⊢
    exact hl.symm
  have ex : (Expr.Name x px).pos.line = px.line := rfl
  have dd : ([x, y] : List Str).eraseDups = [x, y] := by
    simp [List.eraseDups_cons, hxy, Ne.symm hxy]
  unfold swappedStores
  simp only [e0, h1, h2, ex]
  simp
  refine Eq.trans (if_neg ?_) ?_
  · rintro (h | h)
    · revert ha h; cases a <;> simp [isStar]
    · revert hb h; cases b <;> simp [isStar]
  · have l2 := eq_of_beq hl2
    simp only [List.filterMap_cons, List.filterMap_nil, k1, k2, l2, ex, and_self, if_true, eq_self_iff_true]
    simp [dd]
theorem chkT_star {t : DL.T} {tg : Expr} (h : chkT t C [tg] false = true) : isStar tg = false := by
  cases t <;> cases tg <;> first | rfl | (exact nomatch h)
/-- the parts of a comprehension -/
theorem lc_parts (o : XOk T Φ CX k B Ed C X) {tg : DL.T} {ik : ItK} {src c elt : E} {own : List (Str × Nat)} {x t it : Expr} {ifs : List Expr} {sc : Scope} {pos : Pos}
    (h : chk T (.lc tg ik src c elt own) C (.e (.ListComp x [⟨t, it, ifs, 0⟩] sc pos)) = true) :
    PI X t it (liftI X.kw B (itT (xE T.cs Φ Ed src) ik)) ∧ BlkOk X.N X.env.scope sc own ∧ (∀ i ∈ tSlots tg, i ∈ own.map (·.2)) ∧ isSetD it = false ∧
    (∀ (s : Shared) (H : Hp) (Cc : Addr) (cl : List (Str × Addr)) (fp : List Addr), PG (X.blk s H sc (compEnvC sc cl Cc X.env) fp) t (liftG X.kw B tg)) ∧
    (∀ (s : Shared) (H : Hp) (Cc : Addr) (cl : List (Str × Addr)) (fp : List Addr), PTs (X.blk s H sc (compEnvC sc cl Cc X.env) fp) ifs (liftT X.kw B (xE T.cs Φ (fun _ _ _ => False) c))) ∧
    (∀ (s : Shared) (H : Hp) (Cc : Addr) (cl : List (Str × Addr)) (fp : List Addr), PE (X.blk s H sc (compEnvC sc cl Cc X.env) fp) x (lift X.kw B (xE T.cs Φ (fun _ _ _ => False) elt))) := by
  unfold chk at h
  simp only [Bool.and_eq_true, decide_eq_true_eq, Bool.not_eq_true'] at h
  obtain ⟨⟨⟨⟨⟨⟨h1, h2⟩, h3⟩, h4⟩, h5⟩, h6⟩, h7⟩ := h
  have hi : PI X t it (liftI X.kw B (itT (xE T.cs Φ Ed src) ik)) := by
    cases e : itNode T C ik t it with
    | none => rw [e] at h5; exact nomatch h5
    | some nd => rw [e] at h5; exact itNode_ok o e (chk_ok src C nd X Ed h5 o)
  have ok : BlkOk X.N X.env.scope sc own := by
    have b := blkOk_by h1
    rw [o.N]
    refine ⟨b.kind, b.uniq, b.ix, fun y hy e => ?_, b.own⟩
    rcases b.free y hy e with z | z
    · rcases o.rel _ _ z with r | r
      · exact .inl r
      · exact .inl r.2
    · rcases o.rel _ _ z with r | r
      · exact .inr r
      · exact .inl r.2
  have blk := fun (s : Shared) (H : Hp) (Cc : Addr) (cl : List (Str × Addr)) (fp : List Addr) => o.blk (scope := sc) (nd := o.nd) s H Cc cl fp
  refine ⟨hi, ok, h2, h4, fun s H Cc cl fp => (chkT_ok (blk s H Cc cl fp) tg [t] false h3).1 rfl t rfl, fun s H Cc cl fp => ?_, fun s H Cc cl fp => chk_ok elt _ _ _ _ h7 (blk s H Cc cl fp)⟩
  match ifs, h6 with
  | [], h6 =>
    rw [isTrueC_ok h6]
    refine ⟨fun pins s σ H Q I q => pts_nil.run pins s σ H Q I ?_⟩
    obtain ⟨sd, hh, Qb, n, ⟨b, e, q⟩, kk⟩ := q
    cases e
    exact kk _ _ _ q n.rh (.refl _ _)
  | [y], h6 => exact pts_one (chk_ok c _ _ _ _ h6 (blk s H Cc cl fp))
theorem chk_lc_shape {tg : DL.T} {ik : ItK} {src c elt : E} {own : List (Str × Nat)} {v : Expr} (h : chk T (.lc tg ik src c elt own) C (.e v) = true) : ∃ x t it ifs sc pos, v = .ListComp x [⟨t, it, ifs, 0⟩] sc pos := by
  unfold chk at h
  split at h
  · rename_i e; cases e; exact ⟨_, _, _, _, _, _, rfl⟩
  · cases h
theorem chkS_ok : ∀ (ir : S) (C : CEnv) (n : Ns) (X : Cx), chkS T ir C n = true → XOk T Φ CX k B Ed C X → X.env.scope.kind = .function → GoodS T Φ B Ed ir X n := by
  intro ir
  induction ir with
  | skip =>
    intro C n X h o hf
    unfold chkS at h
    split at h
    · exact PSs.imp pss_nil fun _ _ _ q => lift_skip q
    · cases h
  | doc =>
    intro C n X h o hf
    unfold chkS at h
    split at h
    · exact PS.imp ps_pass fun _ _ _ q => lift_skip q
    · cases h
  | seq a b iha ihb =>
    intro C n X h o hf
    unfold chkS at h
    split at h
    · simp only [Bool.and_eq_true] at h
      exact PSs.imp (pss_cons (iha C _ X h.1 o hf) (ihb C _ X h.2 o hf)) fun _ _ _ q => lift_seq q
    · cases h
  | asg t e =>
    intro C n X h o hf
    unfold chkS at h
    split at h
    · rename_i tg v pos
      simp only [Bool.and_eq_true] at h
      obtain ⟨⟨h1, h2⟩, h3⟩ := h
      cases hc : isComp v with
      | false =>
        rw [hc] at h1
        simp only [Bool.false_eq_true, if_false, Bool.not_eq_true'] at h1
        exact PS.imp (ps_asg (chk_ok e C _ X Ed h3 o) ((chkT_ok o t [tg] false h2).1 rfl tg rfl) (noComp_sole hc) (noTL_stores h1) (by rw [assignEach_cons (chkT_star h2)]; rfl)) fun _ _ _ q => lift_asg q
      | true =>
        rw [hc] at h1
        simp only [if_true, Bool.and_eq_true] at h1
        obtain ⟨⟨⟨h4, h5⟩, h6⟩, h7⟩ := h1
        cases t with
        | name i =>
          cases e with
          | lc tg2 ik src c elt own =>
            obtain ⟨x, t2, it, ifs, sc, pos2, rfl⟩ := chk_lc_shape h3
            cases tg with
            | Name y py =>
              simp only [lcSwap, Bool.and_eq_true, decide_eq_true_eq, Bool.not_eq_true'] at h4
              obtain ⟨⟨h8, h9⟩, h10⟩ := h4
              have hl : X.env.scope.names.lookup y = some .local := by
                rcases o.rel _ _ h8 with r | r
                · exact r
                · exact nomatch r.1
              simp only [chkT, Bool.and_eq_true, decide_eq_true_eq] at h2
              obtain ⟨p1, p2, p3, p4, p5, p6, p7⟩ := lc_parts o h3
              exact PS.imp (ps_setLc (te := lift X.kw B (xE T.cs Φ (fun _ _ _ => False) elt)) o.calm (by rw [o.N]; exact o.nd) (by rw [o.N]; exact h2.1) hl (sw_true hf hl h9 h10) p1 p2 p5 p6 p7 (set_fold p4)) fun _ _ _ q => lift_asgLc (te := lift X.kw B (xE T.cs Φ (fun _ _ _ => False) elt)) (wi := itT (xE T.cs Φ Ed src) ik) p3 q
            | _ => exact nomatch h4
          | _ => exact nomatch h7
        | _ => exact nomatch h5
    · cases h
  | asgSub oo i e =>
    intro C n X h o hf
    unfold chkS at h
    split at h
    · simp only [Bool.and_eq_true, Bool.not_eq_true'] at h
      obtain ⟨⟨⟨⟨h1, h2⟩, h3⟩, h4⟩, h5⟩ := h
      exact PS.imp (ps_asg (chk_ok e C _ X Ed h5 o) (pg_sub (chk_ok oo C _ X Ed h3 o) (chk_ok i C _ X Ed h4 o) (set_D o.room.units) (sub_assign h2)) (noComp_sole h1) rfl) fun _ _ _ q => lift_asgSub q
    · cases h
  | asgPar i j es =>
    intro C n X h o hf
    unfold chkS at h
    split at h
    · rename_i x px y py kt pt a b k2 pt2 pos
      simp only [Bool.and_eq_true, Bool.not_eq_true', decide_eq_true_eq] at h
      obtain ⟨⟨⟨⟨⟨⟨⟨⟨⟨⟨⟨h1, h2⟩, h3⟩, h4⟩, h5⟩, h6⟩, h7⟩, h8⟩, h9⟩, h10⟩, h11⟩, h12⟩ := h
      have lx : X.env.scope.names.lookup x = some .local := by
        rcases o.rel _ _ h4 with r | r
        · exact r
        · exact nomatch r.1
      have ly : X.env.scope.names.lookup y = some .local := by
        rcases o.rel _ _ h5 with r | r
        · exact r
        · exact nomatch r.1
      exact PS.imp (ps_par o.calm (by rw [o.N]; exact o.nd) (by rw [o.N]; exact h1) (by rw [o.N]; exact h2) h3 lx ly (chk_ok es C _ X Ed h12 o) (par_stores hf lx ly h7 h6 h8 h9 h10 h11) rfl) fun _ _ _ q => lift_par q
    · cases h
  | aug i op e =>
    intro C n X h o hf
    unfold chkS at h
    split at h
    · simp only [Bool.and_eq_true, decide_eq_true_eq] at h
      obtain ⟨⟨⟨rfl, h1⟩, h2⟩, h3⟩ := h
      obtain ⟨l1, l2⟩ := o.loc h2
      exact PS.imp (ps_aug (by rw [o.N]; exact o.nd) (by rw [o.N]; exact h1) l1 (chk_ok e C _ X Ed h3 o) (ip_D _) l2) fun _ _ _ q => lift_aug q
    · cases h
  | expr e =>
    intro C n X h o hf
    unfold chkS at h
    split at h
    · simp only [Bool.and_eq_true, Bool.not_eq_true'] at h
      exact PS.imp (ps_expr (chk_ok e C _ X Ed h.2 o) (noComp_swap h.1)) fun _ _ _ q => lift_expr q
    · cases h
  | ret e =>
    intro C n X h o hf
    unfold chkS at h
    split at h
    · exact PS.imp (ps_ret (chk_ok e C _ X Ed h o)) fun _ _ _ q => lift_ret q
    · cases h
  | retN =>
    intro C n X h o hf
    unfold chkS at h
    split at h
    · refine PS.imp ps_retN fun D σ H ⟨sd, hh, N, n, t, e⟩ => e.rt _ _ _ _ t ⟨.non, n.rh, .refl _ _⟩
    · cases h
  | ite c a b iha ihb =>
    intro C n X h o hf
    unfold chkS at h
    split at h
    · simp only [Bool.and_eq_true] at h
      exact PS.imp (ps_if (chk_ok c C _ X Ed h.1.1 o) (iha C _ X h.1.2 o hf) (ihb C _ X h.2 o hf)) fun _ _ _ q => lift_if q
    · cases h
  | for_ t ik src b ihb =>
    intro C n X h o hf
    unfold chkS at h
    split at h
    · rename_i tg it body pos
      simp only [Bool.and_eq_true, Bool.not_eq_true'] at h
      obtain ⟨⟨⟨h1, h2⟩, h3⟩, h4⟩ := h
      have hi : PI X tg it (liftI X.kw B (itT (xE T.cs Φ Ed src) ik)) := by
        cases e : itNode T C ik tg it with
        | none => rw [e] at h3; exact nomatch h3
        | some nd => rw [e] at h3; exact itNode_ok o e (chk_ok src C nd X Ed h3 o)
      exact PS.imp (ps_for o.own o.calm hi ((chkT_ok o t [tg] false h1).1 rfl tg rfl) (ihb C _ X h4 o hf) (set_fold h2)) fun _ _ _ q => lift_for (wi := itT (xE T.cs Φ Ed src) ik) q
    · cases h
  | while_ c b ihb =>
    intro C n X h o hf
    unfold chkS at h
    split at h
    · simp only [Bool.and_eq_true] at h
      exact PS.imp (ps_while o.own (chk_ok c C _ X Ed h.1 o) (ihb C _ X h.2 o hf)) fun _ _ _ q => lift_while q
    · cases h
  | brk =>
    intro C n X h o hf
    unfold chkS at h
    split at h
    · refine PS.imp ps_break fun D σ H ⟨sd, hh, N, n, t, e⟩ => e.bk _ _ _ _ t n (.refl _ _)
    · cases h
  | cnt =>
    intro C n X h o hf
    unfold chkS at h
    split at h
    · refine PS.imp ps_continue fun D σ H ⟨sd, hh, N, n, t, e⟩ => e.ct _ _ _ _ t n (.refl _ _)
    · cases h
end DL
namespace DL
open PySem PySem.Spec L2

/-! ## 8. A def keeps its contract; the end -/
/-- the values at a def's entry -/
def dstart (n : Nat) (ds : List D) : DSt := ds.map some ++ List.replicate (n - ds.length) none
theorem RS.start {K : KW} {H : Hp} {N : List Str} {ds : List D} {vs : List V} (r : RDs K H ds vs) : RS K H (dstart N.length ds) (start N vs) := by
  refine ⟨?_, fun i d e => ?_⟩
  · unfold dstart L2.start
    simp [r.length]
  · unfold dstart at e
    unfold L2.start
    by_cases hi : i < ds.length
    · rw [List.getElem?_append_left (by simpa using hi), List.getElem?_map] at e
      cases e1 : ds[i]? with
      | none => rw [e1] at e; cases e
      | some x =>
        rw [e1] at e
        cases e
        obtain ⟨v, e2, q⟩ := r.get e1
        exact ⟨v, by rw [List.getElem?_append_left (by rw [List.length_map, ← r.length]; exact hi), List.getElem?_map, e2]; rfl, q⟩
    · rw [List.getElem?_append_right (by simpa using Nat.le_of_not_lt hi)] at e
      rw [List.getElem?_replicate] at e
      split at e <;> cases e
/-- what the top has left for a table -/
structure TabAt (T : Tab) (Φ : Nat → Ct) (CX : CXT) (k : Nat) (P : Program) (w : World) (K : PySem.W.Frag) (mg : Str → Option Value) (base : Heap) : Prop where
  free : ∀ x ∈ T.free, mg x = none
  cst : ∀ x j, T.gl.lookup x = some j → ∃ u v, mg x = some u ∧ RelV v u ∧ ∀ H, RD ⟨K, w⟩ H (T.cs j) v
  fns : ∀ x f, T.fn.lookup x = some f → ∃ (fa : Addr) (fd : FuncData), mg x = some (.ref fa) ∧ PySem.W.keepIn K (.ref fa) = true ∧ FnOk P w K mg base CX k fa fd (T.ps f) (liftSp ⟨K, w⟩ (Φ f)) ∧ Binds K fd (T.ps f) [] ∧
    ∀ n ks π, (f, n, ks, π) ∈ T.sh → KBn K fd (T.ps f) n ks (fun us ws => permL π (us ++ ws)) (fun vs zs => permL π (vs ++ zs))
def CtLen (n : Nat) (c : Ct) : Prop := ∀ ds h Q E, c ds h Q E → ds.length = n
theorem CXno0 : CXno CX0 := fun _ _ _ _ _ _ _ h => h
section
variable {P : Program} {w : World} {K : PySem.W.Frag} {mg : Str → Option Value} {base : Heap}
theorem fn_ok {x qual : Str} {st : Stmt} {f : Addr} {fd : FuncData} {N ps : List Str} {k : Nat} {T : Tab} {Φ : Nat → Ct} {ir : S} {c : Ct} (F : Fun K x qual st f fd) (S : FnScope N ps (defScope st)) (tab : TabAt T Φ CX0 k P w K mg base)
    (hc : chkS T ir ⟨N, (defScope st).names⟩ (.b (defBody st)) = true) (hl : CtLen ps.length c)
    (hb : ∀ ds h Q E, c ds h Q E → xS T.cs Φ E ir { nx := fun _ h' => Q .non h', rt := Q } (dstart N.length ds) h) : FnOk P w K mg base CX0 (k + 1) f fd ps (liftSp ⟨K, w⟩ c) := by
  refine F.ok S (fun vs H Q E h => ?_) (fun cdv A outer s H vs Q E hr h => ?_)
  · obtain ⟨ds, hd, Qd, Ed, r, _, q, _⟩ := h
    rw [← r.length]
    exact hl _ _ _ _ q
  · obtain ⟨ds, hd, Qd, Ed, r, rh, q, kq, ke⟩ := h
    refine ⟨liftS ⟨K, w⟩ (hd, H) (xS T.cs Φ Ed ir), chkS_ok (CX := CX0) (k := k) (Ed := Ed) ir _ _ _ hc ?_ S.kind, ?_⟩
    · exact { N := rfl, nd := S.nd, calm := rfl, room := hr, rel := fun _ _ e => .inl e, fnc := fun _ _ => rfl, free := tab.free, cst := tab.cst, fns := fun x f e => ⟨tab.fns x f e⟩, pass := fun _ _ _ _ _ _ _ z => z.elim, own := PassesOwn.never, cx := CXno0 }
    · refine ⟨dstart N.length ds, hd, _, ⟨RS.start r, rh, .refl _ _⟩, hb _ _ _ _ q, ⟨fun sd' h' σ' H' q n f => kq _ _ _ _ q ⟨.non, n.rh, f⟩, fun d h' v H' q p => kq _ _ _ _ q p, fun _ _ _ _ z _ _ => z.elim, fun _ _ _ _ z _ _ => z.elim⟩⟩
/-- a def that is not to be called here -/
theorem FnOk.vac {CX : CXT} {k : Nat} {f : Addr} {fd : FuncData} {ps : List Str} : FnOk P w K mg base CX k f fd ps (liftSp ⟨K, w⟩ fun _ _ _ _ => False) :=
  ⟨fun _ _ _ _ ⟨_, _, _, _, _, _, z, _⟩ => z.elim, fun _ _ _ _ _ _ _ _ _ _ _ _ _ ⟨_, _, _, _, _, _, z, _⟩ => z.elim⟩
theorem FnOk.weak {CX : CXT} {k : Nat} {f : Addr} {fd : FuncData} {ps : List Str} {c c' : Ct} (F : FnOk P w K mg base CX k f fd ps (liftSp ⟨K, w⟩ c)) (h : ∀ ds h Q E, c' ds h Q E → c ds h Q E) : FnOk P w K mg base CX k f fd ps (liftSp ⟨K, w⟩ c') :=
  F.imp fun _ _ _ _ ⟨ds, hd, Qd, Ed, r, rh, q, kq, ke⟩ => ⟨ds, hd, Qd, Ed, r, rh, h _ _ _ _ q, kq, ke⟩
/-- a def as the top has left it -/
structure DefAt (K : PySem.W.Frag) (mg : Str → Option Value) (x : Str) (st : Stmt) (f : Addr) (fd : FuncData) : Prop where
  at_ : mg x = some (.ref f)
  fn : Fun K x x st f fd
theorem def_at {h : Heap} {x : Str} {st : Stmt} {f : Addr} {oc kV dc pm cd ct : Value} {od an : Option Addr} {sl : Array (Option Value)} (X : K.In h) (G : h.Ns mainGlobals mg)
    (a : PySem.W.nsIn K mainGlobals x = some (some (.ref f))) (l : K.lookup f = some ⟨oc, od, .func (PySem.W.fnOf x x (defArgs st) (defBody st) (defScope st) .none kV dc pm an cd ct), sl⟩)
    (c : PySem.W.codeIn K cd x = true) (k : PySem.W.keepIn K (.ref f) = true) : DefAt K mg x st f (PySem.W.fnOf x x (defArgs st) (defBody st) (defScope st) .none kV dc pm an cd ct) :=
  ⟨PySem.W.mg_of X G a, fun_mk l c k⟩
/-- .. with its contract, for a table -/
theorem DefAt.tab {CX : CXT} {k : Nat} {x : Str} {st : Stmt} {f : Addr} {fd : FuncData} {ps : List Str} {c : Ct} {sh : List (Nat × Nat × List Str × List Nat)} {i : Nat} (d : DefAt K mg x st f fd) (F : FnOk P w K mg base CX k f fd ps (liftSp ⟨K, w⟩ c)) (b : Binds K fd ps [])
    (kb : ∀ n ks π, (i, n, ks, π) ∈ sh → KBn K fd ps n ks (fun us ws => permL π (us ++ ws)) (fun vs zs => permL π (vs ++ zs))) :
    ∃ (fa : Addr) (fd : FuncData), mg x = some (.ref fa) ∧ PySem.W.keepIn K (.ref fa) = true ∧ FnOk P w K mg base CX k fa fd ps (liftSp ⟨K, w⟩ c) ∧ Binds K fd ps [] ∧
      ∀ n ks π, (i, n, ks, π) ∈ sh → KBn K fd ps n ks (fun us ws => permL π (us ++ ws)) (fun vs zs => permL π (vs ++ zs)) := ⟨f, fd, d.at_, d.fn.kp, F, b, kb⟩
theorem kbn_of {fd : FuncData} {ps : List Str} {n : Nat} {ks : List Str} {π : List Nat} (h : ∀ (s : Shared) (us ws : List Value), us.length = n → ws.length = ks.length → BindsTo s fd ⟨us, ks.zip ws⟩ (ps.zip (permL π (us ++ ws)))) :
    KBn K fd ps n ks (fun us ws => permL π (us ++ ws)) (fun vs zs => permL π (vs ++ zs)) := ⟨fun s us ws _ => h s us ws, fun r q => permL_vals (r.append q)⟩
end
/-- the law's def: True for every list of at most 63 ints -/
def cLaw : Ct := fun ds _ Q _ => ∃ ns : List Int, ds = [.rl (ns.map D.int)] ∧ ns.length ≤ 63 ∧ (∀ z ∈ ns, Builtin.Int.intBits z ≤ 1048576) ∧ ∀ h', Q (.bl true) h'
theorem law_sp {K : KW} {H : Hp} {a : Addr} {ns : List Int} (h1 : ns.length ≤ 63) (h2 : ∀ z ∈ ns, Builtin.Int.intBits z ≤ 1048576) (hO : Only H) (hS : SqL K H a (ns.map V.int)) :
    liftSp K cLaw [.ref a] H (fun v _ => v = .bl true) fun _ _ _ => False := by
  have fz : FzL K H a (ns.map V.int) := by
    rcases hS with (h | ⟨o, h⟩) | h
    · rcases hO a with z | ⟨o, xs, z⟩
      · rw [z] at h; cases h
      · rw [z] at h; cases h
    · exact .inl ⟨o, h⟩
    · exact .inr h
  exact ⟨[.rl (ns.map D.int)], fun _ => none, fun d _ => d = .bl true, fun _ _ _ => False, .cons (.rl fz (RDs.ofInts ns)) .nil, (fun _ _ e => nomatch e), ⟨ns, rfl, h1, h2, fun _ => rfl⟩,
    fun d h' v H' q p => by subst q; obtain ⟨r, _, _⟩ := p; cases r; rfl, fun _ _ _ _ z _ _ => z.elim⟩
theorem law_end {l : PySem.W.OpenLaw} {k : Nat} {q : Program} {loose : List Str} {XP : (Str → Option Value) → Heap → Prop} {YP : World → Heap → Prop} {d : DefRec} {K : Params → PySem.W.Frag} {x : Str}
    (hn : l.most = some 63) (hdf : d.params.defaults = []) (hr : Room k callerA) (hY : ∀ (w : World) (h : Heap), YP w h → (K w.params).In h)
    (F : ∀ (w : World) (mg : Str → Option Value) (fa : Addr) (h : Heap), (K w.params).In h → h.Ns mainGlobals mg → mg d.name = some (.ref fa) →
      ∃ fd : FuncData, (∀ (s : Shared) (u : Value), BindsTo s fd ⟨[u], []⟩ [(x, u)]) ∧ ∀ base : Heap, (K w.params).In base → base.Ns mainGlobals mg → FnOk l.prog w (K w.params) mg base CX0 k fa fd [x] (liftSp ⟨K w.params, w⟩ cLaw)) :
    PySem.W.WalkO q loose XP YP l.row.toRowW d [] (fun f vs => PySem.call f vs) :=
  L2.walk_ofB (n := 63) (k := k) (x := x) (CX := fun _ => CX0) (sp := fun w => liftSp ⟨K w.params, w⟩ cLaw) hn (by decide) hdf hr hY F (fun w H a ns h1 h2 hO hS => law_sp h1 h2 hO hS) fun _ _ _ _ _ z => z
end DL
namespace DL
open PySem PySem.Spec L2

/-! ## 8b. A law's defs, one after the other -/
def Tab.cut (T : Tab) (n : Nat) : Tab := { T with fn := T.fn.take n }
section
variable {P : Program} {w : World} {K : PySem.W.Frag} {mg : Str → Option Value} {base : Heap}
theorem lookup_app {α β : Type} [BEq α] {y : α} : ∀ {xs ys : List (α × β)}, (xs ++ ys).lookup y = match xs.lookup y with
    | some v => some v
    | none => ys.lookup y
  | [], _ => rfl
  | (a, b) :: xs, ys => by
    simp only [List.cons_append, List.lookup_cons]
    cases h : y == a with
    | true => rfl
    | false => exact lookup_app
theorem Tab0 {T : Tab} {C : Nat → Ct} {k : Nat} (h1 : ∀ x ∈ T.free, mg x = none) (h2 : ∀ x j, T.gl.lookup x = some j → ∃ u v, mg x = some u ∧ RelV v u ∧ ∀ H, RD ⟨K, w⟩ H (T.cs j) v) : TabAt (T.cut 0) C CX0 k P w K mg base :=
  ⟨h1, h2, fun x f e => by simp [Tab.cut] at e⟩
theorem tab_up {T : Tab} {C : Nat → Ct} {n : Nat} {x : Str} {st : Stmt} {f : Addr} {fd : FuncData} (tab : TabAt (T.cut n) C CX0 n P w K mg base) (hn : T.fn[n]? = some (x, n)) (d : DefAt K mg x st f fd)
    (F : FnOk P w K mg base CX0 (n + 1) f fd (T.ps n) (liftSp ⟨K, w⟩ (C n))) (b : Binds K fd (T.ps n) [])
    (kb : ∀ m ks π, (n, m, ks, π) ∈ T.sh → KBn K fd (T.ps n) m ks (fun us ws => permL π (us ++ ws)) (fun vs zs => permL π (vs ++ zs))) : TabAt (T.cut (n + 1)) C CX0 (n + 1) P w K mg base := by
  refine ⟨tab.free, tab.cst, fun y i e => ?_⟩
  have e1 : (T.cut (n + 1)).fn = (T.cut n).fn ++ [(x, n)] := by
    show T.fn.take (n + 1) = T.fn.take n ++ [(x, n)]
    rw [List.take_add_one, hn]
    rfl
  rw [e1, lookup_app] at e
  cases q : (T.cut n).fn.lookup y with
  | some j =>
    rw [q] at e
    cases e
    obtain ⟨fa, fd, a, b, c, d, e⟩ := tab.fns y _ q
    exact ⟨fa, fd, a, b, c.mono (Nat.le_succ n), d, e⟩
  | none =>
    rw [q] at e
    simp only [List.lookup_cons, List.lookup_nil] at e
    cases hx : y == x with
    | false => rw [hx] at e; cases e
    | true =>
      rw [hx] at e
      cases e
      have := eq_of_beq hx
      subst this
      exact ⟨f, fd, d.at_, d.fn.kp, F, b, kb⟩
theorem tab_step {T : Tab} {C : Nat → Ct} {n : Nat} {x : Str} {st : Stmt} {f : Addr} {fd : FuncData} {N : List Str} {ir : S} {c : Ct} (tab : TabAt (T.cut n) C CX0 n P w K mg base) (hn : T.fn[n]? = some (x, n)) (d : DefAt K mg x st f fd)
    (S : FnScope N (T.ps n) (defScope st)) (hc : chkS (T.cut n) ir ⟨N, (defScope st).names⟩ (.b (defBody st)) = true) (hC : C n = ask c) (hl : CtLen (T.ps n).length c)
    (hb : ∀ ds h Q E, c ds h Q E → xS T.cs C E ir { nx := fun _ h' => Q .non h', rt := Q } (dstart N.length ds) h) (b : Binds K fd (T.ps n) [])
    (kb : ∀ m ks π, (n, m, ks, π) ∈ T.sh → KBn K fd (T.ps n) m ks (fun us ws => permL π (us ++ ws)) (fun vs zs => permL π (vs ++ zs))) : TabAt (T.cut (n + 1)) C CX0 (n + 1) P w K mg base :=
  tab_up tab hn d (by rw [hC]; exact FnOk.weak (fn_ok d.fn S tab hc hl hb) fun _ _ _ _ => ask_el) b kb
/-- a def that is not called here -/
theorem tab_skip {T : Tab} {C : Nat → Ct} {n : Nat} {x : Str} {st : Stmt} {f : Addr} {fd : FuncData} (tab : TabAt (T.cut n) C CX0 n P w K mg base) (hn : T.fn[n]? = some (x, n)) (d : DefAt K mg x st f fd) (hC : C n = ask fun _ _ _ _ => False) (b : Binds K fd (T.ps n) [])
    (kb : ∀ m ks π, (n, m, ks, π) ∈ T.sh → KBn K fd (T.ps n) m ks (fun us ws => permL π (us ++ ws)) (fun vs zs => permL π (vs ++ zs))) : TabAt (T.cut (n + 1)) C CX0 (n + 1) P w K mg base :=
  tab_up tab hn d (by rw [hC]; exact FnOk.weak FnOk.vac fun _ _ _ _ => ask_el) b kb
theorem no_sh {T : Tab} {n : Nat} {fd : FuncData} (h : (T.sh.all fun q => q.1 != n) = true) : ∀ m ks π, (n, m, ks, π) ∈ T.sh → KBn K fd (T.ps n) m ks (fun us ws => permL π (us ++ ws)) (fun vs zs => permL π (vs ++ zs)) := fun m ks π q => by
  have := List.all_eq_true.mp h _ q
  simp at this
theorem fr_nil : ∀ x ∈ ([] : List Str), mg x = none := by simp
theorem fr_cons {a : Str} {l : List Str} (h : mg a = none) (t : ∀ x ∈ l, mg x = none) : ∀ x ∈ a :: l, mg x = none := by
  intro x hx
  rcases List.mem_cons.mp hx with rfl | hx
  · exact h
  · exact t x hx
end
/-! constants of the module: read off the frozen heap -/
mutual
inductive GlV (K : PySem.W.Frag) : D → Value → Prop
  | non : GlV K .non .none
  | bl (b : Bool) : GlV K (.bl b) (.bool b)
  | int (i : Int) (t : Tok) : GlV K (.int i) (.int i t)
  | str (x : Str) (t : Tok) : GlV K (.str x) (.str x t)
  | tup {a : Addr} {o : Obj} {its : Array Value} {n : Nat} {ds : List D} {us : List Value} : K.lookup a = some o → o.cls = .type "tuple" → o.data = .seq its n → its.size ≤ sizeLine → its.toList = us → GlVs K ds us → GlV K (.tup ds) (.ref a)
inductive GlVs (K : PySem.W.Frag) : List D → List Value → Prop
  | nil : GlVs K [] []
  | cons {d : D} {ds : List D} {u : Value} {us : List Value} : GlV K d u → GlVs K ds us → GlVs K (d :: ds) (u :: us)
end
mutual
theorem GlV.ok {K : PySem.W.Frag} {w : World} : ∀ {d : D} {u : Value}, GlV K d u → ∃ v, RelV v u ∧ ∀ H, RD ⟨K, w⟩ H d v
  | _, _, .non => ⟨.non, rfl, fun _ => .non⟩
  | _, _, .bl b => ⟨.bl b, rfl, fun _ => .bl b⟩
  | _, _, .int i t => ⟨.int i, ⟨t, rfl⟩, fun _ => .int i⟩
  | _, _, .str x t => ⟨.str x, ⟨t, rfl⟩, fun _ => .str x⟩
  | _, _, .tup l c e z p r => by
    subst p
    obtain ⟨vs, h1, h2⟩ := GlVs.ok r
    exact ⟨.ref _, rfl, fun H => .tup (.inr ⟨_, _, _, l, c, e, z, h1⟩) (h2 H)⟩
theorem GlVs.ok {K : PySem.W.Frag} {w : World} : ∀ {ds : List D} {us : List Value}, GlVs K ds us → ∃ vs, Vals vs us ∧ ∀ H, RDs ⟨K, w⟩ H ds vs
  | _, _, .nil => ⟨[], .nil, fun _ => .nil⟩
  | _, _, .cons h t => by
    obtain ⟨v, h1, h2⟩ := GlV.ok h
    obtain ⟨vs, h3, h4⟩ := GlVs.ok t
    exact ⟨v :: vs, .cons h1 h3, fun H => .cons (h2 H) (h4 H)⟩
end
end DL
namespace DL
open PySem L2

/-! ## 9. For the proofs of bodies -/
theorem iteT {A B : Prop} (a : A) : if true = true then A else B := by rw [if_pos rfl]; exact a
theorem iteF {A B : Prop} (b : B) : if false = true then A else B := by rw [if_neg Bool.false_ne_true]; exact b
theorem iteD {c : Prop} [Decidable c] {A B : Prop} (a : c → A) (b : ¬ c → B) : if decide c = true then A else B := by
  by_cases h : c
  · rw [if_pos (decide_eq_true h)]; exact a h
  · rw [if_neg (by simpa using h)]; exact b h
theorem iteN {c : Prop} [Decidable c] {A B : Prop} (a : ¬ c → A) (b : c → B) : if (!decide c) = true then A else B := by
  by_cases h : c
  · rw [if_neg (by simpa using h)]; exact b h
  · rw [if_pos (by simpa using h)]; exact a h
theorem iteB {c : Bool} {A B : Prop} (a : c = true → A) (b : c = false → B) : if c = true then A else B := by
  cases c with
  | true => rw [if_pos rfl]; exact a rfl
  | false => rw [if_neg Bool.false_ne_true]; exact b rfl
theorem atI_at {α : Type} {xs : List α} {i : Int} {v : α} (h0 : 0 ≤ i) (h : xs[i.toNat]? = some v) : atI xs i = some v := by
  obtain ⟨n, rfl⟩ : ∃ n : Nat, i = n := ⟨i.toNat, by omega⟩
  exact atI_nat (by simpa using h)
theorem atI_m1 {α : Type} {xs : List α} {v : α} (h : xs[xs.length - 1]? = some v) : atI xs (-1) = some v := by
  have hn : xs ≠ [] := fun e => by subst e; simp at h
  obtain ⟨ys, y, rfl⟩ : ∃ ys y, xs = ys ++ [y] := ⟨xs.dropLast, xs.getLast hn, (List.dropLast_concat_getLast hn).symm⟩
  simp at h
  subst h
  exact atI_last _ _
theorem ixN_m1 {n : Nat} (h : 0 < n) : ixN n (-1) = some (n - 1) := by
  unfold ixN
  rw [if_neg (by decide), if_pos (by omega)]
  congr 1
  omega
theorem ixN_at {n : Nat} {i : Int} (h0 : 0 ≤ i) (h : i < n) : ixN n i = some i.toNat := by
  unfold ixN
  rw [if_pos h0, if_pos h]
theorem ne_new {h : DH} {a b : Addr} {o : DO} (e : h a = none) (q : h b = some o) : b ≠ a := fun z => by
  subst z; rw [e] at q; cases q
theorem mulC {i j : Int} (h : -(2 ^ 64) < j ∧ j < 2 ^ 64) : MulOk i j := .inl (.inr h)
theorem mulC' {i j : Int} (h : -(2 ^ 64) < i ∧ i < 2 ^ 64) : MulOk i j := .inl (.inl h)
theorem len_l {h : DH} {p : Addr} {xs : List D} {Q : DK} (l : LR h p xs) (q : Q (.int xs.length) h) : lenD (.ref p) h Q := by unfold lenD lenR; exact .inl ⟨_, l, q⟩
theorem len_t {xs : List D} {h : DH} {Q : DK} (q : Q (.int xs.length) h) : lenD (.tup xs) h Q := by unfold lenD; exact q
theorem len_rl {xs : List D} {h : DH} {Q : DK} (q : Q (.int xs.length) h) : lenD (.rl xs) h Q := by unfold lenD; exact q
theorem len_s {z : Str} {h : DH} {Q : DK} (e : z.length ≤ sizeLine) (q : Q (.int z.length) h) : lenD (.str z) h Q := by unfold lenD; exact ⟨e, q⟩
theorem sub_t {xs : List D} {k : Int} {v : D} {h : DH} {Q : DK} (e : atI xs k = some v) (q : Q v h) : subD (.tup xs) (.int k) h Q := by unfold subD; exact ⟨_, _, rfl, e, q⟩
theorem sub_r {xs : List D} {k : Int} {v : D} {h : DH} {Q : DK} (e : atI xs k = some v) (q : Q v h) : subD (.rl xs) (.int k) h Q := by unfold subD; exact ⟨_, _, rfl, e, q⟩
theorem sub_s {z : Str} {k : Int} {c : Nat} {h : DH} {Q : DK} (b : z.length ≤ sizeLine) (e : atI z.cps.toList k = some c) (q : Q (.str ⟨#[c]⟩) h) : subD (.str z) (.int k) h Q := by unfold subD; exact ⟨_, _, rfl, b, e, q⟩
theorem sub_l {h : DH} {p : Addr} {xs : List D} {k : Int} {v : D} {Q : DK} (l : LR h p xs) (e : atI xs k = some v) (q : Q v h) : subD (.ref p) (.int k) h Q := by unfold subD subR; exact .inl ⟨_, _, _, l, rfl, e, q⟩
theorem set_l {h : DH} {p : Addr} {xs : List D} {k : Int} {j : Nat} {v : D} {Q : DH → Prop} (l : h p = some (.lst xs)) (e : ixN xs.length k = some j) (q : Q (updD h p (.lst (xs.set j v)))) : setR p (.int k) v h Q := by unfold setR; exact .inl ⟨_, _, _, l, rfl, e, q⟩
theorem in_l {h : DH} {p : Addr} {ys : List D} {x : D} {k : Bool → Prop} (l : LR h p ys) (f : flatD x = true) (g : ys.all flatD = true) (q : k (ys.any fun y => eqF y x)) : inR x p h k := by unfold inR; exact .inl ⟨_, l, .inl ⟨f, g, q⟩⟩
theorem len_d {h : DH} {p : Addr} {b : Bool} {kvs : List (D × D)} {o : Obj} {Q : DK} (l : h p = some (.dct b kvs o)) (q : Q (.int kvs.length) h) : lenD (.ref p) h Q := by unfold lenD lenR; exact .inr ⟨b, kvs, ⟨p, o, rfl, l⟩, q⟩
theorem sub_d {h : DH} {p : Addr} {b : Bool} {kvs : List (D × D)} {o : Obj} {i v : D} {Q : DK} (l : h p = some (.dct b kvs o)) (k : keyB b i = true) (e : dget kvs i = some v) (q : Q v h) : subD (.ref p) i h Q := by unfold subD subR; exact .inr ⟨b, kvs, v, ⟨p, o, rfl, l⟩, k, e, q⟩
theorem set_d {h : DH} {p : Addr} {b : Bool} {kvs : List (D × D)} {o : Obj} {i v : D} {Q : DH → Prop} (l : h p = some (.dct b kvs o)) (k : keyB b i = true) (z : kvs.length < sizeLine) (q : ∀ o', Q (updD h p (.dct b (dput kvs i v) o'))) : setR p i v h Q := by unfold setR; exact .inr ⟨p, b, kvs, o, rfl, l, k, z, q⟩
theorem in_d {h : DH} {p : Addr} {b : Bool} {kvs : List (D × D)} {o : Obj} {i : D} {k : Bool → Prop} (l : h p = some (.dct b kvs o)) (kb : keyB b i = true) (q : k (dget kvs i).isSome) : inR i p h k := by unfold inR; exact .inr ⟨b, kvs, ⟨p, o, rfl, l⟩, kb, q⟩
theorem get_d {h : DH} {p : Addr} {b : Bool} {kvs : List (D × D)} {o : Obj} {i z : D} {Q : DK} (l : h p = some (.dct b kvs o)) (kb : keyB b i = true) (q : Q ((dget kvs i).getD z) h) : mthD .get (.ref p) [i, z] h Q := ⟨b, kvs, ⟨p, o, rfl, l⟩, kb, q⟩
theorem tget_d {h : DH} {p : Addr} {b : Bool} {kvs : List (D × D)} {o : Obj} (l : h p = some (.dct b kvs o)) : mthT .get (.ref p) h := ⟨b, kvs, p, o, rfl, l⟩
/-- all stays but p and g -/
def FrP (p g : Addr) (h h' : DH) : Prop := ∀ b o, b ≠ p → b ≠ g → h b = some o → h' b = some o
theorem FrP.refl (p g : Addr) (h : DH) : FrP p g h h := fun _ _ _ _ e => e
theorem FrP.trans {p g : Addr} {h h1 h2 : DH} (x : FrP p g h h1) (y : FrP p g h1 h2) : FrP p g h h2 := fun b o n1 n2 e => y b o n1 n2 (x b o n1 n2 e)
theorem FrP.new {p g a : Addr} {h : DH} {o : DO} (e : h a = none) : FrP p g h (updD h a o) := fun b q _ _ z => by rw [updD_ne (ne_new e z)]; exact z
theorem FrP.at1 {p g : Addr} {h : DH} {o : DO} : FrP p g h (updD h p o) := fun b q n _ z => by rw [updD_ne n]; exact z
theorem FrP.at2 {p g : Addr} {h : DH} {o : DO} : FrP p g h (updD h g o) := fun b q _ n z => by rw [updD_ne n]; exact z
/-- all stays -/
def Sm (h h' : DH) : Prop := ∀ b o, h b = some o → h' b = some o
theorem Sm.refl (h : DH) : Sm h h := fun _ _ e => e
theorem Sm.trans {h h1 h2 : DH} (x : Sm h h1) (y : Sm h1 h2) : Sm h h2 := fun b o e => y b o (x b o e)
theorem Sm.new {a : Addr} {h : DH} {o : DO} (e : h a = none) : Sm h (updD h a o) := fun b q z => by rw [updD_ne (ne_new e z)]; exact z
theorem Sm.frp {p g : Addr} {h h' : DH} (x : Sm h h') : FrP p g h h' := fun b o _ _ e => x b o e
theorem Sm.free {h h' : DH} (x : Sm h h') {a : Addr} (e : h' a = none) : h a = none := by
  cases q : h a with
  | none => rfl
  | some o => rw [x a o q] at e; cases e
/-- an object that was new at h1 is written later -/
theorem Sm.write {h h2 : DH} {a : Addr} {o : DO} (x : Sm h h2) (e : h a = none) : Sm h (updD h2 a o) := fun b q z => by rw [updD_ne (ne_new e z)]; exact x b q z
theorem FrP.write {p g : Addr} {h h2 : DH} {a : Addr} {o : DO} (x : FrP p g h h2) (e : h a = none) : FrP p g h (updD h2 a o) := fun b q n1 n2 z => by rw [updD_ne (ne_new e z)]; exact x b q n1 n2 z
theorem FrP.w1 {p g : Addr} {h h2 : DH} {o : DO} (x : FrP p g h h2) : FrP p g h (updD h2 p o) := fun b q n1 n2 z => by rw [updD_ne n1]; exact x b q n1 n2 z
theorem FrP.w2 {p g : Addr} {h h2 : DH} {o : DO} (x : FrP p g h h2) : FrP p g h (updD h2 g o) := fun b q n1 n2 z => by rw [updD_ne n2]; exact x b q n1 n2 z

/-! ### the pool of the laws -/
/-- its list at p, the list of great cells at g -/
def PoolAt (h : DH) (p g : Addr) : Prop := ∃ (great : List Int) (mixed cnt : Int), h p = some (.lst [.ref g, .int mixed, .int cnt]) ∧ h g = some (.lst (great.map D.int))
theorem PoolAt.ne {h : DH} {p g : Addr} (x : PoolAt h p g) : p ≠ g := fun e => by
  obtain ⟨great, mixed, cnt, hp, hg⟩ := x
  subst e; rw [hp] at hg
  cases great <;> simp at hg
theorem PoolAt.sm {h h' : DH} {p g : Addr} (x : PoolAt h p g) (s : Sm h h') : PoolAt h' p g := let ⟨a, b, c, e, f⟩ := x; ⟨a, b, c, s _ _ e, s _ _ f⟩
theorem PoolAt.new {h : DH} {p g a : Addr} {o : DO} (x : PoolAt h p g) (e : h a = none) : PoolAt (updD h a o) p g := x.sm (.new e)
theorem PoolAt.set {h : DH} {p g a : Addr} {o : DO} (x : PoolAt h p g) (n1 : a ≠ p) (n2 : a ≠ g) : PoolAt (updD h a o) p g := let ⟨u, v, w, e, f⟩ := x; ⟨u, v, w, by rw [updD_ne n1.symm]; exact e, by rw [updD_ne n2.symm]; exact f⟩
theorem PoolAt.nep {h : DH} {p g a : Addr} (x : PoolAt h p g) (e : h a = none) : a ≠ p ∧ a ≠ g := let ⟨_, _, _, hp, hg⟩ := x; ⟨(ne_new e hp).symm, (ne_new e hg).symm⟩
/-- told of the heap in which a is free -/
theorem at_free {h : DH} {a : Addr} (_ : h a = none) {R : DH → Prop} (q : R h) : R h := q
def cPick : Ct := fun ds h Q _ => ∃ p g n, ds = [.ref p, .int n] ∧ PoolAt h p g ∧ n.natAbs.log2 < 9000 ∧
  ∀ k h', 0 ≤ k → (k < n ∨ k = 0) → PoolAt h' p g → FrP p g h h' → Q (.int k) h'
def cPool : Ct := fun ds h Q _ => ∃ (ns : List Int) (salt : Int), ds = [.rl (ns.map D.int), .int salt] ∧ ns.length ≤ 63 ∧
  ∀ p g h', h p = none → h g = none → PoolAt h' p g → Sm h h' → Q (.ref p) h'
/-- one of a row: a list of the caller's -/
def cOne : Ct := fun ds h Q _ => ∃ p g r xs, ds = [.ref p, .ref r] ∧ PoolAt h p g ∧ h r = some (.lst xs) ∧ xs ≠ [] ∧ xs.length ≤ 100000 ∧ r ≠ p ∧ r ≠ g ∧
  ∀ x h', x ∈ xs → PoolAt h' p g → FrP p g h h' → Q x h'
end DL
open PySem L2 DL
local macro_rules | `(tactic| walk_at "ne") => `(tactic| first | assumption | (refine Ne.symm ?_; assumption) | exact ne_new (by assumption) (by assumption) | exact Ne.symm (ne_new (by assumption) (by assumption)) | exact ne_new (by assumption) (by walk_at "hp") | exact Ne.symm (ne_new (by assumption) (by walk_at "hp")))
local macro_rules | `(tactic| walk_at "hp") => `(tactic| first | assumption | exact updD_same | (refine (updD_ne ?_).trans ?_; (walk_at "ne"); (walk_at "hp")))
local macro_rules | `(tactic| walk_at "go") => `(tactic| repeat (first
  | refine ⟨_, rfl, ?_⟩
  | refine ⟨_, _, rfl, rfl, ?_⟩
  | refine sub_l (by walk_at "hp") rfl ?_
  | refine len_l (by walk_at "hp") ?_
  | refine sub_t rfl ?_
  | refine len_t ?_
  | refine len_rl ?_
  | refine set_l (by walk_at "hp") rfl ?_
  | refine ⟨mulC (by decide), ?_⟩
  | refine ⟨mulC' (by decide), ?_⟩
  | refine ⟨(by decide : (0 : Int) < _), ?_⟩
  | refine ⟨(⟨by decide, by decide⟩ : DivOk _), ?_⟩
  | refine ⟨((by simp only [List.length_cons, List.length_nil]; decide) : List.length (_ : List D) ≤ sizeLine), ?_⟩
  | refine ⟨_, (by walk_at "hp" : LR _ _ _), ?_⟩
  | refine ⟨⟨_, _, rfl, (by walk_at "hp")⟩, ?_⟩
  | refine ⟨mulC (by omega), ?_⟩
  | refine ⟨mulC' (by omega), ?_⟩
  | refine iteF ?_
  | refine iteT ?_))
namespace DL
theorem rangeD_get {lo : Int} {n i : Nat} {x : D} (e : (rangeD lo n)[i]? = some x) : x = .int (lo + i) ∧ i < n := by
  by_cases h : i < n
  · have : (rangeD lo n)[i]? = some (.int (lo + i)) := by simp [rangeD, h]
    rw [this] at e; exact ⟨(Option.some.inj e).symm, h⟩
  · rw [List.getElem?_eq_none (by simp [rangeD]; omega)] at e; cases e
theorem rangeD_len {lo : Int} {n : Nat} : (rangeD lo n).length = n := by simp [rangeD]
theorem sz63 {n : Nat} (h : n ≤ 100000) : n ≤ sizeLine := Nat.le_trans h (by decide)
variable {cs : Nat → D} {Φ : Nat → Ct}
/-! the pool's defs, alike in every law -/
def irPick : S :=
  (.seq (.ite (.cmp .Lt (.var 1) (.cst (.int 2))) (.seq (.ret (.cst (.int 0)))
  .skip) .skip)
  (.seq (.asg (.name 2) (.sub (.var 0) (.cst (.int 0))))
  (.seq (.ite (.cmp .Gt (.blt .len (.cons (.var 2) .nil)) (.cst (.int 0))) (.seq (.asg (.name 3) (.bin .Mod (.blt .int (.cons (.sub (.var 2) (.neg (.cst (.int 1)))) .nil)) (.var 1)))
  (.seq (.asgSub (.var 2) (.neg (.cst (.int 1))) (.bin .FloorDiv (.sub (.var 2) (.neg (.cst (.int 1)))) (.var 1)))
  (.seq (.ite (.cmp .Eq (.sub (.var 2) (.neg (.cst (.int 1)))) (.cst (.int 0))) (.seq (.expr (.mth .pop (.var 2) .nil))
  .skip) .skip)
  (.seq (.ret (.var 3))
  .skip)))) .skip)
  (.seq (.asgSub (.var 0) (.cst (.int 2)) (.bin .Add (.sub (.var 0) (.cst (.int 2))) (.cst (.int 1))))
  (.seq (.asg (.name 4) (.bin .Mod (.blt .int (.cons (.bin .Add (.bin .Add (.bin .Mult (.sub (.var 0) (.cst (.int 1))) (.cst (.int 48271))) (.bin .Mult (.cst (.int 11)) (.sub (.var 0) (.cst (.int 2))))) (.cst (.int 5))) .nil)) (.cst (.int 2147483647))))
  (.seq (.asgSub (.var 0) (.cst (.int 1)) (.var 4))
  (.seq (.asg (.name 5) (.bin .Mod (.blt .int (.cons (.bin .Add (.bin .Add (.bin .Mult (.var 4) (.var 4)) (.bin .Mult (.cst (.int 3)) (.sub (.var 0) (.cst (.int 2))))) (.cst (.int 1))) .nil)) (.cst (.int 2147483629))))
  (.seq (.asg (.name 6) (.bin .Mod (.blt .int (.cons (.bin .Add (.bin .Mult (.var 5) (.var 5)) (.var 4)) .nil)) (.cst (.int 2147483587))))
  (.seq (.ret (.bin .Mod (.blt .int (.cons (.bin .FloorDiv (.var 6) (.cst (.int 7))) .nil)) (.var 1)))
  .skip)))))))))
theorem pick_ok (ds : List D) (h : DH) (Q : DK) (E : XD) (c : cPick ds h Q E) : xS cs Φ E irPick { nx := fun _ h' => Q .non h', rt := Q } (dstart 7 ds) h := by
  obtain ⟨p, g, n, rfl, P, hn, k⟩ := c
  have hpg := P.ne
  obtain ⟨great, mixed, cnt, hp, hg⟩ := P
  unfold irPick
  walk_at "go"
  refine iteD (fun h1 => ?_) (fun h1 => ?_)
  · exact k 0 h (Int.le_refl _) (.inr rfl) ⟨_, _, _, hp, hg⟩ (.refl _ _ _)
  · have hn2 : 2 ≤ n := by have : ¬ n < 2 := h1; omega
    -- cells = pool[0]
    walk_at "go"
    refine iteD (fun h2 => ?_) (fun h2 => ?_)
    · -- got = cells[-1] % many
      rw [List.length_map] at h2
      have hl : great ≠ [] := fun e => by subst e; simp at h2
      obtain ⟨gs, z, rfl⟩ : ∃ gs z, great = gs ++ [z] := ⟨great.dropLast, great.getLast hl, (List.dropLast_concat_getLast hl).symm⟩
      have hz : ∀ y : Int, atI (List.map D.int (gs ++ [y])) (-1) = some (.int y) := fun y => by rw [List.map_append]; exact atI_last _ _
      walk_at "go"
      refine sub_l (hg) (hz _) ?_
      walk_at "go"
      refine ⟨show 0 < n by omega, ?_⟩
      walk_at "go"
      -- cells[-1] = cells[-1] // many
      refine sub_l (hg) (hz _) ?_
      walk_at "go"
      refine ⟨⟨by omega, hn⟩, ?_⟩
      walk_at "go"
      refine set_l hg (ixN_m1 (by simp)) ?_
      have e1 : (List.map D.int (gs ++ [z])).set ((List.map D.int (gs ++ [z])).length - 1) (.int (z / n)) = List.map D.int (gs ++ [z / n]) := by simp
      rw [e1]
      have hp2 : updD h g (.lst (List.map D.int (gs ++ [z / n]))) p = some (.lst [.ref g, .int mixed, .int cnt]) := by walk_at "hp"
      have b0 : 0 ≤ z % n := Int.emod_nonneg _ (by omega)
      have b1 : z % n < n := Int.emod_lt_of_pos _ (by omega)
      walk_at "go"
      refine sub_l (updD_same) (hz _) ?_
      walk_at "go"
      refine iteD (fun h3 => ?_) (fun h3 => ?_)
      · walk_at "go"
        refine ⟨_, _, _, rfl, updD_same, List.getElem?_eq_getElem (by simp), ?_⟩
        walk_at "go"
        refine k (z % n) _ b0 (.inl b1) ⟨gs, mixed, cnt, by walk_at "hp", ?_⟩ (.w2 (.w2 (.refl _ _ _)))
        rw [updD_same]
        simp
      · walk_at "go"
        exact k (z % n) _ b0 (.inl b1) ⟨_, mixed, cnt, hp2, updD_same⟩ (.w2 (.refl _ _ _))
    · walk_at "go"
      -- pool[2] = pool[2] + 1
      have bx : 0 ≤ (mixed * 48271 + 11 * (cnt + 1) + 5) % 2147483647 ∧ (mixed * 48271 + 11 * (cnt + 1) + 5) % 2147483647 < 2147483647 := ⟨Int.emod_nonneg _ (by decide), Int.emod_lt_of_pos _ (by decide)⟩
      generalize ex : (mixed * 48271 + 11 * (cnt + 1) + 5) % 2147483647 = x at bx
      walk_at "go"
      have by' : 0 ≤ (x * x + 3 * (cnt + 1) + 1) % 2147483629 ∧ (x * x + 3 * (cnt + 1) + 1) % 2147483629 < 2147483629 := ⟨Int.emod_nonneg _ (by decide), Int.emod_lt_of_pos _ (by decide)⟩
      generalize ey : (x * x + 3 * (cnt + 1) + 1) % 2147483629 = y at by'
      walk_at "go"
      refine ⟨show 0 < n by omega, ?_⟩
      refine k _ _ (Int.emod_nonneg _ (by omega)) (.inl (Int.emod_lt_of_pos _ (by omega))) ⟨great, x, cnt + 1, ?_, ?_⟩ (.w1 (.w1 (.refl _ _ _)))
      · rw [updD_same]; rfl
      · walk_at "hp"

def irPool : S :=
  (.seq (.asg (.name 2) (.lst .nil))
  (.seq (.asg (.name 3) (.bin .Add (.cst (.int 7)) (.var 1)))
  (.seq (.for_ (.name 4) .range1 (.cons (.blt .min (.cons (.blt .len (.cons (.var 0) .nil)) (.cons (.cst (.int 63)) .nil))) .nil) (.seq (.asg (.name 5) (.blt .abs (.cons (.blt .int (.cons (.sub (.var 0) (.var 4)) .nil)) .nil)))
  (.seq (.ite (.cmp .GtE (.var 5) (.bin .Pow (.cst (.int 10)) (.cst (.int 18)))) (.seq (.asg (.name 2) (.bin .Add (.lst (.cons (.var 5) .nil)) (.var 2)))
  .skip) .skip)
  (.seq (.asg (.name 3) (.bin .Mod (.blt .int (.cons (.bin .Add (.bin .Add (.bin .Add (.bin .Add (.bin .Mult (.var 3) (.cst (.int 48271))) (.bin .Mult (.bin .Mod (.blt .int (.cons (.var 5) .nil)) (.cst (.int 999983))) (.cst (.int 69621)))) (.bin .Mod (.blt .int (.cons (.bin .FloorDiv (.var 5) (.cst (.int 999983))) .nil)) (.cst (.int 999979)))) (.var 4)) (.cst (.int 1))) .nil)) (.cst (.int 2147483647))))
  .skip))))
  (.seq (.ret (.lst (.cons (.var 2) (.cons (.var 3) (.cons (.cst (.int 0)) .nil)))))
  .skip))))
theorem pool_ok (ds : List D) (h : DH) (Q : DK) (E : XD) (c : cPool ds h Q E) : xS cs Φ E irPool { nx := fun _ h' => Q .non h', rt := Q } (dstart 6 ds) h := by
  obtain ⟨ns, salt, rfl, hl, k⟩ := c
  unfold irPool
  walk_at "go"
  intro g hg
  walk_at "go"
  refine ⟨by rw [List.length_map]; omega, ?_⟩
  refine for_mk (fun i s h' => ∃ (g : Addr) (great : List Int) (mixed : Int) (c5 c6 : Option D), s = [some (.rl (ns.map D.int)), some (.int salt), some (.ref g), some (.int mixed), c5, c6] ∧ h' g = some (.lst (great.map D.int)) ∧ great.length ≤ i ∧ Sm h h' ∧ h g = none) ?_ (fun _ _ _ _ _ => trivial) ?_ ?_
  · exact ⟨g, [], _, _, _, rfl, updD_same, Nat.le_refl _, .new hg, hg⟩
  · rintro i x s h1 e ⟨g, great, mixed, c5, c6, rfl, h1g, hgl, hsm, hgn⟩
    obtain ⟨rfl, hi⟩ := rangeD_get e
    have hi' : i < ns.length := by rw [List.length_map] at hi; omega
    walk_at "go"
    refine sub_r (v := .int ns[i]) (atI_at (by omega) (by simp [hi'])) ?_
    walk_at "go"
    refine ⟨⟨by decide, by decide, by decide⟩, ?_⟩
    walk_at "go"
    refine iteD (fun _ => ?_) (fun _ => ?_)
    · walk_at "go"
      intro r hr
      walk_at "go"
      refine ⟨_, _, updD_same, by walk_at "hp", Nat.le_trans (m := 1000) (by simp; omega) (by decide), ?_⟩
      intro r2 hr2
      walk_at "go"
      exact ⟨r2, ns[i].natAbs :: great, _, _, _, rfl, updD_same, by simp; omega, (hsm.trans (.new hr)).trans (.new hr2), (hsm.trans (.new hr)).free hr2⟩
    · walk_at "go"
      exact ⟨g, great, _, _, _, rfl, h1g, by omega, hsm, hgn⟩
  · rintro s h1 ⟨g, great, mixed, c5, c6, rfl, h1g, hgl, hsm, hgn⟩
    walk_at "go"
    intro p hp
    exact k p g _ (hsm.free hp) hgn ⟨great, mixed, 0, updD_same, by walk_at "hp"⟩ (hsm.trans (.new hp))
def irOne (f : Nat) : S :=
  (.seq (.ret (.sub (.var 1) (.call f (.cons (.var 0) (.cons (.blt .len (.cons (.var 1) .nil)) .nil)))))
  .skip)
end DL
namespace DL
/-! ### more for bodies -/
theorem lgOk {n : Int} (h : n.natAbs ≤ 1000000) : n.natAbs.log2 < 9000 := by
  by_cases h0 : n.natAbs = 0
  · rw [h0]; decide
  · exact Nat.lt_trans ((Nat.log2_lt h0).2 (Nat.lt_of_le_of_lt h (by decide : 1000000 < 2 ^ 20))) (by decide)
theorem numbered_get' {xs : List D} {n i : Nat} {x : D} (e : (numbered n xs)[i]? = some x) : ∃ v, xs[i]? = some v ∧ x = .tup [.int ((n + i : Nat) : Int), v] := by
  rw [numbered_get] at e
  cases q : xs[i]? with
  | none => rw [q] at e; cases e
  | some v => rw [q] at e; exact ⟨v, rfl, (Option.some.inj e).symm⟩
theorem atI_map {α β : Type} {xs : List α} {f : α → β} {k : Int} {v : β} (h0 : 0 ≤ k) (h1 : k < xs.length) (h : ∀ e : k.toNat < xs.length, f (xs[k.toNat]'e) = v) : atI (xs.map f) k = some v := by
  refine atI_at h0 ?_
  have : k.toNat < xs.length := by omega
  rw [List.getElem?_map, List.getElem?_eq_getElem this]
  exact congrArg some (h this)
/-- an item of a list told by a function of the place -/
theorem atI_rng {β : Type} {f : Nat → β} {n : Nat} {k : Int} {j : Nat} (e : k = (j : Int)) (h : j < n) : atI ((List.range n).map f) k = some (f j) := by
  subst e
  exact atI_nat (by simp [h])
theorem get_map {α β : Type} {xs : List α} {f : α → β} {i : Nat} {y : β} (e : (xs.map f)[i]? = some y) : ∃ x, xs[i]? = some x ∧ y = f x := by
  rw [List.getElem?_map] at e
  cases q : xs[i]? with
  | none => rw [q] at e; cases e
  | some x => rw [q] at e; exact ⟨x, rfl, (Option.some.inj e).symm⟩
theorem get_lt {α : Type} {xs : List α} {i : Nat} {x : α} (e : xs[i]? = some x) : i < xs.length := (List.getElem?_eq_some_iff.mp e).1
theorem rng_succ {β : Type} (f : Nat → β) (n : Nat) : (List.range (n + 1)).map f = (List.range n).map f ++ [f n] := by rw [List.range_succ, List.map_append]; rfl
/-- a list or tuple of ints -/
def ILst (h : DH) (d : D) (ns : List Int) : Prop := d = .tup (ns.map D.int) ∨ ∃ p, d = .ref p ∧ h p = some (.lst (ns.map D.int))
theorem ILst.sm {h h' : DH} {d : D} {ns : List Int} (x : ILst h d ns) (s : Sm h h') : ILst h' d ns := by
  rcases x with e | ⟨p, e, q⟩
  · exact .inl e
  · exact .inr ⟨p, e, s _ _ q⟩
theorem ILst.it {h h1 : DH} {d : D} {ns : List Int} {R : ItR} (x : ILst h d ns) (hs : Sm h h1) (r : ∀ inv, (∀ h', Sm h h' → inv h') → R (ns.map D.int) inv) : itD .val d h1 R := by
  rcases x with rfl | ⟨p, rfl, q⟩
  · exact r _ fun _ _ => trivial
  · exact ⟨_, hs _ _ q, r _ fun _ s => s _ _ q⟩
theorem ILst.enum {h h1 : DH} {d : D} {ns : List Int} {R : ItR} (x : ILst h d ns) (hs : Sm h h1) (r : ∀ inv, (∀ h', Sm h h' → inv h') → R (numbered 0 (ns.map D.int)) inv) : itD .enum (.tup [d]) h1 R := by
  rcases x with rfl | ⟨p, rfl, q⟩
  · exact r _ fun _ _ => trivial
  · exact ⟨_, hs _ _ q, r _ fun _ s => s _ _ q⟩
theorem ILst.len {h : DH} {d : D} {ns : List Int} {Q : DK} (x : ILst h d ns) (r : Q (.int ns.length) h) : bltD .len [d] h Q := by
  rcases x with rfl | ⟨p, rfl, q⟩
  · refine len_t ?_
    rw [List.length_map]; exact r
  · refine len_l q ?_
    rw [List.length_map]; exact r
theorem ILst.sub {h : DH} {d : D} {ns : List Int} {i : Int} {v : Int} {Q : DK} (x : ILst h d ns) (e : atI ns i = some v) (r : Q (.int v) h) : subD d (.int i) h Q := by
  have e' : atI (ns.map D.int) i = some (.int v) := by
    unfold atI at e ⊢
    rw [List.length_map]
    cases q : ixN ns.length i with
    | none => rw [q] at e; cases e
    | some j =>
      rw [q] at e
      show (List.map D.int ns)[j]? = _
      rw [List.getElem?_map, show ns[j]? = some v from e]
      rfl
  rcases x with rfl | ⟨p, rfl, q⟩
  · exact sub_t e' r
  · exact sub_l q e' r
section eq
theorem PDs_ints {h : DH} : ∀ ns : List Int, PDs h (ns.map D.int) (ns.map PyData.int)
  | [] => .nil
  | n :: ns => .cons (.int n) (PDs_ints ns)
theorem lay_ints : ∀ ns : List Int, PyData.canLayAll0 (ns.map PyData.int) = true
  | [] => by simp [PyData.canLayAll0]
  | n :: ns => by simp [PyData.canLayAll0, PyData.canLay0, lay_ints ns]
theorem dep_ints : ∀ ns : List Int, PyData.depthAll (ns.map PyData.int) ≤ 1
  | [] => by simp [PyData.depthAll]
  | n :: ns => by simp [PyData.depthAll, PyData.depth, dep_ints ns]
theorem eqv_ints : ∀ ns ms : List Int, PyData.eqvAll (ns.map PyData.int) (ms.map PyData.int) = decide (ns = ms)
  | [], [] => by simp [PyData.eqvAll]
  | [], _ :: _ => by simp [PyData.eqvAll]
  | _ :: _, [] => by simp [PyData.eqvAll]
  | n :: ns, m :: ms => by
    simp only [List.map_cons, PyData.eqvAll, PyData.eqv, eqv_ints ns ms]
    by_cases h : n = m <;> by_cases h2 : ns = ms <;> simp [h, h2]
theorem shaped_ints (ns : List Int) : SeqAt.shaped (.list (ns.map PyData.int)) = true := by
  unfold SeqAt.shaped
  rw [Bool.and_eq_true_iff]
  refine ⟨by simp only [PyData.canLay0]; exact lay_ints ns, decide_eq_true ?_⟩
  simp only [PyData.depth]
  exact Nat.le_trans (Nat.add_le_add_right (dep_ints ns) 1) (by decide)
theorem eqL_ints {h : DH} {p q : Addr} {ns ms : List Int} {k : Bool → Prop} (a : LR h p (ns.map D.int)) (b : LR h q (ms.map D.int)) (r : k (decide (ns = ms))) : eqG (.ref p) (.ref q) h k :=
  ⟨_, _, .lst a (PDs_ints ns), .lst b (PDs_ints ms), shaped_ints _, shaped_ints _, by simp only [PyData.eqv, eqv_ints]; exact r⟩
theorem neL_ints {h : DH} {p q : Addr} {ns ms : List Int} {k : Bool → Prop} (a : LR h p (ns.map D.int)) (b : LR h q (ms.map D.int)) (r : k (!decide (ns = ms))) : cmpD .NotEq (.ref p) (.ref q) h k :=
  eqL_ints (k := fun b => k (!b)) a b r
theorem eqC_ints {h : DH} {p q : Addr} {ns ms : List Int} {k : Bool → Prop} (a : LR h p (ns.map D.int)) (b : LR h q (ms.map D.int)) (r : k (decide (ns = ms))) : cmpD .Eq (.ref p) (.ref q) h k := eqL_ints a b r
end eq
theorem FrP.free {p g a : Addr} {h h' : DH} (f : FrP p g h h') (P' : PoolAt h' p g) (e : h' a = none) : h a = none := by
  cases q : h a with
  | none => rfl
  | some o =>
    obtain ⟨n1, n2⟩ := P'.nep e
    rw [f _ _ n1 n2 q] at e
    cases e
theorem cut_ints {ns : List Int} {lo hi : Option Int} : cutL (ns.map D.int) lo hi = ((ns.drop (HT.sIx ns.length 0 lo)).take (HT.sIx ns.length ns.length hi - HT.sIx ns.length 0 lo)).map D.int := by
  unfold cutL; simp
theorem sIx_at {n d : Nat} {k : Int} (h : 0 ≤ k) : HT.sIx n d (some k) = min k.toNat n := by
  obtain ⟨j, rfl⟩ : ∃ j : Nat, k = j := ⟨k.toNat, by omega⟩
  rw [HT.sIx_nat]; simp
theorem cut_pre {ns : List Int} {k : Int} (h : 0 ≤ k) : cutL (ns.map D.int) none (some k) = (ns.take k.toNat).map D.int := by
  rw [cut_ints, sIx_at h, HT.sIx_none, Nat.sub_zero, List.drop_zero]
  congr 1
  rw [List.take_eq_take_iff]; omega
theorem cut_suf {ns : List Int} {k : Int} (h : 0 ≤ k) : cutL (ns.map D.int) (some k) none = (ns.drop k.toNat).map D.int := by
  rw [cut_ints, sIx_at h, HT.sIx_none, List.take_of_length_le (by simp)]
  congr 1
  by_cases q : k.toNat ≤ ns.length
  · rw [Nat.min_eq_left q]
  · rw [Nat.min_eq_right (by omega), List.drop_length, List.drop_of_length_le (by omega)]
end DL
namespace DL
/-! ### edit distances -/
def ul (x y : Int) : Int := b2d (!decide (x = y))
theorem ul_01 (x y : Int) : 0 ≤ ul x y ∧ ul x y ≤ 1 := by
  unfold ul b2d; split <;> decide
/-- the least errors of the first a of a row that end at c -/
def Med (u : Nat → Nat → Int) : Nat → Nat → Int
  | 0, _ => 0
  | a + 1, 0 => Med u a 0 + 1
  | a + 1, c + 1 => min (min (Med u a c + u a c) (Med u a (c + 1) + 1)) (Med u (a + 1) c + 1)
/-- .. of its first a laid on the d from i on -/
def Ced (u : Nat → Nat → Int) (i : Nat) : Nat → Nat → Int
  | 0, a => a
  | d + 1, 0 => Ced u i d 0 + 1
  | d + 1, a + 1 => min (min (Ced u i d a + u a (i + d)) (Ced u i d (a + 1) + 1)) (Ced u i (d + 1) a + 1)
section
variable {u : Nat → Nat → Int}
theorem Ced_zero (i : Nat) : ∀ d, Ced u i d 0 = d
  | 0 => by simp [Ced]
  | d + 1 => by rw [Ced, Ced_zero i d]; omega
theorem Med_step (a c : Nat) : Med u (a + 1) c ≤ Med u a c + 1 := by
  cases c with
  | zero => simp [Med]
  | succ c => rw [Med]; omega
theorem Med_le (a c : Nat) : Med u a c ≤ a := by
  induction a with
  | zero => simp [Med]
  | succ a ih => have := Med_step (u := u) a c; omega
theorem M_le_C (hu : ∀ a c, 0 ≤ u a c ∧ u a c ≤ 1) (i : Nat) : ∀ d a, Med u a (i + d) ≤ Ced u i d a
  | 0, a => by rw [Ced]; exact Med_le a _
  | d + 1, 0 => by rw [Ced_zero, Med]; omega
  | d + 1, a + 1 => by
    have h1 := M_le_C hu i d a
    have h2 := M_le_C hu i d (a + 1)
    have h3 := M_le_C hu i (d + 1) a
    have e : i + (d + 1) = (i + d) + 1 := by omega
    rw [e] at h3
    rw [e, Ced, Med]
    omega
theorem C_le_M (hu : ∀ a c, 0 ≤ u a c ∧ u a c ≤ 1) : ∀ a j, ∃ i d, i + d = j ∧ Ced u i d a ≤ Med u a j
  | 0, j => ⟨j, 0, rfl, by simp [Ced, Med]⟩
  | a + 1, 0 => by
    refine ⟨0, 0, rfl, ?_⟩
    have : ∀ a, Med u a 0 = a := fun a => by
      induction a with
      | zero => simp [Med]
      | succ a ih => rw [Med, ih]; omega
    rw [this, Ced]
    omega
  | a + 1, j + 1 => by
    obtain ⟨i1, d1, e1, h1⟩ := C_le_M hu a j
    obtain ⟨i2, d2, e2, h2⟩ := C_le_M hu a (j + 1)
    obtain ⟨i3, d3, e3, h3⟩ := C_le_M hu (a + 1) j
    rw [Med]
    rcases Int.le_total (min (Med u a j + u a j) (Med u a (j + 1) + 1)) (Med u (a + 1) j + 1) with q | q
    · rcases Int.le_total (Med u a j + u a j) (Med u a (j + 1) + 1) with r | r
      · refine ⟨i1, d1 + 1, by omega, ?_⟩
        rw [Ced, e1]
        omega
      · cases d2 with
        | zero => refine ⟨i2, 0, e2, ?_⟩; rw [Ced] at h2 ⊢; omega
        | succ d2 => refine ⟨i2, d2 + 1, e2, ?_⟩; rw [Ced]; omega
    · refine ⟨i3, d3 + 1, by omega, ?_⟩
      rw [Ced]
      omega
/-- the longer the dearer -/
theorem C_ge (hu : ∀ a c, 0 ≤ u a c ∧ u a c ≤ 1) (i : Nat) : ∀ (d a : Nat), (d : Int) - (a : Int) ≤ Ced u i d a
  | 0, a => by rw [Ced]; omega
  | d + 1, 0 => by rw [Ced_zero]; omega
  | d + 1, a + 1 => by
    have h1 := C_ge hu i d a
    have h2 := C_ge hu i d (a + 1)
    have h3 := C_ge hu i (d + 1) a
    have := hu a (i + d)
    rw [Ced]
    omega
/-- once all are above b, all later are -/
theorem C_up (hu : ∀ a c, 0 ≤ u a c ∧ u a c ≤ 1) {i d m : Nat} {b : Int} (h : ∀ a, a ≤ m → b ≤ Ced u i d a) : ∀ a, a ≤ m → b ≤ Ced u i (d + 1) a
  | 0, _ => by rw [Ced]; have := h 0 (Nat.zero_le _); omega
  | a + 1, ha => by
    have h1 := h a (by omega)
    have h2 := h (a + 1) ha
    have h3 := C_up hu h a (by omega)
    have := hu a (i + d)
    rw [Ced]
    omega
theorem C_up' (hu : ∀ a c, 0 ≤ u a c ∧ u a c ≤ 1) {i d m : Nat} {b : Int} (h : ∀ a, a ≤ m → b ≤ Ced u i d a) : ∀ t a, a ≤ m → b ≤ Ced u i (d + t) a
  | 0, a, ha => h a ha
  | t + 1, a, ha => C_up hu (C_up' hu h t) a ha
end
/-- two lists' letters compared -/
def uOf (row wid : List Int) (a c : Nat) : Int := ul (row.getD a 0) (wid.getD c 0)
theorem uOf_01 (row wid : List Int) (a c : Nat) : 0 ≤ uOf row wid a c ∧ uOf row wid a c ≤ 1 := ul_01 _ _
/-- what the laws' own least costs are good for -/
def GoodB (row wid bs : List Int) : Prop := bs.length = wid.length + 1 ∧ ∀ j, 1 ≤ j → j ≤ wid.length → ∀ most : Int, most ≤ 3 → (bs.getD j 0 ≤ most ↔ Med (uOf row wid) row.length j ≤ most)
end DL
namespace DL
open PySem L2

/-! ## 10. Tools: loops told by the slots that they write, places, frames -/
instance : Inhabited D := ⟨.non⟩
/-- the item at a place -/
def At {α : Type} [Inhabited α] (xs : List α) (k : Int) : α := xs.getD k.toNat default
theorem At_get {α : Type} [Inhabited α] {xs : List α} {i : Nat} {x : α} (e : xs[i]? = some x) : At xs (i : Int) = x := by
  unfold At; rw [Int.toNat_natCast, List.getD_eq_getElem?_getD, e]; rfl
theorem get_At {α : Type} [Inhabited α] {xs : List α} {k : Int} (h0 : 0 ≤ k) (h1 : k < xs.length) : xs[k.toNat]? = some (At xs k) := by
  have h : k.toNat < xs.length := by omega
  unfold At; rw [List.getD_eq_getElem?_getD, List.getElem?_eq_getElem h]; rfl
theorem At_mem {α : Type} [Inhabited α] {xs : List α} {k : Int} (h0 : 0 ≤ k) (h1 : k < xs.length) : At xs k ∈ xs := by
  have h := get_At h0 h1
  exact List.mem_of_getElem? h
theorem atI_in {α : Type} [Inhabited α] {xs : List α} {f : α → D} {k : Int} (h0 : 0 ≤ k) (h1 : k < xs.length) : atI (xs.map f) k = some (f (At xs k)) := by
  refine atI_at h0 ?_
  rw [List.getElem?_map, get_At h0 h1]; rfl
theorem atI_id {α : Type} [Inhabited α] {xs : List α} {k : Int} (h0 : 0 ≤ k) (h1 : k < xs.length) : atI xs k = some (At xs k) := atI_at h0 (get_At h0 h1)
theorem At_map {α β : Type} [Inhabited α] [Inhabited β] {xs : List α} {f : α → β} {k : Int} (h0 : 0 ≤ k) (h1 : k < xs.length) : At (xs.map f) k = f (At xs k) := by
  have h : (xs.map f)[k.toNat]? = some (f (At xs k)) := by rw [List.getElem?_map, get_At h0 h1]; rfl
  have g := get_At (xs := xs.map f) h0 (by rw [List.length_map]; exact h1)
  exact Option.some.inj (g.symm.trans h)
theorem atI_lst {α : Type} [Inhabited α] {xs : List α} {f : α → D} (h : 0 < xs.length) : atI (xs.map f) (-1) = some (f (At xs ((xs.length : Int) - 1))) := by
  refine atI_m1 ?_
  have e := get_At (xs := xs) (k := (xs.length : Int) - 1) (by omega) (by omega)
  rw [show ((xs.length : Int) - 1).toNat = xs.length - 1 by omega] at e
  rw [List.length_map, List.getElem?_map, e]; rfl
theorem szl {n : Nat} (h : n ≤ 1000000) : n < sizeLine := Nat.lt_of_le_of_lt h (by decide)
theorem szle {n : Nat} (h : n ≤ 1000000) : n ≤ sizeLine := Nat.le_trans h (by decide)
theorem szadd {n m : Nat} (h : n + m ≤ 1000000) : n + m ≤ sizeLine := Nat.le_trans h (by decide)
theorem ask_of {C : Nat → Ct} {i : Nat} {c : Ct} {ds : List D} {h : DH} {Q : DK} {E : XD} (e : C i = ask c) (q : c ds h Q E) : C i ds h Q E := by rw [e]; exact ask_mk q
theorem len_lm {α : Type} {h : DH} {p : Addr} {xs : List α} {f : α → D} {Q : DK} (l : LR h p (xs.map f)) (q : Q (.int xs.length) h) : lenD (.ref p) h Q := by
  refine len_l l ?_
  rw [List.length_map]; exact q
theorem len_tm {α : Type} {h : DH} {xs : List α} {f : α → D} {Q : DK} (q : Q (.int xs.length) h) : lenD (.tup (xs.map f)) h Q := by
  refine len_t ?_
  rw [List.length_map]; exact q
theorem rng1 {j : Int} {h : DH} {R : ItR} (m : Nat) (e : j.toNat = m) (b : j ≤ 1000000 ∧ -1000000 ≤ j) (r : R (rangeD 0 m) fun _ => True) : itD .range1 (.tup [.int j]) h R := by
  subst e
  exact ⟨⟨by omega, by omega⟩, r⟩
theorem rng2 {i j : Int} {h : DH} {R : ItR} (m : Nat) (e : (j - i).toNat = m) (b : j ≤ 1000000 ∧ -1000000 ≤ j ∧ i ≤ 1000000 ∧ -1000000 ≤ i) (r : R (rangeD i m) fun _ => True) : itD .range2 (.tup [.int i, .int j]) h R := by
  subst e
  exact ⟨⟨by omega, by omega, by omega, by omega⟩, r⟩
theorem set_self {α : Type} {d : α} : ∀ {s : List α} {j : Nat}, s.set j (s.getD j d) = s
  | [], j => rfl
  | x :: xs, 0 => rfl
  | x :: xs, j + 1 => by
    show x :: xs.set j (xs.getD j d) = _
    rw [set_self]
section loops
variable {items : List D} {inv : DH → Prop} {s : DSt} {h : DH} {turn : D → (DSt → DH → Prop) → DSt → DH → Prop} {nx : DSt → DH → Prop}
/-- a loop that writes one slot (two, ..) -/
theorem for_1 (j : Nat) (P : Nat → Option D → DH → Prop) (h0 : P 0 (s.getD j none) h) (hi : ∀ i c h, i ≤ items.length → P i c h → inv h)
    (hs : ∀ i x c h, items[i]? = some x → P i c h → turn x (fun s' h' => ∃ c', s' = s.set j c' ∧ P (i + 1) c' h') (s.set j c) h)
    (hd : ∀ c h, P items.length c h → nx (s.set j c) h) : forD items inv s h turn nx :=
  for_mk (fun i s' h' => ∃ c', s' = s.set j c' ∧ P i c' h') ⟨_, (set_self (d := none)).symm, h0⟩ (fun i s' h' l ⟨c, _, q⟩ => hi i c h' l q)
    (fun i x s' h' e ⟨c, es, q⟩ => by subst es; exact hs i x c h' e q) (fun s' h' ⟨c, es, q⟩ => by subst es; exact hd c h' q)
theorem for_2 (j1 j2 : Nat) (P : Nat → Option D → Option D → DH → Prop) (h0 : P 0 (s.getD j1 none) (s.getD j2 none) h) (hi : ∀ i c1 c2 h, i ≤ items.length → P i c1 c2 h → inv h)
    (hs : ∀ i x c1 c2 h, items[i]? = some x → P i c1 c2 h → turn x (fun s' h' => ∃ c1' c2', s' = (s.set j1 c1').set j2 c2' ∧ P (i + 1) c1' c2' h') ((s.set j1 c1).set j2 c2) h)
    (hd : ∀ c1 c2 h, P items.length c1 c2 h → nx ((s.set j1 c1).set j2 c2) h) : forD items inv s h turn nx :=
  for_mk (fun i s' h' => ∃ c1' c2', s' = (s.set j1 c1').set j2 c2' ∧ P i c1' c2' h') ⟨_, _, (by rw [set_self, set_self]), h0⟩ (fun i s' h' l ⟨c1, c2, _, q⟩ => hi i c1 c2 h' l q)
    (fun i x s' h' e ⟨c1, c2, es, q⟩ => by subst es; exact hs i x c1 c2 h' e q) (fun s' h' ⟨c1, c2, es, q⟩ => by subst es; exact hd c1 c2 h' q)
theorem for_3 (j1 j2 j3 : Nat) (P : Nat → Option D → Option D → Option D → DH → Prop) (h0 : P 0 (s.getD j1 none) (s.getD j2 none) (s.getD j3 none) h) (hi : ∀ i c1 c2 c3 h, i ≤ items.length → P i c1 c2 c3 h → inv h)
    (hs : ∀ i x c1 c2 c3 h, items[i]? = some x → P i c1 c2 c3 h → turn x (fun s' h' => ∃ c1' c2' c3', s' = ((s.set j1 c1').set j2 c2').set j3 c3' ∧ P (i + 1) c1' c2' c3' h') (((s.set j1 c1).set j2 c2).set j3 c3) h)
    (hd : ∀ c1 c2 c3 h, P items.length c1 c2 c3 h → nx (((s.set j1 c1).set j2 c2).set j3 c3) h) : forD items inv s h turn nx :=
  for_mk (fun i s' h' => ∃ c1' c2' c3', s' = ((s.set j1 c1').set j2 c2').set j3 c3' ∧ P i c1' c2' c3' h') ⟨_, _, _, (by rw [set_self, set_self, set_self]), h0⟩ (fun i s' h' l ⟨c1, c2, c3, _, q⟩ => hi i c1 c2 c3 h' l q)
    (fun i x s' h' e ⟨c1, c2, c3, es, q⟩ => by subst es; exact hs i x c1 c2 c3 h' e q) (fun s' h' ⟨c1, c2, c3, es, q⟩ => by subst es; exact hd c1 c2 c3 h' q)
theorem for_4 (j1 j2 j3 j4 : Nat) (P : Nat → Option D → Option D → Option D → Option D → DH → Prop) (h0 : P 0 (s.getD j1 none) (s.getD j2 none) (s.getD j3 none) (s.getD j4 none) h) (hi : ∀ i c1 c2 c3 c4 h, i ≤ items.length → P i c1 c2 c3 c4 h → inv h)
    (hs : ∀ i x c1 c2 c3 c4 h, items[i]? = some x → P i c1 c2 c3 c4 h → turn x (fun s' h' => ∃ c1' c2' c3' c4', s' = (((s.set j1 c1').set j2 c2').set j3 c3').set j4 c4' ∧ P (i + 1) c1' c2' c3' c4' h') ((((s.set j1 c1).set j2 c2).set j3 c3).set j4 c4) h)
    (hd : ∀ c1 c2 c3 c4 h, P items.length c1 c2 c3 c4 h → nx ((((s.set j1 c1).set j2 c2).set j3 c3).set j4 c4) h) : forD items inv s h turn nx :=
  for_mk (fun i s' h' => ∃ c1' c2' c3' c4', s' = (((s.set j1 c1').set j2 c2').set j3 c3').set j4 c4' ∧ P i c1' c2' c3' c4' h') ⟨_, _, _, _, (by rw [set_self, set_self, set_self, set_self]), h0⟩ (fun i s' h' l ⟨c1, c2, c3, c4, _, q⟩ => hi i c1 c2 c3 c4 h' l q)
    (fun i x s' h' e ⟨c1, c2, c3, c4, es, q⟩ => by subst es; exact hs i x c1 c2 c3 c4 h' e q) (fun s' h' ⟨c1, c2, c3, c4, es, q⟩ => by subst es; exact hd c1 c2 c3 c4 h' q)
theorem for_5 (j1 j2 j3 j4 j5 : Nat) (P : Nat → Option D → Option D → Option D → Option D → Option D → DH → Prop) (h0 : P 0 (s.getD j1 none) (s.getD j2 none) (s.getD j3 none) (s.getD j4 none) (s.getD j5 none) h) (hi : ∀ i c1 c2 c3 c4 c5 h, i ≤ items.length → P i c1 c2 c3 c4 c5 h → inv h)
    (hs : ∀ i x c1 c2 c3 c4 c5 h, items[i]? = some x → P i c1 c2 c3 c4 c5 h → turn x (fun s' h' => ∃ c1' c2' c3' c4' c5', s' = ((((s.set j1 c1').set j2 c2').set j3 c3').set j4 c4').set j5 c5' ∧ P (i + 1) c1' c2' c3' c4' c5' h') (((((s.set j1 c1).set j2 c2).set j3 c3).set j4 c4).set j5 c5) h)
    (hd : ∀ c1 c2 c3 c4 c5 h, P items.length c1 c2 c3 c4 c5 h → nx (((((s.set j1 c1).set j2 c2).set j3 c3).set j4 c4).set j5 c5) h) : forD items inv s h turn nx :=
  for_mk (fun i s' h' => ∃ c1' c2' c3' c4' c5', s' = ((((s.set j1 c1').set j2 c2').set j3 c3').set j4 c4').set j5 c5' ∧ P i c1' c2' c3' c4' c5' h') ⟨_, _, _, _, _, (by rw [set_self, set_self, set_self, set_self, set_self]), h0⟩ (fun i s' h' l ⟨c1, c2, c3, c4, c5, _, q⟩ => hi i c1 c2 c3 c4 c5 h' l q)
    (fun i x s' h' e ⟨c1, c2, c3, c4, c5, es, q⟩ => by subst es; exact hs i x c1 c2 c3 c4 c5 h' e q) (fun s' h' ⟨c1, c2, c3, c4, c5, es, q⟩ => by subst es; exact hd c1 c2 c3 c4 c5 h' q)
theorem for_6 (j1 j2 j3 j4 j5 j6 : Nat) (P : Nat → Option D → Option D → Option D → Option D → Option D → Option D →  DH → Prop) (h0 : P 0 (s.getD j1 none) (s.getD j2 none) (s.getD j3 none) (s.getD j4 none) (s.getD j5 none) (s.getD j6 none) h) (hi : ∀ i c1 c2 c3 c4 c5 c6 h, i ≤ items.length → P i c1 c2 c3 c4 c5 c6 h → inv h)
    (hs : ∀ i x c1 c2 c3 c4 c5 c6 h, items[i]? = some x → P i c1 c2 c3 c4 c5 c6 h → turn x (fun s' h' => ∃ c1' c2' c3' c4' c5' c6', s' = ((((((s.set j1 c1').set j2 c2').set j3 c3').set j4 c4').set j5 c5').set j6 c6') ∧ P (i + 1) c1' c2' c3' c4' c5' c6' h') ((((((s.set j1 c1).set j2 c2).set j3 c3).set j4 c4).set j5 c5).set j6 c6) h)
    (hd : ∀ c1 c2 c3 c4 c5 c6 h, P items.length c1 c2 c3 c4 c5 c6 h → nx ((((((s.set j1 c1).set j2 c2).set j3 c3).set j4 c4).set j5 c5).set j6 c6) h) : forD items inv s h turn nx :=
  for_mk (fun i s' h' => ∃ c1' c2' c3' c4' c5' c6', s' = ((((((s.set j1 c1').set j2 c2').set j3 c3').set j4 c4').set j5 c5').set j6 c6') ∧ P i c1' c2' c3' c4' c5' c6' h') ⟨_, _, _, _, _, _, (by rw [set_self, set_self, set_self, set_self, set_self, set_self]), h0⟩ (fun i s' h' l ⟨c1, c2, c3, c4, c5, c6, _, q⟩ => hi i c1 c2 c3 c4 c5 c6 h' l q)
    (fun i x s' h' e ⟨c1, c2, c3, c4, c5, c6, es, q⟩ => by subst es; exact hs i x c1 c2 c3 c4 c5 c6 h' e q) (fun s' h' ⟨c1, c2, c3, c4, c5, c6, es, q⟩ => by subst es; exact hd c1 c2 c3 c4 c5 c6 h' q)
theorem for_7 (j1 j2 j3 j4 j5 j6 j7 : Nat) (P : Nat → Option D → Option D → Option D → Option D → Option D → Option D → Option D →  DH → Prop) (h0 : P 0 (s.getD j1 none) (s.getD j2 none) (s.getD j3 none) (s.getD j4 none) (s.getD j5 none) (s.getD j6 none) (s.getD j7 none) h) (hi : ∀ i c1 c2 c3 c4 c5 c6 c7 h, i ≤ items.length → P i c1 c2 c3 c4 c5 c6 c7 h → inv h)
    (hs : ∀ i x c1 c2 c3 c4 c5 c6 c7 h, items[i]? = some x → P i c1 c2 c3 c4 c5 c6 c7 h → turn x (fun s' h' => ∃ c1' c2' c3' c4' c5' c6' c7', s' = (((((((s.set j1 c1').set j2 c2').set j3 c3').set j4 c4').set j5 c5').set j6 c6').set j7 c7') ∧ P (i + 1) c1' c2' c3' c4' c5' c6' c7' h') (((((((s.set j1 c1).set j2 c2).set j3 c3).set j4 c4).set j5 c5).set j6 c6).set j7 c7) h)
    (hd : ∀ c1 c2 c3 c4 c5 c6 c7 h, P items.length c1 c2 c3 c4 c5 c6 c7 h → nx (((((((s.set j1 c1).set j2 c2).set j3 c3).set j4 c4).set j5 c5).set j6 c6).set j7 c7) h) : forD items inv s h turn nx :=
  for_mk (fun i s' h' => ∃ c1' c2' c3' c4' c5' c6' c7', s' = (((((((s.set j1 c1').set j2 c2').set j3 c3').set j4 c4').set j5 c5').set j6 c6').set j7 c7') ∧ P i c1' c2' c3' c4' c5' c6' c7' h') ⟨_, _, _, _, _, _, _, (by rw [set_self, set_self, set_self, set_self, set_self, set_self, set_self]), h0⟩ (fun i s' h' l ⟨c1, c2, c3, c4, c5, c6, c7, _, q⟩ => hi i c1 c2 c3 c4 c5 c6 c7 h' l q)
    (fun i x s' h' e ⟨c1, c2, c3, c4, c5, c6, c7, es, q⟩ => by subst es; exact hs i x c1 c2 c3 c4 c5 c6 c7 h' e q) (fun s' h' ⟨c1, c2, c3, c4, c5, c6, c7, es, q⟩ => by subst es; exact hd c1 c2 c3 c4 c5 c6 c7 h' q)
theorem for_8 (j1 j2 j3 j4 j5 j6 j7 j8 : Nat) (P : Nat → Option D → Option D → Option D → Option D → Option D → Option D → Option D → Option D →  DH → Prop) (h0 : P 0 (s.getD j1 none) (s.getD j2 none) (s.getD j3 none) (s.getD j4 none) (s.getD j5 none) (s.getD j6 none) (s.getD j7 none) (s.getD j8 none) h) (hi : ∀ i c1 c2 c3 c4 c5 c6 c7 c8 h, i ≤ items.length → P i c1 c2 c3 c4 c5 c6 c7 c8 h → inv h)
    (hs : ∀ i x c1 c2 c3 c4 c5 c6 c7 c8 h, items[i]? = some x → P i c1 c2 c3 c4 c5 c6 c7 c8 h → turn x (fun s' h' => ∃ c1' c2' c3' c4' c5' c6' c7' c8', s' = ((((((((s.set j1 c1').set j2 c2').set j3 c3').set j4 c4').set j5 c5').set j6 c6').set j7 c7').set j8 c8') ∧ P (i + 1) c1' c2' c3' c4' c5' c6' c7' c8' h') ((((((((s.set j1 c1).set j2 c2).set j3 c3).set j4 c4).set j5 c5).set j6 c6).set j7 c7).set j8 c8) h)
    (hd : ∀ c1 c2 c3 c4 c5 c6 c7 c8 h, P items.length c1 c2 c3 c4 c5 c6 c7 c8 h → nx ((((((((s.set j1 c1).set j2 c2).set j3 c3).set j4 c4).set j5 c5).set j6 c6).set j7 c7).set j8 c8) h) : forD items inv s h turn nx :=
  for_mk (fun i s' h' => ∃ c1' c2' c3' c4' c5' c6' c7' c8', s' = ((((((((s.set j1 c1').set j2 c2').set j3 c3').set j4 c4').set j5 c5').set j6 c6').set j7 c7').set j8 c8') ∧ P i c1' c2' c3' c4' c5' c6' c7' c8' h') ⟨_, _, _, _, _, _, _, _, (by rw [set_self, set_self, set_self, set_self, set_self, set_self, set_self, set_self]), h0⟩ (fun i s' h' l ⟨c1, c2, c3, c4, c5, c6, c7, c8, _, q⟩ => hi i c1 c2 c3 c4 c5 c6 c7 c8 h' l q)
    (fun i x s' h' e ⟨c1, c2, c3, c4, c5, c6, c7, c8, es, q⟩ => by subst es; exact hs i x c1 c2 c3 c4 c5 c6 c7 c8 h' e q) (fun s' h' ⟨c1, c2, c3, c4, c5, c6, c7, c8, es, q⟩ => by subst es; exact hd c1 c2 c3 c4 c5 c6 c7 c8 h' q)
theorem for_9 (j1 j2 j3 j4 j5 j6 j7 j8 j9 : Nat) (P : Nat → Option D → Option D → Option D → Option D → Option D → Option D → Option D → Option D → Option D →  DH → Prop) (h0 : P 0 (s.getD j1 none) (s.getD j2 none) (s.getD j3 none) (s.getD j4 none) (s.getD j5 none) (s.getD j6 none) (s.getD j7 none) (s.getD j8 none) (s.getD j9 none) h) (hi : ∀ i c1 c2 c3 c4 c5 c6 c7 c8 c9 h, i ≤ items.length → P i c1 c2 c3 c4 c5 c6 c7 c8 c9 h → inv h)
    (hs : ∀ i x c1 c2 c3 c4 c5 c6 c7 c8 c9 h, items[i]? = some x → P i c1 c2 c3 c4 c5 c6 c7 c8 c9 h → turn x (fun s' h' => ∃ c1' c2' c3' c4' c5' c6' c7' c8' c9', s' = (((((((((s.set j1 c1').set j2 c2').set j3 c3').set j4 c4').set j5 c5').set j6 c6').set j7 c7').set j8 c8').set j9 c9') ∧ P (i + 1) c1' c2' c3' c4' c5' c6' c7' c8' c9' h') (((((((((s.set j1 c1).set j2 c2).set j3 c3).set j4 c4).set j5 c5).set j6 c6).set j7 c7).set j8 c8).set j9 c9) h)
    (hd : ∀ c1 c2 c3 c4 c5 c6 c7 c8 c9 h, P items.length c1 c2 c3 c4 c5 c6 c7 c8 c9 h → nx (((((((((s.set j1 c1).set j2 c2).set j3 c3).set j4 c4).set j5 c5).set j6 c6).set j7 c7).set j8 c8).set j9 c9) h) : forD items inv s h turn nx :=
  for_mk (fun i s' h' => ∃ c1' c2' c3' c4' c5' c6' c7' c8' c9', s' = (((((((((s.set j1 c1').set j2 c2').set j3 c3').set j4 c4').set j5 c5').set j6 c6').set j7 c7').set j8 c8').set j9 c9') ∧ P i c1' c2' c3' c4' c5' c6' c7' c8' c9' h') ⟨_, _, _, _, _, _, _, _, _, (by rw [set_self, set_self, set_self, set_self, set_self, set_self, set_self, set_self, set_self]), h0⟩ (fun i s' h' l ⟨c1, c2, c3, c4, c5, c6, c7, c8, c9, _, q⟩ => hi i c1 c2 c3 c4 c5 c6 c7 c8 c9 h' l q)
    (fun i x s' h' e ⟨c1, c2, c3, c4, c5, c6, c7, c8, c9, es, q⟩ => by subst es; exact hs i x c1 c2 c3 c4 c5 c6 c7 c8 c9 h' e q) (fun s' h' ⟨c1, c2, c3, c4, c5, c6, c7, c8, c9, es, q⟩ => by subst es; exact hd c1 c2 c3 c4 c5 c6 c7 c8 c9 h' q)
end loops
section comp
variable {items : List D} {inv : DH → Prop} {h : DH} {turn : D → DH → (Option D → DH → Prop) → Prop} {Q : DK}
/-- a comprehension that leaves the heap -/
theorem lc_fm (f : D → Option D) (hz : items.length ≤ sizeLine) (hi : inv h) (hs : ∀ (i : Nat) (x : D) (R : Option D → DH → Prop), items[i]? = some x → R (f x) h → turn x h R) (hd : newL h (items.filterMap f) Q) : lcD items inv h turn Q := by
  refine lc_mk (fun i acc h' => acc = (items.take i).filterMap f ∧ h' = h) hz ⟨by simp, rfl⟩ (fun _ _ _ _ e => e.2 ▸ hi) ?_ ?_
  · rintro i x acc h' e ⟨rfl, rfl⟩
    refine hs i x _ e ?_
    have e2 : (items.take (i + 1)).filterMap f = (items.take i).filterMap f ++ (f x).toList := by
      rw [List.take_add_one, e]
      simp only [Option.toList, List.filterMap_append, List.filterMap_cons, List.filterMap_nil]
      cases f x <;> rfl
    cases q : f x with
    | none => rw [q] at e2; exact ⟨by rw [e2]; simp, rfl⟩
    | some y => rw [q] at e2; exact ⟨by rw [e2]; rfl, rfl⟩
  · rintro acc h' ⟨rfl, rfl⟩
    rw [List.take_length]
    exact hd
theorem lc_map (f : D → D) (hz : items.length ≤ sizeLine) (hi : inv h) (hs : ∀ (i : Nat) (x : D) (R : Option D → DH → Prop), items[i]? = some x → R (some (f x)) h → turn x h R) (hd : newL h (items.map f) Q) : lcD items inv h turn Q :=
  lc_fm (fun x => some (f x)) hz hi hs (by simpa using hd)
end comp
theorem FrP.sm {p g : Addr} {h h1 h2 : DH} (x : FrP p g h h1) (y : Sm h1 h2) : FrP p g h h2 := x.trans y.frp
/-- a new list, the heap told by what is in it -/
theorem newL_mk {h : DH} {xs : List D} {Q : DK} (k : ∀ p h', h p = none → h' p = some (.lst xs) → Sm h h' → Q (.ref p) h') : newL h xs Q := fun p hp => k p _ hp updD_same (.new hp)
theorem add_l {h : DH} {p q : Addr} {xs ys : List D} {Q : DK} (hp : h p = some (.lst xs)) (hq : h q = some (.lst ys)) (z : xs.length + ys.length ≤ 1000000) (k : ∀ r h', h r = none → h' r = some (.lst (xs ++ ys)) → Sm h h' → Q (.ref r) h') : binD .Add (.ref p) (.ref q) h Q :=
  ⟨xs, ys, hp, hq, szle z, fun r hr => k r _ hr updD_same (.new hr)⟩
theorem it_l {h : DH} {p : Addr} {xs : List D} {R : ItR} (l : LR h p xs) (r : R xs fun h' => LR h' p xs) : itD .val (.ref p) h R := ⟨xs, l, r⟩
theorem enum_l {h : DH} {p : Addr} {xs : List D} {R : ItR} (l : LR h p xs) (r : R (numbered 0 xs) fun h' => LR h' p xs) : itD .enum (.tup [.ref p]) h R := ⟨xs, l, r⟩
theorem slice_l {h : DH} {p : Addr} {xs : List D} {lo hi : Option Int} {Q : DK} (l : LR h p xs) (r : newL h (cutL xs lo hi) Q) : sliceD (.ref p) lo hi h Q := ⟨xs, l, r⟩
theorem items_l {h : DH} {p : Addr} {xs : List D} {k : List D → Prop} (l : LR h p xs) (r : k xs) : itemsD (.ref p) h k := ⟨xs, l, r⟩
theorem tru_l {h : DH} {p : Addr} {xs : List D} {k : Bool → Prop} (l : LR h p xs) (r : k (!xs.isEmpty)) : truD (.ref p) h k := ⟨xs, l, r⟩
theorem ty_l {h : DH} {p : Addr} {xs : List D} {k : Ty → Prop} (l : LR h p xs) (r : k .list) : tyD (.ref p) h k := ⟨xs, l, r⟩
theorem app_l {h : DH} {p : Addr} {xs : List D} {A : Prop} (l : LR h p xs) (r : A) : mthT .append (.ref p) h ∧ A := ⟨⟨p, xs, rfl, l⟩, r⟩
theorem pop_l {h : DH} {p : Addr} {xs : List D} {A : Prop} (l : LR h p xs) (r : A) : mthT .pop (.ref p) h ∧ A := ⟨⟨p, xs, rfl, l⟩, r⟩
theorem ext_l {h : DH} {p : Addr} {xs : List D} {A : Prop} (l : LR h p xs) (r : A) : mthT .extend (.ref p) h ∧ A := ⟨⟨p, xs, rfl, l⟩, r⟩
theorem append_l {h : DH} {p : Addr} {xs : List D} {y : D} {Q : DK} (l : h p = some (.lst xs)) (z : xs.length ≤ 1000000) (r : Q .non (updD h p (.lst (xs ++ [y])))) : mthD .append (.ref p) [y] h Q := ⟨p, xs, rfl, l, szl z, r⟩
theorem par_mk {v w : D} {P : D → D → Prop} (n : P v w) : ∃ v' w', D.tup [v, w] = D.tup [v', w'] ∧ P v' w' := ⟨v, w, rfl, n⟩
theorem drop_at {α : Type} {xs : List α} {i : Nat} {x : α} (e : xs[i]? = some x) : xs.drop i = x :: xs.drop (i + 1) := by
  have h := (List.getElem?_eq_some_iff.mp e)
  rw [List.drop_eq_getElem_cons h.1, h.2]
theorem take_at {α : Type} {xs : List α} {i : Nat} {x : α} (e : xs[i]? = some x) : xs.take (i + 1) = xs.take i ++ [x] := by
  rw [List.take_add_one, e]; rfl
/-- a filter told by a filterMap of values -/
theorem fm_filter {α : Type} {f : α → D} {g : D → Option D} {p : α → Bool} (h : ∀ x, g (f x) = if p x = true then some (f x) else none) : ∀ {xs : List α}, (xs.map f).filterMap g = (xs.filter p).map f
  | [] => rfl
  | x :: xs => by
    rw [List.map_cons, List.filterMap_cons, h, List.filter_cons]
    cases p x with
    | true => simp only [if_true]; rw [List.map_cons, fm_filter h]
    | false => simp only [Bool.false_eq_true, if_false]; exact fm_filter h
/-- a slice of a list told by a map -/
def cutG {α : Type} (xs : List α) (lo hi : Option Int) : List α := (xs.drop (HT.sIx xs.length 0 lo)).take (HT.sIx xs.length xs.length hi - HT.sIx xs.length 0 lo)
theorem cut_map {α : Type} {f : α → D} {xs : List α} {lo hi : Option Int} : cutL (xs.map f) lo hi = (cutG xs lo hi).map f := by
  unfold cutL cutG; simp
theorem cutG_len {α : Type} {xs : List α} {lo hi : Option Int} : (cutG xs lo hi).length ≤ xs.length := by
  unfold cutG; simp; omega
theorem cutG_sub {α : Type} {xs : List α} {lo hi : Option Int} {x : α} (h : x ∈ cutG xs lo hi) : x ∈ xs := List.mem_of_mem_drop (List.mem_of_mem_take h)
theorem rev_tm {α : Type} {f : α → D} {xs : List α} {h : DH} {Q : DK} (r : Q (.tup (xs.reverse.map f)) h) : revD (.tup (xs.map f)) h Q := by
  show Q (.tup (xs.map f).reverse) h
  rw [← List.map_reverse]; exact r
theorem rev_lm {α : Type} {f : α → D} {xs : List α} {p : Addr} {h : DH} {Q : DK} (l : LR h p (xs.map f)) (r : newL h (xs.reverse.map f) Q) : revD (.ref p) h Q := ⟨_, l, by rw [← List.map_reverse]; exact r⟩
theorem at_ls {h : DH} {p : Addr} {xs ys : List D} (e : xs = ys) : updD h p (.lst xs) p = some (.lst ys) := by rw [updD_same, e]
theorem Sm.at_ {h h' : DH} {a : Addr} {o : DO} (x : Sm h h') (e : h a = some o) : h' a = some o := x a o e
theorem FrP.at_ {p g a : Addr} {h h' : DH} {o : DO} (x : FrP p g h h') (n1 : a ≠ p) (n2 : a ≠ g) (e : h a = some o) : h' a = some o := x a o n1 n2 e
theorem updD_at {h : DH} {a b : Addr} {o q : DO} (e : h b = some q) (n : b ≠ a) : updD h a o b = some q := by rw [updD_ne n]; exact e
end DL
namespace DL
open PySem L2

theorem At_rg {n : Nat} {k : Int} {a : Nat} (e : k = (a : Int)) (h : a < n) : At (List.range n) k = a := by
  subst e; exact At_get (by simp [h])
/-! ## 11. Dicts told by lists of typed pairs -/
section alist
variable {κ ν : Type} [DecidableEq κ]
def alook (m : List (κ × ν)) (k : κ) : Option ν := (m.find? fun p => decide (p.1 = k)).map (·.2)
def aput (m : List (κ × ν)) (k : κ) (v : ν) : List (κ × ν) := if (alook m k).isSome = true then m.map (fun p => if p.1 = k then (p.1, v) else p) else m ++ [(k, v)]
/-- the pairs as values -/
def encM (ek : κ → D) (ev : ν → D) (m : List (κ × ν)) : List (D × D) := m.map fun p => (ek p.1, ev p.2)
def KInj (ek : κ → D) : Prop := ∀ a b, nkey (ek a) = nkey (ek b) → a = b
theorem find_map' {α β : Type} {f : α → β} {p : β → Bool} : ∀ {xs : List α}, (xs.map f).find? p = (xs.find? fun x => p (f x)).map f
  | [] => rfl
  | x :: xs => by
    rw [List.map_cons, List.find?_cons, List.find?_cons]
    cases p (f x) with
    | true => rfl
    | false => exact find_map'
theorem dget_enc {ek : κ → D} {ev : ν → D} (inj : KInj ek) (m : List (κ × ν)) (k : κ) : dget (encM ek ev m) (ek k) = (alook m k).map ev := by
  unfold dget encM alook
  rw [find_map', Option.map_map, Option.map_map]
  have e : (fun p : κ × ν => decide (nkey (ek p.1) = nkey (ek k))) = fun p => decide (p.1 = k) := by
    funext p
    by_cases h : p.1 = k
    · rw [h]; simp
    · rw [decide_eq_false h, decide_eq_false fun e => h (inj _ _ e)]
  show Option.map _ (m.find? fun p => decide (nkey (ek p.1) = nkey (ek k))) = _
  rw [e]
  rfl
theorem dput_enc {ek : κ → D} {ev : ν → D} (inj : KInj ek) (m : List (κ × ν)) (k : κ) (v : ν) : dput (encM ek ev m) (ek k) (ev v) = encM ek ev (aput m k v) := by
  unfold dput aput
  rw [dget_enc inj, Option.isSome_map]
  split
  · unfold encM
    rw [List.map_map, List.map_map]
    refine List.map_congr_left fun p _ => ?_
    show (if nkey (ek p.1) = nkey (ek k) then (ek p.1, ev v) else (ek p.1, ev p.2)) = _
    by_cases h : p.1 = k
    · simp [h]
    · rw [if_neg fun e => h (inj _ _ e)]; simp [h]
  · simp [encM]
theorem alook_none {m : List (κ × ν)} {k : κ} : alook m k = none ↔ k ∉ m.map (·.1) := by
  unfold alook
  rw [Option.map_eq_none_iff, List.find?_eq_none]
  simp only [decide_eq_true_eq, List.mem_map, not_exists, not_and]
theorem alook_mem {m : List (κ × ν)} {k : κ} {v : ν} (h : alook m k = some v) : (k, v) ∈ m := by
  unfold alook at h
  rw [Option.map_eq_some_iff] at h
  obtain ⟨p, h1, h2⟩ := h
  have := List.find?_some h1
  simp only [decide_eq_true_eq] at this
  have h3 := List.mem_of_find?_eq_some h1
  subst this h2; exact h3
theorem alook_some {m : List (κ × ν)} {k : κ} : (alook m k).isSome = true ↔ k ∈ m.map (·.1) := by
  by_cases h : k ∈ m.map (·.1)
  · simp only [h, iff_true]
    cases e : alook m k with
    | none => exact absurd h (alook_none.1 e)
    | some v => rfl
  · simp only [h, iff_false]
    rw [alook_none.2 h]; simp
theorem alook_append {m n : List (κ × ν)} {k : κ} : alook (m ++ n) k = (alook m k).or (alook n k) := by
  unfold alook
  rw [List.find?_append]
  cases m.find? fun p => decide (p.1 = k) <;> rfl
theorem alook_cons {m : List (κ × ν)} {a : κ × ν} {k : κ} : alook (a :: m) k = if a.1 = k then some a.2 else alook m k := by
  unfold alook
  rw [List.find?_cons]
  by_cases h : a.1 = k <;> simp [h]
theorem aput_new {m : List (κ × ν)} {k : κ} {v : ν} (h : alook m k = none) : aput m k v = m ++ [(k, v)] := by
  unfold aput; rw [h]; rfl
theorem alook_repl {m : List (κ × ν)} {k j : κ} {v : ν} : alook (m.map fun p => if p.1 = k then (p.1, v) else p) j = if j = k then (alook m j).map fun _ => v else alook m j := by
  induction m with
  | nil => simp [alook]
  | cons a m ih =>
    rw [List.map_cons, alook_cons, alook_cons, ih]
    by_cases h : a.1 = k
    · rw [if_pos h]
      by_cases h2 : a.1 = j
      · have : j = k := h2.symm.trans h
        simp [h, h2, this]
      · simp only [h2, if_false]
    · rw [if_neg h]
      by_cases h2 : a.1 = j
      · have : ¬ j = k := fun e => h (h2.trans e)
        simp [h2, this]
      · simp only [h2, if_false]
theorem alook_aput {m : List (κ × ν)} {k j : κ} {v : ν} : alook (aput m k v) j = if j = k then some v else alook m j := by
  unfold aput
  split
  · rename_i h
    rw [alook_repl]
    by_cases e : j = k
    · subst e
      simp only [if_true]
      cases q : alook m j with
      | none => rw [q] at h; cases h
      | some w => rfl
    · simp [e]
  · rename_i h
    rw [alook_append, alook_cons]
    by_cases e : j = k
    · subst e
      have : alook m j = none := by simpa using h
      rw [this]; simp
    · have e' : ¬ k = j := fun z => e z.symm
      simp [e, e', alook]
theorem aput_len {m : List (κ × ν)} {k : κ} {v : ν} : (aput m k v).length ≤ m.length + 1 := by
  unfold aput; split <;> simp
theorem aput_nd {m : List (κ × ν)} {k : κ} {v : ν} (nd : (m.map (·.1)).Nodup) : ((aput m k v).map (·.1)).Nodup := by
  unfold aput
  split
  · rw [List.map_map]
    have : (fun p : κ × ν => p.1) ∘ (fun p => if p.1 = k then (p.1, v) else p) = fun p => p.1 := by
      funext p; show (if p.1 = k then (p.1, v) else p).1 = p.1; split <;> rfl
    rw [this]; exact nd
  · rename_i h
    have h' : k ∉ m.map (·.1) := fun e => h (alook_some.2 e)
    rw [List.map_append, List.nodup_append]
    refine ⟨nd, by simp, fun a ha b hb => ?_⟩
    simp at hb; subst hb
    exact fun e => h' (e ▸ ha)
theorem encM_len {ek : κ → D} {ev : ν → D} {m : List (κ × ν)} : (encM ek ev m).length = m.length := by simp [encM]
end alist
theorem nodup_lt : ∀ (N : Nat) (xs : List Nat), xs.Nodup → (∀ x ∈ xs, x < N) → xs.length ≤ N
  | 0, [], _, _ => Nat.le_refl _
  | 0, x :: xs, _, h => absurd (h x List.mem_cons_self) (Nat.not_lt_zero _)
  | N + 1, xs, nd, h => by
    have h2 := nodup_lt N (xs.erase N) (nd.erase N) fun x hx => by
      have h3 := h x (List.mem_of_mem_erase hx)
      have : x ≠ N := fun e => by subst e; exact (nd.not_mem_erase) hx
      omega
    rw [List.length_erase] at h2
    split at h2 <;> omega
theorem nodup_sub {α : Type} [DecidableEq α] : ∀ (l d : List α), l.Nodup → (∀ x ∈ l, x ∈ d) → l.length ≤ d.length
  | [], d, _, _ => Nat.zero_le _
  | x :: l, d, nd, h => by
    rw [List.nodup_cons] at nd
    have hx := h x List.mem_cons_self
    have := nodup_sub l (d.erase x) nd.2 fun y hy => (List.mem_erase_of_ne (a := y) (b := x) (fun e => nd.1 (by rw [← e]; exact hy))).2 (h y (List.mem_cons_of_mem _ hy))
    rw [List.length_erase_of_mem hx] at this
    have := List.length_pos_of_mem hx
    rw [List.length_cons]; omega
/-- nodup pairs below two bounds -/
theorem nodup_grid {m n : Nat} {xs : List (Nat × Nat)} (nd : xs.Nodup) (h : ∀ x ∈ xs, x.1 ≤ m ∧ x.2 ≤ n) : xs.length ≤ (m + 1) * (n + 1) := by
  have h1 := nodup_lt ((m + 1) * (n + 1)) (xs.map fun x => x.1 * (n + 1) + x.2) ?_ ?_
  · simpa using h1
  · refine List.pairwise_map.2 (nd.imp_of_mem fun {a b} ha hb hab e => hab ?_)
    have a2 := (h a ha).2
    have b2 := (h b hb).2
    have e1 : a.1 = b.1 := by
      have q : (a.1 * (n + 1) + a.2) / (n + 1) = (b.1 * (n + 1) + b.2) / (n + 1) := by rw [e]
      rw [Nat.mul_comm a.1, Nat.mul_comm b.1, Nat.mul_add_div (by omega), Nat.mul_add_div (by omega), Nat.div_eq_of_lt (by omega), Nat.div_eq_of_lt (by omega)] at q
      omega
    have e2 : a.2 = b.2 := by rw [e1] at e; omega
    exact Prod.ext e1 e2
  · intro x hx
    obtain ⟨y, hy, rfl⟩ := List.mem_map.1 hx
    obtain ⟨h1, h2⟩ := h y hy
    have : y.1 * (n + 1) ≤ m * (n + 1) := Nat.mul_le_mul_right _ h1
    rw [Nat.add_mul]; omega
/-- pairs of ints as keys -/
def ekP (x : Nat × Nat) : D := .tup [.int (x.1 : Int), .int (x.2 : Int)]
theorem ekP_inj : KInj ekP := fun a b e => by
  simp only [ekP, nkey, nkeys, Option.map_some, Option.some.injEq, NestedKey.tup.injEq, List.cons.injEq, NestedKey.num.injEq, and_true] at e
  exact Prod.ext (by omega) (by omega)
theorem ekP_key {x : Nat × Nat} : keyB true (ekP x) = true := by
  simp [ekP, keyB, nkeys, nkey, NestedKey.depthAll, NestedKey.depth]
end DL
namespace K17
open PySem L2 DL
def top (i : Nat) : Stmt := PySem.Challenge.pw_digstead_k17_alignments.main.body.getD i (.Pass ⟨0, 0, 0, 0⟩)
def T : Tab where
  fn := [("unlike", 0), ("least_errors", 1), ("last_step", 2), ("alignment", 3), ("alignment_errors", 4), ("_law_pool", 5), ("_law_pick", 6), ("_law_one", 7), ("_law_belt", 8), ("_law_ring", 9), ("_law_layers", 10), ("_law_judged", 11), ("_law_number", 12), ("_law_path", 13), ("_law_twisted", 14), ("_law_found", 15), ("law", 16)]
  gl := [("STEPS", 0)]
  free := ["abs", "any", "bool", "enumerate", "int", "isinstance", "len", "list", "max", "min", "range", "set", "sorted", "tuple"]
  ps := fun i => ([["ring", "width"], ["row", "widths"], ["row", "widths", "table", "a", "c"], ["row", "widths", "errors", "j"], ["row", "widths", "steps", "j"], ["script", "salt"], ["pool", "many"], ["pool", "rows"], ["pool"], ["pool", "belt"], ["ring", "belt"], ["ring", "belt", "walk", "stop"], ["got", "due"], ["pool", "ring"], ["pool", "walk"], ["ring", "belt", "given", "path", "least", "stop"], ["script"]] : List (List Str)).getD i []
  cs := fun i => ([.tup [.str "pair", .str "ring", .str "year"]] : List D).getD i .non
  sh := [(3, 0, ["errors", "j", "row", "widths"], [2, 3, 0, 1]), (4, 0, ["steps", "row", "j", "widths"], [1, 3, 0, 2])]
/-! 0: 0 ring, 1 width -/
abbrev st_unlike : Stmt := top 2
def N_unlike : List Str := ["ring", "width"]
def ir_unlike : S :=
  (.seq (.ret (.blt .int (.cons (.cmp .NotEq (.var 0) (.var 1)) .nil)))
  .skip)
theorem sc_unlike : FnScope N_unlike ["ring", "width"] (defScope st_unlike) := ⟨rfl, rfl, rfl, by decide +kernel, rfl, by decide +kernel, by decide +kernel⟩
theorem ch_unlike : chkS (T.cut 0) ir_unlike ⟨N_unlike, (defScope st_unlike).names⟩ (.b (defBody st_unlike)) = true := by decide +kernel
/-! 1: 0 row, 1 widths, 2 table, 3 ring, 4 above, 5 line, 6 c, 7 width -/
abbrev st_least_errors : Stmt := top 3
def N_least_errors : List Str := ["row", "widths", "table", "ring", "above", "line", "c", "width"]
@[irreducible] def ir_least_errors_r0 : S :=
  (.seq (.ret (.blt .tuple (.cons (.var 2) .nil)))
  .skip)
@[irreducible] def ir_least_errors_r1 : S :=
  (.seq (.expr (.mth .append (.var 2) (.cons (.blt .tuple (.cons (.var 5) .nil)) .nil)))
  .skip)
@[irreducible] def ir_least_errors_b2 : S :=
  (.seq (.expr (.mth .append (.var 5) (.cons (.blt .min (.cons (.bin .Add (.sub (.var 4) (.var 6)) (.call 0 (.cons (.var 3) (.cons (.var 7) .nil)))) (.cons (.bin .Add (.sub (.var 4) (.bin .Add (.var 6) (.cst (.int 1)))) (.cst (.int 1))) (.cons (.bin .Add (.sub (.var 5) (.var 6)) (.cst (.int 1))) .nil)))) .nil)))
  .skip)
@[irreducible] def ir_least_errors_b3 : S :=
  (.seq (.asg (.name 4) (.sub (.var 2) (.neg (.cst (.int 1)))))
  (.seq (.asg (.name 5) (.lst (.cons (.bin .Add (.sub (.var 4) (.cst (.int 0))) (.cst (.int 1))) .nil)))
  (.seq (.for_ (.tup (.cons (.name 6) (.cons (.name 7) .nil))) .enum (.cons (.var 1) .nil) ir_least_errors_b2)
  ir_least_errors_r1)))
def ir_least_errors : S :=
  (.seq (.asg (.name 2) (.lst (.cons (.bin .Mult (.tup (.cons (.cst (.int 0)) .nil)) (.bin .Add (.blt .len (.cons (.var 1) .nil)) (.cst (.int 1)))) .nil)))
  (.seq (.for_ (.name 3) .val (.var 0) ir_least_errors_b3)
  ir_least_errors_r0))
theorem sc_least_errors : FnScope N_least_errors ["row", "widths"] (defScope st_least_errors) := ⟨rfl, rfl, rfl, by decide +kernel, rfl, by decide +kernel, by decide +kernel⟩
theorem ch_least_errors : chkS (T.cut 1) ir_least_errors ⟨N_least_errors, (defScope st_least_errors).names⟩ (.b (defBody st_least_errors)) = true := by decide +kernel
/-! 2: 0 row, 1 widths, 2 table, 3 a, 4 c, 5 least -/
abbrev st_last_step : Stmt := top 4
def N_last_step : List Str := ["row", "widths", "table", "a", "c", "least"]
@[irreducible] def ir_last_step_r0 : S :=
  (.seq (.ret (.cst (.str "year")))
  .skip)
@[irreducible] def ir_last_step_r1 : S :=
  (.seq (.ite (.cmp .Eq (.var 5) (.bin .Add (.sub (.sub (.var 2) (.bin .Sub (.var 3) (.cst (.int 1)))) (.var 4)) (.cst (.int 1)))) (.seq (.ret (.cst (.str "ring")))
  .skip) .skip)
  ir_last_step_r0)
def ir_last_step : S :=
  (.seq (.asg (.name 5) (.sub (.sub (.var 2) (.var 3)) (.var 4)))
  (.seq (.ite (.andB (.cmp .Gt (.var 4) (.cst (.int 0))) (.cmp .Eq (.var 5) (.bin .Add (.sub (.sub (.var 2) (.bin .Sub (.var 3) (.cst (.int 1)))) (.bin .Sub (.var 4) (.cst (.int 1)))) (.call 0 (.cons (.sub (.var 0) (.bin .Sub (.var 3) (.cst (.int 1)))) (.cons (.sub (.var 1) (.bin .Sub (.var 4) (.cst (.int 1)))) .nil)))))) (.seq (.ret (.cst (.str "pair")))
  .skip) .skip)
  ir_last_step_r1))
theorem sc_last_step : FnScope N_last_step ["row", "widths", "table", "a", "c"] (defScope st_last_step) := ⟨rfl, rfl, rfl, by decide +kernel, rfl, by decide +kernel, by decide +kernel⟩
theorem ch_last_step : chkS (T.cut 2) ir_last_step ⟨N_last_step, (defScope st_last_step).names⟩ (.b (defBody st_last_step)) = true := by decide +kernel
/-! 3: 0 row, 1 widths, 2 errors, 3 j, 4 table, 5 steps, 6 a, 7 c, 8 step -/
abbrev st_alignment : Stmt := top 5
def N_alignment : List Str := ["row", "widths", "errors", "j", "table", "steps", "a", "c", "step"]
@[irreducible] def ir_alignment_r0 : S :=
  (.seq (.ret (.blt .tuple (.cons (.rev (.var 5)) .nil)))
  .skip)
@[irreducible] def ir_alignment_r1 : S :=
  (.seq (.ite (.cmp .NotEq (.var 8) (.cst (.str "ring"))) (.seq (.aug 7 .Sub (.cst (.int 1)))
  .skip) .skip)
  .skip)
@[irreducible] def ir_alignment_b2 : S :=
  (.seq (.asg (.name 8) (.call 2 (.cons (.var 0) (.cons (.var 1) (.cons (.var 4) (.cons (.var 6) (.cons (.var 7) .nil)))))))
  (.seq (.expr (.mth .append (.var 5) (.cons (.var 8) .nil)))
  (.seq (.ite (.cmp .NotEq (.var 8) (.cst (.str "year"))) (.seq (.aug 6 .Sub (.cst (.int 1)))
  .skip) .skip)
  ir_alignment_r1)))
@[irreducible] def ir_alignment_r3 : S :=
  (.seq (.asg (.name 5) (.lst .nil))
  (.seq (.asgPar 6 7 (.cons (.blt .len (.cons (.var 0) .nil)) (.cons (.var 3) .nil)))
  (.seq (.while_ (.cmp .Gt (.var 6) (.cst (.int 0))) ir_alignment_b2)
  ir_alignment_r0)))
def ir_alignment : S :=
  (.seq (.asg (.name 4) (.call 1 (.cons (.var 0) (.cons (.var 1) .nil))))
  (.seq (.ite (.cmp .Gt (.sub (.sub (.var 4) (.neg (.cst (.int 1)))) (.var 3)) (.var 2)) (.seq (.ret (.cst .non))
  .skip) .skip)
  ir_alignment_r3))
theorem sc_alignment : FnScope N_alignment ["row", "widths", "errors", "j"] (defScope st_alignment) := ⟨rfl, rfl, rfl, by decide +kernel, rfl, by decide +kernel, by decide +kernel⟩
theorem ch_alignment : chkS (T.cut 3) ir_alignment ⟨N_alignment, (defScope st_alignment).names⟩ (.b (defBody st_alignment)) = true := by decide +kernel
/-! 4: 0 row, 1 widths, 2 steps, 3 j, 4 rings, 5 years, 6 errors, 7 a, 8 c, 9 step -/
abbrev st_alignment_errors : Stmt := top 6
def N_alignment_errors : List Str := ["row", "widths", "steps", "j", "rings", "years", "errors", "a", "c", "step"]
@[irreducible] def ir_alignment_errors_r0 : S :=
  (.seq (.ret (.var 6))
  .skip)
@[irreducible] def ir_alignment_errors_r1 : S :=
  (.seq (.ite (.cmp .NotEq (.var 9) (.cst (.str "ring"))) (.seq (.aug 8 .Add (.cst (.int 1)))
  .skip) .skip)
  .skip)
@[irreducible] def ir_alignment_errors_r2 : S :=
  (.seq (.ite (.cmp .NotEq (.var 9) (.cst (.str "year"))) (.seq (.aug 7 .Add (.cst (.int 1)))
  .skip) .skip)
  ir_alignment_errors_r1)
@[irreducible] def ir_alignment_errors_b3 : S :=
  (.seq (.ite (.cmp .Eq (.var 9) (.cst (.str "pair"))) (.seq (.aug 6 .Add (.call 0 (.cons (.sub (.var 0) (.var 7)) (.cons (.sub (.var 1) (.var 8)) .nil))))
  .skip) (.seq (.aug 6 .Add (.cst (.int 1)))
  .skip))
  ir_alignment_errors_r2)
@[irreducible] def ir_alignment_errors_r4 : S :=
  (.seq (.asg (.name 6) (.cst (.int 0)))
  (.seq (.asgPar 7 8 (.cons (.cst (.int 0)) (.cons (.bin .Sub (.var 3) (.var 5)) .nil)))
  (.seq (.for_ (.name 9) .val (.var 2) ir_alignment_errors_b3)
  ir_alignment_errors_r0)))
@[irreducible] def ir_alignment_errors_r5 : S :=
  (.seq (.asg (.name 4) (.blt .len (.cons (.lc (.name 9) .val (.var 2) (.cmp .NotEq (.var 9) (.cst (.str "year"))) (.var 9) [("step", 9)]) .nil)))
  (.seq (.asg (.name 5) (.blt .len (.cons (.lc (.name 9) .val (.var 2) (.cmp .NotEq (.var 9) (.cst (.str "ring"))) (.var 9) [("step", 9)]) .nil)))
  (.seq (.ite (.orB (.cmp .NotEq (.var 4) (.blt .len (.cons (.var 0) .nil))) (.cmp .Gt (.var 5) (.var 3))) (.seq (.ret (.cst .non))
  .skip) .skip)
  ir_alignment_errors_r4)))
def ir_alignment_errors : S :=
  (.seq (.ite (.truth (.blt .any (.cons (.lc (.name 9) .val (.var 2) (.cst (.bl true)) (.cmp .NotIn (.var 9) (.glb 0)) [("step", 9)]) .nil))) (.seq (.ret (.cst .non))
  .skip) .skip)
  ir_alignment_errors_r5)
theorem sc_alignment_errors : FnScope N_alignment_errors ["row", "widths", "steps", "j"] (defScope st_alignment_errors) := ⟨rfl, rfl, rfl, by decide +kernel, rfl, by decide +kernel, by decide +kernel⟩
theorem ch_alignment_errors : chkS (T.cut 4) ir_alignment_errors ⟨N_alignment_errors, (defScope st_alignment_errors).names⟩ (.b (defBody st_alignment_errors)) = true := by decide +kernel
/-! 5: 0 script, 1 salt, 2 great, 3 mixed, 4 i, 5 cell -/
abbrev st_law_pool : Stmt := top 8
def N_law_pool : List Str := ["script", "salt", "great", "mixed", "i", "cell"]
@[irreducible] def ir_law_pool_r0 : S :=
  (.seq (.ret (.lst (.cons (.var 2) (.cons (.var 3) (.cons (.cst (.int 0)) .nil)))))
  .skip)
@[irreducible] def ir_law_pool_r1 : S :=
  (.seq (.asg (.name 3) (.bin .Mod (.blt .int (.cons (.bin .Add (.bin .Add (.bin .Add (.bin .Add (.bin .Mult (.var 3) (.cst (.int 48271))) (.bin .Mult (.bin .Mod (.blt .int (.cons (.var 5) .nil)) (.cst (.int 999983))) (.cst (.int 69621)))) (.bin .Mod (.blt .int (.cons (.bin .FloorDiv (.var 5) (.cst (.int 999983))) .nil)) (.cst (.int 999979)))) (.var 4)) (.cst (.int 1))) .nil)) (.cst (.int 2147483647))))
  .skip)
@[irreducible] def ir_law_pool_b2 : S :=
  (.seq (.asg (.name 5) (.blt .abs (.cons (.blt .int (.cons (.sub (.var 0) (.var 4)) .nil)) .nil)))
  (.seq (.ite (.cmp .GtE (.var 5) (.bin .Pow (.cst (.int 10)) (.cst (.int 18)))) (.seq (.asg (.name 2) (.bin .Add (.lst (.cons (.var 5) .nil)) (.var 2)))
  .skip) .skip)
  ir_law_pool_r1))
def ir_law_pool : S :=
  (.seq (.asg (.name 2) (.lst .nil))
  (.seq (.asg (.name 3) (.bin .Add (.cst (.int 7)) (.var 1)))
  (.seq (.for_ (.name 4) .range1 (.cons (.blt .min (.cons (.blt .len (.cons (.var 0) .nil)) (.cons (.cst (.int 63)) .nil))) .nil) ir_law_pool_b2)
  ir_law_pool_r0)))
theorem sc_law_pool : FnScope N_law_pool ["script", "salt"] (defScope st_law_pool) := ⟨rfl, rfl, rfl, by decide +kernel, rfl, by decide +kernel, by decide +kernel⟩
theorem ch_law_pool : chkS (T.cut 5) ir_law_pool ⟨N_law_pool, (defScope st_law_pool).names⟩ (.b (defBody st_law_pool)) = true := by decide +kernel
/-! 6: 0 pool, 1 many, 2 cells, 3 got, 4 x, 5 y, 6 z -/
abbrev st_law_pick : Stmt := top 9
def N_law_pick : List Str := ["pool", "many", "cells", "got", "x", "y", "z"]
@[irreducible] def ir_law_pick_r0 : S :=
  (.seq (.asgSub (.var 0) (.cst (.int 2)) (.bin .Add (.sub (.var 0) (.cst (.int 2))) (.cst (.int 1))))
  (.seq (.asg (.name 4) (.bin .Mod (.blt .int (.cons (.bin .Add (.bin .Add (.bin .Mult (.sub (.var 0) (.cst (.int 1))) (.cst (.int 48271))) (.bin .Mult (.cst (.int 11)) (.sub (.var 0) (.cst (.int 2))))) (.cst (.int 5))) .nil)) (.cst (.int 2147483647))))
  (.seq (.asgSub (.var 0) (.cst (.int 1)) (.var 4))
  (.seq (.asg (.name 5) (.bin .Mod (.blt .int (.cons (.bin .Add (.bin .Add (.bin .Mult (.var 4) (.var 4)) (.bin .Mult (.cst (.int 3)) (.sub (.var 0) (.cst (.int 2))))) (.cst (.int 1))) .nil)) (.cst (.int 2147483629))))
  (.seq (.asg (.name 6) (.bin .Mod (.blt .int (.cons (.bin .Add (.bin .Mult (.var 5) (.var 5)) (.var 4)) .nil)) (.cst (.int 2147483587))))
  (.seq (.ret (.bin .Mod (.blt .int (.cons (.bin .FloorDiv (.var 6) (.cst (.int 7))) .nil)) (.var 1)))
  .skip))))))
@[irreducible] def ir_law_pick_r1 : S :=
  (.seq (.ret (.var 3))
  .skip)
@[irreducible] def ir_law_pick_r2 : S :=
  (.seq (.asg (.name 2) (.sub (.var 0) (.cst (.int 0))))
  (.seq (.ite (.cmp .Gt (.blt .len (.cons (.var 2) .nil)) (.cst (.int 0))) (.seq (.asg (.name 3) (.bin .Mod (.blt .int (.cons (.sub (.var 2) (.neg (.cst (.int 1)))) .nil)) (.var 1)))
  (.seq (.asgSub (.var 2) (.neg (.cst (.int 1))) (.bin .FloorDiv (.sub (.var 2) (.neg (.cst (.int 1)))) (.var 1)))
  (.seq (.ite (.cmp .Eq (.sub (.var 2) (.neg (.cst (.int 1)))) (.cst (.int 0))) (.seq (.expr (.mth .pop (.var 2) .nil))
  .skip) .skip)
  ir_law_pick_r1))) .skip)
  ir_law_pick_r0))
def ir_law_pick : S :=
  (.seq (.ite (.cmp .Lt (.var 1) (.cst (.int 2))) (.seq (.ret (.cst (.int 0)))
  .skip) .skip)
  ir_law_pick_r2)
theorem sc_law_pick : FnScope N_law_pick ["pool", "many"] (defScope st_law_pick) := ⟨rfl, rfl, rfl, by decide +kernel, rfl, by decide +kernel, by decide +kernel⟩
theorem ch_law_pick : chkS (T.cut 6) ir_law_pick ⟨N_law_pick, (defScope st_law_pick).names⟩ (.b (defBody st_law_pick)) = true := by decide +kernel
/-! 7: 0 pool, 1 rows -/
abbrev st_law_one : Stmt := top 10
def N_law_one : List Str := ["pool", "rows"]
def ir_law_one : S :=
  (.seq (.ret (.sub (.var 1) (.call 6 (.cons (.var 0) (.cons (.blt .len (.cons (.var 1) .nil)) .nil)))))
  .skip)
theorem sc_law_one : FnScope N_law_one ["pool", "rows"] (defScope st_law_one) := ⟨rfl, rfl, rfl, by decide +kernel, rfl, by decide +kernel, by decide +kernel⟩
theorem ch_law_one : chkS (T.cut 7) ir_law_one ⟨N_law_one, (defScope st_law_one).names⟩ (.b (defBody st_law_one)) = true := by decide +kernel
/-! 8: 0 pool, 1 many, 2 most, 3 i -/
abbrev st_law_belt : Stmt := top 11
def N_law_belt : List Str := ["pool", "many", "most", "i"]
@[irreducible] def ir_law_belt_r0 : S :=
  (.seq (.asg (.name 2) (.call 7 (.cons (.var 0) (.cons (.lst (.cons (.cst (.int 2)) (.cons (.cst (.int 3)) (.cons (.cst (.int 9)) .nil)))) .nil))))
  (.seq (.ret (.lc (.name 3) .range1 (.cons (.var 1) .nil) (.cst (.bl true)) (.bin .Add (.cst (.int 1)) (.call 6 (.cons (.var 0) (.cons (.var 2) .nil)))) [("i", 3)]))
  .skip))
def ir_law_belt : S :=
  (.seq (.asg (.name 1) (.bin .Add (.cst (.int 1)) (.call 6 (.cons (.var 0) (.cons (.cst (.int 14)) .nil)))))
  (.seq (.ite (.cmp .Eq (.call 6 (.cons (.var 0) (.cons (.cst (.int 16)) .nil))) (.cst (.int 15))) (.seq (.asg (.name 1) (.call 7 (.cons (.var 0) (.cons (.lst (.cons (.cst (.int 60)) (.cons (.bin .Add (.cst (.int 15)) (.call 6 (.cons (.var 0) (.cons (.cst (.int 46)) .nil)))) .nil))) .nil))))
  .skip) .skip)
  ir_law_belt_r0))
theorem sc_law_belt : FnScope N_law_belt ["pool"] (defScope st_law_belt) := ⟨rfl, rfl, rfl, by decide +kernel, rfl, by decide +kernel, by decide +kernel⟩
theorem ch_law_belt : chkS (T.cut 8) ir_law_belt ⟨N_law_belt, (defScope st_law_belt).names⟩ (.b (defBody st_law_belt)) = true := by decide +kernel
/-! 9: 0 pool, 1 belt, 2 many, 3 start, 4 ring, 5 i, 6 way, 7 here -/
abbrev st_law_ring : Stmt := top 12
def N_law_ring : List Str := ["pool", "belt", "many", "start", "ring", "i", "way", "here"]
@[irreducible] def ir_law_ring_r0 : S :=
  (.seq (.ret (.var 4))
  .skip)
@[irreducible] def ir_law_ring_r1 : S :=
  (.seq (.ite (.cmp .Eq (.var 6) (.cst (.int 2))) (.seq (.asg (.name 4) (.bin .Add (.bin .Add (.slice false true (.var 4) .absent (.var 7)) (.lst (.cons (.bin .Add (.cst (.int 1)) (.call 6 (.cons (.var 0) (.cons (.cst (.int 9)) .nil)))) .nil))) (.slice true false (.var 4) (.bin .Add (.var 7) (.cst (.int 1))) .absent)))
  .skip) .skip)
  .skip)
@[irreducible] def ir_law_ring_r2 : S :=
  (.seq (.ite (.andB (.cmp .Eq (.var 6) (.cst (.int 1))) (.cmp .Gt (.blt .len (.cons (.var 4) .nil)) (.cst (.int 1)))) (.seq (.asg (.name 4) (.bin .Add (.slice false true (.var 4) .absent (.var 7)) (.slice true false (.var 4) (.bin .Add (.var 7) (.cst (.int 1))) .absent)))
  .skip) .skip)
  ir_law_ring_r1)
@[irreducible] def ir_law_ring_b3 : S :=
  (.seq (.asg (.name 6) (.call 6 (.cons (.var 0) (.cons (.cst (.int 3)) .nil))))
  (.seq (.asg (.name 7) (.call 6 (.cons (.var 0) (.cons (.blt .len (.cons (.var 4) .nil)) .nil))))
  (.seq (.ite (.andB (.cmp .Eq (.var 6) (.cst (.int 0))) (.cmp .Lt (.blt .len (.cons (.var 4) .nil)) (.cst (.int 16)))) (.seq (.asg (.name 4) (.bin .Add (.bin .Add (.slice false true (.var 4) .absent (.var 7)) (.lst (.cons (.bin .Add (.cst (.int 1)) (.call 6 (.cons (.var 0) (.cons (.cst (.int 9)) .nil)))) .nil))) (.slice true false (.var 4) (.var 7) .absent)))
  .skip) .skip)
  ir_law_ring_r2)))
@[irreducible] def ir_law_ring_r4 : S :=
  (.seq (.for_ (.name 5) .range1 (.cons (.call 7 (.cons (.var 0) (.cons (.lst (.cons (.cst (.int 0)) (.cons (.cst (.int 0)) (.cons (.cst (.int 1)) (.cons (.cst (.int 2)) (.cons (.cst (.int 3)) (.cons (.cst (.int 4)) .nil))))))) .nil))) .nil) ir_law_ring_b3)
  ir_law_ring_r0)
def ir_law_ring : S :=
  (.seq (.asg (.name 2) (.bin .Add (.cst (.int 1)) (.call 6 (.cons (.var 0) (.cons (.cst (.int 16)) .nil)))))
  (.seq (.asg (.name 3) (.call 6 (.cons (.var 0) (.cons (.blt .max (.cons (.cst (.int 1)) (.cons (.bin .Add (.bin .Sub (.blt .len (.cons (.var 1) .nil)) (.var 2)) (.cst (.int 1))) .nil))) .nil))))
  (.seq (.asg (.name 4) (.slice true true (.var 1) (.var 3) (.bin .Add (.var 3) (.var 2))))
  (.seq (.ite (.cmp .Eq (.call 6 (.cons (.var 0) (.cons (.cst (.int 4)) .nil))) (.cst (.int 0))) (.seq (.asg (.name 4) (.lc (.name 5) .range1 (.cons (.var 2) .nil) (.cst (.bl true)) (.bin .Add (.cst (.int 1)) (.call 6 (.cons (.var 0) (.cons (.cst (.int 9)) .nil)))) [("i", 5)]))
  .skip) .skip)
  ir_law_ring_r4))))
theorem sc_law_ring : FnScope N_law_ring ["pool", "belt"] (defScope st_law_ring) := ⟨rfl, rfl, rfl, by decide +kernel, rfl, by decide +kernel, by decide +kernel⟩
theorem ch_law_ring : chkS (T.cut 9) ir_law_ring ⟨N_law_ring, (defScope st_law_ring).names⟩ (.b (defBody st_law_ring)) = true := by decide +kernel
/-! 10: 0 ring, 1 belt, 2 met, 3 wave, 4 e, 5 new, 6 one, 7 a, 8 c, 9 i, 10 stop -/
abbrev st_law_layers : Stmt := top 13
def N_law_layers : List Str := ["ring", "belt", "met", "wave", "e", "new", "one", "a", "c", "i", "stop"]
@[irreducible] def ir_law_layers_r0 : S :=
  (.seq (.ret (.lc (.name 10) .range1 (.cons (.bin .Add (.blt .len (.cons (.var 1) .nil)) (.cst (.int 1))) .nil) (.cst (.bl true)) (.mth .get (.var 2) (.cons (.tup (.cons (.blt .len (.cons (.var 0) .nil)) (.cons (.var 10) .nil))) (.cons (.cst (.int 4)) .nil))) [("stop", 10)]))
  .skip)
@[irreducible] def ir_law_layers_r1 : S :=
  (.seq (.ite (.andB (.cmp .Lt (.sub (.var 6) (.cst (.int 0))) (.blt .len (.cons (.var 0) .nil))) (.cmp .Lt (.sub (.var 6) (.cst (.int 1))) (.blt .len (.cons (.var 1) .nil)))) (.seq (.expr (.mth .append (.var 3) (.cons (.tup (.cons (.bin .Add (.sub (.var 6) (.cst (.int 0))) (.cst (.int 1))) (.cons (.bin .Add (.sub (.var 6) (.cst (.int 1))) (.cst (.int 1))) .nil))) .nil)))
  .skip) .skip)
  .skip)
@[irreducible] def ir_law_layers_r2 : S :=
  (.seq (.ite (.cmp .Lt (.sub (.var 6) (.cst (.int 1))) (.blt .len (.cons (.var 1) .nil))) (.seq (.expr (.mth .append (.var 3) (.cons (.tup (.cons (.sub (.var 6) (.cst (.int 0))) (.cons (.bin .Add (.sub (.var 6) (.cst (.int 1))) (.cst (.int 1))) .nil))) .nil)))
  .skip) .skip)
  ir_law_layers_r1)
@[irreducible] def ir_law_layers_b3 : S :=
  (.seq (.ite (.cmp .Lt (.sub (.var 6) (.cst (.int 0))) (.blt .len (.cons (.var 0) .nil))) (.seq (.expr (.mth .append (.var 3) (.cons (.tup (.cons (.bin .Add (.sub (.var 6) (.cst (.int 0))) (.cst (.int 1))) (.cons (.sub (.var 6) (.cst (.int 1))) .nil))) .nil)))
  .skip) .skip)
  ir_law_layers_r2)
@[irreducible] def ir_law_layers_r4 : S :=
  (.seq (.asg (.name 3) (.lst .nil))
  (.seq (.for_ (.name 6) .val (.var 5) ir_law_layers_b3)
  .skip))
@[irreducible] def ir_law_layers_r5 : S :=
  (.seq (.asg (.name 7) (.bin .Add (.var 7) (.cst (.int 1))))
  (.seq (.asg (.name 8) (.bin .Add (.var 8) (.cst (.int 1))))
  .skip))
@[irreducible] def ir_law_layers_r6 : S :=
  (.seq (.asgSub (.var 2) (.tup (.cons (.var 7) (.cons (.var 8) .nil))) (.var 4))
  (.seq (.expr (.mth .append (.var 5) (.cons (.tup (.cons (.var 7) (.cons (.var 8) .nil))) .nil)))
  (.seq (.ite (.orB (.cmp .Eq (.var 7) (.blt .len (.cons (.var 0) .nil))) (.orB (.cmp .Eq (.var 8) (.blt .len (.cons (.var 1) .nil))) (.cmp .NotEq (.sub (.var 0) (.var 7)) (.sub (.var 1) (.var 8))))) (.seq .brk
  .skip) .skip)
  ir_law_layers_r5)))
@[irreducible] def ir_law_layers_b7 : S :=
  (.seq (.ite (.cmp .In (.tup (.cons (.var 7) (.cons (.var 8) .nil))) (.var 2)) (.seq .brk
  .skip) .skip)
  ir_law_layers_r6)
@[irreducible] def ir_law_layers_b8 : S :=
  (.seq (.asg (.name 7) (.sub (.var 6) (.cst (.int 0))))
  (.seq (.asg (.name 8) (.sub (.var 6) (.cst (.int 1))))
  (.seq (.for_ (.name 9) .range1 (.cons (.bin .Add (.blt .len (.cons (.var 0) .nil)) (.cst (.int 1))) .nil) ir_law_layers_b7)
  .skip)))
@[irreducible] def ir_law_layers_b9 : S :=
  (.seq (.asg (.name 5) (.lst .nil))
  (.seq (.for_ (.name 6) .val (.var 3) ir_law_layers_b8)
  ir_law_layers_r4))
def ir_law_layers : S :=
  (.seq (.asg (.name 2) (.dnew true))
  (.seq (.asg (.name 3) (.lc (.name 8) .range1 (.cons (.bin .Add (.blt .len (.cons (.var 1) .nil)) (.cst (.int 1))) .nil) (.cst (.bl true)) (.tup (.cons (.cst (.int 0)) (.cons (.var 8) .nil))) [("c", 8)]))
  (.seq (.for_ (.name 4) .range1 (.cons (.cst (.int 4)) .nil) ir_law_layers_b9)
  ir_law_layers_r0)))
theorem sc_law_layers : FnScope N_law_layers ["ring", "belt"] (defScope st_law_layers) := ⟨rfl, rfl, rfl, by decide +kernel, rfl, by decide +kernel, by decide +kernel⟩
theorem ch_law_layers : chkS (T.cut 10) ir_law_layers ⟨N_law_layers, (defScope st_law_layers).names⟩ (.b (defBody st_law_layers)) = true := by decide +kernel
/-! 11: 0 ring, 1 belt, 2 walk, 3 stop, 4 a, 5 c, 6 told, 7 step -/
abbrev st_law_judged : Stmt := top 14
def N_law_judged : List Str := ["ring", "belt", "walk", "stop", "a", "c", "told", "step"]
@[irreducible] def ir_law_judged_r0 : S :=
  (.seq (.ret (.var 6))
  .skip)
@[irreducible] def ir_law_judged_r1 : S :=
  (.seq (.ite (.cmp .Gt (.var 4) (.cst (.int 0))) (.seq (.ret (.cst .non))
  .skip) .skip)
  ir_law_judged_r0)
@[irreducible] def ir_law_judged_r2 : S :=
  (.seq (.ite (.orB (.cmp .NotEq (.var 7) (.cst (.str "pair"))) (.cmp .NotEq (.sub (.var 0) (.var 4)) (.sub (.var 1) (.var 5)))) (.seq (.asg (.name 6) (.bin .Add (.var 6) (.cst (.int 1))))
  .skip) .skip)
  .skip)
@[irreducible] def ir_law_judged_r3 : S :=
  (.seq (.ite (.orB (.cmp .Lt (.var 4) (.cst (.int 0))) (.cmp .Lt (.var 5) (.cst (.int 0)))) (.seq (.ret (.cst .non))
  .skip) .skip)
  ir_law_judged_r2)
@[irreducible] def ir_law_judged_r4 : S :=
  (.seq (.ite (.cmp .NotEq (.var 7) (.cst (.str "ring"))) (.seq (.asg (.name 5) (.bin .Sub (.var 5) (.cst (.int 1))))
  .skip) .skip)
  ir_law_judged_r3)
@[irreducible] def ir_law_judged_r5 : S :=
  (.seq (.ite (.cmp .NotEq (.var 7) (.cst (.str "year"))) (.seq (.asg (.name 4) (.bin .Sub (.var 4) (.cst (.int 1))))
  .skip) .skip)
  ir_law_judged_r4)
@[irreducible] def ir_law_judged_b6 : S :=
  (.seq (.ite (.cmp .NotIn (.var 7) (.lst (.cons (.cst (.str "pair")) (.cons (.cst (.str "ring")) (.cons (.cst (.str "year")) .nil))))) (.seq (.ret (.cst .non))
  .skip) .skip)
  ir_law_judged_r5)
def ir_law_judged : S :=
  (.seq (.asg (.name 4) (.blt .len (.cons (.var 0) .nil)))
  (.seq (.asg (.name 5) (.var 3))
  (.seq (.asg (.name 6) (.cst (.int 0)))
  (.seq (.for_ (.name 7) .val (.rev (.var 2)) ir_law_judged_b6)
  ir_law_judged_r1))))
theorem sc_law_judged : FnScope N_law_judged ["ring", "belt", "walk", "stop"] (defScope st_law_judged) := ⟨rfl, rfl, rfl, by decide +kernel, rfl, by decide +kernel, by decide +kernel⟩
theorem ch_law_judged : chkS (T.cut 11) ir_law_judged ⟨N_law_judged, (defScope st_law_judged).names⟩ (.b (defBody st_law_judged)) = true := by decide +kernel
/-! 12: 0 got, 1 due -/
abbrev st_law_number : Stmt := top 15
def N_law_number : List Str := ["got", "due"]
@[irreducible] def ir_law_number_r0 : S :=
  (.seq (.ret (.andV (.isi .int (.var 0)) (.andV (.notV (.isi .bool (.var 0))) (.cmp .Eq (.var 0) (.var 1)))))
  .skip)
def ir_law_number : S :=
  (.seq (.ite (.cmp .Is (.var 1) (.cst .non)) (.seq (.ret (.cmp .Is (.var 0) (.cst .non)))
  .skip) .skip)
  ir_law_number_r0)
theorem sc_law_number : FnScope N_law_number ["got", "due"] (defScope st_law_number) := ⟨rfl, rfl, rfl, by decide +kernel, rfl, by decide +kernel, by decide +kernel⟩
theorem ch_law_number : chkS (T.cut 12) ir_law_number ⟨N_law_number, (defScope st_law_number).names⟩ (.b (defBody st_law_number)) = true := by decide +kernel
/-! 13: 0 pool, 1 ring, 2 walk, 3 i, 4 here, 5 one -/
abbrev st_law_path : Stmt := top 16
def N_law_path : List Str := ["pool", "ring", "walk", "i", "here", "one"]
@[irreducible] def ir_law_path_r0 : S :=
  (.seq (.ret (.blt .tuple (.cons (.var 2) .nil)))
  .skip)
@[irreducible] def ir_law_path_b1 : S :=
  (.seq (.asg (.name 4) (.call 6 (.cons (.var 0) (.cons (.bin .Add (.blt .len (.cons (.var 2) .nil)) (.cst (.int 1))) .nil))))
  (.seq (.asg (.name 2) (.bin .Add (.bin .Add (.slice false true (.var 2) .absent (.var 4)) (.lst (.cons (.cst (.str "year")) .nil))) (.slice true false (.var 2) (.var 4) .absent)))
  .skip))
def ir_law_path : S :=
  (.seq (.asg (.name 2) (.lc (.name 5) .val (.var 1) (.cst (.bl true)) (.call 7 (.cons (.var 0) (.cons (.lst (.cons (.cst (.str "pair")) (.cons (.cst (.str "pair")) (.cons (.cst (.str "pair")) (.cons (.cst (.str "ring")) .nil))))) .nil))) [("one", 5)]))
  (.seq (.for_ (.name 3) .range1 (.cons (.call 7 (.cons (.var 0) (.cons (.lst (.cons (.cst (.int 0)) (.cons (.cst (.int 0)) (.cons (.cst (.int 1)) (.cons (.cst (.int 2)) (.cons (.cst (.int 3)) .nil)))))) .nil))) .nil) ir_law_path_b1)
  ir_law_path_r0))
theorem sc_law_path : FnScope N_law_path ["pool", "ring"] (defScope st_law_path) := ⟨rfl, rfl, rfl, by decide +kernel, rfl, by decide +kernel, by decide +kernel⟩
theorem ch_law_path : chkS (T.cut 13) ir_law_path ⟨N_law_path, (defScope st_law_path).names⟩ (.b (defBody st_law_path)) = true := by decide +kernel
/-! 14: 0 pool, 1 walk, 2 way, 3 here, 4 there -/
abbrev st_law_twisted : Stmt := top 17
def N_law_twisted : List Str := ["pool", "walk", "way", "here", "there"]
@[irreducible] def ir_law_twisted_r0 : S :=
  (.seq (.ret (.bin .Add (.bin .Mult (.tup (.cons (.cst (.str "year")) .nil)) (.var 3)) (.var 1)))
  .skip)
@[irreducible] def ir_law_twisted_r1 : S :=
  (.seq (.ite (.cmp .Eq (.var 2) (.cst (.int 6))) (.seq (.ret (.bin .Add (.var 1) (.var 1)))
  .skip) .skip)
  ir_law_twisted_r0)
@[irreducible] def ir_law_twisted_r2 : S :=
  (.seq (.ite (.cmp .Eq (.var 2) (.cst (.int 5))) (.seq (.ret (.bin .Add (.bin .Add (.slice false true (.var 1) .absent (.var 3)) (.tup (.cons (.sub (.var 1) (.var 4)) .nil))) (.slice true false (.var 1) (.bin .Add (.var 3) (.cst (.int 1))) .absent)))
  .skip) .skip)
  ir_law_twisted_r1)
@[irreducible] def ir_law_twisted_r3 : S :=
  (.seq (.ite (.cmp .Eq (.var 2) (.cst (.int 4))) (.seq (.ret (.rev (.var 1)))
  .skip) .skip)
  ir_law_twisted_r2)
@[irreducible] def ir_law_twisted_r4 : S :=
  (.seq (.ite (.cmp .Eq (.var 2) (.cst (.int 3))) (.seq (.ret (.bin .Add (.bin .Add (.slice false true (.var 1) .absent (.var 3)) (.tup (.cons (.call 7 (.cons (.var 0) (.cons (.lst (.cons (.cst (.str "")) (.cons (.cst (.str "Pair")) (.cons (.cst (.str "rings")) (.cons (.cst (.str "year ")) (.cons (.cst (.str "no")) .nil)))))) .nil))) .nil))) (.slice true false (.var 1) (.bin .Add (.var 3) (.cst (.int 1))) .absent)))
  .skip) .skip)
  ir_law_twisted_r3)
@[irreducible] def ir_law_twisted_r5 : S :=
  (.seq (.ite (.cmp .Eq (.var 2) (.cst (.int 2))) (.seq (.ret (.bin .Add (.bin .Add (.slice false true (.var 1) .absent (.var 3)) (.tup (.cons (.call 7 (.cons (.var 0) (.cons (.lst (.cons (.cst (.str "pair")) (.cons (.cst (.str "ring")) (.cons (.cst (.str "year")) .nil)))) .nil))) .nil))) (.slice true false (.var 1) (.bin .Add (.var 3) (.cst (.int 1))) .absent)))
  .skip) .skip)
  ir_law_twisted_r4)
@[irreducible] def ir_law_twisted_r6 : S :=
  (.seq (.ite (.cmp .Eq (.var 2) (.cst (.int 1))) (.seq (.ret (.bin .Add (.bin .Add (.slice false true (.var 1) .absent (.var 3)) (.tup (.cons (.call 7 (.cons (.var 0) (.cons (.lst (.cons (.cst (.str "pair")) (.cons (.cst (.str "ring")) (.cons (.cst (.str "year")) .nil)))) .nil))) .nil))) (.slice true false (.var 1) (.var 3) .absent)))
  .skip) .skip)
  ir_law_twisted_r5)
@[irreducible] def ir_law_twisted_r7 : S :=
  (.seq (.asg (.name 3) (.call 6 (.cons (.var 0) (.cons (.blt .len (.cons (.var 1) .nil)) .nil))))
  (.seq (.asg (.name 4) (.call 6 (.cons (.var 0) (.cons (.blt .len (.cons (.var 1) .nil)) .nil))))
  (.seq (.ite (.cmp .Eq (.var 2) (.cst (.int 0))) (.seq (.ret (.bin .Add (.slice false true (.var 1) .absent (.var 3)) (.slice true false (.var 1) (.bin .Add (.var 3) (.cst (.int 1))) .absent)))
  .skip) .skip)
  ir_law_twisted_r6)))
def ir_law_twisted : S :=
  (.seq (.asg (.name 2) (.call 6 (.cons (.var 0) (.cons (.cst (.int 8)) .nil))))
  (.seq (.ite (.cmp .Eq (.blt .len (.cons (.var 1) .nil)) (.cst (.int 0))) (.seq (.ret (.tup (.cons (.cst (.str "pair")) .nil)))
  .skip) .skip)
  ir_law_twisted_r7))
theorem sc_law_twisted : FnScope N_law_twisted ["pool", "walk"] (defScope st_law_twisted) := ⟨rfl, rfl, rfl, by decide +kernel, rfl, by decide +kernel, by decide +kernel⟩
theorem ch_law_twisted : chkS (T.cut 14) ir_law_twisted ⟨N_law_twisted, (defScope st_law_twisted).names⟩ (.b (defBody st_law_twisted)) = true := by decide +kernel
/-! 15: 0 ring, 1 belt, 2 given, 3 path, 4 least, 5 stop, 6 told, 7 most, 8 got, 9 count -/
abbrev st_law_found : Stmt := top 18
def N_law_found : List Str := ["ring", "belt", "given", "path", "least", "stop", "told", "most", "got", "count"]
@[irreducible] def ir_law_found_r0 : S :=
  (.seq (.ret (.lst (.cons (.var 6) .nil)))
  .skip)
@[irreducible] def ir_law_found_r1 : S :=
  (.seq (.expr (.mth .append (.var 6) (.cons (.var 8) .nil)))
  .skip)
@[irreducible] def ir_law_found_r2 : S :=
  (.seq (.ite (.notB (.truth (.call 12 (.cons (.call 4 (.cons (.var 2) (.cons (.var 3) (.cons (.var 8) (.cons (.var 5) .nil))))) (.cons (.var 9) .nil))))) (.seq (.ret (.lst .nil))
  .skip) .skip)
  ir_law_found_r1)
@[irreducible] def ir_law_found_r3 : S :=
  (.seq (.asg (.name 9) (.call 11 (.cons (.var 0) (.cons (.var 1) (.cons (.var 8) (.cons (.var 5) .nil))))))
  (.seq (.ite (.orB (.cmp .Is (.var 9) (.cst .non)) (.cmp .Gt (.var 9) (.var 7))) (.seq (.ret (.lst .nil))
  .skip) .skip)
  ir_law_found_r2))
@[irreducible] def ir_law_found_r4 : S :=
  (.seq (.ite (.cmp .Gt (.var 4) (.var 7)) (.seq (.ite (.cmp .IsNot (.var 8) (.cst .non)) (.seq (.ret (.lst .nil))
  .skip) .skip)
  .skip) (.seq (.ite (.notB (.truth (.isi .tuple (.var 8)))) (.seq (.ret (.lst .nil))
  .skip) .skip)
  ir_law_found_r3))
  .skip)
@[irreducible] def ir_law_found_b5 : S :=
  (.seq (.asg (.name 8) (.callK 3 0 ["errors", "j", "row", "widths"] [2, 3, 0, 1] .nil (.cons (.var 7) (.cons (.var 5) (.cons (.var 2) (.cons (.var 3) .nil))))))
  (.seq (.ite (.cmp .Lt (.var 7) (.cst (.int 3))) (.seq (.asg (.name 8) (.call 3 (.cons (.var 2) (.cons (.var 3) (.cons (.var 7) (.cons (.var 5) .nil))))))
  .skip) .skip)
  ir_law_found_r4))
def ir_law_found : S :=
  (.seq (.asg (.name 6) (.lst .nil))
  (.seq (.for_ (.name 7) .val (.blt .sorted (.cons (.blt .set (.cons (.lst (.cons (.cst (.int 3)) (.cons (.blt .max (.cons (.cst (.int 0)) (.cons (.bin .Sub (.var 4) (.cst (.int 1))) .nil))) (.cons (.blt .min (.cons (.cst (.int 3)) (.cons (.var 4) .nil))) .nil)))) .nil)) .nil)) ir_law_found_b5)
  ir_law_found_r0))
theorem sc_law_found : FnScope N_law_found ["ring", "belt", "given", "path", "least", "stop"] (defScope st_law_found) := ⟨rfl, rfl, rfl, by decide +kernel, rfl, by decide +kernel, by decide +kernel⟩
theorem ch_law_found : chkS (T.cut 15) ir_law_found ⟨N_law_found, (defScope st_law_found).names⟩ (.b (defBody st_law_found)) = true := by decide +kernel
/-! 16: 0 script, 1 pool, 2 belt, 3 ring, 4 given, 5 path, 6 layers, 7 spots, 8 tuples, 9 stop, 10 found, 11 asked, 12 i, 13 walk, 14 one, 15 new, 16 told, 17 n -/
abbrev st_law : Stmt := top 19
def N_law : List Str := ["script", "pool", "belt", "ring", "given", "path", "layers", "spots", "tuples", "stop", "found", "asked", "i", "walk", "one", "new", "told", "n"]
@[irreducible] def ir_law_r0 : S :=
  (.seq (.ret (.andV (.cmp .Eq (.var 4) (.var 3)) (.cmp .Eq (.var 5) (.var 15))))
  .skip)
@[irreducible] def ir_law_b1 : S :=
  (.seq (.asg (.name 16) (.callK 4 0 ["steps", "row", "j", "widths"] [1, 3, 0, 2] .nil (.cons (.sub (.var 14) (.cst (.int 0))) (.cons (.var 4) (.cons (.sub (.var 14) (.cst (.int 1))) (.cons (.var 5) .nil))))))
  (.seq (.ite (.notB (.truth (.call 12 (.cons (.var 16) (.cons (.call 11 (.cons (.var 3) (.cons (.var 15) (.cons (.sub (.var 14) (.cst (.int 0))) (.cons (.sub (.var 14) (.cst (.int 1))) .nil))))) .nil))))) (.seq (.ret (.cst (.bl false)))
  .skip) .skip)
  .skip))
@[irreducible] def ir_law_r2 : S :=
  (.seq (.asg (.name 12) (.call 6 (.cons (.var 1) (.cons (.blt .len (.cons (.var 2) .nil)) .nil))))
  (.seq (.asgSub (.var 5) (.var 12) (.bin .Add (.cst (.int 1)) (.bin .Mod (.blt .int (.cons (.bin .Add (.sub (.var 2) (.var 12)) (.call 6 (.cons (.var 1) (.cons (.cst (.int 8)) .nil)))) .nil)) (.cst (.int 9)))))
  (.seq (.asg (.name 15) (.blt .list (.cons (.var 5) .nil)))
  (.seq (.for_ (.name 14) .val (.var 11) ir_law_b1)
  ir_law_r0))))
@[irreducible] def ir_law_r3 : S :=
  (.seq (.ite (.orB (.cmp .NotEq (.var 4) (.var 3)) (.cmp .NotEq (.var 5) (.var 2))) (.seq (.ret (.cst (.bl false)))
  .skip) .skip)
  ir_law_r2)
@[irreducible] def ir_law_b4 : S :=
  (.seq (.ite (.notB (.truth (.call 12 (.cons (.call 4 (.cons (.var 4) (.cons (.var 5) (.cons (.sub (.var 14) (.cst (.int 0))) (.cons (.sub (.var 14) (.cst (.int 1))) .nil))))) (.cons (.call 11 (.cons (.var 3) (.cons (.var 2) (.cons (.sub (.var 14) (.cst (.int 0))) (.cons (.sub (.var 14) (.cst (.int 1))) .nil))))) .nil))))) (.seq (.ret (.cst (.bl false)))
  .skip) .skip)
  .skip)
@[irreducible] def ir_law_r5 : S :=
  (.seq (.expr (.mth .append (.var 11) (.cons (.tup (.cons (.tup .nil) (.cons (.blt .len (.cons (.var 2) .nil)) .nil))) .nil)))
  (.seq (.for_ (.name 14) .val (.var 11) ir_law_b4)
  ir_law_r3))
@[irreducible] def ir_law_b6 : S :=
  (.seq (.asg (.name 13) (.blt .tuple (.cons (.lc (.name 17) .range1 (.cons (.call 6 (.cons (.var 1) (.cons (.cst (.int 23)) .nil))) .nil) (.cst (.bl true)) (.call 7 (.cons (.var 1) (.cons (.lst (.cons (.cst (.str "pair")) (.cons (.cst (.str "pair")) (.cons (.cst (.str "ring")) (.cons (.cst (.str "year")) .nil))))) .nil))) [("n", 17)]) .nil)))
  (.seq (.expr (.mth .append (.var 11) (.cons (.tup (.cons (.var 13) (.cons (.bin .Add (.cst (.int 1)) (.call 6 (.cons (.var 1) (.cons (.blt .len (.cons (.var 2) .nil)) .nil)))) .nil))) .nil)))
  .skip))
@[irreducible] def ir_law_r7 : S :=
  (.seq (.for_ (.name 12) .range1 (.cons (.cst (.int 2)) .nil) ir_law_b6)
  ir_law_r5)
@[irreducible] def ir_law_r8 : S :=
  (.seq (.expr (.mth .append (.var 11) (.cons (.tup (.cons (.var 13) (.cons (.bin .Add (.cst (.int 1)) (.call 6 (.cons (.var 1) (.cons (.blt .len (.cons (.var 2) .nil)) .nil)))) .nil))) .nil)))
  .skip)
@[irreducible] def ir_law_b9 : S :=
  (.seq (.asg (.name 13) (.call 7 (.cons (.var 1) (.cons (.var 8) .nil))))
  (.seq (.ite (.cmp .Gt (.call 6 (.cons (.var 1) (.cons (.cst (.int 4)) .nil))) (.cst (.int 0))) (.seq (.asg (.name 13) (.call 14 (.cons (.var 1) (.cons (.var 13) .nil))))
  .skip) .skip)
  ir_law_r8))
@[irreducible] def ir_law_r10 : S :=
  (.seq (.asg (.name 11) (.lst .nil))
  (.seq (.for_ (.name 12) .range1 (.cons (.cst (.int 14)) .nil) ir_law_b9)
  ir_law_r7))
@[irreducible] def ir_law_r11 : S :=
  (.seq (.asg (.name 8) (.bin .Add (.var 8) (.slice false true (.sub (.var 10) (.cst (.int 0))) .absent (.cst (.int 1)))))
  .skip)
@[irreducible] def ir_law_b12 : S :=
  (.seq (.asg (.name 10) (.call 15 (.cons (.var 3) (.cons (.var 2) (.cons (.var 4) (.cons (.var 5) (.cons (.sub (.var 6) (.var 9)) (.cons (.var 9) .nil))))))))
  (.seq (.ite (.cmp .Eq (.blt .len (.cons (.var 10) .nil)) (.cst (.int 0))) (.seq (.ret (.cst (.bl false)))
  .skip) .skip)
  ir_law_r11))
@[irreducible] def ir_law_r13 : S :=
  (.seq (.asg (.name 8) (.lc (.name 12) .range1 (.cons (.cst (.int 3)) .nil) (.cst (.bl true)) (.call 13 (.cons (.var 1) (.cons (.var 3) .nil))) [("i", 12)]))
  (.seq (.for_ (.name 9) .val (.var 7) ir_law_b12)
  ir_law_r10))
def ir_law : S :=
  (.seq (.asg (.name 1) (.call 5 (.cons (.var 0) (.cons (.cst (.int 17)) .nil))))
  (.seq (.asg (.name 2) (.call 8 (.cons (.var 1) .nil)))
  (.seq (.asg (.name 3) (.call 9 (.cons (.var 1) (.cons (.var 2) .nil))))
  (.seq (.asg (.name 4) (.blt .list (.cons (.var 3) .nil)))
  (.seq (.asg (.name 5) (.blt .list (.cons (.var 2) .nil)))
  (.seq (.asg (.name 6) (.call 10 (.cons (.var 3) (.cons (.var 2) .nil))))
  (.seq (.asg (.name 7) (.lc (.name 9) .range2 (.cons (.cst (.int 1)) (.cons (.bin .Add (.blt .len (.cons (.var 2) .nil)) (.cst (.int 1))) .nil)) (.cst (.bl true)) (.var 9) [("stop", 9)]))
  (.seq (.ite (.cmp .Gt (.blt .len (.cons (.var 2) .nil)) (.cst (.int 14))) (.seq (.asg (.name 7) (.lc (.name 12) .range1 (.cons (.cst (.int 8)) .nil) (.cst (.bl true)) (.bin .Add (.cst (.int 1)) (.call 6 (.cons (.var 1) (.cons (.blt .len (.cons (.var 2) .nil)) .nil)))) [("i", 12)]))
  .skip) .skip)
  ir_law_r13))))))))
theorem sc_law : FnScope N_law ["script"] (defScope st_law) := ⟨rfl, rfl, rfl, by decide +kernel, rfl, by decide +kernel, by decide +kernel⟩
theorem ch_law : chkS (T.cut 16) ir_law ⟨N_law, (defScope st_law).names⟩ (.b (defBody st_law)) = true := by decide +kernel
theorem sh_alignment {K : PySem.W.Frag} {f : Addr} {fd : FuncData} (F : Fun K "alignment" "alignment" st_alignment f fd) : ∀ m ks π, (3, m, ks, π) ∈ T.sh → KBn K fd (T.ps 3) m ks (fun us ws => permL π (us ++ ws)) (fun vs zs => permL π (vs ++ zs)) := by
  intro m ks π hm
  obtain ⟨oc, od, kV, doc, pm, an, cdv, ct, osl, rfl, lk, hcd⟩ := F.ex
  simp [T] at hm
  obtain ⟨rfl, rfl, rfl⟩ := hm
  · exact kbn_of fun s us ws h1 h2 => match us, ws, h1, h2 with | [], [_, _, _, _], _, _ => .of_eq rfl
theorem sh_alignment_errors {K : PySem.W.Frag} {f : Addr} {fd : FuncData} (F : Fun K "alignment_errors" "alignment_errors" st_alignment_errors f fd) : ∀ m ks π, (4, m, ks, π) ∈ T.sh → KBn K fd (T.ps 4) m ks (fun us ws => permL π (us ++ ws)) (fun vs zs => permL π (vs ++ zs)) := by
  intro m ks π hm
  obtain ⟨oc, od, kV, doc, pm, an, cdv, ct, osl, rfl, lk, hcd⟩ := F.ex
  simp [T] at hm
  obtain ⟨rfl, rfl, rfl⟩ := hm
  · exact kbn_of fun s us ws h1 h2 => match us, ws, h1, h2 with | [], [_, _, _, _], _, _ => .of_eq rfl
end K17
local macro_rules | `(tactic| walk_at "om") => `(tactic| first | omega | (simp only [List.length_map, List.length_append, List.length_cons, List.length_nil, List.length_set, List.length_range, List.length_replicate, List.length_reverse]; omega))
local macro_rules | `(tactic| walk_at "at") => `(tactic| first | rfl | exact atI_in (by walk_at "om") (by walk_at "om"))
local macro_rules | `(tactic| walk_at "fr") => `(tactic| first | assumption | exact Sm.free (by assumption) (by assumption) | exact Sm.free (by walk_at "sm") (by assumption))
local macro_rules | `(tactic| walk_at "sm") => `(tactic| first | assumption | exact Sm.refl _ | (refine Sm.write ?_ (by walk_at "fr"); walk_at "sm") | (refine Sm.trans ?_ (by assumption); walk_at "sm"))
local macro_rules | `(tactic| walk_at "h") => `(tactic| first | assumption | exact updD_same | exact Sm.at_ (by assumption) (by assumption) | (refine (updD_ne ?_).trans ?_; (walk_at "nn"); (walk_at "h")) | solve_by_elim only [Sm.at_, *])
local macro_rules | `(tactic| walk_at "nn") => `(tactic| first | assumption | (refine Ne.symm ?_; assumption) | exact ne_new (by assumption) (by walk_at "h") | exact Ne.symm (ne_new (by assumption) (by walk_at "h")))
local macro_rules | `(tactic| walk_at "g") => `(tactic| ((try dsimp only [dstart, List.set, List.map, List.length, Nat.reduceAdd, Nat.reduceSub, List.replicate, List.cons_append, List.nil_append]); repeat (first
  | refine ⟨_, rfl, ?_⟩
  | refine ⟨_, _, rfl, rfl, ?_⟩
  | (refine (?_ : subD (D.ref _) (D.int _) _ _); refine sub_l (by walk_at "h") (by walk_at "at") ?_)
  | (refine (?_ : subD (D.tup _) (D.int _) _ _); refine sub_t (by walk_at "at") ?_)
  | refine par_mk ?_
  | refine rev_tm ?_
  | (refine (?_ : revD (D.ref _) _ _); refine rev_lm (by walk_at "h") ?_)
  | refine len_tm ?_
  | refine len_t ?_
  | (refine (?_ : lenD (D.ref _) _ _); first | refine len_lm (by walk_at "h") ?_ | refine len_l (by walk_at "h") ?_)
  | (refine (?_ : itD ItK.val (D.ref _) _ _); refine it_l (by walk_at "h") ?_)
  | (refine (?_ : itD ItK.enum (D.tup [D.ref _]) _ _); refine enum_l (by walk_at "h") ?_)
  | (refine (?_ : sliceD (D.ref _) _ _ _ _); refine slice_l (by walk_at "h") ?_)
  | (refine (?_ : itemsD (D.ref _) _ _); refine items_l (by walk_at "h") ?_)
  | (refine (?_ : truD (D.ref _) _ _); refine tru_l (by walk_at "h") ?_)
  | (refine (?_ : tyD (D.ref _) _ _); refine ty_l (by walk_at "h") ?_)
  | (refine (?_ : mthT Mth.append (D.ref _) _ ∧ _); refine app_l (by walk_at "h") ?_)
  | (refine (?_ : mthT Mth.pop (D.ref _) _ ∧ _); refine pop_l (by walk_at "h") ?_)
  | (refine (?_ : mthT Mth.extend (D.ref _) _ ∧ _); refine ext_l (by walk_at "h") ?_)
  | (refine (?_ : mthD Mth.append (D.ref _) [_] _ _); refine append_l (by walk_at "h") (by walk_at "om") ?_)
  | (refine (?_ : setR _ (D.int _) _ _ _); refine set_l (by walk_at "h") rfl ?_)
  | refine ⟨mulC (by decide), ?_⟩
  | refine ⟨mulC' (by decide), ?_⟩
  | refine ⟨(by decide : (0 : Int) < _), ?_⟩
  | refine ⟨(⟨by decide, by decide⟩ : DivOk _), ?_⟩
  | refine ⟨((by simp only [List.length_cons, List.length_nil]; decide) : List.length (_ : List D) ≤ sizeLine), ?_⟩
  | refine ⟨mulC (by omega), ?_⟩
  | refine ⟨mulC' (by omega), ?_⟩
  | refine iteF ?_
  | refine iteT ?_)))
namespace K17
def cUnlike : Ct := fun ds h Q _ => ∃ a b : Int, ds = [.int a, .int b] ∧ Q (.int (ul a b)) h
def lineD (u : Nat → Nat → Int) (n a : Nat) : D := .tup ((List.range (n + 1)).map fun c => .int (Med u a c))
def tabD (u : Nat → Nat → Int) (n k : Nat) : List D := (List.range k).map (lineD u n)
def cTable : Ct := fun ds h Q _ => ∃ (x y : D) (row wid : List Int), ds = [x, y] ∧ ILst h x row ∧ ILst h y wid ∧ row.length ≤ 900 ∧ 1 ≤ wid.length ∧ wid.length ≤ 900 ∧
  ∀ h', Sm h h' → Q (.tup (tabD (uOf row wid) wid.length (row.length + 1))) h'
def endsL (row wid : List Int) (e : Int) : List Nat := ((List.range wid.length).filter fun c => decide (Med (uOf row wid) row.length (c + 1) ≤ e)).map (· + 1)
def numD (js : List Nat) : List D := js.map fun (j : Nat) => D.int (j : Int)
def cEnds : Ct := fun ds h Q _ => ∃ (x y : D) (row wid : List Int) (e : Int), ds = [x, y, .int e] ∧ ILst h x row ∧ ILst h y wid ∧ row.length ≤ 900 ∧ 1 ≤ wid.length ∧ wid.length ≤ 900 ∧
  ∀ h', Sm h h' → Q (.tup (numD (endsL row wid e))) h'
theorem ok_unlike {C : Nat → Ct} (ds : List D) (h : DH) (Q : DK) (E : XD) (c : cUnlike ds h Q E) : xS T.cs C E ir_unlike { nx := fun _ h' => Q .non h', rt := Q } (dstart N_unlike.length ds) h := by
  obtain ⟨a, b, rfl, k⟩ := c
  unfold ir_unlike
  walk_at "go"
  exact k
theorem tab_succ {u : Nat → Nat → Int} {n k : Nat} : tabD u n (k + 1) = tabD u n k ++ [lineD u n k] := by
  unfold tabD; rw [rng_succ]
theorem tab_last {u : Nat → Nat → Int} {n i : Nat} : atI (tabD u n (i + 1)) (-1) = some (lineD u n i) := by
  unfold tabD; rw [rng_succ]; exact atI_last _ _
theorem ok_least_errors {C : Nat → Ct} (h0 : C 0 = ask cUnlike) (ds : List D) (h : DH) (Q : DK) (E : XD) (c : cTable ds h Q E) : xS T.cs C E ir_least_errors { nx := fun _ h' => Q .non h', rt := Q } (dstart N_least_errors.length ds) h := by
  obtain ⟨x, y, row, wid, rfl, hx, hy, lr, lw0, lw, k⟩ := c
  unfold ir_least_errors
  walk_at "go"
  refine hy.len ?_
  walk_at "go"
  refine ⟨⟨by simp, by omega, by omega, by simp⟩, ?_⟩
  walk_at "go"
  intro t ht
  walk_at "go"
  have hu := uOf_01 row wid
  have e0 : (List.replicate ((wid.length : Int) + 1).toNat [D.int 0]).flatten = (List.range (wid.length + 1)).map fun c => .int (Med (uOf row wid) 0 c) := by
    rw [show ((wid.length : Int) + 1).toNat = wid.length + 1 by omega]
    simp [Med, List.map_const']
  rw [e0]
  refine hx.it (.new ht) fun inv hinv => ?_
  refine for_mk (fun i s h' => ∃ c3 c4 c5 c6 c7, s = [some x, some y, some (.ref t), c3, c4, c5, c6, c7] ∧ h' t = some (.lst (tabD (uOf row wid) wid.length (i + 1))) ∧ Sm h h') ?_ ?_ ?_ ?_
  · exact ⟨_, _, _, _, _, rfl, updD_same, .new ht⟩
  · rintro i s h' _ ⟨c3, c4, c5, c6, c7, rfl, e1, e2⟩
    exact hinv _ e2
  · rintro i z s h1 hi ⟨c3, c4, c5, c6, c7, rfl, e1, e2⟩
    obtain ⟨a, ha, rfl⟩ := get_map hi
    have hil := get_lt ha
    unfold ir_least_errors_b3
    walk_at "go"
    refine sub_l (e1) (tab_last) ?_
    walk_at "go"
    refine sub_t (atI_rng (j := 0) rfl (by omega)) ?_
    walk_at "go"
    intro l hl
    have hlt : l ≠ t := (ne_new hl e1).symm
    walk_at "go"
    refine hy.enum (e2.trans (.new hl)) fun inv hinv => ?_
    refine for_mk (fun c s h' => ∃ c6 c7, s = [some x, some y, some (.ref t), some (.int a), some (lineD (uOf row wid) wid.length i), some (.ref l), c6, c7] ∧ h' t = some (.lst (tabD (uOf row wid) wid.length (i + 1))) ∧
      h' l = some (.lst ((List.range (c + 1)).map fun c => .int (Med (uOf row wid) (i + 1) c))) ∧ Sm h h') ?_ ?_ ?_ ?_
    · refine ⟨_, _, rfl, by walk_at "hp", ?_, e2.trans (.new hl)⟩
      rw [updD_same]
      simp [Med]
    · rintro c s h' _ ⟨_, _, _, _, _, e⟩
      exact hinv _ e
    · rintro c z s h2 hc ⟨c6, c7, rfl, f1, f2, f3⟩
      obtain ⟨v, hv, rfl⟩ := numbered_get' hc
      obtain ⟨b, hb, rfl⟩ := get_map hv
      have hcl := get_lt hb
      unfold ir_least_errors_b2
      walk_at "go"
      refine sub_t (atI_rng (j := c) (by omega) (by omega)) ?_
      walk_at "go"
      rw [h0]
      refine ask_mk ⟨_, _, rfl, ?_⟩
      walk_at "go"
      refine sub_t (atI_rng (j := c + 1) (by omega) (by omega)) ?_
      walk_at "go"
      refine sub_l (f2) (atI_rng (j := c) (by omega) (by omega)) ?_
      walk_at "go"
      refine ⟨_, _, rfl, f2, Nat.lt_of_le_of_lt (m := 1000) (by simp; omega) (by decide), ?_⟩
      walk_at "go"
      refine ⟨_, _, rfl, by walk_at "hp", ?_, f3.write (e2.free hl)⟩
      have e4 : Med (uOf row wid) (i + 1) (c + 1) = min (min (Med (uOf row wid) i c + ul a b) (Med (uOf row wid) i (c + 1) + 1)) (Med (uOf row wid) (i + 1) c + 1) := by
        rw [Med, show uOf row wid i c = ul a b by simp [uOf, ha, hb]]
      rw [updD_same, rng_succ _ (c + 1), e4]
    · rintro s h2 ⟨c6, c7, rfl, f1, f2, f3⟩
      rw [numbered_length, List.length_map] at f2
      unfold ir_least_errors_r1
      walk_at "go"
      refine ⟨_, _, rfl, f1, Nat.lt_of_le_of_lt (m := 1000) (by simp [tabD]; omega) (by decide), ?_⟩
      walk_at "go"
      refine ⟨_, _, _, _, _, rfl, ?_, f3.write ht⟩
      rw [updD_same, tab_succ (k := i + 1)]
      rfl
  · rintro s h2 ⟨c3, c4, c5, c6, c7, rfl, f1, f2⟩
    rw [List.length_map] at f1
    unfold ir_least_errors_r0
    walk_at "go"
    exact k _ f2
end K17
namespace K17
/-- any list, of a caller's or written for the call -/
def cOneA : Ct := fun ds h Q _ => ∃ p g d xs, ds = [.ref p, d] ∧ PoolAt h p g ∧ ((∃ r, d = .ref r ∧ h r = some (.lst xs) ∧ r ≠ p ∧ r ≠ g) ∨ d = .tup xs ∨ d = .rl xs) ∧ xs ≠ [] ∧ xs.length ≤ 100000 ∧
  ∀ x h', x ∈ xs → PoolAt h' p g → FrP p g h h' → Q x h'
theorem ok_one {C : Nat → Ct} (hC4 : C 6 = ask cPick) (ds : List D) (h : DH) (Q : DK) (E : XD) (c : cOneA ds h Q E) : xS T.cs C E ir_law_one { nx := fun _ h' => Q .non h', rt := Q } (dstart N_law_one.length ds) h := by
  obtain ⟨p, g, d, xs, rfl, P, hd, hn, hl, k⟩ := c
  have h0 : 0 < xs.length := List.length_pos_iff.mpr hn
  have fin : ∀ (d : D), (∀ (i : Int) (v : D) (h' : DH), FrP p g h h' → PoolAt h' p g → atI xs i = some v → subD d (.int i) h' Q) → bltD .len [d] h (fun x h1 => xE T.cs C E .nil [some (.ref p), some d] h1 fun y h2 => ∃ ds, y = .tup ds ∧ xE T.cs C E .nil [some (.ref p), some d] h2 fun _ _ => True) → True := fun _ _ _ => trivial
  have pk : ∀ (R : DK), (∀ i h', 0 ≤ i → i < (xs.length : Int) → PoolAt h' p g → FrP p g h h' → R (.int i) h') → C 6 [.ref p, .int xs.length] h R E := fun R r => by
    rw [hC4]
    exact ask_mk ⟨p, g, _, rfl, P, lgOk (by omega), fun i h' a b c d => r i h' a (by omega) c d⟩
  have at' : ∀ i : Int, 0 ≤ i → i < (xs.length : Int) → ∃ v, atI xs i = some v ∧ v ∈ xs := fun i a b => ⟨xs[i.toNat]'(by omega), atI_at a (List.getElem?_eq_getElem (by omega)), List.getElem_mem _⟩
  unfold ir_law_one
  rcases hd with ⟨r, rfl, hr, n1, n2⟩ | rfl | rfl
  · walk_at "go"
    refine pk _ fun i h' a b P' f => ?_
    obtain ⟨v, hv, hm⟩ := at' i a b
    exact sub_l (f _ _ n1 n2 hr) hv (k _ _ hm P' f)
  · walk_at "go"
    refine pk _ fun i h' a b P' f => ?_
    obtain ⟨v, hv, hm⟩ := at' i a b
    exact sub_t hv (k _ _ hm P' f)
  · walk_at "go"
    refine pk _ fun i h' a b P' f => ?_
    obtain ⟨v, hv, hm⟩ := at' i a b
    exact sub_r hv (k _ _ hm P' f)
def cBelt : Ct := fun ds h Q _ => ∃ p g, ds = [.ref p] ∧ PoolAt h p g ∧ ∀ (b : Addr) (ns : List Int) (h' : DH), h b = none → h' b = some (.lst (ns.map D.int)) → 1 ≤ ns.length → ns.length ≤ 100 → PoolAt h' p g → FrP p g h h' → Q (.ref b) h'
/-- one of the ints written for the call -/
theorem one_int {C : Nat → Ct} {p g : Addr} {h h1 : DH} {E : XD} {Q : DK} {r : Addr} {ns : List Int} (hC5 : C 7 = ask cOneA) (P : PoolAt h p g) (hr : h r = none) (he : h1 = updD h r (.lst (ns.map D.int))) (hn : ns ≠ []) (hl : ns.length ≤ 1000)
    (k : ∀ i h', i ∈ ns → PoolAt h' p g → FrP p g h h' → Q (.int i) h') : C 7 [.ref p, .ref r] h1 Q E := by
  subst he
  rw [hC5]
  obtain ⟨n1, n2⟩ := P.nep hr
  refine ask_mk ⟨p, g, _, _, rfl, P.new hr, .inl ⟨r, rfl, updD_same, n1, n2⟩, by simpa using hn, by simp; omega, fun x h' hx P' f => ?_⟩
  obtain ⟨i, hi, rfl⟩ := List.mem_map.mp hx
  exact k i h' hi P' ((FrP.new hr).trans f)
theorem pick_int {C : Nat → Ct} {p g : Addr} {h : DH} {E : XD} {Q : DK} {n : Int} (hC4 : C 6 = ask cPick) (P : PoolAt h p g) (h0 : 0 < n) (hl : n ≤ 1000000) (k : ∀ i h', 0 ≤ i → i < n → PoolAt h' p g → FrP p g h h' → Q (.int i) h') : C 6 [.ref p, .int n] h Q E := by
  rw [hC4]
  exact ask_mk ⟨p, g, _, rfl, P, lgOk (by omega), fun i h' a b c d => k i h' a (by omega) c d⟩
theorem ok_belt {C : Nat → Ct} (hC4 : C 6 = ask cPick) (hC5 : C 7 = ask cOneA) (ds : List D) (h : DH) (Q : DK) (E : XD) (c : cBelt ds h Q E) : xS T.cs C E ir_law_belt { nx := fun _ h' => Q .non h', rt := Q } (dstart N_law_belt.length ds) h := by
  obtain ⟨p, g, rfl, P, k⟩ := c
  have fin : ∀ (many : Int) (h1 : DH), 1 ≤ many → many ≤ 100 → PoolAt h1 p g → FrP p g h h1 → xS T.cs C E ir_law_belt_r0 { nx := fun _ h' => Q .non h', rt := Q } [some (.ref p), some (.int many), none, none] h1 := by
    intro many h1 m1 m2 P1 f1
    unfold ir_law_belt_r0
    walk_at "go"
    intro r hr
    walk_at "go"
    refine one_int (ns := [2, 3, 9]) hC5 P1 hr rfl (by simp) (by simp) fun most h2 hm P2 f2 => ?_
    have hmb : 2 ≤ most ∧ most ≤ 9 := by simp at hm; omega
    walk_at "go"
    refine ⟨⟨by omega, by omega⟩, ?_⟩
    refine lc_mk (fun i acc h' => ∃ ns : List Int, acc = ns.map D.int ∧ ns.length = i ∧ PoolAt h' p g ∧ FrP p g h h') (by rw [rangeD_len]; exact sz63 (by omega)) ⟨[], rfl, rfl, P2, f1.trans f2⟩ (fun _ _ _ _ _ => trivial) ?_ ?_
    · rintro i z acc h' hi ⟨ns, rfl, rfl, P', f'⟩
      walk_at "go"
      refine pick_int hC4 P' (by omega) (by omega) fun j h3 a b P3 f3 => ?_
      walk_at "go"
      exact ⟨ns ++ [1 + j], by simp, by simp, P3, f'.trans f3⟩
    · rintro acc h' ⟨ns, rfl, hl, P', f'⟩
      rw [rangeD_len] at hl
      intro b hb
      walk_at "go"
      have hb0 : h b = none := by
        cases q : h b with
        | none => rfl
        | some o =>
          obtain ⟨n1, n2⟩ := P'.nep hb
          rw [f' _ _ n1 n2 q] at hb
          cases hb
      exact k b ns _ hb0 updD_same (by omega) (by omega) (P'.new hb) (f'.trans (.new hb))
  unfold ir_law_belt
  walk_at "go"
  refine pick_int hC4 P (by omega) (by omega) fun i1 h1 a1 b1 P1 f1 => ?_
  walk_at "go"
  refine pick_int hC4 P1 (by omega) (by omega) fun i2 h2 a2 b2 P2 f2 => ?_
  walk_at "go"
  refine iteD (fun q => ?_) (fun q => ?_)
  · walk_at "go"
    refine pick_int hC4 P2 (by omega) (by omega) fun i3 h3 a3 b3 P3 f3 => ?_
    walk_at "go"
    intro r hr
    walk_at "go"
    refine one_int (ns := [60, 15 + i3]) hC5 P3 hr rfl (by simp) (by simp) fun many h5 hm P4 f4 => ?_
    have hmb : 1 ≤ many ∧ many ≤ 100 := by simp at hm; omega
    walk_at "go"
    exact fin _ _ hmb.1 hmb.2 P4 (((f1.trans f2).trans f3).trans f4)
  · exact fin _ _ (by omega) (by omega) P2 (f1.trans f2)
def cRing : Ct := fun ds h Q _ => ∃ (p g b : Addr) (bs : List Int), ds = [.ref p, .ref b] ∧ PoolAt h p g ∧ h b = some (.lst (bs.map D.int)) ∧ b ≠ p ∧ b ≠ g ∧ 1 ≤ bs.length ∧ bs.length ≤ 100 ∧
  ∀ (r : Addr) (ns : List Int) (h' : DH), h r = none → h' r = some (.lst (ns.map D.int)) → 1 ≤ ns.length → ns.length ≤ 100 → PoolAt h' p g → FrP p g h h' → Q (.ref r) h'
theorem ok_ring {C : Nat → Ct} (hC4 : C 6 = ask cPick) (hC5 : C 7 = ask cOneA) (ds : List D) (h : DH) (Q : DK) (E : XD) (c : cRing ds h Q E) : xS T.cs C E ir_law_ring { nx := fun _ h' => Q .non h', rt := Q } (dstart N_law_ring.length ds) h := by
  obtain ⟨p, g, b, bs, rfl, P, hb, nb1, nb2, lb0, lb, k⟩ := c
  -- the changes
  have fin : ∀ (many start : Int) (r : Addr) (ns : List Int) (h1 : DH) (c5 : Option D), h r = none → h1 r = some (.lst (ns.map D.int)) → 1 ≤ ns.length → ns.length ≤ 16 → PoolAt h1 p g → FrP p g h h1 →
      xS T.cs C E ir_law_ring_r4 { nx := fun _ h' => Q .non h', rt := Q } [some (.ref p), some (.ref b), some (.int many), some (.int start), some (.ref r), c5, none, none] h1 := by
    intro many start r ns h1 c5 hr e1 l0 l1 P1 f1
    unfold ir_law_ring_r4
    walk_at "go"
    intro z hz
    walk_at "go"
    refine one_int (ns := [0, 0, 1, 2, 3, 4]) hC5 P1 hz rfl (by simp) (by simp) fun times h2 hm P2 f2 => ?_
    have hmb : 0 ≤ times ∧ times ≤ 9 := by simp at hm; omega
    walk_at "go"
    refine ⟨⟨by omega, by omega⟩, ?_⟩
    have nr := P.nep hr
    refine for_mk (fun i s h' => ∃ (r : Addr) (ns : List Int) (c5 c6 c7 : Option D), s = [some (.ref p), some (.ref b), some (.int many), some (.int start), some (.ref r), c5, c6, c7] ∧ h r = none ∧ h' r = some (.lst (ns.map D.int)) ∧ r ≠ p ∧ r ≠ g ∧ 1 ≤ ns.length ∧ ns.length ≤ 16 ∧ PoolAt h' p g ∧ FrP p g h h')
      ⟨r, ns, _, _, _, rfl, hr, f2 _ _ nr.1 nr.2 e1, nr.1, nr.2, l0, l1, P2, f1.trans f2⟩ (fun _ _ _ _ _ => trivial) ?_ ?_
    · rintro i z s h' hi ⟨r, ns, c5, c6, c7, rfl, hr, e1, n1, n2, l0, l1, P', f'⟩
      unfold ir_law_ring_b3
      walk_at "go"
      refine pick_int hC4 P' (by omega) (by omega) fun way h3 a3 b3 P3 f3 => ?_
      have e2 := f3 _ _ n1 n2 e1
      walk_at "go"
      rw [List.length_map]
      walk_at "go"
      refine pick_int hC4 P3 (by omega) (by omega) fun here h4 a4 b4 P4 f4 => ?_
      have e3 := f4 _ _ n1 n2 e2
      have P0 : PoolAt h4 p g := P4
      generalize hJ : (fun (s : DSt) (h' : DH) => ∃ (r : Addr) (ns : List Int) (c5 c6 c7 : Option D), s = [some (.ref p), some (.ref b), some (.int many), some (.int start), some (.ref r), c5, c6, c7] ∧ h r = none ∧ h' r = some (.lst (ns.map D.int)) ∧ r ≠ p ∧ r ≠ g ∧ 1 ≤ ns.length ∧ ns.length ≤ 16 ∧ PoolAt h' p g ∧ FrP p g h h') = J
      have st1 : ∀ (r : Addr) (ns : List Int) (h1 : DH) (c5 : Option D), h r = none → h1 r = some (.lst (ns.map D.int)) → r ≠ p → r ≠ g → 1 ≤ ns.length → ns.length ≤ 16 → (way = 2 → here < ns.length) → PoolAt h1 p g → FrP p g h h1 → ∀ N : DEnds, N.nx = J →
          xS T.cs C E ir_law_ring_r1 N [some (.ref p), some (.ref b), some (.int many), some (.int start), some (.ref r), c5, some (.int way), some (.int here)] h1 := by
        intro r ns h1 c5 hr e1 n1 n2 l0 l1 hw P1 f1 N hN
        unfold ir_law_ring_r1
        walk_at "go"
        refine iteD (fun q => ?_) (fun q => ?_)
        · have hl := hw q
          walk_at "go"
          rw [cut_pre a4]
          intro a1 ha1
          walk_at "go"
          refine pick_int hC4 (P1.new ha1) (by omega) (by omega) fun i5 h5 a5 b5 P5 f5 => ?_
          have q1 := P1.nep ha1
          have z1 := f5 _ _ q1.1 q1.2 updD_same
          have z2 := f5 _ _ n1 n2 (Sm.new ha1 _ _ e1)
          walk_at "go"
          intro a2 ha2
          walk_at "go"
          refine ⟨_, _, by walk_at "hp", updD_same, sz63 (by simp; omega), fun a3 ha3 => ?_⟩
          walk_at "go"
          have z3 : (updD (updD h5 a2 (.lst [.int (1 + i5)])) a3 (.lst (List.map D.int (List.take here.toNat ns) ++ [.int (1 + i5)]))) r = some (.lst (ns.map D.int)) := Sm.new ha3 _ _ (Sm.new ha2 _ _ z2)
          walk_at "go"
          rw [cut_suf (by omega)]
          intro a4 ha4
          walk_at "go"
          refine ⟨_, _, by walk_at "hp", updD_same, sz63 (by simp; omega), fun a5 ha5 => ?_⟩
          walk_at "go"
          have hh := at_free ha5 (R := fun z => FrP p g h z ∧ PoolAt z p g) ⟨((((f1.trans (.new ha1)).trans f5).trans (.new ha2)).trans (.new ha3)).trans (.new ha4), ((P5.new ha2).new ha3).new ha4⟩
          have fr : FrP p g h _ := hh.1
          have P9 : PoolAt _ p g := hh.2
          obtain ⟨m1, m2⟩ := P9.nep ha5
          show N.nx _ _
          rw [hN, ← hJ]
          refine ⟨a5, List.take here.toNat ns ++ [1 + i5] ++ List.drop (here + 1).toNat ns, _, _, _, rfl, fr.free P9 ha5, ?_, m1, m2, ?_, ?_, P9.new ha5, fr.trans (.new ha5)⟩
          · rw [updD_same]; simp
          · simp; omega
          · simp; omega
        · show N.nx _ _
          rw [hN, ← hJ]
          exact ⟨r, ns, _, _, _, rfl, hr, e1, n1, n2, l0, l1, P1, f1⟩
      have st2 : ∀ (r : Addr) (ns : List Int) (h1 : DH) (c5 : Option D), h r = none → h1 r = some (.lst (ns.map D.int)) → r ≠ p → r ≠ g → 1 ≤ ns.length → ns.length ≤ 16 → here < ns.length → PoolAt h1 p g → FrP p g h h1 → ∀ N : DEnds, N.nx = J →
          xS T.cs C E ir_law_ring_r2 N [some (.ref p), some (.ref b), some (.int many), some (.int start), some (.ref r), c5, some (.int way), some (.int here)] h1 := by
        intro r ns h1 c5 hr e1 n1 n2 l0 l1 hl P1 f1 N hN
        unfold ir_law_ring_r2
        walk_at "go"
        refine iteD (fun q => ?_) (fun q => ?_)
        · walk_at "go"
          rw [List.length_map]
          refine iteD (fun q2 => ?_) (fun q2 => ?_)
          · walk_at "go"
            rw [cut_pre a4]
            intro a1 ha1
            walk_at "go"
            rw [cut_suf (by omega)]
            intro a2 ha2
            walk_at "go"
            refine ⟨_, _, by walk_at "hp", updD_same, sz63 (by simp; omega), fun a3 ha3 => ?_⟩
            walk_at "go"
            have hh := at_free ha3 (R := fun z => FrP p g h z ∧ PoolAt z p g) ⟨(f1.trans (.new ha1)).trans (.new ha2), (P1.new ha1).new ha2⟩
            have fr : FrP p g h _ := hh.1
            have P9 : PoolAt _ p g := hh.2
            obtain ⟨m1, m2⟩ := P9.nep ha3
            refine st1 a3 (List.take here.toNat ns ++ List.drop (here + 1).toNat ns) _ _ (fr.free P9 ha3) ?_ m1 m2 ?_ ?_ (by omega) (P9.new ha3) (fr.trans (.new ha3)) N hN
            · rw [updD_same]; simp
            · simp; omega
            · simp; omega
          · walk_at "go"
            exact st1 r ns h1 _ hr e1 n1 n2 l0 l1 (fun _ => hl) P1 f1 N hN
        · walk_at "go"
          exact st1 r ns h1 _ hr e1 n1 n2 l0 l1 (fun _ => hl) P1 f1 N hN
      walk_at "go"
      refine iteD (fun q => ?_) (fun q => ?_)
      · walk_at "go"
        rw [List.length_map]
        have P1 := P4
        have f1 := (f'.trans f3).trans f4
        have e1 := e3
        refine iteD (fun q2 => ?_) (fun q2 => ?_)
        · have hl : here < ns.length := b4
          walk_at "go"
          rw [cut_pre a4]
          intro a1 ha1
          walk_at "go"
          refine pick_int hC4 (P1.new ha1) (by omega) (by omega) fun i5 h5 a5 b5 P5 f5 => ?_
          have q1 := P1.nep ha1
          have z1 := f5 _ _ q1.1 q1.2 updD_same
          have z2 := f5 _ _ n1 n2 (Sm.new ha1 _ _ e1)
          walk_at "go"
          intro a2 ha2
          walk_at "go"
          refine ⟨_, _, by walk_at "hp", updD_same, sz63 (by simp; omega), fun a3 ha3 => ?_⟩
          walk_at "go"
          have z3 : (updD (updD h5 a2 (.lst [.int (1 + i5)])) a3 (.lst (List.map D.int (List.take here.toNat ns) ++ [.int (1 + i5)]))) r = some (.lst (ns.map D.int)) := Sm.new ha3 _ _ (Sm.new ha2 _ _ z2)
          walk_at "go"
          rw [cut_suf (by omega)]
          intro a4 ha4
          walk_at "go"
          refine ⟨_, _, by walk_at "hp", updD_same, sz63 (by simp; omega), fun a5 ha5 => ?_⟩
          walk_at "go"
          have hh := at_free ha5 (R := fun z => FrP p g h z ∧ PoolAt z p g) ⟨((((f1.trans (.new ha1)).trans f5).trans (.new ha2)).trans (.new ha3)).trans (.new ha4), ((P5.new ha2).new ha3).new ha4⟩
          have fr : FrP p g h _ := hh.1
          have P9 : PoolAt _ p g := hh.2
          obtain ⟨m1, m2⟩ := P9.nep ha5
          refine st2 a5 (List.take here.toNat ns ++ [1 + i5] ++ List.drop here.toNat ns) _ _ (fr.free P9 ha5) ?_ m1 m2 ?_ ?_ ?_ (P9.new ha5) (fr.trans (.new ha5)) _ (by rfl)
          · rw [updD_same]; simp
          · simp; omega
          · simp; omega
          · simp; omega
        · exact st2 r ns _ _ hr e1 n1 n2 l0 l1 b4 P1 f1 _ (by rfl)
      · walk_at "go"
        exact st2 r ns _ _ hr e3 n1 n2 l0 l1 b4 P4 ((f'.trans f3).trans f4) _ (by rfl)
    · rintro s h' ⟨r, ns, c5, c6, c7, rfl, hr, e1, n1, n2, l0, l1, P', f'⟩
      unfold ir_law_ring_r0
      walk_at "go"
      exact k r ns h' hr e1 l0 (by omega) P' f'
  unfold ir_law_ring
  walk_at "go"
  refine pick_int hC4 P (by omega) (by omega) fun i1 h1 a1 b1 P1 f1 => ?_
  walk_at "go"
  refine len_l (f1 _ _ nb1 nb2 hb) ?_
  rw [List.length_map]
  walk_at "go"
  refine pick_int hC4 P1 (by omega) (by omega) fun i2 h2 a2 b2 P2 f2 => ?_
  walk_at "go"
  refine ⟨_, f2 _ _ nb1 nb2 (f1 _ _ nb1 nb2 hb), ?_⟩
  rw [cut_ints, sIx_at a2, sIx_at (by omega)]
  intro r hr
  walk_at "go"
  have l0 : 1 ≤ (List.take (min (i2 + (1 + i1)).toNat bs.length - min i2.toNat bs.length) (List.drop (min i2.toNat bs.length) bs)).length ∧ (List.take (min (i2 + (1 + i1)).toNat bs.length - min i2.toNat bs.length) (List.drop (min i2.toNat bs.length) bs)).length ≤ 16 := by
    simp; omega
  generalize (List.take (min (i2 + (1 + i1)).toNat bs.length - min i2.toNat bs.length) (List.drop (min i2.toNat bs.length) bs)) = ns at l0
  have hh := at_free hr (R := fun z => FrP p g h z ∧ PoolAt z p g) ⟨f1.trans f2, P2⟩
  have fr : FrP p g h _ := hh.1
  have hr0 := fr.free hh.2 hr
  have nr := P.nep hr0
  refine pick_int hC4 (P2.new hr) (by omega) (by omega) fun i3 h3 a3 b3 P3 f3 => ?_
  have e3 := f3 _ _ nr.1 nr.2 updD_same
  walk_at "go"
  refine iteD (fun q => ?_) (fun q => ?_)
  · walk_at "go"
    refine ⟨⟨by omega, by omega⟩, ?_⟩
    refine lc_mk (fun i acc h' => ∃ ns : List Int, acc = ns.map D.int ∧ ns.length = i ∧ PoolAt h' p g ∧ FrP p g h h') (by rw [rangeD_len]; exact sz63 (by omega)) ⟨[], rfl, rfl, P3, (fr.trans (.new hr)).trans f3⟩ (fun _ _ _ _ _ => trivial) ?_ ?_
    · rintro i z acc h' hi ⟨ns, rfl, rfl, P', f'⟩
      walk_at "go"
      refine pick_int hC4 P' (by omega) (by omega) fun j h3 a b P3 f3 => ?_
      walk_at "go"
      exact ⟨ns ++ [1 + j], by simp, by simp, P3, f'.trans f3⟩
    · rintro acc h' ⟨ns, rfl, hl, P', f'⟩
      rw [rangeD_len] at hl
      intro b hb
      walk_at "go"
      exact fin _ _ b ns _ _ (f'.free P' hb) updD_same (by omega) (by omega) (P'.new hb) (f'.trans (.new hb))
  · exact fin _ _ r ns _ _ hr0 e3 l0.1 l0.2 P3 ((fr.trans (.new hr)).trans f3)
end K17
namespace K17
/-! the layers: cells by their least costs -/
section bfs
variable {u : Nat → Nat → Int} {ml nl : Nat}
def Vd (ml nl : Nat) (x : Nat × Nat) : Prop := x.1 ≤ ml ∧ x.2 ≤ nl
/-- one step of cost 1 -/
def St1 (x y : Nat × Nat) : Prop := y = (x.1 + 1, x.2) ∨ y = (x.1, x.2 + 1) ∨ y = (x.1 + 1, x.2 + 1)
/-- all told costs are the least -/
def Exa (u : Nat → Nat → Int) (ml nl : Nat) (m : List ((Nat × Nat) × Int)) : Prop := (m.map (·.1)).Nodup ∧ ∀ x v, alook m x = some v → Vd ml nl x ∧ v = Med u x.1 x.2
def Dm (m : List ((Nat × Nat) × Int)) (x : Nat × Nat) : Prop := (alook m x).isSome = true
/-- all below k are there -/
def Cpl (u : Nat → Nat → Int) (ml nl : Nat) (k : Int) (m : List ((Nat × Nat) × Int)) : Prop := ∀ x, Vd ml nl x → Med u x.1 x.2 < k → Dm m x
/-- closed under steps of no cost, but for one -/
def Clo (u : Nat → Nat → Int) (ml nl : Nat) (m : List ((Nat × Nat) × Int)) (ex : Nat × Nat → Prop) : Prop := ∀ x, Dm m x → x.1 < ml → x.2 < nl → u x.1 x.2 = 0 → Dm m (x.1 + 1, x.2 + 1) ∨ ex (x.1 + 1, x.2 + 1)
def Seed (u : Nat → Nat → Int) (ml nl : Nat) (e : Int) (m : List ((Nat × Nat) × Int)) (W : List (Nat × Nat)) : Prop := ∀ y, Vd ml nl y → (y.1 = 0 ∨ ∃ x, Vd ml nl x ∧ Med u x.1 x.2 + 1 ≤ e ∧ St1 x y) → y ∈ W ∨ Dm m y
theorem Dm.put {m : List ((Nat × Nat) × Int)} {k x : Nat × Nat} {v : Int} (h : Dm m x) : Dm (aput m k v) x := by
  unfold Dm at *; rw [alook_aput]; split
  · rfl
  · exact h
theorem Dm.put0 {m : List ((Nat × Nat) × Int)} {k : Nat × Nat} {v : Int} : Dm (aput m k v) k := by
  unfold Dm; rw [alook_aput, if_pos rfl]; rfl
theorem Dm.of_put {m : List ((Nat × Nat) × Int)} {k x : Nat × Nat} {v : Int} (h : Dm (aput m k v) x) : x = k ∨ Dm m x := by
  unfold Dm at *; rw [alook_aput] at h
  split at h
  · exact .inl (by assumption)
  · exact .inr h
theorem Exa.len {m : List ((Nat × Nat) × Int)} (x : Exa u ml nl m) : m.length ≤ (ml + 1) * (nl + 1) := by
  have h := nodup_grid (m := ml) (n := nl) x.1 fun k hk => by
    have hk' := alook_some.2 hk
    cases e : alook m k with
    | none => rw [e] at hk'; cases hk'
    | some v => exact (x.2 k v e).1
  simpa using h
/-- a new cell: its cost is the turn's -/
theorem Exa.put {m : List ((Nat × Nat) × Int)} {k : Nat × Nat} {e : Int} (x : Exa u ml nl m) (c : Cpl u ml nl e m) (hv : Vd ml nl k) (hk : ¬ Dm m k) (hm : Med u k.1 k.2 ≤ e) : Exa u ml nl (aput m k e) ∧ Med u k.1 k.2 = e := by
  have he : Med u k.1 k.2 = e := by
    by_cases h : Med u k.1 k.2 < e
    · exact absurd (c k hv h) hk
    · omega
  refine ⟨⟨aput_nd x.1, fun y v hy => ?_⟩, he⟩
  rw [alook_aput] at hy
  split at hy
  · rename_i h; subst h; cases hy; exact ⟨hv, he.symm⟩
  · exact x.2 y v hy
theorem Cpl.put {m : List ((Nat × Nat) × Int)} {k : Nat × Nat} {e v : Int} (c : Cpl u ml nl e m) : Cpl u ml nl e (aput m k v) := fun x hx h => (c x hx h).put
/-- behind a turn all of its costs are there -/
theorem turn_cpl (hu : ∀ a c, 0 ≤ u a c ∧ u a c ≤ 1) {m : List ((Nat × Nat) × Int)} {e : Int} (cl : Clo u ml nl m fun _ => False) (sd : ∀ y, Vd ml nl y → (y.1 = 0 ∨ ∃ x, Vd ml nl x ∧ Med u x.1 x.2 + 1 ≤ e ∧ St1 x y) → Dm m y) : Cpl u ml nl (e + 1) m := by
  have key : ∀ n x, x.1 + x.2 ≤ n → Vd ml nl x → Med u x.1 x.2 < e + 1 → Dm m x := by
    intro n
    induction n with
    | zero => intro x hn hv _; exact sd x hv (.inl (by omega))
    | succ n ih =>
      rintro ⟨a, c⟩ hn hv hm
      simp only at hn hm
      obtain ⟨h1, h2⟩ := hv
      simp only at h1 h2
      match a, c with
      | 0, c => exact sd _ ⟨h1, h2⟩ (.inl rfl)
      | a + 1, 0 =>
        rw [Med] at hm
        exact sd _ ⟨h1, h2⟩ (.inr ⟨(a, 0), ⟨by show a ≤ ml; omega, h2⟩, by show Med u a 0 + 1 ≤ e; omega, .inl rfl⟩)
      | a + 1, c + 1 =>
        rw [Med] at hm
        have q := hu a c
        by_cases e1 : Med u a (c + 1) + 1 ≤ e
        · exact sd _ ⟨h1, h2⟩ (.inr ⟨(a, c + 1), ⟨by show a ≤ ml; omega, h2⟩, e1, .inl rfl⟩)
        · by_cases e2 : Med u (a + 1) c + 1 ≤ e
          · exact sd _ ⟨h1, h2⟩ (.inr ⟨(a + 1, c), ⟨h1, by show c ≤ nl; omega⟩, e2, .inr (.inl rfl)⟩)
          · have e3 : Med u a c + u a c ≤ e := by
              by_cases q3 : Med u a c + u a c ≤ e
              · exact q3
              · have : e + 1 ≤ min (min (Med u a c + u a c) (Med u a (c + 1) + 1)) (Med u (a + 1) c + 1) := Int.le_min.2 ⟨Int.le_min.2 ⟨by omega, by omega⟩, by omega⟩
                omega
            by_cases z : u a c = 0
            · have d := ih (a, c) (by show a + c ≤ n; omega) ⟨by show a ≤ ml; omega, by show c ≤ nl; omega⟩ (by show Med u a c < e + 1; omega)
              exact (cl _ d (by show a < ml; omega) (by show c < nl; omega) z).elim id fun f => f.elim
            · exact sd _ ⟨h1, h2⟩ (.inr ⟨(a, c), ⟨by show a ≤ ml; omega, by show c ≤ nl; omega⟩, by show Med u a c + 1 ≤ e; omega, .inr (.inr rfl)⟩)
  exact fun x hx h => key _ x (Nat.le_refl _) hx h
theorem St1.med (hu : ∀ a c, 0 ≤ u a c ∧ u a c ≤ 1) {x y : Nat × Nat} (s : St1 x y) : Med u y.1 y.2 ≤ Med u x.1 x.2 + 1 := by
  rcases s with rfl | rfl | rfl
  · exact Med_step _ _
  · show Med u x.1 (x.2 + 1) ≤ _
    cases x.1 with
    | zero => simp [Med]
    | succ a => rw [Med]; omega
  · show Med u (x.1 + 1) (x.2 + 1) ≤ _
    have := hu x.1 x.2
    rw [Med]; omega
theorem Med_diag {a c : Nat} (h : u a c = 0) : Med u (a + 1) (c + 1) ≤ Med u a c := by rw [Med]; omega
theorem Med_nn (hu : ∀ a c, 0 ≤ u a c ∧ u a c ≤ 1) : ∀ a c, 0 ≤ Med u a c
  | 0, c => by simp [Med]
  | a + 1, 0 => by have := Med_nn hu a 0; rw [Med]; omega
  | a + 1, c + 1 => by
    have h1 := Med_nn hu a c
    have h2 := Med_nn hu a (c + 1)
    have h3 := Med_nn hu (a + 1) c
    have := hu a c
    rw [Med]; omega
end bfs

def MetAt (h : DH) (p : Addr) (m : List ((Nat × Nat) × Int)) : Prop := ∃ o, h p = some (.dct true (encM ekP D.int m) o)
theorem MetAt.in_ {h : DH} {p : Addr} {m : List ((Nat × Nat) × Int)} {a c : Int} (x : Nat × Nat) {k : Bool → Prop} (l : MetAt h p m) (e1 : a = x.1) (e2 : c = x.2) (q : k (alook m x).isSome) : inR (.tup [.int a, .int c]) p h k := by
  subst e1 e2
  obtain ⟨o, e⟩ := l
  refine in_d e (ekP_key (x := x)) ?_
  show k (dget _ (ekP x)).isSome
  rw [dget_enc ekP_inj, Option.isSome_map]; exact q
theorem MetAt.set {h : DH} {p : Addr} {m : List ((Nat × Nat) × Int)} {a c v : Int} (x : Nat × Nat) {Q : DH → Prop} (l : MetAt h p m) (e1 : a = x.1) (e2 : c = x.2) (z : m.length ≤ 1000000) (q : ∀ h', MetAt h' p (aput m x v) → (∀ b, b ≠ p → h' b = h b) → Q h') : setR p (.tup [.int a, .int c]) (.int v) h Q := by
  subst e1 e2
  obtain ⟨o, e⟩ := l
  refine set_d e (ekP_key (x := x)) (szl (by rw [encM_len]; exact z)) fun o' => ?_
  refine q _ ⟨o', ?_⟩ fun b hb => updD_ne hb
  rw [updD_same]
  show some (DO.dct true (dput _ (ekP x) (.int v)) o') = _
  rw [dput_enc ekP_inj]
theorem MetAt.get {h : DH} {p : Addr} {m : List ((Nat × Nat) × Int)} {a c v : Int} (x : Nat × Nat) {Q : DK} (l : MetAt h p m) (e1 : a = x.1) (e2 : c = x.2) (q : Q (.int ((alook m x).getD v)) h) : mthD .get (.ref p) [.tup [.int a, .int c], .int v] h Q := by
  subst e1 e2
  obtain ⟨o, e⟩ := l
  refine get_d e (ekP_key (x := x)) ?_
  show Q ((dget _ (ekP x)).getD _) h
  rw [dget_enc ekP_inj]
  cases g : alook m x <;> rw [g] at q <;> exact q
def cLayers : Ct := fun ds h Q _ => ∃ (x y : Addr) (row wid : List Int), ds = [.ref x, .ref y] ∧ h x = some (.lst (row.map D.int)) ∧ h y = some (.lst (wid.map D.int)) ∧ row.length ≤ 100 ∧ wid.length ≤ 100 ∧
  ∀ p bs h', h p = none → h' p = some (.lst (bs.map D.int)) → GoodB row wid bs → (∀ v ∈ bs, v ≤ 4) → Sm h h' → Q (.ref p) h'
theorem ok_layers {C : Nat → Ct} (ds : List D) (h : DH) (Q : DK) (E : XD) (c : cLayers ds h Q E) : xS T.cs C E ir_law_layers { nx := fun _ h' => Q .non h', rt := Q } (dstart N_law_layers.length ds) h := by
  obtain ⟨x, y, row, wid, rfl, hx, hy, lr, lw, k⟩ := c
  have hu := uOf_01 row wid
  generalize eu : uOf row wid = u at hu
  unfold ir_law_layers N_law_layers
  walk_at "g"
  intro mp o hmp
  walk_at "g"
  refine rng1 (wid.length + 1) (by omega) (by omega) ?_
  refine lc_map (fun d => .tup [.int 0, d]) (by rw [rangeD_len]; exact szle (by omega)) trivial ?_ ?_
  · rintro i d R hd r
    obtain ⟨rfl, _⟩ := rangeD_get hd
    walk_at "g"
    exact r
  intro wp hwp
  have nwm : wp ≠ mp := (ne_new hwp updD_same).symm
  walk_at "g"
  refine rng1 4 (by omega) (by omega) ?_
  rw [show (rangeD 0 (wid.length + 1)).map (fun d => D.tup [.int 0, d]) = ((List.range (wid.length + 1)).map fun c => (0, c)).map ekP by simp [rangeD, ekP]]
  refine for_7 3 4 5 6 7 8 9 (fun i c3 c4 c5 c6 c7 c8 c9 h' => ∃ wp m W, c3 = some (.ref wp) ∧ MetAt h' mp m ∧ h' wp = some (.lst (W.map ekP)) ∧ wp ≠ mp ∧ h wp = none ∧ Sm h h' ∧ W.length ≤ 1000000 ∧ Exa u row.length wid.length m ∧ Cpl u row.length wid.length i m ∧ (∀ x, Dm m x → Med u x.1 x.2 < i) ∧
    Clo u row.length wid.length m (fun _ => False) ∧ Seed u row.length wid.length i m W ∧ ∀ w ∈ W, Vd row.length wid.length w ∧ Med u w.1 w.2 ≤ i) ?_ (fun _ _ _ _ _ _ _ _ _ _ _ => trivial) ?_ ?_
  · refine ⟨wp, [], (List.range (wid.length + 1)).map fun c => (0, c), rfl, ⟨o, by walk_at "hp"⟩, updD_same, nwm, Sm.free (.new hmp) hwp, .trans (.new hmp) (.new hwp), by simp; omega, ⟨by simp, fun x v e => by simp [alook] at e⟩, fun x _ e => ?_, fun x e => by simp [Dm, alook] at e, fun x e => by simp [Dm, alook] at e, fun y hy e => ?_, fun w hw => ?_⟩
    · have := Med_nn hu x.1 x.2
      simp only [Int.ofNat_zero, Int.natCast_zero] at e
      omega
    · rcases e with e | ⟨x, _, e, _⟩
      · refine .inl (List.mem_map.2 ⟨y.2, List.mem_range.2 (by have := hy.2; omega), Prod.ext (by simp [e]) rfl⟩)
      · have := Med_nn hu x.1 x.2
        simp only [Int.natCast_zero] at e
        omega
    · obtain ⟨c, hc, rfl⟩ := List.mem_map.1 hw
      have := List.mem_range.1 hc
      exact ⟨⟨Nat.zero_le _, by show c ≤ _; omega⟩, by show Med u 0 c ≤ _; simp [Med]⟩
  · rintro i z c3 c4 c5 c6 c7 c8 c9 h1 hi ⟨wp', m, W, rfl, mt, hw, nw, wn, s1, Wl, ex, cp, lt, cl, sd, wv⟩
    obtain ⟨rfl, hi4⟩ := rangeD_get hi
    unfold ir_law_layers_b9
    walk_at "g"
    intro np hnp
    have nnm : np ≠ mp := (ne_new hnp mt.choose_spec).symm
    have nnw : np ≠ wp' := (ne_new hnp hw).symm
    have hn0 := s1.free hnp
    walk_at "g"
    have inb : ∀ w : Nat × Nat, Vd row.length wid.length w → w.1 ≤ 100 ∧ w.2 ≤ 100 := fun w hv => ⟨by have := hv.1; omega, by have := hv.2; omega⟩
    have big : (row.length + 1) * (wid.length + 1) ≤ 10201 := Nat.le_trans (Nat.mul_le_mul (show row.length + 1 ≤ 101 by omega) (show wid.length + 1 ≤ 101 by omega)) (by decide)
    refine for_4 6 7 8 9 (fun j c6 c7 c8 c9 h' => ∃ (m' : List ((Nat × Nat) × Int)) (N : List (Nat × Nat)), MetAt h' mp m' ∧ h' np = some (.lst (N.map ekP)) ∧ h' wp' = some (.lst (W.map ekP)) ∧ Sm h h' ∧ Exa u row.length wid.length m' ∧ Cpl u row.length wid.length i m' ∧ (∀ x, Dm m x → Dm m' x) ∧ (∀ x, Dm m' x → Med u x.1 x.2 < i + 1) ∧
      N.length ≤ m'.length ∧ (∀ x, Dm m' x → Med u x.1 x.2 = i → x ∈ N) ∧ (∀ x ∈ N, Vd row.length wid.length x ∧ Med u x.1 x.2 = i) ∧
      Clo u row.length wid.length m' (fun _ => False) ∧ ∀ l w, l < j → W[l]? = some w → Dm m' w) ?_ (fun _ _ _ _ _ _ _ e => ?_) ?_ ?_
    · refine ⟨m, [], ⟨_, by rw [updD_ne nnm.symm]; exact mt.choose_spec⟩, updD_same, by walk_at "hp", s1.trans (.new hnp), ex, cp, fun _ h => h, fun x hx => by have := lt x hx; omega, Nat.zero_le _, fun x hx e => ?_, (fun x hx => nomatch hx), cl, fun l w h => absurd h (Nat.not_lt_zero _)⟩
      have := lt x hx; omega
    · obtain ⟨_, _, _, _, e, _⟩ := e; exact e
    · rintro j z c6 c7 c8 c9 h2 hj ⟨m', N, mt', hN, hW, s2, ex', cp', sub', lt', Nl, Na, Nv, cl', pr⟩
      obtain ⟨w, hw', rfl⟩ := get_map hj
      obtain ⟨wvd, wmd⟩ := wv w (List.mem_of_getElem? hw')
      unfold ir_law_layers_b8
      walk_at "g"
      refine rng1 (row.length + 1) (by omega) (by omega) ?_
      have fin : ∀ (c7 c8 c9 : Option D) (h3 : DH) (m2 : List ((Nat × Nat) × Int)) (N2 : List (Nat × Nat)), MetAt h3 mp m2 → h3 np = some (.lst (N2.map ekP)) → h3 wp' = some (.lst (W.map ekP)) → Sm h h3 → Exa u row.length wid.length m2 → Cpl u row.length wid.length i m2 → (∀ x, Dm m' x → Dm m2 x) → (∀ x, Dm m2 x → Med u x.1 x.2 < i + 1) →
        N2.length ≤ m2.length → (∀ x, Dm m2 x → Med u x.1 x.2 = i → x ∈ N2) → (∀ x ∈ N2, Vd row.length wid.length x ∧ Med u x.1 x.2 = i) → Clo u row.length wid.length m2 (fun _ => False) → Dm m2 w →
        ∃ (m' : List ((Nat × Nat) × Int)) (N : List (Nat × Nat)), MetAt h3 mp m' ∧ h3 np = some (.lst (N.map ekP)) ∧ h3 wp' = some (.lst (W.map ekP)) ∧ Sm h h3 ∧ Exa u row.length wid.length m' ∧ Cpl u row.length wid.length i m' ∧ (∀ x, Dm m x → Dm m' x) ∧ (∀ x, Dm m' x → Med u x.1 x.2 < i + 1) ∧
          N.length ≤ m'.length ∧ (∀ x, Dm m' x → Med u x.1 x.2 = i → x ∈ N) ∧ (∀ x ∈ N, Vd row.length wid.length x ∧ Med u x.1 x.2 = i) ∧
          Clo u row.length wid.length m' (fun _ => False) ∧ ∀ l w, l < j + 1 → W[l]? = some w → Dm m' w := fun c7 c8 c9 h3 m2 N2 a1 a2 a3 a4 a5 a6 a7 a8 a9 a10 a11 a12 a13 =>
          ⟨m2, N2, a1, a2, a3, a4, a5, a6, fun x hx => a7 x (sub' x hx), a8, a9, a10, a11, a12, fun l w' hl e => by
            by_cases q : l = j
            · subst q; rw [hw'] at e; cases e; exact a13
            · exact a7 _ (pr l w' (by omega) e)⟩
      refine for_3 7 8 9 (fun t c7 c8 c9 h' => ∃ (m2 : List ((Nat × Nat) × Int)) (N2 : List (Nat × Nat)) (a c : Nat), c7 = some (.int (a : Int)) ∧ c8 = some (.int (c : Int)) ∧ a = w.1 + t ∧ Vd row.length wid.length (a, c) ∧ Med u a c ≤ i ∧ (t = 0 → w = (a, c)) ∧ (0 < t → Dm m2 w) ∧ MetAt h' mp m2 ∧ h' np = some (.lst (N2.map ekP)) ∧ h' wp' = some (.lst (W.map ekP)) ∧ Sm h h' ∧ Exa u row.length wid.length m2 ∧ Cpl u row.length wid.length i m2 ∧ (∀ x, Dm m' x → Dm m2 x) ∧ (∀ x, Dm m2 x → Med u x.1 x.2 < i + 1) ∧
        N2.length ≤ m2.length ∧ (∀ x, Dm m2 x → Med u x.1 x.2 = i → x ∈ N2) ∧ (∀ x ∈ N2, Vd row.length wid.length x ∧ Med u x.1 x.2 = i) ∧ Clo u row.length wid.length m2 (fun y => y = (a, c))) ?_ (fun _ _ _ _ _ _ _ => trivial) ?_ ?_
      · exact ⟨m', N, w.1, w.2, rfl, rfl, rfl, wvd, wmd, fun _ => rfl, (fun h => absurd h (Nat.lt_irrefl _)), mt', hN, hW, s2, ex', cp', fun _ h => h, lt', Nl, Na, Nv, fun x h1 h2 h3 h4 => (cl' x h1 h2 h3 h4).imp id fun f => f.elim⟩
      · rintro t z c7 c8 c9 h3 ht ⟨m2, N2, a, c, rfl, rfl, ea, vd, md, t0, t1, b1, b2, b3, b4, b5, b6, b7, b8, b9, b10, b11, b12⟩
        obtain ⟨rfl, ht2⟩ := rangeD_get ht
        unfold ir_law_layers_b7
        walk_at "g"
        refine b1.in_ (a, c) rfl rfl ?_
        walk_at "g"
        refine iteB (fun q => ?_) (fun q => ?_)
        · walk_at "g"
          refine ⟨_, _, _, _, rfl, fin none none none h3 m2 N2 b1 b2 b3 b4 b5 b6 b7 b8 b9 b10 b11 (fun x h1 h2 h3 h4 => (b12 x h1 h2 h3 h4).elim .inl fun e => .inl (by rw [e]; exact q)) ?_⟩
          by_cases ht0 : t = 0
          · rw [t0 ht0]; exact q
          · exact t1 (by omega)
        · unfold ir_law_layers_r6
          have nd : ¬ Dm m2 (a, c) := by unfold Dm; rw [q]; exact Bool.false_ne_true
          obtain ⟨ex3, em⟩ := b5.put b6 vd nd md
          have l3 := ex3.len
          have l2 : (aput m2 (a, c) (i : Int)).length = m2.length + 1 := by
            rw [aput_new (by cases e : alook m2 (a, c) with
              | none => rfl
              | some v => rw [e] at q; cases q)]
            simp
          walk_at "g"
          refine b1.set (a, c) rfl rfl (by omega) fun h4 mt4 fr4 => ?_
          have k2 : ∀ b, b ≠ mp → ∀ o, h3 b = some o → h4 b = some o := fun b hb o e => by rw [fr4 b hb]; exact e
          have s4 : Sm h h4 := fun b o e => k2 b (ne_new hmp e) o (b4 b o e)
          have hnp4 := k2 np nnm _ b2
          walk_at "g"
          rw [show N2.map ekP ++ [D.tup [.int (a : Int), .int (c : Int)]] = (N2 ++ [(a, c)]).map ekP by simp [ekP]]
          rw [show (0 + (i : Int)) = i by omega] at mt4
          have c1 : MetAt (updD h4 np (.lst ((N2 ++ [(a, c)]).map ekP))) mp (aput m2 (a, c) i) := ⟨_, by rw [updD_ne nnm.symm]; exact mt4.choose_spec⟩
          have c3 : updD h4 np (.lst ((N2 ++ [(a, c)]).map ekP)) wp' = some (.lst (W.map ekP)) := by rw [updD_ne nnw.symm]; exact k2 wp' nw _ b3
          have c4 : Sm h (updD h4 np (.lst ((N2 ++ [(a, c)]).map ekP))) := s4.write hn0
          have c7' : ∀ x, Dm m' x → Dm (aput m2 (a, c) i) x := fun x hx => (b7 x hx).put
          have c8' : ∀ x, Dm (aput m2 (a, c) i) x → Med u x.1 x.2 < i + 1 := fun x hx => by
            rcases hx.of_put with rfl | hx
            · show Med u a c < _; omega
            · exact b8 x hx
          have c9' : (N2 ++ [(a, c)]).length ≤ (aput m2 (a, c) (i : Int)).length := by rw [l2]; simp; omega
          have c10 : ∀ x, Dm (aput m2 (a, c) i) x → Med u x.1 x.2 = i → x ∈ N2 ++ [(a, c)] := fun x hx e => by
            rcases hx.of_put with rfl | hx
            · simp
            · exact List.mem_append_left _ (b10 x hx e)
          have c11 : ∀ x ∈ N2 ++ [(a, c)], Vd row.length wid.length x ∧ Med u x.1 x.2 = i := fun x hx => by
            rcases List.mem_append.1 hx with hx | hx
            · exact b11 x hx
            · simp at hx; subst hx; exact ⟨vd, em⟩
          have stop : (¬ (a < row.length ∧ c < wid.length ∧ u a c = 0)) → Clo u row.length wid.length (aput m2 (a, c) i) (fun _ => False) := fun no x h1 h2 h3 h4 => by
            rcases h1.of_put with rfl | h1
            · exact absurd ⟨h2, h3, h4⟩ no
            · exact (b12 x h1 h2 h3 h4).elim (fun d => .inl d.put) fun e => .inl (by rw [e]; exact .put0)
          have dw : Dm (aput m2 (a, c) i) w := by
            by_cases ht0 : t = 0
            · rw [t0 ht0]; exact .put0
            · exact (t1 (by omega)).put
          have vd1 := vd.1
          have vd2 := vd.2
          simp only at vd1 vd2
          refine iteD (fun q1 => ?_) (fun q1 => ?_)
          · walk_at "g"
            exact ⟨_, _, _, _, rfl, fin none none none _ _ _ c1 updD_same c3 c4 ex3 b6.put c7' c8' c9' c10 c11 (stop fun e => by omega) dw⟩
          walk_at "g"
          refine iteD (fun q2 => ?_) (fun q2 => ?_)
          · walk_at "g"
            exact ⟨_, _, _, _, rfl, fin none none none _ _ _ c1 updD_same c3 c4 ex3 b6.put c7' c8' c9' c10 c11 (stop fun e => by omega) dw⟩
          walk_at "g"
          have eu2 : u a c = ul (At row (a : Int)) (At wid (c : Int)) := by rw [← eu]; rfl
          refine iteN (fun q3 => ?_) (fun q3 => ?_)
          · walk_at "g"
            refine ⟨_, _, _, _, rfl, fin none none none _ _ _ c1 updD_same c3 c4 ex3 b6.put c7' c8' c9' c10 c11 (stop fun e => ?_) dw⟩
            have := e.2.2
            rw [eu2] at this
            simp [ul, b2d, q3] at this
          unfold ir_law_layers_r5
          walk_at "g"
          refine ⟨_, _, _, rfl, _, _, a + 1, c + 1, by simp, by simp, by omega, ⟨by show a + 1 ≤ _; omega, by show c + 1 ≤ _; omega⟩, ?_, fun h => absurd h (by omega), fun _ => dw, c1, updD_same, c3, c4, ex3, b6.put, c7', c8', c9', c10, c11, fun x h1 h2 h3 h4 => ?_⟩
          · have : u a c = 0 := by rw [eu2, q3]; simp [ul, b2d]
            have := Med_diag this
            omega
          · rcases h1.of_put with rfl | h1
            · exact .inr rfl
            · exact (b12 x h1 h2 h3 h4).elim (fun d => .inl d.put) fun e => .inl (by rw [e]; exact .put0)
      · rintro c7 c8 c9 h3 ⟨m2, N2, a, c, rfl, rfl, ea, vd, md, t0, t1, b1, b2, b3, b4, b5, b6, b7, b8, b9, b10, b11, b12⟩
        rw [rangeD_len] at ea
        have := vd.1
        simp only at this
        omega
    · rintro c6 c7 c8 c9 h2 ⟨m', N, mt', hN, hW, s2, ex', cp', sub', lt', Nl, Na, Nv, cl', pr⟩
      rw [List.length_map] at pr
      have allW : ∀ w ∈ W, Dm m' w := fun w hw => by
        obtain ⟨l, hl, e⟩ := List.getElem_of_mem hw
        exact pr l w hl (by rw [List.getElem?_eq_getElem hl, e])
      have cp1 : Cpl u row.length wid.length (i + 1) m' := turn_cpl hu cl' fun y hy e => (sd y hy e).elim (allW y) (sub' y)
      have l' := ex'.len
      unfold ir_law_layers_r4
      walk_at "g"
      intro vp hvp
      have hv0 := s2.free hvp
      have nvm : vp ≠ mp := (ne_new hvp mt'.choose_spec).symm
      have nvn : vp ≠ np := (ne_new hvp hN).symm
      walk_at "g"
      refine for_1 6 (fun j c6 h' => ∃ V : List (Nat × Nat), h' vp = some (.lst (V.map ekP)) ∧ Sm h2 h' ∧ V.length ≤ 3 * j ∧ (∀ l x, l < j → N[l]? = some x → ∀ y, Vd row.length wid.length y → St1 x y → y ∈ V) ∧ ∀ y ∈ V, Vd row.length wid.length y ∧ Med u y.1 y.2 ≤ i + 1) ?_ (fun _ _ _ _ e => ?_) ?_ ?_
      · exact ⟨[], updD_same, .new hvp, Nat.zero_le _, fun _ _ h => absurd h (Nat.not_lt_zero _), (fun _ h => nomatch h)⟩
      · obtain ⟨_, _, s, _⟩ := e; exact s _ _ hN
      · rintro j z c6 h3 hj ⟨V, hV, s3, Vl, Va, Vv⟩
        obtain ⟨w, hw', rfl⟩ := get_map hj
        have jl := get_lt hw'
        obtain ⟨wvd, wmd⟩ := Nv w (List.mem_of_getElem? hw')
        have s3h := s2.trans s3
        have v1 := wvd.1
        have v2 := wvd.2
        have o1 : Med u (w.1 + 1) w.2 ≤ Med u w.1 w.2 + 1 := St1.med (x := w) (y := (w.1 + 1, w.2)) hu (.inl rfl)
        have o2 : Med u w.1 (w.2 + 1) ≤ Med u w.1 w.2 + 1 := St1.med (x := w) (y := (w.1, w.2 + 1)) hu (.inr (.inl rfl))
        have o3 : Med u (w.1 + 1) (w.2 + 1) ≤ Med u w.1 w.2 + 1 := St1.med (x := w) (y := (w.1 + 1, w.2 + 1)) hu (.inr (.inr rfl))
        have fin : ∀ (U : List (Nat × Nat)) (h4 : DH), h4 vp = some (.lst ((V ++ U).map ekP)) → Sm h2 h4 → U.length ≤ 3 → (∀ y, Vd row.length wid.length y → St1 w y → y ∈ U) → (∀ y ∈ U, Vd row.length wid.length y ∧ Med u y.1 y.2 ≤ i + 1) →
          ∃ V : List (Nat × Nat), h4 vp = some (.lst (V.map ekP)) ∧ Sm h2 h4 ∧ V.length ≤ 3 * (j + 1) ∧ (∀ l x, l < j + 1 → N[l]? = some x → ∀ y, Vd row.length wid.length y → St1 x y → y ∈ V) ∧ ∀ y ∈ V, Vd row.length wid.length y ∧ Med u y.1 y.2 ≤ i + 1 := fun U h4 a1 a2 a3 a4 a5 =>
          ⟨V ++ U, a1, a2, by simp; omega, fun l x hl e y hy st => by
            by_cases q : l = j
            · subst q; rw [hw'] at e; cases e; exact List.mem_append_right _ (a4 y hy st)
            · exact List.mem_append_left _ (Va l x (by omega) e y hy st), fun y hy => (List.mem_append.1 hy).elim (Vv y) (a5 y)⟩
        have st : ∀ (U : List (Nat × Nat)), (w.1 < row.length → (w.1 + 1, w.2) ∈ U) → (w.2 < wid.length → (w.1, w.2 + 1) ∈ U) → (w.1 < row.length → w.2 < wid.length → (w.1 + 1, w.2 + 1) ∈ U) → ∀ y, Vd row.length wid.length y → St1 w y → y ∈ U := fun U a b c y hy s => by
          rcases s with rfl | rfl | rfl
          · exact a hy.1
          · exact b hy.2
          · exact c hy.1 hy.2
        have ekp : ∀ a b : Nat, D.tup [.int (a : Int), .int (b : Int)] = ekP (a, b) := fun _ _ => rfl
        unfold ir_law_layers_b3
        walk_at "g"
        refine iteD (fun q1 => ?_) (fun q1 => ?_)
        · walk_at "g"
          unfold ir_law_layers_r2
          walk_at "g"
          refine iteD (fun q2 => ?_) (fun q2 => ?_)
          · walk_at "g"
            unfold ir_law_layers_r1
            walk_at "g"
            refine iteD (fun q3 => ?_) (fun q3 => absurd q1 q3)
            walk_at "g"
            refine iteD (fun q4 => ?_) (fun q4 => absurd q2 q4)
            walk_at "g"
            exact fin [(w.1 + 1, w.2), (w.1, w.2 + 1), (w.1 + 1, w.2 + 1)] _ (by rw [updD_same]; simp [ekP]) (by walk_at "sm") (by simp) (st _ (by simp <;> omega) (by simp <;> omega) (by simp <;> omega)) (by simp [Vd]; omega)
          · walk_at "g"
            unfold ir_law_layers_r1
            walk_at "g"
            refine iteD (fun q3 => ?_) (fun q3 => absurd q1 q3)
            walk_at "g"
            refine iteD (fun q4 => absurd q4 q2) (fun q4 => ?_)
            walk_at "g"
            exact fin [(w.1 + 1, w.2)] _ (by rw [updD_same]; simp [ekP]) (by walk_at "sm") (by simp) (st _ (by simp <;> omega) (by simp <;> omega) (by simp <;> omega)) (by simp [Vd]; omega)
        · walk_at "g"
          unfold ir_law_layers_r2
          walk_at "g"
          refine iteD (fun q2 => ?_) (fun q2 => ?_)
          · walk_at "g"
            unfold ir_law_layers_r1
            walk_at "g"
            refine iteD (fun q3 => absurd q3 q1) (fun q3 => ?_)
            walk_at "g"
            exact fin [(w.1, w.2 + 1)] _ (by rw [updD_same]; simp [ekP]) (by walk_at "sm") (by simp) (st _ (by simp <;> omega) (by simp <;> omega) (by simp <;> omega)) (by simp [Vd]; omega)
          · walk_at "g"
            unfold ir_law_layers_r1
            walk_at "g"
            refine iteD (fun q3 => absurd q3 q1) (fun q3 => ?_)
            exact ⟨_, rfl, DL.iteF ⟨_, rfl, fin [] _ (by simpa using hV) (by walk_at "sm") (by simp) (st _ (by simp <;> omega) (by simp <;> omega) (by simp <;> omega)) (by simp)⟩⟩
      · rintro c6 h3 ⟨V, hV, s3, Vl, Va, Vv⟩
        rw [List.length_map] at Va Vl
        walk_at "g"
        refine ⟨_, _, _, _, _, _, _, rfl, vp, m', V, rfl, ⟨_, s3 _ _ mt'.choose_spec⟩, hV, nvm, hv0, s2.trans s3, by omega, ex', cp1, lt', cl', fun y hy e => ?_, Vv⟩
        rcases e with e | ⟨x, hx, e, st⟩
        · exact .inr (cp1 y hy (by rw [e]; simp [Med]))
        · by_cases q : Med u x.1 x.2 < i
          · rcases sd y hy (.inr ⟨x, hx, by omega, st⟩) with q2 | q2
            · exact .inr (allW y q2)
            · exact .inr (sub' y q2)
          · have e2 : Med u x.1 x.2 = i := by simp only [Int.natCast_add] at e; omega
            have := Na x (cp1 x hx (by omega)) e2
            obtain ⟨l, hl, e3⟩ := List.getElem_of_mem this
            exact .inl (Va l x hl (by rw [List.getElem?_eq_getElem hl, e3]) y hy st)
  · rintro c3 c4 c5 c6 c7 c8 c9 h1 ⟨wp', m, W, rfl, mt, hw, nw, wn, s1, Wl, ex, cp, lt, cl, sd, wv⟩
    rw [rangeD_len] at cp lt
    unfold ir_law_layers_r0
    walk_at "g"
    refine rng1 (wid.length + 1) (by omega) (by omega) ?_
    refine lc_map (fun d => match d with
      | .int j => .int ((alook m (row.length, j.toNat)).getD 4)
      | d => d) (by rw [rangeD_len]; exact szle (by omega)) trivial ?_ ?_
    · rintro j d R hd r
      obtain ⟨rfl, hj⟩ := rangeD_get hd
      walk_at "g"
      refine ⟨tget_d mt.choose_spec, ?_⟩
      walk_at "g"
      refine mt.get (row.length, (0 + (j : Int)).toNat) rfl (by simp) ?_
      exact r
    · intro bp hbp
      rw [show (rangeD 0 (wid.length + 1)).map _ = ((List.range (wid.length + 1)).map fun j => (alook m (row.length, j)).getD 4).map D.int by simp [rangeD]]
      refine k bp _ _ (s1.free hbp) updD_same ⟨by simp, fun j h1 h2 most hm => ?_⟩ (fun v hv => ?_) (s1.trans (.new hbp))
      rotate_left
      · obtain ⟨j, _, rfl⟩ := List.mem_map.1 hv
        cases e : alook m (row.length, j) with
        | none => simp
        | some v =>
          have h1 := (ex.2 _ _ e).2
          have h2 := lt (row.length, j) (by unfold Dm; rw [e]; rfl)
          simp only [Option.getD_some]
          simp only at h1 h2
          omega
      rw [List.getD_eq_getElem?_getD, List.getElem?_map, List.getElem?_range (by omega)]
      subst eu
      simp only [Option.map_some, Option.getD_some]
      have vd : Vd row.length wid.length (row.length, j) := ⟨Nat.le_refl _, h2⟩
      cases e : alook m (row.length, j) with
      | some v => rw [(ex.2 _ v e).2]; exact Iff.rfl
      | none =>
        have : ¬ Med (uOf row wid) row.length j < 4 := fun q => by
          have := cp _ vd q
          unfold Dm at this; rw [e] at this; cases this
        simp only [Option.getD_none]
        omega
end K17
namespace K17
/-! steps as texts -/
def isSt (s : Str) : Bool := decide (s = "pair") || decide (s = "ring") || decide (s = "year")
def rgs (ss : List Str) : Nat := (ss.filter fun (s : Str) => !decide (s = "year")).length
def yrs (ss : List Str) : Nat := (ss.filter fun (s : Str) => !decide (s = "ring")).length
def cst (u : Nat → Nat → Int) (s : Str) (a c : Nat) : Int := if s = "pair" then u a c else 1
def nxa (s : Str) (a : Nat) : Nat := if s = "year" then a else a + 1
def nxc (s : Str) (c : Nat) : Nat := if s = "ring" then c else c + 1
/-- the errors of steps from a, c on -/
def Fe (u : Nat → Nat → Int) : List Str → Nat → Nat → Int
  | [], _, _ => 0
  | s :: ss, a, c => cst u s a c + Fe u ss (nxa s a) (nxc s c)
def aerr (row wid : List Int) (ss : List Str) (j : Nat) : Option Int :=
  if ss.all isSt = true ∧ rgs ss = row.length ∧ yrs ss ≤ j then some (Fe (uOf row wid) ss 0 (j - yrs ss)) else none
def oD : Option Int → D
  | none => .non
  | some i => .int i
theorem rgs_cons (s : Str) (ss : List Str) : rgs (s :: ss) = rgs ss + (if s = "year" then 0 else 1) := by
  unfold rgs; rw [List.filter_cons]; by_cases h : s = "year" <;> simp [h]
theorem yrs_cons (s : Str) (ss : List Str) : yrs (s :: ss) = yrs ss + (if s = "ring" then 0 else 1) := by
  unfold yrs; rw [List.filter_cons]; by_cases h : s = "ring" <;> simp [h]
theorem rgs_le (ss : List Str) : rgs ss ≤ ss.length := List.length_filter_le _ _
theorem yrs_le (ss : List Str) : yrs ss ≤ ss.length := List.length_filter_le _ _
theorem ne_ry : ¬ ("year" : Str) = "ring" := by decide
theorem len_ry : ∀ ss : List Str, ss.length ≤ rgs ss + yrs ss
  | [] => by simp [rgs, yrs]
  | s :: ss => by
    have := len_ry ss
    rw [rgs_cons, yrs_cons, List.length_cons]
    by_cases h : s = "year"
    · 
      simp only [h, if_true, if_neg ne_ry]; omega
    · simp only [h, if_false]; split <;> omega
theorem ne_yr : ¬ ("ring" : Str) = "year" := by decide
theorem isSt_any (s : Str) : ([D.str "pair", .str "ring", .str "year"].any fun y => eqF y (.str s)) = isSt s := by
  have e : ∀ a : Str, ((a == s) : Bool) = decide (s = a) := fun a => by
    by_cases h : s = a
    · subst h; simp
    · have : ¬ a = s := fun z => h z.symm
      simp [h, this]
  unfold isSt
  simp only [List.any_cons, List.any_nil, eqF, e, Bool.or_false, Bool.or_assoc]
/-! the last step -/
def LastP (u : Nat → Nat → Int) (s : Str) (a c : Nat) : Prop := (s = "pair" ∧ 0 < c ∧ Med u a c = Med u (a - 1) (c - 1) + u (a - 1) (c - 1)) ∨ (s = "ring" ∧ Med u a c = Med u (a - 1) c + 1) ∨ (s = "year" ∧ 0 < c ∧ Med u a c = Med u a (c - 1) + 1)
def cLast : Ct := fun ds h Q _ => ∃ (x y : D) (row wid : List Int) (a c : Nat), ds = [x, y, .tup (tabD (uOf row wid) wid.length (row.length + 1)), .int (a : Int), .int (c : Int)] ∧ ILst h x row ∧ ILst h y wid ∧ 1 ≤ a ∧ a ≤ row.length ∧ c ≤ wid.length ∧ row.length ≤ 900 ∧ wid.length ≤ 900 ∧
  ∀ s h', LastP (uOf row wid) s a c → Sm h h' → Q (.str s) h'
theorem tab_at {u : Nat → Nat → Int} {n m : Nat} {k : Int} {a : Nat} (e : k = (a : Int)) (h : a < m) : atI (tabD u n m) k = some (lineD u n a) := atI_rng e h
theorem line_at {u : Nat → Nat → Int} {n a : Nat} {k : Int} {c : Nat} (e : k = (c : Int)) (h : c ≤ n) : atI ((List.range (n + 1)).map fun c => D.int (Med u a c)) k = some (.int (Med u a c)) := atI_rng e (by omega)
theorem nt {ns : List Int} {k : Int} {j : Nat} (e : k = (j : Int)) (h : j < ns.length) : atI ns k = some (ns.getD j 0) := by
  subst e
  exact atI_nat (by rw [List.getElem?_eq_getElem h, List.getD_eq_getElem?_getD, List.getElem?_eq_getElem h]; rfl)
theorem ok_last {C : Nat → Ct} (h0 : C 0 = ask cUnlike) (ds : List D) (h : DH) (Q : DK) (E : XD) (c : cLast ds h Q E) : xS T.cs C E ir_last_step { nx := fun _ h' => Q .non h', rt := Q } (dstart N_last_step.length ds) h := by
  obtain ⟨x, y, row, wid, a, c, rfl, hx, hy, a1, ar, cw, lr, lw, k⟩ := c
  have hu := uOf_01 row wid
  unfold ir_last_step N_last_step
  walk_at "g"
  rw [At_rg (a := a) rfl (by omega), At_rg (a := c) rfl (by omega)]
  have rest : (0 < c → ¬ Med (uOf row wid) a c = Med (uOf row wid) (a - 1) (c - 1) + uOf row wid (a - 1) (c - 1)) → ∀ h1, Sm h h1 → xS T.cs C E ir_last_step_r1 { nx := fun _ h' => Q .non h', rt := Q } [some x, some y, some (.tup (tabD (uOf row wid) wid.length (row.length + 1))), some (.int (a : Int)), some (.int (c : Int)), some (.int (Med (uOf row wid) a c))] h1 := fun no h1 s1 => by
    unfold ir_last_step_r1
    walk_at "g"
    rw [At_rg (a := a - 1) (by omega) (by omega), At_rg (a := c) rfl (by omega)]
    refine iteD (fun q => ?_) (fun q => ?_)
    · walk_at "g"
      exact k _ _ (.inr (.inl ⟨rfl, q⟩)) s1
    · unfold ir_last_step_r0
      walk_at "g"
      refine k _ _ (.inr (.inr ⟨rfl, ?_⟩)) s1
      obtain ⟨b, rfl⟩ : ∃ b, a = b + 1 := ⟨a - 1, by omega⟩
      cases c with
      | zero => exact absurd (by simp [Med]) q
      | succ c =>
        refine ⟨by omega, ?_⟩
        have n1 := no (by omega)
        simp only [Nat.add_sub_cancel] at q n1 ⊢
        rw [Med] at q n1 ⊢
        have := hu b c
        omega
  refine iteD (fun q => ?_) (fun q => ?_)
  · have c0 : 0 < c := by have : (0 : Int) < c := q; omega
    walk_at "g"
    rw [At_rg (a := a - 1) (by omega) (by omega), At_rg (a := c - 1) (by omega) (by omega)]
    refine hx.sub (nt (j := a - 1) (by omega) (by omega)) ?_
    walk_at "g"
    refine hy.sub (nt (j := c - 1) (by omega) (by omega)) ?_
    walk_at "g"
    refine ask_of h0 ⟨_, _, rfl, ?_⟩
    walk_at "g"
    refine iteD (fun q2 => ?_) (fun q2 => ?_)
    · walk_at "g"
      exact k _ _ (.inl ⟨rfl, c0, q2⟩) (.refl _)
    · exact rest (fun _ => q2) _ (.refl _)
  · exact ⟨_, rfl, DL.iteF (rest (fun c0 => absurd (show (0 : Int) < c by omega) q) _ (.refl _))⟩
end K17
namespace K17
def cAlign : Ct := fun ds h Q _ => ∃ (x y : Addr) (row wid : List Int) (e : Int) (j : Nat), ds = [.ref x, .ref y, .int e, .int (j : Int)] ∧ h x = some (.lst (row.map D.int)) ∧ h y = some (.lst (wid.map D.int)) ∧ row.length ≤ 900 ∧ 1 ≤ wid.length ∧ wid.length ≤ 900 ∧ j ≤ wid.length ∧
  (e < Med (uOf row wid) row.length j → ∀ h', Sm h h' → Q .non h') ∧ (Med (uOf row wid) row.length j ≤ e → ∀ (ss : List Str) h', aerr row wid ss j = some (Med (uOf row wid) row.length j) → ss.length ≤ row.length + j → Sm h h' → Q (.tup (ss.map D.str)) h')
theorem ok_align {C : Nat → Ct} (h1 : C 1 = ask cTable) (hL : C 2 = ask cLast) (ds : List D) (h : DH) (Q : DK) (E : XD) (c : cAlign ds h Q E) : xS T.cs C E ir_alignment { nx := fun _ h' => Q .non h', rt := Q } (dstart N_alignment.length ds) h := by
  obtain ⟨x, y, row, wid, e, j, rfl, hx, hy, lr, lw0, lw, hj, k1, k2⟩ := c
  have hu := uOf_01 row wid
  unfold ir_alignment N_alignment
  walk_at "g"
  refine ask_of h1 ⟨_, _, row, wid, rfl, .inr ⟨x, rfl, hx⟩, .inr ⟨y, rfl, hy⟩, lr, lw0, lw, fun h2 s2 => ?_⟩
  walk_at "g"
  refine sub_t tab_last ?_
  walk_at "g"
  rw [At_rg (a := j) rfl (by omega)]
  refine iteD (fun q => ?_) (fun q => ?_)
  · walk_at "g"
    exact k1 q _ s2
  unfold ir_alignment_r3
  walk_at "g"
  refine newL_mk fun p h3 hp yp s3 => ?_
  walk_at "g"
  have S3 := s2.trans s3
  have hp0 := s2.free hp
  refine while_mk (fun n s h' => ∃ (a c : Nat) (t : List Str) (s8 : Option D), s = [some (.ref x), some (.ref y), some (.int e), some (.int (j : Int)), some (.tup (tabD (uOf row wid) wid.length (row.length + 1))), some (.ref p), some (.int (a : Int)), some (.int (c : Int)), s8] ∧ h' p = some (.lst (t.reverse.map D.str)) ∧ Sm h h' ∧
    n = a + c ∧ a + rgs t = row.length ∧ c + yrs t = j ∧ t.all isSt = true ∧ Med (uOf row wid) a c + Fe (uOf row wid) t a c = Med (uOf row wid) row.length j) (row.length + j) ⟨row.length, j, [], none, rfl, yp, S3, rfl, rfl, rfl, rfl, by simp [Fe]⟩ ?_
  rintro n s h4 ⟨a, c, t, s8, rfl, e4, S4, rfl, ea, ec, ta, em⟩
  have tl := len_ry t
  walk_at "g"
  refine iteD (fun q1 => ?_) (fun q1 => ?_)
  · have a0 : 1 ≤ a := by have : (0 : Int) < a := q1; omega
    unfold ir_alignment_b2
    walk_at "g"
    refine ask_of hL ⟨_, _, row, wid, a, c, rfl, .inr ⟨x, rfl, S4 _ _ hx⟩, .inr ⟨y, rfl, S4 _ _ hy⟩, a0, by omega, by omega, lr, lw, fun st h5 ls s5 => ?_⟩
    have e5 := s5 _ _ e4
    walk_at "g"
    have S6 : Sm h (updD h5 p (.lst (t.reverse.map D.str ++ [.str st]))) := (S4.trans s5).write hp0
    have e6 : updD h5 p (.lst (t.reverse.map D.str ++ [.str st])) p = some (.lst ((st :: t).reverse.map D.str)) := at_ls (by simp)
    generalize updD h5 p (.lst (t.reverse.map D.str ++ [.str st])) = h6 at S6 e6
    have fin : ∀ (a' c' : Nat), a = nxa st a' → c = nxc st c' → isSt st = true → Med (uOf row wid) a' c' + cst (uOf row wid) st a' c' = Med (uOf row wid) a c →
      ∃ m', m' < a + c ∧ ∃ (a c : Nat) (t : List Str) (s8 : Option D), [some (D.ref x), some (.ref y), some (.int e), some (.int (j : Int)), some (.tup (tabD (uOf row wid) wid.length (row.length + 1))), some (.ref p), some (.int (a' : Int)), some (.int (c' : Int)), some (.str st)] = [some (.ref x), some (.ref y), some (.int e), some (.int (j : Int)), some (.tup (tabD (uOf row wid) wid.length (row.length + 1))), some (.ref p), some (.int (a : Int)), some (.int (c : Int)), s8] ∧ h6 p = some (.lst (t.reverse.map D.str)) ∧ Sm h h6 ∧
        m' = a + c ∧ a + rgs t = row.length ∧ c + yrs t = j ∧ t.all isSt = true ∧ Med (uOf row wid) a c + Fe (uOf row wid) t a c = Med (uOf row wid) row.length j := fun a' c' ha hc hs hm => by
      refine ⟨a' + c', ?_, a', c', st :: t, _, rfl, e6, S6, rfl, ?_, ?_, by simp [hs, ta], ?_⟩
      · unfold nxa at ha; unfold nxc at hc
        by_cases q : st = "year"
        · have : ¬ st = "ring" := by rw [q]; exact ne_ry
          rw [if_pos q] at ha; rw [if_neg this] at hc; omega
        · rw [if_neg q] at ha
          split at hc <;> omega
      · rw [rgs_cons]; unfold nxa at ha; split at ha <;> simp_all <;> omega
      · rw [yrs_cons]; unfold nxc at hc; split at hc <;> simp_all <;> omega
      · rw [Fe, ← ha, ← hc]; omega
    rcases ls with ⟨rfl, c0, em2⟩ | ⟨rfl, em2⟩ | ⟨rfl, c0, em2⟩
    · walk_at "g"
      unfold ir_alignment_r1
      walk_at "g"
      have := fin (a - 1) (c - 1) (by simp (decide := true) [nxa]; omega) (by simp (decide := true) [nxc]; omega) rfl (by simp only [cst, if_true]; omega)
      rw [show (((a - 1 : Nat) : Int)) = a - 1 by omega, show (((c - 1 : Nat) : Int)) = c - 1 by omega] at this
      exact this
    · walk_at "g"
      unfold ir_alignment_r1
      walk_at "g"
      have := fin (a - 1) c (by simp (decide := true) [nxa]; omega) (by simp (decide := true) [nxc]) rfl (by simp (decide := true) [cst]; omega)
      rw [show (((a - 1 : Nat) : Int)) = a - 1 by omega] at this
      exact this
    · walk_at "g"
      unfold ir_alignment_r1
      walk_at "g"
      have := fin a (c - 1) (by simp (decide := true) [nxa]) (by simp (decide := true) [nxc]; omega) rfl (by simp (decide := true) [cst]; omega)
      rw [show (((c - 1 : Nat) : Int)) = c - 1 by omega] at this
      exact this
  · have a0 : a = 0 := by have : ¬ (0 : Int) < a := q1; omega
    subst a0
    unfold ir_alignment_r0
    walk_at "g"
    refine newL_mk fun p2 h5 hp2 y2 s5 => ?_
    walk_at "g"
    rw [List.reverse_reverse]
    have em' : Fe (uOf row wid) t 0 c = Med (uOf row wid) row.length j := by rw [← em]; simp [Med]
    refine k2 (by have : ¬ e < _ := q; omega) t h5 ?_ (by omega) (S4.trans s5)
    unfold aerr
    rw [if_pos ⟨ta, by omega, by omega⟩, ← em', show j - yrs t = c by omega]
theorem eq_st (s a : Str) : ((fun (a : Str) (b : Str) => decide (a = b)) s a) = decide (s = a) := rfl
theorem aerr_r2 {C : Nat → Ct} {E : XD} {N : DEnds} {s0 s1 s2 s3 s4 s5 s6 : Option D} {s : Str} {a c : Nat} {h : DH} (k : N.nx [s0, s1, s2, s3, s4, s5, s6, some (.int (nxa s a : Nat)), some (.int (nxc s c : Nat)), some (.str s)] h) :
    xS T.cs C E ir_alignment_errors_r2 N [s0, s1, s2, s3, s4, s5, s6, some (.int a), some (.int c), some (.str s)] h := by
  unfold ir_alignment_errors_r2
  have r1 : ∀ a' : Int, a' = (nxa s a : Nat) → xS T.cs C E ir_alignment_errors_r1 N [s0, s1, s2, s3, s4, s5, s6, some (.int a'), some (.int c), some (.str s)] h := fun a' e => by
    subst e
    unfold ir_alignment_errors_r1
    walk_at "g"
    refine iteN (fun q => ?_) (fun q => ?_)
    · walk_at "g"
      unfold nxc at k; rw [if_neg q] at k; exact k
    · walk_at "g"
      unfold nxc at k; rw [if_pos q] at k; exact k
  walk_at "g"
  refine iteN (fun q => ?_) (fun q => ?_)
  · walk_at "g"
    exact r1 _ (by unfold nxa; rw [if_neg q]; omega)
  · walk_at "g"
    exact r1 _ (by unfold nxa; rw [if_pos q])
def cAerr : Ct := fun ds h Q _ => ∃ (x y : Addr) (row wid : List Int) (ss : List Str) (j : Nat), ds = [.ref x, .ref y, .tup (ss.map D.str), .int (j : Int)] ∧ h x = some (.lst (row.map D.int)) ∧ h y = some (.lst (wid.map D.int)) ∧ j ≤ wid.length ∧ ss.length ≤ 5000 ∧ ∀ h', Sm h h' → Q (oD (aerr row wid ss j)) h'
theorem ok_aerr {C : Nat → Ct} (h0 : C 0 = ask cUnlike) (ds : List D) (h : DH) (Q : DK) (E : XD) (c : cAerr ds h Q E) : xS T.cs C E ir_alignment_errors { nx := fun _ h' => Q .non h', rt := Q } (dstart N_alignment_errors.length ds) h := by
  obtain ⟨x, y, row, wid, ss, j, rfl, hx, hy, hj, ls, k⟩ := c
  have hu := uOf_01 row wid
  unfold ir_alignment_errors N_alignment_errors
  walk_at "g"
  refine lc_map (fun d => match d with
    | .str s => .bl (!isSt s)
    | d => d) (by rw [List.length_map]; exact szle (by omega)) trivial ?_ ?_
  · rintro i d R hd r
    obtain ⟨s, _, rfl⟩ := get_map hd
    walk_at "g"
    refine ⟨rfl, rfl, ?_⟩
    show R (some (.bl (!([D.str "pair", .str "ring", .str "year"].any fun y => eqF y (.str s))))) h
    rw [isSt_any]
    exact r
  refine newL_mk fun p h1 hp yp s1 => ?_
  walk_at "g"
  refine ⟨ss.map fun s => !isSt s, yp.trans (by simp), ?_⟩
  walk_at "g"
  have ea : (ss.map fun s => !isSt s).any id = !ss.all isSt := by
    rw [List.any_map, List.not_all_eq_any_not]; rfl
  rw [ea]
  refine iteB (fun q => ?_) (fun q => ?_)
  · walk_at "g"
    have := k _ s1
    unfold aerr at this
    rw [if_neg (fun z => by rw [z.1] at q; cases q)] at this
    exact this
  have va : ss.all isSt = true := by simpa using q
  unfold ir_alignment_errors_r5
  have fr : ∀ (a : Str) (g : D → Option D), (∀ s : Str, g (.str s) = if (!decide (s = a)) = true then some (.str s) else none) → (ss.map D.str).filterMap g = (ss.filter fun (s : Str) => !decide (s = a)).map D.str := fun a g hg => fm_filter hg
  walk_at "g"
  refine lc_fm (fun d => match d with
    | .str s => if (!decide (s = "year")) = true then some (.str s) else none
    | d => some d) (by rw [List.length_map]; exact szle (by omega)) trivial ?_ ?_
  · rintro i d R hd r
    obtain ⟨s, _, rfl⟩ := get_map hd
    walk_at "g"
    refine iteB (fun q => ?_) (fun q => ?_)
    · simp only [q, if_true] at r
      walk_at "g"
      exact r
    · simp only [q, Bool.false_eq_true, if_false] at r
      exact r
  rw [fr "year" _ fun s => rfl]
  refine newL_mk fun p2 h2 hp2 yp2 s2 => ?_
  walk_at "g"
  refine lc_fm (fun d => match d with
    | .str s => if (!decide (s = "ring")) = true then some (.str s) else none
    | d => some d) (by rw [List.length_map]; exact szle (by omega)) trivial ?_ ?_
  · rintro i d R hd r
    obtain ⟨s, _, rfl⟩ := get_map hd
    walk_at "g"
    refine iteB (fun q => ?_) (fun q => ?_)
    · simp only [q, if_true] at r
      walk_at "g"
      exact r
    · simp only [q, Bool.false_eq_true, if_false] at r
      exact r
  rw [fr "ring" _ fun s => rfl]
  refine newL_mk fun p3 h3 hp3 yp3 s3 => ?_
  have S3 := s1.trans (s2.trans s3)
  have hx3 := S3 _ _ hx
  have hy3 := S3 _ _ hy
  walk_at "g"
  have bad : ¬ (rgs ss = row.length ∧ yrs ss ≤ j) → Q .non h3 := fun no => by
    have := k _ S3
    unfold aerr at this
    rw [if_neg (fun z => no z.2)] at this
    exact this
  refine iteN (fun q1 => ?_) (fun q1 => ?_)
  · walk_at "g"
    exact bad fun z => q1 (by have := z.1; unfold rgs at this; omega)
  walk_at "g"
  refine iteD (fun q2 => ?_) (fun q2 => ?_)
  · walk_at "g"
    exact bad fun z => by have h1 := z.2; unfold yrs at h1; have h2 : ((j : Nat) : Int) < _ := q2; omega
  have er : rgs ss = row.length := by unfold rgs; omega
  have ey : yrs ss ≤ j := by have h2 : ¬ ((j : Nat) : Int) < _ := q2; unfold yrs; omega
  unfold ir_alignment_errors_r4
  walk_at "g"
  refine for_4 6 7 8 9 (fun i c6 c7 c8 c9 h' => h' = h3 ∧ ∃ (e : Int) (a c : Nat), c6 = some (.int e) ∧ c7 = some (.int (a : Int)) ∧ c8 = some (.int (c : Int)) ∧ a + rgs (ss.drop i) = row.length ∧ c + yrs (ss.drop i) = j ∧ e + Fe (uOf row wid) (ss.drop i) a c = Fe (uOf row wid) ss 0 (j - yrs ss)) ?_ (fun _ _ _ _ _ _ _ _ => trivial) ?_ ?_
  · refine ⟨rfl, 0, 0, j - yrs ss, rfl, rfl, ?_, by simpa using er, by simp; omega, by simp⟩
    show some (D.int ((j : Int) - (yrs ss : Nat))) = _
    congr 2; omega
  · rintro i d c6 c7 c8 c9 h4 hi ⟨rfl, e, a, c, rfl, rfl, rfl, ra, rc, re⟩
    obtain ⟨s, hs, rfl⟩ := get_map hi
    rw [drop_at hs, rgs_cons] at ra
    rw [drop_at hs, yrs_cons] at rc
    rw [drop_at hs, Fe] at re
    unfold ir_alignment_errors_b3
    walk_at "g"
    refine iteD (fun q => ?_) (fun q => ?_)
    · subst q
      have n1 : ¬ ("pair" : Str) = "year" := by decide
      have n2 : ¬ ("pair" : Str) = "ring" := by decide
      rw [if_neg n1] at ra
      rw [if_neg n2] at rc
      walk_at "g"
      refine ask_of h0 ⟨_, _, rfl, ?_⟩
      walk_at "g"
      refine aerr_r2 ⟨_, _, _, _, rfl, rfl, e + uOf row wid a c, nxa "pair" a, nxc "pair" c, rfl, rfl, rfl, ?_, ?_, ?_⟩
      · simp only [nxa, if_neg n1]; omega
      · simp only [nxc, if_neg n2]; omega
      · simp only [cst, if_true] at re; omega
    · walk_at "g"
      refine aerr_r2 ⟨_, _, _, _, rfl, rfl, e + 1, nxa s a, nxc s c, rfl, rfl, rfl, ?_, ?_, ?_⟩
      · unfold nxa; split at ra <;> rename_i q2
        · rw [if_pos q2]; omega
        · rw [if_neg q2]; omega
      · unfold nxc; split at rc <;> rename_i q2
        · rw [if_pos q2]; omega
        · rw [if_neg q2]; omega
      · simp only [cst, if_neg q] at re; omega
  · rintro c6 c7 c8 c9 h4 ⟨rfl, e, a, c, rfl, rfl, rfl, ra, rc, re⟩
    unfold ir_alignment_errors_r0
    walk_at "g"
    rw [List.length_map, List.drop_length] at re
    have := k _ S3
    unfold aerr at this
    rw [if_pos ⟨va, er, ey⟩] at this
    simp only [Fe] at re
    rw [show e = Fe (uOf row wid) ss 0 (j - yrs ss) by omega]
    exact this
end K17
namespace K17
theorem rgs_append (p q : List Str) : rgs (p ++ q) = rgs p + rgs q := by unfold rgs; rw [List.filter_append, List.length_append]
theorem yrs_append (p q : List Str) : yrs (p ++ q) = yrs p + yrs q := by unfold yrs; rw [List.filter_append, List.length_append]
def cJudged : Ct := cAerr
theorem ok_judged {C : Nat → Ct} (ds : List D) (h : DH) (Q : DK) (E : XD) (c : cJudged ds h Q E) : xS T.cs C E ir_law_judged { nx := fun _ h' => Q .non h', rt := Q } (dstart N_law_judged.length ds) h := by
  obtain ⟨x, y, row, wid, ss, j, rfl, hx, hy, hj, ls, k⟩ := c
  have hu := uOf_01 row wid
  unfold ir_law_judged N_law_judged
  walk_at "g"
  generalize er : ss.reverse = rs
  have es : ss = rs.reverse := by rw [← er]; simp
  have none_of : ∀ h', Sm h h' → ¬ (ss.all isSt = true ∧ rgs ss = row.length ∧ yrs ss ≤ j) → Q .non h' := fun h' s no => by
    have := k h' s
    unfold aerr at this
    rw [if_neg no] at this
    exact this
  refine for_4 4 5 6 7 (fun i c4 c5 c6 c7 h' => Sm h h' ∧ ∃ (a c : Nat) (e : Int), c4 = some (.int (a : Int)) ∧ c5 = some (.int (c : Int)) ∧ c6 = some (.int e) ∧ a + rgs (rs.take i).reverse = row.length ∧ c + yrs (rs.take i).reverse = j ∧ (rs.take i).reverse.all isSt = true ∧ e = Fe (uOf row wid) (rs.take i).reverse a c) ⟨.refl _, row.length, j, 0, rfl, rfl, rfl, rfl, rfl, rfl, rfl⟩ (fun _ _ _ _ _ _ _ _ => trivial) ?_ ?_
  · rintro i d c4 c5 c6 c7 h1 hi ⟨s1, a, c, e, rfl, rfl, rfl, ra, rc, ta, re⟩
    obtain ⟨s, hs, rfl⟩ := get_map hi
    have et : (rs.take (i + 1)).reverse = s :: (rs.take i).reverse := by rw [take_at hs]; simp
    have ess : ss = (rs.drop (i + 1)).reverse ++ (s :: (rs.take i).reverse) := by
      rw [es, ← et, ← List.reverse_append, List.take_append_drop]
    have g1 : rgs (s :: (rs.take i).reverse) ≤ rgs ss := by rw [ess, rgs_append]; omega
    have g2 : yrs (s :: (rs.take i).reverse) ≤ yrs ss := by rw [ess, yrs_append]; omega
    rw [rgs_cons] at g1
    rw [yrs_cons] at g2
    unfold ir_law_judged_b6
    walk_at "g"
    refine newL_mk fun p h2 hp yp s2 => ?_
    have S2 := s1.trans s2
    have hx2 := S2 _ _ hx
    have hy2 := S2 _ _ hy
    walk_at "g"
    refine in_l yp rfl rfl ?_
    rw [isSt_any]
    walk_at "g"
    refine iteB (fun q => ?_) (fun q => ?_)
    · walk_at "g"
      refine none_of _ S2 fun z => ?_
      have := z.1
      rw [ess, List.all_append, List.all_cons] at this
      simp at this q
      rw [q] at this
      simp at this
    have sv : isSt s = true := by simpa using q
    have fin : ∀ (a' c' : Int), a' = a - (if s = "year" then 0 else 1) → c' = c - (if s = "ring" then 0 else 1) → ∀ N : DEnds, N.rt = Q → (∀ (a c : Nat) (e : Int) h', Sm h h' → a + rgs (rs.take (i + 1)).reverse = row.length → c + yrs (rs.take (i + 1)).reverse = j → (rs.take (i + 1)).reverse.all isSt = true → e = Fe (uOf row wid) (rs.take (i + 1)).reverse a c → N.nx [some (.ref x), some (.ref y), some (.tup (ss.map D.str)), some (.int (j : Int)), some (.int (a : Int)), some (.int (c : Int)), some (.int e), some (.str s)] h') →
        xS T.cs C E ir_law_judged_r3 N [some (.ref x), some (.ref y), some (.tup (ss.map D.str)), some (.int (j : Int)), some (.int a'), some (.int c'), some (.int e), some (.str s)] h2 := fun a' c' ea ec N en kk => by
      unfold ir_law_judged_r3
      walk_at "g"
      refine iteD (fun q1 => ?_) (fun q1 => ?_)
      · walk_at "g"
        rw [en]
        refine none_of _ S2 fun z => ?_
        have q1' : a' < 0 := q1
        have := z.2.1
        by_cases qy : s = "year"
        · rw [if_pos qy] at ea; omega
        · rw [if_neg qy] at ea g1; omega
      walk_at "g"
      refine iteD (fun q2 => ?_) (fun q2 => ?_)
      · walk_at "g"
        rw [en]
        refine none_of _ S2 fun z => ?_
        have q2' : c' < 0 := q2
        have := z.2.2
        by_cases qy : s = "ring"
        · rw [if_pos qy] at ec; omega
        · rw [if_neg qy] at ec g2; omega
      have q1' : ¬ a' < 0 := q1
      have q2' : ¬ c' < 0 := q2
      obtain ⟨a2, rfl⟩ : ∃ n : Nat, a' = n := ⟨a'.toNat, by omega⟩
      obtain ⟨c2, rfl⟩ : ∃ n : Nat, c' = n := ⟨c'.toNat, by omega⟩
      have na : a = nxa s a2 := by unfold nxa; by_cases q3 : s = "year"; (rw [if_pos q3] at ea ⊢; omega); (rw [if_neg q3] at ea ⊢; omega)
      have nc : c = nxc s c2 := by unfold nxc; by_cases q3 : s = "ring"; (rw [if_pos q3] at ec ⊢; omega); (rw [if_neg q3] at ec ⊢; omega)
      have K : ∀ e', e' = e + cst (uOf row wid) s a2 c2 → N.nx [some (.ref x), some (.ref y), some (.tup (ss.map D.str)), some (.int (j : Int)), some (.int (a2 : Int)), some (.int (c2 : Int)), some (.int e'), some (.str s)] h2 := fun e' ee => by
        refine kk a2 c2 e' h2 S2 ?_ ?_ ?_ ?_
        · rw [et, rgs_cons]; by_cases q3 : s = "year"; (rw [if_pos q3] at ea ⊢; omega); (rw [if_neg q3] at ea ⊢; omega)
        · rw [et, yrs_cons]; by_cases q3 : s = "ring"; (rw [if_pos q3] at ec ⊢; omega); (rw [if_neg q3] at ec ⊢; omega)
        · rw [et, List.all_cons, sv, ta]; rfl
        · rw [et, Fe, ← na, ← nc, ← re]; omega
      unfold ir_law_judged_r2
      walk_at "g"
      refine iteN (fun q3 => ?_) (fun q3 => ?_)
      · walk_at "g"
        exact K _ (by simp only [cst, if_neg q3])
      · have s1' : ¬ s = "year" := by rw [q3]; decide
        have s2' : ¬ s = "ring" := by rw [q3]; decide
        rw [if_neg s1'] at ea
        rw [if_neg s2'] at ec
        walk_at "g"
        have ev : uOf row wid a2 c2 = ul (At row (a2 : Int)) (At wid (c2 : Int)) := rfl
        refine iteN (fun q4 => ?_) (fun q4 => ?_)
        · walk_at "g"
          exact K _ (by simp only [cst, if_pos q3]; rw [ev]; simp [ul, b2d, q4])
        · walk_at "g"
          exact K _ (by simp only [cst, if_pos q3]; rw [ev, q4]; simp [ul, b2d])
    have four : ∀ (a' : Int), a' = a - (if s = "year" then 0 else 1) → ∀ N : DEnds, N.rt = Q → (∀ (a c : Nat) (e : Int) h', Sm h h' → a + rgs (rs.take (i + 1)).reverse = row.length → c + yrs (rs.take (i + 1)).reverse = j → (rs.take (i + 1)).reverse.all isSt = true → e = Fe (uOf row wid) (rs.take (i + 1)).reverse a c → N.nx [some (.ref x), some (.ref y), some (.tup (ss.map D.str)), some (.int (j : Int)), some (.int (a : Int)), some (.int (c : Int)), some (.int e), some (.str s)] h') →
        xS T.cs C E ir_law_judged_r4 N [some (.ref x), some (.ref y), some (.tup (ss.map D.str)), some (.int (j : Int)), some (.int a'), some (.int c), some (.int e), some (.str s)] h2 := fun a' ea N en kk => by
      unfold ir_law_judged_r4
      walk_at "g"
      refine iteN (fun q3 => ?_) (fun q3 => ?_)
      · walk_at "g"
        exact fin a' _ ea (by rw [if_neg q3]) N en kk
      · walk_at "g"
        exact fin a' _ ea (by rw [if_pos q3]; omega) N en kk
    unfold ir_law_judged_r5
    walk_at "g"
    refine iteN (fun q3 => ?_) (fun q3 => ?_)
    · walk_at "g"
      exact four _ (by rw [if_neg q3]) _ rfl fun a c e h' s' h1 h2 h3 h4 => ⟨_, _, _, _, rfl, s', a, c, e, rfl, rfl, rfl, h1, h2, h3, h4⟩
    · walk_at "g"
      exact four _ (by rw [if_pos q3]; omega) _ rfl fun a c e h' s' h1 h2 h3 h4 => ⟨_, _, _, _, rfl, s', a, c, e, rfl, rfl, rfl, h1, h2, h3, h4⟩
  · rintro c4 c5 c6 c7 h1 ⟨s1, a, c, e, rfl, rfl, rfl, ra, rc, ta, re⟩
    rw [List.length_map, List.take_length, ← es] at *
    unfold ir_law_judged_r1
    walk_at "g"
    refine iteD (fun q => ?_) (fun q => ?_)
    · walk_at "g"
      refine none_of _ s1 fun z => ?_
      have : (0 : Int) < a := q
      have := z.2.1
      omega
    · have q' : ¬ (0 : Int) < a := q
      have a0 : a = 0 := by omega
      subst a0
      unfold ir_law_judged_r0
      walk_at "g"
      have := k h1 s1
      unfold aerr at this
      rw [if_pos ⟨ta, by omega, by omega⟩, show j - yrs ss = c by omega, ← re] at this
      exact this
end K17
namespace K17
def cNum : Ct := fun ds h Q _ => ∃ o : Option Int, ds = [oD o, oD o] ∧ Q (.bl true) h
theorem ok_number {C : Nat → Ct} (ds : List D) (h : DH) (Q : DK) (E : XD) (c : cNum ds h Q E) : xS T.cs C E ir_law_number { nx := fun _ h' => Q .non h', rt := Q } (dstart N_law_number.length ds) h := by
  obtain ⟨o, rfl, k⟩ := c
  unfold ir_law_number N_law_number
  cases o with
  | none =>
    unfold oD
    walk_at "g"
    exact k
  | some i =>
    unfold oD
    walk_at "g"
    unfold ir_law_number_r0
    walk_at "g"
    show Q (.bl (decide (i = i))) h
    rw [decide_eq_true rfl]
    exact k
section pl
variable {C : Nat → Ct} {E : XD} {p g : Addr}
theorem one_of {xs : List D} {R : DK} {r : Addr} {h1 : DH} (ho : C 7 = ask cOneA) (P : PoolAt h1 p g) (hr : h1 r = some (.lst xs)) (n1 : r ≠ p) (n2 : r ≠ g) (hx : xs ≠ []) (hl : xs.length ≤ 1000) (k : ∀ x h', x ∈ xs → PoolAt h' p g → FrP p g h1 h' → R x h') : C 7 [.ref p, .ref r] h1 R E :=
  ask_of ho ⟨p, g, _, xs, rfl, P, .inl ⟨r, rfl, hr, n1, n2⟩, hx, by omega, k⟩
theorem one_m {α : Type} {f : α → D} {xs : List α} {R : DK} {r : Addr} {h0 h1 : DH} (ho : C 7 = ask cOneA) (P0 : PoolAt h0 p g) (hr0 : h0 r = none) (P : PoolAt h1 p g) (hr : h1 r = some (.lst (xs.map f))) (hx : xs ≠ []) (hl : xs.length ≤ 1000) (k : ∀ x h', x ∈ xs → PoolAt h' p g → FrP p g h1 h' → R (f x) h') : C 7 [.ref p, .ref r] h1 R E :=
  one_of ho P hr (P0.nep hr0).1 (P0.nep hr0).2 (by simpa using hx) (by simpa using hl) fun x h' hx P' f => by
    obtain ⟨i, hi, rfl⟩ := List.mem_map.mp hx
    exact k i h' hi P' f
end pl
theorem pick {C : Nat → Ct} {E : XD} {R : DK} {p g : Addr} {h : DH} {n : Int} (hp : C 6 = ask cPick) (P : PoolAt h p g) (h0 : 0 < n) (hl : n ≤ 1000000) (k : ∀ i h', 0 ≤ i → i < n → PoolAt h' p g → FrP p g h h' → R (.int i) h') : C 6 [.ref p, .int n] h R E :=
  ask_of hp ⟨p, g, _, rfl, P, lgOk (by omega), fun i h' a b c d => k i h' a (by omega) c d⟩
def eT (ss : List Str) : D := .tup (ss.map D.str)
def cPath : Ct := fun ds h Q _ => ∃ (p g r : Addr) (row : List Int), ds = [.ref p, .ref r] ∧ PoolAt h p g ∧ h r = some (.lst (row.map D.int)) ∧ r ≠ p ∧ r ≠ g ∧ row.length ≤ 100 ∧ ∀ (ss : List Str) h', ss.length ≤ 200 → PoolAt h' p g → FrP p g h h' → Q (eT ss) h'
theorem ok_path {C : Nat → Ct} (hp : C 6 = ask cPick) (ho : C 7 = ask cOneA) (ds : List D) (h : DH) (Q : DK) (E : XD) (c : cPath ds h Q E) : xS T.cs C E ir_law_path { nx := fun _ h' => Q .non h', rt := Q } (dstart N_law_path.length ds) h := by
  obtain ⟨p, g, r, row, rfl, P, hr, r1, r2, lr, k⟩ := c
  unfold ir_law_path N_law_path
  walk_at "g"
  refine lc_mk (fun i acc h' => ∃ ss : List Str, acc = ss.map D.str ∧ ss.length = i ∧ PoolAt h' p g ∧ FrP p g h h') (by rw [List.length_map]; exact szle (by omega)) ⟨[], rfl, rfl, P, .refl _ _ _⟩ (fun i acc h' _ ⟨_, _, _, _, f⟩ => f _ _ r1 r2 hr) ?_ ?_
  · rintro i x acc h1 hi ⟨ss, rfl, ls, P1, f1⟩
    walk_at "g"
    refine newL_mk fun e h2 he ye s2 => ?_
    walk_at "g"
    refine one_m (xs := (["pair", "pair", "pair", "ring"] : List Str)) (f := D.str) ho P1 he (P1.sm s2) ye (by simp) (by simp) fun s h3 _ P3 f3 => ?_
    exact ⟨ss ++ [s], by simp, by simp [ls], P3, (f1.sm s2).trans f3⟩
  rintro acc h1 ⟨ss, rfl, ls, P1, f1⟩
  rw [List.length_map] at ls
  refine newL_mk fun w h2 hw yw s2 => ?_
  walk_at "g"
  refine newL_mk fun e h3 he ye s3 => ?_
  walk_at "g"
  have w0 := f1.free P1 hw
  have e0 : h e = none := (f1.sm s2).free (P1.sm s2) he
  refine one_m (xs := [0, 0, 1, 2, 3]) (f := D.int) ho P e0 ((P1.sm s2).sm s3) ye (by simp) (by simp) fun m h4 hm P4 f4 => ?_
  have f04 := ((f1.sm s2).sm s3).trans f4
  walk_at "g"
  refine rng1 m.toNat rfl (by simp at hm; omega) ?_
  have hm3 : m.toNat ≤ 3 := by simp at hm; omega
  refine for_3 2 3 4 (fun i c2 c3 c4 h' => ∃ (w : Addr) (ss : List Str), c2 = some (.ref w) ∧ h' w = some (.lst (ss.map D.str)) ∧ h w = none ∧ ss.length ≤ 100 + i ∧ PoolAt h' p g ∧ FrP p g h h') ⟨w, ss, rfl, f4 _ _ (P.nep w0).1 (P.nep w0).2 (s3 _ _ yw), w0, by omega, P4, f04⟩ (fun _ _ _ _ _ _ _ => trivial) ?_ ?_
  · rintro i d c2 c3 c4 h5 hi ⟨w, ss, rfl, yw, w0, ls, P5, f5⟩
    have hi' := (rangeD_get hi).2
    unfold ir_law_path_b1
    walk_at "g"
    refine ask_of hp ⟨p, g, _, rfl, P5, lgOk (by omega), fun v h6 v0 v1 P6 f6 => ?_⟩
    have yw6 := f6 _ _ (P.nep w0).1 (P.nep w0).2 yw
    walk_at "g"
    rw [cut_map]
    refine newL_mk fun a1 h7 ha1 ya1 s7 => ?_
    walk_at "g"
    refine newL_mk fun a2 h8 ha2 ya2 s8 => ?_
    walk_at "g"
    have l1 := cutG_len (xs := ss) (lo := none) (hi := some v)
    refine add_l (p := a1) (s8 _ _ ya1) ya2 (by simp; omega) fun a3 h9 ha3 ya3 s9 => ?_
    have yw9 := s9 _ _ (s8 _ _ (s7 _ _ yw6))
    walk_at "g"
    rw [cut_map]
    refine newL_mk fun a4 h10 ha4 ya4 s10 => ?_
    have l2 : (cutG ss none (some v)).length + (cutG ss (some v) none).length ≤ ss.length := by
      unfold cutG; simp [HT.sIx_none, sIx_at v0]; omega
    refine add_l (p := a3) (s10 _ _ ya3) ya4 (by simp; omega) fun a5 h11 ha5 ya5 s11 => ?_
    walk_at "g"
    have S := s7.trans (s8.trans (s9.trans (s10.trans s11)))
    have S' := s7.trans (s8.trans (s9.trans s10))
    refine ⟨_, _, _, rfl, a5, cutG ss none (some v) ++ [("year" : Str)] ++ cutG ss (some v) none, rfl, ya5.trans (by simp), ((f5.trans f6).sm S').free (P6.sm S') ha5, by simp; omega, P6.sm S, (f5.trans f6).sm S⟩
  · rintro c2 c3 c4 h5 ⟨w, ss, rfl, yw, w0, ls, P5, f5⟩
    rw [rangeD_len] at ls
    unfold ir_law_path_r0
    walk_at "g"
    exact k ss h5 (by omega) P5 f5
theorem cut_two {α : Type} {ss : List α} {v : Int} (v0 : 0 ≤ v) : (cutG ss none (some v)).length + (cutG ss (some v) none).length ≤ ss.length ∧ (cutG ss none (some v)).length + (cutG ss (some (v + 1)) none).length ≤ ss.length := by
  unfold cutG; simp [HT.sIx_none, sIx_at v0, sIx_at (show 0 ≤ v + 1 by omega)]; omega
def cTwist : Ct := fun ds h Q _ => ∃ (p g : Addr) (ss : List Str), ds = [.ref p, eT ss] ∧ PoolAt h p g ∧ ss.length ≤ 900 ∧ ∀ (ts : List Str) h', ts.length ≤ 1900 → PoolAt h' p g → FrP p g h h' → Q (eT ts) h'
section tw
variable {C : Nat → Ct} {E : XD} {Q : DK} {p g : Addr} {h : DH} {ss : List Str} {w v v4 : Int}
abbrev TwK (Q : DK) (h0 : DH) (p g : Addr) : Prop := ∀ (ts : List Str) h', ts.length ≤ 1900 → PoolAt h' p g → FrP p g h0 h' → Q (eT ts) h'
theorem tw_ret {h0 : DH} (xs : List D) (ts : List Str) (e : xs = ts.map D.str) (hl : ts.length ≤ 1900) (P : PoolAt h p g) (fr : FrP p g h0 h) (k : TwK Q h0 p g) : Q (.tup xs) h := by subst e; exact k ts h hl P fr
theorem add_t {xs ys : List D} {h : DH} {Q : DK} (z : xs.length + ys.length ≤ 1000000) (k : Q (.tup (xs ++ ys)) h) : binD .Add (.tup xs) (.tup ys) h Q := ⟨szle z, k⟩
theorem ok_twisted (hp : C 6 = ask cPick) (ho : C 7 = ask cOneA) (ds : List D) (h : DH) (Q : DK) (E : XD) (c : cTwist ds h Q E) : xS K17.T.cs C E ir_law_twisted { nx := fun _ h' => Q .non h', rt := Q } (dstart N_law_twisted.length ds) h := by
  obtain ⟨p, g, ss, rfl, P, ls, k⟩ := c
  unfold ir_law_twisted N_law_twisted eT
  walk_at "g"
  refine pick hp P (by decide) (by decide) fun w h1 w0 w1 P1 f1 => ?_
  walk_at "g"
  refine iteD (fun q => ?_) (fun q => ?_)
  · walk_at "g"
    exact k ["pair"] _ (by simp) P1 f1
  have sl : 0 < ss.length := by have : ¬ ((ss.length : Nat) : Int) = 0 := q; omega
  unfold ir_law_twisted_r7
  walk_at "g"
  refine pick hp P1 (by omega) (by omega) fun v h2 v0 v1 P2 f2 => ?_
  walk_at "g"
  refine pick hp P2 (by omega) (by omega) fun v4 h3 v40 v41 P3 f3 => ?_
  have fr := (f1.trans f2).trans f3
  obtain ⟨c1, c2⟩ := cut_two (ss := ss) v0
  have l1 := cutG_len (xs := ss) (lo := none) (hi := some v)
  walk_at "g"
  refine iteD (fun q => ?_) (fun q => ?_)
  · walk_at "g"
    show binD .Add (.tup (cutL _ none (some v))) (.tup (cutL _ (some (v + 1)) none)) _ _
    rw [cut_map, cut_map]
    refine add_t (by simp; omega) ?_
    exact k (cutG ss none (some v) ++ cutG ss (some (v + 1)) none) _ (by simp; omega) P3 fr |> (by simpa [eT] using ·)
  -- the slices on both sides of one step
  have put : ∀ (z : Str) (lo : Int) h', (lo = v ∨ lo = v + 1) → PoolAt h' p g → FrP p g h3 h' → binD .Add (.tup (cutL (ss.map D.str) none (some v) ++ [D.str z])) (.tup (cutL (ss.map D.str) (some lo) none)) h' Q := fun z lo h' hlo P' f' => by
    rw [cut_map, cut_map]
    have l2 := cutG_len (xs := ss) (lo := some lo) (hi := none)
    refine add_t (by simp; omega) ?_
    exact tw_ret _ (cutG ss none (some v) ++ [z] ++ cutG ss (some lo) none) (by simp) (by simp; omega) P' (fr.trans f') k
  have z1 : (cutL (ss.map D.str) none (some v)).length + 1 ≤ 1000000 := by rw [cut_map]; simp; omega
  unfold ir_law_twisted_r6
  walk_at "g"
  refine iteD (fun q => ?_) (fun q => ?_)
  · walk_at "g"
    refine newL_mk fun e h4 he ye s4 => ?_
    walk_at "g"
    refine one_m (xs := (["pair", "ring", "year"] : List Str)) (f := D.str) ho P3 he (P3.sm s4) ye (by simp) (by simp) fun z h5 _ P5 f5 => ?_
    walk_at "g"
    refine add_t z1 ?_
    walk_at "g"
    show binD Operator.Add (.tup (cutL (ss.map D.str) none (some v) ++ [D.str z])) (.tup (cutL (ss.map D.str) (some v) none)) h5 Q
    exact put z v h5 (.inl rfl) P5 (s4.frp.trans f5)
  unfold ir_law_twisted_r5
  walk_at "g"
  refine iteD (fun q => ?_) (fun q => ?_)
  · walk_at "g"
    refine newL_mk fun e h4 he ye s4 => ?_
    walk_at "g"
    refine one_m (xs := (["pair", "ring", "year"] : List Str)) (f := D.str) ho P3 he (P3.sm s4) ye (by simp) (by simp) fun z h5 _ P5 f5 => ?_
    walk_at "g"
    refine add_t z1 ?_
    walk_at "g"
    show binD Operator.Add (.tup (cutL (ss.map D.str) none (some v) ++ [D.str z])) (.tup (cutL (ss.map D.str) (some (v + 1)) none)) h5 Q
    exact put z (v + 1) h5 (.inr rfl) P5 (s4.frp.trans f5)
  unfold ir_law_twisted_r4
  walk_at "g"
  refine iteD (fun q => ?_) (fun q => ?_)
  · walk_at "g"
    refine newL_mk fun e h4 he ye s4 => ?_
    walk_at "g"
    refine one_m (xs := (["", "Pair", "rings", "year ", "no"] : List Str)) (f := D.str) ho P3 he (P3.sm s4) ye (by simp) (by simp) fun z h5 _ P5 f5 => ?_
    walk_at "g"
    refine add_t z1 ?_
    walk_at "g"
    show binD Operator.Add (.tup (cutL (ss.map D.str) none (some v) ++ [D.str z])) (.tup (cutL (ss.map D.str) (some (v + 1)) none)) h5 Q
    exact put z (v + 1) h5 (.inr rfl) P5 (s4.frp.trans f5)
  unfold ir_law_twisted_r3
  walk_at "g"
  refine iteD (fun q => ?_) (fun q => ?_)
  · walk_at "g"
    exact k ss.reverse _ (by simp; omega) P3 fr
  unfold ir_law_twisted_r2
  walk_at "g"
  refine iteD (fun q => ?_) (fun q => ?_)
  · walk_at "g"
    refine add_t z1 ?_
    walk_at "g"
    show binD Operator.Add (.tup (cutL (ss.map D.str) none (some v) ++ [D.str (At ss v4)])) (.tup (cutL (ss.map D.str) (some (v + 1)) none)) h3 Q
    exact put _ (v + 1) h3 (.inr rfl) P3 (.refl _ _ _)
  unfold ir_law_twisted_r1
  walk_at "g"
  refine iteD (fun q => ?_) (fun q => ?_)
  · walk_at "g"
    refine add_t (by simp; omega) ?_
    exact tw_ret _ (ss ++ ss) (by simp) (by simp; omega) P3 fr k
  unfold ir_law_twisted_r0
  walk_at "g"
  refine ⟨⟨by simp, v0, by omega, by simp⟩, ?_⟩
  walk_at "g"
  refine add_t (by simp; omega) ?_
  exact tw_ret _ (List.replicate v.toNat ("year" : Str) ++ ss) (by simp) (by simp; omega) P3 fr k
end tw
end K17
namespace K17
def cFound : Ct := fun ds h Q _ => ∃ (x y x2 y2 : Addr) (row wid : List Int) (b : Int) (j : Nat), ds = [.ref x, .ref y, .ref x2, .ref y2, .int b, .int (j : Int)] ∧ h x = some (.lst (row.map D.int)) ∧ h y = some (.lst (wid.map D.int)) ∧ h x2 = some (.lst (row.map D.int)) ∧ h y2 = some (.lst (wid.map D.int)) ∧ row.length ≤ 100 ∧ 1 ≤ wid.length ∧ wid.length ≤ 100 ∧ j ≤ wid.length ∧
  (∀ most : Int, most ≤ 3 → (b ≤ most ↔ Med (uOf row wid) row.length j ≤ most)) ∧ b ≤ 4 ∧ ∀ (l t : Addr) (tt : List (List Str)) h', h' l = some (.lst [.ref t]) → h' t = some (.lst (tt.map eT)) → tt.length ≤ 3 → (∀ a ∈ tt, a.length ≤ 200) → Sm h h' → Q (.ref l) h'
theorem ok_found {C : Nat → Ct} (ha : C 3 = ask cAlign) (he : C 4 = ask cAerr) (hj : C 11 = ask cJudged) (hnu : C 12 = ask cNum) (ds : List D) (h : DH) (Q : DK) (E : XD) (c : cFound ds h Q E) : xS T.cs C E ir_law_found { nx := fun _ h' => Q .non h', rt := Q } (dstart N_law_found.length ds) h := by
  obtain ⟨x, y, x2, y2, row, wid, b, j, rfl, hx, hy, hx2, hy2, lr, lw1, lw, jw, hb, hb4, k⟩ := c
  unfold ir_law_found N_law_found
  walk_at "g"
  refine newL_mk fun t h0 ht yt s0 => ?_
  walk_at "g"
  refine newL_mk fun e1 h1 he1 y1 s1 => ?_
  walk_at "g"
  refine ⟨[3, max 0 (b - 1), min 3 b], y1, by simp, fun q S n hq hS hn => ?_⟩
  walk_at "g"
  show sortR q _ _
  unfold sortR
  refine .inl ⟨S, n, updD_same, by simp at hn; omega, fun ns hsort hns => newL_mk fun e2 h2 he2 y2' s2 => ?_⟩
  have S02 : Sm h0 h2 := (s1.trans (.new hq)).trans s2
  have yt2 := S02 _ _ yt
  have S2 : Sm h h2 := s0.trans S02
  have hm3 : ∀ m ∈ ns, m ≤ 3 := fun m hm => by
    have := (hS m).1 ((hns m).1 hm)
    simp only [List.mem_cons, List.not_mem_nil, or_false] at this
    omega
  have nl : ns.length ≤ 3 := nodup_sub ns [3, max 0 (b - 1), min 3 b] (hsort.imp fun h e => by omega) fun x hx => (hS x).1 ((hns x).1 hx)
  have net : e2 ≠ t := fun e => by
    subst e
    rw [Sm.trans (s1.trans (.new hq)) (.refl _) |>.free he2 |> fun z => z] at yt
    cases yt
  have sm_of : ∀ h', FrP t t h2 h' → Sm h h' := fun h' f b o e => f b o (ne_new ht e) (ne_new ht e) (S2 _ _ e)
  walk_at "g"
  refine for_4 6 7 8 9 (fun i c6 c7 c8 c9 h' => c6 = some (.ref t) ∧ ∃ tt : List (List Str), h' t = some (.lst (tt.map eT)) ∧ tt.length ≤ i ∧ (∀ a ∈ tt, a.length ≤ 200) ∧ FrP t t h2 h') ⟨rfl, [], yt2, by simp, by simp, .refl _ _ _⟩ (fun _ _ _ _ _ h' _ ⟨_, _, _, _, _, f⟩ => f _ _ net net y2') ?_ ?_
  · rintro i z c6 c7 c8 c9 h3 hi' ⟨rfl, tt, ytt, lt, la, f3⟩
    obtain ⟨m, hm, rfl⟩ := get_map hi'
    have m3 := hm3 m (List.mem_of_getElem? hm)
    have il := get_lt hm
    have S3 := sm_of _ f3
    have hx3 := S3 _ _ hx
    have hy3 := S3 _ _ hy
    unfold ir_law_found_b5
    walk_at "g"
    refine ⟨⟨rfl, rfl⟩, ?_⟩
    have nd : ∀ (R : DK) (h4 : DH), Sm h h4 → (m < Med (uOf row wid) row.length j → ∀ h', Sm h4 h' → R .non h') → (Med (uOf row wid) row.length j ≤ m → ∀ (ss : List Str) h', aerr row wid ss j = some (Med (uOf row wid) row.length j) → ss.length ≤ 200 → Sm h4 h' → R (eT ss) h') → cAlign [.ref x2, .ref y2, .int m, .int (j : Int)] h4 R E := fun R h4 s4 r1 r2 =>
      ⟨_, _, row, wid, m, j, rfl, s4 _ _ hx2, s4 _ _ hy2, by omega, lw1, by omega, jw, r1, fun l ss h' a1 a2 a3 => r2 l ss h' a1 (by omega) a3⟩
    have fin : ∀ (d : D) (h5 : DH), Sm h3 h5 → (m < Med (uOf row wid) row.length j → d = .non) → (Med (uOf row wid) row.length j ≤ m → ∃ ss, d = eT ss ∧ aerr row wid ss j = some (Med (uOf row wid) row.length j) ∧ ss.length ≤ 200) → ∀ (N : DEnds) (c9 : Option D), (∀ c9 (tt : List (List Str)) h', h' t = some (.lst (tt.map eT)) → tt.length ≤ i + 1 → (∀ a ∈ tt, a.length ≤ 200) → FrP t t h2 h' → N.nx [some (.ref x), some (.ref y), some (.ref x2), some (.ref y2), some (.int b), some (.int j), some (.ref t), some (.int m), some d, c9] h') →
      xS T.cs C E ir_law_found_r4 N [some (.ref x), some (.ref y), some (.ref x2), some (.ref y2), some (.int b), some (.int j), some (.ref t), some (.int m), some d, c9] h5 := fun d h5 s5 d1 d2 N c9 kk => by
      have f5 : FrP t t h2 h5 := f3.sm s5
      have S5 := sm_of _ f5
      have ytt5 := s5 _ _ ytt
      unfold ir_law_found_r4
      walk_at "g"
      refine iteD (fun q => ?_) (fun q => ?_)
      · have lt' : m < Med (uOf row wid) row.length j := by
          by_cases z : Med (uOf row wid) row.length j ≤ m
          · have q' : m < b := q
            have := (hb m m3).2 z
            omega
          · omega
        obtain rfl := d1 lt'
        walk_at "g"
        show if (!DL.isNon D.non) = true then _ else _
        walk_at "g"
        exact kk _ tt _ ytt5 (by omega) la f5
      · have le' := (hb m m3).1 (show b ≤ m by have : ¬ m < b := q; omega)
        obtain ⟨ss, rfl, ea, lss⟩ := d2 le'
        unfold eT
        walk_at "g"
        unfold ir_law_found_r3
        walk_at "g"
        refine ask_of hj ⟨x, y, row, wid, ss, j, rfl, S5 _ _ hx, S5 _ _ hy, jw, by omega, fun h6 s6 => ?_⟩
        rw [ea]
        unfold oD
        walk_at "g"
        refine iteD (fun q2 => absurd (show m < Med (uOf row wid) row.length j from q2) (by omega)) (fun q2 => ?_)
        unfold ir_law_found_r2
        walk_at "g"
        refine ask_of he ⟨x2, y2, row, wid, ss, j, rfl, s6 _ _ (S5 _ _ hx2), s6 _ _ (S5 _ _ hy2), jw, by omega, fun h7 s7 => ?_⟩
        rw [ea]
        walk_at "g"
        refine ask_of hnu ⟨some _, rfl, ?_⟩
        walk_at "g"
        have ytt7 := s7 _ _ (s6 _ _ ytt5)
        unfold ir_law_found_r1
        walk_at "g"
        refine kk _ (tt ++ [ss]) _ (at_ls (by simp [eT])) (by simp; omega) (fun a ha' => ?_) (((f5.sm s6).sm s7).trans .at1)
        rcases List.mem_append.1 ha' with ha' | ha'
        · exact la a ha'
        · simp at ha'; subst ha'; exact lss
    refine ask_of ha (nd _ h3 S3 (fun lt' h4 s4 => ?_) (fun le' ss h4 ea lss s4 => ?_))
    · walk_at "g"
      refine iteD (fun q => ?_) (fun q => ?_)
      · walk_at "g"
        refine ask_of ha (nd _ h4 (S3.trans s4) (fun lt2 h5 s5 => ?_) (fun le2 ss h5 ea lss s5 => absurd le2 (by omega)))
        walk_at "g"
        exact fin _ _ (s4.trans s5) (fun _ => rfl) (fun z => absurd z (by omega)) _ _ fun c9 tt h' a1 a2 a3 a4 => ⟨_, _, _, _, rfl, rfl, tt, a1, a2, a3, a4⟩
      · walk_at "g"
        exact fin _ _ s4 (fun _ => rfl) (fun z => absurd z (by omega)) _ _ fun c9 tt h' a1 a2 a3 a4 => ⟨_, _, _, _, rfl, rfl, tt, a1, a2, a3, a4⟩
    · walk_at "g"
      refine iteD (fun q => ?_) (fun q => ?_)
      · walk_at "g"
        refine ask_of ha (nd _ h4 (S3.trans s4) (fun lt2 h5 s5 => absurd lt2 (by omega)) (fun le2 ss2 h5 ea2 lss2 s5 => ?_))
        walk_at "g"
        exact fin _ _ (s4.trans s5) (fun z => absurd z (by omega)) (fun _ => ⟨ss2, rfl, ea2, lss2⟩) _ _ fun c9 tt h' a1 a2 a3 a4 => ⟨_, _, _, _, rfl, rfl, tt, a1, a2, a3, a4⟩
      · walk_at "g"
        exact fin _ _ s4 (fun z => absurd z (by omega)) (fun _ => ⟨ss, rfl, ea, lss⟩) _ _ fun c9 tt h' a1 a2 a3 a4 => ⟨_, _, _, _, rfl, rfl, tt, a1, a2, a3, a4⟩
  · rintro c6 c7 c8 c9 h3 ⟨rfl, tt, ytt, lt, la, f3⟩
    rw [List.length_map] at lt
    unfold ir_law_found_r0
    walk_at "g"
    refine newL_mk fun l h4 hl yl s4 => ?_
    exact k l t tt h4 yl (s4 _ _ ytt) (by omega) la ((sm_of _ f3).trans s4)
end K17
namespace K17
def C : Nat → Ct := fun i => match i with
  | 0 => ask cUnlike
  | 1 => ask cTable
  | 2 => ask cLast
  | 3 => ask cAlign
  | 4 => ask cAerr
  | 5 => ask cPool
  | 6 => ask cPick
  | 7 => ask cOneA
  | 8 => ask cBelt
  | 9 => ask cRing
  | 10 => ask cLayers
  | 11 => ask cJudged
  | 12 => ask cNum
  | 13 => ask cPath
  | 14 => ask cTwist
  | 15 => ask cFound
  | 16 => ask cLaw
  | _ => ask fun _ _ _ _ => False
def eRow (x : List Str × Nat) : D := .tup [eT x.1, .int (x.2 : Int)]
theorem ok_law (ds : List D) (h : DH) (Q : DK) (E : XD) (c : cLaw ds h Q E) : xS T.cs C E ir_law { nx := fun _ h' => Q .non h', rt := Q } (dstart N_law.length ds) h := by
  obtain ⟨ns, rfl, ln, _, k⟩ := c
  unfold ir_law N_law
  walk_at "g"
  refine ask_of (c := cPool) rfl ⟨ns, 17, rfl, ln, fun p g h1 hp hg P1 s1 => ?_⟩
  walk_at "g"
  refine ask_of (c := cBelt) rfl ⟨p, g, rfl, P1, fun b wid h2 hb eb lw0 lw P2 f2 => ?_⟩
  obtain ⟨bp, bg⟩ := P1.nep hb
  walk_at "g"
  refine ask_of (c := cRing) rfl ⟨p, g, b, wid, rfl, P2, eb, bp, bg, lw0, lw, fun r row h3 hr er lr0 lr P3 f3 => ?_⟩
  obtain ⟨rp, rg⟩ := P2.nep hr
  have eb3 := f3 _ _ bp bg eb
  walk_at "g"
  refine newL_mk fun gv h4 hgv egv s4 => ?_
  have nrg : gv ≠ r := (ne_new hgv er).symm
  obtain ⟨gp, gg⟩ := P3.nep hgv
  have eb4 := s4 _ _ eb3
  have er4 := s4 _ _ er
  have P4 := P3.sm s4
  walk_at "g"
  refine newL_mk fun pt h5 hpt ept s5 => ?_
  obtain ⟨pp, pg⟩ := P4.nep hpt
  have npr : pt ≠ r := (ne_new hpt er4).symm
  have npb : pt ≠ b := (ne_new hpt eb4).symm
  have npg : pt ≠ gv := (ne_new hpt egv).symm
  have eb5 := s5 _ _ eb4
  have er5 := s5 _ _ er4
  have eg5 := s5 _ _ egv
  have P5 := P4.sm s5
  walk_at "g"
  refine ask_of (c := cLayers) rfl ⟨r, b, row, wid, rfl, er5, eb5, lr, lw, fun ly bs h6 hly ely good le4 s6 => ?_⟩
  obtain ⟨lp, lg⟩ := P5.nep hly
  have eb6 := s6 _ _ eb5
  have er6 := s6 _ _ er5
  have eg6 := s6 _ _ eg5
  have ep6 := s6 _ _ ept
  have P6 := P5.sm s6
  walk_at "g"
  have lbs := good.1
  have rest : ∀ (sp : Addr) (ss : List Nat) (h8 : DH) (s9 s12 : Option D), h8 sp = some (.lst (ss.map fun n : Nat => D.int (n : Int))) → sp ≠ p → sp ≠ g → PoolAt h8 p g → FrP p g h6 h8 → (∀ s ∈ ss, 1 ≤ s ∧ s ≤ wid.length) → ss.length ≤ 100 →
      xS T.cs C E ir_law_r13 { nx := fun _ h' => Q .non h', rt := Q } [some (.rl (ns.map D.int)), some (.ref p), some (.ref b), some (.ref r), some (.ref gv), some (.ref pt), some (.ref ly), some (.ref sp), none, s9, none, none, s12, none, none, none, none, none] h8 := fun sp ss h8 s9 s12 esp sp1 sp2 P8 fr8 hs lss => by
    have eb8 := fr8 _ _ bp bg eb6
    have er8 := fr8 _ _ rp rg er6
    have eg8 := fr8 _ _ gp gg eg6
    have ep8 := fr8 _ _ pp pg ep6
    have el8 := fr8 _ _ lp lg ely
    unfold ir_law_r13
    walk_at "g"
    refine rng1 3 rfl (by omega) ?_
    refine lc_mk (fun i acc h' => ∃ tt : List (List Str), acc = tt.map eT ∧ tt.length = i ∧ (∀ a ∈ tt, a.length ≤ 200) ∧ PoolAt h' p g ∧ FrP p g h8 h') (by rw [rangeD_len]; exact szle (by omega)) ⟨[], rfl, rfl, by simp, P8, .refl _ _ _⟩ (fun _ _ _ _ _ => trivial) ?_ ?_
    · rintro i x acc h9 hi ⟨tt, rfl, lt, la, P9, f9⟩
      walk_at "g"
      refine ask_of (c := cPath) rfl ⟨p, g, r, row, rfl, P9, f9 _ _ rp rg er8, rp, rg, by omega, fun t h10 ht P10 f10 => ?_⟩
      refine ⟨tt ++ [t], by simp, by simp [lt], fun a ha => ?_, P10, f9.trans f10⟩
      rcases List.mem_append.1 ha with ha | ha
      · exact la a ha
      · simp at ha; subst ha; exact ht
    rintro acc h9 ⟨tt, rfl, lt, la, P9, f9⟩
    rw [rangeD_len] at lt
    refine newL_mk fun tp h10 htp etp s10 => ?_
    have fr10 : FrP p g h6 h10 := (fr8.trans f9).sm s10
    have P10 := P9.sm s10
    have ztp : h6 tp = none := (fr8.trans f9).free P9 htp
    have f810 : FrP p g h8 h10 := f9.sm s10
    have esp10 := f810 _ _ sp1 sp2 esp
    walk_at "g"
    refine for_3 8 9 10 (fun i c8 c9 c10 h' => ∃ (tp : Addr) (tt : List (List Str)), c8 = some (.ref tp) ∧ h' tp = some (.lst (tt.map eT)) ∧ h6 tp = none ∧ 0 < tt.length ∧ tt.length ≤ 3 + i ∧ (∀ a ∈ tt, a.length ≤ 200) ∧ Sm h10 h') ⟨tp, tt, rfl, etp, ztp, by omega, by omega, la, .refl _⟩ (fun _ _ _ _ _ _ ⟨_, _, _, _, _, _, _, _, s⟩ => s _ _ esp10) ?_ ?_
    · rintro i x c8 c9 c10 h11 hi ⟨tp, tt, rfl, etp, ztp, l0, lt, la, s11⟩
      obtain ⟨st, hst, rfl⟩ := get_map hi
      obtain ⟨st1, st2⟩ := hs st (List.mem_of_getElem? hst)
      have il := get_lt hst
      have F11 : FrP p g h8 h11 := f810.sm s11
      have el11 := F11 _ _ lp lg el8
      unfold ir_law_b12
      walk_at "g"
      refine ask_of (c := cFound) rfl ⟨r, b, gv, pt, row, wid, _, st, rfl, F11 _ _ rp rg er8, F11 _ _ bp bg eb8, F11 _ _ gp gg eg8, F11 _ _ pp pg ep8, by omega, by omega, by omega, st2, good.2 st st1 st2, ?_, fun fl tl t3 h12 y1 y2 lt3 la3 s12 => ?_⟩
      · exact le4 _ (At_mem (k := (st : Int)) (by omega) (by omega))
      have etp12 := s12 _ _ etp
      walk_at "g"
      unfold ir_law_r11
      walk_at "g"
      rw [cut_map]
      refine newL_mk fun a1 h13 ha1 ya1 s13 => ?_
      have l1 := cutG_len (xs := t3) (lo := none) (hi := some (1 : Int))
      have l2 : (cutG t3 none (some (1 : Int))).length ≤ 1 := by unfold cutG; simp [HT.sIx_none, sIx_at (show (0 : Int) ≤ 1 by decide)]; omega
      refine add_l (p := tp) (s13 _ _ etp12) ya1 (by simp; omega) fun a2 h14 ha2 ya2 s14 => ?_
      walk_at "g"
      refine ⟨_, _, _, rfl, a2, tt ++ cutG t3 none (some 1), rfl, ya2.trans (by simp), ((fr10.sm s11).sm s12 |>.sm s13).free ((P10.sm s11).sm s12 |>.sm s13) ha2, by simp; omega, by simp; omega, fun a ha => ?_, ((s11.trans s12).trans s13).trans s14⟩
      rcases List.mem_append.1 ha with ha | ha
      · exact la a ha
      · exact la3 a (cutG_sub ha)
    rintro c8 c9 c10 h11 ⟨tp, tt, rfl, etp, ztp, l0, lt, la, s11⟩
    rw [List.length_map] at lt
    obtain ⟨tp1, tp2⟩ := P6.nep ztp
    have F11 : FrP p g h8 h11 := f810.sm s11
    have P11 := P10.sm s11
    unfold ir_law_r10
    walk_at "g"
    refine newL_mk fun ak h12 hak eak s12 => ?_
    obtain ⟨ak1, ak2⟩ := P11.nep hak
    walk_at "g"
    refine rng1 14 rfl (by omega) ?_
    refine for_3 12 13 14 (fun i c12 c13 c14 h' => c14 = none ∧ ∃ as : List (List Str × Nat), h' ak = some (.lst (as.map eRow)) ∧ as.length = i ∧ (∀ a ∈ as, a.1.length ≤ 1900 ∧ a.2 ≤ wid.length) ∧ PoolAt h' p g ∧ FrP p g h11 h') ⟨rfl, [], eak, rfl, by simp, P11.sm s12, s12.frp⟩ (fun _ _ _ _ _ _ _ => trivial) ?_ ?_
    · rintro i x c1 c2 c3 h13 hi ⟨rfl, as, e13, las, ha, P13, f13⟩
      obtain ⟨rfl, hil⟩ := rangeD_get hi
      have etp13 := f13 _ _ tp1 tp2 etp
      unfold ir_law_b9
      walk_at "g"
      refine one_of rfl P13 etp13 tp1 tp2 (by intro z; rw [List.map_eq_nil_iff] at z; rw [z] at l0; simp at l0) (by simp; omega) fun x h14 hx P14 f14 => ?_
      obtain ⟨t, ht, rfl⟩ := List.mem_map.1 hx
      have lt' := la t ht
      have fin : ∀ (N : DEnds) (t : List Str) (h15 : DH), t.length ≤ 1900 → PoolAt h15 p g → FrP p g h13 h15 → (∀ (as : List (List Str × Nat)) h', h' ak = some (.lst (as.map eRow)) → as.length = i + 1 → (∀ a ∈ as, a.1.length ≤ 1900 ∧ a.2 ≤ wid.length) → PoolAt h' p g → FrP p g h11 h' → N.nx [some (.rl (ns.map D.int)), some (.ref p), some (.ref b), some (.ref r), some (.ref gv), some (.ref pt), some (.ref ly), some (.ref sp), some (.ref tp), c9, c10, some (.ref ak), some (.int (0 + i)), some (eT t), none, none, none, none] h') →
          xS T.cs C E ir_law_r8 N [some (.rl (ns.map D.int)), some (.ref p), some (.ref b), some (.ref r), some (.ref gv), some (.ref pt), some (.ref ly), some (.ref sp), some (.ref tp), c9, c10, some (.ref ak), some (.int (0 + i)), some (eT t), none, none, none, none] h15 := fun N t h15 lt15 P15 f15 kk => by
        have e15 := f15 _ _ ak1 ak2 e13
        have eb15 := ((F11.trans f13).trans f15) _ _ bp bg eb8
        unfold ir_law_r8
        walk_at "g"
        refine pick rfl P15 (by omega) (by omega) fun v h16 v0 v1 P16 f16 => ?_
        have e16 := f16 _ _ ak1 ak2 e15
        walk_at "g"
        refine kk (as ++ [(t, (1 + v).toNat)]) _ (at_ls (by simp [eRow]; omega)) (by simp [las]) (fun a ha' => ?_) (P16.set ak1 ak2) (((f13.trans f15).trans f16).write hak)
        rcases List.mem_append.1 ha' with ha' | ha'
        · exact ha a ha'
        · simp at ha'; subst ha'; exact ⟨lt15, by show (1 + v).toNat ≤ _; omega⟩
      walk_at "g"
      refine pick rfl P14 (by decide) (by decide) fun v h15 v0 v1 P15 f15 => ?_
      walk_at "g"
      refine iteD (fun q => ?_) (fun q => ?_)
      · walk_at "g"
        refine ask_of (c := cTwist) rfl ⟨p, g, t, rfl, P15, by omega, fun t2 h16 lt2 P16 f16 => ?_⟩
        walk_at "g"
        show xS T.cs C E ir_law_r8 _ _ _
        refine fin _ t2 _ lt2 P16 ((f14.trans f15).trans f16) ?_
        exact fun as h' a1 a2 a3 a4 a5 => ⟨_, _, _, rfl, rfl, as, a1, a2, a3, a4, a5⟩
      · walk_at "g"
        show xS T.cs C E ir_law_r8 _ _ _
        refine fin _ t _ (by omega) P15 (f14.trans f15) ?_
        exact fun as h' a1 a2 a3 a4 a5 => ⟨_, _, _, rfl, rfl, as, a1, a2, a3, a4, a5⟩
    rintro c12 c13 c14 h13 ⟨rfl, as, e13, las, ha, P13, f13⟩
    rw [rangeD_len] at las
    unfold ir_law_r7
    walk_at "g"
    refine rng1 2 rfl (by omega) ?_
    refine for_2 12 13 (fun i c12 c13 h' => ∃ as : List (List Str × Nat), h' ak = some (.lst (as.map eRow)) ∧ as.length = 14 + i ∧ (∀ a ∈ as, a.1.length ≤ 1900 ∧ a.2 ≤ wid.length) ∧ PoolAt h' p g ∧ FrP p g h11 h') ⟨as, e13, las, ha, P13, f13⟩ (fun _ _ _ _ _ _ => trivial) ?_ ?_
    · rintro i x c1 c2 h14 hi ⟨as, e14, las, ha, P14, f14⟩
      have hil := (rangeD_get hi).2
      unfold ir_law_b6
      walk_at "g"
      refine pick rfl P14 (by decide) (by decide) fun v h15 v0 v1 P15 f15 => ?_
      walk_at "g"
      refine rng1 v.toNat rfl (by omega) ?_
      refine lc_mk (fun i acc h' => ∃ ss : List Str, acc = ss.map D.str ∧ ss.length = i ∧ PoolAt h' p g ∧ FrP p g h15 h') (by rw [rangeD_len]; exact szle (by omega)) ⟨[], rfl, rfl, P15, .refl _ _ _⟩ (fun _ _ _ _ _ => trivial) ?_ ?_
      · rintro l x acc h16 hl ⟨ss, rfl, ls, P16, f16⟩
        walk_at "g"
        refine newL_mk fun e h17 he ye s17 => ?_
        walk_at "g"
        refine one_m (xs := (["pair", "pair", "ring", "year"] : List Str)) (f := D.str) rfl P16 he (P16.sm s17) ye (by simp) (by simp) fun s h18 _ P18 f18 => ?_
        exact ⟨ss ++ [s], by simp, by simp [ls], P18, (f16.sm s17).trans f18⟩
      rintro acc h16 ⟨ss, rfl, ls, P16, f16⟩
      rw [rangeD_len] at ls
      refine newL_mk fun e h17 he ye s17 => ?_
      have P17 := P16.sm s17
      have f17 : FrP p g h14 h17 := (f15.trans f16).sm s17
      have e17 := f17 _ _ ak1 ak2 e14
      have eb17 := ((F11.trans f14).trans f17) _ _ bp bg eb8
      walk_at "g"
      refine pick rfl P17 (by omega) (by omega) fun v2 h18 v20 v21 P18 f18 => ?_
      have e18 := f18 _ _ ak1 ak2 e17
      walk_at "g"
      refine ⟨_, _, rfl, as ++ [(ss, (1 + v2).toNat)], at_ls (by simp [eRow, eT]; omega), by simp [las]; omega, fun a ha' => ?_, P18.set ak1 ak2, ((f14.trans f17).trans f18).write hak⟩
      rcases List.mem_append.1 ha' with ha' | ha'
      · exact ha a ha'
      · simp at ha'; subst ha'; exact ⟨by show ss.length ≤ _; omega, by show (1 + v2).toNat ≤ _; omega⟩
    rintro c12 c13 h14 ⟨as, e14, las, ha, P14, f14⟩
    rw [rangeD_len] at las
    have F14 := F11.trans f14
    have eb14 := F14 _ _ bp bg eb8
    have er14 := F14 _ _ rp rg er8
    have eg14 := F14 _ _ gp gg eg8
    have ep14 := F14 _ _ pp pg ep8
    have P15 := P14.set (o := .lst ((as ++ [([], wid.length)]).map eRow)) ak1 ak2
    have F15 : FrP p g h8 (updD h14 ak (.lst ((as ++ [([], wid.length)]).map eRow))) := fun b o n1 n2 e => by
      have e2 := F14 b o n1 n2 e
      rw [updD_ne]
      · exact e2
      · intro z; subst z
        have := F11 _ _ n1 n2 e
        rw [hak] at this; cases this
    have nak : ak ≠ pt := (ne_new hak (F11 _ _ pp pg ep8)).symm
    unfold ir_law_r5
    walk_at "g"
    rw [show as.map eRow ++ [D.tup [.tup [], .int (wid.length : Int)]] = (as ++ [([], wid.length)]).map eRow by simp [eRow, eT]]
    have ha2 : ∀ a ∈ as ++ [(([] : List Str), wid.length)], a.1.length ≤ 1900 ∧ a.2 ≤ wid.length := fun a ha' => by
      rcases List.mem_append.1 ha' with ha' | ha'
      · exact ha a ha'
      · simp at ha'; subst ha'; exact ⟨by simp, Nat.le_refl _⟩
    have e15 : updD h14 ak (.lst ((as ++ [([], wid.length)]).map eRow)) ak = some (.lst ((as ++ [([], wid.length)]).map eRow)) := updD_same
    generalize updD h14 ak (.lst ((as ++ [([], wid.length)]).map eRow)) = h15 at *
    generalize as ++ [([], wid.length)] = as2 at *
    have eb15 := F15 _ _ bp bg eb8
    have er15 := F15 _ _ rp rg er8
    have eg15 := F15 _ _ gp gg eg8
    have ep15 := F15 _ _ pp pg ep8
    walk_at "g"
    refine for_1 14 (fun i c1 h' => Sm h15 h') (.refl _) (fun _ _ _ _ s => s _ _ e15) ?_ ?_
    · rintro i x c h16 hi s16
      obtain ⟨⟨t, st⟩, ha', rfl⟩ := get_map hi
      obtain ⟨lt2, st2⟩ := ha2 _ (List.mem_of_getElem? ha')
      simp only at st2 lt2
      unfold ir_law_b4 eRow
      walk_at "g"
      refine ask_of (c := cAerr) rfl ⟨gv, pt, row, wid, t, st, rfl, s16 _ _ eg15, s16 _ _ ep15, st2, by omega, fun h17 s17 => ?_⟩
      walk_at "g"
      refine ask_of (c := cJudged) rfl ⟨r, b, row, wid, t, st, rfl, s17 _ _ (s16 _ _ er15), s17 _ _ (s16 _ _ eb15), st2, by omega, fun h18 s18 => ?_⟩
      walk_at "g"
      refine ask_of (c := cNum) rfl ⟨_, rfl, ?_⟩
      walk_at "g"
      exact s16.trans (s17.trans s18)
    rintro c h16 s16
    have eb16 := s16 _ _ eb15
    have er16 := s16 _ _ er15
    have eg16 := s16 _ _ eg15
    have ep16 := s16 _ _ ep15
    have ea16 := s16 _ _ e15
    have P16 := P15.sm s16
    unfold ir_law_r3
    walk_at "g"
    refine neL_ints eg16 er16 ?_
    rw [decide_eq_true rfl]
    walk_at "g"
    refine neL_ints ep16 eb16 ?_
    rw [decide_eq_true rfl]
    walk_at "g"
    unfold ir_law_r2
    walk_at "g"
    refine pick rfl P16 (by omega) (by omega) fun i h17 i0 i2 P17 f17 => ?_
    have eb17 := f17 _ _ bp bg eb16
    walk_at "g"
    refine pick rfl P17 (by omega) (by omega) fun v h18 v0 v1 P18 f18 => ?_
    have fr18 := f17.trans f18
    have ep18 := fr18 _ _ pp pg ep16
    have ea18 := fr18 _ _ ak1 ak2 ea16
    walk_at "g"
    refine set_l ep18 (ixN_at i0 (by simpa using i2)) ?_
    rw [show (wid.map D.int).set i.toNat (D.int (1 + (At wid i + v) % 9)) = (wid.set i.toNat (1 + (At wid i + v) % 9)).map D.int by rw [List.map_set]]
    generalize ew : wid.set i.toNat (1 + (At wid i + v) % 9) = new
    have lnew : new.length = wid.length := by rw [← ew]; simp
    have k15 : ∀ b o, b ≠ pt → h18 b = some o → updD h18 pt (.lst (new.map D.int)) b = some o := fun b o n e => by rw [updD_ne n]; exact e
    have eg19 := k15 _ _ npg.symm (fr18 _ _ gp gg eg16)
    have er19 := k15 _ _ npr.symm (fr18 _ _ rp rg er16)
    have ep19 : updD h18 pt (.lst (new.map D.int)) pt = some (.lst (new.map D.int)) := updD_same
    have ea19 := k15 _ _ nak ea18
    generalize updD h18 pt (.lst (new.map D.int)) = h19 at *
    walk_at "g"
    refine newL_mk fun nw h20 hnw enw s20 => ?_
    have ea20 := s20 _ _ ea19
    have eg20 := s20 _ _ eg19
    have er20 := s20 _ _ er19
    have ep20 := s20 _ _ ep19
    walk_at "g"
    refine for_2 14 16 (fun i c1 c2 h' => Sm h20 h') (.refl _) (fun _ _ _ _ _ s => s _ _ ea20) ?_ ?_
    · rintro i x c c2 h21 hi s21
      obtain ⟨⟨t, st⟩, ha', rfl⟩ := get_map hi
      obtain ⟨lt2, st2⟩ := ha2 _ (List.mem_of_getElem? ha')
      simp only at st2 lt2
      unfold ir_law_b1 eRow
      walk_at "g"
      refine ⟨⟨rfl, rfl⟩, ?_⟩
      refine ask_of (c := cAerr) rfl ⟨gv, pt, row, new, t, st, rfl, s21 _ _ eg20, s21 _ _ ep20, by omega, by omega, fun h17 s17 => ?_⟩
      walk_at "g"
      refine ask_of (c := cJudged) rfl ⟨r, nw, row, new, t, st, rfl, s17 _ _ (s21 _ _ er20), s17 _ _ (s21 _ _ enw), by omega, by omega, fun h18 s18 => ?_⟩
      walk_at "g"
      refine ask_of (c := cNum) rfl ⟨_, rfl, ?_⟩
      walk_at "g"
      exact ⟨_, _, rfl, s21.trans (s17.trans s18)⟩
    rintro c c2 h22 s22
    have eg22 := s22 _ _ eg20
    have er22 := s22 _ _ er20
    have ep22 := s22 _ _ ep20
    have en22 := s22 _ _ enw
    unfold ir_law_r0
    walk_at "g"
    refine eqC_ints eg22 er22 ?_
    rw [decide_eq_true rfl]
    walk_at "g"
    refine eqC_ints ep22 en22 ?_
    rw [decide_eq_true rfl]
    exact k _
  refine rng2 wid.length (by omega) (by omega) ?_
  refine lc_map (fun d => d) (by rw [rangeD_len]; exact szle (by omega)) trivial ?_ ?_
  · rintro i x R hi r'
    walk_at "g"
    exact r'
  rw [show (rangeD 1 wid.length).map (fun d => d) = ((List.range wid.length).map fun i => i + 1).map (fun n : Nat => D.int (n : Int)) by
    simp [rangeD]; intro a _; omega]
  refine newL_mk fun sp h7 hsp esp s7 => ?_
  obtain ⟨sp1, sp2⟩ := P6.nep hsp
  have P7 := P6.sm s7
  have eb7 := s7 _ _ eb6
  walk_at "g"
  refine iteD (fun q => ?_) (fun q => ?_)
  · walk_at "g"
    refine rng1 8 rfl (by omega) ?_
    refine lc_mk (fun i acc h' => ∃ ss : List Nat, acc = ss.map (fun n : Nat => D.int (n : Int)) ∧ ss.length = i ∧ (∀ s ∈ ss, 1 ≤ s ∧ s ≤ wid.length) ∧ PoolAt h' p g ∧ FrP p g h7 h') (by rw [rangeD_len]; exact szle (by omega)) ⟨[], rfl, rfl, by simp, P7, .refl _ _ _⟩ (fun _ _ _ _ _ => trivial) ?_ ?_
    · rintro i x acc h8 hi ⟨ss, rfl, ls, hs, P8, f8⟩
      have eb8 := f8 _ _ bp bg eb7
      walk_at "g"
      refine pick rfl P8 (by omega) (by omega) fun v h9 v0 v1 P9 f9 => ?_
      walk_at "g"
      refine ⟨ss ++ [(1 + v).toNat], by simp; omega, by simp [ls], fun s hs' => ?_, P9, f8.trans f9⟩
      rcases List.mem_append.1 hs' with hs' | hs'
      · exact hs s hs'
      · simp at hs'; omega
    rintro acc h8 ⟨ss, rfl, ls, hs, P8, f8⟩
    rw [rangeD_len] at ls
    refine newL_mk fun sp2 h9 hsp2 esp2 s9 => ?_
    obtain ⟨q1, q2⟩ := P8.nep hsp2
    walk_at "g"
    exact rest sp2 ss h9 _ _ esp2 q1 q2 (P8.sm s9) ((s7.frp.trans f8).sm s9) hs (by omega)
  · walk_at "g"
    refine rest sp _ h7 _ _ esp sp1 sp2 P7 s7.frp (fun s hs => ?_) (by simp; omega)
    obtain ⟨i, hi, rfl⟩ := List.mem_map.1 hs
    have := List.mem_range.1 hi
    omega
end K17
open PySem L2 DL
namespace K17
theorem ct_unlike : CtLen (T.ps 0).length cUnlike := fun ds h Q E c => by
  repeat (obtain ⟨a, c⟩ := c; first | (subst a; rfl) | skip)
theorem ct_least_errors : CtLen (T.ps 1).length cTable := fun ds h Q E c => by
  repeat (obtain ⟨a, c⟩ := c; first | (subst a; rfl) | skip)
theorem ct_last_step : CtLen (T.ps 2).length cLast := fun ds h Q E c => by
  repeat (obtain ⟨a, c⟩ := c; first | (subst a; rfl) | skip)
theorem ct_alignment : CtLen (T.ps 3).length cAlign := fun ds h Q E c => by
  repeat (obtain ⟨a, c⟩ := c; first | (subst a; rfl) | skip)
theorem ct_alignment_errors : CtLen (T.ps 4).length cAerr := fun ds h Q E c => by
  repeat (obtain ⟨a, c⟩ := c; first | (subst a; rfl) | skip)
theorem ct_law_pool : CtLen (T.ps 5).length cPool := fun ds h Q E c => by
  repeat (obtain ⟨a, c⟩ := c; first | (subst a; rfl) | skip)
theorem ct_law_pick : CtLen (T.ps 6).length cPick := fun ds h Q E c => by
  repeat (obtain ⟨a, c⟩ := c; first | (subst a; rfl) | skip)
theorem ct_law_one : CtLen (T.ps 7).length cOneA := fun ds h Q E c => by
  repeat (obtain ⟨a, c⟩ := c; first | (subst a; rfl) | skip)
theorem ct_law_belt : CtLen (T.ps 8).length cBelt := fun ds h Q E c => by
  repeat (obtain ⟨a, c⟩ := c; first | (subst a; rfl) | skip)
theorem ct_law_ring : CtLen (T.ps 9).length cRing := fun ds h Q E c => by
  repeat (obtain ⟨a, c⟩ := c; first | (subst a; rfl) | skip)
theorem ct_law_layers : CtLen (T.ps 10).length cLayers := fun ds h Q E c => by
  repeat (obtain ⟨a, c⟩ := c; first | (subst a; rfl) | skip)
theorem ct_law_judged : CtLen (T.ps 11).length cJudged := fun ds h Q E c => by
  repeat (obtain ⟨a, c⟩ := c; first | (subst a; rfl) | skip)
theorem ct_law_number : CtLen (T.ps 12).length cNum := fun ds h Q E c => by
  repeat (obtain ⟨a, c⟩ := c; first | (subst a; rfl) | skip)
theorem ct_law_path : CtLen (T.ps 13).length cPath := fun ds h Q E c => by
  repeat (obtain ⟨a, c⟩ := c; first | (subst a; rfl) | skip)
theorem ct_law_twisted : CtLen (T.ps 14).length cTwist := fun ds h Q E c => by
  repeat (obtain ⟨a, c⟩ := c; first | (subst a; rfl) | skip)
theorem ct_law_found : CtLen (T.ps 15).length cFound := fun ds h Q E c => by
  repeat (obtain ⟨a, c⟩ := c; first | (subst a; rfl) | skip)
theorem ct_law : CtLen (["script"] : List Str).length cLaw := fun ds h Q E c => by
  repeat (obtain ⟨a, c⟩ := c; first | (subst a; rfl) | skip)
theorem ok_law_pool (ds : List D) (h : DH) (Q : DK) (E : XD) (c : cPool ds h Q E) : xS T.cs C E ir_law_pool { nx := fun _ h' => Q .non h', rt := Q } (dstart N_law_pool.length ds) h := by
  unfold ir_law_pool ir_law_pool_b2 ir_law_pool_r0 ir_law_pool_r1
  exact pool_ok ds h Q E c
theorem ok_law_pick (ds : List D) (h : DH) (Q : DK) (E : XD) (c : cPick ds h Q E) : xS T.cs C E ir_law_pick { nx := fun _ h' => Q .non h', rt := Q } (dstart N_law_pick.length ds) h := by
  unfold ir_law_pick ir_law_pick_r2 ir_law_pick_r1 ir_law_pick_r0
  exact pick_ok ds h Q E c
end K17
namespace K17
open PySem L2 DL
theorem all_mk {l : PySem.W.OpenLaw} {w : World} {K : PySem.W.Frag} {h : Heap} {mg : Str → Option Value} {fa f0 f1 f2 f3 f4 f5 f6 f7 f8 f9 f10 f11 f12 f13 f14 f15 f16 : Addr} (X : K.In h) (G : h.Ns mainGlobals mg) (hfa : mg "law" = some (.ref fa))
    {od0 an0 od1 an1 od2 an2 od3 an3 od4 an4 od5 an5 od6 an6 od7 an7 od8 an8 od9 an9 od10 an10 od11 an11 od12 an12 od13 an13 od14 an14 od15 an15 od16 an16 : Option Addr} {sl0 sl1 sl2 sl3 sl4 sl5 sl6 sl7 sl8 sl9 sl10 sl11 sl12 sl13 sl14 sl15 sl16 : Array (Option Value)} {oc0 kV0 dc0 pm0 cd0 ct0 oc1 kV1 dc1 pm1 cd1 ct1 oc2 kV2 dc2 pm2 cd2 ct2 oc3 kV3 dc3 pm3 cd3 ct3 oc4 kV4 dc4 pm4 cd4 ct4 oc5 kV5 dc5 pm5 cd5 ct5 oc6 kV6 dc6 pm6 cd6 ct6 oc7 kV7 dc7 pm7 cd7 ct7 oc8 kV8 dc8 pm8 cd8 ct8 oc9 kV9 dc9 pm9 cd9 ct9 oc10 kV10 dc10 pm10 cd10 ct10 oc11 kV11 dc11 pm11 cd11 ct11 oc12 kV12 dc12 pm12 cd12 ct12 oc13 kV13 dc13 pm13 cd13 ct13 oc14 kV14 dc14 pm14 cd14 ct14 oc15 kV15 dc15 pm15 cd15 ct15 oc16 kV16 dc16 pm16 cd16 ct16 : Value}
    (a0 : PySem.W.nsIn K mainGlobals "unlike" = some (some (.ref f0))) (l0 : K.lookup f0 = some ⟨oc0, od0, .func (PySem.W.fnOf "unlike" "unlike" (defArgs st_unlike) (defBody st_unlike) (defScope st_unlike) .none kV0 dc0 pm0 an0 cd0 ct0), sl0⟩) (c0 : PySem.W.codeIn K cd0 "unlike" = true) (k0 : PySem.W.keepIn K (.ref f0) = true)
    (a1 : PySem.W.nsIn K mainGlobals "least_errors" = some (some (.ref f1))) (l1 : K.lookup f1 = some ⟨oc1, od1, .func (PySem.W.fnOf "least_errors" "least_errors" (defArgs st_least_errors) (defBody st_least_errors) (defScope st_least_errors) .none kV1 dc1 pm1 an1 cd1 ct1), sl1⟩) (c1 : PySem.W.codeIn K cd1 "least_errors" = true) (k1 : PySem.W.keepIn K (.ref f1) = true)
    (a2 : PySem.W.nsIn K mainGlobals "last_step" = some (some (.ref f2))) (l2 : K.lookup f2 = some ⟨oc2, od2, .func (PySem.W.fnOf "last_step" "last_step" (defArgs st_last_step) (defBody st_last_step) (defScope st_last_step) .none kV2 dc2 pm2 an2 cd2 ct2), sl2⟩) (c2 : PySem.W.codeIn K cd2 "last_step" = true) (k2 : PySem.W.keepIn K (.ref f2) = true)
    (a3 : PySem.W.nsIn K mainGlobals "alignment" = some (some (.ref f3))) (l3 : K.lookup f3 = some ⟨oc3, od3, .func (PySem.W.fnOf "alignment" "alignment" (defArgs st_alignment) (defBody st_alignment) (defScope st_alignment) .none kV3 dc3 pm3 an3 cd3 ct3), sl3⟩) (c3 : PySem.W.codeIn K cd3 "alignment" = true) (k3 : PySem.W.keepIn K (.ref f3) = true)
    (a4 : PySem.W.nsIn K mainGlobals "alignment_errors" = some (some (.ref f4))) (l4 : K.lookup f4 = some ⟨oc4, od4, .func (PySem.W.fnOf "alignment_errors" "alignment_errors" (defArgs st_alignment_errors) (defBody st_alignment_errors) (defScope st_alignment_errors) .none kV4 dc4 pm4 an4 cd4 ct4), sl4⟩) (c4 : PySem.W.codeIn K cd4 "alignment_errors" = true) (k4 : PySem.W.keepIn K (.ref f4) = true)
    (a5 : PySem.W.nsIn K mainGlobals "_law_pool" = some (some (.ref f5))) (l5 : K.lookup f5 = some ⟨oc5, od5, .func (PySem.W.fnOf "_law_pool" "_law_pool" (defArgs st_law_pool) (defBody st_law_pool) (defScope st_law_pool) .none kV5 dc5 pm5 an5 cd5 ct5), sl5⟩) (c5 : PySem.W.codeIn K cd5 "_law_pool" = true) (k5 : PySem.W.keepIn K (.ref f5) = true)
    (a6 : PySem.W.nsIn K mainGlobals "_law_pick" = some (some (.ref f6))) (l6 : K.lookup f6 = some ⟨oc6, od6, .func (PySem.W.fnOf "_law_pick" "_law_pick" (defArgs st_law_pick) (defBody st_law_pick) (defScope st_law_pick) .none kV6 dc6 pm6 an6 cd6 ct6), sl6⟩) (c6 : PySem.W.codeIn K cd6 "_law_pick" = true) (k6 : PySem.W.keepIn K (.ref f6) = true)
    (a7 : PySem.W.nsIn K mainGlobals "_law_one" = some (some (.ref f7))) (l7 : K.lookup f7 = some ⟨oc7, od7, .func (PySem.W.fnOf "_law_one" "_law_one" (defArgs st_law_one) (defBody st_law_one) (defScope st_law_one) .none kV7 dc7 pm7 an7 cd7 ct7), sl7⟩) (c7 : PySem.W.codeIn K cd7 "_law_one" = true) (k7 : PySem.W.keepIn K (.ref f7) = true)
    (a8 : PySem.W.nsIn K mainGlobals "_law_belt" = some (some (.ref f8))) (l8 : K.lookup f8 = some ⟨oc8, od8, .func (PySem.W.fnOf "_law_belt" "_law_belt" (defArgs st_law_belt) (defBody st_law_belt) (defScope st_law_belt) .none kV8 dc8 pm8 an8 cd8 ct8), sl8⟩) (c8 : PySem.W.codeIn K cd8 "_law_belt" = true) (k8 : PySem.W.keepIn K (.ref f8) = true)
    (a9 : PySem.W.nsIn K mainGlobals "_law_ring" = some (some (.ref f9))) (l9 : K.lookup f9 = some ⟨oc9, od9, .func (PySem.W.fnOf "_law_ring" "_law_ring" (defArgs st_law_ring) (defBody st_law_ring) (defScope st_law_ring) .none kV9 dc9 pm9 an9 cd9 ct9), sl9⟩) (c9 : PySem.W.codeIn K cd9 "_law_ring" = true) (k9 : PySem.W.keepIn K (.ref f9) = true)
    (a10 : PySem.W.nsIn K mainGlobals "_law_layers" = some (some (.ref f10))) (l10 : K.lookup f10 = some ⟨oc10, od10, .func (PySem.W.fnOf "_law_layers" "_law_layers" (defArgs st_law_layers) (defBody st_law_layers) (defScope st_law_layers) .none kV10 dc10 pm10 an10 cd10 ct10), sl10⟩) (c10 : PySem.W.codeIn K cd10 "_law_layers" = true) (k10 : PySem.W.keepIn K (.ref f10) = true)
    (a11 : PySem.W.nsIn K mainGlobals "_law_judged" = some (some (.ref f11))) (l11 : K.lookup f11 = some ⟨oc11, od11, .func (PySem.W.fnOf "_law_judged" "_law_judged" (defArgs st_law_judged) (defBody st_law_judged) (defScope st_law_judged) .none kV11 dc11 pm11 an11 cd11 ct11), sl11⟩) (c11 : PySem.W.codeIn K cd11 "_law_judged" = true) (k11 : PySem.W.keepIn K (.ref f11) = true)
    (a12 : PySem.W.nsIn K mainGlobals "_law_number" = some (some (.ref f12))) (l12 : K.lookup f12 = some ⟨oc12, od12, .func (PySem.W.fnOf "_law_number" "_law_number" (defArgs st_law_number) (defBody st_law_number) (defScope st_law_number) .none kV12 dc12 pm12 an12 cd12 ct12), sl12⟩) (c12 : PySem.W.codeIn K cd12 "_law_number" = true) (k12 : PySem.W.keepIn K (.ref f12) = true)
    (a13 : PySem.W.nsIn K mainGlobals "_law_path" = some (some (.ref f13))) (l13 : K.lookup f13 = some ⟨oc13, od13, .func (PySem.W.fnOf "_law_path" "_law_path" (defArgs st_law_path) (defBody st_law_path) (defScope st_law_path) .none kV13 dc13 pm13 an13 cd13 ct13), sl13⟩) (c13 : PySem.W.codeIn K cd13 "_law_path" = true) (k13 : PySem.W.keepIn K (.ref f13) = true)
    (a14 : PySem.W.nsIn K mainGlobals "_law_twisted" = some (some (.ref f14))) (l14 : K.lookup f14 = some ⟨oc14, od14, .func (PySem.W.fnOf "_law_twisted" "_law_twisted" (defArgs st_law_twisted) (defBody st_law_twisted) (defScope st_law_twisted) .none kV14 dc14 pm14 an14 cd14 ct14), sl14⟩) (c14 : PySem.W.codeIn K cd14 "_law_twisted" = true) (k14 : PySem.W.keepIn K (.ref f14) = true)
    (a15 : PySem.W.nsIn K mainGlobals "_law_found" = some (some (.ref f15))) (l15 : K.lookup f15 = some ⟨oc15, od15, .func (PySem.W.fnOf "_law_found" "_law_found" (defArgs st_law_found) (defBody st_law_found) (defScope st_law_found) .none kV15 dc15 pm15 an15 cd15 ct15), sl15⟩) (c15 : PySem.W.codeIn K cd15 "_law_found" = true) (k15 : PySem.W.keepIn K (.ref f15) = true)
    (a16 : PySem.W.nsIn K mainGlobals "law" = some (some (.ref f16))) (l16 : K.lookup f16 = some ⟨oc16, od16, .func (PySem.W.fnOf "law" "law" (defArgs st_law) (defBody st_law) (defScope st_law) .none kV16 dc16 pm16 an16 cd16 ct16), sl16⟩) (c16 : PySem.W.codeIn K cd16 "law" = true) (k16 : PySem.W.keepIn K (.ref f16) = true)
    (z0 : PySem.W.nsIn K mainGlobals "abs" = some none)
    (z1 : PySem.W.nsIn K mainGlobals "any" = some none)
    (z2 : PySem.W.nsIn K mainGlobals "bool" = some none)
    (z3 : PySem.W.nsIn K mainGlobals "enumerate" = some none)
    (z4 : PySem.W.nsIn K mainGlobals "int" = some none)
    (z5 : PySem.W.nsIn K mainGlobals "isinstance" = some none)
    (z6 : PySem.W.nsIn K mainGlobals "len" = some none)
    (z7 : PySem.W.nsIn K mainGlobals "list" = some none)
    (z8 : PySem.W.nsIn K mainGlobals "max" = some none)
    (z9 : PySem.W.nsIn K mainGlobals "min" = some none)
    (z10 : PySem.W.nsIn K mainGlobals "range" = some none)
    (z11 : PySem.W.nsIn K mainGlobals "set" = some none)
    (z12 : PySem.W.nsIn K mainGlobals "sorted" = some none)
    (z13 : PySem.W.nsIn K mainGlobals "tuple" = some none)
    {u0 : Value} (gn0 : PySem.W.nsIn K mainGlobals "STEPS" = some (some u0)) (gv0 : GlV K (T.cs 0) u0)
    : ∃ fd : FuncData, (∀ (s : Shared) (v : Value), BindsTo s fd ⟨[v], []⟩ [("script", v)]) ∧ ∀ base : Heap, K.In base → base.Ns mainGlobals mg → FnOk l.prog w K mg base CX0 17 fa fd ["script"] (liftSp ⟨K, w⟩ cLaw) := by
  have e := hfa.symm.trans (PySem.W.mg_of X G a16)
  cases e
  have D0 := def_at (st := st_unlike) X G a0 l0 c0 k0
  have D1 := def_at (st := st_least_errors) X G a1 l1 c1 k1
  have D2 := def_at (st := st_last_step) X G a2 l2 c2 k2
  have D3 := def_at (st := st_alignment) X G a3 l3 c3 k3
  have D4 := def_at (st := st_alignment_errors) X G a4 l4 c4 k4
  have D5 := def_at (st := st_law_pool) X G a5 l5 c5 k5
  have D6 := def_at (st := st_law_pick) X G a6 l6 c6 k6
  have D7 := def_at (st := st_law_one) X G a7 l7 c7 k7
  have D8 := def_at (st := st_law_belt) X G a8 l8 c8 k8
  have D9 := def_at (st := st_law_ring) X G a9 l9 c9 k9
  have D10 := def_at (st := st_law_layers) X G a10 l10 c10 k10
  have D11 := def_at (st := st_law_judged) X G a11 l11 c11 k11
  have D12 := def_at (st := st_law_number) X G a12 l12 c12 k12
  have D13 := def_at (st := st_law_path) X G a13 l13 c13 k13
  have D14 := def_at (st := st_law_twisted) X G a14 l14 c14 k14
  have D15 := def_at (st := st_law_found) X G a15 l15 c15 k15
  have D16 := def_at (st := st_law) X G a16 l16 c16 k16
  refine ⟨PySem.W.fnOf "law" "law" (defArgs st_law) (defBody st_law) (defScope st_law) .none kV16 dc16 pm16 an16 cd16 ct16, fun s v => .of_eq rfl, fun base _ _ => ?_⟩
  have gl : ∀ x j, T.gl.lookup x = some j → ∃ u v, mg x = some u ∧ RelV v u ∧ ∀ H, RD ⟨K, w⟩ H (T.cs j) v := by
    intro x j e
    by_cases q0 : x = "STEPS"
    · subst q0
      have ej : j = 0 := (Option.some.inj ((show List.lookup ("STEPS" : Str) T.gl = some 0 by decide).symm.trans e)).symm
      subst ej
      obtain ⟨v, h1, h2⟩ := gv0.ok (w := w)
      exact ⟨_, v, PySem.W.mg_of X G gn0, h1, h2⟩
    exfalso
    have no : T.gl.lookup x = none := by
      show List.lookup x [("STEPS", 0)] = none
      simp only [List.lookup, (beq_eq_false_iff_ne.mpr q0 : (x == "STEPS") = false)]
    rw [no] at e; cases e
  have t0 : TabAt (T.cut 0) C CX0 0 l.prog w K mg base := Tab0 (fr_cons (PySem.W.mg_none_of X G z0) (fr_cons (PySem.W.mg_none_of X G z1) (fr_cons (PySem.W.mg_none_of X G z2) (fr_cons (PySem.W.mg_none_of X G z3) (fr_cons (PySem.W.mg_none_of X G z4) (fr_cons (PySem.W.mg_none_of X G z5) (fr_cons (PySem.W.mg_none_of X G z6) (fr_cons (PySem.W.mg_none_of X G z7) (fr_cons (PySem.W.mg_none_of X G z8) (fr_cons (PySem.W.mg_none_of X G z9) (fr_cons (PySem.W.mg_none_of X G z10) (fr_cons (PySem.W.mg_none_of X G z11) (fr_cons (PySem.W.mg_none_of X G z12) (fr_cons (PySem.W.mg_none_of X G z13) (fr_nil))))))))))))))) gl
  have t1 := tab_step t0 rfl D0 sc_unlike ch_unlike rfl ct_unlike (ok_unlike (C := C)) (D0.fn.binds fun _ _ _ _ _ _ us hl => match us, hl with | [_, _], _ => rfl) (no_sh rfl)
  have t2 := tab_step t1 rfl D1 sc_least_errors ch_least_errors rfl ct_least_errors (ok_least_errors (C := C) rfl) (D1.fn.binds fun _ _ _ _ _ _ us hl => match us, hl with | [_, _], _ => rfl) (no_sh rfl)
  have t3 := tab_step t2 rfl D2 sc_last_step ch_last_step rfl ct_last_step (ok_last (C := C) rfl) (D2.fn.binds fun _ _ _ _ _ _ us hl => match us, hl with | [_, _, _, _, _], _ => rfl) (no_sh rfl)
  have t4 := tab_step t3 rfl D3 sc_alignment ch_alignment rfl ct_alignment (ok_align (C := C) rfl rfl) (D3.fn.binds fun _ _ _ _ _ _ us hl => match us, hl with | [_, _, _, _], _ => rfl) (sh_alignment D3.fn)
  have t5 := tab_step t4 rfl D4 sc_alignment_errors ch_alignment_errors rfl ct_alignment_errors (ok_aerr (C := C) rfl) (D4.fn.binds fun _ _ _ _ _ _ us hl => match us, hl with | [_, _, _, _], _ => rfl) (sh_alignment_errors D4.fn)
  have t6 := tab_step t5 rfl D5 sc_law_pool ch_law_pool rfl ct_law_pool ok_law_pool (D5.fn.binds fun _ _ _ _ _ _ us hl => match us, hl with | [_, _], _ => rfl) (no_sh rfl)
  have t7 := tab_step t6 rfl D6 sc_law_pick ch_law_pick rfl ct_law_pick ok_law_pick (D6.fn.binds fun _ _ _ _ _ _ us hl => match us, hl with | [_, _], _ => rfl) (no_sh rfl)
  have t8 := tab_step t7 rfl D7 sc_law_one ch_law_one rfl ct_law_one (ok_one (C := C) rfl) (D7.fn.binds fun _ _ _ _ _ _ us hl => match us, hl with | [_, _], _ => rfl) (no_sh rfl)
  have t9 := tab_step t8 rfl D8 sc_law_belt ch_law_belt rfl ct_law_belt (ok_belt (C := C) rfl rfl) (D8.fn.binds fun _ _ _ _ _ _ us hl => match us, hl with | [_], _ => rfl) (no_sh rfl)
  have t10 := tab_step t9 rfl D9 sc_law_ring ch_law_ring rfl ct_law_ring (ok_ring (C := C) rfl rfl) (D9.fn.binds fun _ _ _ _ _ _ us hl => match us, hl with | [_, _], _ => rfl) (no_sh rfl)
  have t11 := tab_step t10 rfl D10 sc_law_layers ch_law_layers rfl ct_law_layers (ok_layers (C := C)) (D10.fn.binds fun _ _ _ _ _ _ us hl => match us, hl with | [_, _], _ => rfl) (no_sh rfl)
  have t12 := tab_step t11 rfl D11 sc_law_judged ch_law_judged rfl ct_law_judged (ok_judged (C := C)) (D11.fn.binds fun _ _ _ _ _ _ us hl => match us, hl with | [_, _, _, _], _ => rfl) (no_sh rfl)
  have t13 := tab_step t12 rfl D12 sc_law_number ch_law_number rfl ct_law_number (ok_number (C := C)) (D12.fn.binds fun _ _ _ _ _ _ us hl => match us, hl with | [_, _], _ => rfl) (no_sh rfl)
  have t14 := tab_step t13 rfl D13 sc_law_path ch_law_path rfl ct_law_path (ok_path (C := C) rfl rfl) (D13.fn.binds fun _ _ _ _ _ _ us hl => match us, hl with | [_, _], _ => rfl) (no_sh rfl)
  have t15 := tab_step t14 rfl D14 sc_law_twisted ch_law_twisted rfl ct_law_twisted (ok_twisted (C := C) rfl rfl) (D14.fn.binds fun _ _ _ _ _ _ us hl => match us, hl with | [_, _], _ => rfl) (no_sh rfl)
  have t16 := tab_step t15 rfl D15 sc_law_found ch_law_found rfl ct_law_found (ok_found (C := C) rfl rfl rfl rfl) (D15.fn.binds fun _ _ _ _ _ _ us hl => match us, hl with | [_, _, _, _, _, _], _ => rfl) (no_sh rfl)
  exact fn_ok D16.fn sc_law t16 ch_law ct_law ok_law
end K17
open PySem PySem.W PyProof.Rows
set_option maxRecDepth 100000 in
set_option maxHeartbeats 0 in
theorem PySem.Challenge.cw_digstead_k17_alignments_holds : PySem.Challenge.rw_digstead_k17_alignments.Holds := by
  w_on; o_law; k_head; (case hw => w_witness2)
  k_fill
  refine DL.law_end (l := PySem.Challenge.rw_digstead_k17_alignments) (x := "script") (k := 17) rfl rfl ⟨rfl, by decide, by decide⟩ (fun w h Y => PySem.W.kIn_of Y) ?F
  case F =>
    intro w mg fa h KX G hmg
    refine' K17.all_mk KX G hmg ?a0 ?l0 ?c0 ?k0 ?a1 ?l1 ?c1 ?k1 ?a2 ?l2 ?c2 ?k2 ?a3 ?l3 ?c3 ?k3 ?a4 ?l4 ?c4 ?k4 ?a5 ?l5 ?c5 ?k5 ?a6 ?l6 ?c6 ?k6 ?a7 ?l7 ?c7 ?k7 ?a8 ?l8 ?c8 ?k8 ?a9 ?l9 ?c9 ?k9 ?a10 ?l10 ?c10 ?k10 ?a11 ?l11 ?c11 ?k11 ?a12 ?l12 ?c12 ?k12 ?a13 ?l13 ?c13 ?k13 ?a14 ?l14 ?c14 ?k14 ?a15 ?l15 ?c15 ?k15 ?a16 ?l16 ?c16 ?k16 ?z0 ?z1 ?z2 ?z3 ?z4 ?z5 ?z6 ?z7 ?z8 ?z9 ?z10 ?z11 ?z12 ?z13 ?gn0 ?gv0
    (case a0 => k_is); (case l0 => k_is); (case c0 => k_is); (case k0 => k_is)
    (case a1 => k_is); (case l1 => k_is); (case c1 => k_is); (case k1 => k_is)
    (case a2 => k_is); (case l2 => k_is); (case c2 => k_is); (case k2 => k_is)
    (case a3 => k_is); (case l3 => k_is); (case c3 => k_is); (case k3 => k_is)
    (case a4 => k_is); (case l4 => k_is); (case c4 => k_is); (case k4 => k_is)
    (case a5 => k_is); (case l5 => k_is); (case c5 => k_is); (case k5 => k_is)
    (case a6 => k_is); (case l6 => k_is); (case c6 => k_is); (case k6 => k_is)
    (case a7 => k_is); (case l7 => k_is); (case c7 => k_is); (case k7 => k_is)
    (case a8 => k_is); (case l8 => k_is); (case c8 => k_is); (case k8 => k_is)
    (case a9 => k_is); (case l9 => k_is); (case c9 => k_is); (case k9 => k_is)
    (case a10 => k_is); (case l10 => k_is); (case c10 => k_is); (case k10 => k_is)
    (case a11 => k_is); (case l11 => k_is); (case c11 => k_is); (case k11 => k_is)
    (case a12 => k_is); (case l12 => k_is); (case c12 => k_is); (case k12 => k_is)
    (case a13 => k_is); (case l13 => k_is); (case c13 => k_is); (case k13 => k_is)
    (case a14 => k_is); (case l14 => k_is); (case c14 => k_is); (case k14 => k_is)
    (case a15 => k_is); (case l15 => k_is); (case c15 => k_is); (case k15 => k_is)
    (case a16 => k_is); (case l16 => k_is); (case c16 => k_is); (case k16 => k_is)
    (case z0 => k_is); (case z1 => k_is); (case z2 => k_is); (case z3 => k_is); (case z4 => k_is); (case z5 => k_is); (case z6 => k_is); (case z7 => k_is); (case z8 => k_is); (case z9 => k_is); (case z10 => k_is); (case z11 => k_is); (case z12 => k_is); (case z13 => k_is)
    (case gn0 => k_is); (case gv0 => show DL.GlV _ (DL.D.tup [DL.D.str "pair", DL.D.str "ring", DL.D.str "year"]) _; open DL in (refine' GlV.tup ?glL ?glC ?glD ?glZ ?glP ?glR; (case glL => k_is); (case glC => rfl); (case glD => rfl); (case glZ => decide); (case glP => rfl); (case glR => (refine' GlVs.cons ?_ ?_; (exact .str _ _); ((refine' GlVs.cons ?_ ?_; (exact .str _ _); ((refine' GlVs.cons ?_ ?_; (exact .str _ _); (exact .nil)))))))))
#print axioms PySem.Challenge.cw_digstead_k17_alignments_holds
