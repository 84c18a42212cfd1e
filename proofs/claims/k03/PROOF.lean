import PyProof.Rows.All
import Wide.All
import OpenK.AllK
import Wide.FinOn
import HandS.ForMost
import HandS.Wide
import HandS.WordsExc
import HandS.OwnEq
import HandS.Defaults
import HandS.IsInst
import HandS.Lambda
import HandS.Flow
import HandS.Walk
import HandS.Zip
import HandS.TupAny
import HandS.RaiseMore
import HandS.FStr
import HandS.Property
import HandS.MakeKw
import KE.KFmtOwn
import KE.KOpsOwn
import KE.KCallOwn
import HandS.HeadEnd
import HandS.Head0
import HandS.Head1
import HandS.Head2
import HandS.HeadHook1
import HandS.HeadHook2
import KE.KAssignIn
import PyProof.InstNe
import PyProof.Conv_bool
import KE.KSuper
import KE.KSuperObj
import HandS.ClsMeth
import KE.KExcInit
import HandS.ExcInit
import HandS.ExcOwn
import HandS.ExcField
import KE.KExcIs
import PySem.Challenge.RW_tonestacks_k03_products_and_quotients
import HandS.Style
import HandS.HotCalls
import KE.KTryMore
import HandS.Deep
import KE.DataFind
import HandS.Text
import HandS.Star
import KE.GoesMore
import HandS.Dict
import HandS.TryOnly
import KE.KRevSl
set_option Elab.async false
set_option linter.all false
set_option maxRecDepth 100000
set_option maxHeartbeats 0
/-! Data without a heap (D), and how it lies in the hand layer's abstract heap. -/
namespace TS
open PySem PySem.Spec PyProof.Rows L2

/-- where the classes stand; the tables of the defs that make lambdas, with the lambdas' names -/
structure Ca where
  f : Nat → Addr
  T : List (Addr × Str)
instance : CoeFun Ca fun _ => Nat → Addr := ⟨Ca.f⟩
/-- a value with all that hangs on it; ref: an object that may change (it lies in the store), or one of the module's own -/
inductive D where
  | non | bl (b : Bool) | int (i : Int) | str (x : Str) | ty (n : String) | ref (p : Addr) | cls (c : Nat)
  | tup (l : List D) | lst (l : List D) | obj (c : Nat) (fs : List (Str × D)) | dic (kvs : List (Key × D)) | exc (c : Nat) (fs : List (Str × D))

abbrev Fg := PySem.W.Frag

mutual
def Rep (K : Fg) (ca : Ca) (F : Hp) : D → V → Prop
  | .non, v => v = .non
  | .bl b, v => v = .bl b
  | .int i, v => v = .int i
  | .str x, v => v = .str x
  | .ty n, v => v = .ty n
  | .ref p, v => v = .ref p
  | .cls c, v => v = .ref (ca c)
  | .tup l, v => ∃ a vs, v = .ref a ∧ SqT K F a vs ∧ RepL K ca F l vs
  | .lst l, v => ∃ a vs, v = .ref a ∧ SqL K F a vs ∧ RepL K ca F l vs
  | .obj c fs, v => ∃ a dx vs, v = .ref a ∧ F a = some (.ins (ca c) dx vs) ∧ RepF K ca F fs vs
  | .dic kvs, v => ∃ a vs, v = .ref a ∧ F a = some (.dK vs) ∧ RepK K ca F kvs vs
  | .exc c fs, v => ∃ a oe u od, v = .ref a ∧ F a = some (.frz oe u) ∧ L2.Zc (.ref (ca c)) od oe ∧ (∃ ws, oe.data = .fields ws) ∧ ((od = none ∧ fs = []) ∨ ∃ d vs, od = some d ∧ F d = some (.xd vs) ∧ RepF K ca F fs vs)
def RepL (K : Fg) (ca : Ca) (F : Hp) : List D → List V → Prop
  | [], vs => vs = []
  | d :: l, vs => ∃ v r, vs = v :: r ∧ Rep K ca F d v ∧ RepL K ca F l r
def RepF (K : Fg) (ca : Ca) (F : Hp) : List (Str × D) → List (Str × V) → Prop
  | [], vs => vs = []
  | (n, d) :: l, vs => ∃ v r, vs = (n, v) :: r ∧ Rep K ca F d v ∧ RepF K ca F l r
def RepK (K : Fg) (ca : Ca) (F : Hp) : List (Key × D) → List (Key × V) → Prop
  | [], vs => vs = []
  | (n, d) :: l, vs => ∃ v r, vs = (n, v) :: r ∧ Rep K ca F d v ∧ RepK K ca F l r
end

section
variable {K : Fg} {ca : Ca} {F F' : Hp}
mutual
theorem Rep.mono (e : Ext F F') : ∀ {d : D} {v : V}, Rep K ca F d v → Rep K ca F' d v
  | .non, _, h => h
  | .bl _, _, h => h
  | .int _, _, h => h
  | .str _, _, h => h
  | .ty _, _, h => h
  | .ref _, _, h => h
  | .cls _, _, h => h
  | .tup _, _, ⟨a, vs, h1, h2, h3⟩ => ⟨a, vs, h1, h2.ext e, RepL.mono e h3⟩
  | .lst _, _, ⟨a, vs, h1, h2, h3⟩ => ⟨a, vs, h1, h2.ext e, RepL.mono e h3⟩
  | .obj _ _, _, ⟨a, dx, vs, h1, h2, h3⟩ => ⟨a, dx, vs, h1, e _ _ h2, RepF.mono e h3⟩
  | .dic _, _, ⟨a, vs, h1, h2, h3⟩ => ⟨a, vs, h1, e _ _ h2, RepK.mono e h3⟩
  | .exc _ _, _, ⟨a, oe, u, od, h1, h2, h3, h4, h5⟩ => ⟨a, oe, u, od, h1, e _ _ h2, h3, h4, h5.elim .inl fun ⟨d, vs, k1, k2, k3⟩ => .inr ⟨d, vs, k1, e _ _ k2, RepF.mono e k3⟩⟩
theorem RepL.mono (e : Ext F F') : ∀ {l : List D} {vs : List V}, RepL K ca F l vs → RepL K ca F' l vs
  | [], _, h => h
  | _ :: _, _, ⟨v, r, h1, h2, h3⟩ => ⟨v, r, h1, Rep.mono e h2, RepL.mono e h3⟩
theorem RepF.mono (e : Ext F F') : ∀ {l : List (Str × D)} {vs : List (Str × V)}, RepF K ca F l vs → RepF K ca F' l vs
  | [], _, h => h
  | (_, _) :: _, _, ⟨v, r, h1, h2, h3⟩ => ⟨v, r, h1, Rep.mono e h2, RepF.mono e h3⟩
theorem RepK.mono (e : Ext F F') : ∀ {l : List (Key × D)} {vs : List (Key × V)}, RepK K ca F l vs → RepK K ca F' l vs
  | [], _, h => h
  | (_, _) :: _, _, ⟨v, r, h1, h2, h3⟩ => ⟨v, r, h1, Rep.mono e h2, RepK.mono e h3⟩
end
theorem RepL.length : ∀ {l : List D} {vs : List V}, RepL K ca F l vs → vs.length = l.length
  | [], _, h => by cases h; rfl
  | _ :: _, _, ⟨_, _, h1, _, h3⟩ => by rw [h1, List.length_cons, List.length_cons, RepL.length h3]
theorem RepL.get : ∀ {l : List D} {vs : List V} {i : Nat} {d : D}, RepL K ca F l vs → l[i]? = some d → ∃ v, vs[i]? = some v ∧ Rep K ca F d v
  | [], _, _, _, _, e => by simp at e
  | _ :: _, _, 0, _, ⟨v, r, h1, h2, _⟩, e => by
    simp at e; subst e; subst h1; exact ⟨v, rfl, h2⟩
  | _ :: _, _, i + 1, _, ⟨v, r, h1, _, h3⟩, e => by
    simp at e; subst h1
    obtain ⟨u, hu, ru⟩ := RepL.get h3 e
    exact ⟨u, by simpa using hu, ru⟩
theorem RepL.get' : ∀ {l : List D} {vs : List V} {i : Nat} {v : V}, RepL K ca F l vs → vs[i]? = some v → ∃ d, l[i]? = some d ∧ Rep K ca F d v
  | [], _, _, _, h, e => by cases h; simp at e
  | d :: _, _, 0, _, ⟨v, r, h1, h2, _⟩, e => by
    subst h1; simp at e; subst e; exact ⟨d, rfl, h2⟩
  | _ :: _, _, i + 1, _, ⟨v, r, h1, _, h3⟩, e => by
    subst h1; simp at e
    obtain ⟨u, hu, ru⟩ := RepL.get' h3 e
    exact ⟨u, by simpa using hu, ru⟩
theorem RepL.append : ∀ {l m : List D} {vs us : List V}, RepL K ca F l vs → RepL K ca F m us → RepL K ca F (l ++ m) (vs ++ us)
  | [], _, _, _, h, g => by cases h; exact g
  | _ :: _, _, _, _, ⟨v, r, h1, h2, h3⟩, g => ⟨v, r ++ _, by rw [h1]; rfl, h2, RepL.append h3 g⟩
theorem RepL.one {d : D} {v : V} (h : Rep K ca F d v) : RepL K ca F [d] [v] := ⟨v, [], rfl, h, rfl⟩
theorem RepL.set : ∀ {l : List D} {vs : List V} (i : Nat) {d : D} {v : V}, RepL K ca F l vs → Rep K ca F d v → RepL K ca F (l.set i d) (vs.set i v)
  | [], _, _, _, _, h, _ => by cases h; rfl
  | _ :: _, _, 0, _, _, ⟨v, r, h1, h2, h3⟩, g => by subst h1; exact ⟨_, r, rfl, g, h3⟩
  | _ :: _, _, i + 1, _, _, ⟨v, r, h1, h2, h3⟩, g => by subst h1; exact ⟨v, r.set i _, rfl, h2, RepL.set i h3 g⟩
theorem RepL.drop : ∀ {l : List D} {vs : List V} (i : Nat), RepL K ca F l vs → RepL K ca F (l.drop i) (vs.drop i)
  | _, _, 0, h => h
  | [], _, _ + 1, h => by cases h; rfl
  | _ :: _, _, i + 1, ⟨v, r, h1, _, h3⟩ => by subst h1; exact RepL.drop i h3
theorem RepL.take : ∀ {l : List D} {vs : List V} (i : Nat), RepL K ca F l vs → RepL K ca F (l.take i) (vs.take i)
  | _, _, 0, _ => by rw [List.take_zero, List.take_zero]; rfl
  | [], _, _ + 1, h => by cases h; rfl
  | _ :: _, _, i + 1, ⟨v, r, h1, h2, h3⟩ => by subst h1; exact ⟨v, r.take i, rfl, h2, RepL.take i h3⟩
theorem RepL.ints (ns : List Int) : RepL K ca F (ns.map D.int) (ns.map V.int) := by
  induction ns with
  | nil => rfl
  | cons n r ih => exact ⟨_, _, rfl, rfl, ih⟩
theorem RepF.look : ∀ {l : List (Str × D)} {vs : List (Str × V)} {n : Str} {d : D}, RepF K ca F l vs → l.lookup n = some d → ∃ v, vs.lookup n = some v ∧ Rep K ca F d v
  | [], _, _, _, _, e => by simp at e
  | (m, d') :: l, _, n, d, ⟨v, r, h1, h2, h3⟩, e => by
    subst h1
    rw [List.lookup_cons] at e ⊢
    cases hb : n == m with
    | true => rw [hb] at e; cases e; exact ⟨v, rfl, h2⟩
    | false => rw [hb] at e; exact RepF.look h3 e
theorem RepF.look_none : ∀ {l : List (Str × D)} {vs : List (Str × V)} {n : Str}, RepF K ca F l vs → l.lookup n = none → vs.lookup n = none
  | [], _, _, h, _ => by cases h; rfl
  | (m, d') :: l, _, n, ⟨v, r, h1, h2, h3⟩, e => by
    subst h1
    rw [List.lookup_cons] at e ⊢
    cases hb : n == m with
    | true => rw [hb] at e; cases e
    | false => rw [hb] at e; exact RepF.look_none h3 e
theorem RepF.length : ∀ {l : List (Str × D)} {vs : List (Str × V)}, RepF K ca F l vs → vs.length = l.length
  | [], _, h => by cases h; rfl
  | (_, _) :: _, _, ⟨_, _, h1, _, h3⟩ => by rw [h1, List.length_cons, List.length_cons, RepF.length h3]
/-- storing a field -/
def putD (f : Str) (d : D) : List (Str × D) → List (Str × D)
  | [] => [(f, d)]
  | (m, e) :: l => if m = f then (m, d) :: l else (m, e) :: putD f d l
theorem RepF.put {f : Str} {d : D} {v : V} (h : Rep K ca F d v) : ∀ {l : List (Str × D)} {vs : List (Str × V)}, RepF K ca F l vs → RepF K ca F (putD f d l) (putF f v vs)
  | [], _, g => by cases g; exact ⟨v, [], rfl, h, rfl⟩
  | (m, e) :: l, _, ⟨u, r, h1, h2, h3⟩ => by
    subst h1
    show RepF K ca F (if m = f then (m, d) :: l else (m, e) :: putD f d l) (if m = f then (m, v) :: r else (m, u) :: putF f v r)
    by_cases hm : m = f
    · rw [if_pos hm, if_pos hm]; exact ⟨v, r, rfl, h, h3⟩
    · rw [if_neg hm, if_neg hm]; exact ⟨u, _, rfl, h2, RepF.put h h3⟩
end

/-! ### the store: objects that may change -/
inductive MO where
  | lst (l : List D) | ins (c : Nat) (fs : List (Str × D)) | dic (kvs : List (Key × D))
abbrev Mem := Addr → Option MO
def Mem.set (M : Mem) (p : Addr) (m : MO) : Mem := fun q => if q = p then some m else M q
def Mem.del (M : Mem) (p : Addr) : Mem := fun q => if q = p then none else M q
theorem Mem.set_same {M : Mem} {p : Addr} {m : MO} : (M.set p m) p = some m := by unfold Mem.set; rw [if_pos rfl]
theorem Mem.set_ne {M : Mem} {p q : Addr} {m : MO} (h : q ≠ p) : (M.set p m) q = M q := by unfold Mem.set; rw [if_neg h]
theorem Mem.del_ne {M : Mem} {p q : Addr} (h : q ≠ p) : (M.del p) q = M q := by unfold Mem.del; rw [if_neg h]
theorem Mem.del_same {M : Mem} {p : Addr} : (M.del p) p = none := by unfold Mem.del; rw [if_pos rfl]
theorem Mem.set_set {M : Mem} {p : Addr} {m n : MO} : (M.set p m).set p n = M.set p n := by funext q; unfold Mem.set; split <;> rfl
theorem Mem.del_set {M : Mem} {p : Addr} {m : MO} (h : M p = none) : (M.set p m).del p = M := by
  funext q
  by_cases e : q = p
  · subst e; rw [Mem.del_same, h]
  · rw [Mem.del_ne e, Mem.set_ne e]
theorem Mem.set_comm {M : Mem} {p q : Addr} {m n : MO} (h : p ≠ q) : (M.set p m).set q n = (M.set q n).set p m := by
  funext r
  by_cases e : r = q
  · subst e; rw [Mem.set_same, Mem.set_ne (Ne.symm h), Mem.set_same]
  · by_cases e' : r = p
    · subst e'; rw [Mem.set_ne e, Mem.set_same, Mem.set_same]
    · rw [Mem.set_ne e, Mem.set_ne e', Mem.set_ne e', Mem.set_ne e]
theorem Mem.del_set_ne {M : Mem} {p q : Addr} {m : MO} (h : p ≠ q) : (M.set p m).del q = (M.del q).set p m := by
  funext r
  by_cases e : r = q
  · subst e; rw [Mem.del_same, Mem.set_ne (Ne.symm h), Mem.del_same]
  · by_cases e' : r = p
    · subst e'; rw [Mem.del_ne e, Mem.set_same, Mem.set_same]
    · rw [Mem.del_ne e, Mem.set_ne e', Mem.set_ne e', Mem.del_ne e]
theorem Mem.ne_of {M : Mem} {p q : Addr} {m : MO} (h : M p = some m) (g : M q = none) : p ≠ q := by
  rintro rfl; rw [h] at g; cases g

def MRep (K : Fg) (ca : Ca) (F H : Hp) (p : Addr) : MO → Prop
  | .lst l => ∃ vs, H p = some (.lst vs) ∧ RepL K ca F l vs
  | .ins c fs => ∃ dx vs, H p = some (.ins (ca c) dx vs) ∧ RepF K ca F fs vs
  | .dic kvs => ∃ vs, H p = some (.dK vs) ∧ RepK K ca F kvs vs
/-- neither a table nor told by a property -/
def Rg : HO → Prop
  | .tbl _ => False
  | .ext _ => False
  | _ => True
/-- what stands still (F), what may change (M), what others hold (U: a comprehension's list while it is made), in the heap H -/
structure HR (K : Fg) (ca : Ca) (U F : Hp) (M : Mem) (H : Hp) : Prop where
  sub : Ext F H
  own : Ext U H
  sep : ∀ p o, F p = some o → U p = none
  mem : ∀ p m, M p = some m → F p = none ∧ U p = none ∧ MRep K ca F H p m
  tab : LamX.Tabs ca.T H
  rg : ∀ p o, F p = some o → Rg o
  ul : ∀ p o, U p = some o → ∃ l, o = .lst l
theorem tabs_upd {T : List (Addr × Str)} {H : Hp} {p : Addr} {o : HO} (t : LamX.Tabs T H) (hn : ∀ u, H p = some u → Rg u) : LamX.Tabs T (upd H p o) := fun q hq => by
  obtain ⟨ps, h1, h2, h3⟩ := t q hq
  refine ⟨ps, ?_, h2, fun pos cv hc => ?_⟩
  · rw [upd_ne (fun z => by rw [z] at h1; exact hn _ h1)]
    exact h1
  · obtain ⟨c, e1, e2⟩ := h3 pos cv hc
    refine ⟨c, e1, ?_⟩
    rw [upd_ne (fun z => by rw [z] at e2; exact hn _ e2)]
    exact e2
theorem tabs_new {T : List (Addr × Str)} {H : Hp} {p : Addr} {o : HO} (t : LamX.Tabs T H) (hp : H p = none) : LamX.Tabs T (upd H p o) := tabs_upd t fun u e => by rw [hp] at e; cases e

section
variable {K : Fg} {ca : Ca} {U F F' H H' : Hp} {M : Mem} {p : Addr} {m m' : MO} {o : HO}
theorem MRep.there (h : MRep K ca F H p m) : ∃ o, H p = some o := by
  cases m with
  | lst l => obtain ⟨vs, e, _⟩ := h; exact ⟨_, e⟩
  | ins c fs => obtain ⟨dx, vs, e, _⟩ := h; exact ⟨_, e⟩
  | dic kvs => obtain ⟨vs, e, _⟩ := h; exact ⟨_, e⟩
theorem MRep.mono (h : MRep K ca F H p m) (e : Ext F F') (eh : H' p = H p) : MRep K ca F' H' p m := by
  cases m with
  | lst l => obtain ⟨vs, e1, r⟩ := h; exact ⟨vs, eh.trans e1, r.mono e⟩
  | ins c fs => obtain ⟨dx, vs, e1, r⟩ := h; exact ⟨dx, vs, eh.trans e1, r.mono e⟩
  | dic kvs => obtain ⟨vs, e1, r⟩ := h; exact ⟨vs, eh.trans e1, r.mono e⟩
theorem MRep.mut (h : MRep K ca F H p m) : Mut (H p) := by
  cases m with
  | lst l => obtain ⟨vs, e1, r⟩ := h; rw [e1]; trivial
  | ins c fs => obtain ⟨dx, vs, e1, r⟩ := h; rw [e1]; trivial
  | dic kvs => obtain ⟨vs, e1, r⟩ := h; rw [e1]; trivial
theorem MRep.rg (h : MRep K ca F H p m) : ∀ u, H p = some u → Rg u := fun u e => by
  cases m with
  | lst l => obtain ⟨vs, e1, r⟩ := h; rw [e1] at e; cases e; trivial
  | ins c fs => obtain ⟨dx, vs, e1, r⟩ := h; rw [e1] at e; cases e; trivial
  | dic kvs => obtain ⟨vs, e1, r⟩ := h; rw [e1] at e; cases e; trivial
theorem HR.no (h : HR K ca U F M H) (hp : H p = none) : F p = none ∧ U p = none ∧ M p = none := by
  refine ⟨?_, ?_, ?_⟩
  · cases q : F p with
    | none => rfl
    | some o => rw [h.sub _ _ q] at hp; cases hp
  · cases q : U p with
    | none => rfl
    | some o => rw [h.own _ _ q] at hp; cases hp
  · cases q : M p with
    | none => rfl
    | some m => obtain ⟨o, e⟩ := (h.mem _ _ q).2.2.there; rw [e] at hp; cases hp
/-- a new object that stands still -/
theorem rg_upd {F : Hp} {p : Addr} {o : HO} (h : ∀ q u, F q = some u → Rg u) (ho : Rg o) : ∀ q u, upd F p o q = some u → Rg u := fun q u e => by
  by_cases hq : q = p
  · subst hq; rw [upd_same] at e; cases e; exact ho
  · rw [upd_ne hq] at e; exact h q u e
theorem ul_upd {U : Hp} {p : Addr} {l : List V} (h : ∀ q u, U q = some u → ∃ l, u = .lst l) : ∀ q u, upd U p (.lst l) q = some u → ∃ l, u = .lst l := fun q u e => by
  by_cases hq : q = p
  · subst hq; rw [upd_same] at e; cases e; exact ⟨l, rfl⟩
  · rw [upd_ne hq] at e; exact h q u e
theorem HR.newF (h : HR K ca U F M H) (hp : H p = none) (o : HO) (ho : Rg o := by trivial) : HR K ca U (upd F p o) M (upd H p o) ∧ Ext F (upd F p o) := by
  obtain ⟨n1, n2, n3⟩ := h.no hp
  have e : Ext F (upd F p o) := Ext.upd n1
  refine ⟨⟨fun a u q => ?_, fun a u q => ?_, fun a u q => ?_, fun a n q => ?_, tabs_new h.tab hp, rg_upd h.rg ho, h.ul⟩, e⟩
  · by_cases ha : a = p
    · subst ha; rw [upd_same] at q ⊢; exact q
    · rw [upd_ne ha] at q ⊢; exact h.sub _ _ q
  · have ha : a ≠ p := by rintro rfl; rw [n2] at q; cases q
    rw [upd_ne ha]; exact h.own _ _ q
  · by_cases ha : a = p
    · subst ha; exact n2
    · rw [upd_ne ha] at q; exact h.sep _ _ q
  · have ha : a ≠ p := by rintro rfl; rw [n3] at q; cases q
    exact ⟨by rw [upd_ne ha]; exact (h.mem _ _ q).1, (h.mem _ _ q).2.1, (h.mem _ _ q).2.2.mono e (upd_ne ha)⟩
/-- a new object in the store -/
theorem HR.newM (h : HR K ca U F M H) (hp : H p = none) (o : HO) (r : MRep K ca F (upd H p o) p m) : HR K ca U F (M.set p m) (upd H p o) := by
  obtain ⟨n1, n2, n3⟩ := h.no hp
  refine ⟨fun a u q => ?_, fun a u q => ?_, h.sep, fun a n q => ?_, tabs_new h.tab hp, h.rg, h.ul⟩
  · have ha : a ≠ p := by rintro rfl; rw [n1] at q; cases q
    rw [upd_ne ha]; exact h.sub _ _ q
  · have ha : a ≠ p := by rintro rfl; rw [n2] at q; cases q
    rw [upd_ne ha]; exact h.own _ _ q
  · by_cases ha : a = p
    · subst ha; rw [Mem.set_same] at q; cases q; exact ⟨n1, n2, r⟩
    · rw [Mem.set_ne ha] at q
      exact ⟨(h.mem _ _ q).1, (h.mem _ _ q).2.1, (h.mem _ _ q).2.2.mono (fun _ _ z => z) (upd_ne ha)⟩
/-- an object of the store is written -/
theorem HR.write (h : HR K ca U F M H) (hm : M p = some m) (o : HO) (r : MRep K ca F (upd H p o) p m') : HR K ca U F (M.set p m') (upd H p o) := by
  obtain ⟨n1, n2, _⟩ := h.mem _ _ hm
  refine ⟨fun a u q => ?_, fun a u q => ?_, h.sep, fun a n q => ?_, tabs_upd h.tab (h.mem _ _ hm).2.2.rg, h.rg, h.ul⟩
  · have ha : a ≠ p := by rintro rfl; rw [n1] at q; cases q
    rw [upd_ne ha]; exact h.sub _ _ q
  · have ha : a ≠ p := by rintro rfl; rw [n2] at q; cases q
    rw [upd_ne ha]; exact h.own _ _ q
  · by_cases ha : a = p
    · subst ha; rw [Mem.set_same] at q; cases q; exact ⟨n1, n2, r⟩
    · rw [Mem.set_ne ha] at q
      exact ⟨(h.mem _ _ q).1, (h.mem _ _ q).2.1, (h.mem _ _ q).2.2.mono (fun _ _ z => z) (upd_ne ha)⟩
/-- the heap grows by what is not told of -/
theorem HR.grow (h : HR K ca U F M H) (e : Ext H H') : HR K ca U F M H' := by
  refine ⟨fun a u q => e _ _ (h.sub _ _ q), fun a u q => e _ _ (h.own _ _ q), h.sep, fun a n q => ⟨(h.mem _ _ q).1, (h.mem _ _ q).2.1, ?_⟩, h.tab.ext e, h.rg, h.ul⟩
  obtain ⟨o, eo⟩ := (h.mem _ _ q).2.2.there
  exact (h.mem _ _ q).2.2.mono (fun _ _ z => z) (by rw [eo, e _ _ eo])
/-- an object of the store is forgotten -/
theorem HR.drop (h : HR K ca U F M H) (p : Addr) : HR K ca U F (M.del p) H := by
  refine ⟨h.sub, h.own, h.sep, fun a n q => ?_, h.tab, h.rg, h.ul⟩
  by_cases ha : a = p
  · subst ha; rw [Mem.del_same] at q; cases q
  · rw [Mem.del_ne ha] at q; exact h.mem _ _ q
/-- what an object of the store is from the moment that it stands still -/
def MO.still : MO → D
  | .lst l => .lst l
  | .ins c fs => .obj c fs
  | .dic kvs => .dic kvs
/-- an object of the store stands still from now on -/
theorem HR.freeze (h : HR K ca U F M H) (hm : M p = some m) : ∃ F', Ext F F' ∧ HR K ca U F' (M.del p) H ∧ Rep K ca F' m.still (.ref p) := by
  obtain ⟨hf, hu, hr⟩ := h.mem _ _ hm
  obtain ⟨o, eo⟩ := hr.there
  have e : Ext F (upd F p o) := Ext.upd hf
  refine ⟨upd F p o, e, ⟨fun a u q => ?_, h.own, fun a u q => ?_, fun a n q => ?_, h.tab, rg_upd h.rg (hr.rg _ eo), h.ul⟩, ?_⟩
  · by_cases ha : a = p
    · subst ha; rw [upd_same] at q; cases q; exact eo
    · rw [upd_ne ha] at q; exact h.sub _ _ q
  · by_cases ha : a = p
    · subst ha; exact hu
    · rw [upd_ne ha] at q; exact h.sep _ _ q
  · have ha : a ≠ p := by rintro rfl; rw [Mem.del_same] at q; cases q
    rw [Mem.del_ne ha] at q
    exact ⟨by rw [upd_ne ha]; exact (h.mem _ _ q).1, (h.mem _ _ q).2.1, (h.mem _ _ q).2.2.mono e rfl⟩
  · cases m with
    | lst l => obtain ⟨vs, e1, r⟩ := hr; rw [eo] at e1; cases e1; exact ⟨p, vs, rfl, .inl (.inl upd_same), r.mono e⟩
    | ins c fs => obtain ⟨dx, vs, e1, r⟩ := hr; rw [eo] at e1; cases e1; exact ⟨p, dx, vs, rfl, upd_same, r.mono e⟩
    | dic kvs => obtain ⟨vs, e1, r⟩ := hr; rw [eo] at e1; cases e1; exact ⟨p, vs, rfl, upd_same, r.mono e⟩
/-- a new object that is held aside; it is written; it is let in -/
theorem HR.aside (h : HR K ca U F M H) (hp : H p = none) (l : List V) : HR K ca (upd U p (.lst l)) F M (upd H p (.lst l)) := by
  obtain ⟨n1, n2, n3⟩ := h.no hp
  refine ⟨fun a u q => ?_, fun a u q => ?_, fun a u q => ?_, fun a n q => ?_, tabs_new h.tab hp, h.rg, ul_upd h.ul⟩
  · have ha : a ≠ p := by rintro rfl; rw [n1] at q; cases q
    rw [upd_ne ha]; exact h.sub _ _ q
  · by_cases ha : a = p
    · subst ha; rw [upd_same] at q ⊢; exact q
    · rw [upd_ne ha] at q ⊢; exact h.own _ _ q
  · have ha : a ≠ p := by rintro rfl; rw [n1] at q; cases q
    rw [upd_ne ha]; exact h.sep _ _ q
  · have ha : a ≠ p := by rintro rfl; rw [n3] at q; cases q
    exact ⟨(h.mem _ _ q).1, by rw [upd_ne ha]; exact (h.mem _ _ q).2.1, (h.mem _ _ q).2.2.mono (fun _ _ z => z) (upd_ne ha)⟩
theorem HR.asideW {l l' : List V} (h : HR K ca (upd U p (.lst l)) F M H) : HR K ca (upd U p (.lst l')) F M (upd H p (.lst l')) := by
  have hul : ∀ q u, U q = some u → q ≠ p → ∃ l, u = .lst l := fun q u e hq => h.ul q u (by rw [upd_ne hq]; exact e)
  refine ⟨fun a u q => ?_, fun a u q => ?_, fun a u q => ?_, fun a n q => ?_, tabs_upd h.tab fun u e => by rw [h.own p _ upd_same] at e; cases e; trivial, h.rg, fun a u q => ?_⟩
  · have ha : a ≠ p := by rintro rfl; have z := h.sep _ _ q; rw [upd_same] at z; cases z
    rw [upd_ne ha]; exact h.sub _ _ q
  · by_cases ha : a = p
    · subst ha; rw [upd_same] at q ⊢; exact q
    · rw [upd_ne ha] at q ⊢; exact h.own a u (by rw [upd_ne ha]; exact q)
  · have ha : a ≠ p := by rintro rfl; have z := h.sep _ _ q; rw [upd_same] at z; cases z
    rw [upd_ne ha]; have z := h.sep _ _ q; rw [upd_ne ha] at z; exact z
  · have ha : a ≠ p := by rintro rfl; have z := (h.mem _ _ q).2.1; rw [upd_same] at z; cases z
    have z := (h.mem _ _ q).2.1
    rw [upd_ne ha] at z
    exact ⟨(h.mem _ _ q).1, by rw [upd_ne ha]; exact z, (h.mem _ _ q).2.2.mono (fun _ _ z => z) (upd_ne ha)⟩
  · by_cases ha : a = p
    · subst ha; rw [upd_same] at q; cases q; exact ⟨_, rfl⟩
    · rw [upd_ne ha] at q; exact hul a u q ha
theorem ul_of (h : HR K ca (upd U p o) F M H) (hu : U p = none) : ∀ q u, U q = some u → ∃ l, u = .lst l := fun q u e => h.ul q u (by rw [upd_ne (fun z => by rw [z, hu] at e; cases e)]; exact e)
theorem HR.asideF (h : HR K ca (upd U p o) F M H) (hu : U p = none) : HR K ca U (upd F p o) M H ∧ Ext F (upd F p o) := by
  have hf : F p = none := by
    cases q : F p with
    | none => rfl
    | some u => have z := h.sep _ _ q; rw [upd_same] at z; cases z
  have hm : M p = none := by
    cases q : M p with
    | none => rfl
    | some u => have z := (h.mem _ _ q).2.1; rw [upd_same] at z; cases z
  have ho := h.own p o upd_same
  have e : Ext F (upd F p o) := Ext.upd hf
  have uu : ∀ a, a ≠ p → upd U p o a = U a := fun a ha => upd_ne ha
  refine ⟨⟨fun a u q => ?_, fun a u q => ?_, fun a u q => ?_, fun a n q => ?_, h.tab, rg_upd h.rg (by obtain ⟨l, e⟩ := h.ul p o upd_same; rw [e]; trivial), ul_of h hu⟩, e⟩
  · by_cases ha : a = p
    · subst ha; rw [upd_same] at q; cases q; exact ho
    · rw [upd_ne ha] at q; exact h.sub _ _ q
  · have ha : a ≠ p := by rintro rfl; rw [hu] at q; cases q
    exact h.own a u (by rw [upd_ne ha]; exact q)
  · by_cases ha : a = p
    · subst ha; exact hu
    · rw [upd_ne ha] at q; rw [← uu a ha]; exact h.sep _ _ q
  · have ha : a ≠ p := by rintro rfl; rw [hm] at q; cases q
    exact ⟨by rw [upd_ne ha]; exact (h.mem _ _ q).1, by rw [← uu a ha]; exact (h.mem _ _ q).2.1, (h.mem _ _ q).2.2.mono e rfl⟩
theorem HR.asideM (h : HR K ca (upd U p o) F M H) (hu : U p = none) (r : MRep K ca F H p m) : HR K ca U F (M.set p m) H := by
  have hf : F p = none := by
    cases q : F p with
    | none => rfl
    | some u => have z := h.sep _ _ q; rw [upd_same] at z; cases z
  have uu : ∀ a, a ≠ p → upd U p o a = U a := fun a ha => upd_ne ha
  refine ⟨h.sub, fun a u q => ?_, fun a u q => ?_, fun a n q => ?_, h.tab, h.rg, ul_of h hu⟩
  · have ha : a ≠ p := by rintro rfl; rw [hu] at q; cases q
    exact h.own a u (by rw [upd_ne ha]; exact q)
  · have ha : a ≠ p := by rintro rfl; rw [hf] at q; cases q
    rw [← uu a ha]; exact h.sep _ _ q
  · by_cases ha : a = p
    · subst ha; rw [Mem.set_same] at q; cases q; exact ⟨hf, hu, r⟩
    · rw [Mem.set_ne ha] at q
      exact ⟨(h.mem _ _ q).1, by rw [← uu a ha]; exact (h.mem _ _ q).2.1, (h.mem _ _ q).2.2⟩
end

/-! ### the slots -/
abbrev DEnv := List (Option D)
def gt : DEnv → Nat → Option D
  | [], _ => none
  | o :: _, 0 => o
  | _ :: r, i + 1 => gt r i
def stt : DEnv → Nat → D → DEnv
  | [], _, _ => []
  | _ :: r, 0, d => some d :: r
  | o :: r, i + 1, d => o :: stt r i d
theorem length_stt : ∀ (δ : DEnv) (i : Nat) (d : D), (stt δ i d).length = δ.length
  | [], _, _ => rfl
  | _ :: _, 0, _ => rfl
  | _ :: r, i + 1, d => congrArg Nat.succ (length_stt r i d)
theorem gt_stt_ne : ∀ {δ : DEnv} {i j : Nat} {d : D}, i ≠ j → gt (stt δ i d) j = gt δ j
  | [], _, _, _, _ => rfl
  | _ :: _, 0, 0, _, h => absurd rfl h
  | _ :: _, 0, _ + 1, _, _ => rfl
  | _ :: _, _ + 1, 0, _, _ => rfl
  | _ :: r, i + 1, j + 1, d, h => gt_stt_ne (δ := r) fun e => h (congrArg Nat.succ e)
theorem gt_stt_same : ∀ {δ : DEnv} {i : Nat} {d e : D}, gt (stt δ i d) i = some e → e = d ∧ i < δ.length
  | [], _, _, _, h => by cases h
  | _ :: _, 0, _, _, h => by cases h; exact ⟨rfl, Nat.succ_pos _⟩
  | _ :: r, i + 1, d, e, h => by
    obtain ⟨h1, h2⟩ := gt_stt_same (δ := r) h
    exact ⟨h1, Nat.succ_lt_succ h2⟩
def EnvR (K : Fg) (ca : Ca) (F : Hp) (δ : DEnv) (σ : L2.St) : Prop := δ.length = σ.length ∧ ∀ i d, gt δ i = some d → ∃ v, σ[i]? = some (some v) ∧ Rep K ca F d v
section
variable {K : Fg} {ca : Ca} {F F' H H' : Hp} {δ : DEnv} {σ : L2.St}
theorem EnvR.mono (h : EnvR K ca F δ σ) (e : Ext F F') : EnvR K ca F' δ σ := ⟨h.1, fun i d q => let ⟨v, h1, h2⟩ := h.2 i d q; ⟨v, h1, h2.mono e⟩⟩
theorem EnvR.set (h : EnvR K ca F δ σ) {d : D} {v : V} (r : Rep K ca F d v) (i : Nat) : EnvR K ca F (stt δ i d) (σ.set i (some v)) := by
  refine ⟨by rw [length_stt, List.length_set, h.1], fun j e q => ?_⟩
  by_cases hj : i = j
  · subst hj
    obtain ⟨h1, h2⟩ := gt_stt_same q
    subst h1
    exact ⟨v, by rw [List.getElem?_set_self (by rw [← h.1]; exact h2)], r⟩
  · rw [gt_stt_ne hj] at q
    obtain ⟨u, h1, h2⟩ := h.2 j e q
    exact ⟨u, by rw [List.getElem?_set_ne hj]; exact h1, h2⟩
/-- the slots at a def's entry -/
def startD (n : Nat) (ds : List D) : DEnv := ds.map some ++ List.replicate (n - ds.length) none
theorem gt_none : ∀ (n i : Nat), gt (List.replicate n none) i = none
  | 0, _ => rfl
  | _ + 1, 0 => rfl
  | n + 1, i + 1 => gt_none n i
theorem gt_map : ∀ {ds : List D} {r : DEnv} {i : Nat} {d : D}, gt (ds.map some ++ r) i = some d → (∃ j, i = ds.length + j ∧ gt r j = some d) ∨ ds[i]? = some d
  | [], r, i, d, h => .inl ⟨i, by simp, h⟩
  | _ :: _, _, 0, _, h => by cases h; exact .inr rfl
  | _ :: l, r, i + 1, d, h => by
    rcases gt_map (ds := l) h with ⟨j, e, q⟩ | q
    · exact .inl ⟨j, by rw [e, List.length_cons]; omega, q⟩
    · exact .inr (by simpa using q)
theorem EnvR.start {N : List Str} {ds : List D} {vs : List V} (h : RepL K ca F ds vs) (hN : vs.length ≤ N.length) : EnvR K ca F (startD N.length ds) (L2.start N vs) := by
  have hl := h.length
  refine ⟨?_, fun i d q => ?_⟩
  · unfold startD L2.start
    rw [List.length_append, List.length_append, List.length_map, List.length_map, List.length_replicate, List.length_replicate, hl]
  · rcases gt_map q with ⟨j, _, q'⟩ | q'
    · rw [gt_none] at q'; cases q'
    · obtain ⟨v, e, r⟩ := h.get q'
      refine ⟨v, ?_, r⟩
      unfold L2.start
      have hi : i < vs.length := (List.getElem?_eq_some_iff.mp e).1
      rw [List.getElem?_append_left (by rw [List.length_map]; exact hi), List.getElem?_map, e]
      rfl
end
end TS
namespace TS
open PySem PySem.Spec PyProof.Rows L2
/-! ### room for calls, and no repr under way -/
structure Room (k : Nat) (A : Around) : Prop where
  r : L2.Room k A
  gd : 30 ≤ k → A.guards = some []
section
variable {j k : Nat} {A : Around}
theorem Room.small (r : L2.Room k A) (h : k < 30) : Room k A := ⟨r, fun z => absurd h (by omega)⟩
theorem Room.mono (q : Room k A) (h : j ≤ k) : Room j A := ⟨q.r.mono h, fun z => q.gd (Nat.le_trans z h)⟩
theorem Room.deeper (q : Room (k + 1) A) (env : Env) : Room k (A.deeper env) := ⟨q.r.deeper env, fun z => q.gd (Nat.le_succ_of_le z)⟩
theorem Room.in1 (q : Room (k + 1) A) : Room k A.in1 := ⟨q.r.in1, fun z => q.gd (Nat.le_succ_of_le z)⟩
theorem make_guards {A : Around} {C : Addr} {us : List Value} {kw : List (Str × Value)} (h : A.guards = some []) : (A.under (.builtin "type.__call__" ⟨.ref C :: us, kw⟩)).guards = some [] := by
  have e : (Code.builtin "type.__call__" ⟨.ref C :: us, kw⟩).guards = [] := by simp [Code.guards, Code.isGuard, guardIds]
  unfold Around.under
  simp only [e, h]
  rfl
theorem Room.make (q : Room (k + 1) A) (C : Addr) (us : List Value) (kw : List (Str × Value)) : Room k (A.under (.builtin "type.__call__" ⟨.ref C :: us, kw⟩)) :=
  ⟨q.r.make C us kw, fun z => make_guards (q.gd (Nat.le_succ_of_le z))⟩
theorem loop_depth {A : Around} {args : Args} : (A.under (.builtin "list.__repr__.loop" args)).depth ≤ A.depth + 1 := by
  first | exact Nat.le_refl _ | simp [Around.under, Code.weight, Code.isCreation, Code.isGuard, Code.isCaller, Code.frames, Code.isFrame, guardIds]
theorem loop_handled {A : Around} {args : Args} : (A.under (.builtin "list.__repr__.loop" args)).handled = A.handled := by
  first | rfl | simp [Around.under, Code.weight, Code.isCreation, Code.isGuard, Code.isCaller, Code.frames, Code.isFrame, guardIds]
theorem loop_frames {A : Around} {args : Args} : (A.under (.builtin "list.__repr__.loop" args)).frames = A.frames := by
  first | rfl | simp [Around.under, Code.frames, Code.isFrame]
theorem Room.loop (q : Room (k + 1) A) (hk : k < 30) (args : Args) : Room k (A.under (.builtin "list.__repr__.loop" args)) := by
  refine ⟨⟨loop_handled.trans q.r.hd, ?_, ?_⟩, fun z => absurd hk (by omega)⟩
  · have := q.r.dp
    have := loop_depth (A := A) (args := args)
    omega
  · have := q.r.un
    rw [units_under_list_loop]
    omega
theorem Room.un (q : Room k A) : A.units + 16 * k + 200 < cLine := q.r.un
theorem Room.units (q : Room k A) : A.units + 64 < cLine := q.r.units
theorem Room.units0 (q : Room k A) : A.units < cLine := q.r.units0
end
structure Sub (X : Cx) (n : Nat) (A : Around) : Prop where
  room : Room n A
  fr : A.frames = X.A.frames
/-! ### a def's promise, kept where no repr is under way -/
structure FnOk (P : Program) (w : World) (K : PySem.W.Frag) (mg : Str → Option Value) (base : Heap) (CX : CXT) (k : Nat) (f : Addr) (fd : FuncData) (ps : List Str) (sp : Sp) : Prop where
  len : ∀ vs H Q E, sp vs H Q E → vs.length = ps.length
  run : ∀ (A : Around) (outer : List Env) (s : Shared) (H : Hp) (args : Args) (us : List Value) (vs : List V) (Q : VK) (E : XK), Room k A → Env0 P w K mg base A outer s H →
    BindsTo s fd args (ps.zip us) → Vals vs us → sp vs H Q E → codeAny (model P w) A (.call (.ref f) args) (CR CX outer P w H s Q E) s
section
variable {P : Program} {w : World} {K : PySem.W.Frag} {mg : Str → Option Value} {base : Heap} {CX : CXT} {j k : Nat} {f : Addr} {fd : FuncData} {ps N : List Str} {sp : Sp}
theorem FnOk.mono (F : FnOk P w K mg base CX j f fd ps sp) (l : j ≤ k) : FnOk P w K mg base CX k f fd ps sp := ⟨F.len, fun A o s H as us vs Q E q => F.run A o s H as us vs Q E (q.mono l)⟩
/-- by its body -/
theorem fnOk_by {x qual : Str} {params : Arguments} {body : List Stmt} {scope : Scope} {dvs : List V} {kws : List (Str × V)} (G : FunD K x qual params body scope dvs kws f fd) (S : FnScope N ps scope) (len : ∀ vs H Q E, sp vs H Q E → vs.length = ps.length)
    (hb : ∀ (cdv : Value) (A : Around) (outer : List Env) (s : Shared) (H : Hp) (vs : List V) (Q : VK) (E : XK), Room k (A.deeper (envOfC qual scope s.heap.objs.size f cdv)) → sp vs H Q E →
      ∃ t, PSs (cxOf CX P w K mg base N qual scope f cdv A outer s H E) body t ∧ t { nx := fun _ H' => Q .non H', rt := Q } (start N vs) H) : FnOk P w K mg base CX (k + 1) f fd ps sp := by
  obtain ⟨oc, od, dV, kV, doc, pm, an, cdv, ct, osl, rfl, look, code, _, _⟩ := G.ex
  refine ⟨len, fun A outer s H args us vs Q E room st bind rel prom => ?_⟩
  have here : K.In s.heap := st.mod.kin.keeps fun a o z => (st.bs a o z).1
  have free : s.heap.NoLimit := st.mod.nolimit.keeps fun a o z => (st.bs a o z).1
  have kinds : ∀ q ∈ ps.zip us, scope.names.lookup q.1 = some .local ∨ (scope.names.lookup q.1 = some .cell ∧ ((cellsFrom (s.heap.objs.size + 1) scope.names []).lookup q.1).isSome = true) := by
    intro q hq
    rcases S.par q.1 (List.of_mem_zip (show (q.1, q.2) ∈ ps.zip us from hq)).1 with z | z
    · exact Or.inl z
    · exact Or.inr ⟨z, PySem.W.cellsFrom_some _ _ _ (.inl z)⟩
  refine codeAny_call_function room.r.depth (here _ _ look) rfl S.co S.gen rfl (PySem.W.codeRec_of here code) (bind _ _ _ _ ?_)
  refine wpAny_newFunctionEnv_cells S.kind kinds fun env eenv s2 start2 => ?_
  subst eenv
  refine ⟨free.keeps start2.toInCall.keep, codeAny_func ?_⟩
  obtain ⟨t, walk, holds⟩ := hb cdv A outer s H vs Q E (room.deeper _) prom
  have inv := inv_start (CX := CX) (E := E) S room.r.hd st (len _ _ _ _ prom) rel start2
  refine wpAny_mono (walk.run [] s2 (start N vs) H _ inv holds) (fun flow s3 out => ?_) fun _ _ z => z
  cases flow with
  | brk => exact (out.elim fun _ z => z.elim fun _ z => z.2).elim
  | cont => exact (out.elim fun _ z => z.elim fun _ z => z.2).elim
  | next =>
    obtain ⟨σ3, H3, J, q⟩ := out
    exact ⟨V.non, H3, J.os, J.bare, J.base, J.hok, rfl, q⟩
  | ret u =>
    obtain ⟨v, σ3, H3, J, rv, q⟩ := out
    exact ⟨v, H3, J.os, J.bare, J.base, J.hok, rv, q⟩
end
/-- e.f, a property -/
theorem prop_ok {X : Cx} {CX : CXT} {k : Nat} {C p g a dx : Addr} {fs : List (Str × V)} {x : Str} {fd : FuncData} {ps : List Str} {sp : Sp} {dvs : List V} {ds : List Value} {E : XK} {pins : List (Addr × Obj)} {σ : L2.St} {H : Hp} {s : Shared} {Q : VK} {b : Bool} {E' : Value → Shared → Prop}
    (I : Inv X pins σ H s) (ea : H a = some (.ins C dx fs)) (c : Cls X.K C) (hp : PropOf X.K C x p g) (F : FnOk X.prog X.w X.K X.mg X.base CX k g fd ps sp) (room : Room (k + 1) X.A) (hb : Binds X.K fd ps ds) (hd : Vals dvs ds) (hx : Passes CX X.nox E) (h : sp (.ref a :: dvs) H Q E) :
    wpAny (model X.prog X.w) X.A (getAttr (.ref a) x b) (EP X pins σ Q) E' s := by
  obtain ⟨_, O, _⟩ := ins_get I.hok ea
  obtain ⟨od, J, _⟩ := O.look
  obtain ⟨rest, rec⟩ := hp.rec_
  have I1 := I.tok (s.toks + 1)
  have number : ([Value.ref a] ++ ds).length = ps.length := by
    have z := F.len _ _ _ _ h
    rw [List.length_cons, hd.length] at z
    rw [List.length_append, List.length_cons, List.length_nil, Nat.zero_add, Nat.add_comm]
    exact z
  have isC : (PySem.W.clsIn X.K C).isSome = true := by
    obtain ⟨cd, hc, _⟩ := PySem.W.any_some c.hd
    simp only [hc, Option.isSome]
  refine PySem.W.get_bind I.kIn J (PySem.W.plainGet_of (c.get x)).1 (PySem.W.findObj_data isC hp.at_ hp.get hp.tak) (PySem.W.plainGet_of (c.get x)).2 ?_
  refine wpAny_call (PySem.W.prop_get (s := { s with toks := s.toks + 1 }) I.kIn rec ?_)
  have ran := F.run X.A.in1 X.stack { s with toks := s.toks + 1 } H ⟨[.ref a], []⟩ (.ref a :: ds) (.ref a :: dvs) Q E room.in1 I1.env0.in1 (hb _ [.ref a] I1.kIn number) (.cons rfl hd) h
  refine codeAny_mono ran fun res s3 out => ?_
  cases res with
  | error er => exact (hx pins σ H { s with toks := s.toks + 1 } er s3 (I1.wish _) out).elim
  | ok flow =>
    cases flow with
    | next => exact out.elim
    | brk => exact out.elim
    | cont => exact out.elim
    | ret u =>
      obtain ⟨v, H3, I3, rv, q3⟩ := I1.after out
      show wpAny _ _ (handedOut u) _ _ _
      rw [PySem.W.handedOut_of (handed_of rv)]
      exact wpAny_pure ⟨v, H3, I3, rv, q3⟩
/-! ### the law's own call -/
/-- the code objects of the defs that make lambdas stand in h with their empty tables -/
structure CodesAt (K : Fg) (h : Heap) (cs : List (Addr × Addr)) : Prop where
  emp : ∀ p ∈ cs, h.get? p.2 = some { cls := .none, data := .fields #[] }
  out : ∀ p ∈ cs, K.lookup p.2 = none
  hd : ∀ p ∈ cs, PySem.W.CodeHd h p.1 p.2
/-- what is tracked at the law's call -/
def startF (sc : Option (Addr × HO)) : Hp := fun b => match sc with | some (a, u) => if b = a then some u else none | none => none
def startH (sc : Option (Addr × HO)) (ts : List Addr) : Hp := fun b => if b ∈ ts then some (.tbl #[]) else startF sc b
section
variable {sc : Option (Addr × HO)} {ts : List Addr} {b a : Addr} {u o : HO}
theorem startF_get (h : startF sc b = some o) : sc = some (b, o) := by
  cases sc with
  | none => cases h
  | some p =>
    obtain ⟨a, u⟩ := p
    by_cases e : b = a
    · subst e
      have z : some u = some o := (if_pos rfl).symm.trans h
      cases z
      rfl
    · have z : (none : Option HO) = some o := (if_neg e).symm.trans h
      cases z
theorem startF_at : startF (some (a, u)) a = some u := if_pos rfl
theorem startH_t (h : b ∈ ts) : startH sc ts b = some (.tbl #[]) := if_pos h
theorem startH_f (h : b ∉ ts) : startH sc ts b = startF sc b := if_neg h
theorem startH_get (h : startH sc ts b = some o) : (b ∈ ts ∧ o = .tbl #[]) ∨ (b ∉ ts ∧ sc = some (b, o)) := by
  by_cases e : b ∈ ts
  · rw [startH_t e] at h
    cases h
    exact .inl ⟨e, rfl⟩
  · rw [startH_f e] at h
    exact .inr ⟨e, startF_get h⟩
end
theorem law_goT {P : Program} {w : World} {K : PySem.W.Frag} {mg mb : Str → Option Value} {CX : CXT} {k : Nat} {fa a : Addr} {cs : List (Addr × Addr)} {fd : FuncData} {x : Str} {sp : Sp} {s₁ : Shared} {vs : List Value} {ns : List Int}
    (KX : K.In s₁.heap) (hns : s₁.heap.Ns mainGlobals mg) (hb : s₁.heap.Ns builtinsNs mb) (hbb : ∀ x : Str, x ≠ "__name__" → mb x = bootBuiltins x) (hlim : s₁.heap.NoLimit) (hg : s₁.gens = #[]) (hcs : CodesAt K s₁.heap cs)
    (hbm : ∃ (bm : Addr) (ob : Obj), mg "__builtins__" = some (.ref bm) ∧ bm ≠ builtinsNs ∧ s₁.heap.get? bm = some ob ∧ ob.cls = .type "module" ∧ ob.dict = some builtinsNs ∧ ob.data = .plain)
    (ha : s₁.heap.get? a = some { cls := .type "list", data := .seq vs.toArray }) (hi : IntsAre vs ns) (hl : ns.length ≤ sizeLine) (hr : Room k callerA)
    (F : ∀ base : Heap, K.In base → base.Ns mainGlobals mg → (∀ p ∈ cs, LamX.TabB base mg p.1 p.2) → FnOk P w K mg base CX k fa fd [x] sp) (hbind : ∀ (s : Shared) (u : Value), BindsTo s fd ⟨[u], []⟩ [(x, u)])
    (hsp : ∀ H F : Hp, (∀ p ∈ cs, H p.2 = some (.tbl #[])) → Ext F H → (∀ b o, F b = some o → Rg o) → SqL K F a (ns.map V.int) → sp [.ref a] H (fun v _ => v = .bl true) fun _ _ _ => False)
    (hCX : ∀ H e s', CX [] H s₁ (fun _ _ _ => False) e s' → False) :
    codeAny (model P w) callerA (.call (.ref fa) ⟨[.ref a], []⟩) (fun r s' => r = .ok (.ret (.bool true)) ∧ OldK s₁.heap s'.heap ∧ s'.os = s₁.os ∧ AllBare s'.gens) s₁ := by
  generalize ets : cs.map (fun p => p.2) = ts
  have inT : ∀ p ∈ cs, p.2 ∈ ts := fun p hp => ets ▸ List.mem_map.mpr ⟨p, hp, rfl⟩
  have ofT : ∀ b ∈ ts, ∃ p ∈ cs, p.2 = b := fun b z => by
    rw [← ets] at z
    exact List.mem_map.mp z
  have empT : ∀ b ∈ ts, s₁.heap.get? b = some { cls := .none, data := .fields #[] } := fun b z => by
    obtain ⟨p, hp, rfl⟩ := ofT b z
    exact hcs.emp p hp
  have outT : ∀ b ∈ ts, K.lookup b = none := fun b z => by
    obtain ⟨p, hp, rfl⟩ := ofT b z
    exact hcs.out p hp
  have aT : a ∉ ts := fun z => by
    have z2 := (empT a z).symm.trans ha
    cases z2
  obtain ⟨sc, isL, scK, scH⟩ : ∃ sc : Option (Addr × HO), SqL K (startF sc) a (ns.map V.int) ∧ (∀ b o, sc = some (b, o) → b = a ∧ K.lookup a = none ∧ ∃ ob xs, o = .frz ob (.lst xs)) ∧ (∀ b o, sc = some (b, o) → ∀ H, ObjOk P w H s₁.heap b o) := by
    cases look : K.lookup a with
    | some o =>
      have e := KX a o look
      rw [ha] at e
      cases e
      refine ⟨none, Or.inr ⟨_, vs.toArray, _, look, rfl, rfl, rfl, ?_, ?_⟩, fun _ _ z => (by cases z), fun _ _ z => (by cases z)⟩
      · rw [List.size_toArray, hi.length]
        exact hl
      · simpa using vals_ints hi
    | none =>
      refine ⟨some (a, .frz { cls := .type "list", data := .seq vs.toArray } (.lst (ns.map V.int))), Or.inl (Or.inr ⟨_, startF_at⟩), fun b o z => ?_, fun b o z H => ?_⟩
      · cases z
        exact ⟨rfl, rfl, _, _, rfl⟩
      · cases z
        exact ⟨ha, (by rw [List.length_map]; exact hl), vs, _, vals_ints hi, ha⟩
  generalize eH : startH sc ts = H
  have hT : ∀ b ∈ ts, H b = some (.tbl #[]) := fun b z => by rw [← eH]; exact startH_t z
  have get : ∀ {b o}, H b = some o → (b ∈ ts ∧ o = .tbl #[]) ∨ (b ∉ ts ∧ sc = some (b, o)) := fun {b o} z => startH_get (by rw [eH]; exact z)
  have hE : Ext (startF sc) H := fun b o z => by
    have e := startF_get z
    have hb : b ∉ ts := by rw [(scK b o e).1]; exact aT
    rw [← eH, startH_f hb]
    exact z
  have hok : HOk P w H s₁.heap := fun b o z => by
    rcases get z with ⟨hb, rfl⟩ | ⟨_, e⟩
    · exact empT b hb
    · exact scH b o e H
  have free : ∀ {b : Addr} {o : Obj}, s₁.heap.get? b = some o → (∀ l n, o.data ≠ .seq l n) → o.data ≠ .fields #[] → H b = none := fun {b o} e n1 n2 => by
    cases q : H b with
    | none => rfl
    | some u =>
      rcases get q with ⟨hb, _⟩ | ⟨_, es⟩
      · rw [empT b hb] at e
        cases e
        exact (n2 rfl).elim
      · rw [(scK b u es).1, ha] at e
        cases e
        exact (n1 _ _ rfl).elim
  have nodict : ∀ {b : Addr} {o : Obj} {es : Array DictEntry} {n : Nat}, s₁.heap.get? b = some o → o.data = .dict es n → H b = none := fun {b o es n} e d =>
    free e (fun l m z => by rw [d] at z; cases z) fun z => by rw [d] at z; cases z
  have table : ∀ {b : Addr} {m : Str → Option Value}, s₁.heap.Ns b m → (hidT s₁.heap H).Ns b m := fun {b m} ⟨o, es, n, e, d, r⟩ => ⟨o, es, n, hidT_get e (nodict e d), d, r⟩
  have inBase : K.In (hidT s₁.heap H) := fun b o e => hidT_get (KX b o e) (by
    cases q : H b with
    | none => rfl
    | some u =>
      rcases get q with ⟨hb, _⟩ | ⟨_, es⟩
      · rw [outT b hb] at e
        cases e
      · rw [(scK b u es).1, (scK b u es).2.1] at e
        cases e)
  have world : Mod K mg (hidT s₁.heap H) := ⟨inBase, table hns, ⟨mb, table hb, hbb⟩, let ⟨mc, z1, z2⟩ := hlim; ⟨mc, table z1, z2⟩⟩
  have isG : ∃ o es n, s₁.heap.get? mainGlobals = some o ∧ o.data = .dict es n := by
    obtain ⟨o, es, n, e, d, _⟩ := hns
    exact ⟨o, es, n, e, d⟩
  have codes : ∀ p ∈ cs, LamX.TabB (hidT s₁.heap H) mg p.1 p.2 := fun p hp => by
    have emp := hcs.emp p hp
    obtain ⟨gO, gE, gN, g1, g2⟩ := isG
    refine ⟨?_, ?_, fun z => ?_⟩
    · obtain ⟨o, us, file, tf, flags, tg, inF, text, tt, e1, r1, r2, r3, r4, r5, r6, r7, r8, hne⟩ := hcs.hd p hp
      refine ⟨o, us, file, tf, flags, tg, inF, text, tt, hidT_get e1 (free e1 (fun l m z => ?_) fun z => ?_), r1, r2, r3, r4, r5, r6, r7, r8, hne⟩
      · have z2 := r2.symm.trans z
        cases z2
      · have z2 := r2.symm.trans z
        cases z2
        simp at r3
    · obtain ⟨bm, ob, b1, b2, b3, b4, b5, b6⟩ := hbm
      refine ⟨bm, ob, b1, b2, fun z => ?_, fun z => ?_, hidT_get b3 (free b3 (fun l m z => ?_) fun z => ?_), b4, b5, b6⟩
      · rw [z, g1] at b3
        cases b3
        have z2 := g2.symm.trans b6
        cases z2
      · have z2 := b3
        rw [z, emp] at z2
        cases z2
        cases b6
      · have z2 := b6.symm.trans z
        cases z2
      · have z2 := b6.symm.trans z
        cases z2
    · rw [z, emp] at g1
      cases g1
      cases g2
  have st : Env0 P w K mg (hidT s₁.heap H) callerA [] s₁ H := ⟨rfl, world, fun _ _ e => of_hidT e, Nat.le_of_eq (hidT_size _ _), trivial, fun b z => absurd (show b ∈ ([] : List Addr) from z) (by simp), hok, .of_eq hg⟩
  have ran := (F _ inBase (table hns) codes).run callerA [] s₁ H ⟨[.ref a], []⟩ [.ref a] [.ref a] _ _ hr st (hbind s₁ (.ref a)) (.cons rfl .nil) (hsp H (startF sc) (fun p hp => hT _ (inT p hp)) hE (fun b o z => by obtain ⟨_, _, ob, xs, e⟩ := scK b o (startF_get z); rw [e]; trivial) isL)
  refine codeAny_mono ran fun res s3 fin => ?_
  cases res with
  | error e => exact (hCX H e s3 fin).elim
  | ok flow =>
    cases flow with
    | next => exact fin.elim
    | brk => exact fin.elim
    | cont => exact fin.elim
    | ret u =>
      obtain ⟨v, H3, sameOs, bare3, un, hok3, rv, ev⟩ := fin
      have ev : v = .bl true := ev
      subst ev
      obtain rfl : u = Value.bool true := rv
      have stays : ∀ b o, b ∉ ts → s₁.heap.get? b = some o → s3.heap.get? b = some o := fun b o hb e => by
        cases q : H b with
        | none => exact un.keep b o e q (fun z => absurd (show b ∈ ([] : List Addr) from z) (by simp)) (by simp)
        | some u =>
          rcases get q with ⟨hb2, _⟩ | ⟨_, es⟩
          · exact absurd hb2 hb
          · obtain ⟨_, _, ob, xs, rfl⟩ := scK b u es
            obtain ⟨x1, _⟩ := hok b _ q
            obtain ⟨x2, _⟩ := hok3 b _ (un.frzs b ob _ q)
            rw [e] at x1
            cases x1
            exact x2
      have grew : ∀ b ∈ ts, ∃ more : Array Value, s3.heap.get? b = some { cls := .none, data := .fields more } := fun b hb => by
        obtain ⟨more, z⟩ := un.tbls b #[] (hT b hb)
        exact ⟨_, hok3 b _ z⟩
      refine ⟨rfl, ⟨fun b o e => ?_, fun b o e => ?_⟩, sameOs, bare3⟩
      · by_cases hb : b ∈ ts
        · obtain ⟨more, hm⟩ := grew b hb
          have e1 := e.symm.trans (empT b hb)
          cases e1
          obtain ⟨p, hp, rfl⟩ := ofT b hb
          exact Or.inr (Or.inl ⟨((hcs.hd p hp).tab (hcs.emp p hp)).isCodeTable, rfl, #[], more, rfl, by rw [Array.empty_append]; exact hm⟩)
        · exact Or.inl (stays b o hb e)
      · by_cases hb : b ∈ ts
        · obtain ⟨more, hm⟩ := grew b hb
          exact ⟨_, hm⟩
        · exact ⟨o, stays b o hb e⟩
end TS
/-! Readings over data: the judgements. -/
namespace TS
open PySem PySem.Spec PyProof.Rows L2

abbrev XD := Nat → List (Str × D) → Mem → Prop
abbrev EX := Nat → List (Str × D) → DEnv → Mem → Prop
abbrev QD := D → Mem → Prop
abbrev DSp := List D → Mem → XD → QD → Prop
abbrev DT := DEnv → Mem → EX → QD → Prop
abbrev DTT := DEnv → Mem → EX → (Bool → Mem → Prop) → Prop
abbrev DTA := DEnv → Mem → EX → (List D → Mem → Prop) → Prop
structure DEnds where
  nx : DEnv → Mem → Prop
  rt : QD
  bk : DEnv → Mem → Prop := fun _ _ => False
  ct : DEnv → Mem → Prop := fun _ _ => False
  ex : EX := fun _ _ _ _ => False
abbrev DTS := DEnds → DEnv → Mem → Prop
abbrev DTG := D → DEnv → Mem → EX → (DEnv → Mem → Prop) → Prop

section
variable (K : Fg) (ca : Ca)
/-- an exception's own dict -/
def ExcO (F H : Hp) (od : Option Addr) (fs : List (Str × D)) : Prop := (od = none ∧ fs = []) ∨ ∃ d vs, od = some d ∧ H d = some (.xd vs) ∧ RepF K ca F fs vs
def XCl (U F : Hp) (E : EX) (W : WX) : Prop := ∀ c fs δ' M' F' σ' H' od, E c fs δ' M' → Ext F F' → EnvR K ca F' δ' σ' → HR K ca U F' M' H' → ExcO K ca F' H' od fs → W (.ref (ca c)) od σ' H'
def Cl (U F : Hp) (Q : QD) (R : VK) : Prop := ∀ d M' F' v H', Q d M' → Ext F F' → Rep K ca F' d v → HR K ca U F' M' H' → R v H'
def ClB (U F : Hp) (Q : Bool → Mem → Prop) (R : Bool → Hp → Prop) : Prop := ∀ d M' F' H', Q d M' → Ext F F' → HR K ca U F' M' H' → R d H'
def ClL (U F : Hp) (Q : List D → Mem → Prop) (R : List V → Hp → Prop) : Prop := ∀ d M' F' v H', Q d M' → Ext F F' → RepL K ca F' d v → HR K ca U F' M' H' → R v H'
def ClE (U F : Hp) (Q : DEnv → Mem → Prop) (R : L2.St → Hp → Prop) : Prop := ∀ δ' M' F' σ' H', Q δ' M' → Ext F F' → EnvR K ca F' δ' σ' → HR K ca U F' M' H' → R σ' H'
structure Stt (U : Hp) (W : WX) (F : Hp) (M : Mem) (δ : DEnv) (E : EX) (σ : L2.St) (H : Hp) : Prop where
  env : EnvR K ca F δ σ
  hr : HR K ca U F M H
  xc : XCl K ca U F E W
variable (W : WX)
def lift (t : DT) : TE := fun σ H R => ∃ U F M δ E Q, Stt K ca U W F M δ E σ H ∧ t δ M E Q ∧ Cl K ca U F Q R
def liftT (t : DTT) : TT := fun σ H R => ∃ U F M δ E Q, Stt K ca U W F M δ E σ H ∧ t δ M E Q ∧ ClB K ca U F Q R
def liftA (t : DTA) : TA := fun σ H R => ∃ U F M δ E Q, Stt K ca U W F M δ E σ H ∧ t δ M E Q ∧ ClL K ca U F Q R
structure ClS (U F : Hp) (D : DEnds) (R : Ends) : Prop where
  nx : ClE K ca U F D.nx R.nx
  rt : Cl K ca U F D.rt R.rt
  bk : ClE K ca U F D.bk R.bk
  ct : ClE K ca U F D.ct R.ct
def liftS (t : DTS) : TS := fun R σ H => ∃ U F M δ D, Stt K ca U W F M δ D.ex σ H ∧ t D δ M ∧ ClS K ca U F D R
def liftG (t : DTG) : TG := fun v σ H R => ∃ U F M δ E Q d, Stt K ca U W F M δ E σ H ∧ Rep K ca F d v ∧ t d δ M E Q ∧ ClE K ca U F Q R
end
section
variable {K : Fg} {ca : Ca} {W : WX} {U F F' F'' H H' : Hp} {M M' : Mem} {δ : DEnv} {E : EX} {σ : L2.St}
theorem XCl.up (h : XCl K ca U F E W) (e : Ext F F') : XCl K ca U F' E W := fun c fs δ' M' F'' σ' H' od h1 h2 => h c fs δ' M' F'' σ' H' od h1 (e.trans h2)
theorem Cl.up {Q : QD} {R : VK} (h : Cl K ca U F Q R) (e : Ext F F') : Cl K ca U F' Q R := fun d M' F'' v H' h1 h2 => h d M' F'' v H' h1 (e.trans h2)
theorem ClB.up {Q : Bool → Mem → Prop} {R : Bool → Hp → Prop} (h : ClB K ca U F Q R) (e : Ext F F') : ClB K ca U F' Q R := fun d M' F'' H' h1 h2 => h d M' F'' H' h1 (e.trans h2)
theorem ClL.up {Q : List D → Mem → Prop} {R : List V → Hp → Prop} (h : ClL K ca U F Q R) (e : Ext F F') : ClL K ca U F' Q R := fun d M' F'' v H' h1 h2 => h d M' F'' v H' h1 (e.trans h2)
theorem ClE.up {Q : DEnv → Mem → Prop} {R : L2.St → Hp → Prop} (h : ClE K ca U F Q R) (e : Ext F F') : ClE K ca U F' Q R := fun d M' F'' v H' h1 h2 => h d M' F'' v H' h1 (e.trans h2)
theorem ClS.up {D : DEnds} {R : Ends} (h : ClS K ca U F D R) (e : Ext F F') : ClS K ca U F' D R := ⟨h.nx.up e, h.rt.up e, h.bk.up e, h.ct.up e⟩
theorem Stt.up (h : Stt K ca U W F M δ E σ H) (e : Ext F F') (hr : HR K ca U F' M' H') : Stt K ca U W F' M' δ E σ H' := ⟨h.env.mono e, hr, h.xc.up e⟩
/-- a reading in its place, and what follows -/
theorem lift_of {t : DT} {Q : QD} {R : VK} (S : Stt K ca U W F M δ E σ H) (h : t δ M E Q) (c : Cl K ca U F Q R) : lift K ca W t σ H R := ⟨U, F, M, δ, E, Q, S, h, c⟩
theorem liftT_of {t : DTT} {Q : Bool → Mem → Prop} {R : Bool → Hp → Prop} (S : Stt K ca U W F M δ E σ H) (h : t δ M E Q) (c : ClB K ca U F Q R) : liftT K ca W t σ H R := ⟨U, F, M, δ, E, Q, S, h, c⟩
theorem liftA_of {t : DTA} {Q : List D → Mem → Prop} {R : List V → Hp → Prop} (S : Stt K ca U W F M δ E σ H) (h : t δ M E Q) (c : ClL K ca U F Q R) : liftA K ca W t σ H R := ⟨U, F, M, δ, E, Q, S, h, c⟩
theorem liftS_of {t : DTS} {D : DEnds} {R : Ends} (S : Stt K ca U W F M δ D.ex σ H) (h : t D δ M) (c : ClS K ca U F D R) : liftS K ca W t R σ H := ⟨U, F, M, δ, D, S, h, c⟩
end

/-! ### judgements -/
abbrev DE (X : Cx) (ca : Ca) (W : WX) (e : Expr) (t : DT) : Prop := PE X e (lift X.K ca W t)
abbrev DPT (X : Cx) (ca : Ca) (W : WX) (e : Expr) (t : DTT) : Prop := PT X e (liftT X.K ca W t)
abbrev DPW (X : Cx) (ca : Ca) (W : WX) (e : Expr) (t : DTT) : Prop := PW X e (liftT X.K ca W t)
abbrev DPA (X : Cx) (ca : Ca) (W : WX) (es : List Expr) (t : DTA) : Prop := PA X es (liftA X.K ca W t)
abbrev DPS (X : Cx) (ca : Ca) (W : WX) (st : Stmt) (t : DTS) : Prop := PS X st (liftS X.K ca W t)
abbrev DPSs (X : Cx) (ca : Ca) (W : WX) (st : List Stmt) (t : DTS) : Prop := PSs X st (liftS X.K ca W t)
abbrev DPG (X : Cx) (ca : Ca) (W : WX) (e : Expr) (t : DTG) : Prop := PG X e (liftG X.K ca W t)
/-- what a rule may lean on: room for calls, what becomes of exceptions -/
structure Ctx (X : Cx) (k : Nat) (W : WX) : Prop where
  room : Room k X.A
  tk : Takes X W
  calm : X.calm = true

theorem peImp {X : Cx} {e : Expr} {t t' : TE} (h : PE X e t) (k : ∀ σ H Q, t' σ H Q → t σ H Q) : PE X e t' := ⟨fun pins s σ H Q I q => h.run pins s σ H Q I (k σ H Q q)⟩
theorem ptImp {X : Cx} {e : Expr} {t t' : TT} (h : PT X e t) (k : ∀ σ H Q, t' σ H Q → t σ H Q) : PT X e t' := ⟨fun pins s σ H Q I q => h.run pins s σ H Q I (k σ H Q q)⟩
theorem pwImp {X : Cx} {e : Expr} {t t' : TT} (h : PW X e t) (k : ∀ σ H Q, t' σ H Q → t σ H Q) : PW X e t' := ⟨fun wh pins s σ H Q I q => h.run wh pins s σ H Q I (k σ H Q q)⟩
theorem psImp {X : Cx} {e : Stmt} {t t' : TS} (h : PS X e t) (k : ∀ D σ H, t' D σ H → t D σ H) : PS X e t' := ⟨fun pins s σ H D I q => h.run pins s σ H D I (k D σ H q)⟩
theorem pssImp {X : Cx} {e : List Stmt} {t t' : TS} (h : PSs X e t) (k : ∀ D σ H, t' D σ H → t D σ H) : PSs X e t' := ⟨fun pins s σ H D I q => h.run pins s σ H D I (k D σ H q)⟩
theorem paImp {X : Cx} {e : List Expr} {t t' : TA} (h : PA X e t) (k : ∀ σ H Q, t' σ H Q → t σ H Q) : PA X e t' := ⟨fun pos pins s σ H Q I q => h.run pos pins s σ H Q I (k σ H Q q)⟩
theorem pgImp {X : Cx} {e : Expr} {t t' : TG} (h : PG X e t) (k : ∀ v σ H Q, t' v σ H Q → t v σ H Q) : PG X e t' := ⟨fun pins s σ H v u Q I r q => h.run pins s σ H v u Q I r (k v σ H Q q)⟩

section
variable {X : Cx} {ca : Ca} {W : WX} {pos : Pos}

/-! ### names, constants -/
def dVar (i : Nat) : DT := fun δ M _ Q => match gt δ i with | some d => Q d M | none => False
def dC (d : D) : DT := fun _ M _ Q => Q d M
theorem de_var (i : Nat) {x : Str} (hN : X.N[i]? = some x := by rfl) (hv : Vis X.env.scope x := by first | exact Or.inl rfl | exact Or.inr (Or.inl rfl) | exact Or.inr (Or.inr rfl)) (hd : (x == ("__debug__" : Str)) = false := by decide)
    (hcd : (x == ("__classdict__" : Str)) = false := by decide) : DE X ca W (.Name x pos) (dVar i) := peImp (pe_var hN hv hd hcd) fun σ H R ⟨U, F, M, δ, E, Q, S, h, c⟩ => by
  unfold dVar at h
  split at h
  · rename_i d e
    obtain ⟨v, e1, r⟩ := S.env.2 i d e
    exact ⟨v, e1, c d M F v H h Ext.rfl' r S.hr⟩
  · exact h.elim
theorem de_int {i : Int} {j} : DE X ca W (.Constant (.int i) j pos) (dC (.int i)) := peImp pe_int fun σ H R ⟨U, F, M, δ, E, Q, S, h, c⟩ => c _ M F _ H h Ext.rfl' rfl S.hr
theorem de_bl {b : Bool} {j} : DE X ca W (.Constant (.bool b) j pos) (dC (.bl b)) := peImp pe_bl fun σ H R ⟨U, F, M, δ, E, Q, S, h, c⟩ => c _ M F _ H h Ext.rfl' rfl S.hr
theorem de_non {j} : DE X ca W (.Constant .none j pos) (dC .non) := peImp pe_non fun σ H R ⟨U, F, M, δ, E, Q, S, h, c⟩ => c _ M F _ H h Ext.rfl' rfl S.hr
theorem de_str {x : Str} {j} : DE X ca W (.Constant (.str x) j pos) (dC (.str x)) := peImp pe_str fun σ H R ⟨U, F, M, δ, E, Q, S, h, c⟩ => c _ M F _ H h Ext.rfl' rfl S.hr
/-- a module's own constant -/
structure GC (X : Cx) (ca : Ca) (x : Str) (d : D) : Prop where
  ex : ∃ u v, X.mg x = some u ∧ RelV v u ∧ ∀ F, Rep X.K ca F d v
theorem de_glob {x : Str} {d : D} (g : GC X ca x d) (hg : Gl X x := by rfl) (hd : (x == ("__debug__" : Str)) = false := by decide) : DE X ca W (.Name x pos) (dC d) := by
  obtain ⟨u, v, hm, r, rp⟩ := g.ex
  exact peImp (pe_glob hg hm r hd) fun σ H R ⟨U, F, M, δ, E, Q, S, h, c⟩ => c _ M F _ H h Ext.rfl' (rp F) S.hr

/-! ### operators -/
abbrev DOp := D → D → Mem → XD → QD → Prop
/-- an operator, by its values -/
def OpD (X : Cx) (ca : Ca) (W : WX) (f : Value → Value → Sem Value) (op : DOp) : Prop :=
  ∀ (pins : List (Addr × Obj)) (s : Shared) (σ : L2.St) (H U F : Hp) (M : Mem) (δ : DEnv) (E : EX) (Q : QD) (R : VK) (dx dy : D) (x y : V) (v u : Value), Inv X pins σ H s → Stt X.K ca U W F M δ E σ H →
    Rep X.K ca F dx x → Rep X.K ca F dy y → RelV x v → RelV y u → op dx dy M (fun c fs M' => E c fs δ M') Q → Cl X.K ca U F Q R → wpAny (model X.prog X.w) X.A (f v u) (EP X pins σ R) X.xe s
def dBin (op : DOp) (ta tb : DT) : DT := fun δ M E Q => ta δ M E fun x M1 => tb δ M1 E fun y M2 => op x y M2 (fun c fs M' => E c fs δ M') Q
theorem bin_go {a b : Expr} {ta tb : DT} {op : DOp} {f : Value → Value → Sem Value} (ho : OpD X ca W f op) (ha : DE X ca W a ta) (hb : DE X ca W b tb) {pins : List (Addr × Obj)} {s : Shared} {σ : L2.St} {H : Hp} {R : VK} (I : Inv X pins σ H s)
    (h : lift X.K ca W (dBin op ta tb) σ H R) : wpAny (model X.prog X.w) X.A (eval a X.env) (fun v s₁ => wpAny (model X.prog X.w) X.A (eval b X.env) (fun u s₂ => wpAny (model X.prog X.w) X.A (f v u) (EP X pins σ R) X.xe s₂) X.xe s₁) X.xe s := by
  obtain ⟨U, F, M, δ, E, Q, S, h, c⟩ := h
  refine bin (R := fun x y H2 => ∃ F2 M2 dx dy, Stt X.K ca U W F2 M2 δ E σ H2 ∧ Rep X.K ca F2 dx x ∧ Rep X.K ca F2 dy y ∧ op dx dy M2 (fun c fs M' => E c fs δ M') Q ∧ Cl X.K ca U F2 Q R) ha hb I ?_ ?_
  · refine lift_of S h fun dx M1 F1 x H1 h1 e1 r1 g1 => ?_
    refine lift_of (S.up e1 g1) h1 fun dy M2 F2 y H2 h2 e2 r2 g2 => ?_
    exact ⟨F2, M2, dx, dy, (S.up e1 g1).up e2 g2, r1.mono e2, r2, h2, c.up (e1.trans e2)⟩
  · rintro v u s2 x y H2 I2 rx ry ⟨F2, M2, dx, dy, S2, r1, r2, h2, c2⟩
    exact ho pins s2 σ H2 U F2 M2 δ E Q R dx dy x y v u I2 S2 r1 r2 rx ry h2 c2
theorem de_bin {a b : Expr} {ta tb : DT} {op : Operator} {r : DOp} (ho : OpD X ca W (binaryOp op) r) (ha : DE X ca W a ta) (hb : DE X ca W b tb) : DE X ca W (.BinOp a op b pos) (dBin r ta tb) :=
  ⟨fun pins s σ H R I h => wpAny_BinOp (bin_go ho ha hb I h)⟩
theorem de_cmp {a b : Expr} {ta tb : DT} {op : CmpOp} {r : DOp} (ho : OpD X ca W (compareOp op) r) (ha : DE X ca W a ta) (hb : DE X ca W b tb) (hm : behindInMarks op b = false := by first | exact nobehind _ (by decide) (by decide) | rfl) :
    DE X ca W (.Compare a [op] [b] pos) (dBin r ta tb) := ⟨fun pins s σ H R I h => wpAny_Compare1 (bin_go ho ha hb I h) hm⟩
/-- a test out of a value that is True or False -/
def dB (t : DT) : DTT := fun δ M E Q => t δ M E fun x M1 => ∃ c, x = .bl c ∧ Q c M1
theorem liftT_dB {K : Fg} {t : DT} {σ : L2.St} {H : Hp} {R : Bool → Hp → Prop} (h : liftT K ca W (dB t) σ H R) : lift K ca W t σ H fun x H1 => ∃ c, x = .bl c ∧ R c H1 := by
  obtain ⟨U, F, M, δ, E, Q, S, h, c⟩ := h
  refine lift_of S h fun d M1 F1 v H1 h1 e1 r1 g1 => ?_
  obtain ⟨b, eb, h1⟩ := h1
  subst eb
  have r1 : v = .bl b := r1
  exact ⟨b, r1, c b M1 F1 H1 h1 e1 g1⟩
theorem dt_cmp {a b : Expr} {ta tb : DT} {op : CmpOp} {r : DOp} (ho : OpD X ca W (compareOp op) r) (ha : DE X ca W a ta) (hb : DE X ca W b tb) (hm : behindInMarks op b = false := by first | exact nobehind _ (by decide) (by decide) | rfl) :
    DPT X ca W (.Compare a [op] [b] pos) (dB (dBin r ta tb)) := by
  refine ⟨fun pins s σ H R I h => ?_⟩
  refine wpAny_isTrue_Compare1 (thn (bin_go ho ha hb I (liftT_dB h)) fun v s1 h1 => thn h1 fun u s2 h2 => thn h2 fun c s3 ⟨x, H1, I1, r1, q1⟩ => ?_) hm
  obtain ⟨d, rfl, q⟩ := q1
  cases r1
  exact wpAny_truthy_bool ⟨H1, I1, q⟩
theorem dt_val {e : Expr} {t : DT} (h : DE X ca W e t) (he : ∀ whole, isTrue e X.env whole = (do let v ← whole; standAt e.pos; holding [v] (truthy v)) := by intro _; rfl) : DPT X ca W e (dB t) :=
  ptImp (pt_val h he) fun σ H R q => liftT_dB q

/-! ### and, or, not as tests -/
def dAnd (t u : DTT) : DTT := fun δ M E Q => t δ M E fun c M1 => if c = true then u δ M1 E Q else Q false M1
def dOr (t u : DTT) : DTT := fun δ M E Q => t δ M E fun c M1 => if c = true then Q true M1 else u δ M1 E Q
def dNot (t : DTT) : DTT := fun δ M E Q => t δ M E fun c M1 => Q (!c) M1
variable {a b : Expr} {rest : List Expr} {ta tb tc : DTT}
theorem dw_and1 (ha : DPT X ca W a ta) : DPW X ca W (.BoolOp .And [a] pos) ta := pw_and1 ha
theorem dw_or1 (ha : DPT X ca W a ta) : DPW X ca W (.BoolOp .Or [a] pos) ta := pw_or1 ha
theorem dw_and (ha : DPT X ca W a ta) (hb : DPW X ca W (.BoolOp .And (b :: rest) pos) tb) : DPW X ca W (.BoolOp .And (a :: b :: rest) pos) (dAnd ta tb) := pwImp (pw_and ha hb) fun σ H R ⟨U, F, M, δ, E, Q, S, h, c⟩ => by
  refine liftT_of S h fun d M1 F1 H1 h1 e1 g1 => ?_
  cases d with
  | true => rw [if_pos rfl] at h1 ⊢; exact liftT_of (S.up e1 g1) h1 (c.up e1)
  | false => rw [if_neg Bool.false_ne_true] at h1 ⊢; exact c _ _ _ _ h1 e1 g1
theorem dw_or (ha : DPT X ca W a ta) (hb : DPW X ca W (.BoolOp .Or (b :: rest) pos) tb) : DPW X ca W (.BoolOp .Or (a :: b :: rest) pos) (dOr ta tb) := pwImp (pw_or ha hb) fun σ H R ⟨U, F, M, δ, E, Q, S, h, c⟩ => by
  refine liftT_of S h fun d M1 F1 H1 h1 e1 g1 => ?_
  cases d with
  | true => rw [if_pos rfl] at h1 ⊢; exact c _ _ _ _ h1 e1 g1
  | false => rw [if_neg Bool.false_ne_true] at h1 ⊢; exact liftT_of (S.up e1 g1) h1 (c.up e1)
theorem dt_w {e : Expr} (h : DPW X ca W e ta) : DPT X ca W e ta := PW.pt h
theorem dt_not (ha : DPT X ca W a ta) : DPT X ca W (.UnaryOp .Not a pos) (dNot ta) := ptImp (pt_not ha) fun σ H R ⟨U, F, M, δ, E, Q, S, h, c⟩ => liftT_of S h fun d M1 F1 H1 h1 e1 g1 => c _ _ _ _ h1 e1 g1
/-! .. as values -/
def dAndV (t u : DT) : DT := fun δ M E Q => t δ M E fun x M1 => ∃ c, x = .bl c ∧ if c = true then u δ M1 E Q else Q (.bl false) M1
def dOrV (t u : DT) : DT := fun δ M E Q => t δ M E fun x M1 => ∃ c, x = .bl c ∧ if c = true then Q (.bl true) M1 else u δ M1 E Q
variable {va vb : DT}
theorem de_one {op} (ha : DE X ca W a va) : DE X ca W (.BoolOp op [a] pos) va := pe_one ha
theorem de_and (ha : DE X ca W a va) (hb : DE X ca W (.BoolOp .And (b :: rest) pos) vb) : DE X ca W (.BoolOp .And (a :: b :: rest) pos) (dAndV va vb) := peImp (pe_and ha hb) fun σ H R ⟨U, F, M, δ, E, Q, S, h, c⟩ => by
  refine lift_of S h fun d M1 F1 v H1 h1 e1 r1 g1 => ?_
  obtain ⟨k, ek, h1⟩ := h1
  subst ek
  refine ⟨k, r1, ?_⟩
  cases k with
  | true => rw [if_pos rfl] at h1 ⊢; exact lift_of (S.up e1 g1) h1 (c.up e1)
  | false => rw [if_neg Bool.false_ne_true] at h1 ⊢; exact c _ _ _ _ _ h1 e1 rfl g1
theorem de_or (ha : DE X ca W a va) (hb : DE X ca W (.BoolOp .Or (b :: rest) pos) vb) : DE X ca W (.BoolOp .Or (a :: b :: rest) pos) (dOrV va vb) := peImp (pe_or ha hb) fun σ H R ⟨U, F, M, δ, E, Q, S, h, c⟩ => by
  refine lift_of S h fun d M1 F1 v H1 h1 e1 r1 g1 => ?_
  obtain ⟨k, ek, h1⟩ := h1
  subst ek
  refine ⟨k, r1, ?_⟩
  cases k with
  | true => rw [if_pos rfl] at h1 ⊢; exact c _ _ _ _ _ h1 e1 rfl g1
  | false => rw [if_neg Bool.false_ne_true] at h1 ⊢; exact lift_of (S.up e1 g1) h1 (c.up e1)
def dNotV (t : DTT) : DT := fun δ M E Q => t δ M E fun c M1 => Q (.bl (!c)) M1
/-- not a, as a value: by the test of a -/
theorem de_not (ha : DE X ca W a va) : DE X ca W (.UnaryOp .Not a pos) (dNotV (dB va)) := peImp (pe_not ha) fun σ H R ⟨U, F, M, δ, E, Q, S, h, c⟩ => by
  refine lift_of S h fun d M1 F1 v H1 h1 e1 r1 g1 => ?_
  obtain ⟨k, ek, h1⟩ := h1
  subst ek
  exact ⟨k, r1, c _ _ _ _ _ h1 e1 rfl g1⟩
def dIf (t : DTT) (u v : DT) : DT := fun δ M E Q => t δ M E fun c M1 => if c = true then u δ M1 E Q else v δ M1 E Q
theorem de_if {c : Expr} (hc : DPT X ca W c ta) (ha : DE X ca W a va) (hb : DE X ca W b vb) : DE X ca W (.IfExp c a b pos) (dIf ta va vb) := peImp (pe_ifExp hc ha hb) fun σ H R ⟨U, F, M, δ, E, Q, S, h, c⟩ => by
  refine liftT_of S h fun d M1 F1 H1 h1 e1 g1 => ?_
  cases d with
  | true => rw [if_pos rfl] at h1 ⊢; exact lift_of (S.up e1 g1) h1 (c.up e1)
  | false => rw [if_neg Bool.false_ne_true] at h1 ⊢; exact lift_of (S.up e1 g1) h1 (c.up e1)
end

/-! ### argument lists, displays -/
section
variable {X : Cx} {ca : Ca} {W : WX} {pos : Pos} {e : Expr} {es : List Expr} {te : DT} {t : DTA}
def dNil : DTA := fun _ M _ Q => Q [] M
def dCons (ta : DT) (tr : DTA) : DTA := fun δ M E Q => ta δ M E fun x M1 => tr δ M1 E fun xs M2 => Q (x :: xs) M2
theorem da_nil : DPA X ca W [] dNil := paImp pa_nil fun σ H R ⟨U, F, M, δ, E, Q, S, h, c⟩ => c _ _ _ _ _ h Ext.rfl' rfl S.hr
theorem da_cons (he : DE X ca W e te) (ha : DPA X ca W es t) (hst : starEach (e :: es) X.env = (false, eval e X.env) :: starEach es X.env := by rfl) : DPA X ca W (e :: es) (dCons te t) := paImp (pa_cons he ha hst) fun σ H R ⟨U, F, M, δ, E, Q, S, h, c⟩ => by
  refine lift_of S h fun d M1 F1 v H1 h1 e1 r1 g1 => ?_
  refine liftA_of (S.up e1 g1) h1 fun ds M2 F2 vs H2 h2 e2 r2 g2 => ?_
  exact c _ _ _ _ _ h2 (e1.trans e2) ⟨v, vs, rfl, r1.mono e2, r2⟩ g2
def dTup (t : DTA) : DT := fun δ M E Q => t δ M E fun xs M1 => xs.length ≤ sizeLine ∧ Q (.tup xs) M1
/-- a list that stands still -/
def dLst (t : DTA) : DT := fun δ M E Q => t δ M E fun xs M1 => xs.length ≤ sizeLine ∧ Q (.lst xs) M1
/-- a list that will change -/
def dLstM (t : DTA) : DT := fun δ M E Q => t δ M E fun xs M1 => xs.length ≤ sizeLine ∧ ∀ p, M1 p = none → Q (.ref p) (M1.set p (.lst xs))
theorem de_tup {k} (h : DPA X ca W es t) : DE X ca W (.Tuple es k pos) (dTup t) := peImp (pe_tup h) fun σ H R ⟨U, F, M, δ, E, Q, S, h, c⟩ => by
  refine liftA_of S h fun ds M1 F1 vs H1 h1 e1 r1 g1 => ⟨by rw [r1.length]; exact h1.1, fun p hp => ?_⟩
  obtain ⟨g2, e2⟩ := g1.newF hp (.tup vs)
  exact c _ _ _ _ _ h1.2 (e1.trans e2) ⟨p, vs, rfl, .inl (.inl upd_same), r1.mono e2⟩ g2
theorem de_lst (h : DPA X ca W es t) : DE X ca W (.List es pos) (dLst t) := peImp (pe_lst h) fun σ H R ⟨U, F, M, δ, E, Q, S, h, c⟩ => by
  refine liftA_of S h fun ds M1 F1 vs H1 h1 e1 r1 g1 => ⟨by rw [r1.length]; exact h1.1, fun p hp => ?_⟩
  obtain ⟨g2, e2⟩ := g1.newF hp (.lst vs)
  exact c _ _ _ _ _ h1.2 (e1.trans e2) ⟨p, vs, rfl, .inl (.inl upd_same), r1.mono e2⟩ g2
theorem de_lstM (h : DPA X ca W es t) : DE X ca W (.List es pos) (dLstM t) := peImp (pe_lst h) fun σ H R ⟨U, F, M, δ, E, Q, S, h, c⟩ => by
  refine liftA_of S h fun ds M1 F1 vs H1 h1 e1 r1 g1 => ⟨by rw [r1.length]; exact h1.1, fun p hp => ?_⟩
  exact c _ _ _ _ _ (h1.2 p (g1.no hp).2.2) e1 rfl (g1.newM hp (.lst vs) ⟨vs, upd_same, r1⟩)
end

/-! ### statements -/
section
variable {X : Cx} {ca : Ca} {W : WX} {pos : Pos} {st : Stmt} {rest : List Stmt} {t u : DTS} {e : Expr} {te : DT}
def sNext : DTS := fun D δ M => D.nx δ M
def sSeq (t u : DTS) : DTS := fun D δ M => t { D with nx := fun δ M => u D δ M } δ M
theorem dss_nil : DPSs X ca W [] sNext := pssImp pss_nil fun R σ H ⟨U, F, M, δ, D, S, h, c⟩ => c.nx _ _ _ _ _ h Ext.rfl' S.env S.hr
theorem dss_cons (h1 : DPS X ca W st t) (h2 : DPSs X ca W rest u) : DPSs X ca W (st :: rest) (sSeq t u) := pssImp (pss_cons h1 h2) fun R σ H ⟨U, F, M, δ, D, S, h, c⟩ => by
  refine liftS_of (D := { D with nx := fun δ M => u D δ M }) S h ⟨fun δ' M' F' σ' H' q e ev hr => ?_, c.rt, c.bk, c.ct⟩
  exact liftS_of (D := D) ⟨ev, hr, S.xc.up e⟩ q (c.up e)
theorem dss_one (h1 : DPS X ca W st t) : DPSs X ca W [st] t := pss_one h1
theorem ds_pass : DPS X ca W (.Pass pos) sNext := psImp ps_pass fun R σ H ⟨U, F, M, δ, D, S, h, c⟩ => c.nx _ _ _ _ _ h Ext.rfl' S.env S.hr
theorem ds_doc {x j pos'} : DPS X ca W (.Expr (.Constant (.str x) j pos) pos') sNext := psImp ps_doc fun R σ H ⟨U, F, M, δ, D, S, h, c⟩ => c.nx _ _ _ _ _ h Ext.rfl' S.env S.hr
def sBreak : DTS := fun D δ M => D.bk δ M
def sCont : DTS := fun D δ M => D.ct δ M
theorem ds_break : DPS X ca W (.Break pos) sBreak := psImp ps_break fun R σ H ⟨U, F, M, δ, D, S, h, c⟩ => c.bk _ _ _ _ _ h Ext.rfl' S.env S.hr
theorem ds_cont : DPS X ca W (.Continue pos) sCont := psImp ps_continue fun R σ H ⟨U, F, M, δ, D, S, h, c⟩ => c.ct _ _ _ _ _ h Ext.rfl' S.env S.hr
def sDrop (te : DT) : DTS := fun D δ M => te δ M D.ex fun _ M1 => D.nx δ M1
theorem ds_expr (he : DE X ca W e te) (hs : swapsWith e none pos.line X.env = pure false := by rfl) : DPS X ca W (.Expr e pos) (sDrop te) := psImp (ps_expr he hs) fun R σ H ⟨U, F, M, δ, D, S, h, c⟩ =>
  lift_of S h fun d M1 F1 v H1 h1 e1 r1 g1 => c.nx _ _ _ _ _ h1 e1 (S.env.mono e1) g1
def sRet (te : DT) : DTS := fun D δ M => te δ M D.ex D.rt
theorem ds_ret (he : DE X ca W e te) : DPS X ca W (.Return (some e) pos) (sRet te) := psImp (ps_ret he) fun R σ H ⟨U, F, M, δ, D, S, h, c⟩ => lift_of S h c.rt
def sRetN : DTS := fun D δ M => D.rt .non M
theorem ds_retN : DPS X ca W (.Return none pos) sRetN := psImp ps_retN fun R σ H ⟨U, F, M, δ, D, S, h, c⟩ => c.rt _ _ _ _ _ h Ext.rfl' rfl S.hr
def sIf (c : DTT) (t u : DTS) : DTS := fun D δ M => c δ M D.ex fun b M1 => if b = true then t D δ M1 else u D δ M1
theorem ds_if {c : Expr} {a b : List Stmt} {tc : DTT} (hc : DPT X ca W c tc) (ha : DPSs X ca W a t) (hb : DPSs X ca W b u) : DPS X ca W (.If c a b pos) (sIf tc t u) := psImp (ps_if hc ha hb) fun R σ H ⟨U, F, M, δ, D, S, h, c⟩ => by
  refine liftT_of S h fun d M1 F1 H1 h1 e1 g1 => ?_
  cases d with
  | true => rw [if_pos rfl] at h1 ⊢; exact liftS_of (D := D) (S.up e1 g1) h1 (c.up e1)
  | false => rw [if_neg Bool.false_ne_true] at h1 ⊢; exact liftS_of (D := D) (S.up e1 g1) h1 (c.up e1)
def sNever : DTS := fun _ _ _ => False
theorem ds_never : DPS X ca W st sNever := psImp ps_never fun R σ H ⟨U, F, M, δ, D, S, h, c⟩ => h
theorem dss_never {sts : List Stmt} : DPSs X ca W sts sNever := pssImp pss_never fun R σ H ⟨U, F, M, δ, D, S, h, c⟩ => h
/-! ### targets, assignments -/
def gNameD (i : Nat) : DTG := fun d δ M _ Q => Q (stt δ i d) M
theorem dg_name (i : Nat) {x : Str} (hN : X.N.Nodup) (hi : X.N[i]? = some x := by rfl) (hx : Loc X.env.scope x := by first | exact Or.inl rfl | exact Or.inr rfl) (hf : X.fn x = true ∨ X.env.scope.names.lookup x = some .local := by first | exact .inl rfl | exact .inr rfl | assumption) : DPG X ca W (.Name x pos) (gNameD i) :=
  pgImp (pg_name hN hi hx hf) fun v σ H R ⟨U, F, M, δ, E, Q, d, S, r, h, c⟩ => c _ _ _ _ _ h Ext.rfl' (S.env.set r i) S.hr
abbrev DTGs := List D → DEnv → Mem → EX → (DEnv → Mem → Prop) → Prop
def liftGs (K : Fg) (ca : Ca) (W : WX) (t : DTGs) : TGs := fun vs σ H R => ∃ U F M δ E Q ds, Stt K ca U W F M δ E σ H ∧ RepL K ca F ds vs ∧ t ds δ M E Q ∧ ClE K ca U F Q R
def gsNil : DTGs := fun ds δ M _ Q => ds = [] ∧ Q δ M
def gsCons (t : DTG) (u : DTGs) : DTGs := fun ds δ M E Q => match ds with | [] => False | d :: r => t d δ M E fun δ' M' => u r δ' M' E Q
theorem dgs_nil : PGs X [] (liftGs X.K ca W gsNil) := ⟨fun pins s σ H vs us R I r ⟨U, F, M, δ, E, Q, ds, S, rp, h, c⟩ => by
  obtain ⟨e, h⟩ := h
  subst e
  cases rp
  exact pgs_nil.run pins s σ H [] us R I r ⟨rfl, c _ _ _ _ _ h Ext.rfl' S.env S.hr⟩⟩
theorem dgs_cons {es : List Expr} {t : DTG} {u : DTGs} (h1 : DPG X ca W e t) (h2 : PGs X es (liftGs X.K ca W u)) (hs : (assignEach (e :: es) X.env).map (·.2) = assign e X.env :: (assignEach es X.env).map (·.2) := by rfl) : PGs X (e :: es) (liftGs X.K ca W (gsCons t u)) := by
  refine ⟨fun pins s σ H vs us R I r ⟨U, F, M, δ, E, Q, ds, S, rp, h, c⟩ => ?_⟩
  cases ds with
  | nil => exact False.elim h
  | cons d ds =>
    obtain ⟨v, vr, e1, rd, rr⟩ := rp
    refine (pgs_cons h1 h2 hs).run pins s σ H vs us R I r ⟨v, vr, e1, U, F, M, δ, E, _, d, S, rd, h, fun δ' M' F' σ' H' q e ev hr => ?_⟩
    exact ⟨U, F', M', δ', E, Q, ds, ⟨ev, hr, S.xc.up e⟩, rr.mono e, q, c.up e⟩
/-- (a, b, ..) = a tuple -/
def gTupD (t : DTGs) (n : Nat) : DTG := fun d δ M E Q => match d with | .tup l => l.length = n ∧ t l δ M E Q | _ => False
theorem dg_tup {es : List Expr} {k : Nat} {t : DTGs} {n : Nat} (hc : X.calm = true) (h : PGs X es (liftGs X.K ca W t)) (hn : (assignEach es X.env).length = n := by rfl) (hst : (assignEach es X.env).findIdx? (·.1) = none := by rfl) : DPG X ca W (.Tuple es k pos) (gTupD t n) :=
  pgImp (pg_tup hc h hn hst) fun v σ H R ⟨U, F, M, δ, E, Q, d, S, r, h, c⟩ => by
    cases d with
    | tup l =>
      obtain ⟨a, vs, e1, hq, rl⟩ := r
      exact ⟨a, vs, e1, hq.ext S.hr.sub, by rw [rl.length]; exact h.1, U, F, M, δ, E, Q, l, S, rl, h.2, c⟩
    | _ => exact False.elim h
def sAsg (te : DT) (g : DTG) : DTS := fun D δ M => te δ M D.ex fun x M1 => g x δ M1 D.ex D.nx
theorem asg_go {g : DTG} {K : Fg} {R : Ends} {σ : L2.St} {H : Hp} (h : liftS K ca W (sAsg te g) R σ H) : tAsg (lift K ca W te) (liftG K ca W g) R σ H := by
  obtain ⟨U, F, M, δ, D, S, h, c⟩ := h
  exact lift_of S h fun d M1 F1 v H1 h1 e1 r1 g1 => ⟨U, F1, M1, δ, D.ex, D.nx, d, S.up e1 g1, r1, h1, (c.up e1).nx⟩
theorem ds_asg {tg : Expr} {g : DTG} (he : DE X ca W e te) (hg : DPG X ca W tg g) (hs : swapsWithSole [tg] e pos.line X.env = pure false := by rfl) (hw : swappedStores [tg] e X.env = pure none := by rfl)
    (h1 : (assignEach [tg] X.env).map (·.2) = [assign tg X.env] := by rfl) : DPS X ca W (.Assign [tg] e pos) (sAsg te g) := psImp (ps_asg he hg hs hw h1) fun R σ H h => asg_go h
theorem ds_set (i : Nat) {x : Str} {pos' : Pos} (hN : X.N.Nodup) (he : DE X ca W e te) (hi : X.N[i]? = some x := by rfl) (hx : Loc X.env.scope x := by first | exact Or.inl rfl | exact Or.inr rfl) (hs : swapsWith e (some (.Name x pos')) pos.line X.env = pure false := by rfl) (hf : X.fn x = true ∨ X.env.scope.names.lookup x = some .local := by first | exact .inl rfl | exact .inr rfl | assumption) :
    DPS X ca W (.Assign [.Name x pos'] e pos) (sAsg te (gNameD i)) := psImp (ps_set hN hi hx he hs hf) fun R σ H ⟨U, F, M, δ, D, S, h, c⟩ =>
  lift_of S h fun d M1 F1 v H1 h1 e1 r1 g1 => c.nx _ _ _ _ _ h1 e1 ((S.env.mono e1).set r1 i) g1
/-- a, b = x, y with plain local names -/
def sPar (i j : Nat) (ta : DTA) : DTS := fun D δ M => ta δ M D.ex fun ds M1 => match ds with | [a, b] => D.nx (stt (stt δ i a) j b) M1 | _ => False
theorem ds_par (i j : Nat) {x y : Str} {a b : Expr} {ta : DTA} {px py pt : Pos} {kt k2 pt2} (hc : X.calm = true) (hN : X.N.Nodup) (ha : DPA X ca W [a, b] ta) (hi : X.N[i]? = some x := by rfl) (hj : X.N[j]? = some y := by rfl) (hij : i ≠ j := by decide)
    (hx : X.env.scope.names.lookup x = some .local := by rfl) (hy : X.env.scope.names.lookup y = some .local := by rfl) 
    (hw : swappedStores [.Tuple [.Name x px, .Name y py] kt pt] (.Tuple [a, b] k2 pt2) X.env = pure (some [x, y]) := by rfl)
    (hs : swapsWithSole [.Tuple [.Name x px, .Name y py] kt pt] (.Tuple [a, b] k2 pt2) pos.line X.env = pure false := by rfl) :
    DPS X ca W (.Assign [.Tuple [.Name x px, .Name y py] kt pt] (.Tuple [a, b] k2 pt2) pos) (sPar i j ta) := psImp (ps_par hc hN hi hj hij hx hy ha hw hs) fun R σ H ⟨U, F, M, δ, D, S, h, c⟩ => by
  refine liftA_of S h fun ds M1 F1 vs H1 h1 e1 r1 g1 => ?_
  match ds, r1, h1 with
  | [a, b], ⟨v, r, e, ra, w', r', e', rb, en⟩, h1 =>
    subst e; subst e'; cases en
    exact ⟨v, w', rfl, c.nx _ _ _ _ _ h1 e1 (((S.env.mono e1).set ra i).set rb j) g1⟩
/-- while -/
def WhL (c : DTT) (b : DTS) (D : DEnds) : Nat → DEnv → Mem → Prop
  | 0, _, _ => False
  | n + 1, δ, M => c δ M D.ex fun k M1 => if k = true then b { D with nx := WhL c b D n, ct := WhL c b D n, bk := D.nx } δ M1 else D.nx δ M1
def sWhile (c : DTT) (b : DTS) : DTS := fun D δ M => ∃ n, WhL c b D n δ M
theorem ds_while {c : Expr} {body : List Stmt} {tc : DTT} {tb : DTS} (hp : PassesOwn (model X.prog X.w) X.A X.env X.xe) (hc : DPT X ca W c tc) (hb : DPSs X ca W body tb) : DPS X ca W (.While c body [] pos) (sWhile tc tb) := psImp (ps_while hp hc hb) fun R σ H ⟨U, F, M, δ, D, S, ⟨n, h⟩, c⟩ => by
  refine ⟨fun m σ H => ∃ F' M δ, Ext F F' ∧ Stt X.K ca U W F' M δ D.ex σ H ∧ WhL tc tb D m δ M, ⟨n, F, M, δ, Ext.rfl', S, h⟩, ?_⟩
  rintro m σ H ⟨F1, M1, δ1, e1, S1, h1⟩
  cases m with
  | zero => exact False.elim h1
  | succ m =>
    refine liftT_of S1 h1 fun k M2 F2 H2 h2 e2 g2 => ?_
    cases k with
    | true =>
      rw [if_pos rfl] at h2 ⊢
      refine ⟨fun σ' H' => ∃ F' M δ, Ext F F' ∧ Stt X.K ca U W F' M δ D.ex σ' H' ∧ WhL tc tb D m δ M, fun σ' H' q => ⟨m, Nat.lt_succ_self m, q⟩, ?_⟩
      have e12 := e1.trans e2
      refine liftS_of (D := { D with nx := WhL tc tb D m, ct := WhL tc tb D m, bk := D.nx }) (S1.up e2 g2) h2 ⟨fun δ' M' F' σ' H' q e ev hr => ?_, (c.up e12).rt, (c.up e12).nx, fun δ' M' F' σ' H' q e ev hr => ?_⟩
      · exact ⟨F', M', δ', e12.trans e, ⟨ev, hr, (S1.xc.up e2).up e⟩, q⟩
      · exact ⟨F', M', δ', e12.trans e, ⟨ev, hr, (S1.xc.up e2).up e⟩, q⟩
    | false =>
      rw [if_neg Bool.false_ne_true] at h2 ⊢
      exact c.nx _ _ _ _ _ h2 (e1.trans e2) (S1.env.mono e2) g2
end
end TS
namespace TS
open PySem PySem.Spec PyProof.Rows L2
/-! ### what is walked, item by item -/
abbrev DTI := DEnv → Mem → EX → (List D → Mem → Prop) → Prop
structure ItOk (K : Fg) (ca : Ca) (F : Hp) (J : It) (l : List D) : Prop where
  ex : ∃ (G : Hp → Prop) (Y : Nat → Hp → V → Hp → Prop), Walk J l.length G Y ∧ ∀ U F' M' H', Ext F F' → HR K ca U F' M' H' → G H' ∧
    ∀ i x H'', Y i H' x H'' → ∃ F'' d, Ext F' F'' ∧ HR K ca U F'' M' H'' ∧ l[i]? = some d ∧ Rep K ca F'' d x
def liftI (K : Fg) (ca : Ca) (W : WX) (t : DTI) : TI := fun σ H R => ∃ U F M δ E Q, Stt K ca U W F M δ E σ H ∧ t δ M E Q ∧ ∀ l M' F' H' J, Q l M' → Ext F F' → HR K ca U F' M' H' → ItOk K ca F' J l → R J H'
abbrev DPI (X : Cx) (ca : Ca) (W : WX) (tg e : Expr) (t : DTI) : Prop := PI X tg e (liftI X.K ca W t)
theorem piImp {X : Cx} {tg e : Expr} {t t' : TI} (h : PI X tg e t) (k : ∀ σ H Q, t' σ H Q → t σ H Q) : PI X tg e t' := ⟨fun pins s σ H Q I q => h.run pins s σ H Q I (k σ H Q q)⟩
section
variable {X : Cx} {ca : Ca} {W : WX} {pos : Pos} {tg : Expr}
theorem ItOk.list {K : Fg} {F : Hp} {a : Addr} {xs : List V} {l : List D} (h : SqL K F a xs) (r : RepL K ca F l xs) : ItOk K ca F (Itl K a) l := by
  refine ⟨_, _, by rw [← r.length]; exact walk_list, fun U F' M' H' e hr => ⟨(h.ext e).ext hr.sub, ?_⟩⟩
  rintro i x H'' ⟨rfl, hx⟩
  obtain ⟨d, hd, rd⟩ := r.get' hx
  exact ⟨F', d, Ext.rfl', hr, hd, rd.mono e⟩
theorem ItOk.tup {K : Fg} {F : Hp} {a : Addr} {xs : List V} {l : List D} (h : SqT K F a xs) (r : RepL K ca F l xs) : ItOk K ca F (Itt K a) l := by
  refine ⟨_, _, by rw [← r.length]; exact walk_tup, fun U F' M' H' e hr => ⟨(h.ext e).ext hr.sub, ?_⟩⟩
  rintro i x H'' ⟨rfl, hx⟩
  obtain ⟨d, hd, rd⟩ := r.get' hx
  exact ⟨F', d, Ext.rfl', hr, hd, rd.mono e⟩
/-- a list or a tuple -/
def iSeqV (K : PySem.W.Frag) (tl : TE) : TI := fun σ H R => tl σ H fun x H1 => ∃ a, x = .ref a ∧ (((∃ xs, SqL K H1 a xs) ∧ R (Itl K a) H1) ∨ ((∃ xs, SqT K H1 a xs) ∧ R (Itt K a) H1))
theorem pi_seqV {l : Expr} {tl : TE} (hl : PE X l tl) : PI X tg l (iSeqV X.K tl) := by
  refine ⟨fun pins s σ H R I h => ?_⟩
  refine thn (hl.run pins s σ H _ I h) fun v s1 ⟨x, H1, I1, r1, q1⟩ => ?_
  obtain ⟨a, e, q1⟩ := q1
  subst e
  cases r1
  rcases q1 with ⟨⟨xs, hq⟩, q⟩ | ⟨⟨xs, hq⟩, q⟩
  · obtain ⟨its, rv, p, hz⟩ := I1.list hq
    refine wpAny_pyIter_list p.isList ?_
    refine ⟨s1.heap.objs.size, [s1.heap.objs.size], _, _, H1, rfl, I1.kept (t' := s1.toks) fun b o e => Heap.get?_push_of_some _ e, turn_list a _, ⟨_, Heap.get?_push_size _ rfl, rfl, rfl⟩, fun b hb => ?_, q⟩
    have e : b = s1.heap.objs.size := by simpa using hb
    subst e
    exact I1.fpOk (Nat.le_refl _) (I1.hok.fresh (Nat.le_refl _))
  · obtain ⟨its, rv, p, hz⟩ := I1.tuple hq
    refine wpAny_pyIter_tuple (show s1.heap.IsTuple a its.toArray from p) ?_
    refine ⟨s1.heap.objs.size, [s1.heap.objs.size], _, _, H1, rfl, I1.kept (t' := s1.toks) fun b o e => Heap.get?_push_of_some _ e, turn_tuple a _, ⟨_, Heap.get?_push_size _ rfl, rfl, rfl⟩, fun b hb => ?_, q⟩
    have e : b = s1.heap.objs.size := by simpa using hb
    subst e
    exact I1.fpOk (Nat.le_refl _) (I1.hok.fresh (Nat.le_refl _))
/-- the items of a list or tuple that stands still -/
def asSeq : D → Option (List D)
  | .tup l => some l
  | .lst l => some l
  | _ => none
def dSeq (t : DT) : DTI := fun δ M E Q => t δ M E fun d M1 => match asSeq d with | some l => Q l M1 | none => False
theorem di_seq {e : Expr} {t : DT} (he : DE X ca W e t) : DPI X ca W tg e (dSeq t) := piImp (pi_seqV he) fun σ H R ⟨U, F, M, δ, E, Q, S, h, c⟩ => by
  refine lift_of S h fun d M1 F1 v H1 h1 e1 r1 g1 => ?_
  cases d with
  | tup l =>
    obtain ⟨a, vs, rfl, hs, rl⟩ := r1
    exact ⟨a, rfl, .inr ⟨⟨vs, hs.ext g1.sub⟩, c l M1 F1 H1 _ h1 e1 g1 (.tup hs rl)⟩⟩
  | lst l =>
    obtain ⟨a, vs, rfl, hs, rl⟩ := r1
    exact ⟨a, rfl, .inl ⟨⟨vs, hs.ext g1.sub⟩, c l M1 F1 H1 _ h1 e1 g1 (.list hs rl)⟩⟩
  | _ => exact False.elim h1
/-- ranges -/
def rangeD (lo : Int) (n : Nat) : List D := (List.range n).map fun i => D.int (lo + (i : Nat))
theorem rangeD_length {lo : Int} {n : Nat} : (rangeD lo n).length = n := by simp [rangeD]
theorem ItOk.range {K : Fg} {F : Hp} {lo : Int} {n : Nat} : ItOk K ca F (Itr lo n) (rangeD lo n) := by
  have w := walk_range (lo := lo) (n := n)
  refine ⟨fun _ => True, fun i H x H' => i < n ∧ H' = H ∧ x = .int (lo + i), ?_, fun U F' M' H' e hr => ⟨trivial, ?_⟩⟩
  · rw [rangeD_length]
    exact ⟨w.goes, w.stops, fun i H x H' hi hg y => ⟨hi, w.yields i H x H' hi hg y⟩⟩
  · rintro i x H'' ⟨hi, rfl, rfl⟩
    exact ⟨F', .int (lo + i), Ext.rfl', hr, by simp [rangeD, hi], rfl⟩
def dRange1 (ta : DTA) : DTI := fun δ M E Q => ta δ M E fun ds M1 => match ds with | [.int j] => -(2 ^ 62) ≤ j ∧ j < 2 ^ 62 ∧ Q (rangeD 0 j.toNat) M1 | _ => False
def dRange2 (ta : DTA) : DTI := fun δ M E Q => ta δ M E fun ds M1 => match ds with | [.int i, .int j] => (-(2 ^ 62) ≤ i ∧ i < 2 ^ 62 ∧ -(2 ^ 62) ≤ j ∧ j < 2 ^ 62) ∧ Q (rangeD i (j - i).toNat) M1 | _ => False
theorem di_range1 {a : Expr} {ta : DTA} {p : Pos} (hm : X.mg "range" = none) (ha : DPA X ca W [a] ta) (hg : Gl X "range" := by rfl) (hs : starEach [a] X.env = [(false, eval a X.env)] := by rfl) : DPI X ca W tg (.Call (.Name "range" p) [a] [] pos) (dRange1 ta) := piImp (pi_range1 hg hm ha hs) fun σ H R ⟨U, F, M, δ, E, Q, S, h, c⟩ => by
  refine liftA_of S h fun ds M1 F1 vs H1 h1 e1 r1 g1 => ?_
  match ds, h1 with
  | [.int j], h1 =>
    obtain ⟨v, r, ev, rv, er⟩ := r1
    cases rv; cases er
    exact ⟨j, ev, h1.1, h1.2.1, c _ M1 F1 H1 _ h1.2.2 e1 g1 .range⟩
theorem di_range2 {a b : Expr} {ta : DTA} {p : Pos} (hm : X.mg "range" = none) (ha : DPA X ca W [a, b] ta) (hg : Gl X "range" := by rfl) (hs : starEach [a, b] X.env = [(false, eval a X.env), (false, eval b X.env)] := by rfl) (hs2 : starEach [b] X.env = [(false, eval b X.env)] := by rfl) :
    DPI X ca W tg (.Call (.Name "range" p) [a, b] [] pos) (dRange2 ta) := piImp (pi_range2 hg hm ha hs hs2) fun σ H R ⟨U, F, M, δ, E, Q, S, h, c⟩ => by
  refine liftA_of S h fun ds M1 F1 vs H1 h1 e1 r1 g1 => ?_
  match ds, h1 with
  | [.int i, .int j], h1 =>
    obtain ⟨v, r, ev, rv, v', r', er, rv', er'⟩ := r1
    cases rv; cases rv'; cases er'; subst er
    exact ⟨i, j, ev, h1.1, c _ M1 F1 H1 _ h1.2 e1 g1 .range⟩
/-- a text, sign by sign -/
def signsD (z : Str) : List D := z.cps.toList.map fun c => D.str ⟨#[c]⟩
def dSigns (t : DT) : DTI := fun δ M E Q => t δ M E fun d M1 => match d with | .str z => Q (signsD z) M1 | _ => False
theorem di_str {e : Expr} {t : DT} (he : DE X ca W e t) : DPI X ca W tg e (dSigns t) := piImp (pi_str he) fun σ H R ⟨U, F, M, δ, E, Q, S, h, c⟩ => by
  refine lift_of S h fun d M1 F1 v H1 h1 e1 r1 g1 => ?_
  cases d with
  | str z =>
    refine ⟨z, r1, c _ M1 F1 H1 _ h1 e1 g1 ⟨_, _, by rw [show (signsD z).length = z.cps.size by simp [signsD]]; exact walk_str, fun U F' M' H' e hr => ⟨trivial, ?_⟩⟩⟩
    rintro i x H'' ⟨rfl, k, hk, rfl⟩
    exact ⟨F', .str ⟨#[k]⟩, Ext.rfl', hr, by simp [signsD, hk], rfl⟩
  | _ => exact False.elim h1

/-! ### for -/
def ForL (g : DTG) (b : DTS) (Z : DEnds) : List D → DEnv → Mem → Prop
  | [], δ, M => Z.nx δ M
  | x :: r, δ, M => g x δ M Z.ex fun δ1 M1 => b { Z with nx := ForL g b Z r, ct := ForL g b Z r, bk := Z.nx } δ1 M1
def sFor (ti : DTI) (g : DTG) (b : DTS) : DTS := fun Z δ M => ti δ M Z.ex fun l M1 => ForL g b Z l δ M1
theorem ds_for {iter : Expr} {body : List Stmt} {ti : DTI} {g : DTG} {tb : DTS} (hp : PassesOwn (model X.prog X.w) X.A X.env X.xe) (hc : X.calm = true) (hi : DPI X ca W tg iter ti) (hg : DPG X ca W tg g) (hb : DPSs X ca W body tb)
    (hs : ∀ x, foldedSetIterable iter X.env x = pure x := by intro _; rfl) : DPS X ca W (.For tg iter body [] pos) (sFor ti g tb) := psImp (ps_for hp hc hi hg hb hs) fun R σ H ⟨U, F, M, δ, Z, S, h, c⟩ => by
  refine ⟨U, F, M, δ, Z.ex, _, S, h, fun l M1 F1 H1 J h1 e1 g1 it => ?_⟩
  obtain ⟨G, Y, w, hY⟩ := it.ex
  refine for_it w (fun i σ H => ∃ F' M δ, Ext F1 F' ∧ Stt X.K ca U W F' M δ Z.ex σ H ∧ ForL g tb Z (l.drop i) δ M) ⟨F1, M1, δ, Ext.rfl', S.up e1 g1, h1⟩ (fun i σ H _ ⟨F', M, δ, e, S', _⟩ => (hY U F' M H e S'.hr).1) ?_ ?_
  · rintro i x σ2 H2 H2' hi ⟨F2, M2, δ2, e2, S2, h2⟩ y
    obtain ⟨F3, d, e3, g3, hd, rd⟩ := (hY U F2 M2 H2 e2 S2.hr).2 i x H2' y
    have hdrop : l.drop i = d :: l.drop (i + 1) := by
      have := List.drop_eq_getElem_cons hi
      rw [this]
      have q : l[i] = d := by
        have := List.getElem?_eq_getElem hi
        rw [this] at hd
        exact Option.some.inj hd
      rw [q]
    rw [hdrop] at h2
    have e123 := e2.trans e3
    have c3 := c.up (e1.trans e123)
    refine ⟨U, F3, M2, δ2, Z.ex, _, d, S2.up e3 g3, rd, h2, fun δ' M' F' σ' H' q e ev hr => ?_⟩
    refine liftS_of (D := { Z with nx := ForL g tb Z (l.drop (i + 1)), ct := ForL g tb Z (l.drop (i + 1)), bk := Z.nx }) ⟨ev, hr, (S2.xc.up e3).up e⟩ q ⟨?_, (c3.up e).rt, (c3.up e).nx, ?_⟩
    · exact fun δ' M' F'' σ' H' q e' ev hr => ⟨F'', M', δ', (e123.trans e).trans e', ⟨ev, hr, ((S2.xc.up e3).up e).up e'⟩, q⟩
    · exact fun δ' M' F'' σ' H' q e' ev hr => ⟨F'', M', δ', (e123.trans e).trans e', ⟨ev, hr, ((S2.xc.up e3).up e).up e'⟩, q⟩
  · rintro σ2 H2 ⟨F2, M2, δ2, e2, S2, h2⟩
    rw [List.drop_length] at h2
    exact c.nx _ _ _ _ _ h2 (e1.trans e2) S2.env S2.hr

/-! ### list comprehensions -/
def wipeD : DEnv → List Nat → DEnv
  | δ, [] => δ
  | δ, v :: vs => (wipeD δ vs).set v none
/-- how a target takes an item -/
abbrev Bd := D → DEnv → Option DEnv
def CompL (bd : Bd) (tt : DTT) (te : DT) (Q : List D → Mem → Prop) : List D → List D → DEnv → Mem → Prop
  | [], acc, _, M => Q acc M
  | x :: r, acc, δ, M => match bd x δ with
    | none => False
    | some δ1 => tt δ1 M (fun _ _ _ _ => False) fun b M2 =>
      if b = true then te δ1 M2 (fun _ _ _ _ => False) fun y M3 => acc.length < sizeLine ∧ CompL bd tt te Q r (acc ++ [y]) δ M3 else CompL bd tt te Q r acc δ M2
/-- a new list: its items. vs: the comprehension's own slots -/
def dComp (ti : DTI) (bd : Bd) (tt : DTT) (te : DT) (vs : List Nat) : DTA := fun δ M E Q => ti δ M E fun l M1 => CompL bd tt te Q l [] (wipeD δ vs) M1
def dYes : DTT := fun _ M _ Q => Q true M
/-- as a list that stands still, as one that may change -/
def dStill (t : DTA) : DT := fun δ M E Q => t δ M E fun l M1 => Q (.lst l) M1
def dFresh (t : DTA) : DT := fun δ M E Q => t δ M E fun l M1 => ∀ p, M1 p = none → Q (.ref p) (M1.set p (.lst l))
theorem gt_set_none : ∀ {δ : DEnv} {i v : Nat} {d : D}, gt (δ.set v none) i = some d → gt δ i = some d ∧ i ≠ v
  | [], _, _, _, h => by cases h
  | o :: r, 0, 0, _, h => by cases h
  | o :: r, i + 1, 0, _, h => ⟨h, by omega⟩
  | o :: r, 0, v + 1, _, h => ⟨h, by omega⟩
  | o :: r, i + 1, v + 1, d, h => by
    obtain ⟨h1, h2⟩ := gt_set_none (δ := r) (i := i) (v := v) h
    exact ⟨h1, by omega⟩
theorem gt_wipe {δ : DEnv} {i : Nat} {d : D} : ∀ {vs : List Nat}, gt (wipeD δ vs) i = some d → gt δ i = some d ∧ i ∉ vs
  | [], h => ⟨h, by simp⟩
  | v :: vs, h => by
    obtain ⟨h1, h2⟩ := gt_set_none h
    obtain ⟨h3, h4⟩ := gt_wipe (vs := vs) h1
    exact ⟨h3, by simp only [List.mem_cons, not_or]; exact ⟨h2, h4⟩⟩
theorem length_wipeD (δ : DEnv) : ∀ vs : List Nat, (wipeD δ vs).length = δ.length
  | [] => rfl
  | v :: vs => by unfold wipeD; rw [List.length_set, length_wipeD δ vs]
theorem wipe_get {σ : L2.St} {i : Nat} : ∀ {vs : List Nat}, i ∉ vs → (L2.wipe σ vs)[i]? = σ[i]?
  | [], _ => rfl
  | v :: vs, h => by
    simp only [List.mem_cons, not_or] at h
    unfold L2.wipe
    rw [List.getElem?_set_ne (Ne.symm h.1)]
    exact wipe_get h.2
theorem EnvR.wipe {K : Fg} {F : Hp} {δ : DEnv} {σ : L2.St} (h : EnvR K ca F δ σ) (vs : List Nat) : EnvR K ca F (wipeD δ vs) (L2.wipe σ vs) := by
  refine ⟨by rw [length_wipeD, L2.wipe_length, h.1], fun i d q => ?_⟩
  obtain ⟨q1, q2⟩ := gt_wipe q
  obtain ⟨v, e, r⟩ := h.2 i d q1
  exact ⟨v, by rw [wipe_get q2]; exact e, r⟩
abbrev WF : WX := fun _ _ _ _ => False
theorem xcl_false {K : Fg} {U F : Hp} {W : WX} : XCl K ca U F (fun _ _ _ _ => False) W := fun _ _ _ _ _ _ _ _ h => h.elim
/-- what a target's store does to the slots, by data and by values -/
def BdOk (K : Fg) (ca : Ca) (g : TG) (bd : Bd) (vs : List Nat) : Prop := ∀ (U F H : Hp) (M : Mem) (d : D) (v : V) (δ δ' : DEnv) (σ : L2.St) (R : L2.St → Hp → Prop), EnvR K ca F δ σ → HR K ca U F M H → Rep K ca F d v → bd d δ = some δ' →
  (∀ σ', EnvR K ca F δ' σ' → L2.wipe σ' vs = L2.wipe σ vs → R σ' H) → g v σ H R
def bdName (i : Nat) : Bd := fun d δ => some (stt δ i d)
theorem wipe_set {σ : L2.St} {i : Nat} {o : Option V} : ∀ {vs : List Nat}, i ∈ vs → L2.wipe (σ.set i o) vs = L2.wipe σ vs
  | v :: vs, h => by
    unfold L2.wipe
    by_cases hm : i ∈ vs
    · rw [wipe_set hm]
    · have hv : i = v := (List.mem_cons.mp h).resolve_right hm
      subst hv
      have : ∀ (ws : List Nat) (τ : L2.St), i ∉ ws → L2.wipe (τ.set i o) ws = (L2.wipe τ ws).set i o := by
        intro ws
        induction ws with
        | nil => intro τ _; rfl
        | cons w ws ih =>
          intro τ hw
          simp only [List.mem_cons, not_or] at hw
          unfold L2.wipe
          rw [ih τ hw.2, List.set_comm _ _ hw.1]
      rw [this vs σ hm, List.set_set]
theorem bdOk_name {K : Fg} {i : Nat} {vs : List Nat} (h : i ∈ vs) : BdOk K ca (gName i) (bdName i) vs := fun U F H M d v δ δ' σ R he hr rd hb k => by
  cases hb
  exact k _ (he.set rd i) (wipe_set h)
def sttL : DEnv → List Nat → List D → Option DEnv
  | δ, [], [] => some δ
  | δ, i :: is, d :: ds => sttL (stt δ i d) is ds
  | _, _, _ => none
def bdTup (is : List Nat) : Bd := fun d δ => match d with | .tup l => sttL δ is l | _ => none
def gNames : List Nat → TGs
  | [] => gNil
  | i :: is => gCons (gName i) (gNames is)
theorem bdOk_names {K : Fg} {vs : List Nat} : ∀ (is : List Nat), (∀ i ∈ is, i ∈ vs) → ∀ (F H : Hp) (ds : List D) (ws : List V) (δ δ' : DEnv) (σ : L2.St) (R : L2.St → Hp → Prop), EnvR K ca F δ σ → RepL K ca F ds ws → sttL δ is ds = some δ' →
    (∀ σ', EnvR K ca F δ' σ' → L2.wipe σ' vs = L2.wipe σ vs → R σ' H) → gNames is ws σ H R ∧ ws.length = is.length
  | [], _, F, H, [], ws, δ, δ', σ, R, he, rd, hb, k => by
    cases hb; cases rd
    exact ⟨⟨rfl, k σ he rfl⟩, rfl⟩
  | [], _, _, _, _ :: _, _, _, _, _, _, _, _, hb, _ => by cases hb
  | _ :: _, _, _, _, [], _, _, _, _, _, _, _, hb, _ => by cases hb
  | i :: is, hi, F, H, d :: ds, ws, δ, δ', σ, R, he, rd, hb, k => by
    obtain ⟨v, r, e, rv, rr⟩ := rd
    subst e
    have z := bdOk_names is (fun j hj => hi j (List.mem_cons_of_mem _ hj)) F H ds r (stt δ i d) δ' (σ.set i (some v)) R (he.set rv i) rr hb fun σ' h1 h2 => k σ' h1 (h2.trans (wipe_set (hi i (List.mem_cons_self ..))))
    exact ⟨⟨v, r, rfl, z.1⟩, by rw [List.length_cons, List.length_cons, z.2]⟩
theorem bdOk_tup {K : Fg} {is vs : List Nat} (h : ∀ i ∈ is, i ∈ vs) : BdOk K ca (gTup K is.length (gNames is)) (bdTup is) vs := fun U F H M d v δ δ' σ R he hr rd hb k => by
  cases d with
  | tup l =>
    obtain ⟨a, ws, rfl, hs, rl⟩ := rd
    obtain ⟨z1, z2⟩ := bdOk_names is h F H l ws δ δ' σ R he rl hb k
    exact ⟨a, ws, rfl, hs.ext hr.sub, z2, z1⟩
  | _ => cases hb
theorem wipe_swap {σ : L2.St} {v : Nat} : ∀ {ws : List Nat}, L2.wipe (σ.set v none) ws = (L2.wipe σ ws).set v none
  | [] => rfl
  | w :: ws => by
    unfold L2.wipe
    rw [wipe_swap (ws := ws)]
    by_cases h : w = v
    · subst h; rfl
    · rw [List.set_comm _ _ (Ne.symm h)]
theorem wipe_wipe {σ : L2.St} : ∀ {vs : List Nat}, L2.wipe (L2.wipe σ vs) vs = L2.wipe σ vs
  | [] => rfl
  | v :: vs => by
    have e : L2.wipe σ (v :: vs) = (L2.wipe σ vs).set v none := rfl
    rw [e]
    show (L2.wipe ((L2.wipe σ vs).set v none) vs).set v none = _
    rw [wipe_swap, wipe_wipe, List.set_set]
/-- the reading of a comprehension; QR: what is done with the list at A -/
theorem comp_go {K : Fg} {U F : Hp} {M : Mem} {δ : DEnv} {E : EX} {ti : DTI} {g : TG} {bd : Bd} {tt : DTT} {te : DT} {vs : List Nat} {σ : L2.St} {H : Hp} {Q : List D → Mem → Prop} {R : VK} (hb : BdOk K ca g bd vs) (S : Stt K ca U W F M δ E σ H)
    (h : dComp ti bd tt te vs δ M E Q) (hR : ∀ ds ws M' F' H' A, Q ds M' → Ext F F' → U A = none → RepL K ca F' ds ws → HR K ca (upd U A (.lst ws)) F' M' H' → R (.ref A) H') :
    tLc (liftI K ca W ti) g (liftT K ca WF tt) (lift K ca WF te) vs σ H R := by
  refine ⟨U, F, M, δ, E, _, S, h, fun l M1 F1 H1 J h1 e1 g1 it A hA => ?_⟩
  obtain ⟨G, Y, w, hY⟩ := it.ex
  have nU : U A = none := (g1.no hA).2.1
  refine lc_it w (fun i H => ∃ F2 M2 ds ws, Ext F1 F2 ∧ HR K ca (upd U A (.lst ws)) F2 M2 H ∧ RepL K ca F2 ds ws ∧ CompL bd tt te Q (l.drop i) ds (wipeD δ vs) M2) ⟨F1, M1, [], [], Ext.rfl', g1.aside hA _, rfl, h1⟩ ?_ ?_ ?_
  · rintro i H2 _ ⟨F2, M2, ds, ws, e2, g2, r2, h2⟩
    exact (hY (upd U A (.lst ws)) F2 M2 H2 e2 g2).1
  · rintro i x H2 H2' hi ⟨F2, M2, ds, ws, e2, g2, r2, h2⟩ y
    obtain ⟨F3, d, e3, g3, hd, rd⟩ := (hY (upd U A (.lst ws)) F2 M2 H2 e2 g2).2 i x H2' y
    have hdrop : l.drop i = d :: l.drop (i + 1) := by
      have := List.drop_eq_getElem_cons hi
      rw [this]
      have q : l[i] = d := by
        have := List.getElem?_eq_getElem hi
        rw [this] at hd
        exact Option.some.inj hd
      rw [q]
    rw [hdrop] at h2
    unfold CompL at h2
    have e13 := e2.trans e3
    have ev0 : EnvR K ca F3 (wipeD δ vs) (L2.wipe σ vs) := (S.env.mono (e1.trans e13)).wipe vs
    cases hbd : bd d (wipeD δ vs) with
    | none => rw [hbd] at h2; exact h2.elim
    | some δ1 =>
      rw [hbd] at h2
      refine hb (upd U A (.lst ws)) F3 H2' M2 d x (wipeD δ vs) δ1 (L2.wipe σ vs) _ ev0 g3 rd hbd fun σ1 ev1 hw => ?_
      have S3 : Stt K ca (upd U A (.lst ws)) WF F3 M2 δ1 (fun _ _ _ _ => False) σ1 H2' := ⟨ev1, g3, xcl_false⟩
      have ww : L2.wipe (L2.wipe σ vs) vs = L2.wipe σ vs := wipe_wipe
      refine ⟨hw.trans ww, liftT_of S3 h2 fun b M4 F4 H4 h4 e4 g4 => ?_⟩
      cases b with
      | true =>
        rw [if_pos rfl] at h4 ⊢
        refine lift_of (S3.up e4 g4) h4 fun y5 M5 F5 v5 H5 h5 e5 r5 g5 => ?_
        have hA5 : H5 A = some (.lst ws) := g5.own A _ upd_same
        have r25 : RepL K ca F5 ds ws := r2.mono ((e3.trans e4).trans e5)
        refine ⟨ws, hA5, by rw [r25.length]; exact h5.1, F5, M5, ds ++ [y5], ws ++ [v5], (e13.trans e4).trans e5, g5.asideW, r25.append (.one r5), h5.2⟩
      | false =>
        rw [if_neg Bool.false_ne_true] at h4 ⊢
        exact ⟨F4, M4, ds, ws, e13.trans e4, g4, r2.mono (e3.trans e4), h4⟩
  · rintro H2 ⟨F2, M2, ds, ws, e2, g2, r2, h2⟩
    rw [List.drop_length] at h2
    exact hR ds ws M2 F2 H2 A h2 (e1.trans e2) nU r2 g2
/-- what a comprehension asks of its parts -/
theorem de_comp {elt iter : Expr} {ifs : List Expr} {scope : Scope} {own : List (Str × Nat)} {ti : DTI} {g : TG} {bd : Bd} {tt : DTT} {te : DT} (hc : X.calm = true) (hN : X.N.Nodup) (hi : DPI X ca W tg iter ti) (ok : BlkOk X.N X.env.scope scope own) (hb : BdOk X.K ca g bd (own.map (·.2)))
    (hg : ∀ (s : Shared) (H : Hp) (C : Addr) (cl : List (Str × Addr)) (fp : List Addr), PG (X.blk s H scope (compEnvC scope cl C X.env) fp) tg g) (ht : ∀ (s : Shared) (H : Hp) (C : Addr) (cl : List (Str × Addr)) (fp : List Addr), PTs (X.blk s H scope (compEnvC scope cl C X.env) fp) ifs (liftT X.K ca WF tt))
    (he : ∀ (s : Shared) (H : Hp) (C : Addr) (cl : List (Str × Addr)) (fp : List Addr), DE (X.blk s H scope (compEnvC scope cl C X.env) fp) ca WF elt te) (hs : ∀ x, foldedSetIterable iter X.env x = pure x := by intro _; rfl) :
    DE X ca W (.ListComp elt [⟨tg, iter, ifs, 0⟩] scope pos) (dStill (dComp ti bd tt te (own.map (·.2)))) := peImp (pe_lc hc hN hi ok hg ht he hs) fun σ H R ⟨U, F, M, δ, E, Q, S, h, c⟩ =>
  comp_go hb S h fun ds ws M' F' H' A q e nU r hr => by
    obtain ⟨g2, e2⟩ := hr.asideF nU
    exact c _ _ _ _ _ q (e.trans e2) ⟨A, ws, rfl, .inl (.inl upd_same), r.mono e2⟩ g2
theorem de_compM {elt iter : Expr} {ifs : List Expr} {scope : Scope} {own : List (Str × Nat)} {ti : DTI} {g : TG} {bd : Bd} {tt : DTT} {te : DT} (hc : X.calm = true) (hN : X.N.Nodup) (hi : DPI X ca W tg iter ti) (ok : BlkOk X.N X.env.scope scope own) (hb : BdOk X.K ca g bd (own.map (·.2)))
    (hg : ∀ (s : Shared) (H : Hp) (C : Addr) (cl : List (Str × Addr)) (fp : List Addr), PG (X.blk s H scope (compEnvC scope cl C X.env) fp) tg g) (ht : ∀ (s : Shared) (H : Hp) (C : Addr) (cl : List (Str × Addr)) (fp : List Addr), PTs (X.blk s H scope (compEnvC scope cl C X.env) fp) ifs (liftT X.K ca WF tt))
    (he : ∀ (s : Shared) (H : Hp) (C : Addr) (cl : List (Str × Addr)) (fp : List Addr), DE (X.blk s H scope (compEnvC scope cl C X.env) fp) ca WF elt te) (hs : ∀ x, foldedSetIterable iter X.env x = pure x := by intro _; rfl) :
    DE X ca W (.ListComp elt [⟨tg, iter, ifs, 0⟩] scope pos) (dFresh (dComp ti bd tt te (own.map (·.2)))) := peImp (pe_lc hc hN hi ok hg ht he hs) fun σ H R ⟨U, F, M, δ, E, Q, S, h, c⟩ =>
  comp_go hb S h fun ds ws M' F' H' A q e nU r hr => by
    have hA : H' A = some (.lst ws) := hr.own A _ upd_same
    have nM : M' A = none := by
      cases z : M' A with
      | none => rfl
      | some m => have y := (hr.mem _ _ z).2.1; rw [upd_same] at y; cases y
    exact c _ _ _ _ _ (q A nM) e rfl (hr.asideM nU ⟨ws, hA, r⟩)
/-- name = [..] -/
theorem ds_setComp {i : Nat} {y : Str} {py spos : Pos} {elt iter : Expr} {ifs : List Expr} {scope : Scope} {own : List (Str × Nat)} {ti : DTI} {g : TG} {bd : Bd} {tt : DTT} {te : DT} (hc : X.calm = true) (hN : X.N.Nodup) (hi : DPI X ca W tg iter ti) (ok : BlkOk X.N X.env.scope scope own) (hb : BdOk X.K ca g bd (own.map (·.2)))
    (hg : ∀ (s : Shared) (H : Hp) (C : Addr) (cl : List (Str × Addr)) (fp : List Addr), PG (X.blk s H scope (compEnvC scope cl C X.env) fp) tg g) (ht : ∀ (s : Shared) (H : Hp) (C : Addr) (cl : List (Str × Addr)) (fp : List Addr), PTs (X.blk s H scope (compEnvC scope cl C X.env) fp) ifs (liftT X.K ca WF tt))
    (he : ∀ (s : Shared) (H : Hp) (C : Addr) (cl : List (Str × Addr)) (fp : List Addr), DE (X.blk s H scope (compEnvC scope cl C X.env) fp) ca WF elt te)
    (hy : X.N[i]? = some y := by rfl) (hyl : X.env.scope.names.lookup y = some .local := by rfl) (hsw : swapsWith (.ListComp elt [⟨tg, iter, ifs, 0⟩] scope pos) (some (.Name y py)) spos.line X.env = pure true := by exact sw_true rfl rfl rfl (by decide +kernel)) (hs : ∀ x, foldedSetIterable iter X.env x = pure x := by intro _; rfl) :
    DPS X ca W (.Assign [.Name y py] (.ListComp elt [⟨tg, iter, ifs, 0⟩] scope pos) spos) (sAsg (dStill (dComp ti bd tt te (own.map (·.2)))) (gNameD i)) := psImp (ps_setLc hc hN hy hyl hsw hi ok hg ht he hs) fun R σ H ⟨U, F, M, δ, Z, S, h, c⟩ => by
  have h : dComp ti bd tt te (own.map (·.2)) δ M Z.ex (fun l M1 => Z.nx (stt δ i (.lst l)) M1) := h
  exact comp_go hb S h fun ds ws M' F' H' A q e nU r hr => by
    obtain ⟨g2, e2⟩ := hr.asideF nU
    exact c.nx _ _ _ _ _ q (e.trans e2) (((S.env.mono e).mono e2).set (d := .lst ds) ⟨A, ws, rfl, .inl (.inl upd_same), r.mono e2⟩ i) g2
theorem ds_setCompM {i : Nat} {y : Str} {py spos : Pos} {elt iter : Expr} {ifs : List Expr} {scope : Scope} {own : List (Str × Nat)} {ti : DTI} {g : TG} {bd : Bd} {tt : DTT} {te : DT} (hc : X.calm = true) (hN : X.N.Nodup) (hi : DPI X ca W tg iter ti) (ok : BlkOk X.N X.env.scope scope own) (hb : BdOk X.K ca g bd (own.map (·.2)))
    (hg : ∀ (s : Shared) (H : Hp) (C : Addr) (cl : List (Str × Addr)) (fp : List Addr), PG (X.blk s H scope (compEnvC scope cl C X.env) fp) tg g) (ht : ∀ (s : Shared) (H : Hp) (C : Addr) (cl : List (Str × Addr)) (fp : List Addr), PTs (X.blk s H scope (compEnvC scope cl C X.env) fp) ifs (liftT X.K ca WF tt))
    (he : ∀ (s : Shared) (H : Hp) (C : Addr) (cl : List (Str × Addr)) (fp : List Addr), DE (X.blk s H scope (compEnvC scope cl C X.env) fp) ca WF elt te)
    (hy : X.N[i]? = some y := by rfl) (hyl : X.env.scope.names.lookup y = some .local := by rfl) (hsw : swapsWith (.ListComp elt [⟨tg, iter, ifs, 0⟩] scope pos) (some (.Name y py)) spos.line X.env = pure true := by exact sw_true rfl rfl rfl (by decide +kernel)) (hs : ∀ x, foldedSetIterable iter X.env x = pure x := by intro _; rfl) :
    DPS X ca W (.Assign [.Name y py] (.ListComp elt [⟨tg, iter, ifs, 0⟩] scope pos) spos) (sAsg (dFresh (dComp ti bd tt te (own.map (·.2)))) (gNameD i)) := psImp (ps_setLc hc hN hy hyl hsw hi ok hg ht he hs) fun R σ H ⟨U, F, M, δ, Z, S, h, c⟩ => by
  have h : dComp ti bd tt te (own.map (·.2)) δ M Z.ex (fun l M1 => ∀ p, M1 p = none → Z.nx (stt δ i (.ref p)) (M1.set p (.lst l))) := h
  exact comp_go hb S h fun ds ws M' F' H' A q e nU r hr => by
    have hA : H' A = some (.lst ws) := hr.own A _ upd_same
    have nM : M' A = none := by
      cases z : M' A with
      | none => rfl
      | some m => have y := (hr.mem _ _ z).2.1; rw [upd_same] at y; cases y
    exact c.nx _ _ _ _ _ (q A nM) e ((S.env.mono e).set (d := .ref A) rfl i) (hr.asideM nU ⟨ws, hA, r⟩)
theorem dts_nil : PTs X [] (liftT X.K ca W dYes) := ⟨fun pins s σ H R I ⟨U, F, M, δ, E, Q, S, h, c⟩ => pts_nil.run pins s σ H R I (c _ _ _ _ h Ext.rfl' S.hr)⟩
theorem dts_one {c : Expr} {t : DTT} (h : DPT X ca W c t) : PTs X [c] (liftT X.K ca W t) := pts_one h
end
end TS
namespace TS
open PySem PySem.Spec PyProof.Rows L2

/-! ### promises over data, and calls -/
section
variable (K : Fg) (ca : Ca)
def XClF (U F : Hp) (E : XD) (R : XK) : Prop := ∀ c fs M' F' H' od, E c fs M' → Ext F F' → HR K ca U F' M' H' → ExcO K ca F' H' od fs → R (.ref (ca c)) od H'
def toSp (sp : DSp) : Sp := fun vs H R X => ∃ U F M ds E Q, RepL K ca F ds vs ∧ HR K ca U F M H ∧ sp ds M E Q ∧ Cl K ca U F Q R ∧ XClF K ca U F E X
end
/-- the def at f keeps the promise; dds: what its last parameters are where they are not given -/
structure FnD (P : Program) (w : World) (K : Fg) (mg : Str → Option Value) (base : Heap) (ca : Ca) (k : Nat) (f : Addr) (dds : List D) (sp : DSp) : Prop where
  ex : ∃ fd ps ds dvs, FnOk P w K mg base (L2.CX P w) k f fd ps (toSp K ca sp) ∧ Binds K fd ps ds ∧ Vals dvs ds ∧ ∀ F, RepL K ca F dds dvs
abbrev FnX (X : Cx) (ca : Ca) (k : Nat) (f : Addr) (dds : List D) (sp : DSp) : Prop := FnD X.prog X.w X.K X.mg X.base ca k f dds sp
theorem FnD.mono {P : Program} {w : World} {K : Fg} {mg : Str → Option Value} {base : Heap} {ca : Ca} {j k : Nat} {f : Addr} {dds : List D} {sp : DSp} (h : FnD P w K mg base ca j f dds sp) (l : j ≤ k) : FnD P w K mg base ca k f dds sp :=
  let ⟨fd, ps, ds, dvs, a, b, c, d⟩ := h.ex
  ⟨fd, ps, ds, dvs, a.mono l, b, c, d⟩
section
variable {X : Cx} {ca : Ca} {W : WX} {pins : List (Addr × Obj)} {s : Shared} {σ : L2.St} {U F H : Hp} {M : Mem} {δ : DEnv} {E : EX} {Q : QD} {R : VK} {k : Nat} {f : Addr} {dds ds : List D} {sp : DSp} {vs : List V} {us : List Value}
/-- the callee runs, anywhere below this body -/
theorem run_fnD {A : Around} (sb : Sub X k A) (G : FnX X ca k f dds sp) (tk : Takes X W) (I : Inv X pins σ H s) (S : Stt X.K ca U W F M δ E σ H) (r : Vals vs us) (rl : RepL X.K ca F ds vs) (h : sp (ds ++ dds) M (fun c fs M' => E c fs δ M') Q) (c : Cl X.K ca U F Q R) :
    wpAny (model X.prog X.w) A (call (.ref f) us) (EP X pins σ R) X.xe s := by
  obtain ⟨fd, ps, dvals, dvs, FF, hb, hd, hdr⟩ := G.ex
  have r2 : Vals (vs ++ dvs) (us ++ dvals) := r.append hd
  have hsp : toSp X.K ca sp (vs ++ dvs) H R (fun cls od H' => W cls od σ H') :=
    ⟨U, F, M, ds ++ dds, _, Q, rl.append (hdr F), S.hr, h, c, fun c' fs M' F' H' od he e hr ho => S.xc c' fs δ M' F' σ H' od he e (S.env.mono e) hr ho⟩
  have hl : (us ++ dvals).length = ps.length := by rw [← r2.length]; exact FF.len _ _ _ _ hsp
  have e0 : Env0 X.prog X.w X.K X.mg X.base A X.stack s H := by
    have e := I.env0
    exact ⟨by rw [sb.fr]; exact e.frames, e.mod, e.bs, e.bsz, e.funs, e.frf, e.hok, e.bare⟩
  refine wpAny_call (codeAny_mono (FF.run A X.stack s H ⟨us, []⟩ (us ++ dvals) (vs ++ dvs) R _ sb.room e0 (hb s us I.kIn hl) r2 hsp) fun r s' hq => ?_)
  cases r with
  | error e => exact tk e s' (XE.of_call I (fun cls d H' z => z) hq)
  | ok fl =>
    cases fl with
    | ret u => exact I.after hq
    | next => exact False.elim hq
    | brk => exact False.elim hq
    | cont => exact False.elim hq
theorem sub0 (c : Ctx X k W) : Sub X k X.A := ⟨c.room, rfl⟩
end

/-- a def of the module by its name -/
structure Fn (X : Cx) (ca : Ca) (k : Nat) (x : Str) (dds : List D) (sp : DSp) : Prop where
  ex : ∃ f, X.mg x = some (.ref f) ∧ PySem.W.keepIn X.K (.ref f) = true ∧ FnX X ca k f dds sp
section
variable {X : Cx} {ca : Ca} {W : WX} {k j : Nat} {x : Str} {dds : List D} {sp : DSp} {p pos apos : Pos} {e o : Expr} {es : List Expr} {t : DTA} {to : DT}
def dCall (sp : DSp) (dds : List D) (t : DTA) : DT := fun δ M E Q => t δ M E fun ds M1 => sp (ds ++ dds) M1 (fun c fs M' => E c fs δ M') Q
theorem de_call (C : Ctx X j W) (G : Fn X ca k x dds sp) (ha : DPA X ca W (e :: es) t) (hk : k ≤ j := by decide) (hg : Gl X x := by rfl) (hdb : (x == ("__debug__" : Str)) = false := by decide) (he : starEach (e :: es) X.env = (false, eval e X.env) :: starEach es X.env := by rfl) (hpl : (backTo pos (starEach es X.env)).any (·.1) = false := by rfl) :
    DE X ca W (.Call (.Name x p) (e :: es) [] pos) (dCall sp dds t) := by
  obtain ⟨f, hm, kp, G⟩ := G.ex
  refine ⟨fun pins s σ H R I ⟨U, F, M, δ, E, Q, S, h, c⟩ => ?_⟩
  refine wpAny_Call_Name_kw (ld_glob I hg hm ?_ hdb)
  refine PySem.W.callWith_K (h₀ := X.base) I.ok.mod.kin kp (thn (ha.run pos pins s σ H (fun vs H1 => ∃ F1 M1 ds, Stt X.K ca U W F1 M1 δ E σ H1 ∧ RepL X.K ca F1 ds vs ∧ sp (ds ++ dds) M1 (fun c fs M' => E c fs δ M') Q ∧ Cl X.K ca U F1 Q R) I ?_) fun us s1 ⟨vs, H1, I1, r, F1, M1, ds, S1, rl, hs, c1⟩ => ⟨I1.kIn, ?_⟩) he hpl
  · exact liftA_of S h fun ds M1 F1 vs H1 h1 e1 r1 g1 => ⟨F1, M1, ds, S.up e1 g1, r1, h1, c.up e1⟩
  · exact run_fnD ⟨C.room.mono hk, rfl⟩ G C.tk I1 S1 r rl hs c1
theorem de_call0 (C : Ctx X j W) (G : Fn X ca k x dds sp) (hk : k ≤ j := by decide) (hg : Gl X x := by rfl) (hdb : (x == ("__debug__" : Str)) = false := by decide) : DE X ca W (.Call (.Name x p) [] [] pos) (dCall sp dds dNil) := by
  obtain ⟨f, hm, kp, G⟩ := G.ex
  refine ⟨fun pins s σ H R I ⟨U, F, M, δ, E, Q, S, h, c⟩ => ?_⟩
  refine wpAny_Call_Name_kw (ld_glob I hg hm ?_ hdb)
  exact PySem.W.callWith_K0 I.kIn kp (run_fnD (us := []) (vs := []) (ds := []) ⟨C.room.mono hk, rfl⟩ G C.tk I S .nil rfl h c)
end

/-! ### a def by its body -/
section
variable {P : Program} {w : World} {K : Fg} {mg : Str → Option Value} {base : Heap} {ca : Ca}
/-- the wish of a def's body -/
abbrev WB (E : XK) : WX := fun cls d _ H => E cls d H
theorem ctx_of {k : Nat} {N : List Str} {qual : Str} {scope : Scope} {f : Addr} {cd : Value} {A : Around} {outer : List Env} {s : Shared} {H : Hp} {E : XK} (hr : Room k (A.deeper (envOfC qual scope s.heap.objs.size f cd))) :
    Ctx (cxOf (L2.CX P w) P w K mg base N qual scope f cd A outer s H E) k (WB E) := ⟨hr, takes_of rfl rfl rfl rfl, rfl⟩
/-- THE RULE: body's reading, and the promise out of it -/
theorem fn_okX {x qual : Str} {params : Arguments} {body : List Stmt} {scope : Scope} {dvs : List V} {kws : List (Str × V)} {f : Addr} {fd : FuncData} {N ps : List Str} {k : Nat} {sp : DSp} {t : DTS} (G : FunD K x qual params body scope dvs kws f fd) (S : FnScope N ps scope)
    (len : ∀ ds M E Q, sp ds M E Q → ds.length = ps.length)
    (hb : ∀ (cdv : Value) (A : Around) (outer : List Env) (s : Shared) (H : Hp) (E : XK), Room k (A.deeper (envOfC qual scope s.heap.objs.size f cdv)) →
      DPSs (cxOf (L2.CX P w) P w K mg base N qual scope f cdv A outer s H E) ca (WB E) body t)
    (hp : ∀ ds M E Q, sp ds M E Q → t { nx := fun _ M' => Q .non M', rt := Q, ex := fun c fs _ M' => E c fs M' } (startD N.length ds) M) :
    FnOk P w K mg base (L2.CX P w) (k + 1) f fd ps (toSp K ca sp) := by
  refine fnOk_by G S (fun vs H Q E h => ?_) (fun cdv A outer s H vs R E hr h => ⟨_, hb cdv A outer s H E hr, ?_⟩)
  · obtain ⟨U, F, M, ds, EX, QD, rl, _, h, _⟩ := h
    rw [rl.length]
    exact len _ _ _ _ h
  · obtain ⟨U, F, M, ds, EX, QD, rl, hr', h, c, xc⟩ := h
    have hN : vs.length ≤ N.length := by
      have e1 : (N.take ps.length).length = ps.length := by rw [S.pre]
      rw [List.length_take] at e1
      rw [rl.length, len _ _ _ _ h]
      omega
    refine ⟨U, F, M, startD N.length ds, { nx := fun _ M' => QD .non M', rt := QD, ex := fun c fs _ M' => EX c fs M' }, ⟨EnvR.start rl hN, hr', fun c' fs δ' M' F' σ' H' od he e ev hr2 ho => xc c' fs M' F' H' od he e hr2 ho⟩, hp _ _ _ _ h, ?_⟩
    exact ⟨fun δ' M' F' σ' H' q e ev hr2 => c _ _ _ _ _ q e rfl hr2, c, fun _ _ _ _ _ q => q.elim, fun _ _ _ _ _ q => q.elim⟩
end

/-! ### operators of built-in values -/
section
variable {X : Cx} {ca : Ca} {W : WX}
theorem opD_of {f : Value → Value → Sem Value} {r : R2} {op : DOp} (ho : OpR X f r) (h : ∀ (U F H : Hp) (M : Mem) (δ : DEnv) (E : XD) (Q : QD) (R : VK) (dx dy : D) (x y : V), HR X.K ca U F M H → Rep X.K ca F dx x → Rep X.K ca F dy y → op dx dy M E Q → Cl X.K ca U F Q R → r x y H R) : OpD X ca W f op :=
  fun pins s σ H U F M δ E Q R dx dy x y v u I S rx ry rv ru ho' c => ho pins s σ H x y v u R I rv ru (h U F H M δ _ Q R dx dy x y S.hr rx ry ho' c)
/-- two operators' readings, by the values -/
def oOr (a b : DOp) : DOp := fun x y M E Q => a x y M E Q ∨ b x y M E Q
theorem OpD.or {f : Value → Value → Sem Value} {a b : DOp} (h1 : OpD X ca W f a) (h2 : OpD X ca W f b) : OpD X ca W f (oOr a b) := fun pins s σ H U F M δ E Q R dx dy x y v u I S rx ry rv ru ho c =>
  ho.elim (fun ho => h1 pins s σ H U F M δ E Q R dx dy x y v u I S rx ry rv ru ho c) fun ho => h2 pins s σ H U F M δ E Q R dx dy x y v u I S rx ry rv ru ho c
def mulOk (i j : Int) : Prop := i.natAbs.log2 + j.natAbs.log2 < 1000000
def rCatL (K : PySem.W.Frag) : R2 := fun x y H Q => ∃ l b xs zs, x = .ref l ∧ y = .ref b ∧ SqL K H l xs ∧ SqL K H b zs ∧ xs.length + zs.length ≤ sizeLine ∧ ∀ p, H p = none → Q (.ref p) (upd H p (.lst (xs ++ zs)))
theorem plain_obj {h : Heap} {a : Addr} {its : Array Value} (p : PlainL h a its) : ∃ n sl, h.get? a = some { cls := .type "list", dict := none, data := .seq its n, slots := sl } := by
  obtain ⟨o, n, e, c, d, q⟩ := p
  obtain ⟨oc, od, dt, sl⟩ := o
  simp only at c d q
  subst c; subst d; subst q
  exact ⟨n, sl, e⟩
theorem op_mulD : OpD X ca W (binaryOp .Mult) (fun x y M E Q => match x, y with | .int i, .int j => mulOk i j ∧ Q (.int (i * j)) M | _, _ => False) :=
  opD_of op_mulW fun U F H M δ E Q R dx dy x y hr rx ry ho c => by
    cases dx <;> cases dy <;> first | exact ho.elim | skip
    exact ⟨_, _, rx, ry, ho.1, c _ _ _ _ _ ho.2 Ext.rfl' rfl hr⟩
def oSub0 : DOp := fun x y M E Q => match x, y with | .int i, .int j => Q (.int (i - j)) M | _, _ => False
theorem op_subD : OpD X ca W (binaryOp .Sub) oSub0 := opD_of op_sub fun U F H M δ E Q R dx dy x y hr rx ry ho c => by
  cases dx <;> cases dy <;> first | exact ho.elim | skip
  exact ⟨_, _, rx, ry, c _ _ _ _ _ ho Ext.rfl' rfl hr⟩
def oMul0 : DOp := fun x y M E Q => match x, y with | .int i, .int j => mulOk i j ∧ Q (.int (i * j)) M | _, _ => False
theorem op_mulD0 : OpD X ca W (binaryOp .Mult) oMul0 := op_mulD
def oDiv0 : DOp := fun x y M E Q => match x, y with | .int i, .int j => j ≠ 0 ∧ j.natAbs.log2 < 9000 ∧ Q (.int (i.fdiv j)) M | _, _ => False
theorem op_fdivL : OpR X (binaryOp .FloorDiv) (rI (fun _ j => j ≠ 0 ∧ j.natAbs.log2 < 9000) fun i j => .int (i.fdiv j)) := opI fun _ _ _ _ _ _ _ hc q => floordiv_int hc.1 q (.inl (PyProof.noPylong_of_log2 hc.2))
theorem op_divD : OpD X ca W (binaryOp .FloorDiv) oDiv0 := opD_of op_fdivL fun U F H M δ E Q R dx dy x y hr rx ry ho c => by
  cases dx <;> cases dy <;> first | exact ho.elim | skip
  exact ⟨_, _, rx, ry, ⟨ho.1, ho.2.1⟩, c _ _ _ _ _ ho.2.2 Ext.rfl' rfl hr⟩
def oMod0 : DOp := fun x y M E Q => match x, y with | .int i, .int j => j ≠ 0 ∧ Q (.int (i.fmod j)) M | _, _ => False
theorem op_modD : OpD X ca W (binaryOp .Mod) oMod0 := opD_of op_modN fun U F H M δ E Q R dx dy x y hr rx ry ho c => by
  cases dx <;> cases dy <;> first | exact ho.elim | skip
  exact ⟨_, _, rx, ry, ho.1, c _ _ _ _ _ ho.2 Ext.rfl' rfl hr⟩
def oPow0 : DOp := fun x y M E Q => match x, y with | .int i, .int j => (0 ≤ j ∧ j ≤ 1000000 ∧ i.natAbs < 2 ^ 64) ∧ Q (.int (i ^ j.toNat)) M | _, _ => False
theorem op_powD : OpD X ca W (binaryOp .Pow) oPow0 := opD_of op_pow fun U F H M δ E Q R dx dy x y hr rx ry ho c => by
  cases dx <;> cases dy <;> first | exact ho.elim | skip
  exact ⟨_, _, rx, ry, ho.1, c _ _ _ _ _ ho.2 Ext.rfl' rfl hr⟩
/-! order of ints -/
def oCmpI (p : Int → Int → Bool) : DOp := fun x y M E Q => match x, y with | .int i, .int j => Q (.bl (p i j)) M | _, _ => False
abbrev oLt0 : DOp := oCmpI fun i j => decide (i < j)
abbrev oLe0 : DOp := oCmpI fun i j => decide (i ≤ j)
abbrev oGt0 : DOp := oCmpI fun i j => decide (j < i)
abbrev oGe0 : DOp := oCmpI fun i j => decide (j ≤ i)
theorem op_ltD : OpD X ca W (compareOp .Lt) oLt0 := opD_of op_lt fun U F H M δ E Q R dx dy x y hr rx ry ho c => by
  cases dx <;> cases dy <;> first | exact ho.elim | exact ⟨_, _, rx, ry, c _ _ _ _ _ ho Ext.rfl' rfl hr⟩
theorem op_leD : OpD X ca W (compareOp .LtE) oLe0 := opD_of op_le fun U F H M δ E Q R dx dy x y hr rx ry ho c => by
  cases dx <;> cases dy <;> first | exact ho.elim | exact ⟨_, _, rx, ry, c _ _ _ _ _ ho Ext.rfl' rfl hr⟩
theorem op_gtD : OpD X ca W (compareOp .Gt) oGt0 := opD_of op_gt fun U F H M δ E Q R dx dy x y hr rx ry ho c => by
  cases dx <;> cases dy <;> first | exact ho.elim | exact ⟨_, _, rx, ry, c _ _ _ _ _ ho Ext.rfl' rfl hr⟩
theorem op_geD : OpD X ca W (compareOp .GtE) oGe0 := opD_of op_ge fun U F H M δ E Q R dx dy x y hr rx ry ho c => by
  cases dx <;> cases dy <;> first | exact ho.elim | exact ⟨_, _, rx, ry, c _ _ _ _ _ ho Ext.rfl' rfl hr⟩
theorem op_catL : OpR X (binaryOp .Add) (rCatL X.K) := by
  intro pins s σ H x y v u Q I rx ry h
  obtain ⟨l, b, xs, zs, rfl, rfl, hL, hB, hz, q⟩ := h
  cases rx
  cases ry
  obtain ⟨its, r, p1, _⟩ := I.list hL
  obtain ⟨its2, r2, p2, _⟩ := I.list hB
  have hl := r.length
  have hl2 := r2.length
  obtain ⟨n, sl, e⟩ := plain_obj p1
  obtain ⟨n2, sl2, e2⟩ := plain_obj p2
  refine concat_meets ⟨_, e, rfl⟩ ⟨_, e2, rfl⟩ noFill_list_add seq_list_add PySem.F.slot_list_add PySem.F.entry_list_add (PySem.F.args_list_add_2 _ _) (list_addW l b its.toArray its2.toArray n n2 none none sl sl2 (by rw [List.size_toArray, List.size_toArray]; omega)) ⟨e, e2, ?_⟩
  have ea : its.toArray ++ its2.toArray = (its ++ its2).toArray := by simp
  rw [ea]
  exact ⟨.ref _, _, I.lnew (t' := s.toks) (r.append r2) (by rw [List.length_append]; omega), rfl, q _ I.fresh⟩
end

/-! ### views -/
/-- the items of a list, of one in the store too -/
def asL (M : Mem) : D → Option (List D)
  | .lst l => some l
  | .ref p => match M p with | some (.lst l) => some l | _ => none
  | _ => none
def asT : D → Option (List D)
  | .tup l => some l
  | _ => none
section
variable {X : Cx} {ca : Ca} {W : WX} {K : Fg} {U F H : Hp} {M : Mem} {d : D} {v : V} {l : List D}
theorem asL_ok (hr : HR K ca U F M H) (r : Rep K ca F d v) (h : asL M d = some l) : ∃ a vs, v = .ref a ∧ SqL K H a vs ∧ RepL K ca F l vs := by
  cases d with
  | lst l' =>
    cases h
    obtain ⟨a, vs, e, hs, rl⟩ := r
    exact ⟨a, vs, e, hs.ext hr.sub, rl⟩
  | ref p =>
    unfold asL at h
    cases q : M p with
    | none => simp only [q] at h; cases h
    | some m =>
      cases m with
      | lst l' =>
        simp only [q] at h
        cases h
        obtain ⟨_, _, vs, e, rl⟩ := hr.mem _ _ q
        exact ⟨p, vs, r, .inl (.inl e), rl⟩
      | _ => simp only [q] at h; cases h
  | _ => cases h
theorem asT_ok (hr : HR K ca U F M H) (r : Rep K ca F d v) (h : asT d = some l) : ∃ a vs, v = .ref a ∧ SqT K H a vs ∧ RepL K ca F l vs := by
  cases d with
  | tup l' =>
    cases h
    obtain ⟨a, vs, e, hs, rl⟩ := r
    exact ⟨a, vs, e, hs.ext hr.sub, rl⟩
  | _ => cases h
/-! + of built-in values -/
def oAdd0 : DOp := fun x y M E Q => match x, y with
  | .int i, .int j => Q (.int (i + j)) M
  | .str a, .str b => a.length + b.length ≤ sizeLine ∧ Q (.str (a ++ b)) M
  | .tup a, .tup b => a.length + b.length ≤ sizeLine ∧ Q (.tup (a ++ b)) M
  | x, y => match asL M x, asL M y with
    | some a, some b => a.length + b.length ≤ sizeLine ∧ Q (.lst (a ++ b)) M
    | _, _ => False
theorem op_addD : OpD X ca W (binaryOp .Add) oAdd0 := by
  intro pins s σ H U F M δ E Q R dx dy x y v u I S rx ry rv ru ho c
  have lists : ∀ a b, asL M dx = some a → asL M dy = some b → a.length + b.length ≤ sizeLine ∧ Q (.lst (a ++ b)) M → wpAny (model X.prog X.w) X.A (binaryOp .Add v u) (EP X pins σ R) X.xe s := fun a b ha hb ⟨hz, q⟩ => by
    obtain ⟨p, vs, rfl, hs, rl⟩ := asL_ok S.hr rx ha
    obtain ⟨p', vs', rfl, hs', rl'⟩ := asL_ok S.hr ry hb
    refine op_catL pins s σ H _ _ v u R I rv ru ⟨p, p', vs, vs', rfl, rfl, hs, hs', by rw [rl.length, rl'.length]; exact hz, fun t ht => ?_⟩
    obtain ⟨g2, e2⟩ := S.hr.newF ht (.lst (vs ++ vs'))
    exact c _ _ _ _ _ q e2 ⟨t, _, rfl, .inl (.inl upd_same), (rl.append rl').mono e2⟩ g2
  have other : (match asL M dx, asL M dy with
    | some a, some b => a.length + b.length ≤ sizeLine ∧ Q (.lst (a ++ b)) M
    | _, _ => False) → wpAny (model X.prog X.w) X.A (binaryOp .Add v u) (EP X pins σ R) X.xe s := fun h => by
    cases e1 : asL M dx with
    | none => rw [e1] at h; exact h.elim
    | some a =>
      cases e2 : asL M dy with
      | none => rw [e1, e2] at h; exact h.elim
      | some b => rw [e1, e2] at h; exact lists a b e1 e2 h
  cases dx with
  | int i =>
    cases dy with
    | int j => exact op_add pins s σ H x y v u R I rv ru ⟨_, _, rx, ry, c _ _ _ _ _ ho Ext.rfl' rfl S.hr⟩
    | _ => exact other ho
  | str a =>
    cases dy with
    | str b => exact op_add_str pins s σ H x y v u R I rv ru ⟨_, _, rx, ry, ho.1, c _ _ _ _ _ ho.2 Ext.rfl' rfl S.hr⟩
    | _ => exact other ho
  | tup a =>
    cases dy with
    | tup b =>
      obtain ⟨p, vs, rfl, hs, rl⟩ := rx
      obtain ⟨p', vs', rfl, hs', rl'⟩ := ry
      have h1 : vs = [] ↔ a = [] := by rw [← List.length_eq_zero_iff, ← List.length_eq_zero_iff, rl.length]
      have h2 : vs' = [] ↔ b = [] := by rw [← List.length_eq_zero_iff, ← List.length_eq_zero_iff, rl'.length]
      refine op_catA pins s σ H _ _ v u R I rv ru ⟨p, p', vs, vs', rfl, rfl, hs.ext S.hr.sub, hs'.ext S.hr.sub, by rw [rl.length, rl'.length]; exact ho.1, fun z => ?_, fun _ z => ?_, fun _ _ t ht => ?_⟩
      · have e : a = [] := h1.mp z
        subst e
        exact c _ _ _ _ _ ho.2 Ext.rfl' ⟨p', vs', rfl, hs', rl'⟩ S.hr
      · have e : b = [] := h2.mp z
        subst e
        have q := ho.2
        rw [List.append_nil] at q
        exact c _ _ _ _ _ q Ext.rfl' ⟨p, vs, rfl, hs, rl⟩ S.hr
      · obtain ⟨g2, e2⟩ := S.hr.newF ht (.tup (vs ++ vs'))
        exact c _ _ _ _ _ ho.2 e2 ⟨t, _, rfl, .inl (.inl upd_same), (rl.append rl').mono e2⟩ g2
    | _ => exact other ho
  | _ => exact other ho
end
end TS
namespace TS
open PySem PySem.Spec PyProof.Rows L2
section
variable {X : Cx} {ca : Ca} {W : WX}

/-! ### subscripts -/
theorem atI_rep {K : Fg} {F : Hp} {l : List D} {vs : List V} {i : Int} {d : D} (r : RepL K ca F l vs) (h : atI l i = some d) : ∃ v, atI vs i = some v ∧ Rep K ca F d v := by
  unfold atI at h ⊢
  rw [r.length]
  cases e : ixN l.length i with
  | none => rw [e] at h; cases h
  | some j =>
    rw [e] at h
    exact r.get h
theorem tOp_of {K : Fg} {r : R2} {op : DOp} {ta tb : DT} (h : ∀ (U F H : Hp) (M : Mem) (E : XD) (Q : QD) (R : VK) (dx dy : D) (x y : V), HR K ca U F M H → Rep K ca F dx x → Rep K ca F dy y → op dx dy M E Q → Cl K ca U F Q R → r x y H R) {σ : L2.St} {H : Hp} {R : VK}
    (q : lift K ca W (dBin op ta tb) σ H R) : tOp r (lift K ca W ta) (lift K ca W tb) σ H R := by
  obtain ⟨U, F, M, δ, E, Q, S, q, c⟩ := q
  refine lift_of S q fun dx M1 F1 x H1 h1 e1 r1 g1 => ?_
  refine lift_of (S.up e1 g1) h1 fun dy M2 F2 y H2 h2 e2 r2 g2 => ?_
  exact h U F2 H2 M2 _ Q R dx dy x y g2 (r1.mono e2) r2 h2 (c.up (e1.trans e2))
def oIx0 : DOp := fun x y M E Q => match y with
  | .int i => match x with
    | .str z => z.length ≤ sizeLine ∧ match atI z.cps.toList i with | some c => Q (.str ⟨#[c]⟩) M | none => False
    | .tup l => match atI l i with | some d => Q d M | none => False
    | x => match asL M x with
      | some l => match atI l i with | some d => Q d M | none => False
      | none => False
  | _ => False
theorem de_ix {a b : Expr} {ta tb : DT} {pos : Pos} (ha : DE X ca W a ta) (hb : DE X ca W b tb) (hs : PlainIx b := by exact fun _ _ => rfl) : DE X ca W (.Subscript a b pos) (dBin oIx0 ta tb) :=
  peImp (pe_ix ix_seq ha hb hs) fun σ H R q => tOp_of (fun U F H M E Q R dx dy x y hr rx ry ho c => by
    cases dy with
    | int i =>
      have lists : (match asL M dx with
        | some l => match atI l i with | some d => Q d M | none => False
        | none => False) → rIx X.K x y H R := fun ho => by
        cases e : asL M dx with
        | none => rw [e] at ho; exact ho.elim
        | some l =>
          rw [e] at ho
          simp only at ho
          cases e2 : atI l i with
          | none => rw [e2] at ho; exact ho.elim
          | some d =>
            rw [e2] at ho
            obtain ⟨p, vs, ev, hs, rl⟩ := asL_ok hr rx e
            obtain ⟨v, av, rv⟩ := atI_rep rl e2
            exact .inl ⟨p, vs, i, v, ev, ry, hs, av, c _ _ _ _ _ ho Ext.rfl' rv hr⟩
      cases dx with
      | str z =>
        obtain ⟨hz, ho⟩ := ho
        cases e : atI z.cps.toList i with
        | none => rw [e] at ho; exact ho.elim
        | some k =>
          rw [e] at ho
          exact .inr (.inr ⟨z, i, k, rx, ry, hz, e, c _ _ _ _ _ ho Ext.rfl' rfl hr⟩)
      | tup l =>
        have ho : (match atI l i with | some d => Q d M | none => False) := ho
        cases e2 : atI l i with
        | none => rw [e2] at ho; exact ho.elim
        | some d =>
          rw [e2] at ho
          obtain ⟨p, vs, ev, hs, rl⟩ := rx
          obtain ⟨v, av, rv⟩ := atI_rep rl e2
          exact .inr (.inl ⟨p, vs, i, v, ev, ry, hs.ext hr.sub, av, c _ _ _ _ _ ho Ext.rfl' rv hr⟩)
      | _ => exact lists ho
    | _ => exact ho.elim) q
/-! slices -/
abbrev DTO := DEnv → Mem → EX → (Option Int → Mem → Prop) → Prop
def ClO (K : Fg) (ca : Ca) (U F : Hp) (Q : Option Int → Mem → Prop) (R : Option Int → Hp → Prop) : Prop := ∀ d M' F' H', Q d M' → Ext F F' → HR K ca U F' M' H' → R d H'
def liftO (K : Fg) (ca : Ca) (W : WX) (t : DTO) : TO := fun σ H R => ∃ U F M δ E Q, Stt K ca U W F M δ E σ H ∧ t δ M E Q ∧ ClO K ca U F Q R
def dNoPart : DTO := fun _ M _ Q => Q none M
def dPart (t : DT) : DTO := fun δ M E Q => t δ M E fun d M1 => match d with | .int i => Q (some i) M1 | _ => False
abbrev DPO (X : Cx) (ca : Ca) (W : WX) (e : Option Expr) (t : DTO) : Prop := PO X e (liftO X.K ca W t)
theorem poImp {e : Option Expr} {t t' : TO} (h : PO X e t) (k : ∀ σ H Q, t' σ H Q → t σ H Q) : PO X e t' := ⟨fun pins s σ H Q I q => h.run pins s σ H Q I (k σ H Q q)⟩
theorem do_none : DPO X ca W none dNoPart := poImp po_none fun σ H R ⟨U, F, M, δ, E, Q, S, h, c⟩ => c _ _ _ _ h Ext.rfl' S.hr
theorem do_some {e : Expr} {t : DT} (h : DE X ca W e t) : DPO X ca W (some e) (dPart t) := poImp (po_some h) fun σ H R ⟨U, F, M, δ, E, Q, S, h, c⟩ => by
  refine lift_of S h fun d M1 F1 v H1 h1 e1 r1 g1 => ?_
  cases d with
  | int i => exact ⟨i, r1, c _ _ _ _ h1 e1 g1⟩
  | _ => exact h1.elim
def cutD (l : List D) (lo hi : Option Int) : List D := (l.drop (HT.sIx l.length 0 lo)).take (HT.sIx l.length l.length hi - HT.sIx l.length 0 lo)
theorem cut_rep {K : Fg} {F : Hp} {l : List D} {vs : List V} (r : RepL K ca F l vs) (lo hi : Option Int) : RepL K ca F (cutD l lo hi) (cutV vs lo hi) := by
  unfold cutD cutV
  rw [r.length]
  exact (r.drop _).take _
/-- what a slice is -/
def sliceD (x : D) (lo hi : Option Int) (M : Mem) (Q : QD) : Prop := match x with
  | .str z => z.length ≤ sizeLine ∧ Q (.str (cutS z lo hi)) M
  | .tup l => Q (.tup (cutD l lo hi)) M
  | x => match asL M x with
    | some l => Q (.lst (cutD l lo hi)) M
    | none => False
def dSlice (t : DT) (lo hi : DTO) : DT := fun δ M E Q => t δ M E fun x M1 => lo δ M1 E fun l M2 => hi δ M2 E fun h M3 => sliceD x l h M3 Q
theorem cut_whole {l : List D} {lo hi : Option Int} (h : HT.sIx l.length 0 lo = 0 ∧ HT.sIx l.length l.length hi = l.length) : cutD l lo hi = l := by
  unfold cutD
  rw [h.1, h.2, List.drop_zero, Nat.sub_zero, List.take_length]
theorem de_slice {e : Expr} {lo hi : Option Expr} {t : DT} {tl th : DTO} {pos p2 : Pos} (he : DE X ca W e t) (hl : DPO X ca W lo tl) (hh : DPO X ca W hi th) : DE X ca W (.Subscript e (.Slice lo hi none p2) pos) (dSlice t tl th) :=
  peImp (pe_slice (sl_list.or (sl_tupA.or sl_str)) he hl hh) fun σ H R ⟨U, F, M, δ, E, Q, S, h, c⟩ => by
    refine lift_of S h fun dx M1 F1 x H1 h1 e1 r1 g1 => ?_
    refine ⟨U, F1, M1, δ, E, _, S.up e1 g1, h1, fun l M2 F2 H2 h2 e2 g2 => ?_⟩
    refine ⟨U, F2, M2, δ, E, _, (S.up e1 g1).up e2 g2, h2, fun u M3 F3 H3 h3 e3 g3 => ?_⟩
    have c3 := c.up ((e1.trans e2).trans e3)
    have r3 := (r1.mono e2).mono e3
    have lists : (match asL M3 dx with
        | some m => Q (.lst (cutD m l u)) M3
        | none => False) → rSlL X.K x l u H3 R := fun h3 => by
      cases ea : asL M3 dx with
      | none => rw [ea] at h3; exact h3.elim
      | some m =>
        rw [ea] at h3
        obtain ⟨p, vs, ev, hs, rl⟩ := asL_ok g3 r3 ea
        refine ⟨p, vs, ev, hs, fun q hq => ?_⟩
        obtain ⟨g4, e4⟩ := g3.newF hq (.lst (cutV vs l u))
        exact c3 _ _ _ _ _ h3 e4 ⟨q, _, rfl, .inl (.inl upd_same), (cut_rep rl l u).mono e4⟩ g4
    cases dx with
    | str z => exact .inr (.inr ⟨z, r3, h3.1, c3 _ _ _ _ _ h3.2 Ext.rfl' rfl g3⟩)
    | tup m =>
      obtain ⟨p, vs, ev, hs, rl⟩ := r3
      have hz : vs.length = m.length := rl.length
      refine .inr (.inl ⟨p, vs, ev, hs.ext g3.sub, fun w => ?_, fun w q hq => ?_⟩)
      · rw [hz] at w
        have h3 : Q (.tup (cutD m l u)) M3 := h3
        rw [cut_whole w] at h3
        exact c3 _ _ _ _ _ h3 Ext.rfl' ⟨p, vs, rfl, hs, rl⟩ g3
      · obtain ⟨g4, e4⟩ := g3.newF hq (.tup (cutV vs l u))
        exact c3 _ _ _ _ _ h3 e4 ⟨q, _, rfl, .inl (.inl upd_same), (cut_rep rl l u).mono e4⟩ g4
    | _ => exact .inl (lists h3)

end
end TS
namespace TS
open PySem PySem.Spec PyProof.Rows L2
section
variable {X : Cx} {ca : Ca} {W : WX}
/-! ### built-in functions -/
abbrev DCall := List D → Mem → XD → QD → Prop
def CallD (X : Cx) (ca : Ca) (W : WX) (f : Value) (r : DCall) : Prop :=
  ∀ (pins : List (Addr × Obj)) (s : Shared) (σ : L2.St) (H U F : Hp) (M : Mem) (δ : DEnv) (E : EX) (Q : QD) (R : VK) (ds : List D) (vs : List V) (us : List Value), Inv X pins σ H s → Stt X.K ca U W F M δ E σ H →
    RepL X.K ca F ds vs → Vals vs us → r ds M (fun c fs M' => E c fs δ M') Q → Cl X.K ca U F Q R → wpAny (model X.prog X.w) X.A (call f us) (EP X pins σ R) X.xe s
def dCB (r : DCall) (t : DTA) : DT := fun δ M E Q => t δ M E fun ds M1 => r ds M1 (fun c fs M' => E c fs δ M') Q
theorem args_go {es : List Expr} {t : DTA} {r : DCall} {f : Value} {pos : Pos} (hc : CallD X ca W f r) (ha : DPA X ca W es t) {pins : List (Addr × Obj)} {s : Shared} {σ : L2.St} {H : Hp} {R : VK} (I : Inv X pins σ H s) (h : lift X.K ca W (dCB r t) σ H R) :
    wpAny (model X.prog X.w) X.A (spliced (backTo pos (starEach es X.env))) (fun us s1 => wpAny (model X.prog X.w) X.A (call f us) (EP X pins σ R) X.xe s1) X.xe s := by
  obtain ⟨U, F, M, δ, E, Q, S, h, c⟩ := h
  refine thn (ha.run pos pins s σ H (fun vs H1 => ∃ F1 M1 ds, Stt X.K ca U W F1 M1 δ E σ H1 ∧ RepL X.K ca F1 ds vs ∧ r ds M1 (fun c fs M' => E c fs δ M') Q ∧ Cl X.K ca U F1 Q R) I ?_) fun us s1 ⟨vs, H1, I1, rv, F1, M1, ds, S1, rl, hs, c1⟩ => ?_
  · exact liftA_of S h fun ds M1 F1 vs H1 h1 e1 r1 g1 => ⟨F1, M1, ds, S.up e1 g1, r1, h1, c.up e1⟩
  · exact hc pins s1 σ H1 U F1 M1 δ E Q R ds vs us I1 S1 rl rv hs c1
variable {x : Str} {p pos : Pos} {e : Expr} {es : List Expr} {t : DTA} {r : DCall} {id T : String}
theorem de_callB (hc : CallD X ca W (.builtin id) r) (hm : X.mg x = none) (hv : bootBuiltins x = some (.builtin id)) (ha : DPA X ca W (e :: es) t) (hg : Gl X x := by rfl) (hn : x ≠ "__name__" := by decide) (hdb : (x == ("__debug__" : Str)) = false := by decide)
    (he : starEach (e :: es) X.env = (false, eval e X.env) :: starEach es X.env := by rfl) (hpl : (backTo pos (starEach es X.env)).any (·.1) = false := by rfl) : DE X ca W (.Call (.Name x p) (e :: es) [] pos) (dCB r t) :=
  ⟨fun pins s σ H Q I h => wpAny_Call_Name_kw (ld_blt I hg hm hv (PyProof.Rows.callWith_builtin1 (args_go hc ha I h) he hpl) hn hdb)⟩
theorem de_callTy (hc : CallD X ca W (.type T) r) (hm : X.mg x = none) (hv : bootBuiltins x = some (.type T)) (ha : DPA X ca W (e :: es) t) (hg : Gl X x := by rfl) (hn : x ≠ "__name__" := by decide) (hdb : (x == ("__debug__" : Str)) = false := by decide)
    (he : starEach (e :: es) X.env = (false, eval e X.env) :: starEach es X.env := by rfl) (hpl : (backTo pos (starEach es X.env)).any (·.1) = false := by rfl) : DE X ca W (.Call (.Name x p) (e :: es) [] pos) (dCB r t) :=
  ⟨fun pins s σ H Q I h => wpAny_Call_Name_kw (ld_blt I hg hm hv (PyProof.Rows.callWith_type1 (args_go hc ha I h) he hpl) hn hdb)⟩
theorem callD_of {f : Value} {rh : List V → Hp → VK → Prop} {r : DCall} (hc : CallR X f rh) (h : ∀ (U F H : Hp) (M : Mem) (E : XD) (Q : QD) (R : VK) (ds : List D) (vs : List V), HR X.K ca U F M H → RepL X.K ca F ds vs → r ds M E Q → Cl X.K ca U F Q R → rh vs H R) : CallD X ca W f r :=
  fun pins s σ H U F M δ E Q R ds vs us I S rl rv hs c => hc pins s σ H vs us R I rv (h U F H M _ Q R ds vs S.hr rl hs c)
theorem CallD.or {f : Value} {a b : DCall} (h1 : CallD X ca W f a) (h2 : CallD X ca W f b) : CallD X ca W f (fun ds M E Q => a ds M E Q ∨ b ds M E Q) := fun pins s σ H U F M δ E Q R ds vs us I S rl rv hs c =>
  hs.elim (fun hs => h1 pins s σ H U F M δ E Q R ds vs us I S rl rv hs c) fun hs => h2 pins s σ H U F M δ E Q R ds vs us I S rl rv hs c
/-! by the number of arguments -/
def b1 (r : D → Mem → XD → QD → Prop) : DCall := fun ds M E Q => match ds with
  | [x] => r x M E Q
  | _ => False
def b2 (r : D → D → Mem → XD → QD → Prop) : DCall := fun ds M E Q => match ds with
  | [x, y] => r x y M E Q
  | _ => False
theorem CallD.one {f : Value} {r : D → Mem → XD → QD → Prop} (h : ∀ (pins : List (Addr × Obj)) (s : Shared) (σ : L2.St) (H U F : Hp) (M : Mem) (δ : DEnv) (E : EX) (Q : QD) (R : VK) (d : D) (v : V) (u : Value), Inv X pins σ H s → Stt X.K ca U W F M δ E σ H →
    Rep X.K ca F d v → RelV v u → r d M (fun c fs M' => E c fs δ M') Q → Cl X.K ca U F Q R → wpAny (model X.prog X.w) X.A (call f [u]) (EP X pins σ R) X.xe s) : CallD X ca W f (b1 r) := fun pins s σ H U F M δ E Q R ds vs us I S rl rv hs c => by
  cases ds with
  | nil => exact hs.elim
  | cons d ds =>
    cases ds with
    | cons d' ds => exact hs.elim
    | nil =>
      obtain ⟨v, r', ev, rd, er⟩ := rl
      cases er
      subst ev
      obtain ⟨u, rfl, ru⟩ := vals1 rv
      exact h pins s σ H U F M δ E Q R d v u I S rd ru hs c
theorem CallD.two {f : Value} {r : D → D → Mem → XD → QD → Prop} (h : ∀ (pins : List (Addr × Obj)) (s : Shared) (σ : L2.St) (H U F : Hp) (M : Mem) (δ : DEnv) (E : EX) (Q : QD) (R : VK) (d d' : D) (v v' : V) (u u' : Value), Inv X pins σ H s → Stt X.K ca U W F M δ E σ H →
    Rep X.K ca F d v → Rep X.K ca F d' v' → RelV v u → RelV v' u' → r d d' M (fun c fs M' => E c fs δ M') Q → Cl X.K ca U F Q R → wpAny (model X.prog X.w) X.A (call f [u, u']) (EP X pins σ R) X.xe s) : CallD X ca W f (b2 r) := fun pins s σ H U F M δ E Q R ds vs us I S rl rv hs c => by
  cases ds with
  | nil => exact hs.elim
  | cons d ds =>
    cases ds with
    | nil => exact hs.elim
    | cons d' ds =>
      cases ds with
      | cons d'' ds => exact hs.elim
      | nil =>
        obtain ⟨v, r', ev, rd, v', r'', er, rd', er'⟩ := rl
        cases er'
        subst er
        subst ev
        obtain ⟨u, u', rfl, ru, ru'⟩ := vals2 rv
        exact h pins s σ H U F M δ E Q R d d' v v' u u' I S rd rd' ru ru' hs c
theorem vcons1 {v : V} {u : Value} (r : RelV v u) : Vals [v] [u] := .cons r .nil
theorem vcons2 {v v' : V} {u u' : Value} (r : RelV v u) (r' : RelV v' u') : Vals [v, v'] [u, u'] := .cons r (.cons r' .nil)
theorem CallD.one_of {f : Value} {rh : List V → Hp → VK → Prop} {r : D → Mem → XD → QD → Prop} (hc : CallR X f rh) (h : ∀ (U F H : Hp) (M : Mem) (E : XD) (Q : QD) (R : VK) (d : D) (v : V), HR X.K ca U F M H → Rep X.K ca F d v → r d M E Q → Cl X.K ca U F Q R → rh [v] H R) : CallD X ca W f (b1 r) :=
  .one fun pins s σ H U F M δ E Q R d v u I S rd ru hs c => hc pins s σ H [v] [u] R I (vcons1 ru) (h U F H M _ Q R d v S.hr rd hs c)
theorem CallD.two_of {f : Value} {rh : List V → Hp → VK → Prop} {r : D → D → Mem → XD → QD → Prop} (hc : CallR X f rh) (h : ∀ (U F H : Hp) (M : Mem) (E : XD) (Q : QD) (R : VK) (d d' : D) (v v' : V), HR X.K ca U F M H → Rep X.K ca F d v → Rep X.K ca F d' v' → r d d' M E Q → Cl X.K ca U F Q R → rh [v, v'] H R) : CallD X ca W f (b2 r) :=
  .two fun pins s σ H U F M δ E Q R d d' v v' u u' I S rd rd' ru ru' hs c => hc pins s σ H [v, v'] [u, u'] R I (vcons2 ru ru') (h U F H M _ Q R d d' v v' S.hr rd rd' hs c)
theorem CallD.or1 {f : Value} {a b : D → Mem → XD → QD → Prop} (h1 : CallD X ca W f (b1 a)) (h2 : CallD X ca W f (b1 b)) : CallD X ca W f (b1 fun x M E Q => a x M E Q ∨ b x M E Q) := .one fun pins s σ H U F M δ E Q R d v u I S rd ru hs c =>
  hs.elim (fun hs => h1 pins s σ H U F M δ E Q R [d] [v] [u] I S ⟨v, [], rfl, rd, rfl⟩ (vcons1 ru) hs c) fun hs => h2 pins s σ H U F M δ E Q R [d] [v] [u] I S ⟨v, [], rfl, rd, rfl⟩ (vcons1 ru) hs c
/-! len, abs, max, min, all, any, int, bool, str, tuple, list -/
def bLen (x : D) (M : Mem) (E : XD) (Q : QD) : Prop := match x with
  | .str z => z.length ≤ sizeLine ∧ Q (.int z.length) M
  | .tup l => Q (.int l.length) M
  | x => match asL M x with | some l => Q (.int l.length) M | none => False
theorem call_lenD : CallD X ca W (.builtin "len") (b1 bLen) := .one fun pins s σ H U F M δ E Q R d v u I S rd ru hs c => by
  have lists : (match asL M d with | some l => Q (.int l.length) M | none => False) → wpAny (model X.prog X.w) X.A (call (.builtin "len") [u]) (EP X pins σ R) X.xe s := fun hs => by
    cases ea : asL M d with
    | none => rw [ea] at hs; exact hs.elim
    | some l =>
      rw [ea] at hs
      obtain ⟨p, ws, rfl, hq, rw'⟩ := asL_ok S.hr rd ea
      refine call_len_seq pins s σ H _ [u] R I (vcons1 ru) ⟨p, ws, rfl, .inl hq, ?_⟩
      rw [rw'.length]
      exact c _ _ _ _ _ hs Ext.rfl' rfl S.hr
  cases d with
  | str z => cases rd; exact call_len_str pins s σ H _ [u] R I (vcons1 ru) ⟨z, rfl, hs.1, c _ _ _ _ _ hs.2 Ext.rfl' rfl S.hr⟩
  | tup l =>
    obtain ⟨p, ws, rfl, hq, rw'⟩ := rd
    refine call_len_seq pins s σ H _ [u] R I (vcons1 ru) ⟨p, ws, rfl, .inr (hq.ext S.hr.sub), ?_⟩
    rw [rw'.length]
    exact c _ _ _ _ _ hs Ext.rfl' rfl S.hr
  | _ => exact lists hs
def bAbs (x : D) (M : Mem) (E : XD) (Q : QD) : Prop := match x with | .int i => Q (.int (if i < 0 then -i else i)) M | _ => False
theorem call_absD : CallD X ca W (.builtin "abs") (b1 bAbs) := .one_of call_abs fun U F H M E Q R d v hr rd hs c => by
  cases d with
  | int i => cases rd; exact ⟨i, rfl, c _ _ _ _ _ hs Ext.rfl' rfl hr⟩
  | _ => exact hs.elim
def bMax (x y : D) (M : Mem) (E : XD) (Q : QD) : Prop := match x with | .int i => (match y with | .int j => Q (.int (if j > i then j else i)) M | _ => False) | _ => False
def bMin (x y : D) (M : Mem) (E : XD) (Q : QD) : Prop := match x with | .int i => (match y with | .int j => Q (.int (if j < i then j else i)) M | _ => False) | _ => False
theorem call_maxD (hc : X.calm = true) : CallD X ca W (.builtin "max") (b2 bMax) := .two_of (call_max2 hc) fun U F H M E Q R d d' v v' hr rd rd' hs c => by
  cases d with
  | int i => cases d' with
    | int j => cases rd; cases rd'; exact ⟨i, j, rfl, c _ _ _ _ _ hs Ext.rfl' rfl hr⟩
    | _ => exact hs.elim
  | _ => exact hs.elim
theorem call_minD (hc : X.calm = true) : CallD X ca W (.builtin "min") (b2 bMin) := .two_of (call_min2 hc) fun U F H M E Q R d d' v v' hr rd rd' hs c => by
  cases d with
  | int i => cases d' with
    | int j => cases rd; cases rd'; exact ⟨i, j, rfl, c _ _ _ _ _ hs Ext.rfl' rfl hr⟩
    | _ => exact hs.elim
  | _ => exact hs.elim
/-- a list of truths -/
def asBools : List D → Option (List Bool)
  | [] => some []
  | .bl b :: r => (asBools r).map (b :: ·)
  | _ => none
theorem bools_rep {K : Fg} {F : Hp} : ∀ {l : List D} {vs : List V} {bs : List Bool}, RepL K ca F l vs → asBools l = some bs → vs = bs.map V.bl
  | [], _, _, h, e => by cases e; exact h
  | d :: r, vs, bs, ⟨v, r', e1, r1, r2⟩, e => by
    cases d with
    | bl b =>
      have e : (asBools r).map (b :: ·) = some bs := e
      cases q : asBools r with
      | none => rw [q] at e; cases e
      | some bs' =>
        rw [q] at e
        cases e
        cases r1
        rw [e1, bools_rep r2 q]
        rfl
    | _ => cases e
def bAllAny (f : List Bool → Bool) (x : D) (M : Mem) (E : XD) (Q : QD) : Prop := match asL M x with
  | some l => (match asBools l with | some bs => Q (.bl (f bs)) M | none => False)
  | none => False
abbrev bAll := bAllAny fun bs => bs.all _root_.id
abbrev bAny := bAllAny fun bs => bs.any _root_.id
theorem call_allD (hc : X.calm = true) : CallD X ca W (.builtin "all") (b1 bAll) := .one_of (cr_all hc) fun U F H M E Q R d v hr rd hs c => by
  unfold bAll bAllAny at hs
  cases ea : asL M d with
  | none => rw [ea] at hs; exact hs.elim
  | some l =>
    rw [ea] at hs
    simp only at hs
    cases eb : asBools l with
    | none => rw [eb] at hs; exact hs.elim
    | some bs =>
      rw [eb] at hs
      obtain ⟨p, ws, rfl, hq, rl⟩ := asL_ok hr rd ea
      have e := bools_rep rl eb
      subst e
      exact ⟨p, bs, rfl, hq, c _ _ _ _ _ hs Ext.rfl' rfl hr⟩
theorem call_anyD (hc : X.calm = true) : CallD X ca W (.builtin "any") (b1 bAny) := .one_of (cr_any hc) fun U F H M E Q R d v hr rd hs c => by
  unfold bAny bAllAny at hs
  cases ea : asL M d with
  | none => rw [ea] at hs; exact hs.elim
  | some l =>
    rw [ea] at hs
    simp only at hs
    cases eb : asBools l with
    | none => rw [eb] at hs; exact hs.elim
    | some bs =>
      rw [eb] at hs
      obtain ⟨p, ws, rfl, hq, rl⟩ := asL_ok hr rd ea
      have e := bools_rep rl eb
      subst e
      exact ⟨p, bs, rfl, hq, c _ _ _ _ _ hs Ext.rfl' rfl hr⟩
theorem divmodL : CallR X (.builtin "divmod") (fun xs H Q => ∃ i j, xs = [.int i, .int j] ∧ (j ≠ 0 ∧ j.natAbs.log2 < 9000) ∧ ∀ p, H p = none → Q (.ref p) (upd H p (.tup [.int (i.fdiv j), .int (i.fmod j)]))) := by
  intro pins s σ H xs us Q I r h
  obtain ⟨i, j, rfl, ⟨h1, h2⟩, q⟩ := h
  obtain ⟨u, w', rfl, ⟨t, rfl⟩, ⟨t', rfl⟩⟩ := vals2 r
  refine divmod_int h1 ?_ (.inl (PyProof.noPylong_of_log2 h2))
  have hn : H s.heap.objs.size = none := I.hok.fresh (Nat.le_refl _)
  refine ⟨.ref s.heap.objs.size, _, I.laid (t' := s.toks + 1 + 1) (o := .tup [.int (i.fdiv j), .int (i.fmod j)]) (fun b o e => Heap.get?_push_of_some _ e) (Nat.le_refl _) ?_, rfl, q _ hn⟩
  exact ⟨by show 2 ≤ sizeLine; decide, [.int (i.fdiv j) s.toks, .int (i.fmod j) (s.toks + 1)], .cons ⟨_, rfl⟩ (.cons ⟨_, rfl⟩ .nil), IsTup.new _ _⟩
def bDivmod (x y : D) (M : Mem) (E : XD) (Q : QD) : Prop := match x with | .int i => (match y with | .int j => j ≠ 0 ∧ j.natAbs.log2 < 9000 ∧ Q (.tup [.int (i.fdiv j), .int (i.fmod j)]) M | _ => False) | _ => False
theorem call_divmodD : CallD X ca W (.builtin "divmod") (b2 bDivmod) := .two_of divmodL fun U F H M E Q R d d' v v' hr rd rd' hs c => by
  cases d with
  | int i => cases d' with
    | int j =>
      cases rd; cases rd'
      refine ⟨i, j, rfl, ⟨hs.1, hs.2.1⟩, fun p hp => ?_⟩
      obtain ⟨g2, e2⟩ := hr.newF hp (.tup [.int (i.fdiv j), .int (i.fmod j)])
      exact c _ _ _ _ _ hs.2.2 e2 ⟨p, _, rfl, .inl (.inl upd_same), ⟨_, _, rfl, rfl, _, _, rfl, rfl, rfl⟩⟩ g2
    | _ => exact hs.elim
  | _ => exact hs.elim
def bInt (x : D) (M : Mem) (E : XD) (Q : QD) : Prop := match x with
  | .int i => Q (.int i) M
  | .bl b => Q (.int (if b then 1 else 0)) M
  | _ => False
theorem call_intD : CallD X ca W (.type "int") (b1 bInt) := .one_of call_int1 fun U F H M E Q R d v hr rd hs c => by
  cases d with
  | int i => cases rd; exact .inl ⟨i, rfl, c _ _ _ _ _ hs Ext.rfl' rfl hr⟩
  | bl b => cases rd; exact .inr ⟨b, rfl, c _ _ _ _ _ hs Ext.rfl' rfl hr⟩
  | _ => exact hs.elim
def bBool (x : D) (M : Mem) (E : XD) (Q : QD) : Prop := match x with
  | .int i => Q (.bl (i != 0)) M
  | .bl b => Q (.bl b) M
  | _ => False
theorem call_boolD : CallD X ca W (.type "bool") (b1 bBool) := .one_of call_bool1 fun U F H M E Q R d v hr rd hs c => by
  cases d with
  | int i => cases rd; exact .inl ⟨i, rfl, c _ _ _ _ _ hs Ext.rfl' rfl hr⟩
  | bl b => cases rd; exact .inr ⟨b, rfl, c _ _ _ _ _ hs Ext.rfl' rfl hr⟩
  | _ => exact hs.elim
def bStr (x : D) (M : Mem) (E : XD) (Q : QD) : Prop := match x with
  | .int i => i.natAbs.log2 < 1920 ∧ Q (.str (toString i)) M
  | .str z => Q (.str z) M
  | _ => False
theorem call_strD : CallD X ca W (.type "str") (b1 bStr) := .one fun pins s σ H U F M δ E Q R d v u I S rd ru hs c => by
  cases d with
  | int i => cases rd; exact call_str_int pins s σ H [.int i] [u] R I (vcons1 ru) ⟨i, rfl, hs.1, c _ _ _ _ _ hs.2 Ext.rfl' rfl S.hr⟩
  | str z => cases rd; exact SkE.call_str_str pins s σ H [.str z] [u] R I (vcons1 ru) ⟨z, rfl, c _ _ _ _ _ hs Ext.rfl' rfl S.hr⟩
  | _ => exact hs.elim
def bTuple (x : D) (M : Mem) (E : XD) (Q : QD) : Prop := match x with
  | .tup l => Q (.tup l) M
  | x => match asL M x with | some l => Q (.tup l) M | none => False
theorem call_tupleD : CallD X ca W (.type "tuple") (b1 bTuple) := .one_of call_tuple_of fun U F H M E Q R d v hr rd hs c => by
  have lists : (match asL M d with | some l => Q (.tup l) M | none => False) → ∃ p ys, [v] = [V.ref p] ∧ ((SqL X.K H p ys ∧ ∀ l, H l = none → R (.ref l) (upd H l (.tup ys))) ∨ (SqT X.K H p ys ∧ R (.ref p) H)) := fun hs => by
    cases ea : asL M d with
    | none => rw [ea] at hs; exact hs.elim
    | some l =>
      rw [ea] at hs
      obtain ⟨p, ws, rfl, hq, rl⟩ := asL_ok hr rd ea
      refine ⟨p, ws, rfl, .inl ⟨hq, fun q hq2 => ?_⟩⟩
      obtain ⟨g2, e2⟩ := hr.newF hq2 (.tup ws)
      exact c _ _ _ _ _ hs e2 ⟨q, ws, rfl, .inl (.inl upd_same), rl.mono e2⟩ g2
  cases d with
  | tup l =>
    obtain ⟨p, ws, rfl, hq, rl⟩ := rd
    exact ⟨p, ws, rfl, .inr ⟨hq.ext hr.sub, c _ _ _ _ _ hs Ext.rfl' ⟨p, ws, rfl, hq, rl⟩ hr⟩⟩
  | _ => exact lists hs
/-- list(x): one that stands still -/
def bList (x : D) (M : Mem) (E : XD) (Q : QD) : Prop := match x with
  | .tup l => Q (.lst l) M
  | x => match asL M x with | some l => Q (.lst l) M | none => False
theorem call_listD : CallD X ca W (.type "list") (b1 bList) := .one_of call_list_of fun U F H M E Q R d v hr rd hs c => by
  have go : ∀ (l : List D) (p : Addr) (ws : List V), v = .ref p → (SqL X.K H p ws ∨ SqT X.K H p ws) → RepL X.K ca F l ws → Q (.lst l) M → ∃ p ys, [v] = [V.ref p] ∧ (SqL X.K H p ys ∨ SqT X.K H p ys) ∧ ∀ l, H l = none → R (.ref l) (upd H l (.lst ys)) := fun l p ws ev hq rl q => by
    refine ⟨p, ws, by rw [ev], hq, fun t ht => ?_⟩
    obtain ⟨g2, e2⟩ := hr.newF ht (.lst ws)
    exact c _ _ _ _ _ q e2 ⟨t, ws, rfl, .inl (.inl upd_same), rl.mono e2⟩ g2
  have lists : (match asL M d with | some l => Q (.lst l) M | none => False) → ∃ p ys, [v] = [V.ref p] ∧ (SqL X.K H p ys ∨ SqT X.K H p ys) ∧ ∀ l, H l = none → R (.ref l) (upd H l (.lst ys)) := fun hs => by
    cases ea : asL M d with
    | none => rw [ea] at hs; exact hs.elim
    | some l =>
      rw [ea] at hs
      obtain ⟨p, ws, ev, hq, rl⟩ := asL_ok hr rd ea
      exact go l p ws ev (.inl hq) rl hs
  cases d with
  | tup l =>
    obtain ⟨p, ws, ev, hq, rl⟩ := rd
    exact go l p ws ev (.inr (hq.ext hr.sub)) rl hs
  | _ => exact lists hs
end
end TS
namespace TS
open PySem PySem.Spec PyProof.Rows L2
/-! ### instances of own classes -/
/-- class and attributes of an instance, of one in the store too -/
def asO (M : Mem) : D → Option (Nat × List (Str × D))
  | .obj c fs => some (c, fs)
  | .ref p => match M p with | some (.ins c fs) => some (c, fs) | _ => none
  | _ => none
/-- a method of the class c: where it stands, its promise -/
structure Mt (X : Cx) (ca : Ca) (k : Nat) (c : Nat) (m : Str) (dds : List D) (sp : DSp) : Prop where
  cl : Cls X.K (ca c)
  ex : ∃ f, Meth X.K (ca c) m f ∧ FnX X ca k f dds sp
section
variable {X : Cx} {ca : Ca} {W : WX} {K : Fg} {U F H : Hp} {M : Mem} {d : D} {v : V} {c : Nat} {fs : List (Str × D)}
theorem asO_ok (hr : HR K ca U F M H) (r : Rep K ca F d v) (h : asO M d = some (c, fs)) : ∃ a dx vs, v = .ref a ∧ H a = some (.ins (ca c) dx vs) ∧ RepF K ca F fs vs := by
  cases d with
  | obj c' fs' =>
    cases h
    obtain ⟨a, dx, vs, e, hs, rl⟩ := r
    exact ⟨a, dx, vs, e, hr.sub _ _ hs, rl⟩
  | ref p =>
    unfold asO at h
    cases q : M p with
    | none => simp only [q] at h; cases h
    | some m =>
      cases m with
      | ins c' fs' =>
        simp only [q] at h
        cases h
        obtain ⟨_, _, dx, vs, e, rl⟩ := hr.mem _ _ q
        exact ⟨p, dx, vs, r, e, rl⟩
      | _ => simp only [q] at h; cases h
  | _ => cases h
theorem inst_of {pins : List (Addr × Obj)} {σ : L2.St} {s : Shared} {C a dx : Addr} {vs : List (Str × V)} (I : Inv X pins σ H s) (e : H a = some (.ins C dx vs)) : ∃ od, PySem.W.InstAt s.heap a (PySem.W.instObj C dx) C (some od) := by
  obtain ⟨mA, O, _⟩ := ins_get I.hok e
  obtain ⟨od, J, _⟩ := O.look
  exact ⟨od, J⟩
end
section
variable {X : Cx} {ca : Ca} {W : WX} {k j : Nat} {f : Str} {pos apos tpos : Pos} {e o : Expr} {es : List Expr} {te to : DT} {t : DTA}
/-! ### attributes -/
/-- the classes whose attribute f is plain -/
def FldOk (X : Cx) (ca : Ca) (cs : List Nat) (f : Str) : Prop := ∀ c, c ∈ cs → Cls X.K (ca c) ∧ NoAttr X.K (ca c) f
def dFld (cs : List Nat) (f : Str) (te : DT) : DT := fun δ M E Q => te δ M E fun d M1 => match asO M1 d with
  | some (c, fs) => c ∈ cs ∧ (match fs.lookup f with | some v => Q v M1 | none => False)
  | none => False
theorem de_fld {cs : List Nat} (ok : FldOk X ca cs f) (he : DE X ca W e te) (hb : attributeBase e f X.env (eval e X.env) = eval e X.env := by rfl) : DE X ca W (.Attribute e f pos) (dFld cs f te) := peImp (pe_fld he hb) fun σ H R ⟨U, F, M, δ, E, Q, S, h, c⟩ => by
  refine lift_of S h fun d M1 F1 v H1 h1 e1 r1 g1 => ?_
  cases eo : asO M1 d with
  | none => rw [eo] at h1; exact h1.elim
  | some p =>
    obtain ⟨k, fs⟩ := p
    rw [eo] at h1
    obtain ⟨hk, h1⟩ := h1
    cases el : fs.lookup f with
    | none => rw [el] at h1; exact h1.elim
    | some y =>
      rw [el] at h1
      obtain ⟨a, dx, vs, ev, ha, rf⟩ := asO_ok g1 r1 eo
      obtain ⟨u, lu, ru⟩ := rf.look el
      exact ⟨a, ca k, dx, vs, u, ev, ha, (ok k hk).1, (ok k hk).2, lu, c _ _ _ _ _ h1 e1 ru g1⟩
/-- e.f = value, of an instance in the store -/
def sFldD (cs : List Nat) (f : Str) (to te : DT) : DTS := fun Z δ M => te δ M Z.ex fun v M1 => to δ M1 Z.ex fun d M2 => match d with
  | .ref p => (match M2 p with
    | some (.ins c fs) => c ∈ cs ∧ fs.length < 1000 ∧ Z.nx δ (M2.set p (.ins c (putD f v fs)))
    | _ => False)
  | _ => False
theorem ds_fld {cs : List Nat} {value : Expr} {pos' : Pos} (ok : FldOk X ca cs f) (ho : DE X ca W o to) (hv : DE X ca W value te) (hs : swapsWith value (some (.Attribute o f pos')) pos.line X.env = pure false := by rfl) : DPS X ca W (.Assign [.Attribute o f pos'] value pos) (sFldD cs f to te) :=
  psImp (ps_fld ho hv hs) fun R σ H ⟨U, F, M, δ, Z, S, h, c⟩ => by
    refine lift_of S h fun y M1 F1 v H1 h1 e1 r1 g1 => ?_
    refine lift_of (S.up e1 g1) h1 fun d M2 F2 x H2 h2 e2 r2 g2 => ?_
    cases d with
    | ref p =>
      have h2 : (match M2 p with
        | some (.ins c fs) => c ∈ cs ∧ fs.length < 1000 ∧ Z.nx δ (M2.set p (.ins c (putD f y fs)))
        | _ => False) := h2
      cases em : M2 p with
      | none => rw [em] at h2; exact h2.elim
      | some m =>
        cases m with
        | ins k fs =>
          rw [em] at h2
          obtain ⟨_, _, dx, vs, ha, rf⟩ := g2.mem _ _ em
          refine ⟨p, ca k, dx, vs, r2, ha, (ok k h2.1).1, (ok k h2.1).2, by rw [rf.length]; exact h2.2.1, ?_⟩
          exact c.nx _ _ _ _ _ h2.2.2 (e1.trans e2) ((S.env.mono e1).mono e2) (g2.write em _ ⟨dx, _, upd_same, RepF.put (r1.mono e2) rf⟩)
        | _ => rw [em] at h2; exact h2.elim
    | _ => exact h2.elim
/-- a constant of a class, read off an instance: by the class -/
def ConOk (X : Cx) (ca : Ca) (T : Nat → Option D) (f : Str) : Prop := ∀ c d, T c = some d → Cls X.K (ca c) ∧ ∃ v u, Con X.K (ca c) f v u ∧ ∀ F, Rep X.K ca F d v
def dCon (T : Nat → Option D) (f : Str) (te : DT) : DT := fun δ M E Q => te δ M E fun d M1 => match asO M1 d with
  | some (c, fs) => (match T c with | some v => fs.lookup f = none ∧ Q v M1 | none => False)
  | none => False
theorem de_con {T : Nat → Option D} (ok : ConOk X ca T f) (he : DE X ca W e te) (hb : attributeBase e f X.env (eval e X.env) = eval e X.env := by rfl) : DE X ca W (.Attribute e f pos) (dCon T f te) := peImp (pe_con he hb) fun σ H R ⟨U, F, M, δ, E, Q, S, h, c⟩ => by
  refine lift_of S h fun d M1 F1 v H1 h1 e1 r1 g1 => ?_
  cases eo : asO M1 d with
  | none => rw [eo] at h1; exact h1.elim
  | some p =>
    obtain ⟨k, fs⟩ := p
    rw [eo] at h1
    simp only at h1
    cases et : T k with
    | none => rw [et] at h1; exact h1.elim
    | some y =>
      rw [et] at h1
      obtain ⟨hl, h1⟩ := h1
      obtain ⟨a, dx, vs, ev, ha, rf⟩ := asO_ok g1 r1 eo
      obtain ⟨cl, v', u', con, rp⟩ := ok k y et
      exact ⟨a, ca k, dx, vs, v', u', ev, ha, cl, con, rf.look_none hl, c _ _ _ _ _ h1 e1 (rp F1) g1⟩
/-- a property: by the class -/
structure Pr (X : Cx) (ca : Ca) (k : Nat) (c : Nat) (f : Str) (sp : DSp) : Prop where
  cl : Cls X.K (ca c)
  ex : ∃ p g, PropOf X.K (ca c) f p g ∧ FnX X ca k g [] sp
def PrOk (X : Cx) (ca : Ca) (k : Nat) (f : Str) (T : Nat → Option DSp) : Prop := ∀ c sp, T c = some sp → Pr X ca k c f sp
def dProp (T : Nat → Option DSp) (te : DT) : DT := fun δ M E Q => te δ M E fun d M1 => match asO M1 d with
  | some (c, _) => (match T c with | some sp => sp [d] M1 (fun _ _ _ => False) Q | none => False)
  | none => False
theorem de_prop {T : Nat → Option DSp} (C : Ctx X j W) (ok : PrOk X ca k f T) (he : DE X ca W e te) (hk : k + 1 ≤ j := by decide) (hb : attributeBase e f X.env (eval e X.env) = eval e X.env := by rfl) : DE X ca W (.Attribute e f pos) (dProp T te) := by
  refine ⟨fun pins s σ H R I ⟨U, F, M, δ, E, Q, S, h, c⟩ => ?_⟩
  refine attr_of hb (thn (he.run pins s σ H (fun x H1 => ∃ F1 M1 d, Stt X.K ca U W F1 M1 δ E σ H1 ∧ Rep X.K ca F1 d x ∧ (match asO M1 d with
    | some (c, _) => (match T c with | some sp => sp [d] M1 (fun _ _ _ => False) Q | none => False)
    | none => False) ∧ Cl X.K ca U F1 Q R) I ?_) fun u s1 ⟨x, H1, I1, rx, F1, M1, d, S1, rd, h1, c1⟩ => ?_)
  · exact lift_of S h fun d M1 F1 v H1 h1 e1 r1 g1 => ⟨F1, M1, d, S.up e1 g1, r1, h1, c.up e1⟩
  · cases eo : asO M1 d with
    | none => rw [eo] at h1; exact h1.elim
    | some p =>
      obtain ⟨k', fs⟩ := p
      rw [eo] at h1
      simp only at h1
      cases et : T k' with
      | none => rw [et] at h1; exact h1.elim
      | some sp =>
        rw [et] at h1
        obtain ⟨a, dx, vs, ev, ha, rf⟩ := asO_ok S1.hr rd eo
        subst ev
        obtain rfl : u = Value.ref a := rx
        obtain ⟨cl, p, g, hp, G⟩ := ok k' sp et
        obtain ⟨fd, ps, dvals, dvs, FF, hb2, hd, hdr⟩ := G.ex
        have hdr0 : dvs = [] := hdr F1
        subst hdr0
        exact prop_ok I1 ha cl hp FF (C.room.mono hk) hb2 hd (passes_call takes0 fun _ _ _ _ z => z) ⟨U, F1, M1, [d], fun _ _ _ => False, Q, ⟨_, _, rfl, rd, rfl⟩, S1.hr, h1, c1, fun _ _ _ _ _ _ z => z.elim⟩

/-! ### methods -/
def MtOk (X : Cx) (ca : Ca) (k : Nat) (m : Str) (T : Nat → Option (DSp × List D)) : Prop := ∀ c sp dds, T c = some (sp, dds) → Mt X ca k c m dds sp
/-- o.m(..) -/
def dMeth (T : Nat → Option (DSp × List D)) (m : Str) (to : DT) (t : DTA) : DT := fun δ M E Q => to δ M E fun d M1 => match asO M1 d with
  | some (c, fs) => (match T c with
    | some (sp, dds) => fs.lookup m = none ∧ t δ M1 E fun ds M2 => sp (d :: (ds ++ dds)) M2 (fun c fs M' => E c fs δ M') Q
    | none => False)
  | none => False
theorem de_meth {T : Nat → Option (DSp × List D)} {m : Str} {pl : Sem Bool} (C : Ctx X j W) (ok : MtOk X ca k m T) (ho : DE X ca W o to) (ha : DPA X ca W (e :: es) t) (hk : k ≤ j := by decide)
    (hst : starEach (e :: es) X.env = (false, eval e X.env) :: starEach es X.env := by rfl) (hpl : (backTo pos (starEach es X.env)).any (·.1) = false := by rfl)
    (ht : eval (.Call (.Attribute o m apos) (e :: es) [] pos) X.env = (do
      let ov ← eval o X.env
      standAt apos.atName
      let (f, first) ← holding [ov] (getMethod ov m pl)
      callWith pos f first (backTo pos (starEach (e :: es) X.env)) (backToKw pos (keywordEach [] X.env))) := by rfl) :
    DE X ca W (.Call (.Attribute o m apos) (e :: es) [] pos) (dMeth T m to t) := by
  refine ⟨fun pins s σ H R I ⟨U, F, M, δ, E, Q, S, h, c⟩ => ?_⟩
  refine PySem.W.methodCall_KW (pl := pl) (thn (ho.run pins s σ H (fun x H1 => ∃ F1 M1 d, Stt X.K ca U W F1 M1 δ E σ H1 ∧ Rep X.K ca F1 d x ∧ (match asO M1 d with
    | some (c, fs) => (match T c with
      | some (sp, dds) => fs.lookup m = none ∧ t δ M1 E fun ds M2 => sp (d :: (ds ++ dds)) M2 (fun c fs M' => E c fs δ M') Q
      | none => False)
    | none => False) ∧ Cl X.K ca U F1 Q R) I ?_) fun u s1 ⟨x, H1, I1, rx, F1, M1, d, S1, rd, h1, c1⟩ => ?_) ht
  · exact lift_of S h fun d M1 F1 v H1 h1 e1 r1 g1 => ⟨F1, M1, d, S.up e1 g1, r1, h1, c.up e1⟩
  · cases eo : asO M1 d with
    | none => rw [eo] at h1; exact h1.elim
    | some p =>
      obtain ⟨k', fs⟩ := p
      rw [eo] at h1
      simp only at h1
      cases et : T k' with
      | none => rw [et] at h1; exact h1.elim
      | some q =>
        obtain ⟨sp, dds⟩ := q
        rw [et] at h1
        obtain ⟨hl, h1⟩ := h1
        obtain ⟨a, dx, vs, ev, ha', rf⟩ := asO_ok S1.hr rd eo
        subst ev
        obtain rfl : u = Value.ref a := rx
        obtain ⟨cl, f, hm, G⟩ := ok k' sp dds et
        refine getmeth_ok I1 ha' cl hm (rf.look_none hl) ?_
        refine PySem.W.callWith_K (first := [.ref a]) (h₀ := X.base) I.ok.mod.kin hm.kp (thn (ha.run pos pins s1 σ H1 (fun vs H2 => ∃ F2 M2 ds, Ext F1 F2 ∧ Stt X.K ca U W F2 M2 δ E σ H2 ∧ RepL X.K ca F2 ds vs ∧ sp (d :: (ds ++ dds)) M2 (fun c fs M' => E c fs δ M') Q ∧ Cl X.K ca U F2 Q R) I1 ?_) fun us s2 ⟨ws, H2, I2, r, F2, M2, ds, e2, S2, rl, hs, c2⟩ => ⟨I2.kIn, ?_⟩) hst hpl
        · exact liftA_of S1 h1 fun ds M2 F2 vs H2 h2 e2 r2 g2 => ⟨F2, M2, ds, e2, S1.up e2 g2, r2, h2, c1.up e2⟩
        · exact run_fnD (us := .ref a :: us) (vs := .ref a :: ws) (ds := d :: ds) ⟨C.room.mono hk, rfl⟩ G C.tk I2 S2 (.cons rfl r) ⟨_, _, rfl, rd.mono e2, rl⟩ hs c2
theorem de_meth0 {T : Nat → Option (DSp × List D)} {m : Str} {pl : Sem Bool} (C : Ctx X j W) (ok : MtOk X ca k m T) (ho : DE X ca W o to) (hk : k ≤ j := by decide)
    (ht : eval (.Call (.Attribute o m apos) [] [] pos) X.env = (do
      let ov ← eval o X.env
      standAt apos.atName
      let (f, first) ← holding [ov] (getMethod ov m pl)
      callWith pos f first (backTo pos (starEach [] X.env)) (backToKw pos (keywordEach [] X.env))) := by rfl) :
    DE X ca W (.Call (.Attribute o m apos) [] [] pos) (dMeth T m to dNil) := by
  refine ⟨fun pins s σ H R I ⟨U, F, M, δ, E, Q, S, h, c⟩ => ?_⟩
  refine PySem.W.methodCall_KW (pl := pl) (thn (ho.run pins s σ H (fun x H1 => ∃ F1 M1 d, Stt X.K ca U W F1 M1 δ E σ H1 ∧ Rep X.K ca F1 d x ∧ (match asO M1 d with
    | some (c, fs) => (match T c with
      | some (sp, dds) => fs.lookup m = none ∧ sp (d :: ([] ++ dds)) M1 (fun c fs M' => E c fs δ M') Q
      | none => False)
    | none => False) ∧ Cl X.K ca U F1 Q R) I ?_) fun u s1 ⟨x, H1, I1, rx, F1, M1, d, S1, rd, h1, c1⟩ => ?_) ht
  · exact lift_of S h fun d M1 F1 v H1 h1 e1 r1 g1 => ⟨F1, M1, d, S.up e1 g1, r1, h1, c.up e1⟩
  · cases eo : asO M1 d with
    | none => rw [eo] at h1; exact h1.elim
    | some p =>
      obtain ⟨k', fs⟩ := p
      rw [eo] at h1
      simp only at h1
      cases et : T k' with
      | none => rw [et] at h1; exact h1.elim
      | some q =>
        obtain ⟨sp, dds⟩ := q
        rw [et] at h1
        obtain ⟨hl, h1⟩ := h1
        obtain ⟨a, dx, vs, ev, ha', rf⟩ := asO_ok S1.hr rd eo
        subst ev
        obtain rfl : u = Value.ref a := rx
        obtain ⟨cl, f, hm, G⟩ := ok k' sp dds et
        refine getmeth_ok I1 ha' cl hm (rf.look_none hl) ?_
        exact PySem.W.callWith_K0 (first := [.ref a]) I1.kIn hm.kp (run_fnD (us := [.ref a]) (vs := [.ref a]) (ds := [d]) ⟨C.room.mono hk, rfl⟩ G C.tk I1 S1 (.cons rfl .nil) ⟨_, _, rfl, rd, rfl⟩ h1 c1)
end
end TS
namespace TS
open PySem PySem.Spec PyProof.Rows L2
/-! ### operators of own classes -/
section
variable {X : Cx} {ca : Ca} {W : WX} {k j : Nat}
theorem sub_of (C : Ctx X j W) (hk : k ≤ j) : Sub X k X.A := ⟨C.room.mono hk, rfl⟩
theorem cmpBack_of {pins : List (Addr × Obj)} {σ : L2.St} {R : VK} {v : Value} {s' : Shared} (h : EP X pins σ R v s') : PySem.W.CmpBack (EP X pins σ R) v s' := by
  obtain ⟨x, H', I, r, q⟩ := id h
  cases x with
  | non => cases r; exact h
  | bl b => cases r; exact h
  | int i => obtain ⟨t, rfl⟩ := r; exact h
  | str i => obtain ⟨t, rfl⟩ := r; exact h
  | byt i => obtain ⟨t, rfl⟩ := r; exact h
  | flt i => obtain ⟨t, rfl⟩ := r; exact h
  | ref a => cases r; exact h
  | ty n => cases r; exact h
/-- the promises of an operator's method, by the class -/
abbrev OTab := Nat → Option DSp
def OwnOk (X : Cx) (ca : Ca) (k : Nat) (m : Str) (T : OTab) : Prop := ∀ c sp, T c = some sp → Mt X ca k c m [] sp ∧ PySem.W.selfFirst X.K (ca c) = true
/-- x op y, both of one own class -/
def oOwn (T : OTab) : DOp := fun x y M E Q => match asO M x with
  | some (c, _) => (match asO M y with
    | some (c', _) => (match T c with | some sp => c = c' ∧ sp [x, y] M E Q | none => False)
    | none => False)
  | none => False
theorem op_own {op : Operator} {T : OTab} (C : Ctx X j W) (ok : OwnOk X ca k (PySem.dunder op.info.2) T) (hk : k ≤ j := by decide) : OpD X ca W (binaryOp op) (oOwn T) := by
  intro pins s σ H U F M δ E Q R dx dy x y v u I S rx ry rv ru ho c
  unfold oOwn at ho
  cases e1 : asO M dx with
  | none => rw [e1] at ho; exact ho.elim
  | some p =>
    obtain ⟨k1, fs⟩ := p
    rw [e1] at ho
    simp only at ho
    cases e2 : asO M dy with
    | none => rw [e2] at ho; exact ho.elim
    | some q =>
      obtain ⟨k2, gs⟩ := q
      rw [e2] at ho
      simp only at ho
      cases et : T k1 with
      | none => rw [et] at ho; exact ho.elim
      | some sp =>
        rw [et] at ho
        obtain ⟨ek, ho⟩ := ho
        subst ek
        obtain ⟨a, da, vs, ev, ha, _⟩ := asO_ok S.hr rx e1
        obtain ⟨b, db, ws, ew, hb, _⟩ := asO_ok S.hr ry e2
        subst ev; subst ew
        obtain rfl : v = Value.ref a := rv
        obtain rfl : u = Value.ref b := ru
        obtain ⟨⟨cl, f, hm, G⟩, sf⟩ := ok k1 sp et
        obtain ⟨od, J⟩ := inst_of I ha
        obtain ⟨od', J'⟩ := inst_of I hb
        obtain ⟨m, hF⟩ := I.fr
        refine PySem.W.binop_K hF I.ok.mod.kin J J'.type sf hm.at_ hm.fn ?_
        exact wpAny_mono (run_fnD (us := [.ref a, .ref b]) (vs := [.ref a, .ref b]) (ds := [dx, dy]) (sub_of C hk) G C.tk I S (.cons rfl (.cons rfl .nil)) ⟨_, _, rfl, rx, _, _, rfl, ry, rfl⟩ ho c) (fun _ _ z => cmpBack_of z) fun _ _ z => z
/-! ### the types of values -/
inductive Tg where
  | non | bl | int | str | tup | lst | dic | own (c : Nat)
  deriving DecidableEq
def tgV (ca : Ca) : Tg → Value
  | .non => .type "NoneType"
  | .bl => .type "bool"
  | .int => .type "int"
  | .str => .type "str"
  | .tup => .type "tuple"
  | .lst => .type "list"
  | .dic => .type "dict"
  | .own c => .ref (ca c)
def tgD (M : Mem) : D → Option Tg
  | .non => some .non
  | .bl _ => some .bl
  | .int _ => some .int
  | .str _ => some .str
  | .tup _ => some .tup
  | .lst _ => some .lst
  | .dic _ => some .dic
  | .obj c _ => some (.own c)
  | .ref p => (match M p with
    | some (.lst _) => some .lst
    | some (.ins c _) => some (.own c)
    | some (.dic _) => some .dic
    | none => none)
  | _ => none
variable {K : Fg} {U F H : Hp} {M : Mem} {d : D} {v : V} {t : Tg}
theorem looks_of {pins : List (Addr × Obj)} {σ : L2.St} {s : Shared} {u : Value} (I : Inv X pins σ H s) (hr : HR X.K ca U F M H) (r : Rep X.K ca F d v) (ru : RelV v u) (h : tgD M d = some t) : PySem.W.Looks (model X.prog X.w) s.heap (typeOf u) (tgV ca t) := by
  cases eo : asO M d with
  | some p =>
    obtain ⟨c, fs⟩ := p
    obtain ⟨a, dx, vs, ev, ha, _⟩ := asO_ok hr r eo
    subst ev
    obtain rfl : u = Value.ref a := ru
    obtain ⟨od, J⟩ := inst_of I ha
    have e : t = .own c := by
      cases d with
      | obj c' fs' => cases eo; cases h; rfl
      | ref p =>
        unfold asO at eo
        unfold tgD at h
        cases q : M p with
        | none => simp only [q] at eo; cases eo
        | some m =>
          cases m with
          | ins c' fs' => simp only [q] at eo h; cases eo; cases h; rfl
          | _ => simp only [q] at eo; cases eo
      | _ => cases eo
    subst e
    exact J.type
  | none =>
    have lists : ∀ l, asL M d = some l → t = .lst → PySem.W.Looks (model X.prog X.w) s.heap (typeOf u) (tgV ca t) := fun l hl e => by
      subst e
      obtain ⟨a, vs, ev, hs, _⟩ := asL_ok hr r hl
      subst ev
      obtain rfl : u = Value.ref a := ru
      obtain ⟨its, _, pl, _⟩ := I.list hs
      obtain ⟨o, n, e1, hc, _, _⟩ := pl
      exact fun A Q E s kp q => wpAny_typeOf_ref (kp _ _ e1) (by rw [hc]; exact q)
    cases d with
    | non => cases h; cases r; obtain rfl : u = Value.none := ru; exact PySem.W.Looks.of_pure rfl
    | bl b => cases h; cases r; obtain rfl : u = Value.bool b := ru; exact PySem.W.Looks.of_pure rfl
    | int i => cases h; cases r; obtain ⟨tk, rfl⟩ := ru; exact PySem.W.Looks.of_pure rfl
    | str z => cases h; cases r; obtain ⟨tk, rfl⟩ := ru; exact PySem.W.Looks.of_pure rfl
    | tup l =>
      cases h
      obtain ⟨a, vs, ev, hs, _⟩ := r
      subst ev
      obtain rfl : u = Value.ref a := ru
      obtain ⟨its, _, ⟨o, e1, hc, _⟩, _⟩ := I.tuple (hs.ext hr.sub)
      exact fun A Q E s kp q => wpAny_typeOf_ref (kp _ _ e1) (by rw [hc]; exact q)
    | lst l => cases h; exact lists l rfl rfl
    | dic kvs =>
      cases h
      obtain ⟨a, vs, ev, hs, _⟩ := r
      subst ev
      obtain rfl : u = Value.ref a := ru
      obtain ⟨_, _, _, _, o, _, _, e1, ex, _⟩ := I.hok a _ (hr.sub _ _ hs)
      exact fun A Q E s kp q => wpAny_typeOf_ref (kp _ _ e1) (by rw [ex.1]; exact q)
    | obj c fs => cases eo
    | ref p =>
      cases q : M p with
      | none => simp only [tgD, q] at h; cases h
      | some m =>
        cases m with
        | lst l =>
          simp only [tgD, q] at h
          cases h
          exact lists l (by simp only [asL, q]) rfl
        | ins c fs => simp only [asO, q] at eo; cases eo
        | dic kvs =>
          simp only [tgD, q] at h
          cases h
          obtain ⟨_, _, vs, e1, _⟩ := hr.mem _ _ q
          cases r
          obtain rfl : u = Value.ref p := ru
          obtain ⟨_, _, _, _, o, _, _, e1, ex, _⟩ := I.hok p _ e1
          exact fun A Q E s kp q => wpAny_typeOf_ref (kp _ _ e1) (by rw [ex.1]; exact q)
    | ty n => cases h
    | cls c => cases h
    | exc c fs => cases h
/-- the types against which an own class compares: none is one of its subclasses -/
def NoSubs (K : Fg) (ca : Ca) (c : Nat) (ts : List Tg) : Prop := ∀ t, t ∈ ts → PySem.W.notFirst K (ca c) (tgV ca t) = true
/-- x op y of an own class, y any value of some type -/
def oCmpOwn (T : OTab) (ts : List Tg) : DOp := fun x y M E Q => match asO M x with
  | some (c, _) => (match T c with
    | some sp => (match tgD M y with
      | some t => t ∈ ts ∧ sp [x, y] M E Q
      | none => False)
    | none => False)
  | none => False
def CmpOwnOk (X : Cx) (ca : Ca) (k : Nat) (m : Str) (T : OTab) (ts : List Tg) : Prop := ∀ c sp, T c = some sp → Mt X ca k c m [] sp ∧ NoSubs X.K ca c ts
theorem op_cmpOwn {op : CmpOp} {T : OTab} {ts : List Tg} (C : Ctx X j W) (ok : CmpOwnOk X ca k (cmpInfo op).2.1 T ts) (hop : ∀ v u, compareOp op v u = richCompare op v u) (hk : k ≤ j := by decide) : OpD X ca W (compareOp op) (oCmpOwn T ts) := by
  intro pins s σ H U F M δ E Q R dx dy x y v u I S rx ry rv ru ho c
  unfold oCmpOwn at ho
  cases e1 : asO M dx with
  | none => rw [e1] at ho; exact ho.elim
  | some p =>
    obtain ⟨k1, fs⟩ := p
    rw [e1] at ho
    simp only at ho
    cases et : T k1 with
    | none => rw [et] at ho; exact ho.elim
    | some sp =>
      rw [et] at ho
      simp only at ho
      cases e2 : tgD M dy with
      | none => rw [e2] at ho; exact ho.elim
      | some t =>
        rw [e2] at ho
        obtain ⟨ht, ho⟩ := ho
        obtain ⟨⟨cl, f, hm, G⟩, ns⟩ := ok k1 sp et
        have L := looks_of I S.hr ry ru e2
        obtain ⟨a, da, vs, ev, ha, _⟩ := asO_ok S.hr rx e1
        subst ev
        obtain rfl : v = Value.ref a := rv
        obtain ⟨od, J⟩ := inst_of I ha
        obtain ⟨m, hF⟩ := I.fr
        rw [hop]
        refine PySem.W.cmp_K C.room.units0 hF I.ok.mod.kin J L (ns t ht) hm.at_ hm.fn ?_
        exact wpAny_mono (run_fnD (us := [.ref a, u]) (vs := [.ref a, y]) (ds := [dx, dy]) (sub_of C hk) G C.tk I S (.cons rfl (.cons ru .nil)) ⟨_, _, rfl, rx, _, _, rfl, ry, rfl⟩ ho c) (fun _ _ z => cmpBack_of z) fun _ _ z => z
/-! -x, abs(x), bool(x), str(x), repr(x), len(x) of own classes -/
def uOwn (T : OTab) (x : D) (M : Mem) (E : XD) (Q : QD) : Prop := match asO M x with
  | some (c, _) => (match T c with | some sp => sp [x] M E Q | none => False)
  | none => False
def MOk (X : Cx) (ca : Ca) (k : Nat) (m : Str) (T : OTab) : Prop := ∀ c sp, T c = some sp → Mt X ca k c m [] sp
/-- the method's own call -/
theorem own_go {T : OTab} {m : Str} {A : Around} (tk : Takes X W) (sb : Sub X k A) (ok : MOk X ca k m T) {pins : List (Addr × Obj)} {s : Shared} {σ : L2.St} {δ : DEnv} {E : EX} {Q : QD} {R : VK} {u : Value} (I : Inv X pins σ H s) (S : Stt X.K ca U W F M δ E σ H) (r : Rep X.K ca F d v) (ru : RelV v u)
    (h : uOwn T d M (fun c fs M' => E c fs δ M') Q) (c : Cl X.K ca U F Q R) : ∃ a C f od dx, u = .ref a ∧ PySem.W.InstAt s.heap a (PySem.W.instObj C dx) C (some od) ∧ Meth X.K C m f ∧ wpAny (model X.prog X.w) A (call (.ref f) [.ref a]) (EP X pins σ R) X.xe s := by
  unfold uOwn at h
  cases e1 : asO M d with
  | none => rw [e1] at h; exact h.elim
  | some p =>
    obtain ⟨k1, fs⟩ := p
    rw [e1] at h
    simp only at h
    cases et : T k1 with
    | none => rw [et] at h; exact h.elim
    | some sp =>
      rw [et] at h
      obtain ⟨cl, f, hm, G⟩ := ok k1 sp et
      obtain ⟨a, da, vs, ev, ha, _⟩ := asO_ok S.hr r e1
      subst ev
      obtain rfl : u = Value.ref a := ru
      obtain ⟨od, J⟩ := inst_of I ha
      exact ⟨a, _, f, od, da, rfl, J, hm, run_fnD (us := [.ref a]) (vs := [.ref a]) (ds := [d]) sb G tk I S (.cons rfl .nil) ⟨_, _, rfl, r, rfl⟩ h c⟩
def dUn (op : D → Mem → XD → QD → Prop) (ta : DT) : DT := fun δ M E Q => ta δ M E fun x M1 => op x M1 (fun c fs M' => E c fs δ M') Q
def UnD (X : Cx) (ca : Ca) (W : WX) (f : Value → Sem Value) (op : D → Mem → XD → QD → Prop) : Prop :=
  ∀ (pins : List (Addr × Obj)) (s : Shared) (σ : L2.St) (H U F : Hp) (M : Mem) (δ : DEnv) (E : EX) (Q : QD) (R : VK) (d : D) (v : V) (u : Value), Inv X pins σ H s → Stt X.K ca U W F M δ E σ H → Rep X.K ca F d v → RelV v u → op d M (fun c fs M' => E c fs δ M') Q → Cl X.K ca U F Q R →
    wpAny (model X.prog X.w) X.A (f u) (EP X pins σ R) X.xe s
theorem de_un {op : UnaryOp} {r : D → Mem → XD → QD → Prop} {a : Expr} {ta : DT} {pos : Pos} (ho : UnD X ca W (unaryOp op) r) (ha : DE X ca W a ta) : DE X ca W (.UnaryOp op a pos) (dUn r ta) := by
  refine ⟨fun pins s σ H R I ⟨U, F, M, δ, E, Q, S, h, c⟩ => ?_⟩
  refine UnaryOp_ (thn (ha.run pins s σ H (fun x H1 => ∃ F1 M1 d, Stt X.K ca U W F1 M1 δ E σ H1 ∧ Rep X.K ca F1 d x ∧ r d M1 (fun c fs M' => E c fs δ M') Q ∧ Cl X.K ca U F1 Q R) I ?_) fun u s1 ⟨x, H1, I1, rx, F1, M1, d, S1, rd, h1, c1⟩ => ?_)
  · exact lift_of S h fun d M1 F1 v H1 h1 e1 r1 g1 => ⟨F1, M1, d, S.up e1 g1, r1, h1, c.up e1⟩
  · exact ho pins s1 σ H1 U F1 M1 δ E Q R d x u I1 S1 rd rx h1 c1
def uNeg0 (x : D) (M : Mem) (E : XD) (Q : QD) : Prop := match x with | .int i => Q (.int (-i)) M | _ => False
theorem un_negD : UnD X ca W (unaryOp .USub) uNeg0 := fun pins s σ H U F M δ E Q R d v u I S r ru h c => by
  cases d with
  | int i => cases r; exact un_neg pins s σ H (.int i) u R I ru ⟨i, rfl, c _ _ _ _ _ h Ext.rfl' rfl S.hr⟩
  | _ => exact h.elim
theorem un_negOwn {T : OTab} (C : Ctx X j W) (ok : MOk X ca k "__neg__" T) (hk : k ≤ j := by decide) : UnD X ca W (unaryOp .USub) (uOwn T) := fun pins s σ H U F M δ E Q R d v u I S r ru h c => by
  obtain ⟨a, D, f, od, dx, rfl, J, hm, q⟩ := own_go C.tk (sub_of C hk) ok I S r ru h c
  obtain ⟨m, hF⟩ := I.fr
  exact PySem.W.ksp_neg hF I.ok.mod.kin J hm.at_ hm.fn q
theorem UnD.or {f : Value → Sem Value} {a b : D → Mem → XD → QD → Prop} (h1 : UnD X ca W f a) (h2 : UnD X ca W f b) : UnD X ca W f (fun x M E Q => a x M E Q ∨ b x M E Q) := fun pins s σ H U F M δ E Q R d v u I S r ru h c =>
  h.elim (fun h => h1 pins s σ H U F M δ E Q R d v u I S r ru h c) fun h => h2 pins s σ H U F M δ E Q R d v u I S r ru h c
end
end TS
namespace TSW
open PySem PySem.W PySem.Spec PySem.Calls PyProof.Rows Builtin
section
variable {prog : Program} {w : World} {A : Around} {E : Value → Shared → Prop} {s : Shared} {K : Frag} {x C L f : Addr} {h₀ : Heap} {m : Str → Option Value} {ox : Obj} {od : Option Obj} {b tb : Value}
theorem ifBound_B {M : Model} {A : Around} {name : Str} {id : String} {args : List Value} {Q : Option Value → Shared → Prop} (X : K.In s.heap) (I : InstAt s.heap x ox C od) (hs : findIn K (.ref C) name = some (some (.builtin id))) (hb : ∀ self, bindSpecial (.builtin id) self = pure (.builtin id, [self]))
    (h : wpAny M A (call (.builtin id) (.ref x :: args)) (fun v => Q (some v)) E s) : wpAny M A (callSpecialIfBound? (.ref x) name args) Q E s := by
  simp only [callSpecialIfBound?, bindSpecialIfBound?]
  refine wpAny_holding (wpAny_bind (wpAny_bind (wpAny_bind (I.type.here ((looks_findIn X hs).here ?_)))))
  refine wpAny_bind (wpAny_askSetting (wpAny_ite ?_))
  have fin : wpAny M A (call (.builtin id) ([.ref x] ++ args) >>= fun v => pure (some v)) Q E s := wpAny_bind (wpAny_mono h (fun v s' h' => wpAny_pure h') fun _ _ h' => h')
  split
  · exact wpAny_bind ((Looks.of_pure (hb _)).here (wpAny_pure (by exact fin)))
  · exact wpAny_tryCatch (wpAny_bind ((Looks.of_pure (hb _)).here (wpAny_pure (by exact fin))))
theorem slot_object_ne : Slot "object" "__ne__" "object.__ne__" := PySem.F.slot_object_ne
/-- what an own __eq__ hands back, turned about -/
def NotBack (Q : Value → Shared → Prop) (v : Value) (s' : Shared) : Prop := ∃ c, v = .bool c ∧ Q (.bool (!c)) s'
theorem ne_K {Q : Value → Shared → Prop} (hu : A.units + 1 < cLine) (F : Fr h₀ L s.heap m) (X₀ : K.In h₀) (I : InstAt s.heap x ox C od) (hb : Looks (model prog w) s.heap (typeOf b) tb) (hn : notFirst K C tb = true)
    (hs : findIn K (.ref C) "__ne__" = some (some (.builtin "object.__ne__"))) (he : findIn K (.ref C) "__eq__" = some (some (.ref f))) (hf : isFn K (.ref f) = true) (hm : mroIn K C (.type "object") = some true)
    (h : wpAny (model prog w) A.in1 (call (.ref f) [.ref x, b]) (NotBack Q) E s) : wpAny (model prog w) A (richCompare .NotEq (.ref x) b) Q E s := by
  have X := X₀.keeps F.keep
  have hu1 : A.in1.units < cLine := hu
  have inner : wpAny (model prog w) A (call (.builtin "object.__ne__") [.ref x, b]) (fun v s' => ∃ c, v = .bool c ∧ Q v s') E s := by
    refine wpAny_call (codeAny_call_builtin slot_object_ne.plain PySem.F.cmpEntry_ne (check_slot (i := "object.__ne__") (owner := "object") (n := "__ne__") PySem.F.cmpKind_ne PySem.F.cmpSplit_ne (I.type.andThen (looks_mroIn X hm)) (PySem.F.cmpArgs_ne _ _) ?_))
    unfold Builtin.«object.__ne__»
    refine wpAny_bind (m := slotArgs "__ne__" 1 _) (wpAny_pure ?_)
    refine wpAny_bind (m := cRoomFor _ _) (wpAny_cRoomFor hu1 ?_)
    refine wpAny_bind (m := callSpecialIfBound? (.ref x) (Str.ofString "__eq__") _) (ifBound_K X I he hf (wpAny_mono h (fun r s' hq => ?_) fun _ _ y => y))
    obtain ⟨c, rfl, hq⟩ := hq
    show wpAny _ _ (truthy (.bool c) >>= _) _ _ _
    exact wpAny_bind (wpAny_truthy_bool (wpAny_pure ⟨_, rfl, hq⟩))
  have one : wpAny (model prog w) A (tryCompare (.ref x) "__ne__" b) (fun r s' => ∃ v, r = some v ∧ Q v s') E s := by
    unfold tryCompare
    refine wpAny_bind (ifBound_B X I hs slot_object_ne.bind (wpAny_mono inner (fun v s' hv => ?_) fun _ _ e => e))
    obtain ⟨c, rfl, hq⟩ := hv
    exact wpAny_pure ⟨_, rfl, hq⟩
  unfold richCompare
  simp only [oneThing_ref]
  refine wpAny_holding (wpAny_bind (wpAny_cRoomFor (Nat.lt_of_succ_lt hu) ?_))
  refine wpAny_bind (I.type.here (wpAny_bind (hb.here ?_)))
  split
  · rename_i q
    have e : subIn K tb (.ref C) = some false := by
      rcases Bool.or_eq_true_iff.mp hn with e | e
      · rw [beq_iff_eq.mp e] at q; simp at q
      · exact beq_iff_eq.mp e
    refine wpAny_bind ((looks_subIn X e).here ?_)
    simp only [Bool.false_eq_true, if_false]
    refine wpAny_bind (wpAny_mono one (fun r s' z => ?_) fun _ _ e => e)
    obtain ⟨v, rfl, hq⟩ := z
    exact wpAny_pure hq
  · refine wpAny_bind (wpAny_pure ?_)
    simp only [Bool.false_eq_true, if_false]
    refine wpAny_bind (wpAny_mono one (fun r s' z => ?_) fun _ _ e => e)
    obtain ⟨v, rfl, hq⟩ := z
    exact wpAny_pure hq
/-- abs(x) of an own class -/
theorem abs_K {Q : Value → Shared → Prop} (X : K.In s.heap) (I : InstAt s.heap x ox C od) (hs : findIn K (.ref C) "__abs__" = some (some (.ref f))) (hf : isFn K (.ref f) = true)
    (h : wpAny (model prog w) A.in1 (call (.ref f) [.ref x]) Q E s) : wpAny (model prog w) A (call (.builtin "abs") [.ref x]) Q E s := by
  refine Calls.call_function_entry PyProof.Rows.kind_abs PyProof.Rows.plain_abs PyProof.Rows.entry_abs (PyProof.Rows.args_abs _) ?_
  unfold Builtin.«abs»
  refine wpAny_bind (m := oneArg "abs" _) (wpAny_pure ?_)
  refine wpAny_bind (m := callSpecial? (.ref x) (Str.ofString "__abs__")) (special_fn X I hs (beq_iff_eq.mp hf) (wpAny_mono h (fun r s' hr => ?_) fun _ _ y => y))
  exact wpAny_pure ⟨_, rfl, hr⟩
/-- bool(x) of an own class -/
theorem bool_K {Q : Value → Shared → Prop} (F : Fr h₀ L s.heap m) (X₀ : K.In h₀) (I : InstAt s.heap x ox C od) (hs : findIn K (.ref C) "__bool__" = some (some (.ref f))) (hf : isFn K (.ref f) = true)
    (h : wpAny (model prog w) A.in1.in1 (call (.ref f) [.ref x]) (fun v s' => ∃ c, v = .bool c ∧ Q v s') E s) : wpAny (model prog w) A (call (.type "bool") [.ref x]) Q E s := by
  refine callType_codes (T := "bool") (Bi := Builtin.«object.__init__») (Q₁ := fun r s₁ => ∃ c, r = .bool c ∧ Q r s₁) PySem.F.called_bool (PySem.F.typeCall_bool_1 _) PySem.F.entry_object_init ?_ ?_
  · refine codeAny_of_tree ?_
    show wpAny _ A.in1.in1 (do checkBuiltinCall "bool.__new__" ⟨[.type "bool", .ref x], []⟩; again (.builtin "bool.__new__" ⟨[.type "bool", .ref x], []⟩)) _ _ s
    refine wpAny_bind (wpAny_of_eq (PySem.F.newCall_bool_1 _) (wpAny_pure ⟨plainId_quiet (by decide +kernel) _, codeAny_builtin PySem.F.entry_bool_new ?_⟩))
    rw [Around.under_plainId (by decide +kernel) _]
    unfold Builtin.«bool.__new__»
    refine wpAny_bind (wpAny_pure ?_)
    refine wpAny_bind (wpAny_of_eq PySem.F.conv_sub_bool ?_)
    refine wpAny_bind (wpAny_pure ?_)
    refine wpAny_bind (truthy_K F X₀ I hs hf (wpAny_mono h (fun r s₁ hr => ?_) fun _ _ y => y))
    obtain ⟨c, rfl, hq⟩ := hr
    exact wpAny_pure ⟨c, rfl, hq⟩
  · rintro obj s₁ ⟨c, rfl, hq⟩
    exact ⟨PySem.typeIs_bool _ _, PySem.F.args_object_init_2 _ _, object_init_meets PySem.F.called_bool.init.lookup PySem.F.called_bool.made (by decide) prog w A.in1 _ s₁ ⟨PySem.typeIs_bool _ _, rfl, hq⟩⟩
end
end TSW

namespace TS
open PySem PySem.Spec PyProof.Rows L2
section
variable {X : Cx} {ca : Ca} {W : WX} {k j : Nat}
theorem boolBack_of {pins : List (Addr × Obj)} {σ : L2.St} {R : VK} {v : Value} {s' : Shared} {P : Value → Shared → Prop} (h : EP X pins σ (fun x H => ∃ c, x = .bl c ∧ R x H) v s') (k : ∀ c, v = .bool c → EP X pins σ R (.bool c) s' → P (.bool c) s') : P v s' := by
  obtain ⟨x, H', I, r, c, ex, q⟩ := h
  subst ex
  cases r
  exact k c rfl ⟨.bl c, H', I, rfl, q⟩
/-- != of an own class with an own == and no own != -/
def oNeOwn (T : OTab) (ts : List Tg) : DOp := fun x y M E Q => match asO M x with
  | some (c, _) => (match T c with
    | some sp => (match tgD M y with
      | some t => t ∈ ts ∧ sp [x, y] M E fun r M' => ∃ c, r = .bl c ∧ Q (.bl (!c)) M'
      | none => False)
    | none => False)
  | none => False
def NeOwnOk (X : Cx) (ca : Ca) (k : Nat) (T : OTab) (ts : List Tg) : Prop := ∀ c sp, T c = some sp → Mt X ca k c "__eq__" [] sp ∧ NoSubs X.K ca c ts ∧
  PySem.W.findIn X.K (.ref (ca c)) "__ne__" = some (some (.builtin "object.__ne__")) ∧ PySem.W.mroIn X.K (ca c) (.type "object") = some true
theorem op_neOwn {T : OTab} {ts : List Tg} (C : Ctx X j W) (ok : NeOwnOk X ca k T ts) (hk : k + 1 ≤ j := by decide) : OpD X ca W (compareOp .NotEq) (oNeOwn T ts) := by
  intro pins s σ H U F M δ E Q R dx dy x y v u I S rx ry rv ru ho c
  unfold oNeOwn at ho
  cases e1 : asO M dx with
  | none => rw [e1] at ho; exact ho.elim
  | some p =>
    obtain ⟨k1, fs⟩ := p
    rw [e1] at ho
    simp only at ho
    cases et : T k1 with
    | none => rw [et] at ho; exact ho.elim
    | some sp =>
      rw [et] at ho
      simp only at ho
      cases e2 : tgD M dy with
      | none => rw [e2] at ho; exact ho.elim
      | some t =>
        rw [e2] at ho
        obtain ⟨ht, ho⟩ := ho
        obtain ⟨⟨cl, f, hm, G⟩, ns, hne, hob⟩ := ok k1 sp et
        have L := looks_of I S.hr ry ru e2
        obtain ⟨a, da, vs, ev, ha, _⟩ := asO_ok S.hr rx e1
        subst ev
        obtain rfl : v = Value.ref a := rv
        obtain ⟨od, J⟩ := inst_of I ha
        obtain ⟨m, hF⟩ := I.fr
        show wpAny _ _ (richCompare .NotEq (.ref a) u) _ _ _
        have hr1 : Room k X.A.in1 := (C.room.mono hk).in1
        refine TSW.ne_K (by have := C.room.un; omega) hF I.ok.mod.kin J L (ns t ht) hne hm.at_ hm.fn hob ?_
        refine wpAny_mono (run_fnD (R := fun x H => ∃ c, x = .bl c ∧ R (.bl (!c)) H) (us := [.ref a, u]) (vs := [.ref a, y]) (ds := [dx, dy]) ⟨hr1, rfl⟩ G C.tk I S (.cons rfl (.cons ru .nil)) ⟨_, _, rfl, rx, _, _, rfl, ry, rfl⟩ ho (fun d M' F' v' H' q e r g => ?_)) (fun v' s' z => ?_) fun _ _ z => z
        · obtain ⟨b, rfl, q⟩ := q
          have r : v' = .bl b := r
          exact ⟨b, r, c _ _ _ _ _ q e rfl g⟩
        · obtain ⟨x', H', I', r', b, ex, q⟩ := z
          subst ex
          cases r'
          exact ⟨b, rfl, .bl (!b), H', I', rfl, q⟩
theorem call_absOwn {T : OTab} (C : Ctx X j W) (ok : MOk X ca k "__abs__" T) (hk : k + 1 ≤ j := by decide) : CallD X ca W (.builtin "abs") (b1 (uOwn T)) := .one fun pins s σ H U F M δ E Q R d v u I S r ru h c => by
  obtain ⟨a, D, f, od, dx, rfl, J, hm, q⟩ := own_go C.tk (A := X.A.in1) ⟨(C.room.mono hk).in1, rfl⟩ ok I S r ru h c
  exact TSW.abs_K I.kIn J hm.at_ hm.fn q
/-- bool(x), the method hands back a truth -/
def uOwnB (T : OTab) (x : D) (M : Mem) (E : XD) (Q : QD) : Prop := uOwn T x M E fun r M' => ∃ c, r = .bl c ∧ Q r M'
def uOwnS (T : OTab) (x : D) (M : Mem) (E : XD) (Q : QD) : Prop := uOwn T x M E fun r M' => ∃ z, r = .str z ∧ Q r M'
theorem clB_of {K : Fg} {U F : Hp} {Q : QD} {R : VK} (c : Cl K ca U F Q R) : Cl K ca U F (fun r M' => ∃ b, r = .bl b ∧ Q r M') (fun x H => ∃ b, x = .bl b ∧ R x H) := fun d M' F' v H' ⟨b, e, q⟩ ex r g => by
  subst e
  exact ⟨b, r, c _ _ _ _ _ q ex r g⟩
theorem clS_of {K : Fg} {U F : Hp} {Q : QD} {R : VK} (c : Cl K ca U F Q R) : Cl K ca U F (fun r M' => ∃ b, r = .str b ∧ Q r M') (fun x H => ∃ b, x = .str b ∧ R x H) := fun d M' F' v H' ⟨b, e, q⟩ ex r g => by
  subst e
  exact ⟨b, r, c _ _ _ _ _ q ex r g⟩
theorem strBack_of {pins : List (Addr × Obj)} {σ : L2.St} {R : VK} {v : Value} {s' : Shared} (h : EP X pins σ (fun x H => ∃ z, x = .str z ∧ R x H) v s') : PySem.W.StrBack (EP X pins σ R) v s' := by
  obtain ⟨x, H', I, r, z, ex, q⟩ := h
  subst ex
  obtain ⟨t, rfl⟩ := id r
  exact ⟨.str z, H', I, r, q⟩
theorem call_boolOwn {T : OTab} (C : Ctx X j W) (ok : MOk X ca k "__bool__" T) (hk : k + 2 ≤ j := by decide) : CallD X ca W (.type "bool") (b1 (uOwnB T)) := .one fun pins s σ H U F M δ E Q R d v u I S r ru h c => by
  obtain ⟨a, D, f, od, dx, rfl, J, hm, q⟩ := own_go C.tk (A := X.A.in1.in1) ⟨(C.room.mono hk).in1.in1, rfl⟩ ok I S r ru h (clB_of c)
  obtain ⟨m, hF⟩ := I.fr
  refine TSW.bool_K hF I.ok.mod.kin J hm.at_ hm.fn (wpAny_mono q (fun v' s' z => ?_) fun _ _ z => z)
  obtain ⟨x', H', I', r', b, ex, q'⟩ := z
  subst ex
  cases r'
  exact ⟨b, rfl, .bl b, H', I', rfl, q'⟩
theorem call_strOwn {T : OTab} (C : Ctx X j W) (ok : MOk X ca k "__str__" T) (hk : k + 2 ≤ j := by decide) : CallD X ca W (.type "str") (b1 (uOwnS T)) := .one fun pins s σ H U F M δ E Q R d v u I S r ru h c => by
  obtain ⟨a, D, f, od, dx, rfl, J, hm, q⟩ := own_go C.tk (A := X.A.in1.in1) ⟨(C.room.mono hk).in1.in1, rfl⟩ ok I S r ru h (clS_of c)
  exact PySem.W.kso_call (C.room.mono hk).in1.in1.units0 I.kIn J hm.at_ hm.fn (wpAny_mono q (fun v' s' z => strBack_of z) fun _ _ z => z)
theorem call_reprOwn {T : OTab} (C : Ctx X j W) (ok : MOk X ca k "__repr__" T) (hk : k + 1 ≤ j := by decide) : CallD X ca W (.builtin "repr") (b1 (uOwnS T)) := .one fun pins s σ H U F M δ E Q R d v u I S r ru h c => by
  obtain ⟨a, D, f, od, dx, rfl, J, hm, q⟩ := own_go C.tk (A := X.A.in1) ⟨(C.room.mono hk).in1, rfl⟩ ok I S r ru h (clS_of c)
  obtain ⟨m, hF⟩ := I.fr
  exact PySem.W.repr_K (C.room.mono hk).in1.units0 hF I.ok.mod.kin J hm.at_ hm.fn (wpAny_mono q (fun v' s' z => strBack_of z) fun _ _ z => z)
/-! isinstance -/
structure OwnC (K : Fg) (C : Addr) : Prop where
  cl : Cls K C
  ha : PySem.W.findIn K (.ref C) "__class__" = some (some (.builtin "object.__class__"))
  hn : PySem.W.specialIn K (.builtin "object.__class__") "__get__" = some (some (.builtin "getset_descriptor.__get__"))
  htk : PySem.W.takesIn K (.builtin "object.__class__") = some true
  hm : PySem.W.mroIn K C (.type "object") = some true
/-- what isinstance answers for the class y, by the value's type -/
abbrev ITab := D → Tg → Option Bool
def clsV (ca : Ca) : D → Option Value
  | .cls c => some (.ref (ca c))
  | .ty n => some (.type n)
  | _ => none
def IsaOk (K : Fg) (ca : Ca) (T : ITab) : Prop := ∀ y t b, T y t = some b → (∃ cv, clsV ca y = some cv ∧ PySem.W.kitOne K (tgV ca t) cv = some b) ∧ ∀ c, t = .own c → OwnC K (ca c)
def bIsa (T : ITab) (x y : D) (M : Mem) (E : XD) (Q : QD) : Prop := match tgD M x with
  | some t => (match T y t with | some b => Q (.bl b) M | none => False)
  | none => False
theorem call_isaD {T : ITab} (ok : IsaOk X.K ca T) : CallD X ca W (.builtin "isinstance") (b2 (bIsa T)) := .two fun pins s σ H U F M δ E Q R d d' v v' u u' I S r r' ru ru' h c => by
  unfold bIsa at h
  cases et : tgD M d with
  | none => rw [et] at h; exact h.elim
  | some t =>
    rw [et] at h
    simp only at h
    cases eb : T d' t with
    | none => rw [eb] at h; exact h.elim
    | some b =>
      rw [eb] at h
      obtain ⟨⟨cv, hcv, e⟩, ho⟩ := ok d' t b eb
      have eu : u' = cv := by
        cases d' with
        | cls c => cases hcv; cases r'; exact ru'
        | ty n => cases hcv; cases r'; exact ru'
        | _ => cases hcv
      subst eu
      have fin : ∀ tk, EP X pins σ R (.bool b) { s with toks := tk } := fun tk => ⟨.bl b, H, I.tok _, rfl, c _ _ _ _ _ h Ext.rfl' rfl S.hr⟩
      have lists : ∀ l, asL M d = some l → t = .lst → wpAny (model X.prog X.w) X.A (call (.builtin "isinstance") [u, u']) (EP X pins σ R) X.xe s := fun l hl e' => by
        subst e'
        obtain ⟨a, vs, ev, hs, _⟩ := asL_ok S.hr r hl
        subst ev
        obtain rfl : u = Value.ref a := ru
        obtain ⟨its, _, pl, _⟩ := I.list hs
        obtain ⟨o, n, e1, hc, _, _⟩ := pl
        exact PySem.W.kia_one PySem.W.kitx_list I.kIn ⟨o, e1, hc⟩ e (fun z => nomatch z) fin
      have owns : ∀ c fs, asO M d = some (c, fs) → t = .own c → wpAny (model X.prog X.w) X.A (call (.builtin "isinstance") [u, u']) (EP X pins σ R) X.xe s := fun c fs hl e' => by
        subst e'
        obtain ⟨oc1, oc2, oc3, oc4, oc5⟩ := ho c rfl
        obtain ⟨a, dx, vs, ev, ha, _⟩ := asO_ok S.hr r hl
        subst ev
        obtain rfl : u = Value.ref a := ru
        obtain ⟨od, J⟩ := inst_of I ha
        exact PySem.W.kia_one (PySem.W.kitx_own (oc1.get _) oc1.hd oc2 oc3 oc4 oc5) I.kIn J e (fun z => nomatch z) fin
      cases d with
      | non => cases et; cases r; obtain rfl : u = Value.none := ru; exact PySem.W.kia_one PySem.W.kitx_none I.kIn True.intro e (fun z => nomatch z) fin
      | bl b' => cases et; cases r; obtain rfl : u = Value.bool b' := ru; exact PySem.W.kia_one PySem.W.kitx_bool I.kIn True.intro e (fun z => nomatch z) fin
      | int i => cases et; cases r; obtain ⟨tk, rfl⟩ := ru; exact PySem.W.kia_one PySem.W.kitx_int I.kIn True.intro e (fun z => nomatch z) fin
      | str z => cases et; cases r; obtain ⟨tk, rfl⟩ := ru; exact PySem.W.kia_one PySem.W.kitx_str I.kIn True.intro e (fun z => nomatch z) fin
      | tup l =>
        cases et
        obtain ⟨a, vs, ev, hs, _⟩ := r
        subst ev
        obtain rfl : u = Value.ref a := ru
        obtain ⟨its, _, ⟨o, e1, hc, _⟩, _⟩ := I.tuple (hs.ext S.hr.sub)
        exact PySem.W.kia_one PySem.W.kitx_tuple I.kIn ⟨o, e1, hc⟩ e (fun z => nomatch z) fin
      | lst l => cases et; exact lists l rfl rfl
      | dic kvs =>
        cases et
        obtain ⟨a, vs, ev, hs, _⟩ := r
        subst ev
        obtain rfl : u = Value.ref a := ru
        obtain ⟨_, _, _, _, o, _, _, e1, ex, _⟩ := I.hok a _ (S.hr.sub _ _ hs)
        exact PySem.W.kia_one PySem.W.kitx_dict I.kIn ⟨o, e1, ex.1⟩ e (fun z => nomatch z) fin
      | obj k fs => cases et; exact owns k fs rfl rfl
      | ref p =>
        cases q : M p with
        | none => simp only [tgD, q] at et; cases et
        | some m =>
          cases m with
          | lst l =>
            simp only [tgD, q] at et
            cases et
            exact lists l (by simp only [asL, q]) rfl
          | ins k fs =>
            simp only [tgD, q] at et
            cases et
            exact owns k fs (by simp only [asO, q]) rfl
          | dic kvs =>
            simp only [tgD, q] at et
            cases et
            obtain ⟨_, _, vs, e1, _⟩ := S.hr.mem _ _ q
            cases r
            obtain rfl : u = Value.ref p := ru
            obtain ⟨_, _, _, _, o, _, _, e1, ex, _⟩ := I.hok p _ e1
            exact PySem.W.kia_one PySem.W.kitx_dict I.kIn ⟨o, e1, ex.1⟩ e (fun z => nomatch z) fin
      | ty n => cases et
      | cls c => cases et
      | exc c fs => cases et
end
end TS
namespace TS
open PySem PySem.Spec PyProof.Rows L2
/-! ### new instances -/
/-- __init__'s promise, then the instance stands still -/
def MkD (c : Nat) (sp : DSp) (dds : List D) : DSp := fun ds M E Q => ∀ x, M x = none → sp (.ref x :: (ds ++ dds)) (M.set x (.ins c [])) (fun c' fs M' => E c' fs (M'.del x)) fun v M2 => v = .non ∧ ∃ fs, M2 x = some (.ins c fs) ∧ Q (.obj c fs) (M2.del x)
/-- .. the instance may change further -/
def MkM (c : Nat) (sp : DSp) (dds : List D) : DSp := fun ds M E Q => ∀ x, M x = none → sp (.ref x :: (ds ++ dds)) (M.set x (.ins c [])) (fun c' fs M' => E c' fs (M'.del x)) fun v M2 => v = .non ∧ Q (.ref x) M2
structure Mkr (X : Cx) (ca : Ca) (k : Nat) (c : Nat) (x : Str) (spC : DSp) : Prop where
  ex : ∃ f dds sp, X.mg x = some (.ref (ca c)) ∧ Mk X.K (ca c) f ∧ FnX X ca k f dds sp ∧ ((∀ ds M E Q, spC ds M E Q → MkD c sp dds ds M E Q) ∨ (∀ ds M E Q, spC ds M E Q → MkM c sp dds ds M E Q))
section
variable {X : Cx} {ca : Ca} {W : WX} {k j c : Nat}
theorem run_mkD {pins : List (Addr × Obj)} {s : Shared} {σ : L2.St} {U F H : Hp} {M : Mem} {δ : DEnv} {E : EX} {Q : QD} {R : VK} {ds dds : List D} {sp : DSp} {vs : List V} {us : List Value} {f : Addr} (hr : Room (k + 1) X.A) (tk : Takes X W) (mk : Mk X.K (ca c) f) (G : FnX X ca k f dds sp) (I : Inv X pins σ H s) (S : Stt X.K ca U W F M δ E σ H) (r : Vals vs us) (rl : RepL X.K ca F ds vs)
    (P : QD → Addr → QD) (hP : ∀ (Q : QD) (R : VK) (U F F' H' : Hp) (x : Addr) (d : D) (M' : Mem) (v : V), P Q x d M' → Ext F F' → Rep X.K ca F' d v → HR X.K ca U F' M' H' → Cl X.K ca U F Q R → v = .non ∧ R (.ref x) H')
    (h : ∀ x, M x = none → sp (.ref x :: (ds ++ dds)) (M.set x (.ins c [])) (fun c' fs M' => E c' fs δ (M'.del x)) (P Q x)) (cl : Cl X.K ca U F Q R) :
    wpAny (model X.prog X.w) X.A (call (.ref (ca c)) us) (EP X pins σ R) X.xe s := by
  obtain ⟨fd, ps, dvals, dvs, FF, hb, hd, hdr⟩ := G.ex
  have n1 : H (s.heap.objs.size + 1) = none := I.hok.fresh (Nat.le_succ _)
  have n2 : H s.heap.objs.size = none := I.hok.fresh (Nat.le_refl _)
  have ne : s.heap.objs.size ≠ s.heap.objs.size + 1 := Nat.ne_of_lt (Nat.lt_succ_self _)
  have I2 := Inv.made (C := ca c) I
  have g1 : HR X.K ca U F M (upd H s.heap.objs.size (.own (s.heap.objs.size + 1))) := S.hr.grow (Ext.upd n2)
  have n3 : upd H s.heap.objs.size (.own (s.heap.objs.size + 1)) (s.heap.objs.size + 1) = none := by rw [upd_ne (Ne.symm ne)]; exact n1
  have g2 := g1.newM (m := .ins c []) n3 (.ins (ca c) s.heap.objs.size []) ⟨s.heap.objs.size, [], upd_same, rfl⟩
  have hq := h (s.heap.objs.size + 1) (S.hr.no n1).2.2
  have hsp : toSp X.K ca sp (V.ref (s.heap.objs.size + 1) :: (vs ++ dvs)) (upd (upd H s.heap.objs.size (.own (s.heap.objs.size + 1))) (s.heap.objs.size + 1) (.ins (ca c) s.heap.objs.size []))
      (fun v H2 => v = .non ∧ R (.ref (s.heap.objs.size + 1)) H2) (fun cls od H' => W cls od σ H') :=
    ⟨U, F, M.set (s.heap.objs.size + 1) (.ins c []), .ref (s.heap.objs.size + 1) :: (ds ++ dds), _, _, ⟨_, _, rfl, rfl, rl.append (hdr F)⟩, g2, hq,
      fun d M' F' v H' q e r g => hP Q R U F F' H' _ d M' v q e r g cl, fun c' fs M' F' H' od he e g ho => S.xc c' fs δ _ F' σ H' od he e (S.env.mono e) (g.drop _) ho⟩
  have r2 : Vals (V.ref (s.heap.objs.size + 1) :: (vs ++ dvs)) (Value.ref (s.heap.objs.size + 1) :: (us ++ dvals)) := .cons rfl (r.append hd)
  have hl : (Value.ref (s.heap.objs.size + 1) :: us ++ dvals).length = ps.length := by
    have e := r2.length
    rw [FF.len _ _ _ _ hsp] at e
    exact e.symm
  refine wpAny_call (make_map (f := f) I.kIn mk.makes mk.init (beq_iff_eq.mp mk.fn) (codeAny_mono (FF.run _ X.stack _ _ ⟨Value.ref (s.heap.objs.size + 1) :: us, []⟩ (Value.ref (s.heap.objs.size + 1) :: (us ++ dvals)) _ _ _ (hr.make (ca c) us [])
    (I2.env0.make (ca c) us []) (hb _ (Value.ref (s.heap.objs.size + 1) :: us) I2.kIn hl) r2 hsp) fun r s' hq' => ?_))
  cases r with
  | error e => exact tk e s' (XE.of_call I2 (fun cls d H' z => z) hq')
  | ok fl =>
    cases fl with
    | ret u =>
      obtain ⟨v, H', I3, rv, ev, q3⟩ := I2.after hq'
      subst ev
      exact ⟨rv, ⟨V.ref (s.heap.objs.size + 1), H', I3, rfl, q3⟩⟩
    | next => exact False.elim hq'
    | brk => exact False.elim hq'
    | cont => exact False.elim hq'
theorem mkD_go {U F F' H' : Hp} {Q : QD} {R : VK} {x : Addr} {d : D} {M' : Mem} {v : V} {K : Fg} (q : d = .non ∧ ∃ fs, M' x = some (.ins c fs) ∧ Q (.obj c fs) (M'.del x)) (e : Ext F F') (r : Rep K ca F' d v) (g : HR K ca U F' M' H') (cl : Cl K ca U F Q R) : v = .non ∧ R (.ref x) H' := by
  obtain ⟨ed, fs, em, q⟩ := q
  subst ed
  obtain ⟨F2, e2, g2, r2⟩ := g.freeze em
  exact ⟨r, cl _ _ _ _ _ q (e.trans e2) r2 g2⟩
theorem mkM_go {U F F' H' : Hp} {Q : QD} {R : VK} {x : Addr} {d : D} {M' : Mem} {v : V} {K : Fg} (q : d = .non ∧ Q (.ref x) M') (e : Ext F F') (r : Rep K ca F' d v) (g : HR K ca U F' M' H') (cl : Cl K ca U F Q R) : v = .non ∧ R (.ref x) H' := by
  obtain ⟨ed, q⟩ := q
  subst ed
  exact ⟨r, cl _ _ _ _ _ q e rfl g⟩
theorem call_mkr {x : Str} {spC : DSp} (C : Ctx X j W) (G : Mkr X ca k c x spC) (hk : k + 1 ≤ j) : CallD X ca W (.ref (ca c)) spC := fun pins s σ H U F M δ E Q R ds vs us I S rl rv hs cl => by
  obtain ⟨f, dds, sp, hm, mk, G, h | h⟩ := G.ex
  · exact run_mkD (C.room.mono hk) C.tk mk G I S rv rl (fun Q x v M2 => v = .non ∧ ∃ fs, M2 x = some (.ins c fs) ∧ Q (.obj c fs) (M2.del x)) (fun Q R U F F' H' x d M' v q e r g cl => mkD_go q e r g cl) (h ds M _ Q hs) cl
  · exact run_mkD (C.room.mono hk) C.tk mk G I S rv rl (fun Q x v M2 => v = .non ∧ Q (.ref x) M2) (fun Q R U F F' H' x d M' v q e r g cl => mkM_go q e r g cl) (h ds M _ Q hs) cl
theorem de_make {x : Str} {spC : DSp} {p pos : Pos} {e : Expr} {es : List Expr} {t : DTA} (C : Ctx X j W) (G : Mkr X ca k c x spC) (ha : DPA X ca W (e :: es) t) (hk : k + 1 ≤ j := by decide) (hg : Gl X x := by rfl) (hdb : (x == ("__debug__" : Str)) = false := by decide) (he : starEach (e :: es) X.env = (false, eval e X.env) :: starEach es X.env := by rfl) (hpl : (backTo pos (starEach es X.env)).any (·.1) = false := by rfl) :
    DE X ca W (.Call (.Name x p) (e :: es) [] pos) (dCB spC t) := by
  refine ⟨fun pins s σ H R I ⟨U, F, M, δ, E, Q, S, h, c'⟩ => ?_⟩
  have cm := call_mkr C G hk
  obtain ⟨f, dds, sp, hm, mk, _⟩ := G.ex
  refine wpAny_Call_Name_kw (ld_glob I hg hm ?_ hdb)
  refine PySem.W.callWith_K (h₀ := X.base) I.ok.mod.kin mk.kp (thn (ha.run pos pins s σ H (fun vs H1 => ∃ F1 M1 ds, Stt X.K ca U W F1 M1 δ E σ H1 ∧ RepL X.K ca F1 ds vs ∧ spC ds M1 (fun c fs M' => E c fs δ M') Q ∧ Cl X.K ca U F1 Q R) I ?_) fun us s1 ⟨vs, H1, I1, r, F1, M1, ds, S1, rl, hs, c1⟩ => ⟨I1.kIn, ?_⟩) he hpl
  · exact liftA_of S h fun ds M1 F1 vs H1 h1 e1 r1 g1 => ⟨F1, M1, ds, S.up e1 g1, r1, h1, c'.up e1⟩
  · exact cm pins s1 σ H1 U F1 M1 δ E Q R ds vs us I1 S1 rl r hs c1
theorem de_make0 {x : Str} {spC : DSp} {p pos : Pos} (C : Ctx X j W) (G : Mkr X ca k c x spC) (hk : k + 1 ≤ j := by decide) (hg : Gl X x := by rfl) (hdb : (x == ("__debug__" : Str)) = false := by decide) : DE X ca W (.Call (.Name x p) [] [] pos) (dCB spC dNil) := by
  refine ⟨fun pins s σ H R I ⟨U, F, M, δ, E, Q, S, h, c'⟩ => ?_⟩
  have cm := call_mkr C G hk
  obtain ⟨f, dds, sp, hm, mk, _⟩ := G.ex
  refine wpAny_Call_Name_kw (ld_glob I hg hm ?_ hdb)
  exact PySem.W.callWith_K0 I.kIn mk.kp (cm pins s σ H U F M δ E Q R [] [] [] I S rfl .nil h c')

/-! ### f-strings, texts -/
def dFmt (t : DT) : DT := fun δ M E Q => t δ M E fun d M1 => match d with
  | .str z => z.length ≤ sizeLine ∧ Q (.str z) M1
  | .int i => i.natAbs.log2 < 1920 ∧ Q (.str (toString i)) M1
  | _ => False
theorem de_fmt {e : Expr} {te : DT} {pos : Pos} (he : DE X ca W e te) : DE X ca W (.FormattedValue e (-1) none pos) (dFmt te) := peImp (pe_fmt he) fun σ H R ⟨U, F, M, δ, E, Q, S, h, c⟩ => by
  refine lift_of S h fun d M1 F1 v H1 h1 e1 r1 g1 => ?_
  cases d with
  | str z => exact .inl ⟨z, r1, h1.1, c _ _ _ _ _ h1.2 e1 rfl g1⟩
  | int i => exact .inr ⟨i, r1, h1.1, c _ _ _ _ _ h1.2 e1 rfl g1⟩
  | _ => exact h1.elim
inductive DJ (X : Cx) (ca : Ca) (W : WX) : List Expr → List DT → Prop where
  | nil : DJ X ca W [] []
  | cons {e : Expr} {t : DT} {es : List Expr} {ts : List DT} (h : DE X ca W e t) (r : DJ X ca W es ts) : DJ X ca W (e :: es) (t :: ts)
def dJs : List DT → Str → DEnv → Mem → EX → (Str → Mem → Prop) → Prop
  | [], acc, _, M, _, Q => Q acc M
  | t :: ts, acc, δ, M, E, Q => t δ M E fun d M1 => match d with
    | .str y => (acc ++ y).length ≤ sizeLine ∧ dJs ts (acc ++ y) δ M1 E Q
    | _ => False
theorem dj_run {es : List Expr} {ts : List DT} (h : DJ X ca W es ts) : PJ X es (ts.map (lift X.K ca W)) := by
  induction h with
  | nil => exact .nil
  | cons h _ ih => exact .cons h ih
theorem dJs_go {K : Fg} {σ : L2.St} : ∀ (ts : List DT) (acc : Str) {U F : Hp} {M : Mem} {δ : DEnv} {E : EX} {H : Hp} {Q : Str → Mem → Prop} {R : Str → Hp → Prop}, Stt K ca U W F M δ E σ H → dJs ts acc δ M E Q → (∀ z M' F' H', Q z M' → Ext F F' → HR K ca U F' M' H' → R z H') → tJs (ts.map (lift K ca W)) acc σ H R
  | [], acc, U, F, M, δ, E, H, Q, R, S, h, c => c _ _ _ _ h Ext.rfl' S.hr
  | t :: ts, acc, U, F, M, δ, E, H, Q, R, S, h, c => by
    refine lift_of S h fun d M1 F1 v H1 h1 e1 r1 g1 => ?_
    cases d with
    | str y => exact ⟨y, r1, h1.1, dJs_go ts (acc ++ y) (S.up e1 g1) h1.2 fun z M' F' H' q e g => c z M' F' H' q (e1.trans e) g⟩
    | _ => exact h1.elim
def dJoined (ts : List DT) : DT := fun δ M E Q => dJs ts Str.empty δ M E fun z M' => Q (.str z) M'
theorem de_joined {v1 v2 : Expr} {rest : List Expr} {ts : List DT} {pos : Pos} (h : DJ X ca W (v1 :: v2 :: rest) ts) : DE X ca W (.JoinedStr (v1 :: v2 :: rest) pos) (dJoined ts) := peImp (pe_joined (dj_run h)) fun σ H R ⟨U, F, M, δ, E, Q, S, h, c⟩ =>
  dJs_go ts Str.empty S h fun z M' F' H' q e g => c _ _ _ _ _ q e rfl g
theorem de_joined1 {e : Expr} {te : DT} {pos : Pos} (he : DE X ca W e te) : DE X ca W (.JoinedStr [e] pos) te := pe_joined1 he

/-! ### methods of built-in types -/
abbrev DMt := D → List D → Mem → XD → QD → Prop
/-- o.m(..) of a built-in type T -/
def MtD (X : Cx) (ca : Ca) (T id : String) (r : DMt) : Prop := ∃ rh, MtR X id rh ∧ ∀ (U F H : Hp) (M : Mem) (E : XD) (Q : QD) (R : VK) (d : D) (v : V) (ds : List D) (vs : List V), HR X.K ca U F M H → Rep X.K ca F d v → RepL X.K ca F ds vs → r d ds M E Q → Cl X.K ca U F Q R → rh v vs H R
/-- the receiver is of the type -/
def isTy (T : String) (d : D) (M : Mem) : Prop := (T = "str" ∧ ∃ z, d = .str z) ∨ (T = "list" ∧ ∃ l, asL M d = some l) ∨ (T = "int" ∧ ∃ z, d = .int z)
theorem isTy_ok {K : Fg} {U F H : Hp} {M : Mem} {T : String} {d : D} {v : V} (hr : HR K ca U F M H) (r : Rep K ca F d v) (h : isTy T d M) : tyV K T v H := by
  rcases h with ⟨rfl, z, rfl⟩ | ⟨rfl, l, hl⟩ | ⟨rfl, z, rfl⟩
  · have r : v = .str z := r
    subst r; rfl
  · obtain ⟨a, vs, ev, hs, _⟩ := asL_ok hr r hl
    subst ev
    exact .inl ⟨rfl, vs, hs⟩
  · have r : v = .int z := r
    subst r; rfl
def dBM (T : String) (r : DMt) (to : DT) (t : DTA) : DT := fun δ M E Q => to δ M E fun d M1 => isTy T d M1 ∧ t δ M1 E fun ds M2 => r d ds M2 (fun c fs M' => E c fs δ M') Q
theorem de_bm {T id : String} {name : Str} {r : DMt} {o e : Expr} {es : List Expr} {to : DT} {t : DTA} {apos cpos : Pos} (pa : PlainAttrs T) (slot : Slot T name id) (hty : typeOf (.builtin id) = pure (.type "method_descriptor")) (hm : MtD X ca T id r) (ho : DE X ca W o to) (ha : DPA X ca W (e :: es) t)
    (hbase : attributeBase o name X.env (eval o X.env) = eval o X.env := by rfl)
    (hfew : ((backTo cpos (starEach (e :: es) X.env)).all (fun x => !x.1) && (backToKw cpos (keywordEach [] X.env)).all (fun x => x.1.isSome)
      && decide ((e :: es).length + ([] : List Keyword).length + (if ([] : List Keyword).isEmpty then 0 else 1) < 30)) = true := by rfl)
    (hline : (apos.endLine == cpos.line) = true := by rfl) (hs : starEach (e :: es) X.env = (false, eval e X.env) :: starEach es X.env := by rfl) (hplain : (backTo cpos (starEach es X.env)).any (·.1) = false := by rfl) :
    DE X ca W (.Call (.Attribute o name apos) (e :: es) [] cpos) (dBM T r to t) := by
  obtain ⟨rh, hrh, hrd⟩ := hm
  exact peImp (pe_bm pa slot hty hrh ho ha hbase hfew hline hs hplain) fun σ H R ⟨U, F, M, δ, E, Q, S, h, c⟩ => by
    refine lift_of S h fun d M1 F1 v H1 h1 e1 r1 g1 => ⟨isTy_ok g1 r1 h1.1, ?_⟩
    refine liftA_of (S.up e1 g1) h1.2 fun ds M2 F2 vs H2 h2 e2 r2 g2 => ?_
    exact hrd U F2 H2 M2 _ Q R d v ds vs g2 (r1.mono e2) r2 h2 (c.up (e1.trans e2))
theorem de_bm0 {T id : String} {name : Str} {r : DMt} {o : Expr} {to : DT} {apos cpos : Pos} (pa : PlainAttrs T) (slot : Slot T name id) (hty : typeOf (.builtin id) = pure (.type "method_descriptor")) (hm : MtD X ca T id r) (ho : DE X ca W o to)
    (hbase : attributeBase o name X.env (eval o X.env) = eval o X.env := by rfl) (hline : (apos.endLine == cpos.line) = true := by rfl) : DE X ca W (.Call (.Attribute o name apos) [] [] cpos) (dBM T r to dNil) := by
  obtain ⟨rh, hrh, hrd⟩ := hm
  exact peImp (pe_bm0 pa slot hty hrh ho hbase hline) fun σ H R ⟨U, F, M, δ, E, Q, S, h, c⟩ => by
    refine lift_of S h fun d M1 F1 v H1 h1 e1 r1 g1 => ⟨isTy_ok g1 r1 h1.1, ?_⟩
    exact hrd U F1 H1 M1 _ Q R d v [] [] g1 r1 rfl h1.2 (c.up e1)
/-! list.append on a list of the store -/
def memL (M : Mem) : D → Option (Addr × List D)
  | .ref p => match M p with | some (.lst l) => some (p, l) | _ => none
  | _ => none
theorem memL_ok {M : Mem} {d : D} {p : Addr} {l : List D} (h : memL M d = some (p, l)) : d = .ref p ∧ M p = some (.lst l) := by
  cases d with
  | ref q =>
    unfold memL at h
    cases em : M q with
    | none => simp only [em] at h; cases h
    | some m =>
      cases m with
      | lst l' => simp only [em] at h; cases h; exact ⟨rfl, em⟩
      | _ => simp only [em] at h; cases h
  | _ => cases h
def mAppend : DMt := fun d ds M E Q => match memL M d with
  | some (p, l) => (match ds with | [y] => l.length < sizeLine ∧ Q .non (M.set p (.lst (l ++ [y]))) | _ => False)
  | none => False
theorem mt_appendD : MtD X ca "list" "list.append" mAppend := ⟨_, mt_append, fun U F H M E Q R d v ds vs hr r rl h c => by
  unfold mAppend at h
  cases em : memL M d with
  | none => rw [em] at h; exact h.elim
  | some q =>
    obtain ⟨p, l⟩ := q
    rw [em] at h
    obtain ⟨ed, em'⟩ := memL_ok em
    subst ed
    cases ds with
    | nil => exact h.elim
    | cons y ds =>
      cases ds with
      | cons y' ds => exact h.elim
      | nil =>
        obtain ⟨hz, h⟩ := h
        obtain ⟨_, _, ws, eh, rw'⟩ := hr.mem _ _ em'
        obtain ⟨u, r', ev, ru, er⟩ := rl
        cases er
        refine ⟨p, ws, u, r, ev, eh, by rw [rw'.length]; exact hz, ?_⟩
        exact c _ _ _ _ _ h Ext.rfl' rfl (hr.write em' _ ⟨_, upd_same, rw'.append (.one ru)⟩)⟩
/-! xs[i] = v on a list of the store -/
def setAt (M : Mem) (o i v : D) : Option Mem := match memL M o with
  | some (p, l) => (match i with
    | .int k => (match ixN l.length k with | some n => some (M.set p (.lst (l.set n v))) | none => none)
    | _ => none)
  | none => none
theorem setAt_ok {M M' : Mem} {o i v : D} (h : setAt M o i v = some M') : ∃ p l k n, o = .ref p ∧ M p = some (.lst l) ∧ i = .int k ∧ ixN l.length k = some n ∧ M' = M.set p (.lst (l.set n v)) := by
  unfold setAt at h
  cases em : memL M o with
  | none => rw [em] at h; cases h
  | some q =>
    obtain ⟨p, l⟩ := q
    rw [em] at h
    obtain ⟨e1, e2⟩ := memL_ok em
    cases i with
    | int k =>
      simp only at h
      cases en : ixN l.length k with
      | none => rw [en] at h; cases h
      | some n => rw [en] at h; cases h; exact ⟨p, l, k, n, e1, e2, rfl, en, rfl⟩
    | _ => cases h
def gSubD (to ti : DT) : DTG := fun v δ M E Q => to δ M E fun o M1 => ti δ M1 E fun i M2 => match setAt M2 o i v with | some M3 => Q δ M3 | none => False
theorem dg_sub {o i : Expr} {to ti : DT} {pos : Pos} (ho : DE X ca W o to) (hi : DE X ca W i ti)
    (ha : ∀ v, assign (.Subscript o i pos) X.env v = (do
      let ov ← holding [v] (eval o X.env)
      let iv ← holding [v, ov] (eval i X.env)
      standAt pos
      holding [v, ov, iv] (setItem ov iv v)
      release [v, ov, iv] []) := by intro _; rfl) : DPG X ca W (.Subscript o i pos) (gSubD to ti) := pgImp (pg_sub ho hi set_list ha) fun v σ H R ⟨U, F, M, δ, E, Q, d, S, rd, h, c⟩ => by
  refine lift_of S h fun o' M1 F1 x H1 h1 e1 r1 g1 => ?_
  refine lift_of (S.up e1 g1) h1 fun i' M2 F2 y H2 h2 e2 r2 g2 => ?_
  cases es : setAt M2 o' i' d with
  | none => rw [es] at h2; exact h2.elim
  | some M3 =>
    rw [es] at h2
    obtain ⟨p, l, k, n, rfl, em, rfl, en, rfl⟩ := setAt_ok es
    obtain ⟨_, _, ws, eh, rw'⟩ := g2.mem _ _ em
    refine ⟨p, ws, k, n, r1, r2, eh, by rw [rw'.length]; exact en, ?_⟩
    exact c _ _ _ _ _ h2 (e1.trans e2) ((S.env.mono e1).mono e2) (g2.write em _ ⟨_, upd_same, rw'.set n ((rd.mono e1).mono e2)⟩)
/-! truth -/
def truD (d : D) (M : Mem) : Option Bool := match d with
  | .non => some false
  | .bl b => some b
  | .int i => some (i != 0)
  | .str z => if z.length ≤ sizeLine then some ((z.length : Int) != 0) else none
  | .tup l => some (!l.isEmpty)
  | d => (asL M d).map fun l => !l.isEmpty
theorem truD_ok {K : Fg} {U F H : Hp} {M : Mem} {d : D} {v : V} {b : Bool} (hr : HR K ca U F M H) (r : Rep K ca F d v) (h : truD d M = some b) : TruV K v H b := by
  have lists : (asL M d).map (fun l => !l.isEmpty) = some b → TruV K v H b := fun h => by
    cases e : asL M d with
    | none => rw [e] at h; cases h
    | some l =>
      rw [e] at h
      cases h
      obtain ⟨a, vs, ev, hs, rl⟩ := asL_ok hr r e
      subst ev
      refine .inl ⟨vs, hs, ?_⟩
      have := rl.length
      cases l <;> cases vs <;> simp at this ⊢
  cases d with
  | non => cases h; cases r; rfl
  | bl k => cases h; cases r; rfl
  | int i => cases h; cases r; rfl
  | str z =>
    have h : (if z.length ≤ sizeLine then some ((z.length : Int) != 0) else none) = some b := h
    by_cases hz : z.length ≤ sizeLine
    · rw [if_pos hz] at h; cases h; cases r; exact ⟨hz, rfl⟩
    · rw [if_neg hz] at h; cases h
  | tup l =>
    cases h
    obtain ⟨a, vs, ev, hs, rl⟩ := r
    subst ev
    refine .inr (.inl ⟨vs, hs.ext hr.sub, ?_⟩)
    have := rl.length
    cases l <;> cases vs <;> simp at this ⊢
  | _ => exact lists h
def dTruth (t : DT) : DTT := fun δ M E Q => t δ M E fun d M1 => match truD d M1 with | some b => Q b M1 | none => False
theorem dt_truth {a : Expr} {ta : DT} (ha : DE X ca W a ta) (he : ∀ whole, isTrue a X.env whole = (do let v ← whole; standAt a.pos; holding [v] (truthy v)) := by intro _; rfl) : DPT X ca W a (dTruth ta) := ptImp (pt_truth ha he) fun σ H R ⟨U, F, M, δ, E, Q, S, h, c⟩ => by
  refine lift_of S h fun d M1 F1 v H1 h1 e1 r1 g1 => ?_
  cases et : truD d M1 with
  | none => rw [et] at h1; exact h1.elim
  | some b => rw [et] at h1; exact ⟨b, truD_ok g1 r1 et, c _ _ _ _ h1 e1 g1⟩
/-- a or b, a and b of any values -/
def dOrT (t u : DT) : DT := fun δ M E Q => t δ M E fun d M1 => match truD d M1 with | some b => (if b = true then Q d M1 else u δ M1 E Q) | none => False
def dAndT (t u : DT) : DT := fun δ M E Q => t δ M E fun d M1 => match truD d M1 with | some b => (if b = true then u δ M1 E Q else Q d M1) | none => False
variable {a b : Expr} {rest : List Expr} {ta tb : DT} {pos : Pos}
theorem de_orT (ha : DE X ca W a ta) (hb : DE X ca W (.BoolOp .Or (b :: rest) pos) tb) : DE X ca W (.BoolOp .Or (a :: b :: rest) pos) (dOrT ta tb) := peImp (pe_orT ha hb) fun σ H R ⟨U, F, M, δ, E, Q, S, h, c⟩ => by
  refine lift_of S h fun d M1 F1 v H1 h1 e1 r1 g1 => ?_
  cases et : truD d M1 with
  | none => rw [et] at h1; exact h1.elim
  | some k =>
    rw [et] at h1
    simp only at h1
    refine ⟨k, truD_ok g1 r1 et, ?_⟩
    cases k with
    | true => rw [if_pos rfl] at h1 ⊢; exact c _ _ _ _ _ h1 e1 r1 g1
    | false => rw [if_neg Bool.false_ne_true] at h1 ⊢; exact lift_of (S.up e1 g1) h1 (c.up e1)
theorem de_andT (ha : DE X ca W a ta) (hb : DE X ca W (.BoolOp .And (b :: rest) pos) tb) : DE X ca W (.BoolOp .And (a :: b :: rest) pos) (dAndT ta tb) := peImp (pe_andT ha hb) fun σ H R ⟨U, F, M, δ, E, Q, S, h, c⟩ => by
  refine lift_of S h fun d M1 F1 v H1 h1 e1 r1 g1 => ?_
  cases et : truD d M1 with
  | none => rw [et] at h1; exact h1.elim
  | some k =>
    rw [et] at h1
    simp only at h1
    refine ⟨k, truD_ok g1 r1 et, ?_⟩
    cases k with
    | true => rw [if_pos rfl] at h1 ⊢; exact lift_of (S.up e1 g1) h1 (c.up e1)
    | false => rw [if_neg Bool.false_ne_true] at h1 ⊢; exact c _ _ _ _ _ h1 e1 r1 g1
/-! is None -/
def dIsN (t : DT) : DT := fun δ M E Q => t δ M E fun d M1 => match d with | .non => Q (.bl true) M1 | .cls _ => False | _ => Q (.bl false) M1
def dNotN (t : DT) : DT := fun δ M E Q => t δ M E fun d M1 => match d with | .non => Q (.bl false) M1 | .cls _ => False | _ => Q (.bl true) M1
theorem isNon {K : Fg} {F : Hp} {d : D} {v : V} (r : Rep K ca F d v) : decide (v = .non) = (match d with | .non => true | _ => false) := by
  cases d with
  | non => cases r; rfl
  | bl _ => cases r; rfl
  | int _ => cases r; rfl
  | str _ => cases r; rfl
  | ty _ => cases r; rfl
  | ref _ => cases r; rfl
  | cls _ => cases r; rfl
  | tup _ => obtain ⟨a, vs, e, _⟩ := r; subst e; rfl
  | lst _ => obtain ⟨a, vs, e, _⟩ := r; subst e; rfl
  | obj _ _ => obtain ⟨a, dx, vs, e, _⟩ := r; subst e; rfl
  | dic _ => obtain ⟨a, vs, e, _⟩ := r; subst e; rfl
  | exc _ _ => obtain ⟨a, _, _, _, e, _⟩ := r; subst e; rfl
theorem de_isN {j} {pos' : Pos} (ha : DE X ca W a ta) : DE X ca W (.Compare a [.Is] [.Constant .none j pos'] pos) (dIsN ta) := peImp (pe_cmp (pc_isN ha) rfl) fun σ H R ⟨U, F, M, δ, E, Q, S, h, c⟩ => by
  refine lift_of S h fun d M1 F1 v H1 h1 e1 r1 g1 => ?_
  show R (.bl (decide (v = .non))) H1
  rw [isNon r1]
  cases d <;> first | exact h1.elim | exact c _ _ _ _ _ h1 e1 rfl g1
theorem de_notN {j} {pos' : Pos} (ha : DE X ca W a ta) : DE X ca W (.Compare a [.IsNot] [.Constant .none j pos'] pos) (dNotN ta) := peImp (pe_cmp (pc_notN ha) rfl) fun σ H R ⟨U, F, M, δ, E, Q, S, h, c⟩ => by
  refine lift_of S h fun d M1 F1 v H1 h1 e1 r1 g1 => ?_
  show R (.bl (!decide (v = .non))) H1
  rw [isNon r1]
  cases d <;> first | exact h1.elim | exact c _ _ _ _ _ h1 e1 rfl g1
/-! a < b < c -/
def dChain (o o' : DOp) (ta tb tc : DT) : DT := fun δ M E Q => ta δ M E fun x M1 => tb δ M1 E fun y M2 => o x y M2 (fun c fs M' => E c fs δ M') fun z M3 => ∃ k, z = .bl k ∧
  if k = true then tc δ M3 E fun w M4 => o' y w M4 (fun c fs M' => E c fs δ M') Q else Q (.bl false) M3
theorem de_chain {op op' : CmpOp} {o o' : DOp} {c : Expr} {tc : DT} (ho : OpD X ca W (compareOp op) o) (ho' : OpD X ca W (compareOp op') o') (ha : DE X ca W a ta) (hb : DE X ca W b tb) (hc : DE X ca W c tc)
    (hm : lastMarks [op, op'] [b, c] = false := by with_unfolding_all rfl) : DE X ca W (.Compare a [op, op'] [b, c] pos) (dChain o o' ta tb tc) := by
  refine ⟨fun pins s σ H R I ⟨U, F, M, δ, E, Q, S, h, cl⟩ => ?_⟩
  refine Compare_chain (thn (ha.run pins s σ H (fun x H1 => ∃ F1 M1 dx, Stt X.K ca U W F1 M1 δ E σ H1 ∧ Rep X.K ca F1 dx x ∧ Cl X.K ca U F1 Q R ∧ tb δ M1 E fun y M2 => o dx y M2 (fun c fs M' => E c fs δ M') fun z M3 => ∃ k, z = .bl k ∧
    if k = true then tc δ M3 E fun w M4 => o' y w M4 (fun c fs M' => E c fs δ M') Q else Q (.bl false) M3) I ?_) fun v s1 ⟨x, H1, I1, r1, F1, M1, dx, S1, rx, c1, h1⟩ => chain_link (thn (hb.run pins s1 σ H1 (fun y H2 => ∃ F2 M2 dy, Ext F1 F2 ∧ Stt X.K ca U W F2 M2 δ E σ H2 ∧ Rep X.K ca F2 dy y ∧ o dx dy M2 (fun c fs M' => E c fs δ M') fun z M3 => ∃ k, z = .bl k ∧
    if k = true then tc δ M3 E fun w M4 => o' dy w M4 (fun c fs M' => E c fs δ M') Q else Q (.bl false) M3) I1 ?_) fun u s2 ⟨y, H2, I2, r2, F2, M2, dy, e2, S2, ry, h2⟩ =>
    thn (ho pins s2 σ H2 U F2 M2 δ E _ (fun z H3 => ∃ k, z = .bl k ∧ ∃ F3 M3, Ext F2 F3 ∧ Stt X.K ca U W F3 M3 δ E σ H3 ∧ if k = true then tc δ M3 E fun w M4 => o' dy w M4 (fun c fs M' => E c fs δ M') Q else Q (.bl false) M3) dx dy x y v u I2 S2 (rx.mono e2) ry r1 r2 h2 ?_) fun d s3 ⟨z, H3, I3, r3, k, e, F3, M3, e3, S3, h3⟩ => ?_)) hm
  · exact lift_of S h fun d M1 F1 v H1 h1 e1 r1 g1 => ⟨F1, M1, d, S.up e1 g1, r1, cl.up e1, h1⟩
  · exact lift_of S1 h1 fun d M2 F2 v H2 h2 e2 r2 g2 => ⟨F2, M2, d, e2, S1.up e2 g2, r2, h2⟩
  · rintro z M3 F3 z' H3 ⟨k, ez, q⟩ e3 r3 g3
    subst ez
    exact ⟨k, r3, F3, M3, e3, S2.up e3 g3, q⟩
  · subst e
    cases r3
    refine wpAny_truthy_bool ?_
    cases k with
    | false =>
      rw [if_neg Bool.false_ne_true] at h3
      exact ite_ff ⟨.bl false, H3, I3, rfl, c1 _ _ _ _ _ h3 (e2.trans e3) rfl S3.hr⟩
    | true =>
      rw [if_pos rfl] at h3
      refine ite_tt (chain_last (thn (hc.run pins s3 σ H3 (fun w H4 => ∃ F4 M4 dw, Ext F3 F4 ∧ Stt X.K ca U W F4 M4 δ E σ H4 ∧ Rep X.K ca F4 dw w ∧ o' dy dw M4 (fun c fs M' => E c fs δ M') Q) I3 ?_) fun w' s4 ⟨z', H4, I4, r4, F4, M4, dw, e4, S4, rw', h4⟩ => ?_))
      · exact lift_of S3 h3 fun d M4 F4 v H4 h4 e4 r4 g4 => ⟨F4, M4, d, e4, S3.up e4 g4, r4, h4⟩
      · exact ho' pins s4 σ H4 U F4 M4 δ E Q R dy dw y z' u w' I4 S4 ((ry.mono e3).mono e4) rw' r2 r4 h4 (c1.up ((e2.trans e3).trans e4))
theorem dt_chain {op op' : CmpOp} {o o' : DOp} {c : Expr} {tc : DT} (ho : OpD X ca W (compareOp op) o) (ho' : OpD X ca W (compareOp op') o') (ha : DE X ca W a ta) (hb : DE X ca W b tb) (hc : DE X ca W c tc)
    (hm : lastMarks [op, op'] [b, c] = false := by with_unfolding_all rfl) : DPT X ca W (.Compare a [op, op'] [b, c] pos) (dB (dChain o o' ta tb tc)) := by
  refine ⟨fun pins s σ H R I h => ?_⟩
  obtain ⟨U, F, M, δ, E, Q, S, h, cl⟩ := h
  refine isTrue_chain (thn (ha.run pins s σ H (fun x H1 => ∃ F1 M1 dx, Ext F F1 ∧ Stt X.K ca U W F1 M1 δ E σ H1 ∧ Rep X.K ca F1 dx x ∧ tb δ M1 E fun y M2 => o dx y M2 (fun c fs M' => E c fs δ M') fun z M3 => ∃ k, z = .bl k ∧
    if k = true then tc δ M3 E fun w M4 => o' y w M4 (fun c fs M' => E c fs δ M') (fun x M1 => ∃ c, x = .bl c ∧ Q c M1) else (∃ c, D.bl false = .bl c ∧ Q c M3)) I ?_) fun v s1 ⟨x, H1, I1, r1, F1, M1, dx, e1, S1, rx, h1⟩ => test_link (thn (hb.run pins s1 σ H1 (fun y H2 => ∃ F2 M2 dy, Ext F1 F2 ∧ Stt X.K ca U W F2 M2 δ E σ H2 ∧ Rep X.K ca F2 dy y ∧ o dx dy M2 (fun c fs M' => E c fs δ M') fun z M3 => ∃ k, z = .bl k ∧
    if k = true then tc δ M3 E fun w M4 => o' dy w M4 (fun c fs M' => E c fs δ M') (fun x M1 => ∃ c, x = .bl c ∧ Q c M1) else (∃ c, D.bl false = .bl c ∧ Q c M3)) I1 ?_) fun u s2 ⟨y, H2, I2, r2, F2, M2, dy, e2, S2, ry, h2⟩ =>
    thn (ho pins s2 σ H2 U F2 M2 δ E _ (fun z H3 => ∃ k, z = .bl k ∧ ∃ F3 M3, Ext F2 F3 ∧ Stt X.K ca U W F3 M3 δ E σ H3 ∧ if k = true then tc δ M3 E fun w M4 => o' dy w M4 (fun c fs M' => E c fs δ M') (fun x M1 => ∃ c, x = .bl c ∧ Q c M1) else (∃ c, D.bl false = .bl c ∧ Q c M3)) dx dy x y v u I2 S2 (rx.mono e2) ry r1 r2 h2 ?_) fun d s3 ⟨z, H3, I3, r3, k, e, F3, M3, e3, S3, h3⟩ => ?_)) hm
  · exact lift_of S h fun d M1 F1 v H1 h1 e1 r1 g1 => ⟨F1, M1, d, e1, S.up e1 g1, r1, h1⟩
  · exact lift_of S1 h1 fun d M2 F2 v H2 h2 e2 r2 g2 => ⟨F2, M2, d, e2, S1.up e2 g2, r2, h2⟩
  · rintro z M3 F3 z' H3 ⟨k, ez, q⟩ e3 r3 g3
    subst ez
    exact ⟨k, r3, F3, M3, e3, S2.up e3 g3, q⟩
  · subst e
    cases r3
    refine wpAny_truthy_bool ?_
    cases k with
    | false =>
      rw [if_neg Bool.false_ne_true] at h3
      obtain ⟨k', e', q'⟩ := h3
      cases e'
      exact ite_ff ⟨H3, I3, cl _ _ _ _ q' ((e1.trans e2).trans e3) S3.hr⟩
    | true =>
      rw [if_pos rfl] at h3
      refine ite_tt (test_last (thn (hc.run pins s3 σ H3 (fun w H4 => ∃ F4 M4 dw, Ext F3 F4 ∧ Stt X.K ca U W F4 M4 δ E σ H4 ∧ Rep X.K ca F4 dw w ∧ o' dy dw M4 (fun c fs M' => E c fs δ M') (fun x M1 => ∃ c, x = .bl c ∧ Q c M1)) I3 ?_) fun w' s4 ⟨z', H4, I4, r4, F4, M4, dw, e4, S4, rw', h4⟩ =>
        thn (ho' pins s4 σ H4 U F4 M4 δ E _ (fun z H5 => ∃ k, z = .bl k ∧ R k H5) dy dw y z' u w' I4 S4 ((ry.mono e3).mono e4) rw' r2 r4 h4 ?_) fun d' s5 ⟨z2, H5, I5, r5, k2, e5, q5⟩ => ?_))
      · exact lift_of S3 h3 fun d M4 F4 v H4 h4 e4 r4 g4 => ⟨F4, M4, d, e4, S3.up e4 g4, r4, h4⟩
      · rintro z M5 F5 z' H5 ⟨k, ez, q⟩ e5 r5 g5
        subst ez
        exact ⟨k, r5, cl _ _ _ _ q ((((e1.trans e2).trans e3).trans e4).trans e5) g5⟩
      · subst e5
        cases r5
        exact wpAny_truthy_bool ⟨H5, I5, q5⟩
/-! == and != of plain data -/
mutual
def toPy (M : Mem) : D → Option PyData
  | .non => some .none
  | .bl b => some (.bool b)
  | .int i => some (.int i)
  | .str z => some (.str z)
  | .tup l => (toPys M l).map .tuple
  | .lst l => (toPys M l).map .list
  | _ => none
def toPys (M : Mem) : List D → Option (List PyData)
  | [] => some []
  | d :: l => match toPy M d, toPys M l with
    | some p, some ps => some (p :: ps)
    | _, _ => none
end
mutual
theorem toPy_ok {K : Fg} {U F H : Hp} {M : Mem} (hr : HR K ca U F M H) : ∀ {d : D} {v : V} {p : PyData}, Rep K ca F d v → toPy M d = some p → Dp K H v p
  | .non, _, _, r, h => by cases h; cases r; exact .non
  | .bl _, _, _, r, h => by cases h; cases r; exact .bl _
  | .int _, _, _, r, h => by cases h; cases r; exact .int _
  | .str _, _, _, r, h => by cases h; cases r; exact .str _
  | .tup l, _, _, ⟨a, vs, e, hs, rl⟩, h => by
    have h : (toPys M l).map PyData.tuple = some _ := h
    cases q : toPys M l with
    | none => rw [q] at h; cases h
    | some ps => rw [q] at h; cases h; subst e; exact .tup (hs.ext hr.sub) (toPys_ok hr rl q)
  | .lst l, _, _, ⟨a, vs, e, hs, rl⟩, h => by
    have h : (toPys M l).map PyData.list = some _ := h
    cases q : toPys M l with
    | none => rw [q] at h; cases h
    | some ps => rw [q] at h; cases h; subst e; exact .lst (hs.ext hr.sub) (toPys_ok hr rl q)
  | .ty _, _, _, _, h => by cases h
  | .ref _, _, _, _, h => by cases h
  | .cls _, _, _, _, h => by cases h
  | .obj _ _, _, _, _, h => by cases h
  | .dic _, _, _, _, h => by cases h
  | .exc _ _, _, _, _, h => by cases h
theorem toPys_ok {K : Fg} {U F H : Hp} {M : Mem} (hr : HR K ca U F M H) : ∀ {l : List D} {vs : List V} {ps : List PyData}, RepL K ca F l vs → toPys M l = some ps → DpAll K H vs ps
  | [], _, _, r, h => by cases h; cases r; exact .nil
  | d :: l, _, _, ⟨v, r, e, rd, rl⟩, h => by
    unfold toPys at h
    cases q1 : toPy M d with
    | none => rw [q1] at h; cases h
    | some p =>
      cases q2 : toPys M l with
      | none => rw [q1, q2] at h; cases h
      | some ps => rw [q1, q2] at h; cases h; subst e; exact .cons (toPy_ok hr rd q1) (toPys_ok hr rl q2)
end
def oEqP (f : Bool → Bool) : DOp := fun x y M E Q => match toPy M x, toPy M y with
  | some p, some q => SeqAt.shaped p = true ∧ SeqAt.shaped q = true ∧ Q (.bl (f (PyData.eqv p q))) M
  | _, _ => False
theorem op_eqP {k j : Nat} (C : Ctx X j W) : OpD X ca W (compareOp .Eq) (oEqP fun b => b) := opD_of (op_eqD C.room.units) fun U F H M δ E Q R dx dy x y hr rx ry ho c => by
  unfold oEqP at ho
  cases q1 : toPy M dx with
  | none => rw [q1] at ho; exact ho.elim
  | some p =>
    cases q2 : toPy M dy with
    | none => rw [q1, q2] at ho; exact ho.elim
    | some q => rw [q1, q2] at ho; exact ⟨p, q, toPy_ok hr rx q1, toPy_ok hr ry q2, ho.1, ho.2.1, c _ _ _ _ _ ho.2.2 Ext.rfl' rfl hr⟩
theorem op_neP {j : Nat} (C : Ctx X j W) : OpD X ca W (compareOp .NotEq) (oEqP fun b => !b) := opD_of (op_neD C.room.units) fun U F H M δ E Q R dx dy x y hr rx ry ho c => by
  unfold oEqP at ho
  cases q1 : toPy M dx with
  | none => rw [q1] at ho; exact ho.elim
  | some p =>
    cases q2 : toPy M dy with
    | none => rw [q1, q2] at ho; exact ho.elim
    | some q => rw [q1, q2] at ho; exact ⟨p, q, toPy_ok hr rx q1, toPy_ok hr ry q2, ho.1, ho.2.1, c _ _ _ _ _ ho.2.2 Ext.rfl' rfl hr⟩
end
end TS
namespace TSW
open PySem PySem.W PySem.Spec PySem.Calls PyProof.Rows Builtin
section
variable {prog : Program} {w : World} {A : Around} {E : Value → Shared → Prop} {s : Shared} {K : Frag} {x C L f : Addr} {h₀ : Heap} {m : Str → Option Value} {ox : Obj} {od : Option Obj} {b tb : Value}
/-- no slot of that name in a class over object alone -/
structure NoIn (K : Frag) (C : Addr) (i : Str) : Prop where
  mro : ∃ cd, clsIn K C = some cd ∧ cd.mro = [.ref C, .type "object"]
  own : findIn K (.ref C) i = some none
  obj : findIn K (.type "object") i = some none
theorem fills_none {M : Model} {h : Heap} {nm : String} {add : Bool} (X : K.In h) (n : NoIn K C (dunderI nm)) : Looks M h (fillsInplaceSlot (.ref C) nm add) false := by
  obtain ⟨cd, hc, hm⟩ := n.mro
  intro A Q E s k q
  unfold fillsInplaceSlot
  refine wpAny_bind ((looks_clsIn X hc).andThen (f := fun cd => pure cd.mro) .now A _ E s k ?_)
  rw [hm, List.anyM_cons]
  refine wpAny_bind (wpAny_bind (looks_findIn X n.own A _ E s k ?_))
  dsimp only
  refine wpAny_pure ?_
  simp only [Bool.false_eq_true, if_false]
  rw [List.anyM_cons]
  refine wpAny_bind (wpAny_bind (looks_findIn X n.obj A _ E s k ?_))
  dsimp only
  refine wpAny_pure ?_
  simp only [Bool.false_eq_true, if_false]
  exact wpAny_pure q
theorem inplace_K {op : Operator} {b : Value} {Q : Value → Shared → Prop} (F : Fr h₀ L s.heap m) (X₀ : K.In h₀) (I : InstAt s.heap x ox C od) (hb : Looks (model prog w) s.heap (typeOf b) (.ref C)) (hc : selfFirst K C = true)
    (hs : findIn K (.ref C) (PySem.dunder op.info.2) = some (some (.ref f))) (hf : isFn K (.ref f) = true) (hn : NoIn K C (dunderI op.info.2))
    (h : wpAny (model prog w) A (call (.ref f) [.ref x, b]) (PySem.W.CmpBack Q) E s) : wpAny (model prog w) A (inplaceOp op (.ref x) b) Q E s := by
  have X := X₀.keeps F.keep
  obtain ⟨cd, rest, hcd, hm⟩ := ksp_first hc
  unfold inplaceOp
  refine wpAny_holding ?_
  refine wpAny_bind (I.type.here ?_)
  refine wpAny_bind ((fills_none X hn).here ?_)
  simp only [Bool.false_eq_true, if_false]
  refine wpAny_bind ?_
  unfold binaryOp1
  refine wpAny_bind (I.type.here (wpAny_bind (hb.here (wpAny_bind ((fills_K X hcd hm hs).here ?_)))))
  simp only [beq_self_eq_true, if_true]
  refine wpAny_bind (wpAny_pure ?_)
  simp only [Bool.and_false, Bool.false_eq_true, if_false, Bool.false_and]
  refine wpAny_bind (wpAny_pure ?_)
  simp only [Bool.false_eq_true, if_false]
  refine wpAny_bind (m := tryMethod (.ref x) _ b) ?_
  unfold tryMethod
  refine wpAny_bind (special_fn X I hs (beq_iff_eq.mp hf) (wpAny_mono h (fun v s' hv => ?_) fun _ _ e => e))
  cases v <;> first | exact hv.elim | exact wpAny_pure (wpAny_pure (wpAny_pure hv))
end
end TSW
namespace TS
open PySem PySem.Spec PyProof.Rows L2
section
variable {X : Cx} {ca : Ca} {W : WX} {k j : Nat} {pos : Pos}
/-! ### x op= e of own classes without a slot of their own for it -/
def InOkD (X : Cx) (ca : Ca) (k : Nat) (op : Operator) (T : OTab) : Prop := ∀ c sp, T c = some sp → Mt X ca k c (PySem.dunder op.info.2) [] sp ∧ PySem.W.selfFirst X.K (ca c) = true ∧ TSW.NoIn X.K (ca c) (PySem.dunderI op.info.2)
theorem op_inOwn {op : Operator} {T : OTab} (C : Ctx X j W) (ok : InOkD X ca k op T) (hk : k ≤ j := by decide) : OpD X ca W (inplaceOp op) (oOwn T) := by
  intro pins s σ H U F M δ E Q R dx dy x y v u I S rx ry rv ru ho c
  unfold oOwn at ho
  cases e1 : asO M dx with
  | none => rw [e1] at ho; exact ho.elim
  | some p =>
    obtain ⟨k1, fs⟩ := p
    rw [e1] at ho
    simp only at ho
    cases e2 : asO M dy with
    | none => rw [e2] at ho; exact ho.elim
    | some q =>
      obtain ⟨k2, gs⟩ := q
      rw [e2] at ho
      simp only at ho
      cases et : T k1 with
      | none => rw [et] at ho; exact ho.elim
      | some sp =>
        rw [et] at ho
        obtain ⟨ek, ho⟩ := ho
        subst ek
        obtain ⟨a, da, vs, ev, ha, _⟩ := asO_ok S.hr rx e1
        obtain ⟨b, db, ws, ew, hb, _⟩ := asO_ok S.hr ry e2
        subst ev; subst ew
        obtain rfl : v = Value.ref a := rv
        obtain rfl : u = Value.ref b := ru
        obtain ⟨⟨cl, f, hm, G⟩, sf, ni⟩ := ok k1 sp et
        obtain ⟨od, J⟩ := inst_of I ha
        obtain ⟨od', J'⟩ := inst_of I hb
        obtain ⟨m, hF⟩ := I.fr
        refine TSW.inplace_K hF I.ok.mod.kin J J'.type sf hm.at_ hm.fn ni ?_
        exact wpAny_mono (run_fnD (us := [.ref a, .ref b]) (vs := [.ref a, .ref b]) (ds := [dx, dy]) (sub_of C hk) G C.tk I S (.cons rfl (.cons rfl .nil)) ⟨_, _, rfl, rx, _, _, rfl, ry, rfl⟩ ho c) (fun _ _ z => cmpBack_of z) fun _ _ z => z
/-- name op= e -/
def sAug (i : Nat) (op : DOp) (te : DT) : DTS := fun Z δ M => match gt δ i with
  | some x => te δ M Z.ex fun y M1 => op x y M1 (fun c fs M' => Z.ex c fs δ M') fun z M2 => Z.nx (stt δ i z) M2
  | none => False
theorem ds_aug (i : Nat) {x : Str} {e : Expr} {te : DT} {op : Operator} {r : DOp} {pos' : Pos} (hN : X.N.Nodup) (ho : OpD X ca W (inplaceOp op) r) (he : DE X ca W e te) (hi : X.N[i]? = some x := by rfl) (hx : Loc X.env.scope x := by first | exact Or.inl rfl | exact Or.inr rfl)
    (hf : X.fn x = true ∨ X.env.scope.names.lookup x = some .local := by first | exact .inl rfl | exact .inr rfl | assumption) : DPS X ca W (.AugAssign (.Name x pos') op e pos) (sAug i r te) := by
  refine ⟨fun pins s σ H R I ⟨U, F, M, δ, Z, S, h, c⟩ => ?_⟩
  unfold sAug at h
  cases eg : gt δ i with
  | none => rw [eg] at h; exact h.elim
  | some dx =>
    rw [eg] at h
    obtain ⟨v, e1, rdx⟩ := S.env.2 i dx eg
    obtain ⟨m, hn, hl⟩ := I.loc
    have vis : Vis X.env.scope x := by rcases hx with k | k; exact .inl k; exact .inr (.inl k)
    obtain ⟨u, r, l⟩ := hl i x v hi e1 vis
    refine wpAny_AugAssign_Name ?_
    have go : wpAny (model X.prog X.w) X.A (eval e X.env) (fun w s₂ => wpAny (model X.prog X.w) X.A (inplaceOp op u w) (fun r s₃ => wpAny (model X.prog X.w) X.A (storeName X.env x r) (fun _ => SP X pins R .next) X.xe s₃) X.xe s₂) X.xe s := by
      refine thn (he.run pins s σ H (fun y H1 => ∃ F1 M1 dy, Ext F F1 ∧ Stt X.K ca U W F1 M1 δ Z.ex σ H1 ∧ Rep X.K ca F1 dy y ∧ _) I (lift_of S h fun d M1 F1 v H1 h1 e1 r1 g1 => ⟨F1, M1, d, e1, S.up e1 g1, r1, h1⟩)) fun w s1 ⟨y, H1, I1, r1, F1, M1, dy, ex1, S1, rdy, h1⟩ => ?_
      refine thn (ho pins s1 σ H1 U F1 M1 δ Z.ex _ (fun z H2 => ∃ F2 M2 dz, Ext F1 F2 ∧ Stt X.K ca U W F2 M2 δ Z.ex σ H2 ∧ Rep X.K ca F2 dz z ∧ Z.nx (stt δ i dz) M2) dx dy v y u w I1 S1 (rdx.mono ex1) rdy r r1 h1 (fun d M2 F2 z H2 q e2 r2 g2 => ⟨F2, M2, d, e2, S1.up e2 g2, r2, q⟩)) fun z s2 ⟨zv, H2, I2, r2, F2, M2, dz, ex2, S2, rdz, h2⟩ => ?_
      exact store_ok I2 hN hi hx r2 (fun s3 I3 => ⟨_, H2, I3, c.nx _ _ _ _ _ h2 (ex1.trans ex2) (S2.env.set rdz i) S2.hr⟩) hf
    rcases l with ⟨hk, hm⟩ | ⟨hk, c', hc, hcell⟩
    · exact wpAny_loadName_local I.ok.kind hk hn hm go
    · rcases hk with hk | hk
      · exact wpAny_loadName_cell I.ok.kind hk hc hcell go
      · rcases hx with k | k
        · have : X.env.scope.names.lookup x = some .free := hk
          rw [k] at this; cases this
        · have : X.env.scope.names.lookup x = some .free := hk
          rw [k] at this; cases this
/-! ### an object of the store stands still from here on -/
def sStill (i : Nat) (t : DTS) : DTS := fun Z δ M => match gt δ i with
  | some (.ref p) => (match M p with | some m => t Z (stt δ i m.still) (M.del p) | none => False)
  | _ => False
theorem EnvR.stillAt {K : Fg} {F F' : Hp} {δ : DEnv} {σ : L2.St} {i : Nat} {p : Addr} {d : D} (h : EnvR K ca F δ σ) (e : Ext F F') (g : gt δ i = some (.ref p)) (r : Rep K ca F' d (.ref p)) : EnvR K ca F' (stt δ i d) σ := by
  refine ⟨by rw [length_stt, h.1], fun j d' q => ?_⟩
  by_cases hj : i = j
  · subst hj
    obtain ⟨h1, _⟩ := gt_stt_same q
    subst h1
    obtain ⟨v, hv, rv⟩ := h.2 i _ g
    have rv : v = .ref p := rv
    subst rv
    exact ⟨_, hv, r⟩
  · rw [gt_stt_ne hj] at q
    exact (h.mono e).2 j d' q
theorem dss_still (i : Nat) {sts : List Stmt} {t : DTS} (h : DPSs X ca W sts t) : DPSs X ca W sts (sStill i t) := pssImp h fun R σ H ⟨U, F, M, δ, Z, S, q, c⟩ => by
  unfold sStill at q
  cases eg : gt δ i with
  | none => rw [eg] at q; exact q.elim
  | some d =>
    rw [eg] at q
    cases d with
    | ref p =>
      simp only at q
      cases em : M p with
      | none => rw [em] at q; exact q.elim
      | some m =>
        rw [em] at q
        obtain ⟨F2, e2, g2, r2⟩ := S.hr.freeze em
        exact ⟨U, F2, M.del p, stt δ i m.still, Z, ⟨S.env.stillAt e2 eg r2, g2, S.xc.up e2⟩, q, c.up e2⟩
    | _ => exact q.elim
/-! ### is, of truths -/
def oIsB (f : Bool → Bool) : DOp := fun x y M E Q => match x, y with
  | .bl a, .bl b => Q (.bl (f (a == b))) M
  | _, _ => False
theorem op_isB : OpD X ca W (compareOp .Is) (oIsB fun b => b) := fun pins s σ H U F M δ E Q R dx dy x y v u I S rx ry rv ru ho c => by
  cases dx <;> cases dy <;> first | exact ho.elim | skip
  cases rx; cases ry
  cases rv; cases ru
  refine wpAny_is_plain rfl ?_
  refine ⟨.bl _, H, I, ?_, c _ _ _ _ _ ho Ext.rfl' rfl S.hr⟩
  rename_i a b
  cases a <;> cases b <;> rfl
end
end TS
namespace TS
open PySem PySem.Spec PyProof.Rows L2
/-! ### e.f as a target -/
section
variable {X : Cx} {ca : Ca} {W : WX} {k j : Nat} {pos : Pos} {f : Str} {o : Expr} {to : DT}
def gFldD (cs : List Nat) (f : Str) (to : DT) : DTG := fun v δ M E Q => to δ M E fun d M2 => match d with
  | .ref p => (match M2 p with
    | some (.ins c fs) => c ∈ cs ∧ fs.length < 1000 ∧ Q δ (M2.set p (.ins c (putD f v fs)))
    | _ => False)
  | _ => False
theorem dg_fld {cs : List Nat} (ok : FldOk X ca cs f) (ho : DE X ca W o to) : DPG X ca W (.Attribute o f pos) (gFldD cs f to) := by
  refine ⟨fun pins s σ H v u Q I r ⟨U, F, M, δ, E, QD, d, S, rd, h, c⟩ => ?_⟩
  refine PySem.W.kas_attr (thn (ho.run pins s σ H (fun x H1 => ∃ F1 M1 d1, Ext F F1 ∧ Stt X.K ca U W F1 M1 δ E σ H1 ∧ Rep X.K ca F1 d1 x ∧ _) I (lift_of S h fun d1 M1 F1 x H1 h1 e1 r1 g1 => ⟨F1, M1, d1, e1, S.up e1 g1, r1, h1⟩)) fun ov s1 ⟨x, H1, I1, rx, F1, M1, d1, e1, S1, rd1, h1⟩ => ?_)
  cases d1 with
  | ref p =>
    have h1 : (match M1 p with
      | some (.ins c fs) => c ∈ cs ∧ fs.length < 1000 ∧ QD δ (M1.set p (.ins c (putD f d fs)))
      | _ => False) := h1
    cases em : M1 p with
    | none => rw [em] at h1; exact h1.elim
    | some m =>
      cases m with
      | ins k fs =>
        rw [em] at h1
        obtain ⟨_, _, dx, vs, ha, rf⟩ := S1.hr.mem _ _ em
        have rd1 : x = .ref p := rd1
        subst rd1
        obtain rfl : ov = Value.ref p := rx
        refine setattr_ok I1 ha (ok k h1.1).1 (ok k h1.1).2 (by rw [rf.length]; exact h1.2.1) r fun s3 I3 => ⟨σ, _, I3, ?_⟩
        exact c _ _ _ _ _ h1.2.2 e1 (S1.env) (S1.hr.write em _ ⟨dx, _, upd_same, RepF.put (rd.mono e1) rf⟩)
      | _ => rw [em] at h1; exact h1.elim
  | _ => exact h1.elim
/-! ### names of built-in types -/
theorem de_ty {x : Str} {T : String} (hm : X.mg x = none) (hv : bootBuiltins x = some (.type T)) (hg : Gl X x := by rfl) (hn : x ≠ "__name__" := by decide) (hd : (x == ("__debug__" : Str)) = false := by decide) : DE X ca W (.Name x pos) (dC (.ty T)) :=
  peImp (pe_bltn (v := .ty T) hg hm hv rfl hn hd) fun σ H R ⟨U, F, M, δ, E, Q, S, h, c⟩ => c _ M F _ H h Ext.rfl' rfl S.hr
/-- the context of a block within a body -/
theorem Ctx.blk (C : Ctx X k W) {s : Shared} {H : Hp} {scope : Scope} {cenv : Env} {fp : List Addr} : Ctx (X.blk s H scope cenv fp) k WF := ⟨C.room, takes0, C.calm⟩
end
/-! ### what is said of every context over one base -/
def AtX (P : Program) (w : World) (K : Fg) (mg : Str → Option Value) (base : Heap) (Φ : Cx → Prop) : Prop := ∀ X : Cx, X.prog = P → X.w = w → X.K = K → X.mg = mg → X.base = base → Φ X
/-- tables by the class -/
def tl {α : Type} (l : List (Nat × α)) : Nat → Option α := fun c => l.lookup c
theorem tl_one {α : Type} {c k : Nat} {a b : α} (h : tl [(c, a)] k = some b) : k = c ∧ b = a := by
  unfold tl at h
  rw [List.lookup_cons] at h
  cases e : k == c with
  | true => rw [e] at h; cases h; exact ⟨eq_of_beq e, rfl⟩
  | false => rw [e] at h; cases h
section
variable {P : Program} {w : World} {K : Fg} {mg : Str → Option Value} {base : Heap} {ca : Ca} {k c : Nat} {f C p : Addr} {x m : Str} {sp spC : DSp} {dds : List D}
theorem at_fn (hm : mg x = some (.ref f)) (kp : PySem.W.keepIn K (.ref f) = true) (G : FnD P w K mg base ca k f dds sp) : AtX P w K mg base fun X => Fn X ca k x dds sp := by
  rintro X rfl rfl rfl rfl rfl
  exact ⟨f, hm, kp, G⟩
theorem at_free (hm : mg x = none) : AtX P w K mg base fun X => X.mg x = none := by
  rintro X rfl rfl rfl rfl rfl
  exact hm
theorem at_cls (hm : mg x = some (.ref (ca c))) : AtX P w K mg base fun X => GC X ca x (.cls c) := by
  rintro X rfl rfl rfl rfl rfl
  exact ⟨_, .ref (ca c), hm, rfl, fun _ => rfl⟩
theorem at_fld {cs : List Nat} (h : ∀ c ∈ cs, Cls K (ca c) ∧ NoAttr K (ca c) x) : AtX P w K mg base fun X => FldOk X ca cs x := by
  rintro X rfl rfl rfl rfl rfl
  exact h
theorem at_mt (cl : Cls K (ca c)) (hm : Meth K (ca c) m f) (G : FnD P w K mg base ca k f dds sp) : AtX P w K mg base fun X => Mt X ca k c m dds sp := by
  rintro X rfl rfl rfl rfl rfl
  exact ⟨cl, f, hm, G⟩
theorem at_own (h : AtX P w K mg base fun X => Mt X ca k c m [] sp) (sf : PySem.W.selfFirst K (ca c) = true) : AtX P w K mg base fun X => OwnOk X ca k m (tl [(c, sp)]) := by
  rintro X rfl rfl rfl rfl rfl c' sp' e
  obtain ⟨rfl, rfl⟩ := tl_one e
  exact ⟨h _ rfl rfl rfl rfl rfl, sf⟩
theorem at_in {op : Operator} (h : AtX P w K mg base fun X => Mt X ca k c (PySem.dunder op.info.2) [] sp) (sf : PySem.W.selfFirst K (ca c) = true) (ni : TSW.NoIn K (ca c) (PySem.dunderI op.info.2)) : AtX P w K mg base fun X => InOkD X ca k op (tl [(c, sp)]) := by
  rintro X rfl rfl rfl rfl rfl c' sp' e
  obtain ⟨rfl, rfl⟩ := tl_one e
  exact ⟨h _ rfl rfl rfl rfl rfl, sf, ni⟩
theorem at_cmp {ts : List Tg} (h : AtX P w K mg base fun X => Mt X ca k c m [] sp) (ns : NoSubs K ca c ts) : AtX P w K mg base fun X => CmpOwnOk X ca k m (tl [(c, sp)]) ts := by
  rintro X rfl rfl rfl rfl rfl c' sp' e
  obtain ⟨rfl, rfl⟩ := tl_one e
  exact ⟨h _ rfl rfl rfl rfl rfl, ns⟩
theorem at_ne {ts : List Tg} (h : AtX P w K mg base fun X => Mt X ca k c "__eq__" [] sp) (ns : NoSubs K ca c ts) (h1 : PySem.W.findIn K (.ref (ca c)) "__ne__" = some (some (.builtin "object.__ne__"))) (h2 : PySem.W.mroIn K (ca c) (.type "object") = some true) : AtX P w K mg base fun X => NeOwnOk X ca k (tl [(c, sp)]) ts := by
  rintro X rfl rfl rfl rfl rfl c' sp' e
  obtain ⟨rfl, rfl⟩ := tl_one e
  exact ⟨h _ rfl rfl rfl rfl rfl, ns, h1, h2⟩
theorem at_m (h : AtX P w K mg base fun X => Mt X ca k c m [] sp) : AtX P w K mg base fun X => MOk X ca k m (tl [(c, sp)]) := by
  rintro X rfl rfl rfl rfl rfl c' sp' e
  obtain ⟨rfl, rfl⟩ := tl_one e
  exact h _ rfl rfl rfl rfl rfl
theorem at_pr {g : Addr} (cl : Cls K (ca c)) (hp : PropOf K (ca c) x p g) (G : FnD P w K mg base ca k g [] sp) : AtX P w K mg base fun X => PrOk X ca k x (tl [(c, sp)]) := by
  rintro X rfl rfl rfl rfl rfl c' sp' e
  obtain ⟨rfl, rfl⟩ := tl_one e
  exact ⟨cl, p, g, hp, G⟩
theorem at_mkr (hm : mg x = some (.ref (ca c))) (mk : Mk K (ca c) f) (G : FnD P w K mg base ca k f dds sp) (h : (∀ ds M E Q, spC ds M E Q → MkD c sp dds ds M E Q) ∨ (∀ ds M E Q, spC ds M E Q → MkM c sp dds ds M E Q)) : AtX P w K mg base fun X => Mkr X ca k c x spC := by
  rintro X rfl rfl rfl rfl rfl
  exact ⟨f, dds, sp, hm, mk, G, h⟩
theorem at_isa {T : ITab} (h : IsaOk K ca T) : AtX P w K mg base fun X => IsaOk X.K ca T := by
  rintro X rfl rfl rfl rfl rfl
  exact h
/-- a def without defaults: its promise -/
theorem fnD_of {qual : Str} {params : Arguments} {body : List Stmt} {scope : Scope} {fd : FuncData} {N ps : List Str} {t : DTS} (G : FunD K x qual params body scope [] [] f fd) (S : FnScope N ps scope)
    (hb : ∀ (kV doc pm : Value) (an : Option Addr) (cdv ct : Value) (us : List Value), us.length = ps.length → bindArgs (PySem.W.fnOf x qual params body scope .none kV doc pm an cdv ct) ⟨us, []⟩ = pure (ps.zip us))
    (len : ∀ ds M E Q, sp ds M E Q → ds.length = ps.length)
    (hd : ∀ (cdv : Value) (A : Around) (outer : List Env) (s : Shared) (H : Hp) (E : XK), Room k (A.deeper (envOfC qual scope s.heap.objs.size f cdv)) →
      DPSs (cxOf (L2.CX P w) P w K mg base N qual scope f cdv A outer s H E) ca (WB E) body t)
    (hp : ∀ ds M E Q, sp ds M E Q → t { nx := fun _ M' => Q .non M', rt := Q, ex := fun c fs _ M' => E c fs M' } (startD N.length ds) M) : FnD P w K mg base ca (k + 1) f [] sp :=
  ⟨fd, ps, [], [], fn_okX G S len hd hp, G.bindsN hb, .nil, fun _ => rfl⟩
end
/-! ### facts by their names -/
def ckIn (K : Fg) (C : Addr) (i : Str) : Bool := (match PySem.W.clsIn K C with
  | some cd => decide (cd.mro = [.ref C, .type "object"])
  | none => false) && (He.eqO (PySem.W.findIn K (.ref C) i) (some none) && He.eqO (PySem.W.findIn K (.type "object") i) (some none))
theorem ckIn_ok {K : Fg} {C : Addr} {i : Str} (h : ckIn K C i = true) : TSW.NoIn K C i := by
  obtain ⟨h1, h⟩ := He.ba h
  obtain ⟨h2, h3⟩ := He.ba h
  refine ⟨?_, He.eqO_ok h2, He.eqO_ok h3⟩
  cases e : PySem.W.clsIn K C with
  | none => rw [e] at h1; cases h1
  | some cd => rw [e] at h1; exact ⟨cd, rfl, of_decide_eq_true h1⟩
def ckNs (K : Fg) (ca : Ca) (c : Nat) (ts : List Tg) : Bool := ts.all fun t => PySem.W.notFirst K (ca c) (tgV ca t)
theorem ckNs_ok {K : Fg} {ca : Ca} {c : Nat} {ts : List Tg} (h : ckNs K ca c ts = true) : NoSubs K ca c ts := fun t ht => List.all_eq_true.mp h t ht
def ckNe (K : Fg) (C : Addr) : Bool := He.eqO (PySem.W.findIn K (.ref C) "__ne__") (some (some (.builtin "object.__ne__"))) && decide (PySem.W.mroIn K C (.type "object") = some true)
/-- a property: its object, its getter -/
def prA (K : Fg) (C : Addr) (x : Str) : Addr := He.ma K C x
def prG (K : Fg) (C : Addr) (x : Str) : Addr := match PySem.W.recIn K (prA K C x) "property" with
  | some (.ref g :: _) => g
  | _ => 0
def ckPr (K : Fg) (C : Addr) (x : Str) : Bool := He.eqO (PySem.W.findIn K (.ref C) x) (some (some (.ref (prA K C x)))) && (He.eqO (PySem.W.specialIn K (.ref (prA K C x)) "__get__") (some (some (.builtin "property.__get__"))) && (decide (PySem.W.takesIn K (.ref (prA K C x)) = some true) &&
  (match PySem.W.recIn K (prA K C x) "property" with
  | some (.ref g :: _) => true
  | _ => false)))
theorem ckPr_ok {K : Fg} {C : Addr} {x : Str} (h : ckPr K C x = true) : PropOf K C x (prA K C x) (prG K C x) := by
  obtain ⟨h1, h⟩ := He.ba h
  obtain ⟨h2, h⟩ := He.ba h
  obtain ⟨h3, h4⟩ := He.ba h
  refine ⟨He.eqO_ok h1, He.eqO_ok h2, of_decide_eq_true h3, ?_⟩
  unfold prG
  cases e : PySem.W.recIn K (prA K C x) "property" with
  | none => rw [e] at h4; cases h4
  | some l =>
    rw [e] at h4
    cases l with
    | nil => cases h4
    | cons v r =>
      cases v with
      | ref g => exact ⟨r, rfl⟩
      | _ => cases h4
/-- what isinstance answers -/
inductive Cy where
  | cls (c : Nat) | ty (n : String)
  deriving DecidableEq
def cyD : D → Option Cy
  | .cls c => some (.cls c)
  | .ty n => some (.ty n)
  | _ => none
def cyV (ca : Ca) : Cy → Value
  | .cls c => .ref (ca c)
  | .ty n => .type n
def isaT (l : List (Cy × Tg × Bool)) : ITab := fun y t => match cyD y with
  | some q => (l.find? fun e => decide (e.1 = q) && decide (e.2.1 = t)).map (·.2.2)
  | none => none
def ckIsa (K : Fg) (ca : Ca) (l : List (Cy × Tg × Bool)) : Bool := l.all fun e => decide (PySem.W.kitOne K (tgV ca e.2.1) (cyV ca e.1) = some e.2.2)
/-- an own class, for isinstance -/
def ckOc (K : Fg) (C : Addr) : Bool := He.eqO (PySem.W.findIn K (.ref C) "__class__") (some (some (.builtin "object.__class__"))) && (He.eqO (PySem.W.specialIn K (.builtin "object.__class__") "__get__") (some (some (.builtin "getset_descriptor.__get__"))) &&
  (decide (PySem.W.takesIn K (.builtin "object.__class__") = some true) && decide (PySem.W.mroIn K C (.type "object") = some true)))
theorem ckOc_ok {K : Fg} {C : Addr} (cl : Cls K C) (h : ckOc K C = true) : OwnC K C := by
  obtain ⟨h1, h⟩ := He.ba h
  obtain ⟨h2, h⟩ := He.ba h
  obtain ⟨h3, h4⟩ := He.ba h
  exact ⟨cl, He.eqO_ok h1, He.eqO_ok h2, of_decide_eq_true h3, of_decide_eq_true h4⟩
theorem ckIsa_ok {K : Fg} {ca : Ca} {l : List (Cy × Tg × Bool)} (h : ckIsa K ca l = true) (ho : ∀ e ∈ l, ∀ c, e.2.1 = .own c → OwnC K (ca c)) : IsaOk K ca (isaT l) := by
  intro y t b e
  unfold isaT at e
  cases q : cyD y with
  | none => rw [q] at e; cases e
  | some cy =>
    rw [q] at e
    simp only at e
    cases z : l.find? fun e => decide (e.1 = cy) && decide (e.2.1 = t) with
    | none => rw [z] at e; cases e
    | some en =>
      rw [z] at e
      cases e
      have hm := List.mem_of_find?_eq_some z
      have hz := List.find?_some z
      obtain ⟨z1, z2⟩ := He.ba hz
      have z1 : en.1 = cy := of_decide_eq_true z1
      have z2 : en.2.1 = t := of_decide_eq_true z2
      have hk := of_decide_eq_true (List.all_eq_true.mp h en hm)
      refine ⟨⟨cyV ca cy, ?_, by rw [← z1, ← z2]; exact hk⟩, fun c ec => ho en hm c (z2.trans ec)⟩
      cases y <;> cases q <;> rfl
/-! ### the head's Hook: facts, defs, checks of one's own -/
def hookC (n : Nat) (fa : List He.Fa) (fn : List He.DefD) (ck : Fg → Bool) : PySem.W.Hook where
  α := He.AlD × Bool
  obs := fun s => (He.obsDG n fa fn s.heap.get?, ck (He.frG s.heap.get? (He.asD s.heap.get? n)))
  val := fun _ => (He.valD fn, true)
  says := fun _ h => ∃ K : Fg, K.In h ∧ He.SaysD fa fn K ∧ ck K = true
  of := fun _ _ e => ⟨_, He.frG_in, congrArg (fun z : He.AlD × Bool => z.1) e, congrArg (fun z : He.AlD × Bool => z.2) e⟩
  keeps := fun _ _ _ ⟨K, hK, c⟩ k => ⟨K, PySem.W.Frag.In.keeps hK k, c⟩
def obC (n : Nat) (fa : List He.Fa) (fn : List He.DefD) (ck : Fg → Bool) (s : PySem.W.SharedT) : He.AlD × Bool := (He.obsDG n fa fn (HandSHeadRun.getT s), ck (He.frG (HandSHeadRun.getT s) (He.asD (HandSHeadRun.getT s) n)))
theorem obC_eq {n : Nat} {fa : List He.Fa} {fn : List He.DefD} {ck : Fg → Bool} (s : PySem.W.SharedT) : obC n fa fn ck s = (hookC n fa fn ck).obs s.abs := by
  have e : HandSHeadRun.getT s = s.abs.heap.get? := funext (HandSHeadRun.getT_eq s)
  unfold obC
  rw [e]
  rfl
end TS
namespace TSR
/-! fractions: plain arithmetic -/
theorem gcd_step (a b : Nat) (h : 0 < b) : Nat.gcd b (a % b) = Nat.gcd a b := by
  rw [Nat.gcd_comm b, ← Nat.gcd_rec, Nat.gcd_comm]
theorem fdiv_exact {a b c : Int} (hb : b ≠ 0) (h : a = b * c) : a.fdiv b = c := by
  subst h
  exact Int.mul_fdiv_cancel_left _ hb
theorem fdiv_dvd {a b : Int} (hb : b ≠ 0) (h : b ∣ a) : a.fdiv b = a / b := by
  obtain ⟨c, rfl⟩ := h
  rw [fdiv_exact hb rfl, Int.mul_ediv_cancel_left _ hb]
/-- the lowest terms by a divisor with the bottom's sign -/
theorem low1 {a b : Int} (hb : b ≠ 0) : (Int.fdiv a (if b < 0 then -((a.natAbs.gcd b.natAbs : Nat) : Int) else ((a.natAbs.gcd b.natAbs : Nat) : Int)), Int.fdiv b (if b < 0 then -((a.natAbs.gcd b.natAbs : Nat) : Int) else ((a.natAbs.gcd b.natAbs : Nat) : Int))) = ((Rat.divInt a b).num, ((Rat.divInt a b).den : Int)) := by
  have hg : 0 < a.natAbs.gcd b.natAbs := Nat.gcd_pos_of_pos_right _ (Int.natAbs_pos.mpr hb)
  obtain ⟨x, hx⟩ := Nat.gcd_dvd_left a.natAbs b.natAbs
  obtain ⟨y, hy⟩ := Nat.gcd_dvd_right a.natAbs b.natAbs
  have hba : b.gcd a = a.natAbs.gcd b.natAbs := by rw [Int.gcd, Nat.gcd_comm]
  rw [Rat.num_divInt, Rat.den_divInt, if_neg hb, hba]
  generalize a.natAbs.gcd b.natAbs = g at *
  have hgi : (g : Int) ≠ 0 := by omega
  have ga : (g : Int) ∣ a := Int.ofNat_dvd_left.mpr ⟨x, hx⟩
  have gb : (g : Int) ∣ b := Int.ofNat_dvd_left.mpr ⟨y, hy⟩
  obtain ⟨p, rfl⟩ := ga
  obtain ⟨q, rfl⟩ := gb
  have hq : q ≠ 0 := by rintro rfl; simp at hb
  by_cases hn : (g : Int) * q < 0
  · have hs : ((g : Int) * q).sign = -1 := Int.sign_eq_neg_one_of_neg hn
    have hqn : q < 0 := by
      rcases Int.lt_or_le q 0 with h | h
      · exact h
      · have := Int.mul_nonneg (Int.natCast_nonneg g) h; omega
    rw [if_pos hn, hs]
    have e1 : (g : Int) * p = -(g : Int) * (-p) := by rw [Int.neg_mul_neg]
    have e2 : (g : Int) * q = -(g : Int) * (-q) := by rw [Int.neg_mul_neg]
    have e3 : -1 * ((g : Int) * p) = (g : Int) * (-p) := by rw [Int.neg_one_mul, Int.mul_neg]
    rw [fdiv_exact (by omega) e1, fdiv_exact (by omega) e2, e3, Int.mul_ediv_cancel_left _ hgi, Int.natAbs_mul, Int.natAbs_natCast, Nat.mul_div_cancel_left _ hg]
    congr 1
    omega
  · have hs : ((g : Int) * q).sign = 1 := Int.sign_eq_one_of_pos (by omega)
    have hqn : 0 < q := by
      rcases Int.lt_or_le 0 q with h | h
      · exact h
      · have := Int.mul_nonneg (Int.natCast_nonneg g) (show 0 ≤ -q by omega); rw [Int.mul_neg] at this; omega
    rw [if_neg hn, hs, fdiv_exact hgi rfl, fdiv_exact hgi rfl, Int.one_mul, Int.mul_ediv_cancel_left _ hgi, Int.natAbs_mul, Int.natAbs_natCast, Nat.mul_div_cancel_left _ hg]
    congr 1
    omega
theorem low1n {a b : Int} (hb : b ≠ 0) : Int.fdiv a (if b < 0 then -((a.natAbs.gcd b.natAbs : Nat) : Int) else ((a.natAbs.gcd b.natAbs : Nat) : Int)) = (Rat.divInt a b).num := congrArg (·.1) (low1 hb)
theorem low1d {a b : Int} (hb : b ≠ 0) : Int.fdiv b (if b < 0 then -((a.natAbs.gcd b.natAbs : Nat) : Int) else ((a.natAbs.gcd b.natAbs : Nat) : Int)) = ((Rat.divInt a b).den : Int) := congrArg (·.2) (low1 hb)
/-- the same by the law's own road -/
theorem low2n {a b : Int} (hb : b ≠ 0) : Int.fdiv ((if b < 0 then -1 else 1) * a) ((a.natAbs.gcd b.natAbs : Nat) : Int) = (Rat.divInt a b).num := by
  have hg : 0 < a.natAbs.gcd b.natAbs := Nat.gcd_pos_of_pos_right _ (Int.natAbs_pos.mpr hb)
  rw [← low1n hb]
  generalize ha : a.natAbs.gcd b.natAbs = g at *
  have ga : (g : Int) ∣ a := Int.ofNat_dvd_left.mpr (ha ▸ Nat.gcd_dvd_left _ _)
  obtain ⟨p, hp⟩ := ga
  have hgi : (g : Int) ≠ 0 := by omega
  split
  · rw [fdiv_exact (b := (g : Int)) (c := -p) hgi (by rw [hp, Int.neg_one_mul, Int.mul_neg]), fdiv_exact (b := -(g : Int)) (c := -p) (by omega) (by rw [hp, Int.neg_mul_neg])]
  · rw [Int.one_mul]
theorem low2d {a b : Int} (hb : b ≠ 0) : Int.fdiv (b.natAbs : Int) ((a.natAbs.gcd b.natAbs : Nat) : Int) = ((Rat.divInt a b).den : Int) := by
  have hg : 0 < a.natAbs.gcd b.natAbs := Nat.gcd_pos_of_pos_right _ (Int.natAbs_pos.mpr hb)
  rw [← low1d hb]
  generalize ha : a.natAbs.gcd b.natAbs = g at *
  have gb : (g : Int) ∣ b := Int.ofNat_dvd_left.mpr (ha ▸ Nat.gcd_dvd_right _ _)
  obtain ⟨p, hp⟩ := gb
  have hgi : (g : Int) ≠ 0 := by omega
  split
  · rename_i h
    have e : (b.natAbs : Int) = -b := by omega
    rw [e, fdiv_exact (b := (g : Int)) (c := -p) hgi (by rw [hp, Int.mul_neg]), fdiv_exact (b := -(g : Int)) (c := -p) (by omega) (by rw [hp, Int.neg_mul_neg])]
  · have e : (b.natAbs : Int) = b := by omega
    rw [e]
/-! sizes -/
def Sz (n : Nat) (q : Rat) : Prop := q.num.natAbs < 2 ^ n ∧ q.den < 2 ^ n
theorem Sz.mono {n m : Nat} {q : Rat} (h : Sz n q) (l : n ≤ m) : Sz m q := ⟨Nat.lt_of_lt_of_le h.1 (Nat.pow_le_pow_right (by decide) l), Nat.lt_of_lt_of_le h.2 (Nat.pow_le_pow_right (by decide) l)⟩
theorem num_le (a b : Int) (hb : b ≠ 0) : (Rat.divInt a b).num.natAbs ≤ a.natAbs := by
  have hg : 0 < b.gcd a := Int.gcd_pos_of_ne_zero_left _ hb
  rw [Rat.num_divInt]
  have : (b.gcd a : Int) ∣ a := Int.gcd_dvd_right ..
  obtain ⟨p, hp⟩ := this
  generalize b.gcd a = g at *
  subst hp
  have e : b.sign * ((g : Int) * p) = (g : Int) * (b.sign * p) := by rw [Int.mul_left_comm]
  rw [e, Int.mul_ediv_cancel_left _ (by omega), Int.natAbs_mul, Int.natAbs_mul, Int.natAbs_natCast]
  have : b.sign.natAbs ≤ 1 := by rw [Int.natAbs_sign]; split <;> omega
  calc b.sign.natAbs * p.natAbs ≤ 1 * p.natAbs := Nat.mul_le_mul_right _ this
    _ ≤ g * p.natAbs := Nat.mul_le_mul_right _ hg
theorem den_le (a b : Int) (hb : b ≠ 0) : (Rat.divInt a b).den ≤ b.natAbs := by
  rw [Rat.den_divInt, if_neg hb]
  exact Nat.div_le_self _ _
theorem Sz.of {a b : Int} {n : Nat} (hb : b ≠ 0) (h1 : a.natAbs < 2 ^ n) (h2 : b.natAbs < 2 ^ n) : Sz n (Rat.divInt a b) := ⟨Nat.lt_of_le_of_lt (num_le a b hb) h1, Nat.lt_of_le_of_lt (den_le a b hb) h2⟩
theorem add_eq (p q : Rat) : Rat.divInt (p.num * q.den + q.num * p.den) (p.den * q.den) = p + q := by
  have h := Rat.divInt_add_divInt p.num q.num (d₁ := p.den) (d₂ := q.den) (by have := p.den_nz; omega) (by have := q.den_nz; omega)
  rw [Rat.num_divInt_den, Rat.num_divInt_den] at h
  exact h.symm
theorem sub_eq (p q : Rat) : Rat.divInt (p.num * q.den - q.num * p.den) (p.den * q.den) = p - q := by
  have h := Rat.divInt_sub_divInt p.num q.num (d₁ := p.den) (d₂ := q.den) (by have := p.den_nz; omega) (by have := q.den_nz; omega)
  rw [Rat.num_divInt_den, Rat.num_divInt_den] at h
  exact h.symm
theorem mul_eq (p q : Rat) : Rat.divInt (p.num * q.num) (p.den * q.den) = p * q := by
  have h := Rat.divInt_mul_divInt p.num q.num (d₁ := p.den) (d₂ := q.den)
  rw [Rat.num_divInt_den, Rat.num_divInt_den] at h
  exact h.symm
theorem neg_eq (p : Rat) : Rat.divInt (-p.num) p.den = -p := by
  have h := Rat.neg_divInt p.num p.den
  rw [Rat.num_divInt_den] at h
  exact h.symm
theorem self_eq (p : Rat) : Rat.divInt p.num p.den = p := Rat.num_divInt_den p
theorem den_pos (p : Rat) : 0 < p.den := Nat.pos_of_ne_zero p.den_nz
theorem den_ne (p : Rat) : (p.den : Int) ≠ 0 := by have := den_pos p; omega
theorem mul_lt {a b n m : Nat} (h1 : a < 2 ^ n) (h2 : b < 2 ^ m) : a * b < 2 ^ (n + m) := by
  rw [Nat.pow_add]
  rcases Nat.eq_zero_or_pos b with h | h
  · subst h; rw [Nat.mul_zero]; exact Nat.mul_pos (Nat.pow_pos (by decide)) (Nat.pow_pos (by decide))
  · exact Nat.lt_of_lt_of_le (Nat.mul_lt_mul_of_pos_right h1 h) (Nat.mul_le_mul_left _ (Nat.le_of_lt h2))
theorem add_lt {a b n : Nat} (h1 : a < 2 ^ n) (h2 : b < 2 ^ n) : a + b < 2 ^ (n + 1) := by rw [Nat.pow_succ]; omega
theorem Sz.add {n : Nat} {p q : Rat} (h1 : Sz n p) (h2 : Sz n q) : Sz (n + n + 1) (p + q) := by
  rw [← add_eq]
  refine Sz.of ?_ ?_ ?_
  · exact Int.mul_ne_zero (den_ne p) (den_ne q)
  · refine Nat.lt_of_le_of_lt (Int.natAbs_add_le _ _) (add_lt ?_ ?_)
    · rw [Int.natAbs_mul]; exact mul_lt h1.1 h2.2
    · rw [Int.natAbs_mul]; exact mul_lt h2.1 h1.2
  · rw [Int.natAbs_mul]
    exact Nat.lt_of_lt_of_le (mul_lt h1.2 h2.2) (Nat.pow_le_pow_right (by decide) (Nat.le_succ _))
theorem Sz.neg {n : Nat} {p : Rat} (h : Sz n p) : Sz n (-p) := ⟨by rw [Rat.neg_num, Int.natAbs_neg]; exact h.1, by rw [Rat.neg_den]; exact h.2⟩
theorem Sz.sub {n : Nat} {p q : Rat} (h1 : Sz n p) (h2 : Sz n q) : Sz (n + n + 1) (p - q) := by rw [Rat.sub_eq_add_neg]; exact h1.add h2.neg
theorem Sz.mul {n : Nat} {p q : Rat} (h1 : Sz n p) (h2 : Sz n q) : Sz (n + n) (p * q) := by
  rw [← mul_eq]
  refine Sz.of (Int.mul_ne_zero (den_ne p) (den_ne q)) ?_ ?_
  · rw [Int.natAbs_mul]; exact mul_lt h1.1 h2.1
  · rw [Int.natAbs_mul]; exact mul_lt h1.2 h2.2
/-- the absolute value -/
def rabs (p : Rat) : Rat := if p.num < 0 then -p else p
theorem rabs_eq (p : Rat) : Rat.divInt (if p.num < 0 then -p.num else p.num) p.den = rabs p := by
  unfold rabs
  split
  · exact neg_eq p
  · exact self_eq p
theorem Sz.abs {n : Nat} {p : Rat} (h : Sz n p) : Sz n (rabs p) := by unfold rabs; split; exact h.neg; exact h
theorem log2_lt {a n : Nat} (h : a < 2 ^ n) (hn : 0 < n) : a.log2 < n := by
  rcases Nat.eq_zero_or_pos a with h0 | h0
  · subst h0; exact hn
  · exact (Nat.log2_lt (by omega)).mpr h
end TSR
namespace TSR
/-! ### bottoms that divide -/
def Dv (D : Nat) (q : Rat) : Prop := 0 < D ∧ q.den ∣ D
theorem divInt_dvd {a : Int} {D : Nat} (h : 0 < D) : Dv D (Rat.divInt a D) := by
  refine ⟨h, ?_⟩
  rw [Rat.den_divInt, if_neg (by omega)]
  exact Nat.div_dvd_of_dvd (Int.gcd_dvd_natAbs_left ..)
theorem Dv.ex {D : Nat} {q : Rat} (h : Dv D q) : ∃ a : Int, q = Rat.divInt a D := by
  obtain ⟨h0, c, rfl⟩ := h
  have hc : c ≠ 0 := by rintro rfl; simp at h0
  refine ⟨q.num * c, ?_⟩
  have e : (((q.den * c : Nat)) : Int) = (q.den : Int) * (c : Int) := by simp
  rw [e, Rat.divInt_mul_right (by omega), Rat.num_divInt_den]
theorem Dv.self (q : Rat) : Dv q.den q := ⟨den_pos q, Nat.dvd_refl _⟩
theorem Dv.mono {D E : Nat} {q : Rat} (h : Dv D q) (e : D ∣ E) (hE : 0 < E) : Dv E q := ⟨hE, Nat.dvd_trans h.2 e⟩
theorem Dv.add {D : Nat} {p q : Rat} (h1 : Dv D p) (h2 : Dv D q) : Dv D (p + q) := by
  have h0 := h1.1
  obtain ⟨a, rfl⟩ := h1.ex
  obtain ⟨b, rfl⟩ := h2.ex
  have e : Rat.divInt a D + Rat.divInt b D = Rat.divInt (a + b) D := by
    rw [Rat.divInt_add_divInt _ _ (by omega) (by omega), ← Int.add_mul, Rat.divInt_mul_right (by omega)]
  rw [e]
  exact divInt_dvd h0
theorem Dv.neg {D : Nat} {p : Rat} (h : Dv D p) : Dv D (-p) := ⟨h.1, by rw [Rat.neg_den]; exact h.2⟩
theorem Dv.sub {D : Nat} {p q : Rat} (h1 : Dv D p) (h2 : Dv D q) : Dv D (p - q) := by rw [Rat.sub_eq_add_neg]; exact h1.add h2.neg
theorem Dv.mul {D E : Nat} {p q : Rat} (h1 : Dv D p) (h2 : Dv E q) : Dv (D * E) (p * q) := by
  have h : Dv (p.den * q.den) (p * q) := by
    rw [← mul_eq]
    have := divInt_dvd (a := p.num * q.num) (D := p.den * q.den) (Nat.mul_pos (den_pos p) (den_pos q))
    simpa using this
  exact h.mono (Nat.mul_dvd_mul h1.2 h2.2) (Nat.mul_pos h1.1 h2.1)
theorem Dv.one {D : Nat} (h : 0 < D) : Dv D 1 := ⟨h, by show 1 ∣ D; exact Nat.one_dvd _⟩
theorem Dv.zero {D : Nat} (h : 0 < D) : Dv D 0 := ⟨h, by show 1 ∣ D; exact Nat.one_dvd _⟩
theorem Dv.le {D : Nat} {q : Rat} (h : Dv D q) : q.den ≤ D := Nat.le_of_dvd h.1 h.2
theorem num_le_of {q : Rat} {k : Int} (h1 : q ≤ k) : q.num ≤ k * q.den := by
  have h := Rat.num_divInt_den q
  have hd : (0 : Rat) < ((q.den : Int) : Rat) := Rat.intCast_lt_intCast.mpr (Int.natCast_pos.mpr (den_pos q))
  rw [Rat.divInt_eq_div] at h
  have e : (q.num : Rat) = q * ((q.den : Int) : Rat) := by
    have := Rat.div_mul_cancel (a := (q.num : Rat)) (b := ((q.den : Int) : Rat)) (by grind)
    rw [h] at this
    exact this.symm
  have h2 : (q.num : Rat) ≤ ((k * (q.den : Int) : Int) : Rat) := by
    rw [e, Rat.intCast_mul]
    exact Rat.mul_le_mul_of_nonneg_right h1 (Rat.le_of_lt hd)
  exact Rat.intCast_le_intCast.mp h2
theorem Dv.sz {D n : Nat} {q : Rat} (h : Dv D q) (hD : D < 2 ^ n) (h0 : -1 ≤ q) (h1 : q ≤ 1) : Sz n q := by
  have a := num_le_of (q := q) (k := 1) (by simpa using h1)
  have b := num_le_of (q := -q) (k := 1) (by simp; grind)
  rw [Rat.neg_num, Rat.neg_den] at b
  have := h.le
  constructor <;> omega
theorem Dv.sz2 {D n : Nat} {q : Rat} (h : Dv D q) (hD : D < 2 ^ n) (h0 : -2 ≤ q) (h1 : q ≤ 2) : Sz (n + 1) q := by
  have a := num_le_of (q := q) (k := 2) (by simpa using h1)
  have b := num_le_of (q := -q) (k := 2) (by
    have e : ((2 : Int) : Rat) = 2 := by simp
    rw [e]
    grind)
  rw [Rat.neg_num, Rat.neg_den] at b
  have := h.le
  have e : 2 ^ (n + 1) = 2 * 2 ^ n := by rw [Nat.pow_succ]; omega
  constructor <;> omega
end TSR
namespace TS
open PySem PySem.Spec PyProof.Rows L2 TSR
/-! ### fractions as data; promises by the number of arguments -/
def fr (q : Rat) : D := .obj 0 [("over", .int q.num), ("under", .int q.den)]
def pr (q : Rat) : D := .tup [.int q.num, .int q.den]
def p1 (r : D → Mem → XD → QD → Prop) : DSp := fun ds M E Q => match ds with | [a] => r a M E Q | _ => False
def p2 (r : D → D → Mem → XD → QD → Prop) : DSp := fun ds M E Q => match ds with | [a, b] => r a b M E Q | _ => False
def p3 (r : D → D → D → Mem → XD → QD → Prop) : DSp := fun ds M E Q => match ds with | [a, b, c] => r a b c M E Q | _ => False
def p4 (r : D → D → D → D → Mem → XD → QD → Prop) : DSp := fun ds M E Q => match ds with | [a, b, c, d] => r a b c d M E Q | _ => False
theorem p1_len {r} (ds : List D) (M : Mem) (E : XD) (Q : QD) (h : p1 r ds M E Q) : ds.length = 1 := by unfold p1 at h; split at h; rfl; exact h.elim
theorem p2_len {r} (ds : List D) (M : Mem) (E : XD) (Q : QD) (h : p2 r ds M E Q) : ds.length = 2 := by unfold p2 at h; split at h; rfl; exact h.elim
theorem p3_len {r} (ds : List D) (M : Mem) (E : XD) (Q : QD) (h : p3 r ds M E Q) : ds.length = 3 := by unfold p3 at h; split at h; rfl; exact h.elim
theorem p4_len {r} (ds : List D) (M : Mem) (E : XD) (Q : QD) (h : p4 r ds M E Q) : ds.length = 4 := by unfold p4 at h; split at h; rfl; exact h.elim
/-- a body's reading keeps the promise -/
abbrev ends (E : XD) (Q : QD) : DEnds := { nx := fun _ M' => Q .non M', rt := Q, ex := fun c fs _ M' => E c fs M' }
abbrev Pure (sp : DSp) (t : DTS) (N : List Str) : Prop := ∀ ds M E Q, sp ds M E Q → t { nx := fun _ M' => Q .non M', rt := Q, ex := fun c fs _ M' => E c fs M' } (startD N.length ds) M
theorem pure1 {r} {t : DTS} {N : List Str} (h : ∀ a M E Q, r a M E Q → t (ends E Q) (startD N.length [a]) M) : Pure (p1 r) t N := fun ds M E Q q => by
  unfold p1 at q; split at q; exact h _ _ _ _ q; exact q.elim
theorem pure2 {r} {t : DTS} {N : List Str} (h : ∀ a b M E Q, r a b M E Q → t (ends E Q) (startD N.length [a, b]) M) : Pure (p2 r) t N := fun ds M E Q q => by
  unfold p2 at q; split at q; exact h _ _ _ _ _ q; exact q.elim
theorem pure3 {r} {t : DTS} {N : List Str} (h : ∀ a b c M E Q, r a b c M E Q → t (ends E Q) (startD N.length [a, b, c]) M) : Pure (p3 r) t N := fun ds M E Q q => by
  unfold p3 at q; split at q; exact h _ _ _ _ _ _ q; exact q.elim
theorem pure4 {r} {t : DTS} {N : List Str} (h : ∀ a b c d M E Q, r a b c d M E Q → t (ends E Q) (startD N.length [a, b, c, d]) M) : Pure (p4 r) t N := fun ds M E Q q => by
  unfold p4 at q; split at q; exact h _ _ _ _ _ _ _ q; exact q.elim
/-- the classes' numbers, the types that are asked for -/
def isaL : List (Cy × Tg × Bool) := [(.ty "int", .int, true), (.ty "int", .bl, true), (.ty "bool", .int, false), (.ty "bool", .bl, true), (.ty "int", .non, false), (.ty "int", .str, false), (.ty "int", .tup, false), (.ty "int", .lst, false), (.ty "int", .dic, false), (.ty "int", .own 0, false),
  (.cls 0, .own 0, true), (.cls 0, .int, false), (.cls 0, .bl, false), (.cls 0, .non, false), (.cls 0, .str, false), (.cls 0, .tup, false), (.cls 0, .lst, false), (.cls 0, .dic, false)]
def tgs : List Tg := [.non, .bl, .int, .str, .tup, .lst, .dic, .own 0]
/-! two ints -/
def i2 (r : Int → Int → Mem → XD → QD → Prop) : D → D → Mem → XD → QD → Prop := fun a b M E Q => match a, b with | .int i, .int j => r i j M E Q | _, _ => False
theorem i2_of {r a b M E Q} (h : i2 r a b M E Q) : ∃ i j, a = .int i ∧ b = .int j ∧ r i j M E Q := by
  unfold i2 at h; split at h; exact ⟨_, _, rfl, rfl, h⟩; exact h.elim
/-- fractions -/
noncomputable def asFr (d : D) : Option Rat := by
  classical exact if h : ∃ q, d = fr q then some h.choose else none
theorem fr_inj {p q : Rat} (h : fr p = fr q) : p = q := by
  unfold fr at h
  injection h with _ h
  injection h with h1 h2
  injection h2 with h2 _
  injection h1 with _ h1
  injection h1 with h1
  injection h2 with _ h2
  injection h2 with h2
  exact Rat.ext h1 (Int.ofNat.inj h2)
theorem pr_inj {p q : Rat} (h : pr p = pr q) : p = q := by
  unfold pr at h
  injection h with h
  injection h with h1 h2
  injection h2 with h2 _
  injection h1 with h1
  injection h2 with h2
  exact Rat.ext h1 (Int.ofNat.inj h2)
/-- promises over fractions -/
def f1 (r : Rat → Mem → XD → QD → Prop) : D → Mem → XD → QD → Prop := fun a M E Q => ∃ p, a = fr p ∧ r p M E Q
def f2 (r : Rat → Rat → Mem → XD → QD → Prop) : D → D → Mem → XD → QD → Prop := fun a b M E Q => ∃ p q, a = fr p ∧ b = fr q ∧ r p q M E Q
theorem f1_fr {r M E Q} {p : Rat} : f1 r (fr p) M E Q ↔ r p M E Q := ⟨fun ⟨p', e, h⟩ => by rw [fr_inj e]; exact h, fun h => ⟨_, rfl, h⟩⟩
theorem f2_fr {r M E Q} {p q : Rat} : f2 r (fr p) (fr q) M E Q ↔ r p q M E Q := ⟨fun ⟨p', q', e, e', h⟩ => by rw [fr_inj e, fr_inj e']; exact h, fun h => ⟨_, _, rfl, rfl, h⟩⟩
def g1 (r : Rat → Mem → XD → QD → Prop) : D → Mem → XD → QD → Prop := fun a M E Q => ∃ p, a = pr p ∧ r p M E Q
def g2 (r : Rat → Rat → Mem → XD → QD → Prop) : D → D → Mem → XD → QD → Prop := fun a b M E Q => ∃ p q, a = pr p ∧ b = pr q ∧ r p q M E Q
theorem g1_pr {r M E Q} {p : Rat} : g1 r (pr p) M E Q ↔ r p M E Q := ⟨fun ⟨p', e, h⟩ => by rw [pr_inj e]; exact h, fun h => ⟨_, rfl, h⟩⟩
theorem g2_pr {r M E Q} {p q : Rat} : g2 r (pr p) (pr q) M E Q ↔ r p q M E Q := ⟨fun ⟨p', q', e, e', h⟩ => by rw [pr_inj e, pr_inj e']; exact h, fun h => ⟨_, _, rfl, rfl, h⟩⟩
def frF (q : Rat) : List (Str × D) := [("over", .int q.num), ("under", .int q.den)]
theorem asO_fr {M : Mem} {q : Rat} : asO M (fr q) = some (0, frF q) := rfl
theorem tgD_fr {M : Mem} {q : Rat} : tgD M (fr q) = some (Tg.own 0) := rfl
theorem look_over {q : Rat} : List.lookup ("over" : Str) (frF q) = some (D.int q.num) := rfl
theorem look_under {q : Rat} : List.lookup ("under" : Str) (frF q) = some (D.int q.den) := rfl
theorem mem0 : 0 ∈ [0] := by decide
/-! ### what the package's functions do -/
def sp_is_whole : DSp := p1 fun d M E Q => match d with | .int _ => Q (.bl true) M | .bl _ => Q (.bl false) M | _ => False
def sp_common : DSp := p2 (i2 fun i j M E Q => 0 ≤ i ∧ 0 < j ∧ Q (.int (i.natAbs.gcd j.natAbs : Nat)) M)
/-- a bound for all that is put together of fractions -/
abbrev Big : Nat := 2 ^ 8000
def sp_lowest_terms : DSp := p2 (i2 fun i j M E Q => j ≠ 0 ∧ j.natAbs < 2 ^ 8000 ∧ Q (pr (Rat.divInt i j)) M)
def sp_Frac_init : DSp := p3 fun s a b M E Q => ∃ p, s = .ref p ∧ M p = some (.ins 0 []) ∧ i2 (fun i j M E Q => j ≠ 0 ∧ j.natAbs < 2 ^ 8000 ∧ Q .non (M.set p (.ins 0 [("over", .int (Rat.divInt i j).num), ("under", .int (Rat.divInt i j).den)]))) a b M E Q
def spC_Frac : DSp := p2 (i2 fun i j M E Q => j ≠ 0 ∧ j.natAbs < 2 ^ 8000 ∧ Q (fr (Rat.divInt i j)) M)
def sp_Frac_top : DSp := p1 (f1 fun p M E Q => Q (.int p.num) M)
def sp_Frac_bottom : DSp := p1 (f1 fun p M E Q => Q (.int p.den) M)
def sp_Frac_add : DSp := p2 (f2 fun p q M E Q => Sz 2000 p ∧ Sz 2000 q ∧ Q (fr (p + q)) M)
def sp_Frac_sub : DSp := p2 (f2 fun p q M E Q => Sz 2000 p ∧ Sz 2000 q ∧ Q (fr (p - q)) M)
def sp_Frac_mul : DSp := p2 (f2 fun p q M E Q => Sz 2000 p ∧ Sz 2000 q ∧ Q (fr (p * q)) M)
def sp_Frac_neg : DSp := p1 (f1 fun p M E Q => Sz 4000 p ∧ Q (fr (-p)) M)
def sp_Frac_abs : DSp := p1 (f1 fun p M E Q => Sz 4000 p ∧ Q (fr (rabs p)) M)
def sp_Frac_bool : DSp := p1 (f1 fun p M E Q => Q (.bl (p.num != 0)) M)
/-- the text of a fraction -/
def wordOf (p : Rat) : Str := if p.den = 1 then toString p.num else Str.empty ++ toString p.num ++ "/" ++ toString (p.den : Int)
def reprOf (p : Rat) : Str := Str.empty ++ "Frac('" ++ wordOf p ++ "')"
def Shows (p : Rat) : Prop := Sz 1900 p
def sp_Frac_str : DSp := p1 (f1 fun p M E Q => Sz 1900 p ∧ Q (.str (wordOf p)) M)
def sp_Frac_repr : DSp := p1 (f1 fun p M E Q => Sz 1900 p ∧ Q (.str (reprOf p)) M)
def N_is_whole : List PySem.Str := ["thing"]
def t_is_whole : DTS := (sRet (dAndV (dCB (b2 (bIsa (isaT isaL))) (dCons (dVar 0) (dCons (dC (.ty "int")) dNil))) (dNotV (dB (dCB (b2 (bIsa (isaT isaL))) (dCons (dVar 0) (dCons (dC (.ty "bool")) dNil)))))))
def N_common : List PySem.Str := ["one", "other"]
def t_common : DTS := (sSeq (sWhile (dB (dBin oGt0 (dVar 1) (dC (.int 0)))) (sPar 0 1 (dCons (dVar 1) (dCons (dBin oMod0 (dVar 0) (dVar 1)) dNil)))) (sRet (dOrT (dVar 0) (dC (.int 1)))))
def N_lowest_terms : List PySem.Str := ["top", "bottom", "divisor"]
def t_lowest_terms : DTS := (sSeq (sAsg (dCall sp_common [] (dCons (dCB (b1 bAbs) (dCons (dVar 0) dNil)) (dCons (dCB (b1 bAbs) (dCons (dVar 1) dNil)) dNil))) (gNameD 2)) (sSeq (sIf (dB (dBin oLt0 (dVar 1) (dC (.int 0)))) (sAsg (dUn uNeg0 (dVar 2)) (gNameD 2)) sNext) (sRet (dTup (dCons (dBin oDiv0 (dVar 0) (dVar 2)) (dCons (dBin oDiv0 (dVar 1) (dVar 2)) dNil))))))
def N_Frac_init : List PySem.Str := ["self", "top", "bottom"]
def t_Frac_init : DTS := (sSeq (sIf (dNot (dB (dCall sp_is_whole [] (dCons (dVar 1) dNil)))) sNever sNext) (sSeq (sIf (dOr (dNot (dB (dCall sp_is_whole [] (dCons (dVar 2) dNil)))) (dB (dBin (oEqP fun b => b) (dVar 2) (dC (.int 0))))) sNever sNext) (sAsg (dCall sp_lowest_terms [] (dCons (dVar 1) (dCons (dVar 2) dNil))) (gTupD (gsCons (gFldD [0] "over" (dVar 0)) (gsCons (gFldD [0] "under" (dVar 0)) gsNil)) 2))))
def N_Frac_top : List PySem.Str := ["self"]
def t_Frac_top : DTS := (sRet (dFld [0] "over" (dVar 0)))
def N_Frac_bottom : List PySem.Str := ["self"]
def t_Frac_bottom : DTS := (sRet (dFld [0] "under" (dVar 0)))
def N_Frac_add : List PySem.Str := ["self", "other"]
def t_Frac_add : DTS := (sRet (dCB spC_Frac (dCons (dBin oAdd0 (dBin oMul0 (dFld [0] "over" (dVar 0)) (dFld [0] "under" (dVar 1))) (dBin oMul0 (dFld [0] "over" (dVar 1)) (dFld [0] "under" (dVar 0)))) (dCons (dBin oMul0 (dFld [0] "under" (dVar 0)) (dFld [0] "under" (dVar 1))) dNil))))
def N_Frac_sub : List PySem.Str := ["self", "other"]
def t_Frac_sub : DTS := (sRet (dCB spC_Frac (dCons (dBin oSub0 (dBin oMul0 (dFld [0] "over" (dVar 0)) (dFld [0] "under" (dVar 1))) (dBin oMul0 (dFld [0] "over" (dVar 1)) (dFld [0] "under" (dVar 0)))) (dCons (dBin oMul0 (dFld [0] "under" (dVar 0)) (dFld [0] "under" (dVar 1))) dNil))))
def N_Frac_neg : List PySem.Str := ["self"]
def t_Frac_neg : DTS := (sRet (dCB spC_Frac (dCons (dUn uNeg0 (dFld [0] "over" (dVar 0))) (dCons (dFld [0] "under" (dVar 0)) dNil))))
def N_Frac_abs : List PySem.Str := ["self"]
def t_Frac_abs : DTS := (sRet (dCB spC_Frac (dCons (dCB (b1 bAbs) (dCons (dFld [0] "over" (dVar 0)) dNil)) (dCons (dFld [0] "under" (dVar 0)) dNil))))
def N_Frac_bool : List PySem.Str := ["self"]
def t_Frac_bool : DTS := (sRet (dCB (b1 bBool) (dCons (dFld [0] "over" (dVar 0)) dNil)))
def N_Frac_str : List PySem.Str := ["self"]
def t_Frac_str : DTS := (sSeq (sIf (dB (dBin (oEqP fun b => b) (dFld [0] "under" (dVar 0)) (dC (.int 1)))) (sRet (dCB (b1 bStr) (dCons (dFld [0] "over" (dVar 0)) dNil))) sNext) (sRet (dJoined [dFmt (dFld [0] "over" (dVar 0)), (dC (.str "/")), dFmt (dFld [0] "under" (dVar 0))])))
def N_Frac_repr : List PySem.Str := ["self"]
def t_Frac_repr : DTS := (sRet (dJoined [(dC (.str "Frac('")), dFmt (dCB (b1 (uOwnS (tl [(0, sp_Frac_str)]))) (dCons (dVar 0) dNil)), (dC (.str "')"))]))

/-! ### they do so -/
theorem abs_nat (i : Int) : (if i < 0 then -i else i) = ((i.natAbs : Nat) : Int) := by split <;> omega
theorem mod_nat (i j : Nat) : (i : Int).fmod (j : Int) = ((i % j : Nat) : Int) := by rw [Int.fmod_eq_emod_of_nonneg _ (Int.natCast_nonneg _)]; rfl
theorem common_loop (Z : DEnds) (M : Mem) : ∀ (n i j : Nat), j < n → Z.nx [some (.int (i.gcd j : Nat)), some (.int 0)] M →
    WhL (dB (dBin oGt0 (dVar 1) (dC (.int 0)))) (sPar 0 1 (dCons (dVar 1) (dCons (dBin oMod0 (dVar 0) (dVar 1)) dNil))) Z n [some (.int (i : Nat)), some (.int (j : Nat))] M
  | 0, _, _, h, _ => absurd h (Nat.not_lt_zero _)
  | n + 1, i, j, h, q => by
    simp only [WhL, dVar, dC, dCons, dNil, dTup, dLst, dLstM, dBin, dUn, dCB, dCall, dB, dAnd, dOr, dNot, dAndV, dOrV, dNotV, dIf, dOrT, dAndT, dFld, dSlice, dPart, dNoPart, dStill, dFresh, dComp, dJoined, dJs, dFmt, dBM, dTruth, dYes, b1, b2, oAdd0, oSub0, oMul0, oDiv0, oMod0, oPow0, oCmpI, oIx0, bAbs, bInt, bBool, bStr, bLen, bMax, bMin, bDivmod, uNeg0, sSeq, sAsg, sIf, sRet, sRetN, sNext, sPar, sDrop, sNever, gNameD, gTupD, gsCons, gsNil, gt, stt, List.nil_append, List.cons_append, List.append_nil, truD, wipeD, bdName]
    refine ⟨_, rfl, ?_⟩
    by_cases hj : 0 < j
    · rw [if_pos (decide_eq_true (by omega))]
      refine ⟨by omega, ?_⟩
      rw [mod_nat]
      refine common_loop Z M n j (i % j) ?_ ?_
      · have := Nat.mod_lt i hj; omega
      · rw [gcd_step i j hj]; exact q
    · have e : j = 0 := by omega
      subst e
      rw [if_neg (by simp)]
      rw [Nat.gcd_zero_right] at q
      exact q
theorem pure_common : Pure sp_common t_common N_common := pure2 fun a b M E Q h => by
  obtain ⟨i, j, rfl, rfl, h1, h2, h⟩ := i2_of h
  obtain ⟨i, rfl⟩ := Int.eq_ofNat_of_zero_le h1
  obtain ⟨j, rfl⟩ := Int.eq_ofNat_of_zero_le (Int.le_of_lt h2)
  simp only [t_common, sSeq, sWhile]
  refine ⟨j + 1, common_loop _ M (j + 1) i j (Nat.lt_succ_self _) ?_⟩
  simp only [dVar, dC, dCons, dNil, dTup, dLst, dLstM, dBin, dUn, dCB, dCall, dB, dAnd, dOr, dNot, dAndV, dOrV, dNotV, dIf, dOrT, dAndT, dFld, dSlice, dPart, dNoPart, dStill, dFresh, dComp, dJoined, dJs, dFmt, dBM, dTruth, dYes, b1, b2, oAdd0, oSub0, oMul0, oDiv0, oMod0, oPow0, oCmpI, oIx0, bAbs, bInt, bBool, bStr, bLen, bMax, bMin, bDivmod, uNeg0, sSeq, sAsg, sIf, sRet, sRetN, sNext, sPar, sDrop, sNever, gNameD, gTupD, gsCons, gsNil, gt, stt, List.nil_append, List.cons_append, List.append_nil, truD, wipeD, bdName]
  have : (((i.gcd j : Nat) : Int) != 0) = true := by
    have := Nat.gcd_pos_of_pos_right i (show 0 < j by omega)
    simp; omega
  rw [this, if_pos rfl]
  exact h
theorem len_common : ∀ ds M E Q, sp_common ds M E Q → ds.length = [("one" : Str), "other"].length := p2_len
theorem pure_is_whole : Pure sp_is_whole t_is_whole N_is_whole := pure1 fun a M E Q h => by
  cases a <;> first | exact h.elim | skip
  · exact ⟨_, rfl, by rw [if_pos rfl]; exact ⟨_, rfl, h⟩⟩
  · exact ⟨_, rfl, by rw [if_pos rfl]; exact ⟨_, rfl, h⟩⟩
theorem len_is_whole : ∀ ds M E Q, sp_is_whole ds M E Q → ds.length = [("thing" : Str)].length := p1_len
theorem log2_of {a : Int} {n m : Nat} (h : a.natAbs < 2 ^ n) (hn : 0 < n) (l : n ≤ m) : a.natAbs.log2 < m := Nat.lt_of_lt_of_le (log2_lt h hn) l
theorem pure_lowest_terms : Pure sp_lowest_terms t_lowest_terms N_lowest_terms := pure2 fun a b M E Q h => by
  obtain ⟨i, j, rfl, rfl, h1, h2, h⟩ := i2_of h
  have hg : 0 < i.natAbs.gcd j.natAbs := Nat.gcd_pos_of_pos_right _ (Int.natAbs_pos.mpr h1)
  have hgl : i.natAbs.gcd j.natAbs ≤ j.natAbs := Nat.gcd_le_right _ (Int.natAbs_pos.mpr h1)
  have n1 := low1n (a := i) h1
  have n2 := low1d (a := i) h1
  have hlt : i.natAbs.gcd j.natAbs < 2 ^ 8000 := Nat.lt_of_le_of_lt hgl h2
  simp only [t_lowest_terms, startD, N_lowest_terms, dVar, dC, dCons, dNil, dTup, dLst, dLstM, dBin, dUn, dCB, dCall, dB, dAnd, dOr, dNot, dAndV, dOrV, dNotV, dIf, dOrT, dAndT, dFld, dSlice, dPart, dNoPart, dStill, dFresh, dComp, dJoined, dJs, dFmt, dBM, dTruth, dYes, b1, b2, oAdd0, oSub0, oMul0, oDiv0, oMod0, oPow0, oCmpI, oIx0, bAbs, bInt, bBool, bStr, bLen, bMax, bMin, bDivmod, uNeg0, sSeq, sAsg, sIf, sRet, sRetN, sNext, sPar, sDrop, sNever, gNameD, gTupD, gsCons, gsNil, gt, stt, List.nil_append, List.cons_append, List.append_nil, truD, wipeD, bdName, sp_common, p2, i2, abs_nat, List.map, List.length, List.replicate, Nat.reduceSub, Nat.reduceAdd]
  refine ⟨by omega, by omega, ?_⟩
  simp only [Int.natAbs_natCast]
  refine ⟨_, rfl, ?_⟩
  have e : Q (.tup [.int (Rat.divInt i j).num, .int (Rat.divInt i j).den]) M := h
  by_cases hj : j < 0
  · rw [if_pos (decide_eq_true hj)]
    rw [if_pos hj] at n1 n2
    refine ⟨by omega, log2_of (n := 8000) (by rw [Int.natAbs_neg, Int.natAbs_natCast]; exact hlt) (by decide) (show 8000 ≤ 9000 by decide), by omega, log2_of (n := 8000) (by rw [Int.natAbs_neg, Int.natAbs_natCast]; exact hlt) (by decide) (show 8000 ≤ 9000 by decide), by decide, ?_⟩
    rw [n1, n2]
    exact e
  · rw [if_neg (by simp [hj])]
    rw [if_neg hj] at n1 n2
    have hl9 : (i.natAbs.gcd j.natAbs).log2 < 9000 := Nat.lt_of_lt_of_le (log2_lt hlt (by decide)) (show 8000 ≤ 9000 by decide)
    refine ⟨by omega, hl9, by omega, hl9, by decide, ?_⟩
    rw [n1, n2]
    exact e
theorem len_lowest_terms : ∀ ds M E Q, sp_lowest_terms ds M E Q → ds.length = [("top" : Str), "bottom"].length := p2_len
theorem setM {p : Addr} {m n : MO} {M : Mem} : (M.set p m).set p n = M.set p n := Mem.set_set
theorem put_over (d : D) : putD "over" d [] = [(("over" : Str), d)] := rfl
theorem put_under (d e : D) : putD "under" e [(("over" : Str), d)] = [(("over" : Str), d), (("under" : Str), e)] := rfl
theorem toPy_int {M : Mem} {i : Int} : toPy M (.int i) = some (.int i) := rfl
theorem sh_int {i : Int} : SeqAt.shaped (.int i) = true := by kernel_rfl
theorem eqv_int {i j : Int} : PyData.eqv (.int i) (.int j) = decide (i = j) := by unfold PyData.eqv; exact Bool.beq_eq_decide_eq i j
theorem pure_Frac_init : Pure sp_Frac_init t_Frac_init N_Frac_init := pure3 fun s a b M E Q h => by
  obtain ⟨p, rfl, hm, h⟩ := h
  obtain ⟨i, j, rfl, rfl, h1, h2, h⟩ := i2_of h
  simp only [t_Frac_init, startD, N_Frac_init, dVar, dC, dCons, dNil, dTup, dLst, dLstM, dBin, dUn, dCB, dCall, dB, dAnd, dOr, dNot, dAndV, dOrV, dNotV, dIf, dOrT, dAndT, dFld, dSlice, dPart, dNoPart, dStill, dFresh, dComp, dJoined, dJs, dFmt, dBM, dTruth, dYes, b1, b2, oAdd0, oSub0, oMul0, oDiv0, oMod0, oPow0, oCmpI, oIx0, bAbs, bInt, bBool, bStr, bLen, bMax, bMin, bDivmod, uNeg0, sSeq, sAsg, sIf, sRet, sRetN, sNext, sPar, sDrop, sNever, gNameD, gTupD, gsCons, gsNil, gt, stt, List.nil_append, List.cons_append, List.append_nil, truD, wipeD, bdName, sp_is_whole, p1, List.map, List.length, List.replicate, Nat.reduceSub, Nat.reduceAdd, sp_lowest_terms, p2, i2, pr, gFldD, oEqP, toPy_int, eqv_int, sh_int]
  refine ⟨_, rfl, ?_⟩
  rw [if_neg (by simp)]
  refine ⟨_, rfl, ?_⟩
  rw [if_neg (by simp)]
  refine ⟨trivial, trivial, _, rfl, ?_⟩
  rw [if_neg (by simp [h1])]
  refine ⟨h1, h2, trivial, ?_⟩
  rw [hm]
  refine ⟨mem0, by decide, ?_⟩
  rw [Mem.set_same]
  refine ⟨mem0, by show 1 < 1000; decide, ?_⟩
  rw [Mem.set_set]
  exact ⟨trivial, h⟩
theorem len_Frac_init : ∀ ds M E Q, sp_Frac_init ds M E Q → ds.length = [("self" : Str), "top", "bottom"].length := p3_len
theorem mk_Frac : ∀ ds M E Q, spC_Frac ds M E Q → MkD 0 sp_Frac_init [] ds M E Q := fun ds M E Q h => by
  unfold spC_Frac p2 at h
  split at h
  · rename_i ds a b
    obtain ⟨i, j, rfl, rfl, h1, h2, h⟩ := i2_of h
    intro x hx
    refine ⟨x, rfl, Mem.set_same, h1, h2, rfl, _, by rw [Mem.set_set, Mem.set_same], ?_⟩
    rw [Mem.set_set, Mem.del_set hx]
    exact h
  · exact h.elim
theorem pure_Frac_top : Pure sp_Frac_top t_Frac_top N_Frac_top := pure1 fun a M E Q h => by
  obtain ⟨p, rfl, h⟩ := h
  exact ⟨mem0, h⟩
theorem len_Frac_top : ∀ ds M E Q, sp_Frac_top ds M E Q → ds.length = [("self" : Str)].length := p1_len
theorem pure_Frac_bottom : Pure sp_Frac_bottom t_Frac_bottom N_Frac_bottom := pure1 fun a M E Q h => by
  obtain ⟨p, rfl, h⟩ := h
  exact ⟨mem0, h⟩
theorem len_Frac_bottom : ∀ ds M E Q, sp_Frac_bottom ds M E Q → ds.length = [("self" : Str)].length := p1_len
theorem mulOk_of {a b : Int} {n m : Nat} (h1 : a.natAbs < 2 ^ n) (h2 : b.natAbs < 2 ^ m) (hn : 0 < n := by decide) (hm : 0 < m := by decide) (l : n + m < 1000000 := by decide) : mulOk a b := by
  have := log2_lt h1 hn
  have := log2_lt h2 hm
  unfold mulOk
  omega
theorem den_lt {p : Rat} {n : Nat} (h : Sz n p) : ((p.den : Nat) : Int).natAbs < 2 ^ n := by rw [Int.natAbs_natCast]; exact h.2
theorem dd_lt {p q : Rat} (h1 : Sz 2000 p) (h2 : Sz 2000 q) : (((p.den : Nat) : Int) * (q.den : Nat)).natAbs < 2 ^ 8000 := by
  rw [Int.natAbs_mul, Int.natAbs_natCast, Int.natAbs_natCast]
  exact Nat.lt_of_lt_of_le (mul_lt h1.2 h2.2) (Nat.pow_le_pow_right (by decide) (by decide))
theorem dd_ne (p q : Rat) : ((p.den : Nat) : Int) * (q.den : Nat) ≠ 0 := Int.mul_ne_zero (den_ne p) (den_ne q)
theorem pure_Frac_add : Pure sp_Frac_add t_Frac_add N_Frac_add := pure2 fun a b M E Q h => by
  obtain ⟨p, q, rfl, rfl, h1, h2, h⟩ := h
  simp only [t_Frac_add, startD, N_Frac_add, dVar, dC, dCons, dNil, dTup, dLst, dLstM, dBin, dUn, dCB, dCall, dB, dAnd, dOr, dNot, dAndV, dOrV, dNotV, dIf, dOrT, dAndT, dFld, dSlice, dPart, dNoPart, dStill, dFresh, dComp, dJoined, dJs, dFmt, dBM, dTruth, dYes, b1, b2, oAdd0, oSub0, oMul0, oDiv0, oMod0, oPow0, oCmpI, oIx0, bAbs, bInt, bBool, bStr, bLen, bMax, bMin, bDivmod, uNeg0, sSeq, sAsg, sIf, sRet, sRetN, sNext, sPar, sDrop, sNever, gNameD, gTupD, gsCons, gsNil, gt, stt, List.nil_append, List.cons_append, List.append_nil, truD, wipeD, bdName, List.map, List.length, List.replicate, Nat.reduceSub, Nat.reduceAdd, asO_fr, look_over, look_under, spC_Frac, p2, i2]
  refine ⟨mem0, mem0, mulOk_of h1.1 (den_lt h2), mem0, mem0, mulOk_of h2.1 (den_lt h1), mem0, mem0, mulOk_of (den_lt h1) (den_lt h2), dd_ne p q, dd_lt h1 h2, ?_⟩
  rw [add_eq]
  exact h
theorem len_Frac_add : ∀ ds M E Q, sp_Frac_add ds M E Q → ds.length = [("self" : Str), "other"].length := p2_len
theorem pure_Frac_sub : Pure sp_Frac_sub t_Frac_sub N_Frac_sub := pure2 fun a b M E Q h => by
  obtain ⟨p, q, rfl, rfl, h1, h2, h⟩ := h
  simp only [t_Frac_sub, startD, N_Frac_sub, dVar, dC, dCons, dNil, dTup, dLst, dLstM, dBin, dUn, dCB, dCall, dB, dAnd, dOr, dNot, dAndV, dOrV, dNotV, dIf, dOrT, dAndT, dFld, dSlice, dPart, dNoPart, dStill, dFresh, dComp, dJoined, dJs, dFmt, dBM, dTruth, dYes, b1, b2, oAdd0, oSub0, oMul0, oDiv0, oMod0, oPow0, oCmpI, oIx0, bAbs, bInt, bBool, bStr, bLen, bMax, bMin, bDivmod, uNeg0, sSeq, sAsg, sIf, sRet, sRetN, sNext, sPar, sDrop, sNever, gNameD, gTupD, gsCons, gsNil, gt, stt, List.nil_append, List.cons_append, List.append_nil, truD, wipeD, bdName, List.map, List.length, List.replicate, Nat.reduceSub, Nat.reduceAdd, asO_fr, look_over, look_under, spC_Frac, p2, i2]
  refine ⟨mem0, mem0, mulOk_of h1.1 (den_lt h2), mem0, mem0, mulOk_of h2.1 (den_lt h1), mem0, mem0, mulOk_of (den_lt h1) (den_lt h2), dd_ne p q, dd_lt h1 h2, ?_⟩
  rw [sub_eq]
  exact h
theorem len_Frac_sub : ∀ ds M E Q, sp_Frac_sub ds M E Q → ds.length = [("self" : Str), "other"].length := p2_len
theorem d_lt {p : Rat} {n : Nat} (h : Sz n p) (l : n ≤ 8000) : ((p.den : Nat) : Int).natAbs < 2 ^ 8000 := den_lt (h.mono l)
theorem pure_Frac_neg : Pure sp_Frac_neg t_Frac_neg N_Frac_neg := pure1 fun a M E Q h => by
  obtain ⟨p, rfl, h1, h⟩ := h
  simp only [t_Frac_neg, startD, N_Frac_neg, dVar, dC, dCons, dNil, dTup, dLst, dLstM, dBin, dUn, dCB, dCall, dB, dAnd, dOr, dNot, dAndV, dOrV, dNotV, dIf, dOrT, dAndT, dFld, dSlice, dPart, dNoPart, dStill, dFresh, dComp, dJoined, dJs, dFmt, dBM, dTruth, dYes, b1, b2, oAdd0, oSub0, oMul0, oDiv0, oMod0, oPow0, oCmpI, oIx0, bAbs, bInt, bBool, bStr, bLen, bMax, bMin, bDivmod, uNeg0, sSeq, sAsg, sIf, sRet, sRetN, sNext, sPar, sDrop, sNever, gNameD, gTupD, gsCons, gsNil, gt, stt, List.nil_append, List.cons_append, List.append_nil, truD, wipeD, bdName, List.map, List.length, List.replicate, Nat.reduceSub, Nat.reduceAdd, asO_fr, look_over, look_under, spC_Frac, p2, i2]
  refine ⟨mem0, mem0, den_ne p, d_lt h1 (by decide), ?_⟩
  rw [neg_eq]
  exact h
theorem len_Frac_neg : ∀ ds M E Q, sp_Frac_neg ds M E Q → ds.length = [("self" : Str)].length := p1_len
theorem pure_Frac_abs : Pure sp_Frac_abs t_Frac_abs N_Frac_abs := pure1 fun a M E Q h => by
  obtain ⟨p, rfl, h1, h⟩ := h
  simp only [t_Frac_abs, startD, N_Frac_abs, dVar, dC, dCons, dNil, dTup, dLst, dLstM, dBin, dUn, dCB, dCall, dB, dAnd, dOr, dNot, dAndV, dOrV, dNotV, dIf, dOrT, dAndT, dFld, dSlice, dPart, dNoPart, dStill, dFresh, dComp, dJoined, dJs, dFmt, dBM, dTruth, dYes, b1, b2, oAdd0, oSub0, oMul0, oDiv0, oMod0, oPow0, oCmpI, oIx0, bAbs, bInt, bBool, bStr, bLen, bMax, bMin, bDivmod, uNeg0, sSeq, sAsg, sIf, sRet, sRetN, sNext, sPar, sDrop, sNever, gNameD, gTupD, gsCons, gsNil, gt, stt, List.nil_append, List.cons_append, List.append_nil, truD, wipeD, bdName, List.map, List.length, List.replicate, Nat.reduceSub, Nat.reduceAdd, asO_fr, look_over, look_under, spC_Frac, p2, i2]
  refine ⟨mem0, mem0, den_ne p, d_lt h1 (by decide), ?_⟩
  rw [rabs_eq]
  exact h
theorem len_Frac_abs : ∀ ds M E Q, sp_Frac_abs ds M E Q → ds.length = [("self" : Str)].length := p1_len
theorem pure_Frac_bool : Pure sp_Frac_bool t_Frac_bool N_Frac_bool := pure1 fun a M E Q h => by
  obtain ⟨p, rfl, h⟩ := h
  exact ⟨mem0, h⟩
theorem len_Frac_bool : ∀ ds M E Q, sp_Frac_bool ds M E Q → ds.length = [("self" : Str)].length := p1_len
/-! texts -/
theorem int_len {i : Int} {n : Nat} (h : i.natAbs < 2 ^ n) (hn : 0 < n) : (toString i : Str).length ≤ n + 1 := by
  have e := int_text_length_le hn (log2_lt h hn)
  rw [PySem.ofString_length]
  exact e
theorem cat_len (a b : Str) : (a ++ b).length = a.length + b.length := Str.length_append a b
theorem pure_Frac_str : Pure sp_Frac_str t_Frac_str N_Frac_str := pure1 fun a M E Q h => by
  obtain ⟨p, rfl, h1, h⟩ := h
  have l1 := log2_of (m := 1920) h1.1 (by decide) (by decide)
  have l2 := log2_of (m := 1920) (den_lt h1) (by decide) (by decide)
  have k1 := int_len h1.1 (by decide)
  have k2 := int_len (den_lt h1) (by decide)
  simp only [t_Frac_str, startD, N_Frac_str, dVar, dC, dCons, dNil, dTup, dLst, dLstM, dBin, dUn, dCB, dCall, dB, dAnd, dOr, dNot, dAndV, dOrV, dNotV, dIf, dOrT, dAndT, dFld, dSlice, dPart, dNoPart, dStill, dFresh, dComp, dJoined, dJs, dFmt, dBM, dTruth, dYes, b1, b2, oAdd0, oSub0, oMul0, oDiv0, oMod0, oPow0, oCmpI, oIx0, bAbs, bInt, bBool, bStr, bLen, bMax, bMin, bDivmod, uNeg0, sSeq, sAsg, sIf, sRet, sRetN, sNext, sPar, sDrop, sNever, gNameD, gTupD, gsCons, gsNil, gt, stt, List.nil_append, List.cons_append, List.append_nil, truD, wipeD, bdName, List.map, List.length, List.replicate, Nat.reduceSub, Nat.reduceAdd, asO_fr, look_over, look_under, oEqP, toPy_int, eqv_int, sh_int, cat_len]
  unfold wordOf at h
  refine ⟨mem0, trivial, trivial, _, rfl, ?_⟩
  by_cases hd : p.den = 1
  · rw [if_pos (decide_eq_true (by omega))]
    rw [if_pos hd] at h
    exact ⟨mem0, l1, h⟩
  · rw [if_neg (by simp; omega)]
    rw [if_neg hd] at h
    have k0 : Str.empty.length = 0 := rfl
    have k3 : ("/" : Str).length = 1 := by decide +kernel
    have k4 : sizeLine = 16777216 := sizeLine_eq
    refine ⟨mem0, l1, by omega, by omega, mem0, l2, by omega, h⟩
theorem len_Frac_str : ∀ ds M E Q, sp_Frac_str ds M E Q → ds.length = [("self" : Str)].length := p1_len
theorem word_len {p : Rat} (h : Sz 1900 p) : (wordOf p).length ≤ 4000 := by
  have k1 := int_len h.1 (by decide)
  have k2 := int_len (den_lt h) (by decide)
  have k0 : Str.empty.length = 0 := rfl
  have k3 : ("/" : Str).length = 1 := by decide +kernel
  unfold wordOf
  split
  · omega
  · simp only [cat_len]; omega
theorem tl0 {α : Type} {a : α} : tl [(0, a)] 0 = some a := rfl
theorem pure_Frac_repr : Pure sp_Frac_repr t_Frac_repr N_Frac_repr := pure1 fun a M E Q h => by
  obtain ⟨p, rfl, h1, h⟩ := h
  have k1 := word_len h1
  have k0 : Str.empty.length = 0 := rfl
  have k3 : ("Frac('" : Str).length = 6 := by decide +kernel
  have k5 : ("')" : Str).length = 2 := by decide +kernel
  have k4 : sizeLine = 16777216 := sizeLine_eq
  simp only [t_Frac_repr, startD, N_Frac_repr, dVar, dC, dCons, dNil, dTup, dLst, dLstM, dBin, dUn, dCB, dCall, dB, dAnd, dOr, dNot, dAndV, dOrV, dNotV, dIf, dOrT, dAndT, dFld, dSlice, dPart, dNoPart, dStill, dFresh, dComp, dJoined, dJs, dFmt, dBM, dTruth, dYes, b1, b2, oAdd0, oSub0, oMul0, oDiv0, oMod0, oPow0, oCmpI, oIx0, bAbs, bInt, bBool, bStr, bLen, bMax, bMin, bDivmod, uNeg0, sSeq, sAsg, sIf, sRet, sRetN, sNext, sPar, sDrop, sNever, gNameD, gTupD, gsCons, gsNil, gt, stt, List.nil_append, List.cons_append, List.append_nil, truD, wipeD, bdName, List.map, List.length, List.replicate, Nat.reduceSub, Nat.reduceAdd, uOwnS, uOwn, asO_fr, tl0, sp_Frac_str, p1, f1_fr, cat_len]
  exact ⟨by omega, h1, _, rfl, by omega, by omega, by omega, h⟩
theorem len_Frac_repr : ∀ ds M E Q, sp_Frac_repr ds M E Q → ds.length = [("self" : Str)].length := p1_len
end TS
namespace TS
open PySem PySem.Spec PyProof.Rows L2
section
variable {P : Program} {w : World} {K : Fg} {mg : Str → Option Value} {base : Heap} {ca : Ca} {k : Nat} {f : Addr} {x qual : Str} {params : Arguments} {body : List Stmt} {scope : Scope} {fd : FuncData} {N ps : List Str} {t : DTS} {sp : DSp} {dvs dvs' : List V} {dds : List D} {kws : List (Str × V)}
/-- a def by its body; hbd: what its last parameters are where they are not given -/
theorem fnD_by (G : FunD K x qual params body scope dvs kws f fd) (S : FnScope N ps scope) (hbd : ∃ ds, Vals dvs' ds ∧ Binds K fd ps ds) (hr : ∀ F, RepL K ca F dds dvs') (len : ∀ ds M E Q, sp ds M E Q → ds.length = ps.length)
    (hd : ∀ (cdv : Value) (A : Around) (outer : List Env) (s : Shared) (H : Hp) (E : XK), Room k (A.deeper (envOfC qual scope s.heap.objs.size f cdv)) →
      DPSs (cxOf (L2.CX P w) P w K mg base N qual scope f cdv A outer s H E) ca (WB E) body t)
    (hp : Pure sp t N) : FnD P w K mg base ca (k + 1) f dds sp :=
  let ⟨ds, h1, h2⟩ := hbd
  ⟨fd, ps, ds, dvs', fn_okX G S len hd hp, h2, h1, hr⟩
theorem rep_nil : ∀ F : Hp, RepL K ca F [] [] := fun _ => rfl
end
/-! ### functions at addresses of one's own (a property's getter) -/
def fnWA (K : Fg) (a : Addr) : He.FnW := match K.lookup a with
  | some ⟨_, _, .func fd, _⟩ => some (fd.name, fd.qualname, fd.params, fd.body, fd.scope, fd.globals, fd.closure, fd.builtins)
  | _ => none
def okA (K : Fg) (a : Addr) (d : He.DefD) : Bool := PySem.W.keepIn K (.ref a) && (match K.lookup a with
  | some ⟨_, _, .func fd, _⟩ => PySem.W.codeIn K fd.code d.qual && (He.dflB K fd.defaults (d.dvs K) && He.kwdB K fd.kwdefaults (d.kws K))
  | _ => false)
theorem funA {K : Fg} {a : Addr} {d : He.DefD} (e : fnWA K a = d.val) (c : okA K a d = true) : ∃ fd, FunD K d.name d.qual d.params d.body d.scope (d.dvs K) (d.kws K) a fd := by
  obtain ⟨kp, c2⟩ := He.ba c
  unfold fnWA at e
  cases q : K.lookup a with
  | none =>
    rw [q] at c2
    cases c2
  | some o =>
    obtain ⟨oc, od, dt, osl⟩ := o
    rw [q] at c2 e
    cases dt with
    | func fd =>
      obtain ⟨n1, n2, n3, n4, n5, n6, n7, n8, n9, n10, n11, n12, n13, n14, n15⟩ := fd
      have e2 : (some (n1, n2, n3, n4, n5, n6, n7, n15) : He.FnW) = some (d.name, d.qual, d.params, .stmts d.body, d.scope, mainGlobals, [], builtinsNs) := e
      simp only [Option.some.injEq, Prod.mk.injEq] at e2
      obtain ⟨h1, h2, h3, h4, h5, h6, h7, h8⟩ := e2
      subst h1 h2 h3 h4 h5 h6 h7 h8
      have c3 : (PySem.W.codeIn K n13 d.qual && (He.dflB K n8 (d.dvs K) && He.kwdB K n9 (d.kws K))) = true := c2
      obtain ⟨k1, k2⟩ := He.ba c3
      obtain ⟨k3, k4⟩ := He.ba k2
      exact ⟨_, ⟨oc, od, n8, n9, n10, n11, n12, n13, n14, osl, rfl, q, k1, He.dflB_ok k3, He.kwdB_ok k4⟩, kp⟩
    | _ => cases c2
/-! ### the head's Hook: facts, defs at addresses, checks of one's own -/
abbrev GT := (Fg → Addr) × He.DefD
abbrev AlP : Type := Bool × List He.FnW
def obsP (fa : List He.Fa) (gs : List GT) (ck : Fg → Bool) (K : Fg) : AlP := ((fa.all fun f => f.ok K) && ((gs.all fun q => okA K (q.1 K) q.2) && ck K), gs.map fun q => fnWA K (q.1 K))
def valP (gs : List GT) : AlP := (true, gs.map fun q => q.2.val)
structure SaysP (fa : List He.Fa) (gs : List GT) (ck : Fg → Bool) (K : Fg) : Prop where
  fact : ∀ f ∈ fa, f.ok K = true
  defs : ∀ q ∈ gs, ∃ fd, FunD K q.2.name q.2.qual q.2.params q.2.body q.2.scope (q.2.dvs K) (q.2.kws K) (q.1 K) fd
  ck : ck K = true
theorem saysP_of {fa : List He.Fa} {gs : List GT} {ck : Fg → Bool} {K : Fg} (h : obsP fa gs ck K = valP gs) : SaysP fa gs ck K := by
  obtain ⟨h1, h2⟩ := Prod.mk.inj h
  obtain ⟨a1, a2⟩ := He.ba h1
  obtain ⟨a3, a4⟩ := He.ba a2
  refine ⟨fun f hf => List.all_eq_true.mp a1 f hf, fun q hq => ?_, a4⟩
  obtain ⟨i, hi, e⟩ := List.mem_iff_getElem.mp hq
  have z : (gs.map fun q => fnWA K (q.1 K))[i]? = (gs.map fun q => q.2.val)[i]? := by rw [h2]
  rw [List.getElem?_map, List.getElem?_map, List.getElem?_eq_getElem hi, e] at z
  exact funA (Option.some.inj z) (List.all_eq_true.mp a3 q hq)
def hookP (n : Nat) (fa : List He.Fa) (gs : List GT) (ck : Fg → Bool) : PySem.W.Hook where
  α := AlP
  obs := fun s => obsP fa gs ck (He.frG s.heap.get? (He.asD s.heap.get? n ++ [cStatics]))
  val := fun _ => valP gs
  says := fun _ h => ∃ K : Fg, K.In h ∧ SaysP fa gs ck K
  of := fun _ _ e => ⟨_, He.frG_in, saysP_of e⟩
  keeps := fun _ _ _ ⟨K, hK, c⟩ k => ⟨K, PySem.W.Frag.In.keeps hK k, c⟩
def obP (n : Nat) (fa : List He.Fa) (gs : List GT) (ck : Fg → Bool) (s : PySem.W.SharedT) : AlP := obsP fa gs ck (He.frG (HandSHeadRun.getT s) (He.asD (HandSHeadRun.getT s) n ++ [cStatics]))
theorem obP_eq {n : Nat} {fa : List He.Fa} {gs : List GT} {ck : Fg → Bool} (s : PySem.W.SharedT) : obP n fa gs ck s = (hookP n fa gs ck).obs s.abs := by
  have e : HandSHeadRun.getT s = s.abs.heap.get? := funext (HandSHeadRun.getT_eq s)
  unfold obP
  rw [e]
  rfl
section
variable {fa : List He.Fa} {gs : List GT} {ck : Fg → Bool} {K : Fg}
theorem SaysP.fc (c : SaysP fa gs ck K) (i : Nat) {f : He.Fa} (h : fa[i]? = some f := by rfl) : f.ok K = true := c.fact f (List.mem_of_getElem? h)
theorem SaysP.df (c : SaysP fa gs ck K) (i : Nat) {q : GT} (h : gs[i]? = some q := by rfl) : ∃ fd, FunD K q.2.name q.2.qual q.2.params q.2.body q.2.scope (q.2.dvs K) (q.2.kws K) (q.1 K) fd := c.defs q (List.mem_of_getElem? h)
end
/-- the checks, one by one -/
def ckAll (l : List (Fg → Bool)) (K : Fg) : Bool := l.all fun c => c K
theorem ckAll_at {l : List (Fg → Bool)} {K : Fg} (h : ckAll l K = true) (i : Nat) {c : Fg → Bool} (e : l[i]? = some c := by rfl) : c K = true := List.all_eq_true.mp h c (List.mem_of_getElem? e)
/-- the law's promise of the script -/
theorem law_sp {K : Fg} {ca : Ca} {sp : DSp} (h : ∀ (ns : List Int) (M : Mem), ns.length ≤ 63 → sp [.lst (ns.map D.int)] M (fun _ _ _ => False) fun d _ => d = .bl true) (H F : Hp) (a : Addr) (ns : List Int) (hl : ns.length ≤ 63) (hF : Ext F H) (hR : ∀ b o, F b = some o → Rg o) (hS : SqL K F a (ns.map V.int)) (tb : LamX.Tabs ca.T H) :
    toSp K ca sp [.ref a] H (fun v _ => v = .bl true) fun _ _ _ => False :=
  ⟨fun _ => none, F, fun _ => none, [.lst (ns.map D.int)], _, _, ⟨.ref a, [], rfl, ⟨a, ns.map V.int, rfl, hS, RepL.ints ns⟩, rfl⟩, ⟨hF, fun _ _ z => (by cases z), fun _ _ _ => rfl, fun _ _ z => (by cases z), tb, hR, fun _ _ z => (by cases z)⟩, h ns _ hl, fun d M' F' v H' e _ r _ => by subst e; exact r, fun _ _ _ _ _ _ z _ _ _ => z.elim⟩
theorem noX {P : Program} {w : World} (H : Hp) (s : Shared) (e : Value) (s' : Shared) (h : L2.CX P w [] H s (fun _ _ _ => False) e s') : False := by
  obtain ⟨_, _, _, _, _, _, _, _, _, _, _, _, z⟩ := h
  exact z
/-- a law over the head by facts, exceptions taken by CX; cs: the code objects of the defs that make lambdas, with their tables -/
theorem walk_ofT {l : PySem.W.OpenLaw} {n k : Nat} {q : Program} {loose : List Str} {XP : (Str → Option Value) → Heap → Prop} {YP : World → Heap → Prop} {d : DefRec} {x : Str}
    (hn : l.most = some n) (hn2 : n ≤ sizeLine) (hdf : d.params.defaults = []) (hr : Room k callerA)
    (F : ∀ (w : World) (mg : Str → Option Value) (fa : Addr) (h : Heap), YP w h → h.Ns mainGlobals mg → mg d.name = some (.ref fa) →
      ∃ (K : Fg) (fd : FuncData) (cs : List (Addr × Addr)) (sp : Sp), K.In h ∧ CodesAt K h cs ∧ (∀ (s : Shared) (u : Value), BindsTo s fd ⟨[u], []⟩ [(x, u)]) ∧
        (∀ (H F : Hp) (a : Addr) (ns : List Int), ns.length ≤ n → (∀ p ∈ cs, H p.2 = some (.tbl #[])) → Ext F H → (∀ b o, F b = some o → Rg o) → SqL K F a (ns.map V.int) → sp [.ref a] H (fun v _ => v = .bl true) fun _ _ _ => False) ∧
        ∀ base : Heap, K.In base → base.Ns mainGlobals mg → (∀ p ∈ cs, LamX.TabB base mg p.1 p.2) → FnOk l.prog w K mg base (L2.CX l.prog w) k fa fd [x] sp) :
    PySem.W.WalkO q loose XP YP l.row.toRowW d [] (fun f vs => PySem.call f vs) := by
  refine Att.attach_call hn hdf fun w s₀ s₁ mg mb fa o pm cd doc a vs ns G Y ho hd hcd hmg hobj hints hlen hg => ?_
  obtain ⟨K, fd, cs, sp, KX, hcs, hb, hsp, hF⟩ := F w mg fa _ Y G.T.g hmg
  exact law_goT KX G.T.g G.T.b G.T.builtins G.T.nolimit hg hcs G.T.bmain hobj hints (Nat.le_trans hlen hn2) hr hF hb (fun H F hT hE hR hS => hsp H F a ns hlen hT hE hR hS) fun H e s' h => noX H s₁ e s' h
end TS
namespace TSW
open PySem PySem.W PyProof.Rows
section
variable {prog : Program} {w : World} {A : Around} {E : Value → Shared → Prop} {s : Shared} {h₀ : Heap} {L : Addr} {m : Str → Option Value} {K : Frag} {x C : Addr} {ox : Obj} {od : Option Obj}
theorem bool_K0 {Q : Value → Shared → Prop} (F : Fr h₀ L s.heap m) (X₀ : K.In h₀) (I : InstAt s.heap x ox C od) (hs : findIn K (.ref C) "__bool__" = some none) (hl : findIn K (.ref C) "__len__" = some none)
    (h : Q (.bool true) s) : wpAny (model prog w) A (call (.type "bool") [.ref x]) Q E s := by
  refine callType_codes (T := "bool") (Bi := Builtin.«object.__init__») (Q₁ := fun r s₁ => ∃ c, r = .bool c ∧ Q r s₁) PySem.F.called_bool (PySem.F.typeCall_bool_1 _) PySem.F.entry_object_init ?_ ?_
  · refine codeAny_of_tree ?_
    show wpAny _ A.in1.in1 (do checkBuiltinCall "bool.__new__" ⟨[.type "bool", .ref x], []⟩; again (.builtin "bool.__new__" ⟨[.type "bool", .ref x], []⟩)) _ _ s
    refine wpAny_bind (wpAny_of_eq (PySem.F.newCall_bool_1 _) (wpAny_pure ⟨plainId_quiet (by decide +kernel) _, codeAny_builtin PySem.F.entry_bool_new ?_⟩))
    rw [Around.under_plainId (by decide +kernel) _]
    unfold Builtin.«bool.__new__»
    refine wpAny_bind (wpAny_pure ?_)
    refine wpAny_bind (wpAny_of_eq PySem.F.conv_sub_bool ?_)
    refine wpAny_bind (wpAny_pure ?_)
    refine wpAny_bind (truthy_K0 F X₀ I hs hl ?_)
    exact wpAny_pure ⟨true, rfl, h⟩
  · rintro obj s₁ ⟨c, rfl, hq⟩
    exact ⟨PySem.typeIs_bool _ _, PySem.F.args_object_init_2 _ _, object_init_meets PySem.F.called_bool.init.lookup PySem.F.called_bool.made (by decide) prog w A.in1 _ s₁ ⟨PySem.typeIs_bool _ _, rfl, hq⟩⟩
end
end TSW
namespace TS
open PySem PySem.Spec PyProof.Rows L2
/-! ### tables over some classes -/
def tlm {α : Type} (cs : List Nat) (a : α) : Nat → Option α := fun c => if c ∈ cs then some a else none
theorem tlm_one {α : Type} {cs : List Nat} {k : Nat} {a b : α} (h : tlm cs a k = some b) : k ∈ cs ∧ b = a := by
  unfold tlm at h
  split at h
  · cases h; exact ⟨by assumption, rfl⟩
  · cases h
theorem tlm_in {α : Type} {cs : List Nat} {k : Nat} {a : α} (h : k ∈ cs) : tlm cs a k = some a := if_pos h
section
variable {P : Program} {w : World} {K : Fg} {mg : Str → Option Value} {base : Heap} {ca : Ca} {k c : Nat} {f C p : Addr} {x m : Str} {sp spC : DSp} {dds : List D} {cs : List Nat}
abbrev MtsX (P : Program) (w : World) (K : Fg) (mg : Str → Option Value) (base : Heap) (ca : Ca) (k : Nat) (cs : List Nat) (m : Str) (sp : DSp) : Prop := ∀ c ∈ cs, AtX P w K mg base fun X => Mt X ca k c m [] sp
theorem atm_mt (h : MtsX P w K mg base ca k cs m sp) : AtX P w K mg base fun X => MtOk X ca k m (tlm cs (sp, [])) := by
  rintro X rfl rfl rfl rfl rfl c' sp' dds' e
  obtain ⟨hc, e2⟩ := tlm_one e
  obtain ⟨rfl, rfl⟩ := Prod.mk.inj e2
  exact h _ hc _ rfl rfl rfl rfl rfl
theorem atm_m (h : MtsX P w K mg base ca k cs m sp) : AtX P w K mg base fun X => MOk X ca k m (tlm cs sp) := by
  rintro X rfl rfl rfl rfl rfl c' sp' e
  obtain ⟨hc, rfl⟩ := tlm_one e
  exact h _ hc _ rfl rfl rfl rfl rfl
theorem atm_own (h : MtsX P w K mg base ca k cs m sp) (sf : ∀ c ∈ cs, PySem.W.selfFirst K (ca c) = true) : AtX P w K mg base fun X => OwnOk X ca k m (tlm cs sp) := by
  rintro X rfl rfl rfl rfl rfl c' sp' e
  obtain ⟨hc, rfl⟩ := tlm_one e
  exact ⟨h _ hc _ rfl rfl rfl rfl rfl, sf _ hc⟩
theorem atm_cmp {ts : List Tg} (h : MtsX P w K mg base ca k cs m sp) (ns : ∀ c ∈ cs, NoSubs K ca c ts) : AtX P w K mg base fun X => CmpOwnOk X ca k m (tlm cs sp) ts := by
  rintro X rfl rfl rfl rfl rfl c' sp' e
  obtain ⟨hc, rfl⟩ := tlm_one e
  exact ⟨h _ hc _ rfl rfl rfl rfl rfl, ns _ hc⟩
theorem atm_ne {ts : List Tg} (h : MtsX P w K mg base ca k cs "__eq__" sp) (ns : ∀ c ∈ cs, NoSubs K ca c ts) (hn : ∀ c ∈ cs, PySem.W.findIn K (.ref (ca c)) "__ne__" = some (some (.builtin "object.__ne__")) ∧ PySem.W.mroIn K (ca c) (.type "object") = some true) : AtX P w K mg base fun X => NeOwnOk X ca k (tlm cs sp) ts := by
  rintro X rfl rfl rfl rfl rfl c' sp' e
  obtain ⟨hc, rfl⟩ := tlm_one e
  exact ⟨h _ hc _ rfl rfl rfl rfl rfl, ns _ hc, hn _ hc⟩
theorem atm_pr {g : Addr} (cl : ∀ c ∈ cs, Cls K (ca c) ∧ PropOf K (ca c) x (prA K (ca c) x) g) (G : FnD P w K mg base ca k g [] sp) : AtX P w K mg base fun X => PrOk X ca k x (tlm cs sp) := by
  rintro X rfl rfl rfl rfl rfl c' sp' e
  obtain ⟨hc, rfl⟩ := tlm_one e
  exact ⟨(cl _ hc).1, _, g, (cl _ hc).2, G⟩
end
/-! ### static methods at the class -/
structure SmAt (K : Fg) (C p f : Addr) (m : Str) : Prop where
  rd : PySem.W.readsIn K C (.type "type") = true
  ty : PySem.W.typeIn K (.ref C) = some (.type "type")
  ga : PySem.W.specialIn K (.ref C) "__getattribute__" = some (some (.builtin "type.__getattribute__"))
  fc : PySem.W.findCls K (.ref C) (.type "type") m = some (.get (.builtin "staticmethod.__get__") (.ref p) .none (.ref C))
  rc : ∃ rest, PySem.W.recIn K p "staticmethod" = some (.ref f :: rest)
  kp : PySem.W.keepIn K (.ref f) = true
structure SmX (X : Cx) (ca : Ca) (k c : Nat) (m : Str) (sp : DSp) : Prop where
  ex : ∃ p f, SmAt X.K (ca c) p f m ∧ FnX X ca k f [] sp
def dSm (sp : DSp) (t : DTA) : DT := fun δ M E Q => t δ M E fun ds M1 => sp (ds ++ []) M1 (fun c fs M' => E c fs δ M') Q
section
variable {X : Cx} {ca : Ca} {W : WX} {j k c : Nat} {m x f : Str} {e o : Expr} {es : List Expr} {pos apos npos : Pos} {t : DTA} {sp : DSp} {te : DT}
theorem de_sm {pl : Sem Bool} (C : Ctx X j W) (hc : GC X ca x (.cls c)) (ok : SmX X ca k c m sp) (ha : DPA X ca W (e :: es) t) (hk : k ≤ j := by decide) (hg : Gl X x := by rfl) (hd : (x == ("__debug__" : Str)) = false := by decide)
    (hst : starEach (e :: es) X.env = (false, eval e X.env) :: starEach es X.env := by rfl) (hpl : (backTo pos (starEach es X.env)).any (·.1) = false := by rfl)
    (ht : eval (.Call (.Attribute (.Name x npos) m apos) (e :: es) [] pos) X.env = (do
      let ov ← eval (.Name x npos) X.env
      standAt apos.atName
      let (f, first) ← holding [ov] (getMethod ov m pl)
      callWith pos f first (backTo pos (starEach (e :: es) X.env)) (backToKw pos (keywordEach [] X.env))) := by rfl) :
    DE X ca W (.Call (.Attribute (.Name x npos) m apos) (e :: es) [] pos) (dSm sp t) := by
  refine ⟨fun pins s σ H R I ⟨U, F, M, δ, E, Q, S, h, c'⟩ => ?_⟩
  obtain ⟨p, f, sa, G⟩ := ok.ex
  have ho : DE X ca W (.Name x npos) (dC (.cls c)) := de_glob hc hg hd
  refine PySem.W.methodCall_KW (pl := pl) (thn (ho.run pins s σ H (fun v H1 => v = .ref (ca c) ∧ ∃ F1 M1, Stt X.K ca U W F1 M1 δ E σ H1 ∧ t δ M1 E (fun ds M2 => sp (ds ++ []) M2 (fun c fs M' => E c fs δ M') Q) ∧ Cl X.K ca U F1 Q R) I ⟨U, F, M, δ, E, fun d M1 => d = .cls c ∧ M1 = M, S, ⟨rfl, rfl⟩, fun d M1 F1 v H1 q ex rd hr => ?_⟩) fun u s1 ⟨v, H1, I1, rv, ev, F1, M1, S1, h1, c1⟩ => ?_) ht
  · obtain ⟨rfl, rfl⟩ := q
    exact ⟨rd, F1, M1, S.up ex hr, h, c'.up ex⟩
  · subst ev
    obtain rfl : u = Value.ref (ca c) := rv
    obtain ⟨mm, hF⟩ := I1.fr
    obtain ⟨rest, hrc⟩ := sa.rc
    refine PySem.W.method_of_cls hF I.ok.mod.kin sa.ga (PySem.W.cls_sm hF I.ok.mod.kin sa.ty sa.rd sa.fc hrc rfl ?_)
    have I2 := I1.tok (s1.toks + 1)
    refine PySem.W.callWith_K (first := []) (h₀ := X.base) I.ok.mod.kin sa.kp (thn (ha.run pos pins _ σ H1 (fun vs H2 => ∃ F2 M2 ds, Stt X.K ca U W F2 M2 δ E σ H2 ∧ RepL X.K ca F2 ds vs ∧ sp (ds ++ []) M2 (fun c fs M' => E c fs δ M') Q ∧ Cl X.K ca U F2 Q R) I2 ?_) fun us s2 ⟨ws, H2, I3, r, F2, M2, ds, S2, rl, hs, c2⟩ => ⟨I3.kIn, ?_⟩) hst hpl
    · exact liftA_of S1 h1 fun ds M2 F2 vs H2 h2 e2 r2 g2 => ⟨F2, M2, ds, S1.up e2 g2, r2, h2, c1.up e2⟩
    · exact run_fnD (us := us) (vs := ws) (ds := ds) ⟨C.room.mono hk, rfl⟩ G C.tk I3 S2 r rl hs c2
/-! ### a class's constant, by an object and by the class -/
structure CvAt (K : Fg) (C : Addr) (f : Str) (u : Value) : Prop where
  at_ : PySem.W.findIn K (.ref C) f = some (some u)
  sp : PySem.W.specialIn K u "__get__" = some none
  hi : PySem.W.handedIn u = true
  cp : PySem.W.copiedNames.contains f = false
def CvOk (X : Cx) (ca : Ca) (f : Str) (T : Nat → Option D) : Prop := ∀ c d, T c = some d → Cls X.K (ca c) ∧ ∃ v u, CvAt X.K (ca c) f u ∧ RelV v u ∧ ∀ F, Rep X.K ca F d v
def dCv (T : Nat → Option D) (f : Str) (te : DT) : DT := fun δ M E Q => te δ M E fun d M1 => match asO M1 d with
  | some (c, fs) => fs.lookup f = none ∧ (match T c with | some v => Q v M1 | none => False)
  | none => False
theorem de_cv {T : Nat → Option D} (ok : CvOk X ca f T) (he : DE X ca W e te) (hb : attributeBase e f X.env (eval e X.env) = eval e X.env := by rfl) : DE X ca W (.Attribute e f pos) (dCv T f te) := by
  refine ⟨fun pins s σ H R I ⟨U, F, M, δ, E, Q, S, h, c⟩ => ?_⟩
  refine attr_of hb (thn (he.run pins s σ H (fun x H1 => ∃ F1 M1 d, Stt X.K ca U W F1 M1 δ E σ H1 ∧ Rep X.K ca F1 d x ∧ (match asO M1 d with
    | some (c, fs) => fs.lookup f = none ∧ (match T c with | some v => Q v M1 | none => False)
    | none => False) ∧ Cl X.K ca U F1 Q R) I ?_) fun u s1 ⟨x, H1, I1, rx, F1, M1, d, S1, rd, h1, c1⟩ => ?_)
  · exact lift_of S h fun d M1 F1 v H1 h1 e1 r1 g1 => ⟨F1, M1, d, S.up e1 g1, r1, h1, c.up e1⟩
  · cases eo : asO M1 d with
    | none => rw [eo] at h1; exact h1.elim
    | some p =>
      obtain ⟨k', fs⟩ := p
      rw [eo] at h1
      obtain ⟨hl, h1⟩ := h1
      cases et : T k' with
      | none => rw [et] at h1; exact h1.elim
      | some dv =>
        rw [et] at h1
        obtain ⟨a, dx, vs, ev, ha, rf⟩ := asO_ok S1.hr rd eo
        subst ev
        obtain rfl : u = Value.ref a := rx
        obtain ⟨cl, v, u', cv, rv, rp⟩ := ok k' dv et
        obtain ⟨mA, O, hlk, _⟩ := ins_get I1.hok ha
        obtain ⟨od, J, hod⟩ := O.look
        have hn : PySem.W.lookIn f od = some none := by
          have e1 := hod f
          have e2 := hlk f
          rw [rf.look_none hl] at e2
          cases hm : mA f with
          | none => exact e1.trans (congrArg some hm)
          | some z => rw [hm] at e2; first | exact e2.elim | cases e2
        have hp := PySem.W.plainGet_of (cl.get f)
        refine PySem.W.get_value I1.kIn J hp.1 (PySem.W.findObj_cls cl.hd cv.at_ cv.sp cv.hi cv.cp hn) cv.hi ⟨v, H1, I1.tok (s1.toks + 1), rv, c1 _ _ _ _ _ h1 Ext.rfl' (rp F1) S1.hr⟩
structure CcX (X : Cx) (ca : Ca) (c : Nat) (f : Str) (d : D) : Prop where
  rd : PySem.W.readsIn X.K (ca c) (.type "type") = true
  ty : PySem.W.typeIn X.K (.ref (ca c)) = some (.type "type")
  ex : ∃ v u, PySem.W.findCls X.K (.ref (ca c)) (.type "type") f = some (.val u) ∧ PySem.W.handedIn u = true ∧ RelV v u ∧ ∀ F, Rep X.K ca F d v
theorem de_cc {d : D} (hc : GC X ca x (.cls c)) (ok : CcX X ca c f d) (hg : Gl X x := by rfl) (hd : (x == ("__debug__" : Str)) = false := by decide) (hb : attributeBase (.Name x npos) f X.env (eval (.Name x npos) X.env) = eval (.Name x npos) X.env := by rfl) : DE X ca W (.Attribute (.Name x npos) f pos) (dC d) := by
  refine ⟨fun pins s σ H R I ⟨U, F, M, δ, E, Q, S, h, c'⟩ => ?_⟩
  have ho : DE X ca W (.Name x npos) (dC (.cls c)) := de_glob hc hg hd
  refine attr_of hb (thn (ho.run pins s σ H (fun v H1 => v = .ref (ca c) ∧ ∃ F1, Stt X.K ca U W F1 M δ E σ H1 ∧ Cl X.K ca U F1 Q R) I ⟨U, F, M, δ, E, fun d M1 => d = .cls c ∧ M1 = M, S, ⟨rfl, rfl⟩, fun d M1 F1 v H1 q ex rd hr => ?_⟩) fun u s1 ⟨v, H1, I1, rv, ev, F1, S1, c1⟩ => ?_)
  · obtain ⟨rfl, rfl⟩ := q
    exact ⟨rd, F1, S.up ex hr, c'.up ex⟩
  · subst ev
    obtain rfl : u = Value.ref (ca c) := rv
    obtain ⟨mm, hF⟩ := I1.fr
    obtain ⟨v', u', fc, hi, rv', rp⟩ := ok.ex
    refine PySem.W.cls_val hF I.ok.mod.kin ok.ty ok.rd fc hi ⟨v', H1, I1.tok (s1.toks + 1), rv', c1 _ _ _ _ _ h Ext.rfl' (rp F1) S1.hr⟩
/-! ### bool of an object without __bool__ and __len__ -/
def uTru (cs : List Nat) (d : D) (M : Mem) (E : XD) (Q : QD) : Prop := match asO M d with
  | some (c, _) => c ∈ cs ∧ Q (.bl true) M
  | none => False
structure TruOk (X : Cx) (ca : Ca) (cs : List Nat) : Prop where
  ok : ∀ c ∈ cs, PySem.W.findIn X.K (.ref (ca c)) "__bool__" = some none ∧ PySem.W.findIn X.K (.ref (ca c)) "__len__" = some none
theorem call_boolO {cs : List Nat} (ok : TruOk X ca cs) : CallD X ca W (.type "bool") (b1 (uTru cs)) := .one fun pins s σ H U F M δ E Q R d v u I S r ru h c => by
  unfold uTru at h
  cases eo : asO M d with
  | none => rw [eo] at h; exact h.elim
  | some p =>
    obtain ⟨k', fs⟩ := p
    rw [eo] at h
    obtain ⟨hc, h⟩ := h
    obtain ⟨a, dx, vs, ev, ha, rf⟩ := asO_ok S.hr r eo
    subst ev
    obtain rfl : u = Value.ref a := ru
    obtain ⟨od, J⟩ := inst_of I ha
    obtain ⟨m, hF⟩ := I.fr
    obtain ⟨h1, h2⟩ := ok.ok _ hc
    exact TSW.bool_K0 hF I.ok.mod.kin J h1 h2 ⟨.bl true, H, I, rfl, c _ _ _ _ _ h Ext.rfl' rfl S.hr⟩
theorem op_isnB : OpD X ca W (compareOp .IsNot) (oIsB fun b => !b) := fun pins s σ H U F M δ E Q R dx dy x y v u I S rx ry rv ru ho c => by
  cases dx <;> cases dy <;> first | exact ho.elim | skip
  cases rx; cases ry
  cases rv; cases ru
  refine wpAny_isNot_plain rfl ?_
  refine ⟨.bl _, H, I, ?_, c _ _ _ _ _ ho Ext.rfl' rfl S.hr⟩
  rename_i a b
  cases a <;> cases b <;> rfl
end
end TS
namespace TS
open PySem PySem.Spec PyProof.Rows L2
/-! ### checks of one's own: static methods, constants of classes -/
def isTyT (v : Option Value) : Bool := match v with | some (.type t) => decide (t = "type") | _ => false
theorem isTyT_ok {v : Option Value} (h : isTyT v = true) : v = some (.type "type") := by
  unfold isTyT at h
  split at h
  · rw [of_decide_eq_true h]
  · cases h
def smP (K : Fg) (C : Addr) (m : Str) : Addr := match PySem.W.findCls K (.ref C) (.type "type") m with
  | some (.get _ (.ref p) _ _) => p
  | _ => 0
def smF (K : Fg) (C : Addr) (m : Str) : Addr := match PySem.W.recIn K (smP K C m) "staticmethod" with
  | some (.ref f :: _) => f
  | _ => 0
def isSm (C p : Addr) (r : Option PySem.W.CFound) : Bool := match r with
  | some (.get (.builtin g) (.ref p') .none (.ref C')) => decide (g = "staticmethod.__get__") && (decide (p' = p) && decide (C' = C))
  | _ => false
theorem isSm_ok {C p : Addr} {r : Option PySem.W.CFound} (h : isSm C p r = true) : r = some (.get (.builtin "staticmethod.__get__") (.ref p) .none (.ref C)) := by
  unfold isSm at h
  split at h
  · obtain ⟨h1, h⟩ := He.ba h
    obtain ⟨h2, h3⟩ := He.ba h
    rw [of_decide_eq_true h1, of_decide_eq_true h2, of_decide_eq_true h3]
  · cases h
def isRec (f : Addr) (r : Option (List Value)) : Bool := match r with | some (.ref g :: _) => decide (g = f) | _ => false
theorem isRec_ok {f : Addr} {r : Option (List Value)} (h : isRec f r = true) : ∃ rest, r = some (.ref f :: rest) := by
  unfold isRec at h
  split at h
  · exact ⟨_, by rw [of_decide_eq_true h]⟩
  · cases h
def ckSm (K : Fg) (C : Addr) (m : Str) : Bool := PySem.W.readsIn K C (.type "type") && (isTyT (PySem.W.typeIn K (.ref C)) && (He.eqO (PySem.W.specialIn K (.ref C) "__getattribute__") (some (some (.builtin "type.__getattribute__"))) &&
  (isSm C (smP K C m) (PySem.W.findCls K (.ref C) (.type "type") m) && (isRec (smF K C m) (PySem.W.recIn K (smP K C m) "staticmethod") && PySem.W.keepIn K (.ref (smF K C m))))))
theorem ckSm_ok {K : Fg} {C : Addr} {m : Str} (h : ckSm K C m = true) : SmAt K C (smP K C m) (smF K C m) m := by
  obtain ⟨h1, h⟩ := He.ba h
  obtain ⟨h2, h⟩ := He.ba h
  obtain ⟨h3, h⟩ := He.ba h
  obtain ⟨h4, h⟩ := He.ba h
  obtain ⟨h5, h6⟩ := He.ba h
  exact ⟨h1, isTyT_ok h2, He.eqO_ok h3, isSm_ok h4, isRec_ok h5, h6⟩
theorem at_sm {P : Program} {w : World} {K : Fg} {mg : Str → Option Value} {base : Heap} {ca : Ca} {k c : Nat} {m : Str} {sp : DSp} (h : ckSm K (ca c) m = true) (G : FnD P w K mg base ca k (smF K (ca c) m) [] sp) : AtX P w K mg base fun X => SmX X ca k c m sp := by
  rintro X rfl rfl rfl rfl rfl
  exact ⟨_, _, ckSm_ok h, G⟩
def ckCv (K : Fg) (C : Addr) (f z : Str) : Bool := match PySem.W.findIn K (.ref C) f with
  | some (some (.str z' tk)) => decide (z' = z) && He.eqO (PySem.W.specialIn K (.str z' tk) "__get__") (some none)
  | _ => false
theorem ckCv_ok {K : Fg} {C : Addr} {f z : Str} (h : ckCv K C f z = true) (hc : PySem.W.copiedNames.contains f = false) : ∃ u, CvAt K C f u ∧ RelV (.str z) u := by
  unfold ckCv at h
  split at h
  · rename_i z' tk e
    obtain ⟨h1, h2⟩ := He.ba h
    have h1 := of_decide_eq_true h1
    subst h1
    exact ⟨_, ⟨e, He.eqO_ok h2, rfl, hc⟩, ⟨tk, rfl⟩⟩
  · cases h
def ckCc (K : Fg) (C : Addr) (f z : Str) : Bool := PySem.W.readsIn K C (.type "type") && (isTyT (PySem.W.typeIn K (.ref C)) && (match PySem.W.findCls K (.ref C) (.type "type") f with
  | some (.val (.str z' _)) => decide (z' = z)
  | _ => false))
theorem at_cc {P : Program} {w : World} {K : Fg} {mg : Str → Option Value} {base : Heap} {ca : Ca} {c : Nat} {f z : Str} (h : ckCc K (ca c) f z = true) : AtX P w K mg base fun X => CcX X ca c f (.str z) := by
  rintro X rfl rfl rfl rfl rfl
  obtain ⟨h1, h⟩ := He.ba h
  obtain ⟨h2, h3⟩ := He.ba h
  refine ⟨h1, isTyT_ok h2, ?_⟩
  split at h3
  · rename_i z' tk e
    have h3 := of_decide_eq_true h3
    subst h3
    exact ⟨.str z', _, e, rfl, ⟨tk, rfl⟩, fun _ => rfl⟩
  · cases h3
/-- constants by the class's number -/
def strT (l : List (Nat × Str)) : Nat → Option D := fun c => (l.lookup c).map D.str
theorem at_cv {P : Program} {w : World} {K : Fg} {mg : Str → Option Value} {base : Heap} {ca : Ca} {f : Str} {l : List (Nat × Str)} (hc : PySem.W.copiedNames.contains f = false) (h : ∀ c z, (c, z) ∈ l → Cls K (ca c) ∧ ckCv K (ca c) f z = true) : AtX P w K mg base fun X => CvOk X ca f (strT l) := by
  rintro X rfl rfl rfl rfl rfl c d e
  unfold strT at e
  cases q : l.lookup c with
  | none => rw [q] at e; cases e
  | some z =>
    rw [q] at e
    cases e
    have hm : ∀ l : List (Nat × Str), l.lookup c = some z → (c, z) ∈ l := by
      intro l
      induction l with
      | nil => intro q; cases q
      | cons a t ih =>
        obtain ⟨a1, a2⟩ := a
        intro q
        rw [List.lookup_cons] at q
        cases e : c == a1 with
        | true => rw [e] at q; cases q; rw [eq_of_beq e]; exact List.mem_cons_self ..
        | false => rw [e] at q; exact List.mem_cons_of_mem _ (ih q)
    obtain ⟨h1, h2⟩ := h c z (hm l q)
    obtain ⟨u, cv, r⟩ := ckCv_ok h2 hc
    exact ⟨h1, .str z, u, cv, r, fun _ => rfl⟩
def ckTru (K : Fg) (C : Addr) : Bool := He.eqO (PySem.W.findIn K (.ref C) "__bool__") (some none) && He.eqO (PySem.W.findIn K (.ref C) "__len__") (some none)
theorem at_tru {P : Program} {w : World} {K : Fg} {mg : Str → Option Value} {base : Heap} {ca : Ca} {cs : List Nat} (h : ∀ c ∈ cs, ckTru K (ca c) = true) : AtX P w K mg base fun X => TruOk X ca cs := by
  rintro X rfl rfl rfl rfl rfl
  exact ⟨fun c hc => by
    obtain ⟨h1, h2⟩ := He.ba (h c hc)
    exact ⟨He.eqO_ok h1, He.eqO_ok h2⟩⟩
/-- a method that is inherited: the same address -/
def ckMa (K : Fg) (C C' : Addr) (m : Str) : Bool := decide (He.ma K C m = He.ma K C' m)
theorem ckMa_ok {K : Fg} {C C' : Addr} {m : Str} (h : ckMa K C C' m = true) : He.ma K C m = He.ma K C' m := of_decide_eq_true h
def ckPg (K : Fg) (C C' : Addr) (m : Str) : Bool := decide (prG K C m = prG K C' m)
theorem ckPg_ok {K : Fg} {C C' : Addr} {m : Str} (h : ckPg K C C' m = true) : prG K C m = prG K C' m := of_decide_eq_true h
/-- what is so for some classes, by a check each -/
theorem each {Φ : Nat → Prop} : ∀ (cs : List Nat), (cs.foldr (fun c r => Φ c ∧ r) True) → ∀ c ∈ cs, Φ c
  | [], _, c, hc => by cases hc
  | d :: cs, ⟨h, t⟩, c, hc => by
    cases hc with
    | head => exact h
    | tail _ hc => exact each cs t c hc
end TS
namespace TS
open PySem PySem.Spec PyProof.Rows L2
/-! ### super().m(x): a def whose body is this row alone -/
/-- the row -/
abbrev superRow (p0 p1 p2 p3 p4 p5 : Pos) (m x : Str) : List Stmt := [.Return (some (.Call (.Attribute (.Call (.Name "super" p0) [] [] p1) m p2) [.Name x p3] [] p4)) p5]
/-- how the row is walked -/
abbrev SuperEv (scope : Scope) (body : List Stmt) (m x : Str) : Prop := ∃ p0 p1 p2 p3 p4 p5, body = superRow p0 p1 p2 p3 p4 p5 m x ∧ ∀ env : Env, env.scope = scope → ∃ pl, eval (.Call (.Attribute (.Call (.Name "super" p0) [] [] p1) m p2) [.Name x p3] [] p4) env = (do
  let ov ← attributeBase (.Call (.Name "super" p0) [] [] p1) m env (eval (.Call (.Name "super" p0) [] [] p1) env)
  standAt p2.atName
  let (f, first) ← holding [ov] (getMethod ov m pl)
  callWith p4 f first (backTo p4 (starEach [.Name x p3] env)) [])
/-- what the head knows of such a def of the class D: g is the def that it means -/
structure SupD (P : Program) (K : Fg) (mg : Str → Option Value) (D f g : Addr) (qual m x : Str) (params : Arguments) (body : List Stmt) (scope : Scope) (fd : FuncData) : Prop where
  ex : ∃ (nm : Str) (oc kV doc pm ct : Value) (od an : Option Addr) (osl : Array (Option Value)) (cd cc : Addr), fd = PySem.W.ksFn nm qual params body scope .none kV doc pm an (.ref cd) ct cc ∧
    K.lookup f = some { cls := oc, dict := od, data := .func fd, slots := osl } ∧ PySem.W.codeIn K (.ref cd) qual = true ∧ (∃ o, K.lookup cc = some o ∧ o.data = .cell (some (.ref D))) ∧
    (∃ o vs file tf, K.lookup cd = some o ∧ o.data = .fields vs ∧ vs[2]? = some (.str file tf) ∧ (P.main.file == file) = true)
  row : SuperEv scope body m x
  sup : (P.main.scope.names.lookup ("super" : Str)).isSome = false
  par : ∃ ar, (params.posonlyargs ++ params.args).head? = some ar ∧ ar.arg = "self"
  kind : scope.kind = .function
  co : scope.isCoroutine = false
  gen : scope.isGenerator = false
  nocell : ∀ q ∈ scope.names, q.2 ≠ NameKind.cell
  k1 : scope.names.lookup ("self" : Str) = some NameKind.local
  k2 : scope.names.lookup x = some NameKind.local
  k3 : scope.names.lookup ("__class__" : Str) = some NameKind.free
  k4 : scope.names.lookup ("super" : Str) = some NameKind.globalImplicit
  free : ∀ y, scope.names.lookup y = some NameKind.free → y = "__class__"
  cls : (PySem.W.clsIn K D).isSome = true
  sub : PySem.W.subIn K (.ref D) (.ref D) = some true
  st : PySem.W.nsIn K cStatics "thirdparty.any" = some none
  fnd : PySem.W.ks_superIn K D D m = some (some (.ref g))
  ty : PySem.W.typeIn K (.ref g) = some (.type "function")
  fi : PySem.W.fnIn K g = true
  mg : mg "super" = none
  ne : (m == ("__class__" : Str)) = false
  xs : x ≠ "self"
  xd : (x == ("__debug__" : Str)) = false ∧ (x == ("__classdict__" : Str)) = false
theorem look_not {names : List (Str × NameKind)} {x : Str} {k : NameKind} (h : names.lookup x = some k) : (x, k) ∈ names := by
  induction names with
  | nil => cases h
  | cons a t ih =>
    obtain ⟨a1, a2⟩ := a
    rw [List.lookup_cons] at h
    cases e : x == a1 with
    | true => rw [e] at h; cases h; rw [eq_of_beq e]; exact List.mem_cons_self ..
    | false => rw [e] at h; exact List.mem_cons_of_mem _ (ih h)
section
variable {P : Program} {w : World} {K : Fg} {mg : Str → Option Value} {base : Heap} {k : Nat} {D f g : Addr} {qual m x : Str} {params : Arguments} {body : List Stmt} {scope : Scope} {fd fdg : FuncData} {psg : List Str} {spf spg : Sp}
theorem super_ok (G : SupD P K mg D f g qual m x params body scope fd) (F : FnOk P w K mg base (L2.CX P w) k g fdg psg spg) (hbg : Binds K fdg psg [])
    (h : ∀ vs H Q E, spf vs H Q E → ∃ a y dx fs, vs = [.ref a, y] ∧ H a = some (.ins D dx fs) ∧ spg vs H Q (fun _ _ _ => False)) : FnOk P w K mg base (L2.CX P w) (k + 1) f fd ["self", x] spf := by
  obtain ⟨nm, oc, kV, doc, pm, ct, od, an, osl, cd, cc, rfl, look, code, ⟨ocl, lookc, datac⟩, oco, vsc, file, tf, lookd, datad, filed, fileq⟩ := G.ex
  obtain ⟨p0, p1, p2, p3, p4, p5, rfl, hev⟩ := G.row
  obtain ⟨ar, hpar, har⟩ := G.par
  refine ⟨fun vs H Q E q => ?_, fun A outer s H args us vs Q E room st bind rel prom => ?_⟩
  · obtain ⟨a, y, dx, fs, rfl, _⟩ := h _ _ _ _ q
    rfl
  obtain ⟨a, y, dx, fs, rfl, ha, prom⟩ := h _ _ _ _ prom
  have hps : psg.length = 2 := (F.len _ _ _ _ prom).symm
  obtain ⟨u0, u1, rfl, r0, r1⟩ : ∃ u0 u1, us = [u0, u1] ∧ RelV (.ref a) u0 ∧ RelV y u1 := by
    cases rel with
    | cons r0 t => cases t with
      | cons r1 t => cases t; exact ⟨_, _, rfl, r0, r1⟩
  obtain rfl : u0 = Value.ref a := r0
  have here : K.In s.heap := st.mod.kin.keeps fun a o z => (st.bs a o z).1
  have free : s.heap.NoLimit := st.mod.nolimit.keeps fun a o z => (st.bs a o z).1
  refine ks_codeAny_call_defAt room.r.depth (here _ _ look) rfl free (PySem.W.codeRec_of here code) rfl bind G.nocell (fun q hq => ?_) (fun h₀ hns hkeep => ?_) G.co G.gen G.kind
  · have hq : q = (("self" : Str), Value.ref a) ∨ q = (x, u1) := by simpa [List.zip] using hq
    rcases hq with rfl | rfl
    · exact G.k1
    · exact G.k2
  generalize hE : callEnv (PySem.W.ksFn nm qual params (superRow p0 p1 p2 p3 p4 p5 m x) scope .none kV doc pm an (.ref cd) ct cc) s.heap.objs.size f = env
  have eSc : env.scope = scope := by subst hE; rfl
  have eL : env.locals = s.heap.objs.size := by subst hE; rfl
  have eC : env.cells = [(("__class__" : Str), cc)] := by subst hE; rfl
  have eG : env.globals = mainGlobals := by subst hE; rfl
  have eB : env.builtins = builtinsNs := by subst hE; rfl
  have eF : env.func = some f := by subst hE; rfl
  have eD : env.code = .ref cd := by subst hE; rfl
  have eFr : env.frame = some s.heap.objs.size := by subst hE; rfl
  have kd : ∀ z, env.kindOf z = scope.names.lookup z := fun z => by unfold Env.kindOf; rw [eSc]
  let X : Cx := { prog := P, w := w, K := K, mg := mg, base := base, A := A.deeper env, N := [("self" : Str), x], s_0 := s, H_0 := H, env := env, outer := outer, stack := env :: outer, ex := [], fn := fun _ => false, calm := true, pn := [], xe := fun _ _ => False }
  have hcell : ∀ (z : Str) (c : Addr), List.lookup z env.cells = some c → z = ("__class__" : Str) ∧ c = cc := fun z c hz => by
    rw [eC, List.lookup_cons] at hz
    cases e : z == ("__class__" : Str) with
    | true => rw [e] at hz; cases hz; exact ⟨eq_of_beq e, rfl⟩
    | false => rw [e] at hz; cases hz
  have cellAt : h₀.IsCell cc (some (.ref D)) := ⟨ocl, hkeep _ _ (here _ _ lookc), datac⟩
  have hcc : H cc = none := (st.bs _ _ (st.mod.kin _ _ lookc)).2
  have xok : X.Ok := by
    refine ⟨st.mod, ?_, eG, eB, Nat.le_of_eq eL.symm, fun z y c hz hy => ?_, fun z hz => ?_, (fun z c hz => by cases hz), fun _ => (Room.deeper room env).r.hd, ?_, .inr ⟨rfl, ?_⟩, (fun b hb => by cases hb), st.bs, st.bsz, (fun b o _ hb => by cases hb), (fun b hb => by cases hb), st.funs, st.frf⟩
    · show env.scope.kind = _
      rw [eSc]; exact G.kind
    · rw [(hcell z c hz).1, (hcell y c hy).1]
    · have hz : env.kindOf z = some .cell ∨ env.kindOf z = some .free := hz
      rw [kd] at hz
      rcases hz with hz | hz
      · exact absurd rfl (G.nocell _ (look_not hz))
      · obtain rfl := G.free z hz
        exact ⟨cc, by show List.lookup _ env.cells = _; rw [eC]; rfl⟩
    · show Option.map (fun x => env :: x) A.frames = _
      rw [st.frames]
      rfl
    · show env.frame = some env.locals
      rw [eFr, eL]
  have I : Inv X [] [some (V.ref a), some y] H { heap := h₀, gens := s.gens, drawn := s.drawn, toks := s.toks + ([("self" : Str), x].zip [Value.ref a, u1]).length, os := s.os } := by
    refine ⟨xok, rfl, st.bare, ⟨fun b o e _ _ _ => hkeep b o e, fun b o e _ _ _ => ⟨o.slots, hkeep b o e⟩, fun b o _ e _ => e, fun b o e _ => ⟨o, hkeep b o e⟩, fun b xs e => e, fun b o u e => e, fun b ps e => ⟨#[], by rw [Array.append_empty]; exact e⟩⟩, ?_, fun z c hz => ?_, ?_, fun z c hz => ?_, (fun p hp => by cases hp), st.hok.kept hkeep, rfl⟩
    · refine ⟨_, by show h₀.Ns env.locals _; rw [eL]; exact hns, fun i z v hN hv _ => ?_⟩
      match i with
      | 0 =>
        cases hN; cases hv
        refine ⟨.ref a, rfl, .inl ⟨by show env.kindOf _ = _; rw [kd]; exact G.k1, ?_⟩⟩
        show List.lookup ("self" : Str) [(x, u1), (("self" : Str), Value.ref a)] = _
        rw [List.lookup_cons]
        have e : (("self" : Str) == x) = false := beq_eq_false_iff_ne.mpr (Ne.symm G.xs)
        rw [e]
        rfl
      | 1 =>
        cases hN; cases hv
        refine ⟨u1, r1, .inl ⟨by show env.kindOf _ = _; rw [kd]; exact G.k2, ?_⟩⟩
        show List.lookup x [(x, u1), (("self" : Str), Value.ref a)] = _
        rw [List.lookup_cons, beq_self_eq_true]
      | i + 2 => cases hN
    · obtain ⟨_, rfl⟩ := hcell z c hz
      exact ⟨_, cellAt⟩
    · show H env.locals = none
      rw [eL]
      exact st.hok.fresh (Nat.le_refl _)
    · obtain ⟨_, rfl⟩ := hcell z c hz
      exact hcc
  obtain ⟨od', J⟩ := inst_of I ha
  obtain ⟨mb, hmb, hbb⟩ := st.mod.blt
  have keepB : ∀ b o, base.get? b = some o → h₀.get? b = some o := fun b o e => hkeep _ _ (st.bs b o e).1
  have hl : ∀ z, (List.lookup z ([("self" : Str), x].zip [Value.ref a, u1]).reverse) = List.lookup z [(x, u1), (("self" : Str), Value.ref a)] := fun _ => rfl
  obtain ⟨pl, hpl⟩ := hev env eSc
  refine ks_wpAt_execs_cons (ks_wpAt_Return_some (ks_wpAt_MethodCall (he := hpl) (ks_wpAt_super_base (by rw [kd]; exact G.k4) (by rw [kd]; exact G.k3) G.ne eF (hkeep _ _ (here _ _ look)) rfl hpar eD (hkeep _ _ (here _ _ lookd)) datad filed fileq G.sup ?_)))
  have clD : ∃ oD cdD, h₀.get? D = some oD ∧ oD.data = .cls cdD ∧ PySem.W.clsIn K D = some cdD := by
    have hc := G.cls
    unfold PySem.W.clsIn at hc ⊢
    split at hc
    · rename_i c1 d1 cdD s1 e
      exact ⟨_, cdD, hkeep _ _ (here _ _ e), rfl, rfl⟩
    · cases hc
  obtain ⟨oD, cdD, getD, dataD, clsD⟩ := clD
  refine PySem.W.ks_loadName_global (by rw [eSc]; exact G.kind) (by rw [kd]; exact G.k4) (PySem.Calls.loadGlobal_builtin (by rw [eG]; exact st.mod.glob.keeps keepB) G.mg (by rw [eB]; exact hmb.keeps keepB) (by rw [hbb _ (by decide)]; rfl) ?_)
  refine ⟨rfl, wpAny_loadName_free (by rw [eSc]; exact G.kind) (by rw [kd]; exact G.k3) (by rw [eC]; rfl) cellAt ?_⟩
  refine wpAny_loadName_local (by rw [eSc]; exact G.kind) (by rw [kd, har]; exact G.k1) (by rw [eL]; exact hns) (v := .ref a) (by
    rw [har]
    show List.lookup ("self" : Str) [(x, u1), (("self" : Str), Value.ref a)] = _
    rw [List.lookup_cons]
    have e : (("self" : Str) == x) = false := beq_eq_false_iff_ne.mpr (Ne.symm G.xs)
    rw [e]
    rfl) ?_
  refine ks_wpAny_isType_cls getD dataD ⟨rfl, ?_⟩
  have hin : K.In h₀ := fun b o e => hkeep _ _ (here b o e)
  refine ks_wpAny_call_super getD dataD J.at_ J.cls (fun c e => by cases e) (PySem.W.looks_subIn hin G.sub) fun h' hso hk' => ?_
  have I2 := I.kept (t' := s.toks + ([("self" : Str), x].zip [Value.ref a, u1]).length) hk'
  have hin' : K.In h' := fun b o e => hk' _ _ (hin b o e)
  obtain ⟨og, hog, tyg⟩ : ∃ og, h'.get? g = some og ∧ og.cls = .type "function" := by
    have ht := G.ty
    have ht : Option.map (fun z => z.cls) (K.lookup g) = some (.type "function") := ht
    cases e : K.lookup g with
    | none => rw [e] at ht; cases ht
    | some o => rw [e] at ht; exact ⟨o, hin' _ _ e, Option.some.inj ht⟩
  have along : PySem.W.alongIn K m (List.drop 1 (List.dropWhile (fun x => x != Value.ref D) cdD.mro)) = some (some (.ref g)) := by
    have hf := G.fnd
    unfold PySem.W.ks_superIn at hf
    rw [clsD] at hf
    exact hf
  refine ks_wpAny_getMethod_super (l₀ := cdD.mro) hso (PySem.W.looks_opaque hin' G.st) (fun A' Q' E' s' hs hq => ?_) rfl hin' along hog tyg ?_ G.ne ?_
  · have hs' : s'.heap.get? D = some oD := hs _ _ (hk' _ _ getD)
    show wpAny _ _ (do let c ← classData D; pure c.mro) _ _ _
    unfold classData
    refine wpAny_bind (wpAny_bind (wpAny_load hs' ?_))
    rw [dataD]
    exact wpAny_pure (wpAny_pure hq)
  · intro e
    subst e
    have e1 := J.at_
    rw [getD] at e1
    cases e1
    cases dataD
  have I3 := ClX.met_new (g := g) (C := a) I2
  have hpa : PA X [.Name x p3] (tCons (tVar 1) tNil) := pa_cons (pe_var (X := X) (i := 1) rfl (by show Vis env.scope x; rw [eSc]; exact .inl G.k2) G.xd.1 G.xd.2) pa_nil
  refine ClX.callwith_cm I3 ?_ G.fi (wpAny_mono (hpa.run p4 _ _ _ H (fun vs H1 => vs = [y] ∧ H1 = H) I3 ?_) (fun us' s4 hus => ?_) fun _ _ z => z.elim) rfl rfl
  · exact ClX.base_none I2 (Nat.le_refl _)
  · exact ⟨y, rfl, rfl, rfl⟩
  obtain ⟨vs, H1, I4, rv, rfl, rfl⟩ := hus
  have hp := I4.pin _ (List.mem_append_right _ (List.mem_cons_self ..))
  refine ⟨⟨hp.1, I4.kIn⟩, wpAny_call (ks_codeAny_call_bound hp.1 ?_)⟩
  have lu : us'.length = 1 := by rw [← rv.length]; rfl
  have bnd := hbg s4 (Value.ref a :: us') I4.kIn (by rw [List.length_append, List.length_cons, lu, hps]; rfl)
  rw [List.append_nil] at bnd
  have ran := F.run (A.deeper env) (env :: outer) s4 H1 ⟨Value.ref a :: us', []⟩ (Value.ref a :: us') [.ref a, y] Q (fun _ _ _ => False) (room.deeper env) I4.env0 bnd (.cons rfl rv) prom
  refine codeAny_mono ran fun r s3 out => ?_
  cases r with
  | error e =>
    obtain ⟨_, _, _, _, _, _, _, _, _, _, _, _, z⟩ := out
    exact z.elim
  | ok fl =>
    cases fl with
    | ret u =>
      obtain ⟨v, H3, J3, rv3, q3⟩ := I4.after out
      exact ⟨v, H3, J3.os, J3.bare, J3.base, J3.hok, rv3, q3⟩
    | next => exact out.elim
    | brk => exact out.elim
    | cont => exact out.elim
end
end TS
namespace TSW
open PySem PySem.W PyProof.Rows
theorem callWith_caller {M : Model} {A : Around} {E : Value → Shared → Prop} {s : Shared} {pos : Pos} {x : Addr} {first : List Value} {Q : Value → Shared → Prop} {args : List (Bool × Sem Value)} (hst : (args.any fun x => x.1) = false)
    (h : wpAny M A (evalArgs (.ref x) true args []) (fun a s₁ => (∃ C ox od, PySem.W.InstAt s₁.heap x ox C od ∧ ox.data = .plain) ∧ wpAny M A (call (.ref x) (first ++ a.pos) a.kw) Q E s₁) E s) : wpAny M A (callWith pos (.ref x) first args []) Q E s := by
  unfold callWith
  refine wpAny_bind (wpAny_holding (wpAny_mono h (fun a s₁ ⟨⟨C, ox, od, J, pl⟩, hc⟩ => ?_) fun _ _ z => z))
  refine wpAny_bind (wpAny_standAt ?_)
  rw [hst]
  refine wpAny_bind (W.kco_keeper J pl A _ E s₁ (fun _ _ z => z) ?_)
  show wpAny M A (do let r ← operate _ (call (.ref x) (first ++ a.pos) a.kw); (do holding [r] point; pure r)) _ _ _
  refine wpAny_bind (wpAny_operating (wpAny_mono hc (fun r s₂ hq => ?_) fun _ _ z => z))
  exact wpAny_bind (wpAny_holding (wpAny_point (wpAny_pure hq)))
end TSW
namespace TS
open PySem PySem.Spec PyProof.Rows L2
/-! ### an own object that is called -/
def tlf {α : Type} (cs : List Nat) (f : Nat → α) : Nat → Option α := fun c => if c ∈ cs then some (f c) else none
theorem tlf_one {α : Type} {cs : List Nat} {f : Nat → α} {k : Nat} {b : α} (h : tlf cs f k = some b) : k ∈ cs ∧ b = f k := by
  unfold tlf at h
  split at h
  · cases h; exact ⟨by assumption, rfl⟩
  · cases h
theorem tlf_in {α : Type} {cs : List Nat} {f : Nat → α} {k : Nat} (h : k ∈ cs) : tlf cs f k = some (f k) := if_pos h
structure CoAt (X : Cx) (ca : Ca) (k c : Nat) (sp : DSp) : Prop where
  ex : ∃ f, Meth X.K (ca c) "__call__" f ∧ PySem.W.fnIn X.K f = true ∧ FnX X ca k f [] sp
def CoOk (X : Cx) (ca : Ca) (k : Nat) (T : Nat → Option DSp) : Prop := ∀ c sp, T c = some sp → CoAt X ca k c sp
def dCallO (T : Nat → Option DSp) (te : DT) (t : DTA) : DT := fun δ M E Q => te δ M E fun d M1 => match d with
  | .obj c _ => (match T c with | some sp => t δ M1 E fun ds M2 => sp (d :: ds) M2 (fun c fs M' => E c fs δ M') Q | none => False)
  | _ => False
section
variable {X : Cx} {ca : Ca} {W : WX} {j k : Nat} {x : Str} {e : Expr} {es : List Expr} {p pos : Pos} {te : DT} {t : DTA} {T : Nat → Option DSp}
theorem run_co {pins : List (Addr × Obj)} {s : Shared} {σ : L2.St} {U F H : Hp} {M : Mem} {δ : DEnv} {E : EX} {Q : QD} {R : VK} {f : Addr} {ds : List D} {sp : DSp} {vs : List V} {us : List Value} (C : Ctx X j W) (hk : k ≤ j) (G : FnX X ca k f [] sp) (I : Inv X pins σ H s) (S : Stt X.K ca U W F M δ E σ H) (r : Vals vs us) (rl : RepL X.K ca F ds vs) (h : sp ds M (fun c fs M' => E c fs δ M') Q) (c : Cl X.K ca U F Q R) :
    codeAny (model X.prog X.w) X.A (.call (.ref f) ⟨us, []⟩) (fun r s' => match r with | .ok (.ret u) => EP X pins σ R u s' | .ok _ => False | .error e => X.xe e s') s := by
  obtain ⟨fd, ps, dvals, dvs, FF, hb, hd, hdr⟩ := G.ex
  have hdr0 : dvs = [] := hdr F
  subst hdr0
  cases hd
  have hsp : toSp X.K ca sp vs H R (fun cls od H' => W cls od σ H') :=
    ⟨U, F, M, ds, _, Q, rl, S.hr, h, c, fun c' fs M' F' H' od he e hr ho => S.xc c' fs δ M' F' σ H' od he e (S.env.mono e) hr ho⟩
  have hl : (us ++ []).length = ps.length := by rw [List.append_nil, ← r.length]; exact FF.len _ _ _ _ hsp
  have bnd := hb s us I.kIn hl
  rw [List.append_nil] at bnd
  refine codeAny_mono (FF.run X.A X.stack s H ⟨us, []⟩ us vs R _ (C.room.mono hk) I.env0 bnd r hsp) fun r s' hq => ?_
  cases r with
  | error e => exact C.tk e s' (XE.of_call I (fun cls d H' z => z) hq)
  | ok fl =>
    cases fl with
    | ret u => exact I.after hq
    | next => exact False.elim hq
    | brk => exact False.elim hq
    | cont => exact False.elim hq
theorem de_callO (C : Ctx X j W) (ok : CoOk X ca k T) (he : DE X ca W (.Name x p) te) (ha : DPA X ca W (e :: es) t) (hk : k ≤ j := by decide)
    (hst : starEach (e :: es) X.env = (false, eval e X.env) :: starEach es X.env := by rfl) (hpl : (backTo pos (starEach (e :: es) X.env)).any (·.1) = false := by rfl) :
    DE X ca W (.Call (.Name x p) (e :: es) [] pos) (dCallO T te t) := by
  refine ⟨fun pins s σ H R I ⟨U, F, M, δ, E, Q, S, h, c⟩ => ?_⟩
  refine wpAny_Call_Name_kw (thn (he.run pins s σ H (fun x H1 => ∃ F1 M1 d, Stt X.K ca U W F1 M1 δ E σ H1 ∧ Rep X.K ca F1 d x ∧ (match d with
    | .obj c _ => (match T c with | some sp => t δ M1 E fun ds M2 => sp (d :: ds) M2 (fun c fs M' => E c fs δ M') Q | none => False)
    | _ => False) ∧ Cl X.K ca U F1 Q R) I (lift_of S h fun d M1 F1 v H1 h1 e1 r1 g1 => ⟨F1, M1, d, S.up e1 g1, r1, h1, c.up e1⟩)) fun u s1 ⟨v, H1, I1, rv, F1, M1, d, S1, rd, h1, c1⟩ => ?_)
  cases d with
  | obj cl fs =>
    have h1 : (match T cl with | some sp => t δ M1 E fun ds M2 => sp (.obj cl fs :: ds) M2 (fun c fs M' => E c fs δ M') Q | none => False) := h1
    cases et : T cl with
    | none => rw [et] at h1; exact h1.elim
    | some sp =>
      rw [et] at h1
      obtain ⟨a, dx, vs0, ev, _, _⟩ := asO_ok S1.hr rd (show asO M1 (.obj cl fs) = some (cl, fs) from rfl)
      subst ev
      obtain rfl : u = Value.ref a := rv
      obtain ⟨f, hm, fi, G⟩ := (ok cl sp et).ex
      refine TSW.callWith_caller hpl ?_
      have run := ha.run pos pins s1 σ H1 (fun vs H2 => ∃ F2 M2 ds, Ext F1 F2 ∧ Stt X.K ca U W F2 M2 δ E σ H2 ∧ RepL X.K ca F2 ds vs ∧ sp (.obj cl fs :: ds) M2 (fun c fs M' => E c fs δ M') Q ∧ Cl X.K ca U F2 Q R) I1 (liftA_of S1 h1 fun ds M2 F2 vs H2 h2 e2 r2 g2 => ⟨F2, M2, ds, e2, S1.up e2 g2, r2, h2, c1.up e2⟩)
      rw [hst] at run ⊢
      refine PySem.Calls.evalArgs_plain (wpAny_mono run (fun us s2 z => ?_) fun _ _ z => z)
      obtain ⟨ws, H2, I2, r, F2, M2, ds, e2, S2, rl, hs, c2⟩ := z
      have rd2 := rd.mono e2
      obtain ⟨a', dx', vs', ev', ha', _⟩ := asO_ok S2.hr rd2 (show asO M2 (.obj cl fs) = some (cl, fs) from rfl)
      cases ev'
      obtain ⟨od, J⟩ := inst_of I2 ha'
      refine ⟨⟨_, _, _, J, rfl⟩, ?_⟩
      refine wpAny_call (PySem.W.kco_code I2.kIn J rfl hm.at_ hm.fn fi ?_)
      exact run_co (vs := .ref a :: ws) (ds := .obj cl fs :: ds) C hk G I2 S2 (.cons rfl r) ⟨_, _, rfl, rd2, rl⟩ hs c2
  | _ => exact h1.elim
theorem isN_conv {ta : DT} {σ : L2.St} {H : Hp} {R : VK} : lift X.K ca W (dIsN ta) σ H R → tIsN (lift X.K ca W ta) σ H R := fun ⟨U, F, M, δ, E, Q, S, h, c⟩ => by
  refine lift_of S h fun d M1 F1 v H1 h1 e1 r1 g1 => ?_
  show R (.bl (decide (v = .non))) H1
  rw [isNon r1]
  cases d <;> first | exact h1.elim | exact c _ _ _ _ _ h1 e1 rfl g1
theorem notN_conv {ta : DT} {σ : L2.St} {H : Hp} {R : VK} : lift X.K ca W (dNotN ta) σ H R → tNotN (lift X.K ca W ta) σ H R := fun ⟨U, F, M, δ, E, Q, S, h, c⟩ => by
  refine lift_of S h fun d M1 F1 v H1 h1 e1 r1 g1 => ?_
  show R (.bl (!decide (v = .non))) H1
  rw [isNon r1]
  cases d <;> first | exact h1.elim | exact c _ _ _ _ _ h1 e1 rfl g1
theorem dt_isN {j} {pos' : Pos} {a : Expr} {ta : DT} (ha : DE X ca W a ta) : DPT X ca W (.Compare a [.Is] [.Constant .none j pos'] pos) (dB (dIsN ta)) := ptImp (pt_cmp (pc_isN ha) rfl) fun σ H R q => isN_conv (liftT_dB q)
theorem dt_notN {j} {pos' : Pos} {a : Expr} {ta : DT} (ha : DE X ca W a ta) : DPT X ca W (.Compare a [.IsNot] [.Constant .none j pos'] pos) (dB (dNotN ta)) := ptImp (pt_cmp (pc_notN ha) rfl) fun σ H R q => notN_conv (liftT_dB q)
end
end TS
namespace TS
open PySem PySem.Spec PyProof.Rows L2
/-! ### a head that knows of defs with super() -/
structure SupS where
  cls : Fg → Addr
  addr : Fg → Addr
  g : Fg → Addr
  name : Str
  qual : Str
  m : Str
  params : Arguments
  body : List Stmt
  scope : Scope
def fnWS (K : Fg) (a : Addr) : He.FnW := match K.lookup a with
  | some ⟨_, _, .func fd, _⟩ => some (fd.name, fd.qualname, fd.params, fd.body, fd.scope, fd.globals, fd.closure.map (fun q => (q.1, 0)), fd.builtins)
  | _ => none
def SupS.val (s : SupS) : He.FnW := some (s.name, s.qual, s.params, .stmts s.body, s.scope, mainGlobals, [(("__class__" : Str), 0)], builtinsNs)
def noDef : Value → Bool
  | .none => true
  | _ => false
theorem noDef_ok {v : Value} (h : noDef v = true) : v = .none := by cases v <;> first | rfl | cases h
def cellB (K : Fg) (cl : List (Str × Addr)) (D : Addr) : Bool := match cl with
  | (_, cc) :: _ => (match K.lookup cc with
    | some ⟨_, _, .cell (some (.ref d)), _⟩ => decide (d = D)
    | _ => false)
  | _ => false
def fileB (K : Fg) (code : Value) (file : Str) : Bool := match code with
  | .ref cd => (match K.lookup cd with
    | some ⟨_, _, .fields vs, _⟩ => (match (vs : Array Value)[2]? with | some (Value.str f _) => decide (f = file) | _ => false)
    | _ => false)
  | _ => false
def isFnT (v : Option Value) : Bool := match v with | some (.type t) => decide (t = "function") | _ => false
theorem isFnT_ok {v : Option Value} (h : isFnT v = true) : v = some (.type "function") := by
  unfold isFnT at h
  split at h
  · rw [of_decide_eq_true h]
  · cases h
def okS (K : Fg) (file : Str) (s : SupS) : Bool := (match K.lookup (s.addr K) with
  | some ⟨_, _, .func fd, _⟩ => noDef fd.defaults && (PySem.W.codeIn K fd.code s.qual && (cellB K fd.closure (s.cls K) && fileB K fd.code file))
  | _ => false) && ((PySem.W.clsIn K (s.cls K)).isSome && (decide (PySem.W.subIn K (.ref (s.cls K)) (.ref (s.cls K)) = some true) && (He.eqO (PySem.W.nsIn K cStatics "thirdparty.any") (some none) &&
  (He.eqO (PySem.W.ks_superIn K (s.cls K) (s.cls K) s.m) (some (some (.ref (s.g K)))) && (isFnT (PySem.W.typeIn K (.ref (s.g K))) && (PySem.W.fnIn K (s.g K) && PySem.W.fnIn K (s.addr K)))))))
structure SupK (K : Fg) (file : Str) (s : SupS) : Prop where
  ex : ∃ (oc kV doc pm ct : Value) (od an : Option Addr) (osl : Array (Option Value)) (cd cc : Addr),
    K.lookup (s.addr K) = some { cls := oc, dict := od, data := .func (PySem.W.ksFn s.name s.qual s.params s.body s.scope .none kV doc pm an (.ref cd) ct cc), slots := osl } ∧ PySem.W.codeIn K (.ref cd) s.qual = true ∧ (∃ o, K.lookup cc = some o ∧ o.data = .cell (some (.ref (s.cls K)))) ∧
    (∃ o vs tf, K.lookup cd = some o ∧ o.data = .fields vs ∧ vs[2]? = some (.str file tf))
  cls : (PySem.W.clsIn K (s.cls K)).isSome = true
  sub : PySem.W.subIn K (.ref (s.cls K)) (.ref (s.cls K)) = some true
  st : PySem.W.nsIn K cStatics "thirdparty.any" = some none
  fnd : PySem.W.ks_superIn K (s.cls K) (s.cls K) s.m = some (some (.ref (s.g K)))
  ty : PySem.W.typeIn K (.ref (s.g K)) = some (.type "function")
  fi : PySem.W.fnIn K (s.g K) = true
  fa : PySem.W.fnIn K (s.addr K) = true
theorem supK_of {K : Fg} {file : Str} {s : SupS} (e : fnWS K (s.addr K) = s.val) (c : okS K file s = true) : SupK K file s := by
  obtain ⟨c1, c⟩ := He.ba c
  obtain ⟨c2, c⟩ := He.ba c
  obtain ⟨c3, c⟩ := He.ba c
  obtain ⟨c4, c⟩ := He.ba c
  obtain ⟨c5, c⟩ := He.ba c
  obtain ⟨c6, c⟩ := He.ba c
  obtain ⟨c7, c8⟩ := He.ba c
  refine ⟨?_, c2, of_decide_eq_true c3, He.eqO_ok c4, He.eqO_ok c5, isFnT_ok c6, c7, c8⟩
  unfold fnWS at e
  cases q : K.lookup (s.addr K) with
  | none =>
    rw [q] at c1
    cases c1
  | some o =>
    obtain ⟨oc, od, dt, osl⟩ := o
    rw [q] at c1 e
    cases dt with
    | func fd =>
      obtain ⟨n1, n2, n3, n4, n5, n6, n7, n8, n9, n10, n11, n12, n13, n14, n15⟩ := fd
      have e2 : (some (n1, n2, n3, n4, n5, n6, n7.map (fun q => (q.1, 0)), n15) : He.FnW) = some (s.name, s.qual, s.params, .stmts s.body, s.scope, mainGlobals, [(("__class__" : Str), 0)], builtinsNs) := e
      simp only [Option.some.injEq, Prod.mk.injEq] at e2
      obtain ⟨h1, h2, h3, h4, h5, h6, h7, h8⟩ := e2
      subst h1 h2 h3 h4 h5 h6 h8
      have c1 : (noDef n8 && (PySem.W.codeIn K n13 s.qual && (cellB K n7 (s.cls K) && fileB K n13 file))) = true := c1
      obtain ⟨k1, k⟩ := He.ba c1
      obtain ⟨k2, k⟩ := He.ba k
      obtain ⟨k3, k4⟩ := He.ba k
      obtain rfl := noDef_ok k1
      obtain ⟨cc, rfl⟩ : ∃ cc, n7 = [(("__class__" : Str), cc)] := by
        cases n7 with
        | nil => cases h7
        | cons a t =>
          cases t with
          | nil =>
            obtain ⟨a1, a2⟩ := a
            simp only [List.map, List.cons.injEq, Prod.mk.injEq, and_true] at h7
            exact ⟨a2, by rw [h7]⟩
          | cons b t => simp at h7
      have k3 : (match K.lookup cc with
        | some ⟨_, _, .cell (some (.ref d)), _⟩ => decide (d = s.cls K)
        | _ => false) = true := k3
      cases n13 with
      | ref cd =>
        refine ⟨oc, n9, n10, n11, n14, od, n12, osl, cd, cc, rfl, k2, ?_, ?_⟩
        · split at k3
          · rename_i z
            have e3 := of_decide_eq_true k3
            subst e3
            exact ⟨_, z, rfl⟩
          · cases k3
        · have k4 : (match K.lookup cd with
            | some ⟨_, _, .fields vs, _⟩ => (match (vs : Array Value)[2]? with | some (Value.str f _) => decide (f = file) | _ => false)
            | _ => false) = true := k4
          split at k4
          · rename_i z
            split at k4
            · rename_i y
              have e4 := of_decide_eq_true k4
              subst e4
              exact ⟨_, _, _, z, rfl, y⟩
            · cases k4
          · cases k4
      | _ => cases k4
    | _ => cases c1
theorem supD_of {P : Program} {K : Fg} {mg : Str → Option Value} {file x : Str} {s : SupS} (k : SupK K file s) (hf : (P.main.file == file) = true) (sup : (P.main.scope.names.lookup ("super" : Str)).isSome = false) (hm : mg "super" = none) (row : SuperEv s.scope s.body s.m x)
    (par : ∃ ar, (s.params.posonlyargs ++ s.params.args).head? = some ar ∧ ar.arg = "self") (kind : s.scope.kind = .function) (co : s.scope.isCoroutine = false) (gen : s.scope.isGenerator = false) (hn : s.scope.names = [(("self" : Str), .local), (x, .local), (("__class__" : Str), .free), (("super" : Str), .globalImplicit)])
    (ne : (s.m == ("__class__" : Str)) = false) (xs : x ≠ "self") (xc : x ≠ "__class__") (xu : x ≠ "super") (xd : (x == ("__debug__" : Str)) = false ∧ (x == ("__classdict__" : Str)) = false) :
    ∃ fd nm kV doc pm ct an cdv cc, fd = PySem.W.ksFn nm s.qual s.params s.body s.scope .none kV doc pm an cdv ct cc ∧ SupD P K mg (s.cls K) (s.addr K) (s.g K) s.qual s.m x s.params s.body s.scope fd := by
  obtain ⟨oc, kV, doc, pm, ct, od, an, osl, cd, cc, l1, l2, l3, o, vs, tf, l4, l5, l6⟩ := k.ex
  have b1 : ((("__class__" : Str)) == ("self" : Str)) = false := by decide
  have b2 : ((("super" : Str)) == ("self" : Str)) = false := by decide
  have b3 : ((("super" : Str)) == ("__class__" : Str)) = false := by decide
  have b4 : (("__class__" : Str) == x) = false := beq_eq_false_iff_ne.mpr (Ne.symm xc)
  have b5 : (("super" : Str) == x) = false := beq_eq_false_iff_ne.mpr (Ne.symm xu)
  have b6 : (x == ("self" : Str)) = false := beq_eq_false_iff_ne.mpr xs
  refine ⟨_, s.name, kV, doc, pm, ct, an, .ref cd, cc, rfl, ⟨s.name, oc, kV, doc, pm, ct, od, an, osl, cd, cc, rfl, l1, l2, l3, o, vs, file, tf, l4, l5, l6, hf⟩, row, sup, par, kind, co, gen, ?_, ?_, ?_, ?_, ?_, ?_, k.cls, k.sub, k.st, k.fnd, k.ty, k.fi, hm, ne, xs, xd⟩
  · intro q hq
    rw [hn] at hq
    simp only [List.mem_cons, List.not_mem_nil, or_false] at hq
    rcases hq with rfl | rfl | rfl | rfl <;> intro z <;> cases z
  · rw [hn]; rfl
  · rw [hn, List.lookup_cons, b6, List.lookup_cons, beq_self_eq_true]
  · rw [hn, List.lookup_cons, b1, List.lookup_cons, b4, List.lookup_cons, beq_self_eq_true]
  · rw [hn, List.lookup_cons, b2, List.lookup_cons, b5, List.lookup_cons, b3, List.lookup_cons, beq_self_eq_true]
  · intro y hy
    have := look_not hy
    rw [hn] at this
    simp only [List.mem_cons, List.not_mem_nil, or_false] at this
    rcases this with h | h | h | h
    · cases h
    · cases h
    · exact congrArg Prod.fst h
    · cases h
theorem super_D {P : Program} {w : World} {K : Fg} {mg : Str → Option Value} {base : Heap} {ca : Ca} {k c : Nat} {f g : Addr} {qual m x : Str} {params : Arguments} {body : List Stmt} {scope : Scope} {sp spg : DSp}
    (G : ∃ fd nm kV doc pm ct an cdv cc, fd = PySem.W.ksFn nm qual params body scope .none kV doc pm an cdv ct cc ∧ SupD P K mg (ca c) f g qual m x params body scope fd) (Gs : FnD P w K mg base ca k g [] spg)
    (hb : ∀ (nm : Str) (kV doc pm ct cdv : Value) (an : Option Addr) (cc : Addr) (us : List Value), us.length = 2 → bindArgs (PySem.W.ksFn nm qual params body scope .none kV doc pm an cdv ct cc) ⟨us, []⟩ = pure ([("self" : Str), x].zip us))
    (h : ∀ ds M E Q, sp ds M E Q → (∃ fs y, ds = [.obj c fs, y]) ∧ spg ds M (fun _ _ _ => False) Q) : FnD P w K mg base ca (k + 1) f [] sp := by
  obtain ⟨fd, nm, kV, doc, pm, ct, an, cdv, cc, e, G⟩ := G
  obtain ⟨fdg, psg, dsg, dvsg, F, hbg, hd, hdr⟩ := Gs.ex
  have e0 : dvsg = [] := hdr (fun _ => none)
  subst e0
  cases hd
  refine ⟨fd, [("self" : Str), x], [], [], super_ok G F hbg (fun vs H Q E q => ?_), fun s us hK hl => ?_, .nil, fun _ => rfl⟩
  · obtain ⟨U, Fz, M, ds, E1, Q1, rl, hr, hs, cl, he⟩ := q
    obtain ⟨⟨fs, y, rfl⟩, hs2⟩ := h _ _ _ _ hs
    have rl' := rl
    obtain ⟨v, r, e1, rv, rest⟩ := rl
    obtain ⟨v2, r2, e2, rv2, en⟩ := rest
    subst e1
    subst e2
    cases en
    obtain ⟨a, dx, vs', ev, ha, _⟩ := asO_ok hr rv (show asO M (.obj c fs) = some (c, fs) from rfl)
    subst ev
    exact ⟨a, v2, dx, vs', rfl, ha, U, Fz, M, _, _, Q1, rl', hr, hs2, cl, fun _ _ _ _ _ _ z => z.elim⟩
  · subst e
    rw [List.append_nil] at hl ⊢
    intro M A E Q z
    rw [hb nm kV doc pm ct cdv an cc us hl]
    exact wpAny_pure z
/-! ### the head's Hook -/
def asQ (get : Addr → Option Obj) (n : Nat) : List Addr := He.asD get n ++ (cStatics :: (He.asD get n).flatMap fun a => match get a with
  | some ⟨_, _, .func fd, _⟩ => fd.closure.map (·.2)
  | _ => [])
def obsS (fa : List He.Fa) (gs : List GT) (ss : List SupS) (file : Str) (ck : Fg → Bool) (K : Fg) : AlP := ((fa.all fun f => f.ok K) && ((gs.all fun q => okA K (q.1 K) q.2) && (ss.all (fun s => okS K file s) && ck K)), (gs.map fun q => fnWA K (q.1 K)) ++ (ss.map fun s => fnWS K (s.addr K)))
def valS (gs : List GT) (ss : List SupS) : AlP := (true, (gs.map fun q => q.2.val) ++ ss.map SupS.val)
structure SaysS (fa : List He.Fa) (gs : List GT) (ss : List SupS) (file : Str) (ck : Fg → Bool) (K : Fg) : Prop where
  p : SaysP fa gs ck K
  sup : ∀ (i : Nat) (s : SupS), ss[i]? = some s → SupK K file s
theorem saysS_of {fa : List He.Fa} {gs : List GT} {ss : List SupS} {file : Str} {ck : Fg → Bool} {K : Fg} (h : obsS fa gs ss file ck K = valS gs ss) : SaysS fa gs ss file ck K := by
  obtain ⟨h1, h2⟩ := Prod.mk.inj h
  obtain ⟨a1, a2⟩ := He.ba h1
  obtain ⟨a3, a4⟩ := He.ba a2
  obtain ⟨a5, a6⟩ := He.ba a4
  have hl : (gs.map fun q => fnWA K (q.1 K)).length = (gs.map fun q => q.2.val).length := by rw [List.length_map, List.length_map]
  obtain ⟨e1, e2⟩ := List.append_inj h2 hl
  refine ⟨saysP_of (show obsP fa gs ck K = valP gs from ?_), fun i s hi => ?_⟩
  · unfold obsP valP
    rw [a1, a3, a6, e1]
    rfl
  · have hm := List.mem_of_getElem? hi
    have z : (ss.map fun s => fnWS K (s.addr K))[i]? = (ss.map SupS.val)[i]? := by rw [e2]
    rw [List.getElem?_map, List.getElem?_map, hi] at z
    exact supK_of (Option.some.inj z) (List.all_eq_true.mp a5 s hm)
def hookS (n : Nat) (fa : List He.Fa) (gs : List GT) (ss : List SupS) (file : Str) (ck : Fg → Bool) : PySem.W.Hook where
  α := AlP
  obs := fun s => obsS fa gs ss file ck (He.frG s.heap.get? (asQ s.heap.get? n))
  val := fun _ => valS gs ss
  says := fun _ h => ∃ K : Fg, K.In h ∧ SaysS fa gs ss file ck K
  of := fun _ _ e => ⟨_, He.frG_in, saysS_of e⟩
  keeps := fun _ _ _ ⟨K, hK, c⟩ k => ⟨K, PySem.W.Frag.In.keeps hK k, c⟩
def obS (n : Nat) (fa : List He.Fa) (gs : List GT) (ss : List SupS) (file : Str) (ck : Fg → Bool) (s : PySem.W.SharedT) : AlP := obsS fa gs ss file ck (He.frG (HandSHeadRun.getT s) (asQ (HandSHeadRun.getT s) n))
theorem obS_eq {n : Nat} {fa : List He.Fa} {gs : List GT} {ss : List SupS} {file : Str} {ck : Fg → Bool} (s : PySem.W.SharedT) : obS n fa gs ss file ck s = (hookS n fa gs ss file ck).obs s.abs := by
  have e : HandSHeadRun.getT s = s.abs.heap.get? := funext (HandSHeadRun.getT_eq s)
  unfold obS
  rw [e]
  rfl
/-! ### facts about calls, methods of each class -/
section
variable {P : Program} {w : World} {K : Fg} {mg : Str → Option Value} {base : Heap} {ca : Ca} {k : Nat} {m : Str} {cs : List Nat} {spf : Nat → DSp}
theorem at_co (h : ∀ c ∈ cs, ∃ f, Meth K (ca c) "__call__" f ∧ PySem.W.fnIn K f = true ∧ FnD P w K mg base ca k f [] (spf c)) : AtX P w K mg base fun X => CoOk X ca k (tlf cs spf) := by
  rintro X rfl rfl rfl rfl rfl c sp e
  obtain ⟨hc, rfl⟩ := tlf_one e
  exact ⟨h c hc⟩
theorem at_mtf (h : ∀ c ∈ cs, AtX P w K mg base fun X => Mt X ca k c m [] (spf c)) : AtX P w K mg base fun X => MtOk X ca k m (tlf cs fun c => (spf c, [])) := by
  rintro X rfl rfl rfl rfl rfl c sp dds e
  obtain ⟨hc, e2⟩ := tlf_one e
  obtain ⟨rfl, rfl⟩ := Prod.mk.inj e2
  exact h c hc _ rfl rfl rfl rfl rfl
end
end TS
namespace TS
open PySem PySem.Spec PyProof.Rows L2
/-! ### a Hook that looks at written addresses -/
def hookAt (as : List Addr) (fa : List He.Fa) (gs : List GT) (ss : List SupS) (file : Str) (ck : Fg → Bool) : PySem.W.Hook where
  α := AlP
  obs := fun s => obsS fa gs ss file ck (He.frG s.heap.get? as)
  val := fun _ => valS gs ss
  says := fun _ h => ∃ K : Fg, K.In h ∧ SaysS fa gs ss file ck K
  of := fun _ _ e => ⟨_, He.frG_in, saysS_of e⟩
  keeps := fun _ _ _ ⟨K, hK, c⟩ k => ⟨K, PySem.W.Frag.In.keeps hK k, c⟩
def obAt (as : List Addr) (fa : List He.Fa) (gs : List GT) (ss : List SupS) (file : Str) (ck : Fg → Bool) (s : PySem.W.SharedT) : AlP := obsS fa gs ss file ck (He.frG (HandSHeadRun.getT s) as)
theorem obAt_eq {as : List Addr} {fa : List He.Fa} {gs : List GT} {ss : List SupS} {file : Str} {ck : Fg → Bool} (s : PySem.W.SharedT) : obAt as fa gs ss file ck s = (hookAt as fa gs ss file ck).obs s.abs := by
  have e : HandSHeadRun.getT s = s.abs.heap.get? := funext (HandSHeadRun.getT_eq s)
  unfold obAt
  rw [e]
  rfl
end TS
namespace TSW
open PySem
def refsB (tail : List Value) : List Value → Bool
  | .ref _ :: r => refsB tail r
  | l => l == tail
end TSW
namespace TS
open PySem PySem.Spec PyProof.Rows L2
/-! ### what a head says of exceptions' classes -/
/-- the built-in class below -/
def tailOf (B : String) : List Value := [.type B, .type "Exception", .type "BaseException", .type "object"]
/-- an own class over B, with or without its own __init__ -/
def exClsB (K : Fg) (C : Addr) (tail : List Value) (newId : String) : Bool := match K.lookup C with
  | some ⟨.type "type", _, .cls cd, sl⟩ => (match cd.mro, sl.toList with
    | .ref D :: bm, [_, _, _, _, some (.builtin n), _] => D == C && n == newId && !cd.hasDel && cd.hasDict && TSW.refsB tail bm
    | _, _ => false)
  | _ => false
def exKB (K : Fg) (C : Addr) (tail : List Value) (newId : String) : Bool := exClsB K C tail newId && (decide (PySem.W.findIn K (.ref C) "__setattr__" = some (some (.builtin "object.__setattr__"))) && (decide (PySem.W.subIn K (.ref C) (.type "BaseException") = some true) &&
  (decide (PySem.W.typeIn K (.ref C) = some (.type "type")) && PySem.W.keepIn K (.ref C))))
def exIsB (K : Fg) (C : Addr) : Bool := (PySem.W.clsIn K C).isSome && (decide (PySem.W.findIn K (.ref C) "__getattribute__" = some (some (.builtin "BaseException.__getattribute__"))) && (decide (PySem.W.findIn K (.ref C) "__getattr__" = some none) &&
  (decide (PySem.W.subIn K (.ref C) (.type "BaseException") = some true) && (decide (PySem.W.findIn K (.ref C) "__class__" = some (some (.builtin "object.__class__"))) && (decide (PySem.W.specialIn K (.builtin "object.__class__") "__get__" = some (some (.builtin "getset_descriptor.__get__"))) &&
  (decide (PySem.W.takesIn K (.builtin "object.__class__") = some true) && (decide (PySem.W.mroIn K C (.type "object") = some true) && PySem.W.hasDictIn K C)))))))
/-- where its own __init__ stands -/
def exI (K : Fg) (C : Addr) : Addr := He.ma K C "__init__"
def ckExI (K : Fg) (C : Addr) (f : Str) : Bool := He.eqO (PySem.W.findIn K (.ref C) "__init__") (some (some (.ref (exI K C)))) && (isFnT (PySem.W.typeIn K (.ref (exI K C))) && He.eqO (PySem.W.findIn K (.ref C) f) (some none))
def ckEx1 (K : Fg) (C : Addr) (tail : List Value) (newId : String) (f : Str) : Bool := exKB K C tail newId && ckExI K C f
def ckEx0 (K : Fg) (C : Addr) (tail : List Value) (newId : String) : Bool := exKB K C tail newId && PySem.W.excIn K C tail newId
/-- the base of an error's class: 20 ToneError, 21 StateError, 22 SizeError -/
def baseE (c : Nat) : Nat := if c ≤ 38 then 20 else if c ≤ 42 then 21 else 22
def bltE (c : Nat) : String := if c ≤ 38 then "ValueError" else if c ≤ 42 then "LookupError" else "ArithmeticError"
/-- is it so for these numbers? -/
def askK (K : Fg) (f : Nat → Addr) (c : Nat) : Bool := exIsB K (f c) && (((List.range 27).all fun i => decide (PySem.W.kitOne K (.ref (f c)) (.ref (f (20 + i))) = some (20 + i == c || 20 + i == baseE c))) &&
  ((["ValueError", "LookupError", "ArithmeticError"] : List String).all fun n => decide (PySem.W.kitOne K (.ref (f c)) (.type n) = some (n == bltE c))))
def ckIsaE (K : Fg) (f : Nat → Addr) (cs : List Nat) : Bool := cs.all fun c => askK K f c
def ckHit (K : Fg) (f : Nat → Addr) (cs : List Nat) : Bool := cs.all fun c => decide (PySem.W.exmAny K (.ref (f c)) [.ref (f 20), .ref (f 21), .ref (f 22)] = some true)
def ckFldE (K : Fg) (f : Nat → Addr) (cs : List Nat) (x : Str) : Bool := cs.all fun c => exIsB K (f c) && decide (PySem.W.findIn K (.ref (f c)) x = some none)
/-! ### their fields -/
def fieldsE (c : Nat) : List Str := ([["value"], ["value"], ["value"], ["index"], ["index"], ["index"], ["mode"], ["index"], ["text"], ["index"], ["command"], ["value"], ["value"], ["value"], ["value"], ["value"], [], ["value"], [], [], [], ["found"], ["found"], ["found"]] : List (List Str)).getD (c - 23) []
/-- those of the list that have this field -/
def fldCs (cs : List Nat) (f : Str) : List Nat := cs.filter fun c => decide (fieldsE c = [f])
/-- what stands at the interpreter's own table of modules is a dict -/
def ckSys (K : Fg) : Bool := match K.lookup sysModules with
  | some ⟨.type n, _, _, _⟩ => n == "dict"
  | _ => false
/-! ### the tables of the defs that make lambdas -/
/-- the code of the def at f -/
def codeAt (K : Fg) (f : Addr) : Option Value := match K.lookup f with
  | some ⟨_, _, .func fd, _⟩ => some fd.code
  | _ => none
/-- where a maker stands, its lambda's long name -/
abbrev LT := (Fg → Addr) × Str
def refOr (v : Option Value) : Addr := match v with
  | some (.ref c) => c
  | _ => 0
def lamC (K : Fg) (l : LT) : Addr := refOr (codeAt K (l.1 K))
def codeF (K : Fg) (c : Addr) : Array Value := match K.lookup c with
  | some ⟨.type "code", _, .fields vs, _⟩ => vs
  | _ => #[]
def lamP (K : Fg) (l : LT) : Addr := refOr (codeF K (lamC K l))[11]?
def isRefTo (v : Option Value) (a : Addr) : Bool := match v with
  | some (.ref c) => Nat.beq c a
  | _ => false
def isStrO (v : Option Value) : Bool := match v with
  | some (.str _ _) => true
  | _ => false
def isIntO (v : Option Value) : Bool := match v with
  | some (.int _ _) => true
  | _ => false
def isBoolO (v : Option Value) : Bool := match v with
  | some (.bool _) => true
  | _ => false
def isEmp (o : Option Obj) : Bool := match o with
  | some ⟨.none, .none, .fields a, s⟩ => Nat.beq a.toList.length 0 && Nat.beq s.toList.length 0
  | _ => false
def isSomeO (o : Option Obj) : Bool := match o with
  | some _ => true
  | none => false
def okLam (K Kt : Fg) (l : LT) : Bool := isRefTo (codeAt K (l.1 K)) (lamC K l) && (isRefTo (codeF K (lamC K l))[11]? (lamP K l) && (isStrO (codeF K (lamC K l))[18]? && (isIntO (codeF K (lamC K l))[7]? && (isBoolO (codeF K (lamC K l))[9]? &&
  (isIntO (codeF K (lamC K l))[10]? && (isEmp (Kt.lookup (lamP K l)) && (!(isSomeO (K.lookup (lamP K l))) && !(Nat.beq (lamC K l) (lamP K l)))))))))
def noDupA : List Addr → Bool
  | [] => true
  | a :: l => (l.all fun b => !(Nat.beq a b)) && noDupA l
def okLams (lams : List LT) (K Kt : Fg) : Bool := (lams.all fun l => okLam K Kt l) && noDupA (lams.map fun l => lamP K l)
def lamCs (lams : List LT) (K : Fg) : List (Addr × Addr) := lams.map fun l => (lamC K l, lamP K l)
def lamT (lams : List LT) (K : Fg) : List (Addr × Str) := lams.map fun l => (lamP K l, l.2)
theorem isRefTo_ok {v : Option Value} {a : Addr} (h : isRefTo v a = true) : v = some (.ref a) := by
  unfold isRefTo at h
  split at h
  · rw [Nat.eq_of_beq_eq_true h]
  · cases h
theorem isStrO_ok {v : Option Value} (h : isStrO v = true) : ∃ a b, v = some (.str a b) := by
  unfold isStrO at h
  split at h
  · exact ⟨_, _, rfl⟩
  · cases h
theorem isIntO_ok {v : Option Value} (h : isIntO v = true) : ∃ a b, v = some (.int a b) := by
  unfold isIntO at h
  split at h
  · exact ⟨_, _, rfl⟩
  · cases h
theorem isBoolO_ok {v : Option Value} (h : isBoolO v = true) : ∃ a, v = some (.bool a) := by
  unfold isBoolO at h
  split at h
  · exact ⟨_, rfl⟩
  · cases h
theorem isEmp_ok {o : Option Obj} (h : isEmp o = true) : o = some { cls := .none, data := .fields #[] } := by
  unfold isEmp at h
  split at h
  · rename_i a s
    obtain ⟨h1, h2⟩ := He.ba h
    obtain ⟨a⟩ := a
    obtain ⟨s⟩ := s
    have e1 : a = [] := List.eq_nil_of_length_eq_zero (Nat.eq_of_beq_eq_true h1)
    have e2 : s = [] := List.eq_nil_of_length_eq_zero (Nat.eq_of_beq_eq_true h2)
    subst e1 e2
    rfl
  · cases h
theorem isSomeO_no {o : Option Obj} (h : (!(isSomeO o)) = true) : o = none := by
  cases o with
  | none => rfl
  | some _ => cases h
theorem codeF_at {K : Fg} {c : Addr} {i : Nat} {v : Value} (h : (codeF K c)[i]? = some v) : ∃ dx vs sl, K.lookup c = some ⟨.type "code", dx, .fields vs, sl⟩ ∧ codeF K c = vs := by
  unfold codeF at h ⊢
  split at h
  · rename_i e
    exact ⟨_, _, _, e, rfl⟩
  · simp at h
theorem okLam_ok {K Kt : Fg} {l : LT} {h : Heap} (c : okLam K Kt l = true) (X : K.In h) (Y : Kt.In h) :
    codeAt K (l.1 K) = some (.ref (lamC K l)) ∧ h.get? (lamP K l) = some { cls := .none, data := .fields #[] } ∧ K.lookup (lamP K l) = none ∧ PySem.W.CodeHd h (lamC K l) (lamP K l) := by
  obtain ⟨c1, c⟩ := He.ba c
  obtain ⟨c2, c⟩ := He.ba c
  obtain ⟨c3, c⟩ := He.ba c
  obtain ⟨c4, c⟩ := He.ba c
  obtain ⟨c5, c⟩ := He.ba c
  obtain ⟨c6, c⟩ := He.ba c
  obtain ⟨c7, c⟩ := He.ba c
  obtain ⟨c8, c9⟩ := He.ba c
  have e2 := isRefTo_ok c2
  obtain ⟨s1, s2, e3⟩ := isStrO_ok c3
  obtain ⟨i1, i2, e4⟩ := isIntO_ok c4
  obtain ⟨b1, e5⟩ := isBoolO_ok c5
  obtain ⟨j1, j2, e6⟩ := isIntO_ok c6
  obtain ⟨dx, vs, sl, look, ev⟩ := codeF_at e2
  rw [ev] at e2 e3 e4 e5 e6
  have gd : ∀ {i : Nat} {v : Value}, vs[i]? = some v → vs.getD i Value.none = v := fun {i v} e => by rw [Array.getD_eq_getD_getElem?, e]; rfl
  refine ⟨isRefTo_ok c1, Y _ _ (isEmp_ok c7), isSomeO_no c8, _, vs, s1, s2, i1, i2, b1, j1, j2, X _ _ look, rfl, rfl, e2, gd e2, gd e3, gd e4, gd e5, gd e6, fun z => ?_⟩
  rw [← z] at c9
  simp at c9
theorem noDupA_at {f : LT → Addr} : ∀ {l : List LT}, noDupA (l.map f) = true → ∀ {a b : LT}, a ∈ l → b ∈ l → f a = f b → a = b
  | [], _, _, _, ha, _, _ => by cases ha
  | x :: l, h, a, b, ha, hb, e => by
    obtain ⟨h1, h2⟩ := He.ba (show ((l.map f).all (fun b => !(Nat.beq (f x) b)) && noDupA (l.map f)) = true from h)
    have far : ∀ y, y ∈ l → f x ≠ f y := fun y hy z => by
      have q := List.all_eq_true.mp h1 (f y) (List.mem_map.mpr ⟨y, hy, rfl⟩)
      rw [z] at q
      simp at q
    rcases List.mem_cons.mp ha with ea | ha'
    · rcases List.mem_cons.mp hb with eb | hb'
      · rw [ea, eb]
      · exact (far _ hb' (by rw [← ea]; exact e)).elim
    · rcases List.mem_cons.mp hb with eb | hb'
      · exact (far _ ha' (by rw [← eb]; exact e.symm)).elim
      · exact noDupA_at h2 ha' hb' e
section
variable {K Kt : Fg} {lams : List LT} {h : Heap}
theorem codesAt_of (c : okLams lams K Kt = true) (X : K.In h) (Y : Kt.In h) : CodesAt K h (lamCs lams K) := by
  obtain ⟨c1, _⟩ := He.ba c
  have all : ∀ p ∈ lamCs lams K, ∃ l ∈ lams, p = (lamC K l, lamP K l) := fun p hp => by
    obtain ⟨l, hl, e⟩ := List.mem_map.mp hp
    exact ⟨l, hl, e.symm⟩
  refine ⟨fun p hp => ?_, fun p hp => ?_, fun p hp => ?_⟩ <;> obtain ⟨l, hl, rfl⟩ := all p hp <;> obtain ⟨_, a, b, d⟩ := okLam_ok (List.all_eq_true.mp c1 l hl) X Y
  · exact a
  · exact b
  · exact d
theorem lam_code (c : okLams lams K Kt = true) (X : K.In h) (Y : Kt.In h) (i : Nat) {l : LT} (hl : lams[i]? = some l := by rfl) : codeAt K (l.1 K) = some (.ref (lamC K l)) := (okLam_ok (List.all_eq_true.mp (He.ba c).1 l (List.mem_of_getElem? hl)) X Y).1
end
/-! ### a Hook that looks at them too -/
def hookTab (as ts : List Addr) (fa : List He.Fa) (gs : List GT) (ss : List SupS) (file : Str) (ck : Fg → Bool) (lams : List LT) : PySem.W.Hook where
  α := AlP
  obs := fun s => obsS fa gs ss file (fun K => ck K && okLams lams K (He.frG s.heap.get? ts)) (He.frG s.heap.get? as)
  val := fun _ => valS gs ss
  says := fun _ h => ∃ K Kt : Fg, K.In h ∧ Kt.In h ∧ SaysS fa gs ss file ck K ∧ okLams lams K Kt = true
  of := fun _ _ e => by
    have z := saysS_of e
    obtain ⟨c1, c2⟩ := He.ba z.p.ck
    exact ⟨_, _, He.frG_in, He.frG_in, ⟨⟨z.p.fact, z.p.defs, c1⟩, z.sup⟩, c2⟩
  keeps := fun _ _ _ ⟨K, Kt, hK, hT, c, c2⟩ k => ⟨K, Kt, PySem.W.Frag.In.keeps hK k, PySem.W.Frag.In.keeps hT k, c, c2⟩
def obTab (as ts : List Addr) (fa : List He.Fa) (gs : List GT) (ss : List SupS) (file : Str) (ck : Fg → Bool) (lams : List LT) (s : PySem.W.SharedT) : AlP := obsS fa gs ss file (fun K => ck K && okLams lams K (He.frG (HandSHeadRun.getT s) ts)) (He.frG (HandSHeadRun.getT s) as)
theorem obTab_eq {as ts : List Addr} {fa : List He.Fa} {gs : List GT} {ss : List SupS} {file : Str} {ck : Fg → Bool} {lams : List LT} (s : PySem.W.SharedT) : obTab as ts fa gs ss file ck lams s = (hookTab as ts fa gs ss file ck lams).obs s.abs := by
  have e : HandSHeadRun.getT s = s.abs.heap.get? := funext (HandSHeadRun.getT_eq s)
  unfold obTab
  rw [e]
  rfl
end TS
namespace TS
open PySem PySem.Spec PyProof.Rows L2
/-- a statement of the text's top -/
def top (i : Nat) : Stmt := PySem.Challenge.pw_tonestacks_k03_products_and_quotients.main.body.getD i (.Pass ⟨0, 0, 0, 0⟩)
abbrev s_is_whole : Stmt := top 3
abbrev s_common : Stmt := top 5
abbrev s_lowest_terms : Stmt := top 6
abbrev s_Frac_init : Stmt := inClass (top 37) 0
abbrev s_Frac_top : Stmt := inClass (top 37) 3
abbrev s_Frac_bottom : Stmt := inClass (top 37) 4
abbrev s_Frac_eq : Stmt := inClass (top 37) 5
abbrev s_Frac_mul : Stmt := inClass (top 37) 12
abbrev s_Frac_str : Stmt := inClass (top 37) 16
abbrev s_Frac_repr : Stmt := inClass (top 37) 17
abbrev s_Frac_quotientX : Stmt := inClass (top 37) 18
abbrev s__law_cell : Stmt := top 39
abbrev s__law_pool : Stmt := top 40
abbrev s__law_draw : Stmt := top 41
abbrev s__law_low : Stmt := top 42
abbrev s__law_times : Stmt := top 43
abbrev s__law_share : Stmt := top 44
abbrev s__law_frac : Stmt := top 45
abbrev s__law_pair : Stmt := top 46
abbrev s__law_other_fields : Stmt := top 49
abbrev s__law_fields : Stmt := top 48
abbrev s__law_kind : Stmt := top 47
abbrev s__law_number : Stmt := top 51
abbrev s__law_pair_right : Stmt := top 52
abbrev s__law_wrong_right : Stmt := top 53
abbrev s__law_right : Stmt := top 54
abbrev s_law : Stmt := top 55
abbrev s_NotAFraction_init : Stmt := inClass (top 23) 0
abbrev s__law_caught : Stmt := top 50
/-- the classes -/
def caF (K : Fg) : Nat → Addr := fun c => match c with
  | 0 => He.ga K "Frac"
  | 20 => He.ga K "ToneError"
  | 21 => He.ga K "StateError"
  | 22 => He.ga K "SizeError"
  | 23 => He.ga K "InvalidFraction"
  | 24 => He.ga K "InvalidColor"
  | 25 => He.ga K "InvalidOpacity"
  | 26 => He.ga K "InvalidLayers"
  | 27 => He.ga K "InvalidPoints"
  | 28 => He.ga K "InvalidSamples"
  | 29 => He.ga K "InvalidMode"
  | 30 => He.ga K "InvalidIndex"
  | 31 => He.ga K "InvalidText"
  | 32 => He.ga K "InvalidAction"
  | 33 => He.ga K "InvalidCommand"
  | 34 => He.ga K "NotALayer"
  | 35 => He.ga K "NotAStack"
  | 36 => He.ga K "NotACurve"
  | 37 => He.ga K "NotAFraction"
  | 38 => He.ga K "NotAValue"
  | 39 => He.ga K "NotSettled"
  | 40 => He.ga K "NotSeen"
  | 41 => He.ga K "Busy"
  | 42 => He.ga K "NothingToUndo"
  | 43 => He.ga K "ZeroDivisor"
  | 44 => He.ga K "TooManyLayers"
  | 45 => He.ga K "TooManyCorners"
  | 46 => He.ga K "TooManyEntries"
  | _ => 0
abbrev lamM0 : LT := (fun K => He.ga K "_law_pair_right", ("_law_pair_right" : PySem.Str) ++ ".<locals>." ++ "<lambda>")
abbrev lamM1 : LT := (fun K => He.ga K "_law_wrong_right", ("_law_wrong_right" : PySem.Str) ++ ".<locals>." ++ "<lambda>")
def lams : List LT := [lamM0, lamM1]
def caK (K : Fg) : Ca := ⟨caF K, lamT lams K⟩
theorem isaOwn : ∀ e ∈ isaL, ∀ c, e.2.1 = Tg.own c → c = 0 := by
  intro e he c hc
  have h : isaL.all (fun e => match e.2.1 with | .own c => decide (c ∈ [0]) | _ => true) = true := by decide +kernel
  have h2 := List.all_eq_true.mp h e he
  rw [hc] at h2
  have h3 := of_decide_eq_true h2
  simpa only [List.mem_cons, List.not_mem_nil, or_false] using h3
theorem ckNe_ok {K : Fg} {C : Addr} (h : ckNe K C = true) : PySem.W.findIn K (.ref C) "__ne__" = some (some (.builtin "object.__ne__")) ∧ PySem.W.mroIn K C (.type "object") = some true := by
  obtain ⟨h1, h2⟩ := He.ba h
  exact ⟨He.eqO_ok h1, of_decide_eq_true h2⟩
theorem keep_of {K : Fg} {x qual : Str} {params : Arguments} {body : List Stmt} {scope : Scope} {dvs : List V} {kws : List (Str × V)} {f : Addr} {fd : FuncData} (F : FunD K x qual params body scope dvs kws f fd) : PySem.W.keepIn K (.ref f) = true := F.kp
def fas : List He.Fa := [.free "int", .free "isinstance", .cls "Frac", .free "bool", .free "abs", .glo "common", .glo "is_whole", .glo "lowest_terms", .noat "Frac" "under", .noat "Frac" "over", .glo "Frac", .mkr "Frac", .free "str", .meth "Frac" "__str__", .glo "NotAFraction", .glo "ZeroDivisor", .free "len", .free "divmod", .free "max", .glo "_law_low", .glo "InvalidMode", .glo "InvalidText", .glo "InvalidCommand", .glo "InvalidAction", .glo "InvalidIndex", .glo "InvalidSamples", .glo "InvalidPoints", .glo "InvalidLayers", .glo "TooManyEntries", .glo "TooManyCorners", .glo "TooManyLayers", .glo "NotACurve", .glo "NotAStack", .glo "NotALayer", .glo "InvalidOpacity", .glo "InvalidColor", .glo "InvalidFraction", .glo "NotSeen", .glo "NotAValue", .glo "_law_other_fields", .glo "Busy", .glo "NotSettled", .glo "NothingToUndo", .glo "SizeError", .glo "StateError", .glo "ToneError", .free "ArithmeticError", .free "LookupError", .free "ValueError", .glo "_law_draw", .glo "_law_frac", .free "repr", .meth "Frac" "__repr__", .meth "Frac" (PySem.dunder (Operator.info .Mult).2), .glo "_law_pair", .glo "_law_times", .glo "_law_share", .meth "Frac" "quotient", .glo "_law_kind", .glo "_law_fields", .glo "_law_caught", .meth "Frac" "__eq__", .free "range", .glo "_law_number", .glo "_law_wrong_right", .glo "_law_pair_right", .free "all", .free "min", .glo "_law_cell", .glo "_law_pool", .glo "_law_right", .glo "law"]
def gts : List GT := [(fun K => He.ga K "is_whole", ⟨("is_whole", none), "is_whole", "is_whole", defArgs s_is_whole, defBody s_is_whole, defScope s_is_whole, [], []⟩),
  (fun K => He.ga K "common", ⟨("common", none), "common", "common", defArgs s_common, defBody s_common, defScope s_common, [], []⟩),
  (fun K => He.ga K "lowest_terms", ⟨("lowest_terms", none), "lowest_terms", "lowest_terms", defArgs s_lowest_terms, defBody s_lowest_terms, defScope s_lowest_terms, [], []⟩),
  (fun K => He.ma K (He.ga K "Frac") "__init__", ⟨("__init__", none), "__init__", "Frac.__init__", defArgs s_Frac_init, defBody s_Frac_init, defScope s_Frac_init, [.int 1], []⟩),
  (fun K => prG K (He.ga K "Frac") "top", ⟨("top", none), "top", "Frac.top", defArgs s_Frac_top, defBody s_Frac_top, defScope s_Frac_top, [], []⟩),
  (fun K => prG K (He.ga K "Frac") "bottom", ⟨("bottom", none), "bottom", "Frac.bottom", defArgs s_Frac_bottom, defBody s_Frac_bottom, defScope s_Frac_bottom, [], []⟩),
  (fun K => He.ma K (He.ga K "Frac") "__eq__", ⟨("__eq__", none), "__eq__", "Frac.__eq__", defArgs s_Frac_eq, defBody s_Frac_eq, defScope s_Frac_eq, [], []⟩),
  (fun K => He.ma K (He.ga K "Frac") (PySem.dunder (Operator.info .Mult).2), ⟨("__mul__", none), "__mul__", "Frac.__mul__", defArgs s_Frac_mul, defBody s_Frac_mul, defScope s_Frac_mul, [], []⟩),
  (fun K => He.ma K (He.ga K "Frac") "__str__", ⟨("__str__", none), "__str__", "Frac.__str__", defArgs s_Frac_str, defBody s_Frac_str, defScope s_Frac_str, [], []⟩),
  (fun K => He.ma K (He.ga K "Frac") "__repr__", ⟨("__repr__", none), "__repr__", "Frac.__repr__", defArgs s_Frac_repr, defBody s_Frac_repr, defScope s_Frac_repr, [], []⟩),
  (fun K => He.ma K (He.ga K "Frac") "quotient", ⟨("quotient", none), "quotient", "Frac.quotient", defArgs s_Frac_quotientX, defBody s_Frac_quotientX, defScope s_Frac_quotientX, [], []⟩),
  (fun K => He.ga K "_law_cell", ⟨("_law_cell", none), "_law_cell", "_law_cell", defArgs s__law_cell, defBody s__law_cell, defScope s__law_cell, [], []⟩),
  (fun K => He.ga K "_law_pool", ⟨("_law_pool", none), "_law_pool", "_law_pool", defArgs s__law_pool, defBody s__law_pool, defScope s__law_pool, [], []⟩),
  (fun K => He.ga K "_law_draw", ⟨("_law_draw", none), "_law_draw", "_law_draw", defArgs s__law_draw, defBody s__law_draw, defScope s__law_draw, [], []⟩),
  (fun K => He.ga K "_law_low", ⟨("_law_low", none), "_law_low", "_law_low", defArgs s__law_low, defBody s__law_low, defScope s__law_low, [], []⟩),
  (fun K => He.ga K "_law_times", ⟨("_law_times", none), "_law_times", "_law_times", defArgs s__law_times, defBody s__law_times, defScope s__law_times, [], []⟩),
  (fun K => He.ga K "_law_share", ⟨("_law_share", none), "_law_share", "_law_share", defArgs s__law_share, defBody s__law_share, defScope s__law_share, [], []⟩),
  (fun K => He.ga K "_law_frac", ⟨("_law_frac", none), "_law_frac", "_law_frac", defArgs s__law_frac, defBody s__law_frac, defScope s__law_frac, [], []⟩),
  (fun K => He.ga K "_law_pair", ⟨("_law_pair", none), "_law_pair", "_law_pair", defArgs s__law_pair, defBody s__law_pair, defScope s__law_pair, [], []⟩),
  (fun K => He.ga K "_law_other_fields", ⟨("_law_other_fields", none), "_law_other_fields", "_law_other_fields", defArgs s__law_other_fields, defBody s__law_other_fields, defScope s__law_other_fields, [], []⟩),
  (fun K => He.ga K "_law_fields", ⟨("_law_fields", none), "_law_fields", "_law_fields", defArgs s__law_fields, defBody s__law_fields, defScope s__law_fields, [], []⟩),
  (fun K => He.ga K "_law_kind", ⟨("_law_kind", none), "_law_kind", "_law_kind", defArgs s__law_kind, defBody s__law_kind, defScope s__law_kind, [], []⟩),
  (fun K => He.ga K "_law_number", ⟨("_law_number", none), "_law_number", "_law_number", defArgs s__law_number, defBody s__law_number, defScope s__law_number, [], []⟩),
  (fun K => He.ga K "_law_pair_right", ⟨("_law_pair_right", none), "_law_pair_right", "_law_pair_right", defArgs s__law_pair_right, defBody s__law_pair_right, defScope s__law_pair_right, [], []⟩),
  (fun K => He.ga K "_law_wrong_right", ⟨("_law_wrong_right", none), "_law_wrong_right", "_law_wrong_right", defArgs s__law_wrong_right, defBody s__law_wrong_right, defScope s__law_wrong_right, [], []⟩),
  (fun K => He.ga K "_law_right", ⟨("_law_right", none), "_law_right", "_law_right", defArgs s__law_right, defBody s__law_right, defScope s__law_right, [], []⟩),
  (fun K => He.ga K "law", ⟨("law", none), "law", "law", defArgs s_law, defBody s_law, defScope s_law, [], []⟩),
  (fun K => He.ma K (He.ga K "NotAFraction") "__init__", ⟨("__init__", none), "__init__", "NotAFraction.__init__", defArgs s_NotAFraction_init, defBody s_NotAFraction_init, defScope s_NotAFraction_init, [], []⟩),
  (fun K => He.ga K "_law_caught", ⟨("_law_caught", none), "_law_caught", "_law_caught", defArgs s__law_caught, defBody s__law_caught, defScope s__law_caught, [], []⟩)]
def cks : List (Fg → Bool) := [(fun K => ckIsa K (caK K) isaL), (fun K => ckOc K (He.ga K "Frac")), (fun K => ckEx1 K (He.ga K "NotAFraction") (tailOf "ValueError") "ValueError.__new__" "value"), (fun K => ckEx0 K (He.ga K "ZeroDivisor") (tailOf "ArithmeticError") "ArithmeticError.__new__"), (fun K => ckPr K (He.ga K "Frac") "bottom"), (fun K => ckPr K (He.ga K "Frac") "top"), (fun K => ckIsaE K (caF K) [37, 43]), (fun K => ckFldE K (caF K) (fldCs [37, 43] "mode") "mode"), (fun K => ckFldE K (caF K) (fldCs [37, 43] "text") "text"), (fun K => ckFldE K (caF K) (fldCs [37, 43] "command") "command"), (fun K => ckFldE K (caF K) (fldCs [37, 43] "index") "index"), (fun K => ckFldE K (caF K) (fldCs [37, 43] "found") "found"), (fun K => ckFldE K (caF K) (fldCs [37, 43] "value") "value"), (fun K => PySem.W.selfFirst K (He.ga K "Frac")), (fun K => ckHit K (caF K) [37, 43]), (fun K => ckNs K (caK K) 0 tgs), (fun K => ckSys K)]
abbrev R : PySem.W.OpenRow := PySem.W.OpenLaw.row PySem.Challenge.rw_tonestacks_k03_products_and_quotients
def addrs0 : List Addr := [3, 6, 4, 21, 28, 33, 40, 47, 57, 77, 96, 115, 134, 153, 172, 191, 210, 229, 248, 267, 286, 305, 324, 343, 362, 374, 387, 406, 418, 430, 442, 455, 474, 493, 512, 521, 673, 684, 691, 698, 705, 712, 719, 726, 733, 740, 747, 754, 761, 768, 773, 780, 785, 790, 0, 20, 27, 32, 39, 46, 56, 76, 95, 114, 133, 152, 171, 190, 209, 228, 247, 266, 285, 304, 323, 342, 361, 373, 386, 405, 417, 429, 441, 454, 473, 492, 511, 520, 672, 683, 690, 697, 704, 711, 718, 725, 732, 739, 746, 753]
def addrs1 : List Addr := [760, 767, 772, 779, 784, 789, 15, 17, 18, 19, 22, 24, 25, 26, 29, 31, 34, 36, 37, 38, 41, 43, 44, 45, 55, 58, 74, 75, 93, 94, 112, 113, 131, 132, 150, 151, 169, 170, 188, 189, 207, 208, 226, 227, 245, 246, 264, 265, 283, 284, 302, 303, 321, 322, 340, 341, 359, 360, 372, 375, 385, 403, 404, 416, 428, 440, 443, 453, 471, 472, 490, 491, 509, 510, 515, 517, 518, 519, 536, 545, 555, 564, 572, 579, 586, 593, 600, 607, 614, 621, 628, 635, 642, 649, 656, 663, 670, 671, 674, 675]
def addrs2 : List Addr := [678, 680, 681, 682, 685, 687, 688, 689, 692, 694, 695, 696, 699, 701, 702, 703, 706, 708, 709, 710, 713, 715, 716, 717, 720, 722, 723, 724, 727, 729, 730, 731, 734, 736, 737, 738, 741, 743, 744, 745, 748, 750, 751, 752, 755, 757, 758, 759, 762, 764, 765, 766, 769, 771, 774, 776, 777, 778, 781, 783, 786, 788, 73, 92, 111, 130, 149, 168, 187, 206, 225, 244, 263, 282, 301, 320, 339, 358, 402, 470, 489, 508, 535, 529, 543, 544, 553, 554, 563, 571, 578, 585, 592, 599, 606, 613, 620, 627, 634, 641]
def addrs3 : List Addr := [648, 655, 662, 669, 68, 70, 71, 72, 87, 89, 90, 91, 106, 108, 109, 110, 125, 127, 128, 129, 144, 146, 147, 148, 163, 165, 166, 167, 182, 184, 185, 186, 201, 203, 204, 205, 220, 222, 223, 224, 239, 241, 242, 243, 258, 260, 261, 262, 277, 279, 280, 281, 296, 298, 299, 300, 315, 317, 318, 319, 334, 336, 337, 338, 353, 355, 356, 357, 397, 399, 400, 401, 465, 467, 468, 469, 484, 486, 487, 488, 503, 505, 506, 507, 530, 532, 533, 534, 542, 546, 552, 556, 562, 570, 573, 575, 576, 577, 580, 582]
def addrs4 : List Addr := [583, 584, 587, 589, 590, 591, 594, 596, 597, 598, 601, 603, 604, 605, 608, 610, 611, 612, 615, 617, 618, 619, 622, 624, 625, 626, 629, 631, 632, 633, 636, 638, 639, 640, 643, 645, 646, 647, 650, 652, 653, 654, 657, 659, 660, 661, 664, 666, 667, 668, 2, 1]
def addrs : List Addr := addrs0 ++ addrs1 ++ addrs2 ++ addrs3 ++ addrs4
def tabs : List Addr := [16, 23, 30, 35, 42, 516, 679, 686, 693, 700, 707, 714, 721, 728, 735, 742, 749, 756, 763, 770, 775, 782, 787, 69, 88, 107, 126, 145, 164, 183, 202, 221, 240, 259, 278, 297, 316, 335, 354, 398, 466, 485, 504, 531, 574, 581, 588, 595, 602, 609, 616, 623, 630, 637, 644, 651, 658, 665, 538, 548, 558, 566]
def sups : List SupS := []
def fileN : Str := PySem.Challenge.pw_tonestacks_k03_products_and_quotients.main.file
abbrev hk : PySem.W.Hook := hookTab addrs tabs fas gts sups fileN (ckAll cks) lams
def ob : PySem.W.SharedT → AlP := obTab addrs tabs fas gts sups fileN (ckAll cks) lams
theorem ob_eq (s : PySem.W.SharedT) : ob s = hk.obs s.abs := obTab_eq s
def names0 : List PySem.Str := ["_wall", "__name__", "DIGITS", "is_whole", "read_number", "common", "lowest_terms", "ToneError", "InvalidFraction", "InvalidColor", "InvalidOpacity", "InvalidLayers", "InvalidPoints", "InvalidSamples", "InvalidMode", "InvalidIndex", "InvalidText", "InvalidAction", "InvalidCommand", "NotALayer", "NotAStack", "NotACurve", "NotAFraction", "NotAValue", "StateError", "NotSettled", "NotSeen", "Busy", "NothingToUndo", "SizeError"]
def names1 : List PySem.Str := ["ZeroDivisor", "TooManyLayers", "TooManyCorners", "TooManyEntries", "read_pair", "Frac", "_law_cell", "_law_pool", "_law_draw", "_law_low", "_law_times", "_law_share", "_law_frac", "_law_pair", "_law_kind", "_law_fields", "_law_other_fields", "_law_caught", "_law_number", "_law_pair_right", "_law_wrong_right", "_law_right"]
def names : List PySem.Str := names0 ++ names1
theorem run (w : World) : HandSHeadRun.RunEq R (PySem.W.view R.prog [55]) hk ob 20000 names w := by
  intro os
  kernel_rfl
end TS
namespace TS
open PySem PySem.Spec PyProof.Rows L2 TSR
/-! ### what the laws' own functions do -/
/-- a pool of drawn numbers -/
def PoolAt (M : Mem) (p : Addr) (n : Nat) : Prop := ∃ s g c : Int, M p = some (.lst [.int s, .int g, .int c]) ∧ 0 ≤ s ∧ s < 1000000007 ∧ 0 ≤ g ∧ 0 ≤ c ∧ c ≤ n
theorem PoolAt.mono {M : Mem} {p : Addr} {n m : Nat} (h : PoolAt M p n) (l : n ≤ m) : PoolAt M p m := by
  obtain ⟨s, g, c, h1, h2, h3, h4, h5, h6⟩ := h
  exact ⟨s, g, c, h1, h2, h3, h4, h5, by omega⟩
theorem PoolAt.same {M M' : Mem} {p : Addr} {n : Nat} (h : PoolAt M p n) (e : M' p = M p) : PoolAt M' p n := by
  obtain ⟨s, g, c, h1, h2⟩ := h
  exact ⟨s, g, c, e.trans h1, h2⟩
/-- nothing but p is written -/
def Only1 (M M' : Mem) (p : Addr) : Prop := ∀ q, q ≠ p → M' q = M q
theorem Only1.rfl' {M : Mem} {p : Addr} : Only1 M M p := fun _ _ => rfl
theorem Only1.set {M M' : Mem} {p : Addr} {m : MO} (h : Only1 M M' p) : Only1 M (M'.set p m) p := fun q hq => (Mem.set_ne hq).trans (h q hq)
theorem Only1.trans {M M' M'' : Mem} {p : Addr} (h : Only1 M M' p) (h' : Only1 M' M'' p) : Only1 M M'' p := fun q hq => (h' q hq).trans (h q hq)
def sp__law_draw : DSp := p2 fun a b M E Q => ∃ p m n, a = .ref p ∧ b = .int m ∧ PoolAt M p n ∧ n < 100000 ∧ 0 < m ∧ m.natAbs < 2 ^ 8000 ∧ ∀ d M', 0 ≤ d → d < m → PoolAt M' p (n + 1) → Only1 M M' p → Q (.int d) M'
def sp__law_pool : DSp := p1 fun a M E Q => ∃ i, a = .int i ∧ ∀ p M', M p = none → PoolAt M' p 0 → Only1 M M' p → Q (.ref p) M'
def sp__law_cell : DSp := p2 fun a b M E Q => ∃ (ns : List Int) (k : Int), a = .lst (ns.map D.int) ∧ b = .int k ∧ 0 ≤ k ∧ k < 1000 ∧ ns.length ≤ 63 ∧ ∀ i, Q (.int i) M
def sp__law_low : DSp := p2 (i2 fun i j M E Q => j ≠ 0 ∧ i.natAbs < 2 ^ 8000 ∧ j.natAbs < 2 ^ 8000 ∧ Q (pr (Rat.divInt i j)) M)
def N__law_cell : List PySem.Str := ["_law_script", "_law_k", "_law_state", "_law_cell_here"]
def b__law_cell_1 : DTS := (sAsg (dBin oMod0 (dBin oAdd0 (dBin oMul0 (dVar 2) (dC (.int 30011))) (dVar 3)) (dC (.int 1000000007))) (gNameD 2))
def t__law_cell : DTS := (sSeq (sIf (dB (dBin oLt0 (dVar 1) (dCB (b1 bLen) (dCons (dVar 0) dNil)))) (sRet (dBin oIx0 (dVar 0) (dVar 1))) sNext) (sSeq (sAsg (dBin oMod0 (dBin oMul0 (dC (.int 50021)) (dBin oAdd0 (dBin oAdd0 (dBin oMul0 (dVar 1) (dVar 1)) (dBin oMul0 (dC (.int 7)) (dVar 1))) (dC (.int 3)))) (dC (.int 1000000007))) (gNameD 2)) (sSeq (sFor (dSeq (dSlice (dVar 0) dNoPart (dPart (dC (.int 3))))) (gNameD 3) b__law_cell_1) (sRet (dVar 2)))))
def N__law_pool : List PySem.Str := ["_law_cell_here", "_law_digits"]
def t__law_pool : DTS := (sSeq (sAsg (dC (.int 0)) (gNameD 1)) (sSeq (sIf (dOr (dB (dBin oLt0 (dVar 0) (dC (.int 0)))) (dB (dBin oGe0 (dVar 0) (dBin oPow0 (dC (.int 10)) (dC (.int 18)))))) (sAsg (dCB (b1 bAbs) (dCons (dVar 0) dNil)) (gNameD 1)) sNext) (sRet (dLstM (dCons (dBin oMod0 (dVar 0) (dC (.int 1000000007))) (dCons (dVar 1) (dCons (dC (.int 0)) dNil)))))))
def N__law_draw : List PySem.Str := ["_law_pool_here", "_law_many", "_law_state", "_law_digit"]
def t__law_draw : DTS := (sSeq (sAsg (dBin oAdd0 (dBin oIx0 (dVar 0) (dC (.int 2))) (dC (.int 1))) (gSubD (dVar 0) (dC (.int 2)))) (sSeq (sAsg (dBin oIx0 (dVar 0) (dC (.int 0))) (gNameD 2)) (sSeq (sAsg (dBin oMod0 (dBin oAdd0 (dBin oAdd0 (dBin oMul0 (dVar 2) (dBin oAdd0 (dBin oMod0 (dVar 2) (dC (.int 46007))) (dC (.int 20011)))) (dBin oMul0 (dC (.int 60013)) (dBin oIx0 (dVar 0) (dC (.int 2))))) (dC (.int 5))) (dC (.int 1000000007))) (gSubD (dVar 0) (dC (.int 0)))) (sSeq (sIf (dB (dBin oGt0 (dBin oIx0 (dVar 0) (dC (.int 1))) (dC (.int 0)))) (sSeq (sAsg (dCB (b2 bDivmod) (dCons (dBin oIx0 (dVar 0) (dC (.int 1))) (dCons (dVar 1) dNil))) (gTupD (gsCons (gSubD (dVar 0) (dC (.int 1))) (gsCons (gNameD 3) gsNil)) 2)) (sRet (dVar 3))) sNext) (sRet (dBin oMod0 (dBin oDiv0 (dBin oIx0 (dVar 0) (dC (.int 0))) (dC (.int 32))) (dVar 1)))))))
def N__law_low : List PySem.Str := ["_law_upon", "_law_below", "_law_a", "_law_b", "_law_sign"]
def t__law_low : DTS := (sSeq (sPar 2 3 (dCons (dCB (b1 bAbs) (dCons (dVar 0) dNil)) (dCons (dCB (b1 bAbs) (dCons (dVar 1) dNil)) dNil))) (sSeq (sWhile (dB (dBin oGt0 (dVar 3) (dC (.int 0)))) (sPar 2 3 (dCons (dVar 3) (dCons (dBin oMod0 (dVar 2) (dVar 3)) dNil)))) (sSeq (sAsg (dIf (dB (dBin oLt0 (dVar 1) (dC (.int 0)))) (dUn uNeg0 (dC (.int 1))) (dC (.int 1))) (gNameD 4)) (sRet (dTup (dCons (dBin oDiv0 (dBin oMul0 (dVar 4) (dVar 0)) (dCB (b2 bMax) (dCons (dC (.int 1)) (dCons (dVar 2) dNil)))) (dCons (dBin oDiv0 (dCB (b1 bAbs) (dCons (dVar 1) dNil)) (dCB (b2 bMax) (dCons (dC (.int 1)) (dCons (dVar 2) dNil)))) dNil)))))))

section
variable {M : Mem} {p : Addr} {l : List D} {i : Int} {d v : D} {E : XD} {Q : QD} {n : Nat}
theorem ixM (h : M p = some (.lst l)) (e : atI l i = some d) (q : Q d M) : oIx0 (.ref p) (.int i) M E Q := by
  simp only [oIx0, asL, h, e]
  exact q
theorem ixT (e : atI l i = some d) (q : Q d M) : oIx0 (.tup l) (.int i) M E Q := by
  simp only [oIx0, e]
  exact q
theorem ixL (e : atI l i = some d) (q : Q d M) : oIx0 (.lst l) (.int i) M E Q := by
  simp only [oIx0, asL, e]
  exact q
theorem ixP0 {q : Rat} (h : Q (.int q.num) M) : oIx0 (pr q) (.int 0) M E Q := ixT rfl h
theorem ixP1 {q : Rat} (h : Q (.int q.den) M) : oIx0 (pr q) (.int 1) M E Q := ixT rfl h
theorem setAt_eq (h : M p = some (.lst l)) (e : ixN l.length i = some n) : setAt M (.ref p) (.int i) v = some (M.set p (.lst (l.set n v))) := by
  simp only [setAt, memL, h, e]
end
theorem fm (a : Int) (b : Int) (h : 0 ≤ b) : a.fmod b = a % b := Int.fmod_eq_emod_of_nonneg _ h
theorem len__law_draw : ∀ ds M E Q, sp__law_draw ds M E Q → ds.length = [("_law_pool_here" : Str), "_law_many"].length := p2_len
theorem pure__law_draw : Pure sp__law_draw t__law_draw N__law_draw := pure2 fun a b M E Q h => by
  obtain ⟨p, m, n, rfl, rfl, ⟨s, g, c, hm, h1, h2, h3, h4, h5⟩, hn, hm0, hmz, hq⟩ := h
  simp only [t__law_draw, startD, N__law_draw, sSeq, sAsg, sIf, sRet, sNext, dBin, dVar, dC, gSubD, gNameD, gt, stt, oAdd0, oMul0, oMod0, dB, oCmpI, dCB, dCons, dNil, b2, gTupD, gsCons, gsNil, List.map, List.length, List.replicate, Nat.reduceSub, Nat.reduceAdd, List.nil_append, List.cons_append]
  refine ixM hm rfl ?_
  dsimp only
  rw [setAt_eq hm rfl]
  dsimp only
  refine ixM Mem.set_same rfl ?_
  dsimp only
  have f1 := fm s 46007 (by decide)
  have b1 : mulOk s (s.fmod 46007 + 20011) := mulOk_of (n := 31) (m := 31) (by show _ < 2147483648; omega) (by show _ < 2147483648; omega)
  refine ⟨by decide, b1, ?_⟩
  refine ixM Mem.set_same rfl ?_
  dsimp only
  have b2 : mulOk 60013 (c + 1) := mulOk_of (n := 31) (m := 31) (by decide) (by show _ < 2147483648; omega)
  refine ⟨b2, by decide, ?_⟩
  rw [setAt_eq Mem.set_same rfl]
  rw [Mem.set_set]
  dsimp only
  generalize hs : (s * (s.fmod 46007 + 20011) + 60013 * (c + 1) + 5).fmod 1000000007 = s'
  have hs' : 0 ≤ s' ∧ s' < 1000000007 := by
    rw [← hs, fm _ _ (by decide)]
    exact ⟨Int.emod_nonneg _ (by decide), Int.emod_lt_of_pos _ (by decide)⟩
  refine ixM Mem.set_same rfl ?_
  refine ⟨_, rfl, ?_⟩
  have hl := log2_of (m := 9000) hmz (by decide) (by decide)
  by_cases hg : 0 < g
  · rw [if_pos (decide_eq_true hg)]
    refine ixM Mem.set_same rfl ?_
    refine ⟨by omega, hl, rfl, ?_⟩
    dsimp only
    rw [setAt_eq Mem.set_same rfl]
    rw [Mem.set_set]
    dsimp only
    refine ⟨rfl, ?_⟩
    rw [fm _ _ (by omega)]
    refine hq _ _ (Int.emod_nonneg _ (by omega)) (Int.emod_lt_of_pos _ hm0) ?_ (Only1.rfl'.set)
    refine ⟨s', g.fdiv m, c + 1, Mem.set_same, hs'.1, hs'.2, ?_, by omega, by omega⟩
    rw [Int.fdiv_eq_ediv_of_nonneg _ (by omega)]
    exact Int.ediv_nonneg h3 (by omega)
  · rw [if_neg (by simpa using hg)]
    refine ixM Mem.set_same rfl ?_
    refine ⟨by decide, by decide +kernel, by omega, ?_⟩
    rw [fm _ _ (by omega)]
    refine hq _ _ (Int.emod_nonneg _ (by omega)) (Int.emod_lt_of_pos _ hm0) ?_ (Only1.rfl'.set)
    exact ⟨s', g, c + 1, Mem.set_same, hs'.1, hs'.2, h3, by omega, by omega⟩
theorem len__law_pool : ∀ ds M E Q, sp__law_pool ds M E Q → ds.length = [("_law_cell_here" : Str)].length := p1_len
theorem pure__law_pool : Pure sp__law_pool t__law_pool N__law_pool := pure1 fun a M E Q h => by
  obtain ⟨i, rfl, hq⟩ := h
  simp only [t__law_pool, startD, N__law_pool, dVar, dC, dCons, dNil, dTup, dLst, dLstM, dBin, dUn, dCB, dCall, dB, dAnd, dOr, dNot, dAndV, dOrV, dNotV, dIf, dOrT, dAndT, dFld, dSlice, dPart, dNoPart, dStill, dFresh, dComp, dJoined, dJs, dFmt, dBM, dTruth, dYes, b1, b2, oAdd0, oSub0, oMul0, oDiv0, oMod0, oPow0, oCmpI, oIx0, bAbs, bInt, bBool, bStr, bLen, bMax, bMin, bDivmod, uNeg0, sSeq, sAsg, sIf, sRet, sRetN, sNext, sPar, sDrop, sNever, gNameD, gTupD, gsCons, gsNil, gt, stt, List.nil_append, List.cons_append, List.append_nil, truD, wipeD, bdName, List.map, List.length, List.replicate, Nat.reduceSub, Nat.reduceAdd]
  have fin : ∀ g, 0 ≤ g → (i.fmod 1000000007 = i.fmod 1000000007 → ((1000000007 : Int) ≠ 0 ∧ 0 + 1 + 1 + 1 ≤ sizeLine ∧ ∀ (p : Addr), M p = none → Q (D.ref p) (M.set p (MO.lst [D.int (i.fmod 1000000007), D.int g, D.int 0])))) := fun g hg _ => by
    refine ⟨by decide, by decide, fun p hp => hq p _ hp ?_ (Only1.rfl'.set)⟩
    rw [fm _ _ (by decide)]
    exact ⟨_, _, _, Mem.set_same, Int.emod_nonneg _ (by decide), Int.emod_lt_of_pos _ (by decide), hg, by decide, by decide⟩
  refine ⟨_, rfl, ?_⟩
  by_cases h0 : i < 0
  · rw [if_pos (decide_eq_true h0), if_pos trivial]
    exact fin _ (by rw [abs_nat]; omega) rfl
  · rw [if_neg (by simpa using h0)]
    refine ⟨⟨by decide, by decide, by decide⟩, _, rfl, ?_⟩
    by_cases h1 : (10 : Int) ^ (18 : Int).toNat ≤ i
    · rw [if_pos (decide_eq_true h1)]
      exact fin _ (by rw [abs_nat]; omega) rfl
    · rw [if_neg (by simpa using h1)]
      exact fin _ (by decide) rfl
theorem len__law_low : ∀ ds M E Q, sp__law_low ds M E Q → ds.length = [("_law_upon" : Str), "_law_below"].length := p2_len
theorem low_loop (Z : DEnds) (M : Mem) (x y : Option D) : ∀ (n i j : Nat), j < n → Z.nx [x, y, some (.int (i.gcd j : Nat)), some (.int 0), none] M →
    WhL (dB (dBin oGt0 (dVar 3) (dC (.int 0)))) (sPar 2 3 (dCons (dVar 3) (dCons (dBin oMod0 (dVar 2) (dVar 3)) dNil))) Z n [x, y, some (.int (i : Nat)), some (.int (j : Nat)), none] M
  | 0, _, _, h, _ => absurd h (Nat.not_lt_zero _)
  | n + 1, i, j, h, q => by
    simp only [WhL, dVar, dC, dCons, dNil, dTup, dLst, dLstM, dBin, dUn, dCB, dCall, dB, dAnd, dOr, dNot, dAndV, dOrV, dNotV, dIf, dOrT, dAndT, dFld, dSlice, dPart, dNoPart, dStill, dFresh, dComp, dJoined, dJs, dFmt, dBM, dTruth, dYes, b1, b2, oAdd0, oSub0, oMul0, oDiv0, oMod0, oPow0, oCmpI, oIx0, bAbs, bInt, bBool, bStr, bLen, bMax, bMin, bDivmod, uNeg0, sSeq, sAsg, sIf, sRet, sRetN, sNext, sPar, sDrop, sNever, gNameD, gTupD, gsCons, gsNil, gt, stt, List.nil_append, List.cons_append, List.append_nil, truD, wipeD, bdName]
    refine ⟨_, rfl, ?_⟩
    by_cases hj : 0 < j
    · rw [if_pos (decide_eq_true (by omega))]
      refine ⟨by omega, ?_⟩
      rw [mod_nat]
      refine low_loop Z M x y n j (i % j) ?_ ?_
      · have := Nat.mod_lt i hj; omega
      · rw [gcd_step i j hj]; exact q
    · have e : j = 0 := by omega
      subst e
      rw [if_neg (by simp)]
      rw [Nat.gcd_zero_right] at q
      exact q
theorem pure__law_low : Pure sp__law_low t__law_low N__law_low := pure2 fun a b M E Q h => by
  obtain ⟨i, j, rfl, rfl, h1, h0, h2, h⟩ := i2_of h
  have hg : 0 < i.natAbs.gcd j.natAbs := Nat.gcd_pos_of_pos_right _ (Int.natAbs_pos.mpr h1)
  have hgl : i.natAbs.gcd j.natAbs ≤ j.natAbs := Nat.gcd_le_right _ (Int.natAbs_pos.mpr h1)
  have n1 := low2n (a := i) h1
  have n2 := low2d (a := i) h1
  have hlt : i.natAbs.gcd j.natAbs < 2 ^ 8000 := Nat.lt_of_le_of_lt hgl h2
  have hl9 : (i.natAbs.gcd j.natAbs).log2 < 9000 := Nat.lt_of_lt_of_le (log2_lt hlt (by decide)) (show 8000 ≤ 9000 by decide)
  have e : Q (.tup [.int (Rat.divInt i j).num, .int (Rat.divInt i j).den]) M := h
  have mx : (if ((i.natAbs.gcd j.natAbs : Nat) : Int) > 1 then ((i.natAbs.gcd j.natAbs : Nat) : Int) else 1) = ((i.natAbs.gcd j.natAbs : Nat) : Int) := by split <;> omega
  simp only [t__law_low, startD, N__law_low, sWhile, dVar, dC, dCons, dNil, dTup, dLst, dLstM, dBin, dUn, dCB, dCall, dB, dAnd, dOr, dNot, dAndV, dOrV, dNotV, dIf, dOrT, dAndT, dFld, dSlice, dPart, dNoPart, dStill, dFresh, dComp, dJoined, dJs, dFmt, dBM, dTruth, dYes, b1, b2, oAdd0, oSub0, oMul0, oDiv0, oMod0, oPow0, oCmpI, oIx0, bAbs, bInt, bBool, bStr, bLen, bMax, bMin, bDivmod, uNeg0, sSeq, sAsg, sIf, sRet, sRetN, sNext, sPar, sDrop, sNever, gNameD, gTupD, gsCons, gsNil, gt, stt, List.nil_append, List.cons_append, List.append_nil, truD, wipeD, bdName, abs_nat, List.map, List.length, List.replicate, Nat.reduceSub, Nat.reduceAdd]
  refine ⟨j.natAbs + 1, low_loop _ M _ _ (j.natAbs + 1) i.natAbs j.natAbs (Nat.lt_succ_self _) ?_⟩
  simp only [dVar, dC, dCons, dNil, dTup, dLst, dLstM, dBin, dUn, dCB, dCall, dB, dAnd, dOr, dNot, dAndV, dOrV, dNotV, dIf, dOrT, dAndT, dFld, dSlice, dPart, dNoPart, dStill, dFresh, dComp, dJoined, dJs, dFmt, dBM, dTruth, dYes, b1, b2, oAdd0, oSub0, oMul0, oDiv0, oMod0, oPow0, oCmpI, oIx0, bAbs, bInt, bBool, bStr, bLen, bMax, bMin, bDivmod, uNeg0, sSeq, sAsg, sIf, sRet, sRetN, sNext, sPar, sDrop, sNever, gNameD, gTupD, gsCons, gsNil, gt, stt, List.nil_append, List.cons_append, List.append_nil, truD, wipeD, bdName, abs_nat]
  refine ⟨_, rfl, ?_⟩
  by_cases hj : j < 0
  · rw [if_pos (decide_eq_true hj)]
    rw [if_pos hj] at n1
    rw [mx, n1, n2]
    refine ⟨mulOk_of (n := 1) (by decide) h0, by omega, by rw [Int.natAbs_natCast]; exact hl9, by omega, by rw [Int.natAbs_natCast]; exact hl9, by decide, e⟩
  · rw [if_neg (by simpa using hj)]
    rw [if_neg hj] at n1
    rw [mx, n1, n2]
    refine ⟨mulOk_of (n := 1) (by decide) h0, by omega, by rw [Int.natAbs_natCast]; exact hl9, by omega, by rw [Int.natAbs_natCast]; exact hl9, by decide, e⟩
/-! a number of the script -/
theorem len__law_cell : ∀ ds M E Q, sp__law_cell ds M E Q → ds.length = [("_law_script" : Str), "_law_k"].length := p2_len
theorem cell_loop (Z : DEnds) (M : Mem) (x y : Option D) (hz : ∀ i z, Z.nx [x, y, some (.int i), z] M) : ∀ (ns : List Int) (s : Int) (z : Option D), 0 ≤ s → s < 1000000007 →
    ForL (gNameD 3) (sAsg (dBin oMod0 (dBin oAdd0 (dBin oMul0 (dVar 2) (dC (.int 30011))) (dVar 3)) (dC (.int 1000000007))) (gNameD 2)) Z (ns.map D.int) [x, y, some (.int s), z] M
  | [], s, z, _, _ => hz s z
  | n :: ns, s, z, h1, h2 => by
    simp only [List.map, ForL, dVar, dC, dCons, dNil, dTup, dLst, dLstM, dBin, dUn, dCB, dCall, dB, dAnd, dOr, dNot, dAndV, dOrV, dNotV, dIf, dOrT, dAndT, dFld, dSlice, dPart, dNoPart, dStill, dFresh, dComp, dJoined, dJs, dFmt, dBM, dTruth, dYes, b1, b2, oAdd0, oSub0, oMul0, oDiv0, oMod0, oPow0, oCmpI, oIx0, bAbs, bInt, bBool, bStr, bLen, bMax, bMin, bDivmod, uNeg0, sSeq, sAsg, sIf, sRet, sRetN, sNext, sPar, sDrop, sNever, gNameD, gTupD, gsCons, gsNil, gt, stt, List.nil_append, List.cons_append, List.append_nil, truD, wipeD, bdName]
    refine ⟨mulOk_of (n := 31) (m := 31) (by show _ < 2147483648; omega) (by decide), by decide, ?_⟩
    rw [fm _ _ (by decide)]
    exact cell_loop Z M x y hz ns _ _ (Int.emod_nonneg _ (by decide)) (Int.emod_lt_of_pos _ (by decide))
theorem pure__law_cell : Pure sp__law_cell t__law_cell N__law_cell := pure2 fun a b M E Q h => by
  obtain ⟨ns, k, rfl, rfl, h0, h1, hl, h⟩ := h
  simp only [t__law_cell, startD, N__law_cell, sFor, sSeq, sAsg, sIf, sRet, sNext, dBin, dVar, dC, gNameD, gt, stt, oAdd0, oMul0, oMod0, dB, oCmpI, dCB, dCons, dNil, b1, bLen, asL, dSeq, dSlice, dNoPart, dPart, sliceD, asSeq, List.map, List.length, List.replicate, Nat.reduceSub, Nat.reduceAdd, List.nil_append, List.cons_append]
  refine ⟨_, rfl, ?_⟩
  by_cases hk : k < ((ns.map D.int).length : Int)
  · rw [if_pos (decide_eq_true hk)]
    have hk' : k.toNat < ns.length := by rw [List.length_map] at hk; omega
    refine ixL (d := .int (ns[k.toNat])) ?_ (h _)
    unfold atI ixN
    rw [if_pos h0, if_pos hk]
    simp [hk']
  · rw [if_neg (by simpa using hk)]
    refine ⟨mulOk_of (n := 31) (m := 31) (by show _ < 2147483648; omega) (by show _ < 2147483648; omega), mulOk_of (n := 31) (m := 31) (by decide) (by show _ < 2147483648; omega), ?_, by decide, ?_⟩
    · have e1 : (k * k).natAbs < 2 ^ 20 := by
        rw [Int.natAbs_mul]
        exact mul_lt (n := 10) (m := 10) (by show _ < 1024; omega) (by show _ < 1024; omega)
      exact mulOk_of (n := 31) (m := 31) (by decide) (by show _ < 2147483648; have e1 : (k * k).natAbs < 1048576 := e1; omega)
    · have e : cutD (ns.map D.int) none (some 3) = (ns.take 3).map D.int := by
        unfold cutD
        have hi : HT.sIx (ns.map D.int).length 0 none = 0 := rfl
        have hj : HT.sIx (ns.map D.int).length (ns.map D.int).length (some 3) = min 3 (ns.map D.int).length := by simp [HT.sIx]
        rw [hi, hj, List.drop_zero, Nat.sub_zero, List.map_take]
        rcases Nat.le_total 3 (ns.map D.int).length with q | q
        · rw [Nat.min_eq_left q]
        · rw [Nat.min_eq_right q, List.take_length, List.take_of_length_le q]
      rw [e, fm _ _ (by decide)]
      refine cell_loop _ M _ _ (fun i z => ?_) _ _ _ (Int.emod_nonneg _ (by decide)) (Int.emod_lt_of_pos _ (by decide))
      simp only [dVar, dC, dCons, dNil, dTup, dLst, dLstM, dBin, dUn, dCB, dCall, dB, dAnd, dOr, dNot, dAndV, dOrV, dNotV, dIf, dOrT, dAndT, dFld, dSlice, dPart, dNoPart, dStill, dFresh, dComp, dJoined, dJs, dFmt, dBM, dTruth, dYes, b1, b2, oAdd0, oSub0, oMul0, oDiv0, oMod0, oPow0, oCmpI, oIx0, bAbs, bInt, bBool, bStr, bLen, bMax, bMin, bDivmod, uNeg0, sSeq, sAsg, sIf, sRet, sRetN, sNext, sPar, sDrop, sNever, gNameD, gTupD, gsCons, gsNil, gt, stt, List.nil_append, List.cons_append, List.append_nil, truD, wipeD, bdName]
      exact h i
end TS
namespace TS
open PySem PySem.Spec PyProof.Rows L2 TSR
/-! ### what the laws ask of fractions: readings turned to what they say -/
section
variable {M : Mem} {E : XD} {Q : QD} {p q : Rat} {f : Bool → Bool}
theorem own2 {sp : DSp} : oOwn (tl [(0, sp)]) (fr p) (fr q) M E Q = sp [fr p, fr q] M E Q := propext ⟨fun h => h.2, fun h => ⟨rfl, h⟩⟩
theorem s1 {r : Rat → Mem → XD → QD → Prop} : p1 (f1 r) [fr p] M E Q = r p M E Q := propext f1_fr
theorem s2 {r : Rat → Rat → Mem → XD → QD → Prop} : p2 (f2 r) [fr p, fr q] M E Q = r p q M E Q := propext f2_fr
theorem t1 {r : Rat → Mem → XD → QD → Prop} : p1 (g1 r) [pr p] M E Q = r p M E Q := propext g1_pr
theorem t2 {r : Rat → Rat → Mem → XD → QD → Prop} : p2 (g2 r) [pr p, pr q] M E Q = r p q M E Q := propext g2_pr
theorem u1 {sp : DSp} : uOwn (tl [(0, sp)]) (fr p) M E Q = sp [fr p] M E Q := rfl
theorem uB {sp : DSp} : uOwnB (tl [(0, sp)]) (fr p) M E Q = sp [fr p] M E fun r M' => ∃ c, r = .bl c ∧ Q r M' := rfl
theorem uS {sp : DSp} : uOwnS (tl [(0, sp)]) (fr p) M E Q = sp [fr p] M E fun r M' => ∃ c, r = .str c ∧ Q r M' := rfl
theorem exB {b : Bool} : (∃ c, D.bl b = .bl c ∧ Q (.bl b) M) = Q (.bl b) M := propext ⟨fun ⟨_, _, h⟩ => h, fun h => ⟨_, rfl, h⟩⟩
theorem exS {b : Str} : (∃ c, D.str b = .str c ∧ Q (.str b) M) = Q (.str b) M := propext ⟨fun ⟨_, _, h⟩ => h, fun h => ⟨_, rfl, h⟩⟩
theorem r_add : oOwn (tl [(0, sp_Frac_add)]) (fr p) (fr q) M E Q = (Sz 2000 p ∧ Sz 2000 q ∧ Q (fr (p + q)) M) := by rw [own2]; unfold sp_Frac_add; rw [s2]
theorem r_sub : oOwn (tl [(0, sp_Frac_sub)]) (fr p) (fr q) M E Q = (Sz 2000 p ∧ Sz 2000 q ∧ Q (fr (p - q)) M) := by rw [own2]; unfold sp_Frac_sub; rw [s2]
theorem r_mul : oOwn (tl [(0, sp_Frac_mul)]) (fr p) (fr q) M E Q = (Sz 2000 p ∧ Sz 2000 q ∧ Q (fr (p * q)) M) := by rw [own2]; unfold sp_Frac_mul; rw [s2]
theorem r_neg : uOwn (tl [(0, sp_Frac_neg)]) (fr p) M E Q = (Sz 4000 p ∧ Q (fr (-p)) M) := by rw [u1]; unfold sp_Frac_neg; rw [s1]
theorem r_abs : uOwn (tl [(0, sp_Frac_abs)]) (fr p) M E Q = (Sz 4000 p ∧ Q (fr (rabs p)) M) := by rw [u1]; unfold sp_Frac_abs; rw [s1]
theorem r_bool : uOwnB (tl [(0, sp_Frac_bool)]) (fr p) M E Q = Q (.bl (p.num != 0)) M := by rw [uB]; unfold sp_Frac_bool; rw [s1]; dsimp only; rw [exB]
theorem r_repr : uOwnS (tl [(0, sp_Frac_repr)]) (fr p) M E Q = (Sz 1900 p ∧ Q (.str (reprOf p)) M) := by rw [uS]; unfold sp_Frac_repr; rw [s1]; dsimp only; rw [exS]
theorem r_str : uOwnS (tl [(0, sp_Frac_str)]) (fr p) M E Q = (Sz 1900 p ∧ Q (.str (wordOf p)) M) := by rw [uS]; unfold sp_Frac_str; rw [s1]; dsimp only; rw [exS]
theorem k_add (h1 : Sz 2000 p) (h2 : Sz 2000 q) : oOwn (tl [(0, sp_Frac_add)]) (fr p) (fr q) M E Q = Q (fr (p + q)) M := r_add.trans (propext ⟨fun z => z.2.2, fun z => ⟨h1, h2, z⟩⟩)
theorem k_sub (h1 : Sz 2000 p) (h2 : Sz 2000 q) : oOwn (tl [(0, sp_Frac_sub)]) (fr p) (fr q) M E Q = Q (fr (p - q)) M := r_sub.trans (propext ⟨fun z => z.2.2, fun z => ⟨h1, h2, z⟩⟩)
theorem k_mul (h1 : Sz 2000 p) (h2 : Sz 2000 q) : oOwn (tl [(0, sp_Frac_mul)]) (fr p) (fr q) M E Q = Q (fr (p * q)) M := r_mul.trans (propext ⟨fun z => z.2.2, fun z => ⟨h1, h2, z⟩⟩)
theorem k_neg (h1 : Sz 4000 p) : uOwn (tl [(0, sp_Frac_neg)]) (fr p) M E Q = Q (fr (-p)) M := r_neg.trans (propext ⟨fun z => z.2, fun z => ⟨h1, z⟩⟩)
theorem k_abs (h1 : Sz 4000 p) : uOwn (tl [(0, sp_Frac_abs)]) (fr p) M E Q = Q (fr (rabs p)) M := r_abs.trans (propext ⟨fun z => z.2, fun z => ⟨h1, z⟩⟩)
theorem k_repr (h1 : Sz 1900 p) : uOwnS (tl [(0, sp_Frac_repr)]) (fr p) M E Q = Q (.str (reprOf p)) M := r_repr.trans (propext ⟨fun z => z.2, fun z => ⟨h1, z⟩⟩)
theorem k_str (h1 : Sz 1900 p) : uOwnS (tl [(0, sp_Frac_str)]) (fr p) M E Q = Q (.str (wordOf p)) M := r_str.trans (propext ⟨fun z => z.2, fun z => ⟨h1, z⟩⟩)
theorem r_ix0 : oIx0 (pr p) (.int 0) M E Q = Q (.int p.num) M := rfl
theorem r_ix1 : oIx0 (pr p) (.int 1) M E Q = Q (.int p.den) M := rfl
theorem r_low {i j : Int} : sp__law_low [.int i, .int j] M E Q = (j ≠ 0 ∧ i.natAbs < 2 ^ 8000 ∧ j.natAbs < 2 ^ 8000 ∧ Q (pr (Rat.divInt i j)) M) := rfl
theorem r_mk {i j : Int} : spC_Frac [.int i, .int j] M E Q = (j ≠ 0 ∧ j.natAbs < 2 ^ 8000 ∧ Q (fr (Rat.divInt i j)) M) := rfl
/-! == of data -/
def pyPr (p : Rat) : PyData := .tuple [.int p.num, .int p.den]
theorem toPy_pr : toPy M (pr p) = some (pyPr p) := rfl
theorem eqv_self {d : PyData} (h : SeqAt.shaped d = true) : PyData.eqv d d = true := SeqAt.eqv_refl d (SeqAt.canLay_of_shaped h)
theorem eq_self {d : D} {y : PyData} (h : toPy M d = some y) (hs : SeqAt.shaped y = true) (q : Q (.bl (f true)) M) : oEqP f d d M E Q := by
  unfold oEqP
  rw [h]
  exact ⟨hs, hs, by rw [eqv_self hs]; exact q⟩
theorem eq_selfN {d : D} {y : PyData} (h : toPy M d = some y) (hs : SeqAt.shaped y = true) (q : Q (.bl false) M) : oEqP (fun b => !b) d d M E Q := eq_self h hs q
theorem eq_selfP {d : D} {y : PyData} (h : toPy M d = some y) (hs : SeqAt.shaped y = true) (q : Q (.bl true) M) : oEqP (fun b => b) d d M E Q := eq_self h hs q
theorem strOk_of (s : String) : PyData.strOk (Str.ofString s) = true := by
  unfold PyData.strOk
  rw [Str.ofString_eq_toList]
  simp only [List.all_toArray, List.all_map, List.all_eq_true, Function.comp, decide_eq_true_eq]
  intro c _
  have := c.valid
  have h : c.toNat < 1114112 := by
    rcases this with h | h
    · have : c.toNat = c.val.toNat := rfl
      omega
    · have : c.toNat = c.val.toNat := rfl
      omega
  exact h
theorem strOk_cat {a b : Str} (h1 : PyData.strOk a = true) (h2 : PyData.strOk b = true) : PyData.strOk (a ++ b) = true := by
  unfold PyData.strOk at *
  show (a.cps ++ b.cps).all _ = true
  rw [Array.all_append, h1, h2]
  rfl
theorem strOk_empty : PyData.strOk Str.empty = true := by decide +kernel
theorem ok_word (p : Rat) : PyData.strOk (wordOf p) = true := by
  unfold wordOf
  split
  · exact strOk_of _
  · exact strOk_cat (strOk_cat (strOk_cat strOk_empty (strOk_of _)) (strOk_of _)) (strOk_of _)
theorem ok_repr (p : Rat) : PyData.strOk (reprOf p) = true := strOk_cat (strOk_cat (strOk_cat strOk_empty (strOk_of _)) (ok_word p)) (strOk_of _)
theorem sh_strs : ∀ {l : List Str}, (∀ z ∈ l, PyData.strOk z = true) → SeqAt.shaped (.list (l.map PyData.str)) = true := fun {l} h => by
  have h1 : PyData.canLayAll0 (l.map PyData.str) = true := by
    induction l with
    | nil => rfl
    | cons a l ih =>
      simp only [List.map, PyData.canLayAll0, PyData.canLay0]
      rw [h a (List.mem_cons_self ..), ih fun z hz => h z (List.mem_cons_of_mem _ hz)]
      rfl
  have h2 : PyData.depthAll (l.map PyData.str) ≤ 1 := by
    clear h h1
    induction l with
    | nil => decide
    | cons a l ih => simp only [List.map, PyData.depthAll, PyData.depth]; omega
  unfold SeqAt.shaped
  simp only [PyData.canLay0, PyData.depth, h1, Bool.true_and]
  exact decide_eq_true (by omega)
theorem sh_reprs {a b : Rat} : SeqAt.shaped (.list [.str (reprOf a), .str (reprOf b)]) = true := sh_strs (l := [reprOf a, reprOf b]) fun z hz => by
  simp only [List.mem_cons, List.not_mem_nil, or_false] at hz
  rcases hz with rfl | rfl
  · exact ok_repr _
  · exact ok_repr _
theorem eqv_pr : PyData.eqv (pyPr p) (pyPr q) = decide (p = q) := by
  unfold pyPr
  simp only [PyData.eqv, PyData.eqvAll, Bool.and_true]
  by_cases h : p = q
  · subst h; simp
  · rw [decide_eq_false h]
    by_cases h1 : p.num = q.num
    · have h2 : ¬ ((p.den : Int) = q.den) := fun e => h (Rat.ext h1 (Int.ofNat.inj e))
      simp [h2]
    · simp [h1]
theorem r_eqpr : oEqP f (pr p) (pr q) M E Q = Q (.bl (f (decide (p = q)))) M := by
  unfold oEqP
  simp only [toPy_pr, eqv_pr]
  exact propext ⟨fun h => h.2.2, fun h => ⟨by kernel_rfl, by kernel_rfl, h⟩⟩
theorem r_eqbl {a b : Bool} : oEqP f (.bl a) (.bl b) M E Q = Q (.bl (f (a == b))) M := propext ⟨fun h => h.2.2, fun h => ⟨by kernel_rfl, by kernel_rfl, h⟩⟩
theorem r_eqint {i j : Int} : oEqP f (.int i) (.int j) M E Q = Q (.bl (f (decide (i = j)))) M := by
  unfold oEqP
  simp only [toPy_int, eqv_int]
  exact propext ⟨fun h => h.2.2, fun h => ⟨by kernel_rfl, by kernel_rfl, h⟩⟩
theorem r_isbl {a b : Bool} : oIsB f (.bl a) (.bl b) M E Q = Q (.bl (f (a == b))) M := rfl
end
theorem sub_zero_iff {p q : Rat} : (p - q).num = 0 ↔ p = q := by
  rw [Rat.num_eq_zero]
  constructor
  · intro h
    have := Rat.sub_add_cancel (a := p) (b := q)
    rw [h, Rat.zero_add] at this
    exact this.symm
  · rintro rfl
    exact Rat.sub_self
theorem nz_sub {p q : Rat} : ((p - q).num != 0) = !decide (p = q) := by
  by_cases h : p = q
  · rw [decide_eq_true h]; simp [sub_zero_iff.mpr h]
  · rw [decide_eq_false h]; 
    have : (p - q).num ≠ 0 := fun e => h (sub_zero_iff.mp e)
    exact bne_iff_ne.mpr this
/-- sizes of the numbers that a law draws -/
theorem Sz.pr0 {i j : Int} (hj : j ≠ 0) (h1 : i.natAbs ≤ 100000000000000) (h2 : j.natAbs ≤ 100000000000000) : Sz 47 (Rat.divInt i j) := Sz.of hj (by show _ < 140737488355328; omega) (by show _ < 140737488355328; omega)
theorem lt8 {a n : Nat} (h : a < 2 ^ n) (l : n ≤ 8000) : a < 2 ^ 8000 := Nat.lt_of_lt_of_le h (Nat.pow_le_pow_right (by decide) l)
theorem pd_ne (p : Rat) : ((p.den : Nat) : Int) ≠ 0 := den_ne p
end TS
namespace TS
open PySem PySem.Spec PyProof.Rows L2 TSR
/-! ### readings step by step: what is left to be shown -/
section
variable {δ : DEnv} {M : Mem} {E : EX} {E0 : XD} {Q : QD} {QA : List D → Mem → Prop} {QB : Bool → Mem → Prop} {Z : DEnds} {t u v : DTS} {ta tb tc : DT} {tt tu : DTT} {tr : DTA} {g : DTG} {op : DOp} {d e : D} {i j : Int}
theorem x_seq (h : t { Z with nx := fun δ M => u Z δ M } δ M) : sSeq t u Z δ M := h
theorem x_next (h : Z.nx δ M) : sNext Z δ M := h
theorem x_asg (h : ta δ M Z.ex fun x M1 => g x δ M1 Z.ex Z.nx) : sAsg ta g Z δ M := h
theorem x_ret (h : ta δ M Z.ex Z.rt) : sRet ta Z δ M := h
theorem x_retN (h : Z.rt .non M) : sRetN Z δ M := h
theorem x_drop (h : ta δ M Z.ex fun _ M1 => Z.nx δ M1) : sDrop ta Z δ M := h
theorem x_if (h : tt δ M Z.ex fun b M1 => if b = true then t Z δ M1 else u Z δ M1) : sIf tt t u Z δ M := h
theorem x_tt {A B : Prop} (h : A) : if true = true then A else B := by rw [if_pos rfl]; exact h
theorem x_ff {A B : Prop} (h : B) : if false = true then A else B := by rw [if_neg Bool.false_ne_true]; exact h
theorem x_dt {A B : Prop} {p : Prop} [Decidable p] (hp : p) (h : A) : if decide p = true then A else B := by rw [if_pos (decide_eq_true hp)]; exact h
theorem x_df {A B : Prop} {p : Prop} [Decidable p] (hp : ¬p) (h : B) : if decide p = true then A else B := by rw [if_neg (by simpa using hp)]; exact h
theorem x_dB (h : ta δ M E fun x M1 => ∃ c, x = .bl c ∧ QB c M1) : dB ta δ M E QB := h
theorem x_ex {c : Bool} {P : Bool → Prop} (h : P c) : ∃ c', D.bl c = .bl c' ∧ P c' := ⟨c, rfl, h⟩
theorem x_ifE {c c' : Bool} {A B : Bool → Prop} (h : if c = true then A c else B c) : ∃ c', D.bl c = .bl c' ∧ if c' = true then A c' else B c' := ⟨c, rfl, h⟩
theorem x_cons (h : ta δ M E fun x M1 => tr δ M1 E fun xs M2 => QA (x :: xs) M2) : dCons ta tr δ M E QA := h
theorem x_nil (h : QA [] M) : dNil δ M E QA := h
def goTup (xs : List D) (Q : QD) (M : Mem) : Prop := xs.length ≤ sizeLine ∧ Q (.tup xs) M
def goLst (xs : List D) (Q : QD) (M : Mem) : Prop := xs.length ≤ sizeLine ∧ Q (.lst xs) M
theorem x_tup (h : tr δ M E fun xs M1 => goTup xs Q M1) : dTup tr δ M E Q := h
theorem x_lst (h : tr δ M E fun xs M1 => goLst xs Q M1) : dLst tr δ M E Q := h
theorem x_goTup {xs : List D} (h : Nat.ble xs.length sizeLine = true) (q : Q (.tup xs) M) : goTup xs Q M := ⟨Nat.le_of_ble_eq_true h, q⟩
theorem x_goLst {xs : List D} (h : Nat.ble xs.length sizeLine = true) (q : Q (.lst xs) M) : goLst xs Q M := ⟨Nat.le_of_ble_eq_true h, q⟩
theorem x_lstM (h : tr δ M E fun xs M1 => xs.length ≤ sizeLine ∧ ∀ p, M1 p = none → Q (.ref p) (M1.set p (.lst xs))) : dLstM tr δ M E Q := h
theorem x_bin (h : ta δ M E fun x M1 => tb δ M1 E fun y M2 => op x y M2 (fun c fs M' => E c fs δ M') Q) : dBin op ta tb δ M E Q := h
theorem x_un {r : D → Mem → XD → QD → Prop} (h : ta δ M E fun x M1 => r x M1 (fun c fs M' => E c fs δ M') Q) : dUn r ta δ M E Q := h
theorem x_cb {r : DCall} (h : tr δ M E fun ds M1 => r ds M1 (fun c fs M' => E c fs δ M') Q) : dCB r tr δ M E Q := h
theorem x_call {sp : DSp} (h : tr δ M E fun ds M1 => sp ds M1 (fun c fs M' => E c fs δ M') Q) : dCall sp [] tr δ M E Q := by
  unfold dCall
  simp only [List.append_nil]
  exact h
theorem x_b1 {r : D → Mem → XD → QD → Prop} (h : r d M E0 Q) : b1 r [d] M E0 Q := h
theorem x_b2 {r : D → D → Mem → XD → QD → Prop} (h : r d e M E0 Q) : b2 r [d, e] M E0 Q := h
theorem x_c (h : Q d M) : dC d δ M E Q := h
theorem x_ifx (h : tt δ M E fun c M1 => if c = true then ta δ M1 E Q else tb δ M1 E Q) : dIf tt ta tb δ M E Q := h
theorem x_andV (h : ta δ M E fun x M1 => ∃ c, x = .bl c ∧ if c = true then tb δ M1 E Q else Q (.bl false) M1) : dAndV ta tb δ M E Q := h
theorem x_orV (h : ta δ M E fun x M1 => ∃ c, x = .bl c ∧ if c = true then Q (.bl true) M1 else tb δ M1 E Q) : dOrV ta tb δ M E Q := h
theorem x_notV (h : tt δ M E fun c M1 => Q (.bl (!c)) M1) : dNotV tt δ M E Q := h
theorem x_not (h : tt δ M E fun c M1 => QB (!c) M1) : dNot tt δ M E QB := h
theorem x_and (h : tt δ M E fun c M1 => if c = true then tu δ M1 E QB else QB false M1) : dAnd tt tu δ M E QB := h
theorem x_or (h : tt δ M E fun c M1 => if c = true then QB true M1 else tu δ M1 E QB) : dOr tt tu δ M E QB := h
theorem x_still (h : tr δ M E fun l M1 => Q (.lst l) M1) : dStill tr δ M E Q := h
theorem x_par {a b : Nat} (h : tr δ M Z.ex fun ds M1 => match ds with | [x, y] => gNameD a x δ M1 Z.ex fun δ1 M2 => gNameD b y δ1 M2 Z.ex Z.nx | _ => False) : sPar a b tr Z δ M := h
theorem x_par2 {x y : D} {P : D → D → Prop} (h : P x y) : (match [x, y] with | [x, y] => P x y | _ => False) := h
theorem x_aug {n : Nat} (h : dVar n δ M Z.ex fun x M0 => ta δ M0 Z.ex fun y M1 => op x y M1 (fun c fs M' => Z.ex c fs δ M') fun z M2 => gNameD n z δ M2 Z.ex Z.nx) : sAug n op ta Z δ M := by
  unfold sAug
  unfold dVar at h
  exact h
theorem x_for {ti : DTI} (h : ti δ M Z.ex fun l M1 => ForL g t Z l δ M1) : sFor ti g t Z δ M := h
theorem x_forC {x : D} {r : List D} (h : g x δ M Z.ex fun δ1 M1 => t { Z with nx := ForL g t Z r, ct := ForL g t Z r, bk := Z.nx } δ1 M1) : ForL g t Z (x :: r) δ M := h
theorem x_forN (h : Z.nx δ M) : ForL g t Z [] δ M := h
def goR1 (ds : List D) (Q : List D → Mem → Prop) (M : Mem) : Prop := match ds with | [.int j] => -(2 ^ 62) ≤ j ∧ j < 2 ^ 62 ∧ Q (rangeD 0 j.toNat) M | _ => False
theorem x_rg1 (h : tr δ M E fun ds M1 => goR1 ds QA M1) : dRange1 tr δ M E QA := h
theorem x_goR1 (h : (decide (-(2 ^ 62) ≤ j) && decide (j < 2 ^ 62)) = true) (q : QA (rangeD 0 j.toNat) M) : goR1 [.int j] QA M := by
  obtain ⟨h1, h2⟩ := Bool.and_eq_true_iff.mp h
  exact ⟨of_decide_eq_true h1, of_decide_eq_true h2, q⟩
theorem x_slice {lo hi : DTO} (h : ta δ M E fun x M1 => lo δ M1 E fun l M2 => hi δ M2 E fun h M3 => sliceD x l h M3 Q) : dSlice ta lo hi δ M E Q := h
theorem x_noP {QO : Option Int → Mem → Prop} (h : QO none M) : dNoPart δ M E QO := h
def goPart (d : D) (Q : Option Int → Mem → Prop) (M : Mem) : Prop := match d with | .int i => Q (some i) M | _ => False
theorem x_part {QO : Option Int → Mem → Prop} (h : ta δ M E fun d M1 => goPart d QO M1) : dPart ta δ M E QO := h
theorem x_goPart {QO : Option Int → Mem → Prop} (h : QO (some i) M) : goPart (.int i) QO M := h
theorem x_slL {l : List D} {lo hi : Option Int} (h : Q (.lst (cutD l lo hi)) M) : sliceD (.lst l) lo hi M Q := h
theorem x_lenL {l : List D} (h : Q (.int l.length) M) : bLen (.lst l) M E0 Q := h
theorem x_lenT {l : List D} (h : Q (.int l.length) M) : bLen (.tup l) M E0 Q := h
theorem x_max (h : Q (.int (if j > i then j else i)) M) : bMax (.int i) (.int j) M E0 Q := h
theorem x_min (h : Q (.int (if j < i then j else i)) M) : bMin (.int i) (.int j) M E0 Q := h
theorem atI0 {x : D} {l : List D} : atI (x :: l) 0 = some x := by
  unfold atI ixN
  rw [if_pos (by decide), if_pos (by rw [List.length_cons]; omega)]
  rfl
theorem atI_nat {x : D} {l : List D} {n : Nat} (h : l[n]? = some x) : atI l (n : Int) = some x := by
  unfold atI ixN
  have hn : n < l.length := (List.getElem?_eq_some_iff.mp h).1
  rw [if_pos (Int.natCast_nonneg _), if_pos (by omega)]
  exact h
theorem x_gtup {t : DTGs} {n : Nat} {l : List D} {QE : DEnv → Mem → Prop} (hn : Nat.beq l.length n = true) (h : t l δ M E QE) : gTupD t n (.tup l) δ M E QE := ⟨Nat.eq_of_beq_eq_true hn, h⟩
theorem x_gsC {u : DTGs} {r : List D} {QE : DEnv → Mem → Prop} (h : g d δ M E fun δ' M' => u r δ' M' E QE) : gsCons g u (d :: r) δ M E QE := h
theorem x_gsN {QE : DEnv → Mem → Prop} (h : QE δ M) : gsNil [] δ M E QE := ⟨rfl, h⟩
def goSeq (d : D) (Q : List D → Mem → Prop) (M : Mem) : Prop := match asSeq d with | some l => Q l M | none => False
theorem x_dseq (h : ta δ M E fun d M1 => goSeq d QA M1) : dSeq ta δ M E QA := h
theorem x_goL {l : List D} (h : QA l M) : goSeq (.lst l) QA M := h
theorem x_goT {l : List D} (h : QA l M) : goSeq (.tup l) QA M := h
theorem x_comp {ti : DTI} {bd : Bd} {vs : List Nat} (h : ti δ M E fun l M1 => CompL bd tt ta QA l [] (wipeD δ vs) M1) : dComp ti bd tt ta vs δ M E QA := h
/-! ints -/
theorem x_addI (h : Q (.int (i + j)) M) : oAdd0 (.int i) (.int j) M E0 Q := h
theorem x_subI (h : Q (.int (i - j)) M) : oSub0 (.int i) (.int j) M E0 Q := h
theorem x_addL {a b : List D} (h : Nat.ble (a.length + b.length) sizeLine = true) (q : Q (.lst (a ++ b)) M) : oAdd0 (.lst a) (.lst b) M E0 Q := ⟨Nat.le_of_ble_eq_true h, q⟩
theorem x_neg (h : Q (.int (-i)) M) : uNeg0 (.int i) M E0 Q := h
theorem x_absI (h : Q (.int (if i < 0 then -i else i)) M) : bAbs (.int i) M E0 Q := h
theorem x_lt (h : Q (.bl (decide (i < j))) M) : oLt0 (.int i) (.int j) M E0 Q := h
theorem x_le (h : Q (.bl (decide (i ≤ j))) M) : oLe0 (.int i) (.int j) M E0 Q := h
theorem x_gt (h : Q (.bl (decide (j < i))) M) : oGt0 (.int i) (.int j) M E0 Q := h
theorem x_ge (h : Q (.bl (decide (j ≤ i))) M) : oGe0 (.int i) (.int j) M E0 Q := h
/-- a comprehension whose items are worked out one by one, the store untouched -/
theorem comp_map {n : Nat} {f : D → D} : ∀ (l acc : List D), (∀ x ∈ l, ∀ (Q' : QD), Q' (f x) M → ta (stt δ n x) M (fun _ _ _ _ => False) Q') → acc.length + l.length ≤ sizeLine → QA (acc ++ l.map f) M → CompL (bdName n) dYes ta QA l acc δ M
  | [], acc, _, _, q => by rw [List.map_nil, List.append_nil] at q; exact q
  | x :: l, acc, h, hl, q => by
    refine h x (List.mem_cons_self ..) _ ⟨by rw [List.length_cons] at hl; omega, ?_⟩
    refine comp_map l (acc ++ [f x]) (fun y hy => h y (List.mem_cons_of_mem _ hy)) (by rw [List.length_append, List.length_cons, List.length_nil]; rw [List.length_cons] at hl; omega) ?_
    rw [List.append_assoc]
    exact q
end
section
theorem comp_list {δ : DEnv} {M : Mem} {QA : List D → Mem → Prop} {ta : DT} {n : Nat} {f : D → D} {l l' : List D} (h : ∀ x ∈ l, ∀ (Q' : QD), Q' (f x) M → ta (stt δ n x) M (fun _ _ _ _ => False) Q') (hl : Nat.ble l.length sizeLine = true) (e : l.map f = l') (q : QA l' M) : CompL (bdName n) dYes ta QA l [] δ M :=
  comp_map l [] h (by rw [List.length_nil, Nat.zero_add]; exact Nat.le_of_ble_eq_true hl) (by rw [List.nil_append, e]; exact q)
end
section
theorem comp_allM {δ : DEnv} {ta : DT} {n : Nat} {QA : List D → Mem → Prop} : ∀ (l acc : List D) (M : Mem), (∀ x ∈ l, ∀ (M : Mem) (Q' : QD), (∀ M', Q' (.bl true) M') → ta (stt δ n x) M (fun _ _ _ _ => False) Q') → acc.length + l.length ≤ sizeLine → (∀ M', QA (acc ++ l.map fun _ => .bl true) M') → CompL (bdName n) dYes ta QA l acc δ M
  | [], acc, M, _, _, q => by have q := q M; rw [List.map_nil, List.append_nil] at q; exact q
  | x :: l, acc, M, h, hl, q => by
    refine h x (List.mem_cons_self ..) _ _ fun M' => ⟨by rw [List.length_cons] at hl; omega, ?_⟩
    refine comp_allM l (acc ++ [.bl true]) M' (fun y hy => h y (List.mem_cons_of_mem _ hy)) (by rw [List.length_append, List.length_cons, List.length_nil]; rw [List.length_cons] at hl; omega) fun M'' => ?_
    rw [List.append_assoc]
    exact q M''
theorem asBools_true {α : Type} : ∀ l : List α, asBools (l.map fun _ => D.bl true) = some (l.map fun _ => true)
  | [] => rfl
  | _ :: l => by simp only [List.map, asBools, asBools_true l, Option.map]
theorem x_allT {α : Type} {l : List α} {M : Mem} {E0 : XD} {Q : QD} (h : Q (.bl true) M) : bAll (.lst (l.map fun _ => D.bl true)) M E0 Q := by
  unfold bAll bAllAny
  simp only [asL, asBools_true]
  have : (l.map fun _ => true).all _root_.id = true := by simp
  rw [this]
  exact h
theorem x_append {M : Mem} {q : Addr} {l : List D} {y : D} {E0 : XD} {Q : QD} (h : M q = some (.lst l)) (hl : l.length < sizeLine) (k : Q .non (M.set q (.lst (l ++ [y])))) : mAppend (.ref q) [y] M E0 Q := by
  simp only [mAppend, memL, h]
  exact ⟨hl, k⟩
theorem isTyL {M : Mem} {q : Addr} {l : List D} (h : M q = some (.lst l)) : isTy "list" (.ref q) M := .inr (.inl ⟨rfl, l, by simp only [asL, h]⟩)
def goBM (T : String) (r : DMt) (t : DTA) (δ : DEnv) (E : EX) (Q : QD) (d : D) (M1 : Mem) : Prop := isTy T d M1 ∧ t δ M1 E fun ds M2 => r d ds M2 (fun c fs M' => E c fs δ M') Q
theorem x_bm {T : String} {r : DMt} {to : DT} {t : DTA} {δ : DEnv} {M : Mem} {E : EX} {Q : QD} (h : to δ M E fun d M1 => goBM T r t δ E Q d M1) : dBM T r to t δ M E Q := h
theorem x_goBM {r : DMt} {t : DTA} {δ : DEnv} {M : Mem} {E : EX} {Q : QD} {q : Addr} {l : List D} (hm : M q = some (.lst l)) (h : t δ M E fun ds M2 => r (.ref q) ds M2 (fun c fs M' => E c fs δ M') Q) : goBM "list" r t δ E Q (.ref q) M := ⟨isTyL hm, h⟩
theorem x_stillAt {δ δ' : DEnv} {M : Mem} {n : Nat} {p : Addr} {m : MO} {t : DTS} {Z : DEnds} (hg : gt δ n = some (.ref p)) (hm : M p = some m) (hs : stt δ n m.still = δ') (h : t Z δ' (M.del p)) : sStill n t Z δ M := by
  simp only [sStill, hg, hm, hs]
  exact h
theorem cut3 {l : List D} : cutD l none (some 3) = l.take 3 := by
  unfold cutD
  have hi : HT.sIx l.length 0 none = 0 := rfl
  have hj : HT.sIx l.length l.length (some 3) = min 3 l.length := by simp [HT.sIx]
  rw [hi, hj, List.drop_zero, Nat.sub_zero]
  rcases Nat.le_total 3 l.length with q | q
  · rw [Nat.min_eq_left q]
  · rw [Nat.min_eq_right q, List.take_length, List.take_of_length_le q]
theorem mem_range {x : D} {lo : Int} {n : Nat} (h : x ∈ rangeD lo n) : ∃ i : Nat, i < n ∧ x = .int (lo + i) := by
  unfold rangeD at h
  obtain ⟨i, hi, e⟩ := List.mem_map.mp h
  exact ⟨i, List.mem_range.mp hi, e.symm⟩
end
section
variable {p q : Rat} {M : Mem} {E0 : XD} {Q : QD}
theorem x_fadd (h1 : Sz 2000 p) (h2 : Sz 2000 q) (h : Q (fr (p + q)) M) : oOwn (tl [(0, sp_Frac_add)]) (fr p) (fr q) M E0 Q := by rw [k_add h1 h2]; exact h
theorem x_fsub (h1 : Sz 2000 p) (h2 : Sz 2000 q) (h : Q (fr (p - q)) M) : oOwn (tl [(0, sp_Frac_sub)]) (fr p) (fr q) M E0 Q := by rw [k_sub h1 h2]; exact h
theorem x_fmul (h1 : Sz 2000 p) (h2 : Sz 2000 q) (h : Q (fr (p * q)) M) : oOwn (tl [(0, sp_Frac_mul)]) (fr p) (fr q) M E0 Q := by rw [k_mul h1 h2]; exact h
theorem x_fneg (h1 : Sz 4000 p) (h : Q (fr (-p)) M) : uOwn (tl [(0, sp_Frac_neg)]) (fr p) M E0 Q := by rw [k_neg h1]; exact h
theorem x_fabs (h1 : Sz 4000 p) (h : Q (fr (rabs p)) M) : uOwn (tl [(0, sp_Frac_abs)]) (fr p) M E0 Q := by rw [k_abs h1]; exact h
theorem x_fbool (h : Q (.bl (p.num != 0)) M) : uOwnB (tl [(0, sp_Frac_bool)]) (fr p) M E0 Q := by rw [r_bool]; exact h
theorem x_frepr (h1 : Sz 1900 p) (h : Q (.str (reprOf p)) M) : uOwnS (tl [(0, sp_Frac_repr)]) (fr p) M E0 Q := by rw [k_repr h1]; exact h
theorem x_fstr (h1 : Sz 1900 p) (h : Q (.str (wordOf p)) M) : uOwnS (tl [(0, sp_Frac_str)]) (fr p) M E0 Q := by rw [k_str h1]; exact h
theorem x_i0 (h : Q (.int p.num) M) : oIx0 (pr p) (.int 0) M E0 Q := h
theorem x_i1 (h : Q (.int p.den) M) : oIx0 (pr p) (.int 1) M E0 Q := h
theorem x_isB {f : Bool → Bool} {a b : Bool} (h : Q (.bl (f (a == b))) M) : oIsB f (.bl a) (.bl b) M E0 Q := h
theorem x_eqB {f : Bool → Bool} {a b : Bool} (h : Q (.bl (f (a == b))) M) : oEqP f (.bl a) (.bl b) M E0 Q := by rw [r_eqbl]; exact h
theorem x_eqI {f : Bool → Bool} {i j : Int} (h : Q (.bl (f (decide (i = j)))) M) : oEqP f (.int i) (.int j) M E0 Q := by rw [r_eqint]; exact h
theorem x_eqpr {f : Bool → Bool} (h : Q (.bl (f (decide (p = q)))) M) : oEqP f (pr p) (pr q) M E0 Q := by rw [r_eqpr]; exact h
end
/-! the slots -/
section
variable {r : DEnv} {M : Mem} {E : EX} {Q : QD} {QE : DEnv → Mem → Prop} {d : D} {o0 o1 o2 o3 o4 o5 o6 o7 o8 o9 o10 o11 o12 o13 o14 o15 o16 o17 o18 o19 o20 o21 o22 o23 : Option D}
theorem x_v0 (h : Q d M) : dVar 0 (some d :: r) M E Q := h
theorem x_n0 (h : QE (some d :: r) M) : gNameD 0 d (o0 :: r) M E QE := h
theorem x_v1 (h : Q d M) : dVar 1 (o0 :: some d :: r) M E Q := h
theorem x_n1 (h : QE (o0 :: some d :: r) M) : gNameD 1 d (o0 :: o1 :: r) M E QE := h
theorem x_v2 (h : Q d M) : dVar 2 (o0 :: o1 :: some d :: r) M E Q := h
theorem x_n2 (h : QE (o0 :: o1 :: some d :: r) M) : gNameD 2 d (o0 :: o1 :: o2 :: r) M E QE := h
theorem x_v3 (h : Q d M) : dVar 3 (o0 :: o1 :: o2 :: some d :: r) M E Q := h
theorem x_n3 (h : QE (o0 :: o1 :: o2 :: some d :: r) M) : gNameD 3 d (o0 :: o1 :: o2 :: o3 :: r) M E QE := h
theorem x_v4 (h : Q d M) : dVar 4 (o0 :: o1 :: o2 :: o3 :: some d :: r) M E Q := h
theorem x_n4 (h : QE (o0 :: o1 :: o2 :: o3 :: some d :: r) M) : gNameD 4 d (o0 :: o1 :: o2 :: o3 :: o4 :: r) M E QE := h
theorem x_v5 (h : Q d M) : dVar 5 (o0 :: o1 :: o2 :: o3 :: o4 :: some d :: r) M E Q := h
theorem x_n5 (h : QE (o0 :: o1 :: o2 :: o3 :: o4 :: some d :: r) M) : gNameD 5 d (o0 :: o1 :: o2 :: o3 :: o4 :: o5 :: r) M E QE := h
theorem x_v6 (h : Q d M) : dVar 6 (o0 :: o1 :: o2 :: o3 :: o4 :: o5 :: some d :: r) M E Q := h
theorem x_n6 (h : QE (o0 :: o1 :: o2 :: o3 :: o4 :: o5 :: some d :: r) M) : gNameD 6 d (o0 :: o1 :: o2 :: o3 :: o4 :: o5 :: o6 :: r) M E QE := h
theorem x_v7 (h : Q d M) : dVar 7 (o0 :: o1 :: o2 :: o3 :: o4 :: o5 :: o6 :: some d :: r) M E Q := h
theorem x_n7 (h : QE (o0 :: o1 :: o2 :: o3 :: o4 :: o5 :: o6 :: some d :: r) M) : gNameD 7 d (o0 :: o1 :: o2 :: o3 :: o4 :: o5 :: o6 :: o7 :: r) M E QE := h
theorem x_v8 (h : Q d M) : dVar 8 (o0 :: o1 :: o2 :: o3 :: o4 :: o5 :: o6 :: o7 :: some d :: r) M E Q := h
theorem x_n8 (h : QE (o0 :: o1 :: o2 :: o3 :: o4 :: o5 :: o6 :: o7 :: some d :: r) M) : gNameD 8 d (o0 :: o1 :: o2 :: o3 :: o4 :: o5 :: o6 :: o7 :: o8 :: r) M E QE := h
theorem x_v9 (h : Q d M) : dVar 9 (o0 :: o1 :: o2 :: o3 :: o4 :: o5 :: o6 :: o7 :: o8 :: some d :: r) M E Q := h
theorem x_n9 (h : QE (o0 :: o1 :: o2 :: o3 :: o4 :: o5 :: o6 :: o7 :: o8 :: some d :: r) M) : gNameD 9 d (o0 :: o1 :: o2 :: o3 :: o4 :: o5 :: o6 :: o7 :: o8 :: o9 :: r) M E QE := h
theorem x_v10 (h : Q d M) : dVar 10 (o0 :: o1 :: o2 :: o3 :: o4 :: o5 :: o6 :: o7 :: o8 :: o9 :: some d :: r) M E Q := h
theorem x_n10 (h : QE (o0 :: o1 :: o2 :: o3 :: o4 :: o5 :: o6 :: o7 :: o8 :: o9 :: some d :: r) M) : gNameD 10 d (o0 :: o1 :: o2 :: o3 :: o4 :: o5 :: o6 :: o7 :: o8 :: o9 :: o10 :: r) M E QE := h
theorem x_v11 (h : Q d M) : dVar 11 (o0 :: o1 :: o2 :: o3 :: o4 :: o5 :: o6 :: o7 :: o8 :: o9 :: o10 :: some d :: r) M E Q := h
theorem x_n11 (h : QE (o0 :: o1 :: o2 :: o3 :: o4 :: o5 :: o6 :: o7 :: o8 :: o9 :: o10 :: some d :: r) M) : gNameD 11 d (o0 :: o1 :: o2 :: o3 :: o4 :: o5 :: o6 :: o7 :: o8 :: o9 :: o10 :: o11 :: r) M E QE := h
theorem x_v12 (h : Q d M) : dVar 12 (o0 :: o1 :: o2 :: o3 :: o4 :: o5 :: o6 :: o7 :: o8 :: o9 :: o10 :: o11 :: some d :: r) M E Q := h
theorem x_n12 (h : QE (o0 :: o1 :: o2 :: o3 :: o4 :: o5 :: o6 :: o7 :: o8 :: o9 :: o10 :: o11 :: some d :: r) M) : gNameD 12 d (o0 :: o1 :: o2 :: o3 :: o4 :: o5 :: o6 :: o7 :: o8 :: o9 :: o10 :: o11 :: o12 :: r) M E QE := h
theorem x_v13 (h : Q d M) : dVar 13 (o0 :: o1 :: o2 :: o3 :: o4 :: o5 :: o6 :: o7 :: o8 :: o9 :: o10 :: o11 :: o12 :: some d :: r) M E Q := h
theorem x_n13 (h : QE (o0 :: o1 :: o2 :: o3 :: o4 :: o5 :: o6 :: o7 :: o8 :: o9 :: o10 :: o11 :: o12 :: some d :: r) M) : gNameD 13 d (o0 :: o1 :: o2 :: o3 :: o4 :: o5 :: o6 :: o7 :: o8 :: o9 :: o10 :: o11 :: o12 :: o13 :: r) M E QE := h
theorem x_v14 (h : Q d M) : dVar 14 (o0 :: o1 :: o2 :: o3 :: o4 :: o5 :: o6 :: o7 :: o8 :: o9 :: o10 :: o11 :: o12 :: o13 :: some d :: r) M E Q := h
theorem x_n14 (h : QE (o0 :: o1 :: o2 :: o3 :: o4 :: o5 :: o6 :: o7 :: o8 :: o9 :: o10 :: o11 :: o12 :: o13 :: some d :: r) M) : gNameD 14 d (o0 :: o1 :: o2 :: o3 :: o4 :: o5 :: o6 :: o7 :: o8 :: o9 :: o10 :: o11 :: o12 :: o13 :: o14 :: r) M E QE := h
theorem x_v15 (h : Q d M) : dVar 15 (o0 :: o1 :: o2 :: o3 :: o4 :: o5 :: o6 :: o7 :: o8 :: o9 :: o10 :: o11 :: o12 :: o13 :: o14 :: some d :: r) M E Q := h
theorem x_n15 (h : QE (o0 :: o1 :: o2 :: o3 :: o4 :: o5 :: o6 :: o7 :: o8 :: o9 :: o10 :: o11 :: o12 :: o13 :: o14 :: some d :: r) M) : gNameD 15 d (o0 :: o1 :: o2 :: o3 :: o4 :: o5 :: o6 :: o7 :: o8 :: o9 :: o10 :: o11 :: o12 :: o13 :: o14 :: o15 :: r) M E QE := h
theorem x_v16 (h : Q d M) : dVar 16 (o0 :: o1 :: o2 :: o3 :: o4 :: o5 :: o6 :: o7 :: o8 :: o9 :: o10 :: o11 :: o12 :: o13 :: o14 :: o15 :: some d :: r) M E Q := h
theorem x_n16 (h : QE (o0 :: o1 :: o2 :: o3 :: o4 :: o5 :: o6 :: o7 :: o8 :: o9 :: o10 :: o11 :: o12 :: o13 :: o14 :: o15 :: some d :: r) M) : gNameD 16 d (o0 :: o1 :: o2 :: o3 :: o4 :: o5 :: o6 :: o7 :: o8 :: o9 :: o10 :: o11 :: o12 :: o13 :: o14 :: o15 :: o16 :: r) M E QE := h
theorem x_v17 (h : Q d M) : dVar 17 (o0 :: o1 :: o2 :: o3 :: o4 :: o5 :: o6 :: o7 :: o8 :: o9 :: o10 :: o11 :: o12 :: o13 :: o14 :: o15 :: o16 :: some d :: r) M E Q := h
theorem x_n17 (h : QE (o0 :: o1 :: o2 :: o3 :: o4 :: o5 :: o6 :: o7 :: o8 :: o9 :: o10 :: o11 :: o12 :: o13 :: o14 :: o15 :: o16 :: some d :: r) M) : gNameD 17 d (o0 :: o1 :: o2 :: o3 :: o4 :: o5 :: o6 :: o7 :: o8 :: o9 :: o10 :: o11 :: o12 :: o13 :: o14 :: o15 :: o16 :: o17 :: r) M E QE := h
theorem x_v18 (h : Q d M) : dVar 18 (o0 :: o1 :: o2 :: o3 :: o4 :: o5 :: o6 :: o7 :: o8 :: o9 :: o10 :: o11 :: o12 :: o13 :: o14 :: o15 :: o16 :: o17 :: some d :: r) M E Q := h
theorem x_n18 (h : QE (o0 :: o1 :: o2 :: o3 :: o4 :: o5 :: o6 :: o7 :: o8 :: o9 :: o10 :: o11 :: o12 :: o13 :: o14 :: o15 :: o16 :: o17 :: some d :: r) M) : gNameD 18 d (o0 :: o1 :: o2 :: o3 :: o4 :: o5 :: o6 :: o7 :: o8 :: o9 :: o10 :: o11 :: o12 :: o13 :: o14 :: o15 :: o16 :: o17 :: o18 :: r) M E QE := h
theorem x_v19 (h : Q d M) : dVar 19 (o0 :: o1 :: o2 :: o3 :: o4 :: o5 :: o6 :: o7 :: o8 :: o9 :: o10 :: o11 :: o12 :: o13 :: o14 :: o15 :: o16 :: o17 :: o18 :: some d :: r) M E Q := h
theorem x_n19 (h : QE (o0 :: o1 :: o2 :: o3 :: o4 :: o5 :: o6 :: o7 :: o8 :: o9 :: o10 :: o11 :: o12 :: o13 :: o14 :: o15 :: o16 :: o17 :: o18 :: some d :: r) M) : gNameD 19 d (o0 :: o1 :: o2 :: o3 :: o4 :: o5 :: o6 :: o7 :: o8 :: o9 :: o10 :: o11 :: o12 :: o13 :: o14 :: o15 :: o16 :: o17 :: o18 :: o19 :: r) M E QE := h
theorem x_v20 (h : Q d M) : dVar 20 (o0 :: o1 :: o2 :: o3 :: o4 :: o5 :: o6 :: o7 :: o8 :: o9 :: o10 :: o11 :: o12 :: o13 :: o14 :: o15 :: o16 :: o17 :: o18 :: o19 :: some d :: r) M E Q := h
theorem x_n20 (h : QE (o0 :: o1 :: o2 :: o3 :: o4 :: o5 :: o6 :: o7 :: o8 :: o9 :: o10 :: o11 :: o12 :: o13 :: o14 :: o15 :: o16 :: o17 :: o18 :: o19 :: some d :: r) M) : gNameD 20 d (o0 :: o1 :: o2 :: o3 :: o4 :: o5 :: o6 :: o7 :: o8 :: o9 :: o10 :: o11 :: o12 :: o13 :: o14 :: o15 :: o16 :: o17 :: o18 :: o19 :: o20 :: r) M E QE := h
theorem x_v21 (h : Q d M) : dVar 21 (o0 :: o1 :: o2 :: o3 :: o4 :: o5 :: o6 :: o7 :: o8 :: o9 :: o10 :: o11 :: o12 :: o13 :: o14 :: o15 :: o16 :: o17 :: o18 :: o19 :: o20 :: some d :: r) M E Q := h
theorem x_n21 (h : QE (o0 :: o1 :: o2 :: o3 :: o4 :: o5 :: o6 :: o7 :: o8 :: o9 :: o10 :: o11 :: o12 :: o13 :: o14 :: o15 :: o16 :: o17 :: o18 :: o19 :: o20 :: some d :: r) M) : gNameD 21 d (o0 :: o1 :: o2 :: o3 :: o4 :: o5 :: o6 :: o7 :: o8 :: o9 :: o10 :: o11 :: o12 :: o13 :: o14 :: o15 :: o16 :: o17 :: o18 :: o19 :: o20 :: o21 :: r) M E QE := h
theorem x_v22 (h : Q d M) : dVar 22 (o0 :: o1 :: o2 :: o3 :: o4 :: o5 :: o6 :: o7 :: o8 :: o9 :: o10 :: o11 :: o12 :: o13 :: o14 :: o15 :: o16 :: o17 :: o18 :: o19 :: o20 :: o21 :: some d :: r) M E Q := h
theorem x_n22 (h : QE (o0 :: o1 :: o2 :: o3 :: o4 :: o5 :: o6 :: o7 :: o8 :: o9 :: o10 :: o11 :: o12 :: o13 :: o14 :: o15 :: o16 :: o17 :: o18 :: o19 :: o20 :: o21 :: some d :: r) M) : gNameD 22 d (o0 :: o1 :: o2 :: o3 :: o4 :: o5 :: o6 :: o7 :: o8 :: o9 :: o10 :: o11 :: o12 :: o13 :: o14 :: o15 :: o16 :: o17 :: o18 :: o19 :: o20 :: o21 :: o22 :: r) M E QE := h
theorem x_v23 (h : Q d M) : dVar 23 (o0 :: o1 :: o2 :: o3 :: o4 :: o5 :: o6 :: o7 :: o8 :: o9 :: o10 :: o11 :: o12 :: o13 :: o14 :: o15 :: o16 :: o17 :: o18 :: o19 :: o20 :: o21 :: o22 :: some d :: r) M E Q := h
theorem x_n23 (h : QE (o0 :: o1 :: o2 :: o3 :: o4 :: o5 :: o6 :: o7 :: o8 :: o9 :: o10 :: o11 :: o12 :: o13 :: o14 :: o15 :: o16 :: o17 :: o18 :: o19 :: o20 :: o21 :: o22 :: some d :: r) M) : gNameD 23 d (o0 :: o1 :: o2 :: o3 :: o4 :: o5 :: o6 :: o7 :: o8 :: o9 :: o10 :: o11 :: o12 :: o13 :: o14 :: o15 :: o16 :: o17 :: o18 :: o19 :: o20 :: o21 :: o22 :: o23 :: r) M E QE := h
end
end TS
namespace TS
open PySem PySem.Spec PyProof.Rows L2
section
variable {X : Cx} {ca : Ca} {W : WX} {k j : Nat} {a : Expr} {ta : DT}
/-! ### an own object as a test -/
def dTruO (T : OTab) (t : DT) : DTT := fun δ M E Q => t δ M E fun d M1 => uOwn T d M1 (fun c fs M' => E c fs δ M') fun r M' => ∃ b, r = .bl b ∧ Q b M'
theorem dt_truO {T : OTab} (C : Ctx X j W) (ok : MOk X ca k "__bool__" T) (ha : DE X ca W a ta) (hk : k ≤ j := by decide) (he : ∀ whole, isTrue a X.env whole = (do let v ← whole; standAt a.pos; holding [v] (truthy v)) := by intro _; rfl) : DPT X ca W a (dTruO T ta) := by
  refine ⟨fun pins s σ H R I ⟨U, F, M, δ, E, Q, S, h, c⟩ => ?_⟩
  refine isTrue_plain (thn (ha.run pins s σ H (fun x H1 => ∃ F1 M1 d, Ext F F1 ∧ Stt X.K ca U W F1 M1 δ E σ H1 ∧ Rep X.K ca F1 d x ∧ _) I (lift_of S h fun d M1 F1 v H1 h1 e1 r1 g1 => ⟨F1, M1, d, e1, S.up e1 g1, r1, h1⟩)) fun v s1 ⟨x, H1, I1, r1, F1, M1, d, e1, S1, rd, h1⟩ => ?_) (he _)
  obtain ⟨ad, D, f, od, dx, rfl, J, hm, q⟩ := own_go (R := fun x H => ∃ b, x = .bl b ∧ R b H) C.tk (sub_of C hk) ok I1 S1 rd r1 h1 (fun d' M' F' v' H' q e r g => by
    obtain ⟨b, rfl, q⟩ := q
    have r : v' = .bl b := r
    exact ⟨b, r, c _ _ _ _ q (e1.trans e) g⟩)
  obtain ⟨m, hF⟩ := I1.fr
  refine PySem.W.truthy_K hF I1.ok.mod.kin J hm.at_ hm.fn (wpAny_mono q (fun v' s' z => ?_) fun _ _ z => z)
  obtain ⟨x', H', I', r', b, ex, q'⟩ := z
  subst ex
  cases r'
  exact ⟨H', I', q'⟩
end
theorem at_mtt {P : Program} {w : World} {K : Fg} {mg : Str → Option Value} {base : Heap} {ca : Ca} {k c : Nat} {m : Str} {sp : DSp} {dds : List D} (h : AtX P w K mg base fun X => Mt X ca k c m dds sp) : AtX P w K mg base fun X => MtOk X ca k m (tl [(c, (sp, dds))]) := by
  rintro X rfl rfl rfl rfl rfl c' sp' dds' e
  obtain ⟨rfl, e2⟩ := tl_one e
  obtain ⟨rfl, rfl⟩ := Prod.mk.inj e2
  exact h _ rfl rfl rfl rfl rfl
/-! ### repr of plain data; == of texts -/
section
variable {X : Cx} {ca : Ca} {W : WX} {j : Nat}
def bReprP (x : D) (M : Mem) (E : XD) (Q : QD) : Prop := match toPy M x with
  | some p => p.showable = true ∧ p.hasDict = false ∧ p.depth ≤ 64 ∧ p.shown.length ≤ sizeLine ∧ Q (.str p.shown) M
  | none => False
theorem call_reprP (C : Ctx X j W) (hj : 30 ≤ j := by decide) : CallD X ca W (.builtin "repr") (b1 bReprP) := .one fun pins s σ H U F M δ E Q R d v u I S rd ru h c => by
  unfold bReprP at h
  cases et : toPy M d with
  | none => rw [et] at h; exact h.elim
  | some p =>
    rw [et] at h
    obtain ⟨hs, hd, hdep, hz, q⟩ := h
    obtain ⟨as, rr⟩ := Dp.reads I p v u (toPy_ok S.hr rd et) ru
    have un := C.room.un
    have gd := C.room.gd hj
    have ref : ∀ a, u = .ref a → wpAny (model X.prog X.w) X.A (call (.builtin "repr") [u]) (EP X pins σ R) X.xe s := fun a e => by
      subst e
      refine repr_of_reads' rr hs (fun z => by rw [hd] at z; cases z) gd (by omega) (fun _ _ z => z) (fun h' u' tk kp => ?_) hz
      exact ⟨.str p.shown, H, I.kept (t' := tk) kp, ⟨u', rfl⟩, c _ _ _ _ _ q Ext.rfl' rfl S.hr⟩
    have fin : ∀ tk tk', EP X pins σ R (.str p.shown tk) { s with toks := tk' } := fun tk tk' => ⟨.str p.shown, H, I.tok _, ⟨tk, rfl⟩, c _ _ _ _ _ q Ext.rfl' rfl S.hr⟩
    cases d with
    | non => cases et; cases rd; obtain rfl : u = Value.none := ru; exact PySem.P.repr_of_none (fin _ _)
    | bl b => cases et; cases rd; obtain rfl : u = Value.bool b := ru; exact PySem.P.repr_of_bool (fin _ _)
    | int i => cases et; cases rd; obtain ⟨tk, rfl⟩ := ru; exact PySem.P.repr_of_int (of_decide_eq_true hs) (fin _ _)
    | str z => cases et; cases rd; obtain ⟨tk, rfl⟩ := ru; exact PySem.P.repr_of_str (fin _ _) hz
    | tup l => obtain ⟨a, vs, rfl, _⟩ := rd; exact ref a ru
    | lst l => obtain ⟨a, vs, rfl, _⟩ := rd; exact ref a ru
    | _ => cases et
def oEqS (f : Bool → Bool) : DOp := fun x y M E Q => match x, y with
  | .str a, .str b => Q (.bl (f (decide (a = b)))) M
  | _, _ => False
theorem op_eqS : OpD X ca W (compareOp .Eq) (oEqS fun b => b) := opD_of op_eq fun U F H M δ E Q R dx dy x y hr rx ry ho c => by
  cases dx <;> cases dy <;> first | exact ho.elim | skip
  rename_i a b
  cases rx; cases ry
  have e : decide (V.str a = V.str b) = decide (a = b) := by
    by_cases h : a = b
    · subst h; simp
    · rw [decide_eq_false h, decide_eq_false fun z => h (V.str.inj z)]
  exact ⟨rfl, by rw [e]; exact c _ _ _ _ _ ho Ext.rfl' rfl hr⟩
theorem op_neS : OpD X ca W (compareOp .NotEq) (oEqS fun b => !b) := opD_of op_ne fun U F H M δ E Q R dx dy x y hr rx ry ho c => by
  cases dx <;> cases dy <;> first | exact ho.elim | skip
  rename_i a b
  cases rx; cases ry
  have e : decide (V.str a = V.str b) = decide (a = b) := by
    by_cases h : a = b
    · subst h; simp
    · rw [decide_eq_false h, decide_eq_false fun z => h (V.str.inj z)]
  exact ⟨rfl, by rw [e]; exact c _ _ _ _ _ ho Ext.rfl' rfl hr⟩
end
/-! ### a, b, c = x, y, z -/
section
variable {X : Cx} {ca : Ca} {W : WX} {pos : Pos}
def sPar3 (i j k : Nat) (ta : DTA) : DTS := fun D δ M => ta δ M D.ex fun ds M1 => match ds with | [a, b, c] => D.nx (stt (stt (stt δ i a) j b) k c) M1 | _ => False
theorem ds_par3 (i j k : Nat) {x y z : Str} {a b c : Expr} {ta : DTA} {px py pz pt : Pos} {kt k2 pt2} (hc : X.calm = true) (hN : X.N.Nodup) (ha : DPA X ca W [a, b, c] ta) (hi : X.N[i]? = some x := by rfl) (hj : X.N[j]? = some y := by rfl) (hk : X.N[k]? = some z := by rfl) (hij : i ≠ j := by decide) (hik : i ≠ k := by decide) (hjk : j ≠ k := by decide)
    (hx : X.env.scope.names.lookup x = some .local := by rfl) (hy : X.env.scope.names.lookup y = some .local := by rfl) (hz : X.env.scope.names.lookup z = some .local := by rfl)
    (hw : swappedStores [.Tuple [.Name x px, .Name y py, .Name z pz] kt pt] (.Tuple [a, b, c] k2 pt2) X.env = pure (some [x, y, z]) := by rfl)
    (hs : swapsWithSole [.Tuple [.Name x px, .Name y py, .Name z pz] kt pt] (.Tuple [a, b, c] k2 pt2) pos.line X.env = pure false := by rfl) :
    DPS X ca W (.Assign [.Tuple [.Name x px, .Name y py, .Name z pz] kt pt] (.Tuple [a, b, c] k2 pt2) pos) (sPar3 i j k ta) := psImp (L2.ps_par3 hc hN hi hj hk hij hik hjk hx hy hz ha hw hs) fun R σ H ⟨U, F, M, δ, D, S, h, c⟩ => by
  refine liftA_of S h fun ds M1 F1 vs H1 h1 e1 r1 g1 => ?_
  cases ds with
  | nil => exact h1.elim
  | cons a ds =>
    cases ds with
    | nil => exact h1.elim
    | cons b ds =>
      cases ds with
      | nil => exact h1.elim
      | cons d ds =>
        cases ds with
        | cons _ _ => exact h1.elim
        | nil =>
          obtain ⟨v, r, e, ra, rr⟩ := r1
          obtain ⟨w', r', e', rb, rr⟩ := rr
          obtain ⟨w2, r2, e2, rc, en⟩ := rr
          subst e
          subst e'
          subst e2
          cases en
          exact ⟨v, w', w2, rfl, c.nx _ _ _ _ _ h1 e1 ((((S.env.mono e1).set ra i).set rb j).set rc k) g1⟩
theorem x_par3 {δ : DEnv} {M : Mem} {Z : DEnds} {tr : DTA} {a b c : Nat} (h : tr δ M Z.ex fun ds M1 => match ds with | [x, y, z] => gNameD a x δ M1 Z.ex fun δ1 M2 => gNameD b y δ1 M2 Z.ex fun δ2 M3 => gNameD c z δ2 M3 Z.ex Z.nx | _ => False) : sPar3 a b c tr Z δ M := h
theorem x_par4 {x y z : D} {P : D → D → D → Prop} (h : P x y z) : (match [x, y, z] with | [x, y, z] => P x y z | _ => False) := h
end
end TS
namespace TSR
theorem rabs_def (x : Rat) : rabs x = if 0 ≤ x then x else -x := by
  unfold rabs
  by_cases h : 0 ≤ x
  · rw [if_pos h, if_neg (by have := Rat.num_nonneg.mpr h; omega)]
  · rw [if_neg h, if_pos (by have : ¬ 0 ≤ x.num := fun z => h (Rat.num_nonneg.mp z); omega)]
theorem rabs_mul (a b : Rat) : rabs (a * b) = rabs a * rabs b := by
  have hpp := @Rat.mul_nonneg a b
  have hpn := @Rat.mul_nonneg a (-b)
  have hnp := @Rat.mul_nonneg (-a) b
  have hnn := @Rat.mul_nonneg (-a) (-b)
  rw [rabs_def, rabs_def, rabs_def]
  have e1 : a * -b = -(a * b) := by grind
  have e2 : -a * b = -(a * b) := by grind
  have e3 : -a * -b = a * b := by grind
  rw [e1] at hpn
  rw [e2] at hnp
  rw [e3] at hnn
  by_cases h1 : 0 ≤ a
  · by_cases h2 : 0 ≤ b
    · rw [if_pos h1, if_pos h2, if_pos (hpp h1 h2)]
    · rw [if_pos h1, if_neg h2, e1]
      have h3 := hpn h1 (by grind)
      generalize a * b = c at *
      grind
  · by_cases h2 : 0 ≤ b
    · rw [if_neg h1, if_pos h2, e2]
      have h3 := hnp (by grind) h2
      generalize a * b = c at *
      grind
    · rw [if_neg h1, if_neg h2, e3, if_pos (hnn (by grind) (by grind))]
theorem rabs_add (a b : Rat) : rabs (a + b) ≤ rabs a + rabs b := by
  rw [rabs_def, rabs_def, rabs_def]
  grind
end TSR
namespace TS
open PySem PySem.Spec PyProof.Rows L2 TSR
/-! ### order, equality, product, quotient of fractions -/
def plainT : List Tg := [.non, .bl, .int, .str, .tup, .lst, .dic]
def sp_Frac_eq : DSp := p2 fun a b M E Q => ∃ p, a = fr p ∧ ((∃ q, b = fr q ∧ Q (.bl (decide (p = q))) M) ∨ (∃ t, tgD M b = some t ∧ t ∈ plainT ∧ Q (.bl false) M))
def sp_Frac_lt : DSp := p2 (f2 fun p q M E Q => Sz 4000 p ∧ Sz 4000 q ∧ Q (.bl (decide (p < q))) M)
def sp_Frac_le : DSp := p2 (f2 fun p q M E Q => Sz 4000 p ∧ Sz 4000 q ∧ Q (.bl (decide (p ≤ q))) M)
def sp_Frac_gt : DSp := p2 (f2 fun p q M E Q => Sz 4000 p ∧ Sz 4000 q ∧ Q (.bl (decide (q < p))) M)
def sp_Frac_ge : DSp := p2 (f2 fun p q M E Q => Sz 4000 p ∧ Sz 4000 q ∧ Q (.bl (decide (q ≤ p))) M)
def sp_Frac_quotient : DSp := p2 (f2 fun p q M E Q => q ≠ 0 ∧ Sz 2000 p ∧ Sz 2000 q ∧ Q (fr (p / q)) M)
def spC1_Frac : DSp := p1 fun a M E Q => ∃ i, a = .int i ∧ Q (fr (Rat.divInt i 1)) M
def N_Frac_eq : List PySem.Str := ["self", "other"]
def t_Frac_eq : DTS := (sRet (dAndV (dCB (b2 (bIsa (isaT isaL))) (dCons (dVar 1) (dCons (dC (.cls 0)) dNil))) (dAndV (dBin (oEqP fun b => b) (dFld [0] "over" (dVar 0)) (dFld [0] "over" (dVar 1))) (dBin (oEqP fun b => b) (dFld [0] "under" (dVar 0)) (dFld [0] "under" (dVar 1))))))
def N_Frac_lt : List PySem.Str := ["self", "other"]
def t_Frac_lt : DTS := (sRet (dBin oLt0 (dBin oMul0 (dFld [0] "over" (dVar 0)) (dFld [0] "under" (dVar 1))) (dBin oMul0 (dFld [0] "over" (dVar 1)) (dFld [0] "under" (dVar 0)))))
def N_Frac_le : List PySem.Str := ["self", "other"]
def t_Frac_le : DTS := (sRet (dBin oLe0 (dBin oMul0 (dFld [0] "over" (dVar 0)) (dFld [0] "under" (dVar 1))) (dBin oMul0 (dFld [0] "over" (dVar 1)) (dFld [0] "under" (dVar 0)))))
def N_Frac_gt : List PySem.Str := ["self", "other"]
def t_Frac_gt : DTS := (sRet (dBin oGt0 (dBin oMul0 (dFld [0] "over" (dVar 0)) (dFld [0] "under" (dVar 1))) (dBin oMul0 (dFld [0] "over" (dVar 1)) (dFld [0] "under" (dVar 0)))))
def N_Frac_ge : List PySem.Str := ["self", "other"]
def t_Frac_ge : DTS := (sRet (dBin oGe0 (dBin oMul0 (dFld [0] "over" (dVar 0)) (dFld [0] "under" (dVar 1))) (dBin oMul0 (dFld [0] "over" (dVar 1)) (dFld [0] "under" (dVar 0)))))
def N_Frac_mul : List PySem.Str := ["self", "other"]
def t_Frac_mul : DTS := (sRet (dCB spC_Frac (dCons (dBin oMul0 (dFld [0] "over" (dVar 0)) (dFld [0] "over" (dVar 1))) (dCons (dBin oMul0 (dFld [0] "under" (dVar 0)) (dFld [0] "under" (dVar 1))) dNil))))
def N_Frac_quotient : List PySem.Str := ["self", "divisor"]
def t_Frac_quotient : DTS := (sSeq (sIf (dNot (dB (dCB (b2 (bIsa (isaT isaL))) (dCons (dVar 1) (dCons (dC (.cls 0)) dNil))))) sNever sNext) (sSeq (sIf (dB (dBin (oEqP fun b => b) (dFld [0] "over" (dVar 1)) (dC (.int 0)))) sNever sNext) (sRet (dCB spC_Frac (dCons (dBin oMul0 (dFld [0] "over" (dVar 0)) (dFld [0] "under" (dVar 1))) (dCons (dBin oMul0 (dFld [0] "under" (dVar 0)) (dFld [0] "over" (dVar 1))) dNil))))))

theorem mk1_Frac : ∀ ds M E Q, spC1_Frac ds M E Q → MkD 0 sp_Frac_init [.int 1] ds M E Q := fun ds M E Q h => by
  unfold spC1_Frac p1 at h
  split at h
  · rename_i ds a
    obtain ⟨i, rfl, h⟩ := h
    intro x hx
    refine ⟨x, rfl, Mem.set_same, by decide, by decide +kernel, rfl, _, by rw [Mem.set_set, Mem.set_same], ?_⟩
    rw [Mem.set_set, Mem.del_set hx]
    exact h
  · exact h.elim
theorem isa_plain {t : Tg} (h : t ∈ plainT) : isaT isaL (.cls 0) t = some false := by
  simp only [plainT, List.mem_cons, List.not_mem_nil, or_false] at h
  rcases h with rfl | rfl | rfl | rfl | rfl | rfl | rfl <;> rfl
theorem len_Frac_eq : ∀ ds M E Q, sp_Frac_eq ds M E Q → ds.length = [("self" : Str), "other"].length := p2_len
theorem dec_eq {p q : Rat} : decide (p = q) = (decide (p.num = q.num) && decide ((p.den : Int) = q.den)) := by
  by_cases h : p = q
  · subst h; simp
  · rw [decide_eq_false h]
    by_cases h1 : p.num = q.num
    · have h2 : ¬ ((p.den : Int) = q.den) := fun e => h (Rat.ext h1 (Int.ofNat.inj e))
      rw [decide_eq_false h2, Bool.and_false]
    · rw [decide_eq_false h1, Bool.false_and]
theorem pure_Frac_eq : Pure sp_Frac_eq t_Frac_eq N_Frac_eq := pure2 fun a b M E Q h => by
  obtain ⟨p, rfl, ⟨q, rfl, h⟩ | ⟨t, ht, hm, h⟩⟩ := h
  · refine ⟨true, rfl, ?_⟩
    rw [if_pos rfl]
    simp only [startD, N_Frac_eq, dAndV, dBin, dFld, dVar, gt, List.map, List.length, List.replicate, List.cons_append, List.nil_append, asO_fr, look_over, look_under, r_eqint]
    refine ⟨mem0, mem0, _, rfl, ?_⟩
    rw [dec_eq] at h
    by_cases h1 : p.num = q.num
    · rw [decide_eq_true h1] at h ⊢
      rw [if_pos rfl]
      exact ⟨mem0, mem0, h⟩
    · rw [decide_eq_false h1] at h ⊢
      rw [if_neg (by decide)]
      exact h
  · simp only [t_Frac_eq, startD, N_Frac_eq, sRet, dAndV, dCB, b2, dCons, dNil, dVar, dC, gt, List.map, List.length, List.replicate, List.cons_append, List.nil_append, bIsa, ht, isa_plain hm]
    exact ⟨false, rfl, h⟩
theorem nd_lt {p q : Rat} (h1 : Sz 4000 p) (h2 : Sz 4000 q) : mulOk p.num (q.den : Nat) := mulOk_of h1.1 (den_lt h2)
theorem len_Frac_lt : ∀ ds M E Q, sp_Frac_lt ds M E Q → ds.length = [("self" : Str), "other"].length := p2_len
theorem pure_Frac_lt : Pure sp_Frac_lt t_Frac_lt N_Frac_lt := pure2 fun a b M E Q h => by
  obtain ⟨p, q, rfl, rfl, h1, h2, h⟩ := h
  simp only [t_Frac_lt, startD, N_Frac_lt, sRet, dBin, dFld, dVar, gt, oMul0, oCmpI, List.map, List.length, List.replicate, List.cons_append, List.nil_append, asO_fr, look_over, look_under]
  refine ⟨mem0, mem0, nd_lt h1 h2, mem0, mem0, nd_lt h2 h1, ?_⟩
  rw [← decide_eq_decide.mpr (Rat.lt_iff p q)]
  exact h
theorem len_Frac_le : ∀ ds M E Q, sp_Frac_le ds M E Q → ds.length = [("self" : Str), "other"].length := p2_len
theorem pure_Frac_le : Pure sp_Frac_le t_Frac_le N_Frac_le := pure2 fun a b M E Q h => by
  obtain ⟨p, q, rfl, rfl, h1, h2, h⟩ := h
  simp only [t_Frac_le, startD, N_Frac_le, sRet, dBin, dFld, dVar, gt, oMul0, oCmpI, List.map, List.length, List.replicate, List.cons_append, List.nil_append, asO_fr, look_over, look_under]
  refine ⟨mem0, mem0, nd_lt h1 h2, mem0, mem0, nd_lt h2 h1, ?_⟩
  rw [← decide_eq_decide.mpr (Rat.le_iff p q)]
  exact h
theorem len_Frac_gt : ∀ ds M E Q, sp_Frac_gt ds M E Q → ds.length = [("self" : Str), "other"].length := p2_len
theorem pure_Frac_gt : Pure sp_Frac_gt t_Frac_gt N_Frac_gt := pure2 fun a b M E Q h => by
  obtain ⟨p, q, rfl, rfl, h1, h2, h⟩ := h
  simp only [t_Frac_gt, startD, N_Frac_gt, sRet, dBin, dFld, dVar, gt, oMul0, oCmpI, List.map, List.length, List.replicate, List.cons_append, List.nil_append, asO_fr, look_over, look_under]
  refine ⟨mem0, mem0, nd_lt h1 h2, mem0, mem0, nd_lt h2 h1, ?_⟩
  rw [← decide_eq_decide.mpr (Rat.lt_iff q p)]
  exact h
theorem len_Frac_ge : ∀ ds M E Q, sp_Frac_ge ds M E Q → ds.length = [("self" : Str), "other"].length := p2_len
theorem pure_Frac_ge : Pure sp_Frac_ge t_Frac_ge N_Frac_ge := pure2 fun a b M E Q h => by
  obtain ⟨p, q, rfl, rfl, h1, h2, h⟩ := h
  simp only [t_Frac_ge, startD, N_Frac_ge, sRet, dBin, dFld, dVar, gt, oMul0, oCmpI, List.map, List.length, List.replicate, List.cons_append, List.nil_append, asO_fr, look_over, look_under]
  refine ⟨mem0, mem0, nd_lt h1 h2, mem0, mem0, nd_lt h2 h1, ?_⟩
  rw [← decide_eq_decide.mpr (Rat.le_iff q p)]
  exact h

theorem div_eq (p q : Rat) : Rat.divInt (p.num * q.den) (p.den * q.num) = p / q := by
  rw [Rat.div_def, Rat.inv_def]
  have h := Rat.divInt_mul_divInt p.num (q.den : Int) (d₁ := p.den) (d₂ := q.num)
  rw [Rat.num_divInt_den] at h
  exact h.symm
theorem num_ne {q : Rat} (h : q ≠ 0) : q.num ≠ 0 := fun e => h (Rat.num_eq_zero.mp e)
theorem Sz.div {n : Nat} {p q : Rat} (hq : q ≠ 0) (h1 : Sz n p) (h2 : Sz n q) : Sz (n + n) (p / q) := by
  rw [← div_eq]
  refine Sz.of (Int.mul_ne_zero (den_ne p) (num_ne hq)) ?_ ?_
  · rw [Int.natAbs_mul]; exact mul_lt h1.1 (den_lt h2)
  · rw [Int.natAbs_mul]; exact mul_lt (den_lt h1) h2.1
theorem len_Frac_mul : ∀ ds M E Q, sp_Frac_mul ds M E Q → ds.length = [("self" : Str), "other"].length := p2_len
theorem pure_Frac_mul : Pure sp_Frac_mul t_Frac_mul N_Frac_mul := pure2 fun a b M E Q h => by
  obtain ⟨p, q, rfl, rfl, h1, h2, h⟩ := h
  simp only [t_Frac_mul, startD, N_Frac_mul, sRet, dCB, dCons, dNil, dBin, dFld, dVar, gt, oMul0, List.map, List.length, List.replicate, List.cons_append, List.nil_append, asO_fr, look_over, look_under, r_mk]
  refine ⟨mem0, mem0, mulOk_of h1.1 h2.1, mem0, mem0, mulOk_of (den_lt h1) (den_lt h2), dd_ne p q, dd_lt h1 h2, ?_⟩
  rw [mul_eq]
  exact h
theorem len_Frac_quotient : ∀ ds M E Q, sp_Frac_quotient ds M E Q → ds.length = [("self" : Str), "divisor"].length := p2_len
theorem pure_Frac_quotient : Pure sp_Frac_quotient t_Frac_quotient N_Frac_quotient := pure2 fun a b M E Q h => by
  obtain ⟨p, q, rfl, rfl, hq, h1, h2, h⟩ := h
  refine ⟨true, rfl, ?_⟩
  dsimp only
  rw [if_neg (by decide)]
  simp only [startD, N_Frac_quotient, sSeq, sIf, sNext, dB, sRet, dC, dCB, dCons, dNil, dBin, dFld, dVar, gt, oMul0, List.map, List.length, List.replicate, List.cons_append, List.nil_append, asO_fr, look_over, look_under, r_mk, r_eqint]
  refine ⟨mem0, _, rfl, ?_⟩
  rw [if_neg (by simpa using num_ne hq)]
  refine ⟨mem0, mem0, mulOk_of h1.1 (den_lt h2), mem0, mem0, mulOk_of (den_lt h1) h2.1, Int.mul_ne_zero (den_ne p) (num_ne hq), ?_, ?_⟩
  · rw [Int.natAbs_mul]
    exact lt8 (n := 4000) (mul_lt (n := 2000) (m := 2000) (den_lt h1) h2.1) (by decide)
  · rw [div_eq]
    exact h
/-! ### steps -/
section
variable {p q : Rat} {M : Mem} {E0 : XD} {E : EX} {Q : QD} {QB : Bool → Mem → Prop} {δ : DEnv} {t : DT} {tr : DTA} {i j : Int}
theorem tg0 : Tg.own 0 ∈ tgs := by decide
theorem x_flt (h1 : Sz 4000 p) (h2 : Sz 4000 q) (h : Q (.bl (decide (p < q))) M) : oCmpOwn (tl [(0, sp_Frac_lt)]) tgs (fr p) (fr q) M E0 Q := ⟨tg0, p, q, rfl, rfl, h1, h2, h⟩
theorem x_fle (h1 : Sz 4000 p) (h2 : Sz 4000 q) (h : Q (.bl (decide (p ≤ q))) M) : oCmpOwn (tl [(0, sp_Frac_le)]) tgs (fr p) (fr q) M E0 Q := ⟨tg0, p, q, rfl, rfl, h1, h2, h⟩
theorem x_fgt (h1 : Sz 4000 p) (h2 : Sz 4000 q) (h : Q (.bl (decide (q < p))) M) : oCmpOwn (tl [(0, sp_Frac_gt)]) tgs (fr p) (fr q) M E0 Q := ⟨tg0, p, q, rfl, rfl, h1, h2, h⟩
theorem x_fge (h1 : Sz 4000 p) (h2 : Sz 4000 q) (h : Q (.bl (decide (q ≤ p))) M) : oCmpOwn (tl [(0, sp_Frac_ge)]) tgs (fr p) (fr q) M E0 Q := ⟨tg0, p, q, rfl, rfl, h1, h2, h⟩
theorem x_feq (h : Q (.bl (decide (p = q))) M) : oCmpOwn (tl [(0, sp_Frac_eq)]) tgs (fr p) (fr q) M E0 Q := ⟨tg0, p, rfl, .inl ⟨q, rfl, h⟩⟩
theorem x_fne (h : Q (.bl (!decide (p = q))) M) : oNeOwn (tl [(0, sp_Frac_eq)]) tgs (fr p) (fr q) M E0 Q := ⟨tg0, p, rfl, .inl ⟨q, rfl, _, rfl, h⟩⟩
theorem x_mk2 (hj : j ≠ 0) (h2 : j.natAbs < 2 ^ 8000) (h : Q (fr (Rat.divInt i j)) M) : spC_Frac [.int i, .int j] M E0 Q := ⟨hj, h2, h⟩
theorem x_mk1 (h : Q (fr (Rat.divInt i 1)) M) : spC1_Frac [.int i] M E0 Q := ⟨i, rfl, h⟩
theorem x_fquo (hq : q ≠ 0) (h1 : Sz 2000 p) (h2 : Sz 2000 q) (h : Q (fr (p / q)) M) : sp_Frac_quotient [fr p, fr q] M E0 Q := ⟨p, q, rfl, rfl, hq, h1, h2, h⟩
theorem x_powI (h : (decide (0 ≤ j) && (decide (j ≤ 1000000) && decide (i.natAbs < 2 ^ 64))) = true) (q : Q (.int (i ^ j.toNat)) M) : oPow0 (.int i) (.int j) M E0 Q := by
  obtain ⟨h1, h2⟩ := Bool.and_eq_true_iff.mp h
  obtain ⟨h2, h3⟩ := Bool.and_eq_true_iff.mp h2
  exact ⟨⟨of_decide_eq_true h1, of_decide_eq_true h2, of_decide_eq_true h3⟩, q⟩
def goMeth (T : Nat → Option (DSp × List D)) (m : Str) (tr : DTA) (δ : DEnv) (E : EX) (Q : QD) (d : D) (M1 : Mem) : Prop := match asO M1 d with
  | some (c, fs) => (match T c with
    | some (sp, dds) => fs.lookup m = none ∧ tr δ M1 E fun ds M2 => sp (d :: (ds ++ dds)) M2 (fun c fs M' => E c fs δ M') Q
    | none => False)
  | none => False
theorem x_meth {T : Nat → Option (DSp × List D)} {m : Str} (h : t δ M E fun d M1 => goMeth T m tr δ E Q d M1) : dMeth T m t tr δ M E Q := h
theorem x_goQuo (h : tr δ M E fun ds M2 => sp_Frac_quotient (fr p :: ds) M2 (fun c fs M' => E c fs δ M') Q) : goMeth (tl [(0, (sp_Frac_quotient, []))]) "quotient" tr δ E Q (fr p) M := by
  unfold goMeth
  simp only [asO_fr, tl0, List.append_nil]
  exact ⟨rfl, h⟩
def goTru (T : OTab) (δ : DEnv) (E : EX) (Q : Bool → Mem → Prop) (d : D) (M1 : Mem) : Prop := uOwn T d M1 (fun c fs M' => E c fs δ M') fun r M' => ∃ b, r = .bl b ∧ Q b M'
theorem x_truO {T : OTab} (h : t δ M E fun d M1 => goTru T δ E QB d M1) : dTruO T t δ M E QB := h
theorem x_goTru (h : QB (p.num != 0) M) : goTru (tl [(0, sp_Frac_bool)]) δ E QB (fr p) M := ⟨p, rfl, _, rfl, h⟩
theorem x_notNT {l : List D} (h : t δ M E fun d M1 => match d with | .non => Q (.bl false) M1 | .cls _ => False | _ => Q (.bl true) M1) : dNotN t δ M E Q := h
end
theorem up1 {p : Rat} (h : Sz 300 p) : Sz 1900 p := h.mono (by decide)
theorem up2 {p : Rat} (h : Sz 300 p) : Sz 2000 p := h.mono (by decide)
theorem up4 {p : Rat} (h : Sz 300 p) : Sz 4000 p := h.mono (by decide)
theorem x_nd {A B : Prop} {p : Prop} [Decidable p] (hp : p) (h : B) : if (!decide p) = true then A else B := by rw [decide_eq_true hp]; exact x_ff h
theorem x_tv {A B : Prop} {b : Bool} (hb : b = true) (h : A) : if b = true then A else B := by rw [if_pos hb]; exact h
theorem x_fv {A B : Prop} {b : Bool} (hb : b = false) (h : B) : if b = true then A else B := by rw [hb]; exact x_ff h
theorem x_nt {A B : Prop} (h : B) : if (!true) = true then A else B := by rw [Bool.not_true]; exact x_ff h
theorem x_nf {A B : Prop} (h : A) : if (!false) = true then A else B := by rw [Bool.not_false]; exact x_tt h
theorem x_mk1_0 {M : Mem} {E0 : XD} {Q : QD} (h : Q (fr 0) M) : spC1_Frac [.int 0] M E0 Q := ⟨0, rfl, h⟩
theorem x_mk1_1 {M : Mem} {E0 : XD} {Q : QD} (h : Q (fr 1) M) : spC1_Frac [.int 1] M E0 Q := ⟨1, rfl, h⟩
theorem x_mk1_m {M : Mem} {E0 : XD} {Q : QD} (h : Q (fr (-1)) M) : spC1_Frac [.int (-1)] M E0 Q := ⟨-1, rfl, h⟩
theorem cutK {l : List D} {k : Int} {n : Nat} (hk : k = n) : cutD l none (some k) = l.take n := by
  unfold cutD
  have hi : HT.sIx l.length 0 none = 0 := rfl
  have hj : HT.sIx l.length l.length (some k) = min n l.length := by subst hk; exact HT.sIx_nat _ _ _
  rw [hi, hj, List.drop_zero, Nat.sub_zero]
  rcases Nat.le_total n l.length with q | q
  · rw [Nat.min_eq_left q]
  · rw [Nat.min_eq_right q, List.take_length, List.take_of_length_le q]
theorem sh_reprs3 {a b c : Rat} : SeqAt.shaped (.list [.str (reprOf a), .str (reprOf b), .str (reprOf c)]) = true := sh_strs (l := [reprOf a, reprOf b, reprOf c]) fun z hz => by
  simp only [List.mem_cons, List.not_mem_nil, or_false] at hz
  rcases hz with rfl | rfl | rfl
  · exact ok_repr _
  · exact ok_repr _
  · exact ok_repr _
/-- a comprehension by an invariant -/
theorem comp_inv {δ : DEnv} {ta : DT} {n : Nat} {QA : List D → Mem → Prop} (I : Nat → List D → Mem → Prop) (K : Nat) : ∀ (l acc : List D) (k : Nat) (M : Mem), k + l.length ≤ K → I k acc M → (∀ x ∈ l, ∀ k acc (M : Mem) (Q' : QD), k < K → I k acc M → (∀ y M', I (k + 1) (acc ++ [y]) M' → Q' y M') → ta (stt δ n x) M (fun _ _ _ _ => False) Q') →
    acc.length + l.length ≤ sizeLine → (∀ acc' M', I (k + l.length) acc' M' → QA acc' M') → CompL (bdName n) dYes ta QA l acc δ M
  | [], acc, k, M, _, h, _, _, q => q acc M h
  | x :: l, acc, k, M, hK, h, hs, hl, q => by
    refine hs x (List.mem_cons_self ..) k acc M _ (by rw [List.length_cons] at hK; omega) h fun y M' h' => ⟨by rw [List.length_cons] at hl; omega, ?_⟩
    refine comp_inv I K l (acc ++ [y]) (k + 1) M' (by rw [List.length_cons] at hK; omega) h' (fun z hz => hs z (List.mem_cons_of_mem _ hz)) (by rw [List.length_append, List.length_cons, List.length_nil]; rw [List.length_cons] at hl; omega) fun acc' M'' h'' => q acc' M'' ?_
    rw [List.length_cons, show k + (l.length + 1) = k + 1 + l.length by omega]
    exact h''
end TS
namespace TS
open PySem PySem.Spec PyProof.Rows L2
/-! ### keywords -/
abbrev DPK (X : Cx) (ca : Ca) (W : WX) (kws : List Keyword) (t : DTA) : Prop := PK X kws (liftA X.K ca W t)
section
variable {X : Cx} {ca : Ca} {W : WX} {k j c : Nat} {e : Expr} {te : DT} {t : DTA} {kws : List Keyword} {nm : Option Str} {kpos : Pos}
theorem pkImp {t t' : TA} (h : PK X kws t) (q : ∀ σ H Q, t' σ H Q → t σ H Q) : PK X kws t' := ⟨fun pos pins s σ H Q I z => h.run pos pins s σ H Q I (q σ H Q z)⟩
theorem dk_nil : DPK X ca W [] dNil := pkImp pk_nil fun σ H R ⟨U, F, M, δ, E, Q, S, h, c⟩ => c _ _ _ _ _ h Ext.rfl' rfl S.hr
theorem dk_cons (he : DE X ca W e te) (ha : DPK X ca W kws t) : DPK X ca W (⟨nm, e, kpos⟩ :: kws) (dCons te t) := pkImp (pk_cons he ha) fun σ H R ⟨U, F, M, δ, E, Q, S, h, c⟩ => by
  refine lift_of S h fun d M1 F1 v H1 h1 e1 r1 g1 => ?_
  refine liftA_of (S.up e1 g1) h1 fun ds M2 F2 vs H2 h2 e2 r2 g2 => ?_
  exact c _ _ _ _ _ h2 (e1.trans e2) ⟨v, vs, rfl, r1.mono e2, r2⟩ g2
/-- a class that is called with the keywords ks alone: what its __init__ gets, in the parameters' order -/
structure MkrK (X : Cx) (ca : Ca) (k : Nat) (c : Nat) (x : Str) (ks : List Str) (spC : DSp) : Prop where
  ex : ∃ (f : Addr) (fd : FuncData) (ps : List Str) (g : List Value → List Value → List Value) (gV : List V → List V → List V) (gD : D → List D → List D) (sp : DSp), X.mg x = some (.ref (ca c)) ∧ Mk X.K (ca c) f ∧ FnOk X.prog X.w X.K X.mg X.base (L2.CX X.prog X.w) k f fd ps (toSp X.K ca sp) ∧ KBn X.K fd ps 1 ks g gV ∧
    (∀ (F : Hp) (d : D) (v : V) (ds : List D) (vs : List V), Rep X.K ca F d v → RepL X.K ca F ds vs → ds.length = ks.length → RepL X.K ca F (gD d ds) (gV [v] vs)) ∧
    (∀ ds M E Q, spC ds M E Q → ds.length = ks.length ∧ ∀ x, M x = none → sp (gD (.ref x) ds) (M.set x (.ins c [])) (fun c' fs M' => E c' fs (M'.del x)) fun v M2 => v = .non ∧ ∃ fs, M2 x = some (.ins c fs) ∧ Q (.obj c fs) (M2.del x))
theorem run_mkK {x : Str} {ks : List Str} {spC : DSp} {pins : List (Addr × Obj)} {s : Shared} {σ : L2.St} {U F H : Hp} {M : Mem} {δ : DEnv} {E : EX} {Q : QD} {R : VK} {ds : List D} {vs : List V} {ws : List Value} (C : Ctx X j W) (G : MkrK X ca k c x ks spC) (hk : k + 1 ≤ j) (I : Inv X pins σ H s) (S : Stt X.K ca U W F M δ E σ H)
    (rv : Vals vs ws) (rl : RepL X.K ca F ds vs) (h : spC ds M (fun c fs M' => E c fs δ M') Q) (cl : Cl X.K ca U F Q R) : wpAny (model X.prog X.w) X.A (call (.ref (ca c)) [] (ks.zip ws)) (EP X pins σ R) X.xe s := by
  obtain ⟨f, fd, ps, g, gV, gD, sp, hm, mk, FF, hb, hg, hs⟩ := G.ex
  obtain ⟨hlen, hs⟩ := hs _ _ _ _ h
  have n1 : H (s.heap.objs.size + 1) = none := I.hok.fresh (Nat.le_succ _)
  have n2 : H s.heap.objs.size = none := I.hok.fresh (Nat.le_refl _)
  have ne : s.heap.objs.size ≠ s.heap.objs.size + 1 := Nat.ne_of_lt (Nat.lt_succ_self _)
  have I2 := Inv.made (C := ca c) I
  have g1 : HR X.K ca U F M (upd H s.heap.objs.size (.own (s.heap.objs.size + 1))) := S.hr.grow (Ext.upd n2)
  have n3 : upd H s.heap.objs.size (.own (s.heap.objs.size + 1)) (s.heap.objs.size + 1) = none := by rw [upd_ne (Ne.symm ne)]; exact n1
  have g2 := g1.newM (m := .ins c []) n3 (.ins (ca c) s.heap.objs.size []) ⟨s.heap.objs.size, [], upd_same, rfl⟩
  have hq := hs (s.heap.objs.size + 1) (S.hr.no n1).2.2
  have lw : ws.length = ks.length := by rw [← rv.length, rl.length]; exact hlen
  have rr : RepL X.K ca F (gD (.ref (s.heap.objs.size + 1)) ds) (gV [V.ref (s.heap.objs.size + 1)] vs) := hg F _ _ _ _ (show V.ref (s.heap.objs.size + 1) = .ref (s.heap.objs.size + 1) from rfl) rl hlen
  have prom : toSp X.K ca sp (gV [V.ref (s.heap.objs.size + 1)] vs) (upd (upd H s.heap.objs.size (.own (s.heap.objs.size + 1))) (s.heap.objs.size + 1) (.ins (ca c) s.heap.objs.size []))
      (fun v H2 => v = .non ∧ R (.ref (s.heap.objs.size + 1)) H2) (fun cls od H' => W cls od σ H') :=
    ⟨U, F, M.set (s.heap.objs.size + 1) (.ins c []), gD (.ref (s.heap.objs.size + 1)) ds, _, _, rr, g2, hq, fun d M' F' v H' q e r g => mkD_go q e r g cl, fun c' fs M' F' H' od he e g ho => S.xc c' fs δ _ F' σ H' od he e (S.env.mono e) (g.drop _) ho⟩
  have r1 : Vals [V.ref (s.heap.objs.size + 1)] [Value.ref (s.heap.objs.size + 1)] := .cons rfl .nil
  have ran := FF.run _ X.stack _ _ ⟨[Value.ref (s.heap.objs.size + 1)], ks.zip ws⟩ (g [Value.ref (s.heap.objs.size + 1)] ws) _ _ _ ((C.room.mono hk).make (ca c) [] (ks.zip ws)) (I2.env0.make (ca c) [] (ks.zip ws)) (hb.to _ [Value.ref (s.heap.objs.size + 1)] ws I2.kIn rfl lw) (hb.rel r1 rv) prom
  refine wpAny_call (make_map (f := f) I.kIn mk.makes mk.init (beq_iff_eq.mp mk.fn) (codeAny_mono ran fun r s' out => ?_))
  cases r with
  | error e => exact C.tk e s' (XE.of_call I2 (fun cls d H' z => z) out)
  | ok fl =>
    cases fl with
    | ret u =>
      obtain ⟨v, H', I3, rv', ev, q3⟩ := I2.after out
      subst ev
      exact ⟨rv', ⟨V.ref (s.heap.objs.size + 1), H', I3, rfl, q3⟩⟩
    | next => exact out.elim
    | brk => exact out.elim
    | cont => exact out.elim
theorem de_makeK {x : Str} {ks : List Str} {spC : DSp} {p pos : Pos} (C : Ctx X j W) (G : MkrK X ca k c x ks spC) (ha : DPK X ca W kws t) (hk : k + 1 ≤ j := by decide) (hg : Gl X x := by rfl) (hdb : (x == ("__debug__" : Str)) = false := by decide)
    (hall : (backToKw pos (keywordEach kws X.env)).all (·.1.isSome) = true := by rfl) (hks : (backToKw pos (keywordEach kws X.env)).filterMap (·.1) = ks := by rfl)
    (hpl : ((backTo pos (starEach [] X.env)).any (·.1) || (backToKw pos (keywordEach kws X.env)).any (·.1.isNone)) = false := by rfl) : DE X ca W (.Call (.Name x p) [] kws pos) (dCB spC t) := by
  refine ⟨fun pins s σ H R I ⟨U, F, M, δ, E, Q, S, h, c'⟩ => ?_⟩
  obtain ⟨f, fd, ps, g, gV, gD, sp, hm, mk, _⟩ := G.ex
  refine wpAny_Call_Name_kw (ld_glob I hg hm ?_ hdb)
  refine PySem.W.callWith_KW0 (first := []) (h₀ := X.base) I.ok.mod.kin mk.kp hall (thn (ha.run pos pins s σ H (fun vs H1 => ∃ F1 M1 ds, Stt X.K ca U W F1 M1 δ E σ H1 ∧ RepL X.K ca F1 ds vs ∧ spC ds M1 (fun c fs M' => E c fs δ M') Q ∧ Cl X.K ca U F1 Q R) I ?_) fun us s1 ⟨vs, H1, I1, r, F1, M1, ds, S1, rl, hs, c1⟩ => ⟨I1.kIn, ?_⟩) hpl
  · exact liftA_of S h fun ds M1 F1 vs H1 h1 e1 r1 g1 => ⟨F1, M1, ds, S.up e1 g1, r1, h1, c'.up e1⟩
  · rw [hks]
    exact run_mkK C G hk I1 S1 r rl hs c1
end
/-! ### {} -/
section
variable {X : Cx} {ca : Ca} {W : WX} {pos : Pos}
def dDic0 : DT := fun _ M _ Q => Q (.dic []) M
theorem de_dic0 : DE X ca W (.Dict [] [] pos) dDic0 := peImp pe_dnewK fun σ H R ⟨U, F, M, δ, E, Q, S, h, c⟩ => fun p hp => by
  obtain ⟨g2, e2⟩ := S.hr.newF hp (.dK [])
  exact c _ _ _ _ _ h e2 ⟨p, [], rfl, upd_same, rfl⟩ g2
end
/-! ### keywords: the facts -/
def pick {α : Type} (js : List Nat) (l : List α) : List α := js.filterMap fun j => l[j]?
theorem paired_get {α β : Type} {R : α → β → Prop} : ∀ {l : List α} {m : List β}, Paired R l m → ∀ j : Nat, (l[j]? = none ∧ m[j]? = none) ∨ ∃ a b, l[j]? = some a ∧ m[j]? = some b ∧ R a b
  | _, _, .nil, j => .inl ⟨rfl, rfl⟩
  | _, _, .cons h t, 0 => .inr ⟨_, _, rfl, rfl, h⟩
  | _, _, .cons h t, j + 1 => paired_get t j
theorem paired_pick {α β : Type} {R : α → β → Prop} {l : List α} {m : List β} (h : Paired R l m) : ∀ js : List Nat, Paired R (pick js l) (pick js m)
  | [] => .nil
  | j :: js => by
    unfold pick
    rcases paired_get h j with ⟨e1, e2⟩ | ⟨a, b, e1, e2, r⟩
    · rw [List.filterMap_cons_none e1, List.filterMap_cons_none e2]
      exact paired_pick h js
    · rw [List.filterMap_cons_some e1, List.filterMap_cons_some e2]
      exact .cons r (paired_pick h js)
theorem paired_append {α β : Type} {R : α → β → Prop} : ∀ {l l' : List α} {m m' : List β}, Paired R l m → Paired R l' m' → Paired R (l ++ l') (m ++ m')
  | _, _, _, _, .nil, h => h
  | _, _, _, _, .cons h t, h' => .cons h (paired_append t h')
theorem paired_of_repL {K : Fg} {ca : Ca} {F : Hp} : ∀ {l : List D} {vs : List V}, RepL K ca F l vs → Paired (Rep K ca F) l vs
  | [], _, h => by cases h; exact .nil
  | d :: l, _, ⟨v, r, e, h, t⟩ => by subst e; exact .cons h (paired_of_repL t)
theorem repL_of_paired {K : Fg} {ca : Ca} {F : Hp} : ∀ {l : List D} {vs : List V}, Paired (Rep K ca F) l vs → RepL K ca F l vs
  | _, _, .nil => rfl
  | _, _, .cons h t => ⟨_, _, rfl, h, repL_of_paired t⟩
/-- a def that is called with n by position and the keywords ks: what it keeps, the arguments in the parameters' order -/
structure KwD (P : Program) (w : World) (K : Fg) (mg : Str → Option Value) (base : Heap) (ca : Ca) (k : Nat) (f : Addr) (n : Nat) (ks : List Str) (js : List Nat) (dds : List D) (sp : DSp) : Prop where
  ex : ∃ (fd : FuncData) (ps : List Str) (its : List Value) (dvs : List V), FnOk P w K mg base (L2.CX P w) k f fd ps (toSp K ca sp) ∧ KBn K fd ps n ks (fun us ws => pick js (us ++ ws ++ its)) (fun vs zs => pick js (vs ++ zs ++ dvs)) ∧ ∀ F : Hp, RepL K ca F dds dvs
section
variable {P : Program} {w : World} {K : Fg} {mg : Str → Option Value} {base : Heap} {ca : Ca} {k n c : Nat} {f : Addr} {sp spC : DSp} {ks : List Str} {js : List Nat} {dds : List D}
  {x qual : Str} {params : Arguments} {body : List Stmt} {scope : Scope} {dvs : List V} {kws : List (Str × V)} {fd : FuncData} {ps : List Str}
theorem kwD_d (G : FunD K x qual params body scope dvs kws f fd) (F : FnOk P w K mg base (L2.CX P w) k f fd ps (toSp K ca sp)) (hd : dvs ≠ []) (rd : ∀ F : Hp, RepL K ca F dds dvs)
    (h : ∀ (T : Addr) (kV doc pm : Value) (an : Option Addr) (cdv ct : Value) (us its ws : List Value), us.length = n → its.length = dvs.length → ws.length = ks.length → ∃ k, bindArgs (PySem.W.fnOf x qual params body scope (.ref T) kV doc pm an cdv ct) ⟨us, ks.zip ws⟩ = (seqItems? (.ref T) >>= k) ∧ k (some its.toArray) = pure (ps.zip (pick js (us ++ ws ++ its)))) : KwD P w K mg base ca k f n ks js dds sp := by
  obtain ⟨its, hb⟩ := G.kbindsD n ks (fun us its ws => pick js (us ++ ws ++ its)) hd (fun h1 h2 h3 => paired_pick (paired_append (paired_append h1 h3) h2) js) h
  exact ⟨fd, ps, its, dvs, F, hb, rd⟩
theorem kwD_n (G : FunD K x qual params body scope [] kws f fd) (F : FnOk P w K mg base (L2.CX P w) k f fd ps (toSp K ca sp))
    (h : ∀ (kV doc pm : Value) (an : Option Addr) (cdv ct : Value) (us ws : List Value), us.length = n → ws.length = ks.length → bindArgs (PySem.W.fnOf x qual params body scope .none kV doc pm an cdv ct) ⟨us, ks.zip ws⟩ = pure (ps.zip (pick js (us ++ ws)))) : KwD P w K mg base ca k f n ks js [] sp := by
  obtain ⟨oc, od, dV, kV, doc, pm, an, cdv, ct, osl, rfl, hl, hc, hd, hk⟩ := G.ex
  rcases hd with ⟨_, rfl⟩ | ⟨hd, _⟩
  · refine ⟨_, ps, [], [], F, ⟨fun s us ws hK hu hw => ?_, fun h1 h2 => paired_pick (paired_append (paired_append h1 h2) .nil) js⟩, fun _ => rfl⟩
    simp only [List.append_nil]
    intro M A E Q z
    rw [h kV doc pm an cdv ct us ws hu hw]
    exact wpAny_pure z
  · exact absurd rfl hd
theorem at_mkrK (hm : mg x = some (.ref (ca c))) (mk : Mk K (ca c) f) (G : KwD P w K mg base ca k f 1 ks js dds sp)
    (h : ∀ ds M E Q, spC ds M E Q → ds.length = ks.length ∧ ∀ x, M x = none → sp (pick js (.ref x :: ds ++ dds)) (M.set x (.ins c [])) (fun c' fs M' => E c' fs (M'.del x)) fun v M2 => v = .non ∧ ∃ fs, M2 x = some (.ins c fs) ∧ Q (.obj c fs) (M2.del x)) : AtX P w K mg base fun X => MkrK X ca k c x ks spC := by
  rintro X rfl rfl rfl rfl rfl
  obtain ⟨fd, ps, its, dvs, F, hb, rd⟩ := G.ex
  refine ⟨f, fd, ps, _, _, (fun d ds => pick js (d :: ds ++ dds)), sp, hm, mk, F, hb, fun F d v ds vs r rl _ => ?_, h⟩
  exact repL_of_paired (paired_pick (paired_append (paired_append (Paired.cons r .nil) (paired_of_repL rl)) (paired_of_repL (rd F))) js)
end
/-! ### a + b of lists, the sum to be changed -/
section
variable {X : Cx} {ca : Ca} {W : WX}
def oAddM : DOp := fun x y M E Q => match asL M x, asL M y with
  | some a, some b => a.length + b.length ≤ sizeLine ∧ ∀ p, M p = none → Q (.ref p) (M.set p (.lst (a ++ b)))
  | _, _ => False
theorem op_addM : OpD X ca W (binaryOp .Add) oAddM := by
  intro pins s σ H U F M δ E Q R dx dy x y v u I S rx ry rv ru ho c
  unfold oAddM at ho
  cases ha : asL M dx with
  | none => rw [ha] at ho; exact ho.elim
  | some a =>
    cases hb : asL M dy with
    | none => rw [ha, hb] at ho; exact ho.elim
    | some b =>
      rw [ha, hb] at ho
      obtain ⟨hz, q⟩ := ho
      obtain ⟨p, vs, rfl, hs, rl⟩ := asL_ok S.hr rx ha
      obtain ⟨p', vs', rfl, hs', rl'⟩ := asL_ok S.hr ry hb
      refine op_catL pins s σ H _ _ v u R I rv ru ⟨p, p', vs, vs', rfl, rfl, hs, hs', by rw [rl.length, rl'.length]; exact hz, fun t ht => ?_⟩
      exact c _ _ _ _ _ (q t (S.hr.no ht).2.2) Ext.rfl' rfl (S.hr.newM ht (.lst (vs ++ vs')) ⟨vs ++ vs', upd_same, rl.append rl'⟩)
theorem x_addM {M : Mem} {a b : List D} {x y : D} {E0 : XD} {Q : QD} (ha : asL M x = some a) (hb : asL M y = some b) (h : Nat.ble (a.length + b.length) sizeLine = true) (q : ∀ p, M p = none → Q (.ref p) (M.set p (.lst (a ++ b)))) : oAddM x y M E0 Q := by
  unfold oAddM
  rw [ha, hb]
  exact ⟨Nat.le_of_ble_eq_true h, q⟩
end
/-! ### repr of two ints -/
theorem str_ext {a b : Str} (h : a.cps = b.cps) : a = b := by cases a; cases b; cases h; rfl
theorem str_assoc (a b c : Str) : a ++ b ++ c = a ++ (b ++ c) := str_ext (show a.cps ++ b.cps ++ c.cps = a.cps ++ (b.cps ++ c.cps) from Array.append_assoc ..)
theorem str_nil (a : Str) : Str.empty ++ a = a := str_ext (show #[] ++ a.cps = a.cps from Array.empty_append ..)
theorem repr_i2 {a b : Int} {M : Mem} {E : XD} {Q : QD} (ha : a.natAbs < 2 ^ 200) (hb : b.natAbs < 2 ^ 200) (h : Q (.str (PyData.list [.int a, .int b]).shown) M) : bReprP (.lst [.int a, .int b]) M E Q := by
  have k1 := int_len ha (by decide)
  have k2 := int_len hb (by decide)
  refine ⟨?_, rfl, (by show 1 ≤ 64; decide), ?_, h⟩
  · show (decide (a.natAbs.log2 < 1920) && (decide (b.natAbs.log2 < 1920) && true)) = true
    rw [decide_eq_true (log2_of (m := 1920) ha (by decide) (by decide)), decide_eq_true (log2_of (m := 1920) hb (by decide) (by decide))]
    rfl
  · have e : (PyData.list [.int a, .int b]).shown = Str.ofString "[" ++ Str.ofString (toString a) ++ (Str.ofString ", " ++ Str.ofString (toString b)) ++ Str.ofString "]" := by
      show (((Str.ofString "[" ++ Str.ofString "" ++ Str.ofString (toString a)) ++ Str.ofString ", " ++ Str.ofString (toString b)) ++ Str.ofString "]") = _
      have e0 : Str.ofString "[" ++ Str.ofString "" = Str.ofString "[" := by decide +kernel
      rw [e0]
      simp only [str_assoc]
    rw [e]
    simp only [cat_len]
    have k3 : (Str.ofString "[").length = 1 := by decide +kernel
    have k4 : (Str.ofString "]").length = 1 := by decide +kernel
    have k5 : (Str.ofString ", ").length = 2 := by decide +kernel
    rw [sizeLine_eq]
    omega
section
variable {M : Mem} {E0 : XD} {E : EX} {Q : QD} {δ : DEnv} {t : DT} {p : Rat}
def goProp (T : Nat → Option DSp) (Q : QD) (d : D) (M1 : Mem) : Prop := match asO M1 d with
  | some (c, _) => (match T c with | some sp => sp [d] M1 (fun _ _ _ => False) Q | none => False)
  | none => False
theorem x_prop {T : Nat → Option DSp} (h : t δ M E fun d M1 => goProp T Q d M1) : dProp T t δ M E Q := h
theorem x_goTop (h : Q (.int p.num) M) : goProp (tl [(0, sp_Frac_top)]) Q (fr p) M := ⟨p, rfl, h⟩
theorem x_goBot (h : Q (.int p.den) M) : goProp (tl [(0, sp_Frac_bottom)]) Q (fr p) M := ⟨p, rfl, h⟩
end
section
variable {M : Mem} {E0 : XD} {Q : QD} {a b c d e f : D} {l : List D}
theorem x_t0 (h : Q a M) : oIx0 (.tup (a :: l)) (.int 0) M E0 Q := ixT atI0 h
theorem x_t1 (h : Q b M) : oIx0 (.tup (a :: b :: l)) (.int 1) M E0 Q := ixT (atI_nat (n := 1) rfl) h
theorem x_t2 (h : Q c M) : oIx0 (.tup (a :: b :: c :: l)) (.int 2) M E0 Q := ixT (atI_nat (n := 2) rfl) h
theorem x_l0 (h : Q a M) : oIx0 (.lst (a :: l)) (.int 0) M E0 Q := ixL atI0 h
theorem x_l1 (h : Q b M) : oIx0 (.lst (a :: b :: l)) (.int 1) M E0 Q := ixL (atI_nat (n := 1) rfl) h
theorem x_l2 (h : Q c M) : oIx0 (.lst (a :: b :: c :: l)) (.int 2) M E0 Q := ixL (atI_nat (n := 2) rfl) h
theorem x_l3 (h : Q d M) : oIx0 (.lst (a :: b :: c :: d :: l)) (.int 3) M E0 Q := ixL (atI_nat (n := 3) rfl) h
theorem x_addS {x y : Str} (h : x.length + y.length ≤ sizeLine) (q : Q (.str (x ++ y)) M) : oAdd0 (.str x) (.str y) M E0 Q := ⟨h, q⟩
end
theorem x_dic0 {δ : DEnv} {M : Mem} {E : EX} {Q : QD} (h : Q (.dic []) M) : dDic0 δ M E Q := h
end TS
namespace TS
open PySem PySem.Spec PyProof.Rows L2
/-! ### defs that are called while an exception is handled, and raise nothing -/
structure FnHo (P : Program) (w : World) (K : Fg) (mg : Str → Option Value) (base : Heap) (k : Nat) (f : Addr) (fd : FuncData) (ps : List Str) (sp : Sp) : Prop where
  len : ∀ vs H Q E, sp vs H Q E → vs.length = ps.length
  run : ∀ (A : Around) (outer : List Env) (s : Shared) (H : Hp) (args : Args) (us : List Value) (vs : List V) (Q : VK) (E : XK), L2H.RoomH k A → Env0 P w K mg base A outer s H →
    BindsTo s fd args (ps.zip us) → Vals vs us → sp vs H Q E → codeAny (model P w) A (.call (.ref f) args) (CR (L2.CX P w) outer P w H s Q E) s
/-- something that stands in every state: the module's own dict -/
theorem pin_any {P : Program} {w : World} {K : Fg} {mg : Str → Option Value} {base : Heap} {A : Around} {outer : List Env} {s : Shared} {H : Hp} (e0 : Env0 P w K mg base A outer s H) : ∃ p : Addr × Obj, L2H.PinOk outer H s p := by
  obtain ⟨o, es, n, e, d, _⟩ := e0.mod.glob
  obtain ⟨h1, h2⟩ := e0.bs _ _ e
  refine ⟨(mainGlobals, o), h1, h2, fun hm => ?_, fun v z => ?_⟩
  · have z := (e0.funs.mem hm).1
    have z : base.get? mainGlobals = none := z
    rw [e] at z
    cases z
  · have z : o.data = .cell v := z
    rw [d] at z
    cases z
section
variable {P : Program} {w : World} {K : Fg} {mg : Str → Option Value} {base : Heap} {ca : Ca} {k : Nat} {f : Addr} {fd : FuncData} {ps N : List Str} {sp : Sp}
theorem FnHo.mono {j : Nat} (F : FnHo P w K mg base j f fd ps sp) (l : j ≤ k) : FnHo P w K mg base k f fd ps sp := ⟨F.len, fun A o s H as us vs Q E q => F.run A o s H as us vs Q E (q.mono l)⟩
theorem fnHo_by {x qual : Str} {params : Arguments} {body : List Stmt} {scope : Scope} {dvs : List V} {kws : List (Str × V)} (G : FunD K x qual params body scope dvs kws f fd) (S : FnScope N ps scope) (len : ∀ vs H Q E, sp vs H Q E → vs.length = ps.length)
    (hb : ∀ (cdv : Value) (A : Around) (outer : List Env) (s : Shared) (H : Hp) (vs : List V) (Q : VK) (E : XK) (p : Addr × Obj), L2H.RoomH k (A.deeper (envOfC qual scope s.heap.objs.size f cdv)) → sp vs H Q E →
      ∃ t, PSs (L2H.cxH (L2.CX P w) P w K mg base N qual scope f cdv A outer s H E p) body t ∧ t { nx := fun _ H' => Q .non H', rt := Q } (L2.start N vs) H) : FnHo P w K mg base (k + 1) f fd ps sp := by
  obtain ⟨oc, od, dV, kV, doc, pm, an, cdv, ct, osl, rfl, look, code, _, _⟩ := G.ex
  refine ⟨len, fun A outer s H args us vs Q E room st bind rel prom => ?_⟩
  obtain ⟨p, pok⟩ := pin_any st
  have here : K.In s.heap := st.mod.kin.keeps fun a o z => (st.bs a o z).1
  have free : s.heap.NoLimit := st.mod.nolimit.keeps fun a o z => (st.bs a o z).1
  have kinds : ∀ q ∈ ps.zip us, scope.names.lookup q.1 = some .local ∨ (scope.names.lookup q.1 = some .cell ∧ ((cellsFrom (s.heap.objs.size + 1) scope.names []).lookup q.1).isSome = true) := by
    intro q hq
    rcases S.par q.1 (List.of_mem_zip (show (q.1, q.2) ∈ ps.zip us from hq)).1 with z | z
    · exact Or.inl z
    · exact Or.inr ⟨z, PySem.W.cellsFrom_some _ _ _ (.inl z)⟩
  refine codeAny_call_function room.depth (here _ _ look) rfl S.co S.gen rfl (PySem.W.codeRec_of here code) (bind _ _ _ _ ?_)
  refine wpAny_newFunctionEnv_cells S.kind kinds fun env eenv s2 start2 => ?_
  subst eenv
  refine ⟨free.keeps start2.toInCall.keep, codeAny_func ?_⟩
  obtain ⟨t, walk, holds⟩ := hb cdv A outer s H vs Q E p (room.deeper _) prom
  have inv := L2H.inv_startH (CX := L2.CX P w) (E := E) S pok st (len _ _ _ _ prom) rel start2
  refine wpAny_mono (walk.run [] s2 (L2.start N vs) H _ inv holds) (fun flow s3 out => ?_) fun _ _ z => z
  cases flow with
  | brk => exact (out.elim fun _ z => z.elim fun _ z => z.2).elim
  | cont => exact (out.elim fun _ z => z.elim fun _ z => z.2).elim
  | next =>
    obtain ⟨σ3, H3, J, q⟩ := out
    exact ⟨V.non, H3, J.os, J.bare, J.base, J.hok, rfl, q⟩
  | ret u =>
    obtain ⟨v, σ3, H3, J, rv, q⟩ := out
    exact ⟨v, H3, J.os, J.bare, J.base, J.hok, rv, q⟩
/-- .. with a promise over data -/
structure FnDH (P : Program) (w : World) (K : Fg) (mg : Str → Option Value) (base : Heap) (ca : Ca) (k : Nat) (f : Addr) (sp : DSp) : Prop where
  ex : ∃ fd ps, FnHo P w K mg base k f fd ps (toSp K ca sp) ∧ Binds K fd ps []
/-- the rules' ground where an exception is handled -/
structure CtxH (X : Cx) (k : Nat) (W : WX) : Prop where
  room : L2H.RoomH k X.A
  tk : Takes X W
theorem ctxH_of {N : List Str} {qual : Str} {scope : Scope} {cd : Value} {A : Around} {outer : List Env} {s : Shared} {H : Hp} {E : XK} {p : Addr × Obj} (hr : L2H.RoomH k (A.deeper (envOfC qual scope s.heap.objs.size f cd))) :
    CtxH (L2H.cxH (L2.CX P w) P w K mg base N qual scope f cd A outer s H E p) k (WB E) := ⟨hr, takes_of rfl rfl rfl rfl⟩
theorem fnDH_by {x qual : Str} {params : Arguments} {body : List Stmt} {scope : Scope} {dvs : List V} {kws : List (Str × V)} {sp : DSp} {t : DTS} (G : FunD K x qual params body scope dvs kws f fd) (S : FnScope N ps scope) (hbd : Binds K fd ps [])
    (len : ∀ ds M E Q, sp ds M E Q → ds.length = ps.length)
    (hb : ∀ (cdv : Value) (A : Around) (outer : List Env) (s : Shared) (H : Hp) (E : XK) (p : Addr × Obj), L2H.RoomH k (A.deeper (envOfC qual scope s.heap.objs.size f cdv)) →
      DPSs (L2H.cxH (L2.CX P w) P w K mg base N qual scope f cdv A outer s H E p) ca (WB E) body t)
    (hp : Pure sp t N) : FnDH P w K mg base ca (k + 1) f sp := by
  refine ⟨fd, ps, fnHo_by G S (fun vs H Q E h => ?_) (fun cdv A outer s H vs R E p hr h => ⟨_, hb cdv A outer s H E p hr, ?_⟩), hbd⟩
  · obtain ⟨U, F, M, ds, EX, QD, rl, _, h, _⟩ := h
    rw [rl.length]
    exact len _ _ _ _ h
  · obtain ⟨U, F, M, ds, EX, QD, rl, hr', h, c, xc⟩ := h
    have hN : vs.length ≤ N.length := by
      have e1 : (N.take ps.length).length = ps.length := by rw [S.pre]
      rw [List.length_take] at e1
      rw [rl.length, len _ _ _ _ h]
      omega
    refine ⟨U, F, M, startD N.length ds, { nx := fun _ M' => QD .non M', rt := QD, ex := fun c fs _ M' => EX c fs M' }, ⟨EnvR.start rl hN, hr', fun c' fs δ' M' F' σ' H' od he e ev hr2 ho => xc c' fs M' F' H' od he e hr2 ho⟩, hp _ _ _ _ h, ?_⟩
    exact ⟨fun δ' M' F' σ' H' q e ev hr2 => c _ _ _ _ _ q e rfl hr2, c, fun _ _ _ _ _ q => q.elim, fun _ _ _ _ _ q => q.elim⟩
end
/-! ### their calls -/
/-- such a def by its name -/
structure FnHn (X : Cx) (ca : Ca) (k : Nat) (x : Str) (sp : DSp) : Prop where
  ex : ∃ f, X.mg x = some (.ref f) ∧ PySem.W.keepIn X.K (.ref f) = true ∧ FnDH X.prog X.w X.K X.mg X.base ca k f sp
section
variable {X : Cx} {ca : Ca} {W : WX} {k j : Nat} {x : Str} {sp : DSp} {p pos : Pos} {e : Expr} {es : List Expr} {t : DTA}
theorem de_callH (C : CtxH X j W) (G : FnHn X ca k x sp) (ha : DPA X ca W (e :: es) t) (hk : k ≤ j := by decide) (hg : Gl X x := by rfl) (hdb : (x == ("__debug__" : Str)) = false := by decide) (he : starEach (e :: es) X.env = (false, eval e X.env) :: starEach es X.env := by rfl) (hpl : (backTo pos (starEach es X.env)).any (·.1) = false := by rfl) :
    DE X ca W (.Call (.Name x p) (e :: es) [] pos) (dCall sp [] t) := by
  obtain ⟨f, hm, kp, G⟩ := G.ex
  obtain ⟨fd, ps, FF, hb⟩ := G.ex
  refine ⟨fun pins s σ H R I ⟨U, F, M, δ, E, Q, S, h, c⟩ => ?_⟩
  refine wpAny_Call_Name_kw (ld_glob I hg hm ?_ hdb)
  refine PySem.W.callWith_K (h₀ := X.base) I.ok.mod.kin kp (thn (ha.run pos pins s σ H (fun vs H1 => ∃ F1 M1 ds, Stt X.K ca U W F1 M1 δ E σ H1 ∧ RepL X.K ca F1 ds vs ∧ sp (ds ++ []) M1 (fun c fs M' => E c fs δ M') Q ∧ Cl X.K ca U F1 Q R) I ?_) fun us s1 ⟨vs, H1, I1, r, F1, M1, ds, S1, rl, hs, c1⟩ => ⟨I1.kIn, ?_⟩) he hpl
  · exact liftA_of S h fun ds M1 F1 vs H1 h1 e1 r1 g1 => ⟨F1, M1, ds, S.up e1 g1, r1, h1, c.up e1⟩
  · rw [List.append_nil] at hs
    have hsp : toSp X.K ca sp vs H1 R (fun cls od H' => W cls od σ H') :=
      ⟨U, F1, M1, ds, _, Q, rl, S1.hr, hs, c1, fun c' fs M' F' H' od he e hr ho => S1.xc c' fs δ M' F' σ H' od he e (S1.env.mono e) hr ho⟩
    have hl : us.length = ps.length := by rw [← r.length]; exact FF.len _ _ _ _ hsp
    have hbb := hb s1 us I1.kIn (by rw [List.append_nil]; exact hl)
    rw [List.append_nil] at hbb
    refine wpAny_call (codeAny_mono (FF.run X.A X.stack s1 H1 ⟨us, []⟩ us vs R _ (C.room.mono hk) I1.env0 hbb r hsp) fun r s' hq => ?_)
    cases r with
    | error e => exact C.tk e s' (XE.of_call I1 (fun cls d H' z => z) hq)
    | ok fl =>
      cases fl with
      | ret u => exact I1.after hq
      | next => exact False.elim hq
      | brk => exact False.elim hq
      | cont => exact False.elim hq
theorem op_eqPH (C : CtxH X j W) : OpD X ca W (compareOp .Eq) (oEqP fun b => b) := opD_of (op_eqD (by have := C.room.un; omega)) fun U F H M δ E Q R dx dy x y hr rx ry ho c => by
  unfold oEqP at ho
  cases q1 : toPy M dx with
  | none => rw [q1] at ho; exact ho.elim
  | some p =>
    cases q2 : toPy M dy with
    | none => rw [q1, q2] at ho; exact ho.elim
    | some q => rw [q1, q2] at ho; exact ⟨p, q, toPy_ok hr rx q1, toPy_ok hr ry q2, ho.1, ho.2.1, c _ _ _ _ _ ho.2.2 Ext.rfl' rfl hr⟩
theorem op_nePH (C : CtxH X j W) : OpD X ca W (compareOp .NotEq) (oEqP fun b => !b) := opD_of (op_neD (by have := C.room.un; omega)) fun U F H M δ E Q R dx dy x y hr rx ry ho c => by
  unfold oEqP at ho
  cases q1 : toPy M dx with
  | none => rw [q1] at ho; exact ho.elim
  | some p =>
    cases q2 : toPy M dy with
    | none => rw [q1, q2] at ho; exact ho.elim
    | some q => rw [q1, q2] at ho; exact ⟨p, q, toPy_ok hr rx q1, toPy_ok hr ry q2, ho.1, ho.2.1, c _ _ _ _ _ ho.2.2 Ext.rfl' rfl hr⟩
end
/-! ### an exception is known from now on -/
def exU : HO := .ext fun _ => True
theorem exU_ok {P : Program} {w : World} {H : Hp} {h : Heap} {a : Addr} {o : Obj} (e : h.get? a = some o) : ObjOk P w H h a exU := ⟨trivial, ⟨o, e⟩, fun _ _ _ _ => trivial⟩
theorem inv_track {X : Cx} {pins : List (Addr × Obj)} {σ : L2.St} {H : Hp} {s : Shared} {a : Addr} {oe : Obj} {vs : Array Value} (I : Inv X pins σ H s) (ha : s.heap.get? a = some oe) (hd : oe.data = .fields vs) (na : H a = none) (n0 : X.s_0.heap.get? a = none) (nL : a ≠ X.env.locals)
    (np : ∀ p ∈ X.pn ++ pins, p.1 ≠ a) : Inv X pins σ (upd H a (.frz oe exU)) s := by
  have old : ∀ b o, X.s_0.heap.get? b = some o → b ≠ a := fun b o e z => by rw [z, n0] at e; cases e
  have ne : ∀ {b : Addr} {o : HO}, H b = some o → b ≠ a := fun {b o} e z => by rw [z, na] at e; cases e
  refine ⟨I.ok, I.os, I.bare, ⟨I.base.keep, I.base.slot, fun b o e n hx => ?_, I.base.there, fun b xs e => ?_, fun b o u e => ?_, fun b ps e => ?_⟩, I.loc, I.cell, ?_, fun y c e => ?_, fun p hp => ?_, fun b u e => ?_, I.len⟩
  · rw [upd_ne (old b o e)]; exact I.base.free b o e n hx
  · have q := I.base.tups b xs e
    rw [upd_ne (ne q)]; exact q
  · have q := I.base.frzs b o u e
    rw [upd_ne (ne q)]; exact q
  · obtain ⟨m, q⟩ := I.base.tbls b ps e
    exact ⟨m, by rw [upd_ne (ne q)]; exact q⟩
  · rw [upd_ne (Ne.symm nL)]; exact I.free
  · have hc : c ≠ a := fun z => by
      obtain ⟨v, o, e1, e2⟩ := I.cell y c e
      rw [z, ha] at e1
      cases e1
      rw [hd] at e2
      cases e2
    rw [upd_ne hc]; exact I.freeC y c e
  · obtain ⟨q1, q2, q3⟩ := I.pin p hp
    exact ⟨q1, by rw [upd_ne (np p hp)]; exact q2, q3⟩
  · by_cases hb : b = a
    · subst hb
      rw [upd_same] at e
      cases e
      exact ⟨ha, exU_ok ha⟩
    · rw [upd_ne hb] at e
      exact (I.hok b u e).stay (fun _ _ _ q => q) (fun c q => by rw [upd_ne (ne q)]; exact q) fun c xs q => by rw [upd_ne (ne q)]; exact q
theorem flyingZ_keeps {B h h' : Heap} {l : List Env} {a : Addr} {Z : Obj → Prop} (fl : HandSPX.FlyingZ B l a Z h) (k : ∀ b o, h.get? b = some o → h'.get? b = some o) : HandSPX.FlyingZ B l a Z h' := by
  obtain ⟨f1, f2, f3, oe, vs, T, oT, ts, he, hz, hd, h1, hn, hne, hT, hdT, h3⟩ := fl
  exact ⟨fun b o q => k b o (f1 b o q), f2, f3.of_keeps fun b o q _ => ⟨o, k b o q, rfl⟩, oe, vs, T, oT, ts, k _ _ he, hz, hd, h1, hn, hne, k _ _ hT, hdT, h3⟩
/-- what the clause 'except (c1, c2, c3) as n' wishes of an exception of the body: slot i is n's -/
def wTup (K : Fg) (cs : List Value) (n i : Nat) (ts : TS) (D : Ends) : WX := fun cls d σ H =>
  σ.length = n → PySem.W.exmAny K cls cs = some true ∧ ∀ a oe, H a = none → Zc cls d oe → (∃ vs, oe.data = .fields vs) →
    ts { nx := fun σ' H' => D.nx (σ'.set i none) H', rt := D.rt, bk := fun σ' H' => D.bk (σ'.set i none) H', ct := fun σ' H' => D.ct (σ'.set i none) H' } (σ.set i (some (.ref a))) (upd H a (.frz oe exU))
/-- the context of such a clause's suite -/
theorem unsuite {X : Cx} {a : Addr} {pins pn' : List (Addr × Obj)} {σ : L2.St} {H : Hp} {s : Shared} (I : Inv (X.suite a (X.pn ++ pins)) pn' σ H s) (ok : X.Ok) : Inv X pins σ H s :=
  ⟨ok, I.os, I.bare, I.base, I.loc, I.cell, I.free, I.freeC, fun p hp => I.pin p (List.mem_append_left _ hp), I.hok, I.len⟩
theorem toSuite {X : Cx} {a : Addr} {pins : List (Addr × Obj)} {σ : L2.St} {H : Hp} {s : Shared} (I : Inv X pins σ H s) : Inv (X.suite a (X.pn ++ pins)) [] σ H s :=
  ⟨I.ok.suite _ _, I.os, I.bare, I.base, I.loc, I.cell, I.free, I.freeC, fun p hp => I.pin p (by rw [List.append_nil] at hp; exact hp), I.hok, I.len⟩
section
variable {X : Cx} {n x1 x2 x3 : Str} {c1 c2 c3 : Value} {i kt : Nat} {body suite : List Stmt} {b₀ : Stmt} {p1 p2 p3 pt pos pos' : Pos} {tb : WX → TS} {ts : TS}
theorem ps_try_tup (hs : X.stack = X.env :: X.outer) (hex : X.ex = []) (hf : X.env.frame = some X.env.locals) (hN : X.N.Nodup) (hi : X.N[i]? = some n) (hln : X.env.kindOf n = some .local) (n1 : Names X x1 c1) (n2 : Names X x2 c2) (n3 : Names X x3 c3)
    (hb : ∀ (W : WX) (pn : List (Addr × Obj)) (xe : Value → Shared → Prop), Takes (X.tr pn xe) W → PassesOwn (model X.prog X.w) X.A X.env xe → PSs (X.tr pn xe) body (tb W))
    (hsu : ∀ (a : Addr) (pn : List (Addr × Obj)), PSs (X.suite a pn) (b₀ :: suite) ts) :
    PS X (.Try body [.ExceptHandler (some (.Tuple [.Name x1 p1, .Name x2 p2, .Name x3 p3] kt pt)) (some n) (b₀ :: suite) pos'] [] [] pos) (fun D σ H => tb (wTup X.K [c1, c2, c3] X.N.length i ts D) D σ H) := by
  refine ⟨fun pins s σ H D I h => ?_⟩
  have ok := I.ok
  have frames : X.A.frames = some (X.env :: X.outer) := by rw [ok.frames, hs]
  have loc : Loc X.env.scope n := .inl hln
  refine wpAny_Try_except ?_
  refine wpAny_mono ((hb (wTup X.K [c1, c2, c3] X.N.length i ts D) (X.pn ++ pins) (fun e s₁ => wpAny (model X.prog X.w) X.A (noteFrame e X.env) (fun _ s₂ => wpAny (model X.prog X.w) X.A (setFlight e none) (fun _ s₃ =>
    wpAny (model X.prog X.w) X.A (handleBy e X.env [.ExceptHandler (some (.Tuple [.Name x1 p1, .Name x2 p2, .Name x3 p3] kt pt)) (some n) (b₀ :: suite) pos']) (SP X pins D) X.xe s₃) X.xe s₂) X.xe s₁) (fun u s' air => ?_) PassesOwn.looking).run [] s σ H D (I.toTry _) h) (fun f s1 out => ?_) (fun e s1 he => he)
  · obtain ⟨a, B, sI, pins', σ', H', cls, d, rfl, J', nb, up, sky, na, os, ag, air⟩ := air
    have J : Inv X pins σ' H' sI := J'.ofTry ok
    obtain ⟨hit, wish⟩ := air J.len
    have sky' : Sky B (X.env :: X.outer) a (Zc cls d) X.env.locals s'.heap := by rw [← hs]; exact sky
    show wpAny (model X.prog X.w) X.A (noteFrame (.ref a) X.env) _ _ _
    refine Sky.land Zc.steady frames hf sky' fun h3 fl3 up3 => ?_
    have J3 : Inv X pins σ' H' { s' with heap := h3 } := J.landed nb fl3.1 (up.trans up3) os ag
    obtain ⟨oe3, vs3, he3, hz3, hd3⟩ := fl3.there
    -- the exception is none of the frames, and new
    have nfr : a ∉ frs (X.env :: X.outer) := fun hm => by
      obtain ⟨_, o', e', hnf⟩ := fl3.2.2.1.mem hm
      rw [he3] at e'; cases e'
      exact hnf _ hd3
    have nfr' : a ∉ frs X.stack := by rw [hs]; exact nfr
    have nL : a ≠ X.env.locals := fun z => nfr (List.mem_filterMap.mpr ⟨X.env, List.mem_cons_self, by rw [hf, z]⟩)
    have nI : sI.heap.get? a = none := by
      cases q : sI.heap.get? a with
      | none => rfl
      | some o =>
        have z := nb a o q nfr'
        rw [fl3.2.1] at z
        cases z
    have nX : a ∉ X.ex := by rw [hex]; exact fun z => by cases z
    have n0 : X.s_0.heap.get? a = none := by
      cases q : X.s_0.heap.get? a with
      | none => rfl
      | some o =>
        obtain ⟨o', z⟩ := J.base.there a o q nX
        rw [nI] at z
        cases z
    have npin : ∀ p ∈ X.pn ++ pins, p.1 ≠ a := fun p hp z => by
      have q := (J.pin p hp).1
      rw [z, nI] at q
      cases q
    refine wpAny_handleBy_cons (codeAny_handlers_test ?_) (by intro q; cases q)
    have S3 : Inv (X.suite a (X.pn ++ pins)) [] σ' H' { s' with heap := h3 } := toSuite J3
    have name : ∀ {x : Str} {c : Value} {np : Pos} {Q : Value → Shared → Prop} {E : Value → Shared → Prop}, Names X x c → Q c { s' with heap := h3 } → wpAny (model X.prog X.w) (X.A.mark (some (.ref a))) (eval (.Name x np) X.env) Q E { s' with heap := h3 } := fun {x c np Q E} hc q => by
      obtain ⟨hg, hdbg, hm | ⟨hm, hv, hnn⟩⟩ := hc
      · exact ld_glob (X := X.suite a (X.pn ++ pins)) S3 hg hm q hdbg
      · exact ld_blt (X := X.suite a (X.pn ++ pins)) S3 hg hm hv q hnn hdbg
    refine wpAny_Tuple ?_
    refine wpAny_items_cons (name n1 ?_)
    refine wpAny_items_cons (name n2 ?_)
    refine wpAny_items_cons (name n3 ?_)
    refine wpAny_items_nil ⟨by size_fits, ?_⟩
    have LT : PySem.W.Looks (model X.prog X.w) h3 (typeOf (.ref a)) cls := fun A Q E s k q => wpAny_typeOf_ref (k _ _ he3) (by rw [hz3.1]; exact q)
    have kp : ∀ q o, h3.get? q = some o → (h3.push { cls := .type "tuple", data := .seq [c1, c2, c3].toArray }).get? q = some o := fun _ _ z => Heap.get?_push_of_some _ z
    refine (PySem.W.exm_tup3 (M := model X.prog X.w) (J3.kIn.keeps kp) (LT.keeps kp) (Heap.get?_push_size h3 rfl) hit).here ?_
    refine codeAny_handlers_suite_as ?_
    have fl3' : HandSPX.FlyingZ B (X.env :: X.outer) a (Zc cls d) (h3.push { cls := .type "tuple", data := .seq [c1, c2, c3].toArray }) := flyingZ_keeps fl3 kp
    refine HandSPX.lands_againZ fl3' fun h4 fl4 up4 => ?_
    have J4 : Inv X pins σ' H' { s' with heap := h4 } := J.landed nb fl4.1 (((up.trans up3).trans (Heap.UpToSlots.of_keeps kp)).trans up4) os ag
    obtain ⟨oe4, vs4, he4, hz4, hd4⟩ := fl4.there
    have S4 : Inv (X.suite a (X.pn ++ pins)) [] σ' (upd H' a (.frz oe4 exU)) { s' with heap := h4 } := toSuite (inv_track J4 he4 hd4 na n0 nL npin)
    refine store_ok (X := X.suite a (X.pn ++ pins)) (v := .ref a) S4 hN hi loc rfl (fun s5 S5 => ?_) (.inr hln)
    refine wpAny_mono ((hsu a (X.pn ++ pins)).run [] s5 _ _ _ S5 (wish a oe4 na hz4 ⟨_, hd4⟩)) (fun f s6 out => ?_) (fun _ _ z => False.elim z)
    have fin : ∀ {σ6 : L2.St} {H6 : Hp} {Q : Shared → Prop}, Inv (X.suite a (X.pn ++ pins)) [] σ6 H6 s6 → (∀ s7, Inv X pins (σ6.set i none) H6 s7 → Q s7) →
        wpAny (model X.prog X.w) X.A (do bindName X.env n .none; unbindBehindTheSuite X.env n pos') (fun _ s7 => Q s7) X.xe s6 := fun {σ6 H6 Q} S6 hq => gone_ok (unsuite S6 ok) hN hi hln hq
    cases f with
    | next => obtain ⟨σ6, H6, S6, q6⟩ := out; exact fin S6 fun s7 J7 => ⟨_, _, J7, q6⟩
    | brk => obtain ⟨σ6, H6, S6, q6⟩ := out; exact fin S6 fun s7 J7 => ⟨_, _, J7, q6⟩
    | cont => obtain ⟨σ6, H6, S6, q6⟩ := out; exact fin S6 fun s7 J7 => ⟨_, _, J7, q6⟩
    | ret u => obtain ⟨v6, σ6, H6, S6, r6, q6⟩ := out; exact fin S6 fun s7 J7 => ⟨_, _, _, J7, r6, q6⟩
  · cases f with
    | next => obtain ⟨σ', H', J', q⟩ := out; exact wpAny_execs_nil ⟨σ', H', J'.ofTry ok, q⟩
    | brk => obtain ⟨σ', H', J', q⟩ := out; exact ⟨σ', H', J'.ofTry ok, q⟩
    | cont => obtain ⟨σ', H', J', q⟩ := out; exact ⟨σ', H', J'.ofTry ok, q⟩
    | ret u => obtain ⟨v, σ', H', J', r, q⟩ := out; exact ⟨v, σ', H', J'.ofTry ok, r, q⟩
end
end TS
namespace TSW
open PySem PySem.W PySem.Spec PySem.Calls PyProof.Rows PySem.HandSPX Builtin Builtin.ObjectAttr
/-! ### exceptions of own classes over any built-in one: the first field stored -/
theorem refsB_split {tail : List Value} : ∀ l : List Value, refsB tail l = true → (∃ c r, l = .ref c :: r ∧ refsB tail r = true) ∨ l = tail
  | [], e => .inr (beq_iff_eq.mp e)
  | v :: r, e => by cases v <;> first | exact .inl ⟨_, _, rfl, e⟩ | exact .inr (beq_iff_eq.mp e)
theorem refsB_free {tail : List Value} (self : Value) (ht : refuseLoop self "__setattr__" tail = pure ()) : ∀ l : List Value, refsB tail l = true → refuseLoop self "__setattr__" l = pure ()
  | [], e => by
    rcases refsB_split _ e with ⟨c, r, q, _⟩ | q
    · cases q
    · rw [q]; exact ht
  | a :: r, e => by
    rcases refsB_split _ e with ⟨c, r', q, h⟩ | q
    · cases q
      rw [refuseLoop_ref]
      exact refsB_free self ht r h
    · rw [q]; exact ht
theorem refsB_has {tail : List Value} (Y : String) : ∀ l : List Value, refsB tail l = true → l.contains (.type Y) = tail.contains (.type Y)
  | [], e => by
    rcases refsB_split _ e with ⟨c, r, q, _⟩ | q
    · cases q
    · rw [q]
  | a :: r, e => by
    rcases refsB_split _ e with ⟨c, r', q, h⟩ | q
    · cases q
      rw [List.contains_cons, refsB_has Y r h]
      rfl
    · rw [q]
theorem refsB_some {tail l : List Value} (h : refsB tail l = true) (ht : tail.contains (.type "object") = true) : l.isEmpty = false := by
  cases l with
  | nil =>
    have z := refsB_has "object" [] h
    rw [ht] at z
    cases z
  | cons _ _ => rfl
section
variable {prog : Program} {w : World} {A : Around} {E : Value → Shared → Prop} {R : Result → Shared → Prop} {hp : Heap} {gs : Array GenState} {dr : Drawn} {tn : Nat} {os : OsState}
/-- object.__setattr__(x, name, v), x an exception that has no dict yet -/
theorem osaB {K : Frag} {name : Str} {tk : Tok} {v : Value} {x C : Addr} {tail : List Value} {fv : Array Value} {cd : ClassData} (KX : K.In hp) (ox : hp.get? x = some { cls := .ref C, data := .fields fv }) (isC : clsIn K C = some cd) (hm : refsB tail cd.mro = true)
    (to : tail.contains (.type "object") = true) (tp : ∀ self, refuseLoop self "__setattr__" tail = pure ()) (hh : cd.hasDict = true) (no : findIn K (.ref C) name = some none)
    (fin : ∀ h2 t2 dx, (∀ b o, b ≠ x → hp.get? b = some o → h2.get? b = some o) → hp.objs.size ≤ dx → dx ≠ x → h2.get? x = some { cls := .ref C, dict := some dx, data := .fields fv } →
      h2.Ns1 dx (fun y => if y = name then some v else none) → R (.ok (.ret .none)) ⟨h2, gs, dr, t2, os⟩) :
    codeAny (model prog w) A (.call (.builtin "object.__setattr__") ⟨[.ref x, .str name tk, v], []⟩) R ⟨hp, gs, dr, tn, os⟩ := by
  have inst : InstAt hp x { cls := .ref C, data := .fields fv } C none := ⟨ox, rfl, rfl, trivial⟩
  have facts := F.store_object
  have full := refsB_some hm to
  have isO : cd.mro.contains (.type "object") = true := (refsB_has "object" _ hm).trans to
  have apart : x ≠ hp.objs.size := Nat.ne_of_lt (Heap.lt_size ox)
  have below : Looks (model prog w) hp (isInstance (.ref x) (.type "object")) true := inst.type.andThen (looks_mroIn KX (by unfold mroIn; rw [isC, Option.bind_some, if_neg (by rw [full]; decide), isO]))
  refine codeAny_call_builtin facts.slot.plain facts.entry (@check_slot (model prog w) _ _ ⟨hp, gs, dr, tn, os⟩ "object.__setattr__" "object" "__setattr__" (.ref x) [.str name tk, v] [] _ facts.kind facts.split below (facts.args (.ref x) (.str name tk) v) ?_)
  have l1 : Looks (model prog w) hp (mroOf (.ref C)) cd.mro := (looks_clsIn KX isC).andThen .now
  have l2 : Looks (model prog w) hp (storeTaker? none) none := .now
  have l3 : Looks (model prog w) hp (classData C) cd := looks_clsIn KX isC
  rw [osa_eq, refuse_eq]
  refine wpAny_bind (wpAny_bind (inst.type.at (wpAny_bind (l1.at ?_))))
  rw [refsB_free _ (tp _) _ hm]
  refine wpAny_pure (wpAny_bind (inst.type.at (wpAny_bind ((looks_findIn KX no).at (wpAny_bind (l2.at ?_))))))
  show wpAny _ _ (storeInOwnDict (.ref x) (.ref C) (.str name tk) name v false) _ _ _
  obtain ⟨n1, n2, n3, n4, n5, n6, n7, n8, n9, n10, n11⟩ := cd
  dsimp only at hh
  subst hh
  unfold storeInOwnDict ownDictForStores
  repeat (first | (with_reducible refine store_in_new ?_ ?_) | (with_reducible refine wpAny_loadPart_at ox ?_) | (with_reducible refine l3.at ?_) | wp_step)
  · exact ⟨_, #[], _, (Heap.get?_update_ne _ _ _ _ apart.symm).trans (Heap.get?_push_at rfl rfl), rfl, fun e he => absurd he (by simp), fun _ => rfl⟩
  · intro h2 t2 n2 s2
    have kept : (hp.push { cls := .type "dict", data := .dict #[] }).get? x = some { cls := .ref C, data := .fields fv } := Heap.get?_push_of_some _ ox
    refine fin h2 t2 hp.objs.size (fun b o hb ho => ?_) (Nat.le_refl _) apart.symm ?_ n2
    · exact (s2.2 b (Nat.ne_of_lt (Heap.lt_size ho))).trans ((Heap.get?_update_ne _ _ _ _ hb).trans (Heap.get?_push_of_some _ ho))
    · exact (s2.2 x apart).trans (Heap.get?_update_self _ kept rfl)
end
end TSW
namespace TS
open PySem PySem.Spec PyProof.Rows L2
/-! ### what the head says of an exception's class -/
/-- the built-in class below, its facts -/
structure ExB (B newId initId : String) (tail : List Value) : Prop where
  F : ExcBaseFacts B newId initId tail
  obj : tail.contains (.type "object") = true
  free : ∀ self, refuseLoop self "__setattr__" tail = pure ()
theorem exB_V : ExB "ValueError" "ValueError.__new__" "ValueError.__init__" (tailOf "ValueError") := ⟨PySem.F.excBase_ValueError, by decide +kernel, PySem.F.store_ValueError.passes⟩
theorem exB_L : ExB "LookupError" "LookupError.__new__" "LookupError.__init__" (tailOf "LookupError") := ⟨PySem.F.excBase_LookupError, by decide +kernel, PySem.F.store_LookupError.passes⟩
theorem exB_A : ExB "ArithmeticError" "ArithmeticError.__new__" "ArithmeticError.__init__" (tailOf "ArithmeticError") := ⟨PySem.F.excBase_ArithmeticError, by decide +kernel, PySem.F.store_ArithmeticError.passes⟩
theorem exCls_of {K : Fg} {C : Addr} {tail : List Value} {newId : String} (c : exClsB K C tail newId = true) : ∃ nm q N bs bm sn sub ab col dd k0 k1 k2 k3 k5, K.lookup C = some (excClassObj nm q C N bs bm true sn sub ab col dd k0 k1 k2 k3 k5 newId) ∧ TSW.refsB tail bm = true := by
  unfold exClsB at c
  split at c
  · rename_i dd cd sl look
    split at c
    · rename_i D bm k0 k1 k2 k3 n k5 hm hs
      simp only [Bool.and_eq_true, beq_iff_eq, Bool.not_eq_true'] at c
      obtain ⟨⟨⟨⟨rfl, rfl⟩, nd⟩, hd⟩, ht⟩ := c
      obtain ⟨m1, m2, m3, m4, m5, m6, m7, m8, m9, m10, m11⟩ := cd
      dsimp only at hm nd hd
      subst hm nd hd
      have e : sl = #[k0, k1, k2, k3, some (.builtin n), k5] := by
        obtain ⟨l⟩ := sl
        simp only at hs
        rw [hs]
      subst e
      exact ⟨m1, m5, m4, m2, bm, m7, m8, m9, m10, dd, k0, k1, k2, k3, k5, look, ht⟩
    · cases c
  · cases c
/-- what is asked of the class of an exception, whatever is done with it -/
structure ExK (K : Fg) (C : Addr) (tail : List Value) (newId : String) : Prop where
  cls : ∃ nm q N bs bm sn sub ab col dd k0 k1 k2 k3 k5, K.lookup C = some (excClassObj nm q C N bs bm true sn sub ab col dd k0 k1 k2 k3 k5 newId) ∧ TSW.refsB tail bm = true
  sa : PySem.W.findIn K (.ref C) "__setattr__" = some (some (.builtin "object.__setattr__"))
  below : PySem.W.subIn K (.ref C) (.type "BaseException") = some true
  ty : PySem.W.typeIn K (.ref C) = some (.type "type")
  kept : PySem.W.keepIn K (.ref C) = true
theorem exK_of {K : Fg} {C : Addr} {tail : List Value} {newId : String} (c : exKB K C tail newId = true) : ExK K C tail newId := by
  obtain ⟨c1, c⟩ := Bool.and_eq_true_iff.mp c
  obtain ⟨c2, c⟩ := Bool.and_eq_true_iff.mp c
  obtain ⟨c3, c⟩ := Bool.and_eq_true_iff.mp c
  obtain ⟨c4, c5⟩ := Bool.and_eq_true_iff.mp c
  exact ⟨exCls_of c1, of_decide_eq_true c2, of_decide_eq_true c3, of_decide_eq_true c4, c5⟩
section
variable {X : Cx} {pins : List (Addr × Obj)} {σ : L2.St} {H : Hp} {s : Shared} {a C dx : Addr} {f : Str} {y : V} {u : Value} {tail : List Value} {B newId initId : String}
/-- self.f = y on an exception that is being made -/
theorem stB {Q : Unit → Shared → Prop} {E : Value → Shared → Prop} {A : Around} (EB : ExB B newId initId tail) (T : ExK X.K C tail newId) (I : Inv X pins σ H s) (e : H a = some (exo a C none)) (no : PySem.W.findIn X.K (.ref C) f = some none) (ry : RelV y u)
    (fin : ∀ dx s2, H dx = none → dx ≠ a → Inv X pins σ (upd (upd H dx (exd dx [(f, y)])) a (exo a C (some dx))) s2 → Q () s2) : wpAny (model X.prog X.w) A (setAttr (.ref a) f u) Q E s := by
  obtain ⟨n1, n2, n3, n4, bm, n5, n6, n7, n8, n9, k0, k1, k2, k3, k5, look, hbm⟩ := T.cls
  have isC : PySem.W.clsIn X.K C = some { name := n1, bases := n4, mro := .ref C :: bm, ns := n3, qualname := n2, hasDict := true, slotNames := n5, subclasses := n6, abstract := n7, collection := n8, hasDel := false } := by unfold PySem.W.clsIn; rw [look] <;> rfl
  obtain ⟨t1, ho⟩ := exo_at I.hok e
  obtain ⟨hp, gs, dr, tn, os⟩ := s
  refine PySem.W.set_plain I.kIn (ox := { cls := .ref C, dict := none, data := .fields #[.ref t1, .none, .none, .none, .bool false, .none] }) (od := none) ⟨ho, rfl, rfl, trivial⟩ T.sa ?_
  refine TSW.osaB I.kIn ho isC (show TSW.refsB tail (.ref C :: bm) = true from hbm) EB.obj EB.free rfl no (fun h2 t2 dx k dn dne hx hn => ?_)
  have nd : H dx = none := I.hok.fresh dn
  have neD : ∀ {b : Addr} {o : Obj}, hp.get? b = some o → b ≠ dx := fun {b o} q => Nat.ne_of_lt (Nat.lt_of_lt_of_le (Heap.lt_size q) dn)
  have neA : ∀ {b : Addr}, H b = none → b ≠ a := fun {b} n z => by
    rw [z, e] at n
    cases n
  have grown : Un X.fs [] H (upd (upd H dx (exd dx [(f, y)])) a (exo a C (some dx))) hp h2 := {
    keep := fun b o q n _ _ => k b o (neA n) q
    slot := fun b o q n _ _ => ⟨o.slots, k b o (neA n) q⟩
    free := fun b o q n _ => by rw [upd_ne (neA n), upd_ne (neD q)]; exact n
    there := fun b o q _ => by
      by_cases hb : b = a
      · exact ⟨_, by rw [hb]; exact hx⟩
      · exact ⟨o, k b o hb q⟩
    tups := fun b xs q => by rw [upd_ne (L2.at_ne e q exo_tup), upd_ne (ne_of_none q nd)]; exact q
    frzs := fun b o v q => by rw [upd_ne (L2.at_ne e q exo_frz), upd_ne (ne_of_none q nd)]; exact q
    tbls := fun b ps q => ⟨#[], by rw [upd_ne (L2.at_ne e q exo_tbl), upd_ne (ne_of_none q nd), q]; simp⟩ }
  refine fin dx _ nd dne (I.un (t' := t2) grown fun b o q => ?_)
  by_cases hb : b = a
  · subst hb
    rw [upd_same] at q
    cases q
    exact exo_ok hx
  · rw [upd_ne hb] at q
    by_cases hd : b = dx
    · subst hd
      rw [upd_same] at q
      cases q
      exact exd_ok hn (relO_put (fs := []) ry fun g => True.intro)
    · rw [upd_ne hd] at q
      refine (I.hok b o q).stay (fun c v hc z => k c v ?_ z) (fun c hc => by rw [upd_ne (L2.at_ne e hc exo_own), upd_ne (ne_of_none hc nd)]; exact hc) (fun c xs hc => by rw [upd_ne (L2.at_ne e hc exo_tup), upd_ne (ne_of_none hc nd)]; exact hc)
      rcases hc with hc | hc
      · rw [hc]; exact hb
      · exact L2.at_ne e hc exo_own
end
/-! ### an exception's own __init__: self.f = v -/
/-- where it stands, what it is -/
structure ExInit (K : Fg) (C fI : Addr) (f : Str) : Prop where
  ini : PySem.W.findIn K (.ref C) "__init__" = some (some (.ref fI))
  fn : PySem.W.typeIn K (.ref fI) = some (.type "function")
  no : PySem.W.findIn K (.ref C) f = some none
  run : ∀ (P : Program) (w : World) (mg : Str → Option Value) (base : Heap) (B newId initId : String) (tail : List Value), ExB B newId initId tail → ExK K C tail newId →
    ∃ fd ps, FnOk P w K mg base (L2.CX P w) 3 fI fd ps (fun vs H Q _ => ∃ a v, vs = [.ref a, v] ∧ H a = some (exo a C none) ∧ ∀ dx, H dx = none → dx ≠ a → Q .non (upd (upd H dx (exd dx [(f, v)])) a (exo a C (some dx)))) ∧ Binds K fd ps []
theorem exInit_of {K : Fg} {C fI : Addr} {f self vn qual : Str} {params : Arguments} {scope : Scope} {dvs : List V} {kws : List (Str × V)} {fd : FuncData} {p1 p2 p3 p4 : Pos} (ini : PySem.W.findIn K (.ref C) "__init__" = some (some (.ref fI))) (fn : PySem.W.typeIn K (.ref fI) = some (.type "function"))
    (no : PySem.W.findIn K (.ref C) f = some none) (G : FunD K "__init__" qual params [.Assign [.Attribute (.Name self p1) f p2] (.Name vn p3) p4] scope dvs kws fI fd) (S : FnScope [self, vn] [self, vn] scope) (hb : Binds K fd [self, vn] [])
    (v1 : Vis scope self) (v2 : Vis scope vn) (d1 : (self == ("__debug__" : Str)) = false ∧ (self == ("__classdict__" : Str)) = false) (d2 : (vn == ("__debug__" : Str)) = false ∧ (vn == ("__classdict__" : Str)) = false)
    (hs : ∀ env : Env, env.scope = scope → swapsWith (.Name vn p3) (some (.Attribute (.Name self p1) f p2)) p4.line env = pure false) : ExInit K C fI f := by
  refine ⟨ini, fn, no, fun P w mg base B newId initId tail EB EK => ⟨fd, [self, vn], fnOk_by (N := [self, vn]) (k := 2) G S (fun vs H Q E ⟨a, v, e, _⟩ => by rw [e]; rfl) (fun cdv A outer s H vs Q E hr ⟨a, v, ev, ea, h⟩ => ?_), hb⟩⟩
  subst ev
  refine ⟨fun D σ H => σ[0]? = some (some (.ref a)) ∧ σ[1]? = some (some v) ∧ H a = some (exo a C none) ∧ ∀ dx, H dx = none → dx ≠ a → D.nx σ (upd (upd H dx (exd dx [(f, v)])) a (exo a C (some dx))), pss_one ⟨fun pins s σ H D I ⟨h0, h1, h2, h3⟩ => ?_⟩, rfl, rfl, ea, h⟩
  refine plainObj_wpAny_Assign_Attribute (thn ((pe_var (pos := p3) (i := 1) (x := vn) rfl v2 d2.1 d2.2).run pins s σ H (fun y H1 => y = v ∧ H1 = H) I ⟨v, h1, rfl, rfl⟩) fun u s1 ⟨y, H1, I1, r1, e1, e2⟩ =>
    thn ((pe_var (pos := p1) (i := 0) (x := self) rfl v1 d1.1 d1.2).run pins s1 σ H1 (fun y H2 => y = .ref a ∧ H2 = H1) I1 ⟨.ref a, h0, rfl, rfl⟩) fun u2 s2 ⟨y2, H2, I2, r2, e3, e4⟩ => ?_) (hs _ rfl)
  subst e1 e3
  rw [e4, e2] at I2
  obtain rfl : u2 = Value.ref a := r2
  exact stB EB EK I2 h2 no r1 fun dx s3 n ne J => ⟨σ, _, J, h3 dx n ne⟩
end TS
namespace TS
open PySem PySem.Spec PyProof.Rows L2
/-! ### raise -/
section
variable {X : Cx} {W : WX} {j : Nat} {C fI : Addr} {f x : Str} {tail : List Value} {B newId initId : String} {e : Expr} {te : TE} {p pos : Pos}
theorem del_new {H1 : Hp} {a d : Addr} {o u y : HO} (na : H1 a = none) (nd : H1 d = none) (ne : d ≠ a) : upd (L2.del (upd (upd (upd H1 a o) d u) a y) a) d u = upd H1 d u := by
  funext b
  by_cases hb : b = d
  · subst hb; rw [upd_same, upd_same]
  · rw [upd_ne hb, upd_ne hb]
    by_cases ha : b = a
    · subst ha; rw [L2.del_same, na]
    · rw [L2.del_ne ha, upd_ne ha, upd_ne hb, upd_ne ha]
theorem del_new2 {H1 : Hp} {a d : Addr} {o u y z : HO} (na : H1 a = none) (nd : H1 d = none) (ne : d ≠ a) : upd (L2.del (upd (upd (upd H1 a o) d u) a y) a) d z = upd H1 d z := by
  have h := del_new (o := o) (u := u) (y := y) na nd ne
  funext b
  by_cases hb : b = d
  · subst hb; rw [upd_same, upd_same]
  · have hb' := congrFun h b
    rw [upd_ne hb, upd_ne hb] at hb' ⊢
    exact hb'
/-- C(e), C's own __init__ storing what it gets -/
theorem pmk_one (hr : Room j X.A) (hj : 4 ≤ j) (EB : ExB B newId initId tail) (EK : ExK X.K C tail newId) (EI : ExInit X.K C fI f) (hg : Gl X x) (hm : X.mg x = some (.ref C)) (he : PE X e te) (hst : starEach [e] X.env = (false, eval e X.env) :: starEach [] X.env)
    (hdb : (x == ("__debug__" : Str)) = false) : PMk X (.Call (.Name x p) [e] [] pos) (fun σ H Q => te σ H fun v H1 => ∀ d, H1 d = none → Q (.ref C) (some d) (upd H1 d (.xd [(f, v)]))) := by
  intro pins s σ H Q I h
  obtain ⟨n1, n2, n3, n4, bm, n5, n6, n7, n8, n9, k0, k1, k2, k3, k5, look, hbm⟩ := EK.cls
  obtain ⟨fd, ps, F1, hb⟩ := EI.run X.prog X.w X.mg X.base B newId initId tail EB EK
  refine wpAny_Call_Name_kw (ld_glob I hg hm ?_ hdb)
  refine PySem.W.callWith_K (h₀ := X.base) I.ok.mod.kin EK.kept ?_ hst (by rfl)
  rw [hst]
  show wpAny _ _ (spliced ((false, eval e X.env) :: backTo pos (starEach [] X.env))) _ _ s
  refine Calls.spliced_cons (thn (he.run pins s σ H _ I h) fun u s1 ⟨v, H1, I1, rv, q1⟩ => ?_)
  refine Calls.spliced_nil ⟨I1.kIn, ?_⟩
  show wpAny _ _ (call (.ref C) [u]) _ _ _
  obtain ⟨hp, gs, dr, tk, os⟩ := s1
  have up : hp.objs.size ≤ hp.objs.size + 1 := Nat.le_succ _
  have na : H1 (hp.objs.size + 1) = none := I1.hok.fresh up
  have kk : ∀ b o, hp.get? b = some o → ((hp.push (PySem.W.kdv_tup [u])).push (PySem.HandSPX.excO C hp.objs.size)).get? b = some o := fun b o e => Heap.get?_push_of_some _ (Heap.get?_push_of_some _ e)
  have here : ((hp.push (PySem.W.kdv_tup [u])).push (PySem.HandSPX.excO C hp.objs.size)).get? (hp.objs.size + 1) = some (PySem.HandSPX.excO C hp.objs.size) := by heap_get
  have I2 : Inv X pins σ (upd H1 (hp.objs.size + 1) (exo (hp.objs.size + 1) C none)) ⟨(hp.push (PySem.W.kdv_tup [u])).push (PySem.HandSPX.excO C hp.objs.size), gs, dr, tk, os⟩ :=
    I1.laid (t' := tk) (a := hp.objs.size + 1) (o := exo (hp.objs.size + 1) C none) (h' := (hp.push (PySem.W.kdv_tup [u])).push (PySem.HandSPX.excO C hp.objs.size)) kk up (exo_ok here)
  have two : Vals [V.ref (hp.objs.size + 1), v] [Value.ref (hp.objs.size + 1), u] := .cons rfl (.cons rv .nil)
  let Qk : VK := fun r H2 => r = V.non ∧ ∃ d, H2 (hp.objs.size + 1) = some (exo (hp.objs.size + 1) C (some d)) ∧ H2 d = some (exd d [(f, v)]) ∧ H1 d = none ∧ upd (L2.del H2 (hp.objs.size + 1)) d (.xd [(f, v)]) = upd H1 d (.xd [(f, v)])
  have prom : ∃ a v', [V.ref (hp.objs.size + 1), v] = [.ref a, v'] ∧ (upd H1 (hp.objs.size + 1) (exo (hp.objs.size + 1) C none)) a = some (exo a C none) ∧ ∀ dx, (upd H1 (hp.objs.size + 1) (exo (hp.objs.size + 1) C none)) dx = none → dx ≠ a →
      Qk V.non (upd (upd (upd H1 (hp.objs.size + 1) (exo (hp.objs.size + 1) C none)) dx (exd dx [(f, v')])) a (exo a C (some dx))) := by
    refine ⟨_, v, rfl, upd_same, fun dx hd ne => ⟨rfl, dx, upd_same, by rw [upd_ne ne, upd_same], by rw [upd_ne ne] at hd; exact hd, ?_⟩⟩
    rw [upd_ne ne] at hd
    exact del_new2 na hd ne
  have hl : [Value.ref (hp.objs.size + 1), u].length = ps.length := by
    have z := F1.len _ _ Qk (fun _ _ _ => False) prom
    exact z
  have bb := hb ⟨(hp.push (PySem.W.kdv_tup [u])).push (PySem.HandSPX.excO C hp.objs.size), gs, dr, tk, os⟩ [Value.ref (hp.objs.size + 1), u] I2.kIn (by rw [List.append_nil]; exact hl)
  rw [List.append_nil] at bb
  refine wpAny_call (PySem.HandSPX.call_own EB.F (fun Y => TSW.refsB_has Y bm hbm) (I1.kIn _ _ look) (PySem.W.looks_findIn I1.kIn EI.ini) (fun self => PySem.W.bind_fn I1.kIn self EI.fn) (by show 1 ≤ sizeLine; rw [sizeLine_eq]; omega)
    (codeAny_mono (F1.run _ X.stack _ _ ⟨[Value.ref (hp.objs.size + 1), u], []⟩ [Value.ref (hp.objs.size + 1), u] [V.ref (hp.objs.size + 1), v] Qk (fun _ _ _ => False) ((hr.mono hj).make C [u] []) (I2.env0.make C [u] []) bb two prom) fun r s2 out => ?_))
  cases r with
  | error er => exact (out.elim fun _ z => z.elim fun _ z => z.elim fun _ z => z.elim fun _ z => z.elim fun _ z => z.2.2.2.2.2.2.2).elim
  | ok fl =>
    cases fl with
    | ret u2 =>
      obtain ⟨v2, H2, os2, bare2, un2, hok2, rv2, ev, d, ea, ed, hd1, eH⟩ := out
      subst ev
      obtain ⟨h2, g2, d2, t2, os'⟩ := s2
      have last := q1 d hd1
      rw [← eH] at last
      exact ⟨rv2, mk_end (raises_own EK.below EK.ty) I1 up kk un2 hok2 os2 bare2 ea ed hd1 last⟩
    | next => exact False.elim out
    | brk => exact False.elim out
    | cont => exact False.elim out
/-- C(), no own __init__ -/
theorem pmk_zero (EB : ExB B newId initId tail) (EK : ExK X.K C tail newId) (q : PySem.W.excIn X.K C tail newId = true) (hg : Gl X x) (hm : X.mg x = some (.ref C)) (hdb : (x == ("__debug__" : Str)) = false) :
    PMk X (.Call (.Name x p) [] [] pos) (fun _ H Q => Q (.ref C) none H) := by
  intro pins s σ H Q I h
  refine wpAny_Call_Name_kw (ld_glob I hg hm ?_ hdb)
  refine PySem.W.callWith_K0 I.kIn EK.kept ?_
  obtain ⟨bm, n1, n2, n3, n4, n5, n6, n7, n8, n9, n10, k0, k1, k2, k3, k5, mN, isC, isN, noI, T⟩ := exc_obj I.kIn q
  exact wpAny_call_exc_subT EB.F T isC isN noI (fun h' a hm => mk_of I hm (raises_own EK.below EK.ty) h (I.hok.gone hm.new)) (Nat.zero_le _)
end
/-- own exceptions: with one field, without -/
structure Exc1 (X : Cx) (ca : Ca) (x : Str) (c : Nat) (f : Str) : Prop where
  ex : ∃ B n i tail fI, X.mg x = some (.ref (ca c)) ∧ ExB B n i tail ∧ ExK X.K (ca c) tail n ∧ ExInit X.K (ca c) fI f
structure Exc0 (X : Cx) (ca : Ca) (x : Str) (c : Nat) : Prop where
  ex : ∃ B n i tail, X.mg x = some (.ref (ca c)) ∧ ExB B n i tail ∧ ExK X.K (ca c) tail n ∧ PySem.W.excIn X.K (ca c) tail n = true
def sRaise (c : Nat) (f : Str) (te : DT) : DTS := fun Z δ M => te δ M Z.ex fun d M1 => Z.ex c [(f, d)] δ M1
def sRaise0 (c : Nat) : DTS := fun Z δ M => Z.ex c [] δ M
section
variable {X : Cx} {ca : Ca} {W : WX} {j c : Nat} {x f : Str} {e : Expr} {te : DT} {p pos pos' : Pos}
theorem ds_raise (C : Ctx X j W) (T : Exc1 X ca x c f) (he : DE X ca W e te) (hj : 4 ≤ j := by decide) (hg : Gl X x := by rfl) (hst : starEach [e] X.env = (false, eval e X.env) :: starEach [] X.env := by rfl) (hdb : (x == ("__debug__" : Str)) = false := by decide) :
    DPS X ca W (.Raise (some (.Call (.Name x p) [e] [] pos)) none pos') (sRaise c f te) := by
  obtain ⟨B, n, i, tail, fI, hm, EB, EK, EI⟩ := T.ex
  exact psImp (ps_raise C.calm C.tk (pmk_one C.room hj EB EK EI hg hm he hst hdb)) fun R σ H ⟨U, F, M, δ, D, S, h, cl⟩ => lift_of S h fun d M1 F1 v H1 h1 e1 r1 g1 dx hdx =>
    S.xc c [(f, d)] δ M1 F1 σ (upd H1 dx (.xd [(f, v)])) (some dx) h1 e1 (S.env.mono e1) (g1.grow (Ext.upd hdx)) (.inr ⟨dx, [(f, v)], rfl, upd_same, ⟨v, [], rfl, r1, rfl⟩⟩)
theorem ds_raise0 (C : Ctx X j W) (T : Exc0 X ca x c) (hg : Gl X x := by rfl) (hdb : (x == ("__debug__" : Str)) = false := by decide) : DPS X ca W (.Raise (some (.Call (.Name x p) [] [] pos)) none pos') (sRaise0 c) := by
  obtain ⟨B, n, i, tail, hm, EB, EK, q⟩ := T.ex
  exact psImp (ps_raise C.calm C.tk (pmk_zero EB EK q hg hm hdb)) fun R σ H ⟨U, F, M, δ, D, S, h, cl⟩ => S.xc c [] δ M F σ H none h Ext.rfl' S.env S.hr (.inl ⟨rfl, rfl⟩)
end
/-! ### exceptions as values: isinstance, fields -/
/-- what isinstance asks of the class -/
structure ExIs (K : Fg) (C : Addr) : Prop where
  cl : (PySem.W.clsIn K C).isSome = true
  ga : PySem.W.findIn K (.ref C) "__getattribute__" = some (some (.builtin "BaseException.__getattribute__"))
  gt : PySem.W.findIn K (.ref C) "__getattr__" = some none
  sub : PySem.W.subIn K (.ref C) (.type "BaseException") = some true
  ha : PySem.W.findIn K (.ref C) "__class__" = some (some (.builtin "object.__class__"))
  hn : PySem.W.specialIn K (.builtin "object.__class__") "__get__" = some (some (.builtin "getset_descriptor.__get__"))
  htk : PySem.W.takesIn K (.builtin "object.__class__") = some true
  hm : PySem.W.mroIn K C (.type "object") = some true
  hd : PySem.W.hasDictIn K C = true
theorem exIs_of {K : Fg} {C : Addr} (c : exIsB K C = true) : ExIs K C := by
  obtain ⟨c1, c⟩ := Bool.and_eq_true_iff.mp c
  obtain ⟨c2, c⟩ := Bool.and_eq_true_iff.mp c
  obtain ⟨c3, c⟩ := Bool.and_eq_true_iff.mp c
  obtain ⟨c4, c⟩ := Bool.and_eq_true_iff.mp c
  obtain ⟨c5, c⟩ := Bool.and_eq_true_iff.mp c
  obtain ⟨c6, c⟩ := Bool.and_eq_true_iff.mp c
  obtain ⟨c7, c⟩ := Bool.and_eq_true_iff.mp c
  obtain ⟨c8, c9⟩ := Bool.and_eq_true_iff.mp c
  exact ⟨c1, of_decide_eq_true c2, of_decide_eq_true c3, of_decide_eq_true c4, of_decide_eq_true c5, of_decide_eq_true c6, of_decide_eq_true c7, of_decide_eq_true c8, c9⟩
/-- the classes in a display -/
def clsVs (ca : Ca) : List D → Option (List Value)
  | [] => some []
  | d :: l => match clsV ca d, clsVs ca l with
    | some v, some vs => some (v :: vs)
    | _, _ => none
/-- what isinstance answers of an exception of the class c -/
abbrev ETab := Nat → D → Option Bool
theorem clsVs_eq {K : Fg} {ca : Ca} {F : Hp} : ∀ {l : List D} {vs : List Value} {xs : List V} {its : List Value}, clsVs ca l = some vs → RepL K ca F l xs → Vals xs its → its = vs
  | [], _, _, _, h, r, v => by cases h; cases r; cases v; rfl
  | d :: l, _, _, _, h, ⟨x, xr, ex, rd, rl⟩, v => by
    subst ex
    cases v with
    | cons ru rv =>
      unfold clsVs at h
      cases e1 : clsV ca d with
      | none => rw [e1] at h; cases h
      | some w =>
        cases e2 : clsVs ca l with
        | none => rw [e1, e2] at h; cases h
        | some ws =>
          rw [e1, e2] at h
          cases h
          rw [clsVs_eq e2 rl rv]
          cases d with
          | cls c => cases e1; cases rd; cases ru; rfl
          | ty n => cases e1; cases rd; cases ru; rfl
          | _ => cases e1
def AnsOk (K : Fg) (ca : Ca) (c : Nat) (y : D) (b : Bool) : Prop := match y with
  | .tup l => ∃ vs, clsVs ca l = some vs ∧ PySem.W.kitAny K (.ref (ca c)) vs = some b
  | y => ∃ cv, clsV ca y = some cv ∧ PySem.W.kitOne K (.ref (ca c)) cv = some b
def IsaEOk (K : Fg) (ca : Ca) (T : ETab) : Prop := ∀ c y b, T c y = some b → ExIs K (ca c) ∧ AnsOk K ca c y b
def bIsaE (T : ETab) (x y : D) (M : Mem) (E : XD) (Q : QD) : Prop := match x with
  | .exc c _ => (match T c y with | some b => Q (.bl b) M | none => False)
  | _ => False
section
variable {X : Cx} {ca : Ca} {W : WX} {U F H : Hp} {M : Mem} {c : Nat} {fs : List (Str × D)} {v : V} {u : Value}
/-- the exception's object, as instance; its dict -/
theorem exc_inst {pins : List (Addr × Obj)} {σ : L2.St} {s : Shared} (I : Inv X pins σ H s) (hr : HR X.K ca U F M H) (r : Rep X.K ca F (.exc c fs) v) (ru : RelV v u) : ∃ a oe od, u = .ref a ∧ PySem.W.InstAt s.heap a oe (ca c) od ∧
    ∀ f d, fs.lookup f = some d → ∃ dd w, od = some dd ∧ Rep X.K ca F d w ∧ ∃ uw, RelV w uw ∧ PySem.W.lookIn f dd = some (some uw) := by
  obtain ⟨a, oe, w, od, ev, ea, hz, ⟨ws, hd⟩, ho⟩ := r
  subst ev
  obtain rfl : u = Value.ref a := ru
  obtain ⟨at_, _⟩ := I.hok a _ (hr.sub _ _ ea)
  rcases ho with ⟨e1, e2⟩ | ⟨d, vs, e1, e2, rf⟩
  · subst e1 e2
    exact ⟨a, oe, none, rfl, ⟨at_, hz.1, by unfold PySem.W.notCls; rw [hd] <;> rfl, by rw [hz.2]; exact True.intro⟩, fun f d z => by cases z⟩
  · subst e1
    have hx : ObjOk X.prog X.w H s.heap d (.xd vs) := I.hok d _ (hr.sub _ _ e2)
    obtain ⟨mA, hns, hrel⟩ := hx
    obtain ⟨dd, hget, hl⟩ := lookIn_ns hns
    refine ⟨a, oe, some dd, rfl, ⟨at_, hz.1, by unfold PySem.W.notCls; rw [hd] <;> rfl, by rw [hz.2]; exact hget⟩, fun f y z => ?_⟩
    obtain ⟨w, lw, rw_⟩ := rf.look z
    have q := hrel f
    rw [lw] at q
    cases e : mA f with
    | none => rw [e] at q; exact q.elim
    | some uw =>
      rw [e] at q
      exact ⟨dd, w, rfl, rw_, uw, q, by rw [hl, e]⟩
theorem call_isaE {T : ETab} (ok : IsaEOk X.K ca T) : CallD X ca W (.builtin "isinstance") (b2 (bIsaE T)) := .two fun pins s σ H U F M δ E Q R d d' v v' u u' I S r r' ru ru' h cl => by
  cases d with
  | exc c fs =>
    unfold bIsaE at h
    simp only at h
    cases et : T c d' with
    | none => rw [et] at h; exact h.elim
    | some b =>
      rw [et] at h
      obtain ⟨is, ans⟩ := ok c d' b et
      obtain ⟨a, oe, od, rfl, inst, _⟩ := exc_inst I S.hr r ru
      have kit := PySem.W.kitx_exc (K := X.K) (x := a) (ox := oe) (od := od) is.cl is.ga is.gt is.sub is.ha is.hn is.htk is.hm
      have fin : ∀ tk, EP X pins σ R (.bool b) { s with toks := tk } := fun tk => ⟨.bl b, H, I.tok _, rfl, cl _ _ _ _ _ h Ext.rfl' rfl S.hr⟩
      have one : (∃ cv, clsV ca d' = some cv ∧ PySem.W.kitOne X.K (.ref (ca c)) cv = some b) → wpAny (model X.prog X.w) X.A (call (.builtin "isinstance") [.ref a, u']) (EP X pins σ R) X.xe s := fun ⟨cv, ec, ek⟩ => by
        have eu : u' = cv := by
          cases d' with
          | cls c => cases ec; cases r'; exact ru'
          | ty n => cases ec; cases r'; exact ru'
          | _ => cases ec
        subst eu
        exact PySem.W.kia_one kit I.kIn inst ek (fun z => nomatch z) fin
      cases d' with
      | tup l =>
        obtain ⟨vs, ev, ek⟩ := ans
        obtain ⟨p, xs, ep, hq, rl⟩ := r'
        subst ep
        obtain rfl : u' = Value.ref p := ru'
        obtain ⟨its, rv, ⟨o, e1, hc, n, hn⟩, _⟩ := I.tuple (hq.ext S.hr.sub)
        obtain ⟨o1, o2, o3, o4⟩ := o
        simp only at hc hn
        subst hc hn
        have e := clsVs_eq ev rl rv
        subst e
        exact PySem.W.kia_tup kit I.kIn inst e1 ek (fun z => nomatch z) fin
      | _ => exact one ans
  | _ => exact h.elim
/-- the classes whose exceptions' field f is plain -/
def FldEOk (X : Cx) (ca : Ca) (cs : List Nat) (f : Str) : Prop := ∀ c, c ∈ cs → ExIs X.K (ca c) ∧ PySem.W.findIn X.K (.ref (ca c)) f = some none
def goFldE (cs : List Nat) (f : Str) (d : D) (M : Mem) (Q : QD) : Prop := match d with
  | .exc c fs => c ∈ cs ∧ (match fs.lookup f with | some v => Q v M | none => False)
  | _ => False
def dFldE (cs : List Nat) (f : Str) (te : DT) : DT := fun δ M E Q => te δ M E fun d M1 => goFldE cs f d M1 Q
theorem de_fldE {cs : List Nat} {f : Str} {e : Expr} {te : DT} {pos : Pos} (ok : FldEOk X ca cs f) (he : DE X ca W e te) (hb : attributeBase e f X.env (eval e X.env) = eval e X.env := by rfl) : DE X ca W (.Attribute e f pos) (dFldE cs f te) := by
  refine ⟨fun pins s σ H R I ⟨U, F, M, δ, E, Q, S, h, c⟩ => ?_⟩
  refine attr_of hb (thn (he.run pins s σ H (fun x H1 => ∃ F1 M1 d, Stt X.K ca U W F1 M1 δ E σ H1 ∧ Rep X.K ca F1 d x ∧ goFldE cs f d M1 Q ∧ Cl X.K ca U F1 Q R) I ?_) fun u s1 ⟨x, H1, I1, rx, F1, M1, d, S1, rd, h1, c1⟩ => ?_)
  · exact lift_of S h fun d M1 F1 v H1 h1 e1 r1 g1 => ⟨F1, M1, d, S.up e1 g1, r1, h1, c.up e1⟩
  · cases d with
    | exc c fs =>
      obtain ⟨hc, h1⟩ := h1
      cases el : fs.lookup f with
      | none => rw [el] at h1; exact h1.elim
      | some y =>
        rw [el] at h1
        obtain ⟨a, oe, od, rfl, inst, flds⟩ := exc_inst I1 S1.hr rd rx
        obtain ⟨dd, w, rfl, rw_, uw, ru, lk⟩ := flds f y el
        obtain ⟨is, no⟩ := ok c hc
        exact HandSPX.exc_get I1.kIn inst is.ga is.gt is.sub (PySem.W.findObj_own is.hd no rfl lk) (handed_of ru) ⟨w, H1, I1.tok _, ru, c1 _ _ _ _ _ h1 Ext.rfl' rw_ S1.hr⟩
    | _ => exact h1.elim
end
end TS
namespace TS
open PySem PySem.Spec PyProof.Rows L2
/-! ### tables that grow -/
section
variable {K : Fg} {ca : Ca} {U F H H' : Hp} {M : Mem} {p d : Addr}
theorem HR.extN (h : HR K ca U F M H) (e : LamX.ExtN H H') (t : LamX.Tabs ca.T H') : HR K ca U F M H' := by
  have plain : ∀ {o : HO}, Rg o → ∀ ps, o ≠ .tbl ps := fun {o} r ps z => by rw [z] at r; exact r
  refine ⟨fun a u q => e a u (h.sub a u q) (plain (h.rg a u q)), fun a u q => e a u (h.own a u q) fun ps z => ?_, h.sep, fun a n q => ?_, t, h.rg, h.ul⟩
  · obtain ⟨l, el⟩ := h.ul a u q
    rw [el] at z
    cases z
  · obtain ⟨h1, h2, h3⟩ := h.mem a n q
    obtain ⟨o, eo⟩ := h3.there
    exact ⟨h1, h2, h3.mono (fun _ _ z => z) (by rw [eo, e a o eo (plain (h3.rg o eo))])⟩
/-- an exception's dict that lies in the heap is known from now on -/
theorem HR.adopt {vs : List (Str × V)} (h : HR K ca U F M H) (hd : H d = some (.xd vs)) : HR K ca U (upd F d (.xd vs)) M H ∧ Ext F (upd F d (.xd vs)) := by
  have nU : U d = none := by
    cases q : U d with
    | none => rfl
    | some u =>
      obtain ⟨l, rfl⟩ := h.ul d u q
      have z := h.own d _ q
      rw [hd] at z
      cases z
  have nM : M d = none := by
    cases q : M d with
    | none => rfl
    | some m =>
      obtain ⟨_, _, r⟩ := h.mem d m q
      cases m with
      | lst l => obtain ⟨ws, z, _⟩ := r; rw [hd] at z; cases z
      | ins c fs => obtain ⟨dx, ws, z, _⟩ := r; rw [hd] at z; cases z
      | dic kvs => obtain ⟨ws, z, _⟩ := r; rw [hd] at z; cases z
  have ext : Ext F (upd F d (.xd vs)) := fun a u q => by
    by_cases ha : a = d
    · subst ha
      have z := h.sub _ _ q
      rw [hd] at z
      cases z
      exact upd_same
    · rw [upd_ne ha]; exact q
  refine ⟨⟨fun a u q => ?_, h.own, fun a u q => ?_, fun a n q => ?_, h.tab, rg_upd h.rg True.intro, h.ul⟩, ext⟩
  · by_cases ha : a = d
    · subst ha; rw [upd_same] at q; cases q; exact hd
    · rw [upd_ne ha] at q; exact h.sub _ _ q
  · by_cases ha : a = d
    · subst ha; exact nU
    · rw [upd_ne ha] at q; exact h.sep _ _ q
  · have ha : a ≠ d := by rintro rfl; rw [nM] at q; cases q
    obtain ⟨h1, h2, h3⟩ := h.mem a n q
    exact ⟨by rw [upd_ne ha]; exact h1, h2, h3.mono ext rfl⟩
end
/-! ### the errors' words and fields -/
theorem fieldsE_le (c : Nat) : (fieldsE c).length ≤ 1 := by
  unfold fieldsE
  rcases Nat.lt_or_ge (c - 23) 24 with h | h
  · revert h
    generalize c - 23 = n
    intro h
    match n, h with
    | 0, _ => exact (by decide)
    | 1, _ => exact (by decide)
    | 2, _ => exact (by decide)
    | 3, _ => exact (by decide)
    | 4, _ => exact (by decide)
    | 5, _ => exact (by decide)
    | 6, _ => exact (by decide)
    | 7, _ => exact (by decide)
    | 8, _ => exact (by decide)
    | 9, _ => exact (by decide)
    | 10, _ => exact (by decide)
    | 11, _ => exact (by decide)
    | 12, _ => exact (by decide)
    | 13, _ => exact (by decide)
    | 14, _ => exact (by decide)
    | 15, _ => exact (by decide)
    | 16, _ => exact (by decide)
    | 17, _ => exact (by decide)
    | 18, _ => exact (by decide)
    | 19, _ => exact (by decide)
    | 20, _ => exact (by decide)
    | 21, _ => exact (by decide)
    | 22, _ => exact (by decide)
    | 23, _ => exact (by decide)
    | n + 24, h => omega
  · rw [List.getD_eq_getElem?_getD, List.getElem?_eq_none (by show 24 ≤ _; exact h)]; decide
def wordE : Nat → Str := fun c => (["fraction", "color", "opacity", "layers", "points", "samples", "mode", "index", "text", "action", "command", "notlayer", "notstack", "notcurve", "notfraction", "notvalue", "notsettled", "notseen", "busy", "undo", "zero", "toomanylayers", "corners", "entries"] : List Str).getD (c - 23) ""
/-- _law_kind(e), _law_fields(e) -/
def sp_kindE (cs : List Nat) : DSp := fun ds M _ Q => ∃ c fs, ds = [.exc c fs] ∧ c ∈ cs ∧ Q (.str (wordE c)) M
def sp_fieldsE (cs : List Nat) : DSp := fun ds M _ Q => ∃ c fs, ds = [.exc c fs] ∧ c ∈ cs ∧ fs.map (·.1) = fieldsE c ∧ Q (.lst (fs.map (·.2))) M
/-- _law_caught(lambda: e) -/
def dCaught (cs : List Nat) (t : DT) : DT := fun δ M E Q => t δ M (fun c fs _ M' => c ∈ cs ∧ fs.map (·.1) = fieldsE c ∧ Q (.lst (.str (wordE c) :: fs.map (·.2))) M') fun d M' => Q (.lst [.str "returned", d]) M'
/-- what the suite makes of an exception, by the heap -/
def SuiteOk (K : Fg) (ca : Ca) (cs : List Nat) (cls : Value) (od : Option Addr) (H : Hp) (R : VK) : Prop :=
  ∃ (c : Nat) (fs : List (Str × D)) (U F : Hp) (M : Mem) (Q : QD), cls = .ref (ca c) ∧ ExcO K ca F H od fs ∧ HR K ca U F M H ∧ Cl K ca U F Q R ∧ c ∈ cs ∧ fs.map (·.1) = fieldsE c ∧ Q (.lst (.str (wordE c) :: fs.map (·.2))) M
/-- what the def makes of the lambda's reading -/
def TTc (K : Fg) (ca : Ca) (cs : List Nat) : (XK → Hp → VK → Prop) → Hp → VK → Prop := fun tl H R =>
  tl (fun cls od H' => SuiteOk K ca cs cls od H' R) H fun v H' => ([V.str "returned", v] : List V).length ≤ sizeLine ∧ ∀ p, H' p = none → R (.ref p) (upd H' p (.lst [.str "returned", v]))
/-- the suite's reading -/
def t_suiteE (cs : List Nat) : DTS := sRet (dBin oAdd0 (dLst (dCons (dCall (sp_kindE cs) [] (dCons (dVar 1) dNil)) dNil)) (dCall (sp_fieldsE cs) [] (dCons (dVar 1) dNil)))
section
variable {X : Cx} {ca : Ca} {cs : List Nat} {k : Nat} {C1 C2 C3 : Value} {Ng : List Str} {sg : Scope} {g : Addr} {cdg : Value} {q : Str} {kt j1 : Nat} {p1 p2 p3 p4 p5 p6 p7 p8 p9 p10 p11 p12 p13 p14 p15 p16 p17 p18 pos pos' : Pos}
theorem excO_rep {K : Fg} {F H : Hp} {od : Option Addr} {fs : List (Str × D)} {U : Hp} {M : Mem} {a : Addr} {oe : Obj} {c : Nat} (ho : ExcO K ca F H od fs) (hr : HR K ca U F M H) (na : H a = none) (hz : Zc (.ref (ca c)) od oe) (hd : ∃ vs, oe.data = .fields vs) :
    ∃ F', Ext F F' ∧ HR K ca U F' M (upd H a (.frz oe exU)) ∧ Rep K ca F' (.exc c fs) (.ref a) := by
  rcases ho with ⟨e1, e2⟩ | ⟨d, vs, e1, hxd, rf⟩
  · obtain ⟨g2, e⟩ := hr.newF na (.frz oe exU) True.intro
    exact ⟨_, e, g2, a, oe, exU, od, rfl, upd_same, hz, hd, .inl ⟨e1, e2⟩⟩
  · obtain ⟨g1, x1⟩ := hr.adopt hxd
    obtain ⟨g2, x2⟩ := g1.newF na (.frz oe exU) True.intro
    refine ⟨_, x1.trans x2, g2, a, oe, exU, od, rfl, upd_same, hz, hd, .inr ⟨d, vs, e1, x2 _ _ upd_same, (rf.mono x1).mono x2⟩⟩
theorem suite_read (h1 : FnHn X ca k "_law_kind" (sp_kindE cs)) (h2 : FnHn X ca k "_law_fields" (sp_fieldsE cs)) {Y : Cx} {W : WX} (C : CtxH Y k W) (eP : Y.prog = X.prog) (eW : Y.w = X.w) (eK : Y.K = X.K) (em : Y.mg = X.mg) (eB : Y.base = X.base) (hN : Y.N[1]? = some ("_law_e" : Str)) (hv : Y.env.scope.names.lookup ("_law_e" : Str) = some .local)
    (gk : Gl Y "_law_kind") (gf : Gl Y "_law_fields") :
    DPSs Y ca W [.Return (some (.BinOp (.List [.Call (.Name "_law_kind" p1) [.Name "_law_e" p2] [] p3] p4) .Add (.Call (.Name "_law_fields" p5) [.Name "_law_e" p6] [] p7) p8)) p9] (t_suiteE cs) := by
  have k1 : FnHn Y ca k "_law_kind" (sp_kindE cs) := by
    obtain ⟨f, a, b, c⟩ := h1.ex
    exact ⟨f, by rw [em]; exact a, by rw [eK]; exact b, by rw [eP, eW, eK, em, eB]; exact c⟩
  have k2 : FnHn Y ca k "_law_fields" (sp_fieldsE cs) := by
    obtain ⟨f, a, b, c⟩ := h2.ex
    exact ⟨f, by rw [em]; exact a, by rw [eK]; exact b, by rw [eP, eW, eK, em, eB]; exact c⟩
  have e1 : DPA Y ca W [.Name "_law_e" p2] (dCons (dVar 1) dNil) := da_cons (de_var 1 hN (.inl hv)) da_nil
  have e2 : DPA Y ca W [.Name "_law_e" p6] (dCons (dVar 1) dNil) := da_cons (de_var 1 hN (.inl hv)) da_nil
  exact dss_one (ds_ret (de_bin op_addD (de_lst (da_cons (de_callH C k1 e1 (Nat.le_refl _) gk) da_nil)) (de_callH C k2 e2 (Nat.le_refl _) gf)))
theorem suite_ok {R : Ends} {σ' : L2.St} {cls : Value} {od : Option Addr} {H' : Hp} {a : Addr} {oe : Obj} {K : Fg} (hs : SuiteOk K ca cs cls od H' R.rt) (na : H' a = none) (hz : Zc cls od oe) (hd : ∃ vs, oe.data = .fields vs) (hl : σ'.length = 2) :
    liftS K ca WF (t_suiteE cs) R (σ'.set 1 (some (.ref a))) (upd H' a (.frz oe exU)) := by
  obtain ⟨c, fs, U, F, M, Q, rfl, ho, hr, cl, hc, hf, hq⟩ := hs
  obtain ⟨F', e, g, r⟩ := excO_rep ho hr na hz hd
  refine ⟨U, F', M, [none, some (.exc c fs)], { nx := fun _ _ => False, rt := Q }, ⟨⟨by rw [List.length_set, hl]; rfl, fun i d z => ?_⟩, g, fun _ _ _ _ _ _ _ _ z => z.elim⟩, ?_, ⟨fun _ _ _ _ _ z => z.elim, cl.up e, fun _ _ _ _ _ z => z.elim, fun _ _ _ _ _ z => z.elim⟩⟩
  · match i, z with
    | 1, z =>
      cases z
      exact ⟨.ref a, by rw [List.getElem?_set_self (by omega)], r⟩
  · refine ⟨c, fs, rfl, hc, by show (1 : Nat) ≤ sizeLine; rw [sizeLine_eq]; omega, c, fs, rfl, hc, hf, ?_⟩
    show (1 + (fs.map (·.2)).length ≤ sizeLine) ∧ Q (.lst ([.str (wordE c)] ++ fs.map (·.2))) M
    refine ⟨?_, hq⟩
    have h2 : (fs.map (·.2)).length = (fieldsE c).length := by rw [← hf, List.length_map, List.length_map]
    rw [h2, sizeLine_eq]
    have h3 := fieldsE_le c
    omega
/-- _law_caught keeps it -/
theorem caught_gives (hr : L2.Room (k + 2) X.A) (h1 : FnHn X ca k "_law_kind" (sp_kindE cs)) (h2 : FnHn X ca k "_law_fields" (sp_fieldsE cs)) (m1 : X.mg "ToneError" = some C1) (m2 : X.mg "StateError" = some C2) (m3 : X.mg "SizeError" = some C3)
    (hit : ∀ c ∈ cs, PySem.W.exmAny X.K (.ref (ca c)) [C1, C2, C3] = some true)
    (gs : sg.names.lookup ("ToneError" : Str) = some .globalImplicit ∧ sg.names.lookup ("StateError" : Str) = some .globalImplicit ∧ sg.names.lookup ("SizeError" : Str) = some .globalImplicit ∧ sg.names.lookup ("_law_kind" : Str) = some .globalImplicit ∧ sg.names.lookup ("_law_fields" : Str) = some .globalImplicit)
    (le : sg.names.lookup ("_law_e" : Str) = some .local) :
    LamX.GivesTo X ["_law_call", "_law_e"] "_law_caught" sg g cdg
      [.Try [.Return (some (.List [.Constant (.str "returned") j1 p1, .Call (.Name "_law_call" p2) [] [] p3] p4)) p5]
        [.ExceptHandler (some (.Tuple [.Name "ToneError" p6, .Name "StateError" p7, .Name "SizeError" p8] kt p9)) (some "_law_e")
          [.Return (some (.BinOp (.List [.Call (.Name "_law_kind" p10) [.Name "_law_e" p11] [] p12] p13) .Add (.Call (.Name "_law_fields" p14) [.Name "_law_e" p15] [] p16) p17)) p18] pos'] [] [] pos] "_law_call" q (TTc X.K ca cs) := by
  intro f c' s H R tl act hco h
  have room : ∀ a : Addr, L2H.RoomH k ((X.A.deeper (envOfC "_law_caught" sg s.heap.objs.size g cdg)).mark (some (.ref a))) := fun a => by
    have h1 := hr.dp
    have h2 := hr.un
    refine ⟨?_, ?_⟩
    · show X.A.depth + 1 + 3 * k + 5 < _
      omega
    · show X.A.units + 3 + 16 * k + 200 < _
      omega
  refine ⟨_, pss_one (ps_try_tup (X := (cxOf C8.CX0 X.prog X.w X.K X.mg X.base ["_law_call", "_law_e"] "_law_caught" sg g cdg X.A X.stack s H C8.E0).nox) (i := 1) (n := "_law_e") (c1 := C1) (c2 := C2) (c3 := C3)
      (tb := fun W D σ H => ∃ Ech : XK, (∀ cls d σ' H', Ech cls d H' → W cls d σ' H') ∧ σ[0]? = some (some (.ref f)) ∧ H c' = some (LamX.CodeO c' q) ∧ tl Ech H (fun v H' => ([V.str "returned", v] : List V).length ≤ sizeLine ∧ ∀ p, H' p = none → D.rt (.ref p) (upd H' p (.lst [.str "returned", v]))))
      (ts := liftS X.K ca WF (t_suiteE cs)) rfl rfl rfl (show (["_law_call", "_law_e"] : List Str).Nodup from by decide) rfl le ⟨gs.1, by decide, .inl m1⟩ ⟨gs.2.1, by decide, .inl m2⟩ ⟨gs.2.2.1, by decide, .inl m3⟩ (fun W pn xe tk _ => ?_) (fun a pn => ?_)), ?_⟩
  · refine ⟨fun pins s' σ H' D I h' => ?_⟩
    obtain ⟨Ech, hW, e1, e2, e3⟩ := h'
    exact (pss_one (ps_ret (pos := p5) (pe_lst (pos := p4) (pa_cons (pe_str (j := j1) (pos := p1)) (pa_cons (act W pn xe Ech p2 p3 tk hW) pa_nil))))).run pins s' σ H' D I ⟨e1, e2, e3⟩
  · exact suite_read h1 h2 (Y := (cxOf C8.CX0 X.prog X.w X.K X.mg X.base ["_law_call", "_law_e"] "_law_caught" sg g cdg X.A X.stack s H C8.E0).nox.suite a pn) (W := WF) ⟨room a, LamX.takes0⟩ rfl rfl rfl rfl rfl rfl le gs.2.2.2.1 gs.2.2.2.2
  · refine ⟨fun cls d H' => SuiteOk X.K ca cs cls d H' R, fun cls d σ' H' hs hl => ⟨?_, fun a oe na hz hd => suite_ok hs na hz hd hl⟩, rfl, hco, h⟩
    obtain ⟨c, _, _, _, _, _, rfl, _, _, _, hc, _⟩ := hs
    exact hit c hc
end
end TS
namespace TS
open PySem PySem.Spec PyProof.Rows L2
/-! ### defs that make lambdas: their code object is known -/
section
variable {P : Program} {w : World} {K : Fg} {mg : Str → Option Value} {base : Heap} {ca : Ca} {k : Nat} {f c : Addr} {fd : FuncData} {x qual : Str} {params : Arguments} {body : List Stmt} {scope : Scope} {N ps : List Str} {dvs dvs' : List V} {kws : List (Str × V)} {t : DTS} {dsp : DSp} {dds : List D} {sp : Sp}
theorem fnOk_byC {CX : CXT} (G : FunD K x qual params body scope dvs kws f fd) (hc : codeAt K f = some (.ref c)) (S : FnScope N ps scope) (len : ∀ vs H Q E, sp vs H Q E → vs.length = ps.length)
    (hb : ∀ (A : Around) (outer : List Env) (s : Shared) (H : Hp) (vs : List V) (Q : VK) (E : XK), Room k (A.deeper (envOfC qual scope s.heap.objs.size f (.ref c))) → sp vs H Q E →
      ∃ t, PSs (cxOf CX P w K mg base N qual scope f (.ref c) A outer s H E) body t ∧ t { nx := fun _ H' => Q .non H', rt := Q } (start N vs) H) : FnOk P w K mg base CX (k + 1) f fd ps sp := by
  obtain ⟨oc, od, dV, kV, doc, pm, an, cdv, ct, osl, rfl, look, code, _, _⟩ := G.ex
  have ecd : cdv = .ref c := by
    unfold codeAt at hc
    rw [look] at hc
    exact Option.some.inj hc
  subst ecd
  refine ⟨len, fun A outer s H args us vs Q E room st bind rel prom => ?_⟩
  have here : K.In s.heap := st.mod.kin.keeps fun a o z => (st.bs a o z).1
  have free : s.heap.NoLimit := st.mod.nolimit.keeps fun a o z => (st.bs a o z).1
  have kinds : ∀ q ∈ ps.zip us, scope.names.lookup q.1 = some .local ∨ (scope.names.lookup q.1 = some .cell ∧ ((cellsFrom (s.heap.objs.size + 1) scope.names []).lookup q.1).isSome = true) := by
    intro q hq
    rcases S.par q.1 (List.of_mem_zip (show (q.1, q.2) ∈ ps.zip us from hq)).1 with z | z
    · exact Or.inl z
    · exact Or.inr ⟨z, PySem.W.cellsFrom_some _ _ _ (.inl z)⟩
  refine codeAny_call_function room.r.depth (here _ _ look) rfl S.co S.gen rfl (PySem.W.codeRec_of here code) (bind _ _ _ _ ?_)
  refine wpAny_newFunctionEnv_cells S.kind kinds fun env eenv s2 start2 => ?_
  subst eenv
  refine ⟨free.keeps start2.toInCall.keep, codeAny_func ?_⟩
  obtain ⟨t, walk, holds⟩ := hb A outer s H vs Q E (room.deeper _) prom
  have inv := inv_start (CX := CX) (E := E) S room.r.hd st (len _ _ _ _ prom) rel start2
  refine wpAny_mono (walk.run [] s2 (start N vs) H _ inv holds) (fun flow s3 out => ?_) fun _ _ z => z
  cases flow with
  | brk => exact (out.elim fun _ z => z.elim fun _ z => z.2).elim
  | cont => exact (out.elim fun _ z => z.elim fun _ z => z.2).elim
  | next =>
    obtain ⟨σ3, H3, J, q⟩ := out
    exact ⟨V.non, H3, J.os, J.bare, J.base, J.hok, rfl, q⟩
  | ret u =>
    obtain ⟨v, σ3, H3, J, rv, q⟩ := out
    exact ⟨v, H3, J.os, J.bare, J.base, J.hok, rv, q⟩
theorem fnD_byC (G : FunD K x qual params body scope dvs kws f fd) (hc : codeAt K f = some (.ref c)) (S : FnScope N ps scope) (hbd : ∃ ds, Vals dvs' ds ∧ Binds K fd ps ds) (hr : ∀ F, RepL K ca F dds dvs') (len : ∀ ds M E Q, dsp ds M E Q → ds.length = ps.length)
    (hd : ∀ (A : Around) (outer : List Env) (s : Shared) (H : Hp) (E : XK), Room k (A.deeper (envOfC qual scope s.heap.objs.size f (.ref c))) →
      DPSs (cxOf (L2.CX P w) P w K mg base N qual scope f (.ref c) A outer s H E) ca (WB E) body t)
    (hp : Pure dsp t N) : FnD P w K mg base ca (k + 1) f dds dsp := by
  obtain ⟨ds, h1, h2⟩ := hbd
  refine ⟨fd, ps, ds, dvs', fnOk_byC G hc S (fun vs H Q E h => ?_) (fun A outer s H vs R E hr h => ⟨_, hd A outer s H E hr, ?_⟩), h2, h1, hr⟩
  · obtain ⟨U, F, M, ds, EX, QD, rl, _, h, _⟩ := h
    rw [rl.length]
    exact len _ _ _ _ h
  · obtain ⟨U, F, M, ds, EX, QD, rl, hr', h, c, xc⟩ := h
    have hN : vs.length ≤ N.length := by
      have e1 : (N.take ps.length).length = ps.length := by rw [S.pre]
      rw [List.length_take] at e1
      rw [rl.length, len _ _ _ _ h]
      omega
    refine ⟨U, F, M, startD N.length ds, { nx := fun _ M' => QD .non M', rt := QD, ex := fun c fs _ M' => EX c fs M' }, ⟨EnvR.start rl hN, hr', fun c' fs δ' M' F' σ' H' od he e ev hr2 ho => xc c' fs M' F' H' od he e hr2 ho⟩, hp _ _ _ _ h, ?_⟩
    exact ⟨fun δ' M' F' σ' H' q e ev hr2 => c _ _ _ _ _ q e rfl hr2, c, fun _ _ _ _ _ q => q.elim, fun _ _ _ _ _ q => q.elim⟩
end
/-! ### _law_caught(lambda: body) -/
/-- the maker's code object and its table -/
structure LamOk (X : Cx) (ca : Ca) (c P : Addr) (q : Str) : Prop where
  tb : LamX.TabB X.base X.mg c P
  mem : (P, q) ∈ ca.T
  uni : ∀ p ∈ ca.T, p.1 = P → p.2 = q
/-- _law_caught, and what its suite calls -/
structure CaughtOk (X : Cx) (ca : Ca) (cs : List Nat) (kk : Nat) : Prop where
  ex : ∃ (g : Addr) (pg : Arguments) (bg : List Stmt) (sg : Scope) (dV kV doc pm cdv ct oc : Value) (an od : Option Addr) (osl : Array (Option Value)),
    X.mg "_law_caught" = some (.ref g) ∧ PySem.W.keepIn X.K (.ref g) = true ∧ X.K.lookup g = some ⟨oc, od, .func (PySem.W.fnOf "_law_caught" "_law_caught" pg bg sg dV kV doc pm an cdv ct), osl⟩ ∧ PySem.W.codeIn X.K cdv "_law_caught" = true ∧
    Binds X.K (PySem.W.fnOf "_law_caught" "_law_caught" pg bg sg dV kV doc pm an cdv ct) ["_law_call"] [] ∧ FnScope ["_law_call", "_law_e"] ["_law_call"] sg ∧ Vis sg "_law_call" ∧
    (L2.Room (kk + 2) X.A → ∀ q, LamX.GivesTo X ["_law_call", "_law_e"] "_law_caught" sg g cdv bg "_law_call" q (TTc X.K ca cs))
theorem caughtOk_of {P : Program} {w : World} {K : Fg} {mg : Str → Option Value} {base : Heap} {ca : Ca} {cs : List Nat} {kk : Nat} {C1 C2 C3 : Value} {g : Addr} {params : Arguments} {sg : Scope} {dvs : List V} {kws : List (Str × V)} {fd : FuncData} {kt j1 : Nat} {p1 p2 p3 p4 p5 p6 p7 p8 p9 p10 p11 p12 p13 p14 p15 p16 p17 p18 pos pos' : Pos}
    (G : FunD K "_law_caught" "_law_caught" params
      [.Try [.Return (some (.List [.Constant (.str "returned") j1 p1, .Call (.Name "_law_call" p2) [] [] p3] p4)) p5]
        [.ExceptHandler (some (.Tuple [.Name "ToneError" p6, .Name "StateError" p7, .Name "SizeError" p8] kt p9)) (some "_law_e")
          [.Return (some (.BinOp (.List [.Call (.Name "_law_kind" p10) [.Name "_law_e" p11] [] p12] p13) .Add (.Call (.Name "_law_fields" p14) [.Name "_law_e" p15] [] p16) p17)) p18] pos'] [] [] pos] sg dvs kws g fd)
    (hm : mg "_law_caught" = some (.ref g)) (hb : Binds K fd ["_law_call"] []) (S : FnScope ["_law_call", "_law_e"] ["_law_call"] sg) (v : Vis sg "_law_call")
    (h1 : AtX P w K mg base fun X => FnHn X ca kk "_law_kind" (sp_kindE cs)) (h2 : AtX P w K mg base fun X => FnHn X ca kk "_law_fields" (sp_fieldsE cs)) (m1 : mg "ToneError" = some C1) (m2 : mg "StateError" = some C2) (m3 : mg "SizeError" = some C3)
    (hit : ∀ c ∈ cs, PySem.W.exmAny K (.ref (ca c)) [C1, C2, C3] = some true)
    (gs : sg.names.lookup ("ToneError" : Str) = some .globalImplicit ∧ sg.names.lookup ("StateError" : Str) = some .globalImplicit ∧ sg.names.lookup ("SizeError" : Str) = some .globalImplicit ∧ sg.names.lookup ("_law_kind" : Str) = some .globalImplicit ∧ sg.names.lookup ("_law_fields" : Str) = some .globalImplicit)
    (le : sg.names.lookup ("_law_e" : Str) = some .local) : AtX P w K mg base fun X => CaughtOk X ca cs kk := by
  rintro X rfl rfl rfl rfl rfl
  have kp := G.kp
  obtain ⟨oc, od, dV, kV, doc, pm, an, cdv, ct, osl, rfl, look, code, _, _⟩ := G.ex
  exact ⟨g, params, _, sg, dV, kV, doc, pm, cdv, ct, oc, an, od, osl, hm, kp, look, code, hb, S, v, fun hr q => caught_gives hr (h1 X rfl rfl rfl rfl rfl) (h2 X rfl rfl rfl rfl rfl) m1 m2 m3 hit gs le⟩
theorem ctx_lam {X : Cx} {A : Around} {outer : List Env} {s : Shared} {H : Hp} {E : XK} {scope : Scope} {f c' : Addr} {m : Nat} (hr : Room m (A.deeper (LamX.lamEnv X scope s.heap.objs.size f c'))) : Ctx (LamX.lamCx X A outer s H E scope f c') m (WB E) := ⟨hr, takes_of rfl rfl rfl rfl, rfl⟩
section
variable {X : Cx} {ca : Ca} {W : WX} {j m kk : Nat} {cs : List Nat} {c P : Addr} {q : Str} {params : Arguments} {body : Expr} {scope : Scope} {t : DT} {p lpos pos : Pos}
theorem de_caught (C : Ctx X j W) (G : CaughtOk X ca cs kk) (L : LamOk X ca c P q) (LS : LamX.LamS X.env.scope scope)
    (hb : ∀ (A : Around) (outer : List Env) (s : Shared) (H : Hp) (E : XK) (f c' : Addr), Room m (A.deeper (LamX.lamEnv X scope s.heap.objs.size f c')) → DE (LamX.lamCx X A outer s H E scope f c') ca (WB E) body t)
    (hm : m < 30 := by decide) (h1 : m + 2 ≤ j := by decide) (h2 : kk + 2 ≤ j := by decide) (hcode : X.env.code = .ref c := by rfl) (hq : X.env.qual ++ "<lambda>" = q := by rfl) (hdef : defaultsOf params X.env = ([], []) := by rfl)
    (hbind : ∀ (q : Str) (cl : List (Str × Addr)) (pm cv ctv : Value), bindArgs (PySem.W.kla_fn "<lambda>" q params body scope cl pm cv ctv) ⟨[], []⟩ = pure [] := by intros; rfl) (hg : Gl X "_law_caught" := by rfl) :
    DE X ca W (.Call (.Name "_law_caught" p) [.Lambda params body scope lpos] [] pos) (dCaught cs t) := by
  obtain ⟨g, pg, bg, sg, dV, kV, doc, pm, cdv, ct, oc, an, od, osl, e1, e2, e3, e4, e5, e6, e7, e8⟩ := G.ex
  have mem := L.mem
  have uni := L.uni
  rw [← hq] at mem uni
  refine peImp (LamX.pe_lamcall (k := m) (T := ca.T) (TT := TTc X.K ca cs) (t := fun E => lift X.K ca (WB E) t) hg e1 e2 e3 e4 e5 e6 rfl e7 (e8 (C.room.r.mono h2) _) L.tb hcode mem uni (C.room.r.mono h1) LS hdef hbind
    (fun A outer s H E f c' hr => hb A outer s H E f c' (Room.small hr hm))) fun σ H R ⟨U, F, M, δ, E, Q, S, h, cl⟩ => ⟨S.hr.tab, fun H1 eN T1 => ?_⟩
  have h : t δ M (fun (c : Nat) (fs : List (Str × D)) (_ : DEnv) (M' : Mem) => c ∈ cs ∧ fs.map (·.1) = fieldsE c ∧ Q (.lst (.str (wordE c) :: fs.map (·.2))) M') (fun (d : D) (M' : Mem) => Q (.lst [.str "returned", d]) M') := h
  refine ⟨U, F, M, δ, _, _, ⟨S.env, S.hr.extN eN T1, ?_⟩, h, ?_⟩
  · rintro c fs δ' M' F' σ' H' od ⟨hc, hf, hq⟩ e ev hr ho
    exact ⟨c, fs, U, F', M', Q, rfl, ho, hr, cl.up e, hc, hf, hq⟩
  · intro d M' F' v H' hq e r hr
    refine ⟨by show (2 : Nat) ≤ sizeLine; rw [sizeLine_eq]; omega, fun p hp => ?_⟩
    obtain ⟨g2, e2⟩ := hr.newF hp (.lst [.str "returned", v])
    exact cl _ _ _ _ _ hq (e.trans e2) ⟨p, _, rfl, .inl (.inl upd_same), ⟨.str "returned", [v], rfl, rfl, ⟨v, [], rfl, r.mono e2, rfl⟩⟩⟩ g2
end
end TS
namespace TS
open PySem PySem.Spec PyProof.Rows L2
/-! ### list.count, list.index of plain data, str.split -/
section
variable {X : Cx} {ca : Ca}
def rCntP (K : Fg) : V → List V → Hp → VK → Prop := fun x xs H Q => ∃ (a : Addr) (y : V) (d : PyData) (ds : List PyData), x = V.ref a ∧ xs = [y] ∧ Dp K H (V.ref a) (.list ds) ∧ Dp K H y d ∧ SeqAt.shaped (.list ds) = true ∧ SeqAt.shaped d = true ∧ PyData.plainAll ds = true ∧ d.plain = true ∧
  Q (.int ((ds.countP fun y => PyData.eqv y d : Nat) : Int)) H
theorem mt_countP (hu : X.A.units + 65 < cLine) : MtR X "list.count" (rCntP X.K) := by
  intro pins s σ H x xs v us Q I rx rxs h
  obtain ⟨a, y, d, ds, rfl, rfl, hl, hy, sl, sd, pl, pd, q⟩ := h
  cases rx
  obtain ⟨uy, rfl, ry⟩ := rxs.one
  obtain ⟨bs, r1⟩ := Dp.reads I d y uy hy ry
  have hroom : X.A.units + 1 + min (PyData.depthAll ds) d.depth < cLine := room_in_shaped sd hu
  cases hl with
  | lst hs ha =>
    obtain ⟨its, rv, p, _⟩ := I.list hs
    obtain ⟨as, r2⟩ := Dp.readsAll I ds _ its ha rv
    exact SeqAt.count_list_data p.isList (show ReadsAll s.heap its.toArray.toList ds as from r2) r1 pl pd hroom ⟨.int _, H, I.tok _, ⟨_, rfl⟩, q⟩
def mCount : DMt := fun d ds M _ Q => match asL M d with
  | some l => (match ds with
    | [y] => ∃ ps p, toPys M l = some ps ∧ toPy M y = some p ∧ SeqAt.shaped (.list ps) = true ∧ SeqAt.shaped p = true ∧ PyData.plainAll ps = true ∧ p.plain = true ∧ Q (.int ((ps.countP fun z => PyData.eqv z p : Nat) : Int)) M
    | _ => False)
  | none => False
theorem mt_countD (hu : X.A.units + 65 < cLine) : MtD X ca "list" "list.count" mCount := ⟨_, mt_countP hu, fun U F H M E Q R d v ds vs hr r rl h c => by
  unfold mCount at h
  cases e : asL M d with
  | none => rw [e] at h; exact h.elim
  | some l =>
    rw [e] at h
    match ds, rl, h with
    | [y], ⟨w, wr, ew, rw_, er⟩, ⟨ps, p, e1, e2, s1, s2, p1, p2, q⟩ =>
      cases er
      subst ew
      obtain ⟨a, xs, rfl, hs, rx⟩ := asL_ok hr r e
      exact ⟨a, w, p, ps, rfl, rfl, .lst hs (toPys_ok hr rx e1), toPy_ok hr rw_ e2, s1, s2, p1, p2, c _ _ _ _ _ q Ext.rfl' rfl hr⟩⟩
def mIndex : DMt := fun d ds M _ Q => match asL M d with
  | some l => (match ds with
    | [y] => ∃ ps p j z, toPys M l = some ps ∧ toPy M y = some p ∧ SeqAt.shaped (.list ps) = true ∧ SeqAt.shaped p = true ∧ ps[j]? = some z ∧ PyData.eqv z p = true ∧ (∀ (m : Nat) (z' : PyData), m < j → ps[m]? = some z' → PyData.eqv z' p = false) ∧ Q (.int (j : Nat)) M
    | _ => False)
  | none => False
theorem mt_indexD' (hu : X.A.units + 65 < cLine) : MtD X ca "list" "list.index" mIndex := ⟨_, mt_indexD hu, fun U F H M E Q R d v ds vs hr r rl h c => by
  unfold mIndex at h
  cases e : asL M d with
  | none => rw [e] at h; exact h.elim
  | some l =>
    rw [e] at h
    match ds, rl, h with
    | [y], ⟨w, wr, ew, rw_, er⟩, ⟨ps, p, j, z, e1, e2, s1, s2, p1, p2, p3, q⟩ =>
      cases er
      subst ew
      obtain ⟨a, xs, rfl, hs, rx⟩ := asL_ok hr r e
      exact ⟨a, w, p, ps, j, z, rfl, rfl, .lst hs (toPys_ok hr rx e1), toPy_ok hr rw_ e2, s1, s2, p1, p2, p3, c _ _ _ _ _ q Ext.rfl' rfl hr⟩⟩
theorem repL_strs {K : Fg} {F : Hp} : ∀ l : List Str, RepL K ca F (l.map D.str) (l.map V.str)
  | [] => rfl
  | z :: l => ⟨_, _, rfl, rfl, repL_strs l⟩
def mSplit : DMt := fun d ds M _ Q => match d, ds with
  | .str a, [.str b] => (b.length == 0) = false ∧ a.length + 2 ≤ sizeLine ∧ Q (.lst ((Txt.split a b).map D.str)) M
  | _, _ => False
theorem mt_splitD : MtD X ca "str" "str.split" mSplit := ⟨_, mt_split, fun U F H M E Q R d v ds vs hr r rl h c => by
  unfold mSplit at h
  split at h
  · obtain ⟨w, wr, ew, rw_, er⟩ := rl
    cases er
    subst ew
    cases r
    cases rw_
    obtain ⟨h1, h2, q⟩ := h
    refine ⟨_, _, rfl, rfl, h1, h2, fun p hp => ?_⟩
    obtain ⟨g2, e2⟩ := hr.newF hp (.lst ((Txt.split _ _).map V.str))
    exact c _ _ _ _ _ q e2 ⟨p, _, rfl, .inl (.inl upd_same), (repL_strs _).mono e2⟩ g2
  · exact h.elim⟩
end
/-! ### steps -/
section
variable {δ : DEnv} {M : Mem} {E : EX} {E0 : XD} {Q : QD} {Z : DEnds} {te : DT} {tr : DTA} {cs : List Nat} {c : Nat} {f : Str} {fs : List (Str × D)} {d : D}
theorem x_raise (h : te δ M Z.ex fun d M1 => Z.ex c [(f, d)] δ M1) : sRaise c f te Z δ M := h
theorem x_raise0 (h : Z.ex c [] δ M) : sRaise0 c Z δ M := h
theorem x_caught (h : te δ M (fun c fs _ M' => c ∈ cs ∧ fs.map (·.1) = fieldsE c ∧ Q (.lst (.str (wordE c) :: fs.map (·.2))) M') fun d M' => Q (.lst [.str "returned", d]) M') : dCaught cs te δ M E Q := h
theorem x_fldE (h : te δ M E fun d M1 => goFldE cs f d M1 Q) : dFldE cs f te δ M E Q := h
theorem x_goFldE {v : D} (hc : c ∈ cs) (h : Q v M) : goFldE cs f (.exc c [(f, v)]) M Q := by
  refine ⟨hc, ?_⟩
  rw [List.lookup_cons, beq_self_eq_true]
  exact h
end
/-! ### the classes of the errors -/
/-- is it of this class? -/
def subE (c : Nat) : D → Bool
  | .cls k => k == c || k == baseE c
  | .ty n => n == bltE c
  | _ => false
/-- what is asked about -/
def askE : D → Bool
  | .cls k => Nat.ble 20 k && Nat.ble k 46
  | .ty n => n == "ValueError" || n == "LookupError" || n == "ArithmeticError"
  | _ => false
def isaE (cs : List Nat) : ETab := fun c y => if c ∈ cs then (match y with
  | .tup l => if l.all askE then some (l.any (subE c)) else none
  | y => if askE y then some (subE c y) else none) else none
/-- the errors with a field of their own, and those without -/
def otherE (c : Nat) : Bool := decide (fieldsE c = (["mode"] : List Str)) || decide (fieldsE c = (["text"] : List Str)) || decide (fieldsE c = (["command"] : List Str)) || decide (fieldsE c = [])
def sp_otherE (cs : List Nat) : DSp := fun ds M _ Q => ∃ c fs, ds = [.exc c fs] ∧ c ∈ cs ∧ fs.map (·.1) = fieldsE c ∧ otherE c = true ∧ Q (.lst (fs.map (·.2))) M
section
variable {cs : List Nat} {c : Nat} {fs : List (Str × D)} {M : Mem} {E0 : XD} {Q : QD} {y : D}
theorem x_isaE {l : List D} (hc : c ∈ cs) (ha : l.all askE = true) (h : Q (.bl (l.any (subE c))) M) : bIsaE (isaE cs) (.exc c fs) (.tup l) M E0 Q := by
  show (match isaE cs c (.tup l) with | some b => Q (.bl b) M | none => False)
  unfold isaE
  rw [if_pos hc]
  simp only [ha, if_true]
  exact h
theorem x_isaEc {k : Nat} (hc : c ∈ cs) (ha : (Nat.ble 20 k && Nat.ble k 46) = true) (h : Q (.bl (k == c || k == baseE c)) M) : bIsaE (isaE cs) (.exc c fs) (.cls k) M E0 Q := by
  show (match isaE cs c (.cls k) with | some b => Q (.bl b) M | none => False)
  unfold isaE
  rw [if_pos hc]
  simp only [askE, ha, if_true]
  exact h
theorem x_isaEt {n : String} (hc : c ∈ cs) (ha : askE (.ty n) = true) (h : Q (.bl (n == bltE c)) M) : bIsaE (isaE cs) (.exc c fs) (.ty n) M E0 Q := by
  show (match isaE cs c (.ty n) with | some b => Q (.bl b) M | none => False)
  unfold isaE
  rw [if_pos hc]
  simp only [ha, if_true]
  exact h
end
end TS
namespace TS
open PySem PySem.Spec PyProof.Rows L2 TSR
def N__law_other_fields : List PySem.Str := ["_law_e"]
def t__law_other_fields (cs : List Nat) : DTS := (sSeq (sIf (dB (dCB (b2 (bIsaE (isaE cs))) (dCons (dVar 0) (dCons (dC (.cls 29)) dNil)))) (sRet (dLst (dCons (dFldE (fldCs cs "mode") "mode" (dVar 0)) dNil))) sNext) (sSeq (sIf (dB (dCB (b2 (bIsaE (isaE cs))) (dCons (dVar 0) (dCons (dC (.cls 31)) dNil)))) (sRet (dLst (dCons (dFldE (fldCs cs "text") "text" (dVar 0)) dNil))) sNext) (sRet (dIf (dB (dCB (b2 (bIsaE (isaE cs))) (dCons (dVar 0) (dCons (dC (.cls 33)) dNil)))) (dLst (dCons (dFldE (fldCs cs "command") "command" (dVar 0)) dNil)) (dLst dNil)))))
def N__law_fields : List PySem.Str := ["_law_e"]
def t__law_fields (cs : List Nat) : DTS := (sSeq (sIf (dB (dCB (b2 (bIsaE (isaE cs))) (dCons (dVar 0) (dCons (dTup (dCons (dC (.cls 26)) (dCons (dC (.cls 27)) (dCons (dC (.cls 28)) (dCons (dC (.cls 30)) (dCons (dC (.cls 32)) dNil)))))) dNil)))) (sRet (dLst (dCons (dFldE (fldCs cs "index") "index" (dVar 0)) dNil))) sNext) (sSeq (sIf (dB (dCB (b2 (bIsaE (isaE cs))) (dCons (dVar 0) (dCons (dTup (dCons (dC (.cls 44)) (dCons (dC (.cls 45)) (dCons (dC (.cls 46)) dNil)))) dNil)))) (sRet (dLst (dCons (dFldE (fldCs cs "found") "found" (dVar 0)) dNil))) sNext) (sSeq (sIf (dB (dCB (b2 (bIsaE (isaE cs))) (dCons (dVar 0) (dCons (dTup (dCons (dC (.cls 23)) (dCons (dC (.cls 24)) (dCons (dC (.cls 25)) (dCons (dC (.cls 34)) (dCons (dC (.cls 35)) (dCons (dC (.cls 36)) dNil))))))) dNil)))) (sRet (dLst (dCons (dFldE (fldCs cs "value") "value" (dVar 0)) dNil))) sNext) (sSeq (sIf (dB (dCB (b2 (bIsaE (isaE cs))) (dCons (dVar 0) (dCons (dTup (dCons (dC (.cls 37)) (dCons (dC (.cls 38)) (dCons (dC (.cls 40)) dNil)))) dNil)))) (sRet (dLst (dCons (dFldE (fldCs cs "value") "value" (dVar 0)) dNil))) sNext) (sRet (dCall (sp_otherE cs) [] (dCons (dVar 0) dNil)))))))
def N__law_kind : List PySem.Str := ["_law_e", "_law_kinds", "_law_bases", "_law_own", "_law_at", "_law_words"]
def t__law_kind (cs : List Nat) : DTS := (sSeq (sAsg (dLst (dCons (dCB (b2 (bIsaE (isaE cs))) (dCons (dVar 0) (dCons (dC (.cls 23)) dNil))) (dCons (dCB (b2 (bIsaE (isaE cs))) (dCons (dVar 0) (dCons (dC (.cls 24)) dNil))) (dCons (dCB (b2 (bIsaE (isaE cs))) (dCons (dVar 0) (dCons (dC (.cls 25)) dNil))) dNil)))) (gNameD 1)) (sSeq (sAsg (dBin oAdd0 (dVar 1) (dLst (dCons (dCB (b2 (bIsaE (isaE cs))) (dCons (dVar 0) (dCons (dC (.cls 26)) dNil))) (dCons (dCB (b2 (bIsaE (isaE cs))) (dCons (dVar 0) (dCons (dC (.cls 27)) dNil))) (dCons (dCB (b2 (bIsaE (isaE cs))) (dCons (dVar 0) (dCons (dC (.cls 28)) dNil))) dNil))))) (gNameD 1)) (sSeq (sAsg (dBin oAdd0 (dVar 1) (dLst (dCons (dCB (b2 (bIsaE (isaE cs))) (dCons (dVar 0) (dCons (dC (.cls 29)) dNil))) (dCons (dCB (b2 (bIsaE (isaE cs))) (dCons (dVar 0) (dCons (dC (.cls 30)) dNil))) (dCons (dCB (b2 (bIsaE (isaE cs))) (dCons (dVar 0) (dCons (dC (.cls 31)) dNil))) dNil))))) (gNameD 1)) (sSeq (sAsg (dBin oAdd0 (dVar 1) (dLst (dCons (dCB (b2 (bIsaE (isaE cs))) (dCons (dVar 0) (dCons (dC (.cls 32)) dNil))) (dCons (dCB (b2 (bIsaE (isaE cs))) (dCons (dVar 0) (dCons (dC (.cls 33)) dNil))) (dCons (dCB (b2 (bIsaE (isaE cs))) (dCons (dVar 0) (dCons (dC (.cls 34)) dNil))) dNil))))) (gNameD 1)) (sSeq (sAsg (dBin oAddM (dVar 1) (dLst (dCons (dCB (b2 (bIsaE (isaE cs))) (dCons (dVar 0) (dCons (dC (.cls 35)) dNil))) (dCons (dCB (b2 (bIsaE (isaE cs))) (dCons (dVar 0) (dCons (dC (.cls 36)) dNil))) (dCons (dCB (b2 (bIsaE (isaE cs))) (dCons (dVar 0) (dCons (dC (.cls 37)) dNil))) dNil))))) (gNameD 1)) (sSeq (sDrop (dBM "list" mAppend (dVar 1) (dCons (dCB (b2 (bIsaE (isaE cs))) (dCons (dVar 0) (dCons (dC (.cls 38)) dNil))) dNil))) (sStill 1 (sSeq (sAsg (dBin oAdd0 (dVar 1) (dLst (dCons (dCB (b2 (bIsaE (isaE cs))) (dCons (dVar 0) (dCons (dC (.cls 39)) dNil))) (dCons (dCB (b2 (bIsaE (isaE cs))) (dCons (dVar 0) (dCons (dC (.cls 40)) dNil))) (dCons (dCB (b2 (bIsaE (isaE cs))) (dCons (dVar 0) (dCons (dC (.cls 41)) dNil))) dNil))))) (gNameD 1)) (sSeq (sAsg (dBin oAdd0 (dVar 1) (dLst (dCons (dCB (b2 (bIsaE (isaE cs))) (dCons (dVar 0) (dCons (dC (.cls 42)) dNil))) (dCons (dCB (b2 (bIsaE (isaE cs))) (dCons (dVar 0) (dCons (dC (.cls 43)) dNil))) (dCons (dCB (b2 (bIsaE (isaE cs))) (dCons (dVar 0) (dCons (dC (.cls 44)) dNil))) dNil))))) (gNameD 1)) (sSeq (sAsg (dBin oAdd0 (dVar 1) (dLst (dCons (dCB (b2 (bIsaE (isaE cs))) (dCons (dVar 0) (dCons (dC (.cls 45)) dNil))) (dCons (dCB (b2 (bIsaE (isaE cs))) (dCons (dVar 0) (dCons (dC (.cls 46)) dNil))) dNil)))) (gNameD 1)) (sSeq (sAsg (dLst (dCons (dCB (b2 (bIsaE (isaE cs))) (dCons (dVar 0) (dCons (dC (.cls 20)) dNil))) (dCons (dCB (b2 (bIsaE (isaE cs))) (dCons (dVar 0) (dCons (dC (.cls 21)) dNil))) (dCons (dCB (b2 (bIsaE (isaE cs))) (dCons (dVar 0) (dCons (dC (.cls 22)) dNil))) dNil)))) (gNameD 2)) (sSeq (sAsg (dLst (dCons (dCB (b2 (bIsaE (isaE cs))) (dCons (dVar 0) (dCons (dC (.ty "ValueError")) dNil))) (dCons (dCB (b2 (bIsaE (isaE cs))) (dCons (dVar 0) (dCons (dC (.ty "LookupError")) dNil))) (dCons (dCB (b2 (bIsaE (isaE cs))) (dCons (dVar 0) (dCons (dC (.ty "ArithmeticError")) dNil))) dNil)))) (gNameD 3)) (sSeq (sIf (dB (dBin (oEqP fun b => !b) (dBM "list" mCount (dVar 1) (dCons (dC (.bl true)) dNil)) (dC (.int 1)))) (sRet (dC (.str "other"))) sNext) (sSeq (sAsg (dBM "list" mIndex (dVar 1) (dCons (dC (.bl true)) dNil)) (gNameD 4)) (sSeq (sIf (dOr (dB (dBin (oEqP fun b => !b) (dVar 2) (dLst (dCons (dBin oLt0 (dVar 4) (dC (.int 16))) (dCons (dChain oLt0 oLt0 (dC (.int 15)) (dVar 4) (dC (.int 20))) (dCons (dBin oGt0 (dVar 4) (dC (.int 19))) dNil)))))) (dB (dBin (oEqP fun b => !b) (dVar 3) (dVar 2)))) (sRet (dC (.str "other"))) sNext) (sSeq (sAsg (dC (.str "fraction color opacity layers points samples mode index text action command notlayer notstack")) (gNameD 5)) (sSeq (sAsg (dBin oAdd0 (dVar 5) (dC (.str " notcurve notfraction notvalue notsettled notseen busy undo zero"))) (gNameD 5)) (sSeq (sAsg (dBin oAdd0 (dVar 5) (dC (.str " toomanylayers corners entries"))) (gNameD 5)) (sRet (dBin oIx0 (dBM "str" mSplit (dVar 5) (dCons (dC (.str " ")) dNil)) (dVar 4)))))))))))))))))))))

theorem len__law_other_fields {cs : List Nat} : ∀ ds M E Q, sp_otherE cs ds M E Q → ds.length = [("_law_e" : Str)].length := fun ds M E Q ⟨_, _, h, _⟩ => by rw [h]; rfl
theorem len__law_fields {cs : List Nat} : ∀ ds M E Q, sp_fieldsE cs ds M E Q → ds.length = [("_law_e" : Str)].length := fun ds M E Q ⟨_, _, h, _⟩ => by rw [h]; rfl
theorem len__law_kind {cs : List Nat} : ∀ ds M E Q, sp_kindE cs ds M E Q → ds.length = [("_law_e" : Str)].length := fun ds M E Q ⟨_, _, h, _⟩ => by rw [h]; rfl
/-- the numbers of the errors -/
def ExNums (cs : List Nat) : Prop := ∀ c ∈ cs, 23 ≤ c ∧ c ≤ 46
section
variable {δ : DEnv} {M : Mem} {E : EX} {E0 : XD} {Q : QD} {cs : List Nat} {c : Nat} {fs : List (Str × D)} {f : Str} {d : D}
theorem mem_fldCs (hc : c ∈ cs) (h : fieldsE c = [f]) : c ∈ fldCs cs f := List.mem_filter.mpr ⟨hc, decide_eq_true h⟩
end
theorem kof {P : Nat → Prop} (h : ∀ i : Fin 24, P (23 + i.val)) {c : Nat} (hc : 23 ≤ c ∧ c ≤ 46) : P c := by
  have z := h ⟨c - 23, by omega⟩
  have e : 23 + (c - 23) = c := by omega
  rw [← e]; exact z
theorem one_field {fs : List (Str × D)} {f : Str} (h : fs.map (·.1) = [f]) : ∃ v, fs = [(f, v)] := by
  match fs, h with
  | [(g, v)], h => cases h; exact ⟨v, rfl⟩
theorem no_field {fs : List (Str × D)} (h : fs.map (·.1) = []) : fs = [] := by
  match fs, h with
  | [], _ => rfl
def isC (c k : Nat) : Bool := k == c || k == baseE c
local macro_rules | `(tactic| case xr1 => skip) => `(tactic| (first | refine x_repM ?_ | refine x_v0 ?_ | refine x_v1 ?_ | refine x_v2 ?_ | refine x_v3 ?_ | refine x_v4 ?_ | refine x_v5 ?_ | refine x_v6 ?_ | refine x_v7 ?_ | refine x_v8 ?_ | refine x_v9 ?_ | refine x_v10 ?_ | refine x_v11 ?_ | refine x_gsC ?_ | refine x_gsN ?_ | refine x_lenL ?_ | refine x_lenT ?_ | refine x_max ?_ | refine x_min ?_ | refine x_slice ?_ | refine x_noP ?_ | refine x_part ?_ | refine x_goPart ?_ | refine x_slL ?_ | refine x_rg1 ?_ | refine x_bm ?_ | refine x_seq ?_ | refine x_asg ?_ | refine x_ret ?_ | refine x_if ?_ | refine x_dB ?_ | refine x_ex ?_ | refine x_cons ?_ | refine x_nil ?_ | refine x_tup ?_ | refine x_lst ?_ | refine x_bin ?_ | refine x_un ?_ | refine x_cb ?_ | refine x_call ?_ | refine x_b1 ?_ | refine x_b2 ?_ | refine x_c ?_ | refine x_tt ?_ | refine x_ff ?_ | refine x_ifx ?_ | refine x_andV ?_ | refine x_orV ?_ | refine x_notV ?_ | refine x_not ?_ | refine x_and ?_ | refine x_or ?_ | refine x_still ?_ | refine x_par ?_ | refine x_par2 ?_ | refine x_aug ?_ | refine x_for ?_ | refine x_dseq ?_ | refine x_goL ?_ | refine x_goT ?_ | refine x_comp ?_ | refine x_addI ?_ | refine x_subI ?_ | refine x_neg ?_ | refine x_absI ?_ | refine x_lt ?_ | refine x_le ?_ | refine x_gt ?_ | refine x_ge ?_ | refine x_i0 ?_ | refine x_i1 ?_ | refine x_isB ?_ | refine x_eqB ?_ | refine x_eqI ?_ | refine x_eqpr ?_ | refine x_fbool ?_ | refine x_next ?_ | refine x_drop ?_ | refine x_retN ?_ | refine x_n0 ?_ | refine x_n1 ?_ | refine x_n2 ?_ | refine x_n3 ?_ | refine x_n4 ?_ | refine x_n5 ?_ | refine x_n6 ?_ | refine x_n7 ?_ | refine x_n8 ?_ | refine x_n9 ?_ | refine x_n10 ?_ | refine x_n11 ?_ | refine x_fadd (by assumption) (by assumption) ?_ | refine x_fsub (by assumption) (by assumption) ?_ | refine x_fmul (by assumption) (by assumption) ?_ | refine x_fneg (by assumption) ?_ | refine x_fabs (by assumption) ?_ | refine x_frepr (by assumption) ?_ | refine x_fstr (by assumption) ?_ | refine x_gtup rfl ?_ | refine x_goR1 (by decide) ?_ | refine x_goTup rfl ?_ | refine x_goLst rfl ?_ | refine x_addL rfl ?_ | refine x_meth ?_ | refine x_goQuo ?_ | refine x_truO ?_ | refine x_goTru ?_ | refine x_feq ?_ | refine x_fne ?_ | refine x_par3 ?_ | refine x_par4 ?_ | refine x_nt ?_ | refine x_nf ?_ | refine x_mk1_0 ?_ | refine x_mk1_1 ?_ | refine x_mk1_m ?_ | refine x_flt (by assumption) (by assumption) ?_ | refine x_fle (by assumption) (by assumption) ?_ | refine x_fgt (by assumption) (by assumption) ?_ | refine x_fge (by assumption) (by assumption) ?_ | refine x_fadd (up2 (by assumption)) (up2 (by assumption)) ?_ | refine x_fsub (up2 (by assumption)) (up2 (by assumption)) ?_ | refine x_fmul (up2 (by assumption)) (up2 (by assumption)) ?_ | refine x_fneg (up4 (by assumption)) ?_ | refine x_fabs (up4 (by assumption)) ?_ | refine x_frepr (up1 (by assumption)) ?_ | refine x_flt (up4 (by assumption)) (up4 (by assumption)) ?_ | refine x_fle (up4 (by assumption)) (up4 (by assumption)) ?_ | refine x_fgt (up4 (by assumption)) (up4 (by assumption)) ?_ | refine x_fge (up4 (by assumption)) (up4 (by assumption)) ?_ | refine x_fquo (by assumption) (up2 (by assumption)) (up2 (by assumption)) ?_ | refine x_prop ?_ | refine x_goTop ?_ | refine x_goBot ?_ | refine x_t0 ?_ | refine x_t1 ?_ | refine x_t2 ?_ | refine x_l0 ?_ | refine x_l1 ?_ | refine x_l2 ?_ | refine x_l3 ?_ | refine x_addS (by assumption) ?_ | refine x_fstr (up1 (by assumption)) ?_ | refine x_dic0 ?_ | refine x_fld ?_ | refine x_goOver ?_ | refine x_goUnder ?_ | refine x_sm ?_ | refine x_isaFr ?_ | refine x_chain ?_ | refine x_isnB ?_ | refine x_v12 ?_ | refine x_n12 ?_ | refine x_v13 ?_ | refine x_n13 ?_ | refine x_v14 ?_ | refine x_n14 ?_ | refine x_v15 ?_ | refine x_n15 ?_ | refine x_v16 ?_ | refine x_n16 ?_ | refine x_v17 ?_ | refine x_n17 ?_ | refine x_v18 ?_ | refine x_n18 ?_ | refine x_v19 ?_ | refine x_n19 ?_ | refine x_fldD ?_ | refine x_enum ?_ | refine x_goEnum ?_ | refine x_callK ?_ | refine x_get2 ?_ | refine x_dic2 ?_ | refine x_lstM ?_ | refine x_less (by assumption) (by assumption) ?_ | refine x_plus (by assumption) (by assumption) ?_ | refine x_times (by assumption) (by assumption) ?_ | refine x_minus1 (by assumption) ?_ | refine x_frac (by assumption) ?_ | refine x_inI ?_ | refine x_inIL ?_ | refine x_gLst rfl ?_ | refine x_addT (by assumption) ?_ | refine x_eqFF ?_))
theorem pure__law_other_fields {cs : List Nat} (hn : ExNums cs) : Pure (sp_otherE cs) (t__law_other_fields cs) N__law_other_fields := by
  rintro ds M E Q ⟨c, fs, rfl, hc, hf, ho, h⟩
  have n := hn c hc
  simp only [t__law_other_fields, startD, N__law_other_fields, List.map, List.length, List.replicate, Nat.reduceSub, Nat.reduceAdd, List.nil_append, List.cons_append]
  repeat (with_reducible first | case xr1 => skip | refine x_isaEc hc rfl ?_)
  by_cases b1 : (29 == c || 29 == baseE c) = true
  · have e := kof (P := fun c => (29 == c || 29 == baseE c) = true → fieldsE c = (["mode"] : List Str)) (by decide +kernel) n b1
    obtain ⟨v, rfl⟩ := one_field (hf.trans e)
    rw [b1]
    repeat (with_reducible first | case xr1 => skip | refine x_fldE ?_ | refine x_goFldE (mem_fldCs hc e) ?_)
    exact h
  · rw [Bool.eq_false_iff.mpr b1]
    repeat (with_reducible first | case xr1 => skip | refine x_isaEc hc rfl ?_)
    by_cases b2 : (31 == c || 31 == baseE c) = true
    · have e := kof (P := fun c => (31 == c || 31 == baseE c) = true → fieldsE c = (["text"] : List Str)) (by decide +kernel) n b2
      obtain ⟨v, rfl⟩ := one_field (hf.trans e)
      rw [b2]
      repeat (with_reducible first | case xr1 => skip | refine x_fldE ?_ | refine x_goFldE (mem_fldCs hc e) ?_)
      exact h
    · rw [Bool.eq_false_iff.mpr b2]
      repeat (with_reducible first | case xr1 => skip | refine x_isaEc hc rfl ?_)
      by_cases b3 : (33 == c || 33 == baseE c) = true
      · have e := kof (P := fun c => (33 == c || 33 == baseE c) = true → fieldsE c = (["command"] : List Str)) (by decide +kernel) n b3
        obtain ⟨v, rfl⟩ := one_field (hf.trans e)
        rw [b3]
        repeat (with_reducible first | case xr1 => skip | refine x_fldE ?_ | refine x_goFldE (mem_fldCs hc e) ?_)
        exact h
      · have e := kof (P := fun c => otherE c = true → ¬ (29 == c || 29 == baseE c) = true → ¬ (31 == c || 31 == baseE c) = true → ¬ (33 == c || 33 == baseE c) = true → fieldsE c = []) (by decide +kernel) n ho b1 b2 b3
        obtain rfl := no_field (hf.trans e)
        rw [Bool.eq_false_iff.mpr b3]
        repeat (with_reducible case xr1 => skip)
        exact h
/-- is it one of these? -/
theorem any_cls (c : Nat) (l : List D) : l.any (subE c) = l.any (subE c) := rfl
theorem pure__law_fields {cs : List Nat} (hn : ExNums cs) : Pure (sp_fieldsE cs) (t__law_fields cs) N__law_fields := by
  rintro ds M E Q ⟨c, fs, rfl, hc, hf, h⟩
  have n := hn c hc
  simp only [t__law_fields, startD, N__law_fields, List.map, List.length, List.replicate, Nat.reduceSub, Nat.reduceAdd, List.nil_append, List.cons_append]
  repeat (with_reducible first | case xr1 => skip | refine x_isaE hc rfl ?_)
  by_cases b1 : [D.cls 26, .cls 27, .cls 28, .cls 30, .cls 32].any (subE c) = true
  · have e := kof (P := fun c => [D.cls 26, .cls 27, .cls 28, .cls 30, .cls 32].any (subE c) = true → fieldsE c = (["index"] : List Str)) (by decide +kernel) n b1
    obtain ⟨v, rfl⟩ := one_field (hf.trans e)
    rw [b1]
    repeat (with_reducible first | case xr1 => skip | refine x_fldE ?_ | refine x_goFldE (mem_fldCs hc e) ?_)
    exact h
  · rw [Bool.eq_false_iff.mpr b1]
    repeat (with_reducible first | case xr1 => skip | refine x_isaE hc rfl ?_)
    by_cases b2 : [D.cls 44, .cls 45, .cls 46].any (subE c) = true
    · have e := kof (P := fun c => [D.cls 44, .cls 45, .cls 46].any (subE c) = true → fieldsE c = (["found"] : List Str)) (by decide +kernel) n b2
      obtain ⟨v, rfl⟩ := one_field (hf.trans e)
      rw [b2]
      repeat (with_reducible first | case xr1 => skip | refine x_fldE ?_ | refine x_goFldE (mem_fldCs hc e) ?_)
      exact h
    · rw [Bool.eq_false_iff.mpr b2]
      repeat (with_reducible first | case xr1 => skip | refine x_isaE hc rfl ?_)
      by_cases b3 : [D.cls 23, .cls 24, .cls 25, .cls 34, .cls 35, .cls 36].any (subE c) = true
      · have e := kof (P := fun c => [D.cls 23, .cls 24, .cls 25, .cls 34, .cls 35, .cls 36].any (subE c) = true → fieldsE c = (["value"] : List Str)) (by decide +kernel) n b3
        obtain ⟨v, rfl⟩ := one_field (hf.trans e)
        rw [b3]
        repeat (with_reducible first | case xr1 => skip | refine x_fldE ?_ | refine x_goFldE (mem_fldCs hc e) ?_)
        exact h
      · rw [Bool.eq_false_iff.mpr b3]
        repeat (with_reducible first | case xr1 => skip | refine x_isaE hc rfl ?_)
        by_cases b4 : [D.cls 37, .cls 38, .cls 40].any (subE c) = true
        · have e := kof (P := fun c => [D.cls 37, .cls 38, .cls 40].any (subE c) = true → fieldsE c = (["value"] : List Str)) (by decide +kernel) n b4
          obtain ⟨v, rfl⟩ := one_field (hf.trans e)
          rw [b4]
          repeat (with_reducible first | case xr1 => skip | refine x_fldE ?_ | refine x_goFldE (mem_fldCs hc e) ?_)
          exact h
        · have o := kof (P := fun c => ¬ [D.cls 26, .cls 27, .cls 28, .cls 30, .cls 32].any (subE c) = true → ¬ [D.cls 44, .cls 45, .cls 46].any (subE c) = true → ¬ [D.cls 23, .cls 24, .cls 25, .cls 34, .cls 35, .cls 36].any (subE c) = true → ¬ [D.cls 37, .cls 38, .cls 40].any (subE c) = true → otherE c = true) (by decide +kernel) n b1 b2 b3 b4
          rw [Bool.eq_false_iff.mpr b4]
          repeat (with_reducible case xr1 => skip)
          exact ⟨c, fs, rfl, hc, hf, o, h⟩
theorem x_addR {p : Addr} {l b : List D} {M : Mem} {E0 : XD} {Q : QD} (hm : M p = some (.lst l)) (h : Nat.ble (l.length + b.length) sizeLine = true) (q : Q (.lst (l ++ b)) M) : oAdd0 (.ref p) (.lst b) M E0 Q := by
  show (match asL M (.ref p), asL M (.lst b) with
    | some a, some b => a.length + b.length ≤ sizeLine ∧ Q (.lst (a ++ b)) M
    | _, _ => False)
  have e : asL M (.ref p) = some l := by unfold asL; simp only [hm]
  rw [e]
  exact ⟨Nat.le_of_ble_eq_true h, q⟩
/-- the truths that are counted -/
def kindsE (c : Nat) : List Bool := (List.range 24).map fun k => 23 + k == c || 23 + k == baseE c
theorem count_bools (l : List Bool) : (l.map PyData.bool).countP (fun z => PyData.eqv z (.bool true)) = l.countP id := by
  rw [List.countP_map]
  congr 1
  funext b
  cases b <;> rfl
theorem x_count {l : List D} {bs : List Bool} {M : Mem} {E0 : XD} {Q : QD} (e : l = bs.map D.bl) (n : Nat) (hc : bs.countP id = n) (h : Q (.int (n : Nat)) M) (sh : SeqAt.shaped (.list (bs.map PyData.bool)) = true) : mCount (.lst l) [.bl true] M E0 Q := by
  have e1 : toPys M l = some (bs.map PyData.bool) := by
    rw [e]
    clear e hc sh h
    induction bs with
    | nil => rfl
    | cons b r ih =>
      show (match toPy M (D.bl b), toPys M (r.map D.bl) with
        | some p, some ps => some (p :: ps)
        | _, _ => none) = _
      rw [ih]
      rfl
  have e2 : PyData.plainAll (bs.map PyData.bool) = true := by
    clear e e1 hc sh h
    induction bs with
    | nil => rfl
    | cons b r ih => simpa [PyData.plainAll, PyData.plain] using ih
  refine ⟨_, .bool true, e1, rfl, sh, rfl, e2, rfl, ?_⟩
  rw [count_bools, hc]
  exact h
theorem x_index {l : List D} {bs : List Bool} {M : Mem} {E0 : XD} {Q : QD} (e : l = bs.map D.bl) (j : Nat) (hj : bs[j]? = some true) (hm : ∀ m, m < j → bs[m]? = some false) (h : Q (.int (j : Nat)) M) (sh : SeqAt.shaped (.list (bs.map PyData.bool)) = true) : mIndex (.lst l) [.bl true] M E0 Q := by
  have e1 : toPys M l = some (bs.map PyData.bool) := by
    rw [e]
    clear e hj hm sh h
    induction bs with
    | nil => rfl
    | cons b r ih =>
      show (match toPy M (D.bl b), toPys M (r.map D.bl) with
        | some p, some ps => some (p :: ps)
        | _, _ => none) = _
      rw [ih]
      rfl
  refine ⟨_, .bool true, j, .bool true, e1, rfl, sh, rfl, by rw [List.getElem?_map, hj]; rfl, rfl, fun m z' hmj hz => ?_, h⟩
  rw [List.getElem?_map, hm m hmj] at hz
  cases hz
  rfl
theorem x_goBML {r : DMt} {t : DTA} {δ : DEnv} {M : Mem} {E : EX} {Q : QD} {l : List D} (h : t δ M E fun ds M2 => r (.lst l) ds M2 (fun c fs M' => E c fs δ M') Q) : goBM "list" r t δ E Q (.lst l) M := ⟨.inr (.inl ⟨rfl, l, rfl⟩), h⟩
theorem x_goBMS {r : DMt} {t : DTA} {δ : DEnv} {M : Mem} {E : EX} {Q : QD} {z : Str} (h : t δ M E fun ds M2 => r (.str z) ds M2 (fun c fs M' => E c fs δ M') Q) : goBM "str" r t δ E Q (.str z) M := ⟨.inl ⟨rfl, z, rfl⟩, h⟩
theorem x_neB3 {a b c a' b' c' : Bool} {M : Mem} {E0 : XD} {Q : QD} (ha : a = a') (hb : b = b') (hc : c = c') (h : Q (.bl false) M) : oEqP (fun b => !b) (.lst [.bl a, .bl b, .bl c]) (.lst [.bl a', .bl b', .bl c']) M E0 Q := by
  subst ha hb hc
  exact eq_selfN (y := .list [.bool a, .bool b, .bool c]) rfl rfl h
theorem x_chainLt {δ : DEnv} {M : Mem} {E : EX} {Q : QD} {a b e : Int} {i : Nat} (hb : gt δ i = some (.int b)) (h : Q (.bl (decide (a < b) && decide (b < e))) M) : dChain oLt0 oLt0 (dC (.int a)) (dVar i) (dC (.int e)) δ M E Q := by
  unfold dChain dC dVar
  simp only [hb]
  refine ⟨_, rfl, ?_⟩
  by_cases hab : a < b
  · rw [if_pos (decide_eq_true hab)]
    rw [decide_eq_true hab, Bool.true_and] at h
    exact h
  · rw [if_neg (by simpa using hab)]
    rw [decide_eq_false hab, Bool.false_and] at h
    exact h
theorem x_catS {a b : Str} {M : Mem} {E0 : XD} {Q : QD} (hl : Nat.ble (a.length + b.length) sizeLine = true) (h : Q (.str (a ++ b)) M) : oAdd0 (.str a) (.str b) M E0 Q := ⟨Nat.le_of_ble_eq_true hl, h⟩
theorem count_kinds {c : Nat} (n : 23 ≤ c ∧ c ≤ 46) : (kindsE c).countP id = 1 := kof (P := fun c => (kindsE c).countP id = 1) (by decide +kernel) n
theorem index_kinds {c : Nat} (n : 23 ≤ c ∧ c ≤ 46) : (kindsE c)[c - 23]? = some true ∧ ∀ m, m < c - 23 → (kindsE c)[m]? = some false := kof (P := fun c => (kindsE c)[c - 23]? = some true ∧ ∀ m, m < c - 23 → (kindsE c)[m]? = some false) (by decide +kernel) n
theorem bases_at {c : Nat} (n : 23 ≤ c ∧ c ≤ 46) : ((20 == c || 20 == baseE c) = decide (((c - 23 : Nat) : Int) < 16) ∧ (21 == c || 21 == baseE c) = (decide ((15 : Int) < ((c - 23 : Nat) : Int)) && decide (((c - 23 : Nat) : Int) < 20)) ∧ (22 == c || 22 == baseE c) = decide ((19 : Int) < ((c - 23 : Nat) : Int))) ∧
    (("ValueError" == bltE c) = (20 == c || 20 == baseE c) ∧ ("LookupError" == bltE c) = (21 == c || 21 == baseE c) ∧ ("ArithmeticError" == bltE c) = (22 == c || 22 == baseE c)) :=
  kof (P := fun c => ((20 == c || 20 == baseE c) = decide (((c - 23 : Nat) : Int) < 16) ∧ (21 == c || 21 == baseE c) = (decide ((15 : Int) < ((c - 23 : Nat) : Int)) && decide (((c - 23 : Nat) : Int) < 20)) ∧ (22 == c || 22 == baseE c) = decide ((19 : Int) < ((c - 23 : Nat) : Int))) ∧
    (("ValueError" == bltE c) = (20 == c || 20 == baseE c) ∧ ("LookupError" == bltE c) = (21 == c || 21 == baseE c) ∧ ("ArithmeticError" == bltE c) = (22 == c || 22 == baseE c))) (by decide +kernel) n
def wordsT : Str := "fraction color opacity layers points samples mode index text action command notlayer notstack" ++ " notcurve notfraction notvalue notsettled notseen busy undo zero" ++ " toomanylayers corners entries"
theorem words_at {c : Nat} (n : 23 ≤ c ∧ c ≤ 46) : (Txt.split wordsT " ")[c - 23]? = some (wordE c) := kof (P := fun c => (Txt.split wordsT " ")[c - 23]? = some (wordE c)) (by decide +kernel) n
local macro_rules | `(tactic| case xr2 => skip) => `(tactic| (first | refine x_repM ?_ | refine x_v0 ?_ | refine x_v1 ?_ | refine x_v2 ?_ | refine x_v3 ?_ | refine x_v4 ?_ | refine x_v5 ?_ | refine x_v6 ?_ | refine x_v7 ?_ | refine x_v8 ?_ | refine x_v9 ?_ | refine x_v10 ?_ | refine x_v11 ?_ | refine x_gsC ?_ | refine x_gsN ?_ | refine x_lenL ?_ | refine x_lenT ?_ | refine x_max ?_ | refine x_min ?_ | refine x_slice ?_ | refine x_noP ?_ | refine x_part ?_ | refine x_goPart ?_ | refine x_slL ?_ | refine x_rg1 ?_ | refine x_bm ?_ | refine x_seq ?_ | refine x_asg ?_ | refine x_ret ?_ | refine x_if ?_ | refine x_dB ?_ | refine x_ex ?_ | refine x_cons ?_ | refine x_nil ?_ | refine x_tup ?_ | refine x_lst ?_ | refine x_bin ?_ | refine x_un ?_ | refine x_cb ?_ | refine x_call ?_ | refine x_b1 ?_ | refine x_b2 ?_ | refine x_c ?_ | refine x_tt ?_ | refine x_ff ?_ | refine x_ifx ?_ | refine x_andV ?_ | refine x_orV ?_ | refine x_notV ?_ | refine x_not ?_ | refine x_and ?_ | refine x_or ?_ | refine x_still ?_ | refine x_par ?_ | refine x_par2 ?_ | refine x_aug ?_ | refine x_for ?_ | refine x_dseq ?_ | refine x_goL ?_ | refine x_goT ?_ | refine x_comp ?_ | refine x_addI ?_ | refine x_subI ?_ | refine x_neg ?_ | refine x_absI ?_ | refine x_lt ?_ | refine x_le ?_ | refine x_gt ?_ | refine x_ge ?_ | refine x_i0 ?_ | refine x_i1 ?_ | refine x_isB ?_ | refine x_eqB ?_ | refine x_eqI ?_ | refine x_eqpr ?_ | refine x_fbool ?_ | refine x_next ?_ | refine x_drop ?_ | refine x_retN ?_ | refine x_n0 ?_ | refine x_n1 ?_ | refine x_n2 ?_ | refine x_n3 ?_ | refine x_n4 ?_ | refine x_n5 ?_ | refine x_n6 ?_ | refine x_n7 ?_ | refine x_n8 ?_ | refine x_n9 ?_ | refine x_n10 ?_ | refine x_n11 ?_ | refine x_fadd (by assumption) (by assumption) ?_ | refine x_fsub (by assumption) (by assumption) ?_ | refine x_fmul (by assumption) (by assumption) ?_ | refine x_fneg (by assumption) ?_ | refine x_fabs (by assumption) ?_ | refine x_frepr (by assumption) ?_ | refine x_fstr (by assumption) ?_ | refine x_gtup rfl ?_ | refine x_goR1 (by decide) ?_ | refine x_goTup rfl ?_ | refine x_goLst rfl ?_ | refine x_addL rfl ?_ | refine x_meth ?_ | refine x_goQuo ?_ | refine x_truO ?_ | refine x_goTru ?_ | refine x_feq ?_ | refine x_fne ?_ | refine x_par3 ?_ | refine x_par4 ?_ | refine x_nt ?_ | refine x_nf ?_ | refine x_mk1_0 ?_ | refine x_mk1_1 ?_ | refine x_mk1_m ?_ | refine x_flt (by assumption) (by assumption) ?_ | refine x_fle (by assumption) (by assumption) ?_ | refine x_fgt (by assumption) (by assumption) ?_ | refine x_fge (by assumption) (by assumption) ?_ | refine x_fadd (up2 (by assumption)) (up2 (by assumption)) ?_ | refine x_fsub (up2 (by assumption)) (up2 (by assumption)) ?_ | refine x_fmul (up2 (by assumption)) (up2 (by assumption)) ?_ | refine x_fneg (up4 (by assumption)) ?_ | refine x_fabs (up4 (by assumption)) ?_ | refine x_frepr (up1 (by assumption)) ?_ | refine x_flt (up4 (by assumption)) (up4 (by assumption)) ?_ | refine x_fle (up4 (by assumption)) (up4 (by assumption)) ?_ | refine x_fgt (up4 (by assumption)) (up4 (by assumption)) ?_ | refine x_fge (up4 (by assumption)) (up4 (by assumption)) ?_ | refine x_fquo (by assumption) (up2 (by assumption)) (up2 (by assumption)) ?_ | refine x_prop ?_ | refine x_goTop ?_ | refine x_goBot ?_ | refine x_t0 ?_ | refine x_t1 ?_ | refine x_t2 ?_ | refine x_l0 ?_ | refine x_l1 ?_ | refine x_l2 ?_ | refine x_l3 ?_ | refine x_addS (by assumption) ?_ | refine x_fstr (up1 (by assumption)) ?_ | refine x_dic0 ?_ | refine x_fld ?_ | refine x_goOver ?_ | refine x_goUnder ?_ | refine x_sm ?_ | refine x_isaFr ?_ | refine x_chain ?_ | refine x_isnB ?_ | refine x_v12 ?_ | refine x_n12 ?_ | refine x_v13 ?_ | refine x_n13 ?_ | refine x_v14 ?_ | refine x_n14 ?_ | refine x_v15 ?_ | refine x_n15 ?_ | refine x_v16 ?_ | refine x_n16 ?_ | refine x_v17 ?_ | refine x_n17 ?_ | refine x_v18 ?_ | refine x_n18 ?_ | refine x_v19 ?_ | refine x_n19 ?_ | refine x_fldD ?_ | refine x_enum ?_ | refine x_goEnum ?_ | refine x_callK ?_ | refine x_get2 ?_ | refine x_dic2 ?_ | refine x_lstM ?_ | refine x_less (by assumption) (by assumption) ?_ | refine x_plus (by assumption) (by assumption) ?_ | refine x_times (by assumption) (by assumption) ?_ | refine x_minus1 (by assumption) ?_ | refine x_frac (by assumption) ?_ | refine x_inI ?_ | refine x_inIL ?_ | refine x_gLst rfl ?_ | refine x_addT (by assumption) ?_ | refine x_eqFF ?_))
theorem pure__law_kind {cs : List Nat} (hn : ExNums cs) : Pure (sp_kindE cs) (t__law_kind cs) N__law_kind := by
  rintro ds M E Q ⟨c, fs, rfl, hc, h⟩
  have n := hn c hc
  simp only [t__law_kind, startD, N__law_kind, List.map, List.length, List.replicate, Nat.reduceSub, Nat.reduceAdd, List.nil_append, List.cons_append]
  repeat (with_reducible first | case xr2 => skip | refine x_isaEc hc rfl ?_ | refine x_isaEt hc rfl ?_ | refine x_addM rfl rfl rfl ?_)
  intro p hp
  repeat (with_reducible case xr2 => skip)
  refine x_goBM Mem.set_same ?_
  repeat (with_reducible first | case xr2 => skip | refine x_isaEc hc rfl ?_)
  refine x_append Mem.set_same (by show 15 < sizeLine; rw [sizeLine_eq]; decide) ?_
  rw [Mem.set_set]
  repeat (with_reducible case xr2 => skip)
  dsimp only
  refine x_stillAt (p := p) rfl Mem.set_same rfl ?_
  rw [Mem.del_set hp]
  dsimp only [stt, MO.still]
  repeat (with_reducible first | case xr2 => skip | refine x_isaEc hc rfl ?_ | refine x_isaEt hc rfl ?_)
  refine x_goBML ?_
  repeat (with_reducible case xr2 => skip)
  refine x_count (bs := kindsE c) rfl 1 (count_kinds n) ?_ rfl
  repeat (with_reducible case xr2 => skip)
  refine x_goBML ?_
  repeat (with_reducible case xr2 => skip)
  refine x_index (bs := kindsE c) rfl (c - 23) (index_kinds n).1 (index_kinds n).2 ?_ rfl
  repeat (with_reducible case xr2 => skip)
  refine x_chainLt (b := ((c - 23 : Nat) : Int)) rfl ?_
  repeat (with_reducible case xr2 => skip)
  obtain ⟨⟨b1, b2, b3⟩, o1, o2, o3⟩ := bases_at n
  refine x_neB3 b1 b2 b3 ?_
  repeat (with_reducible case xr2 => skip)
  refine x_neB3 o1 o2 o3 ?_
  repeat (with_reducible case xr2 => skip)
  refine x_catS (by decide +kernel) ?_
  repeat (with_reducible case xr2 => skip)
  refine x_catS (by decide +kernel) ?_
  repeat (with_reducible case xr2 => skip)
  refine x_goBMS ?_
  repeat (with_reducible case xr2 => skip)
  refine ⟨by decide +kernel, Nat.le_of_ble_eq_true (by decide +kernel), ?_⟩
  repeat (with_reducible case xr2 => skip)
  refine ixL (d := .str (wordE c)) (atI_nat ?_) h
  have w := words_at n
  rw [List.getElem?_map]
  show ((Txt.split wordsT " ")[c - 23]?).map D.str = _
  rw [w]
  rfl
end TS
namespace TS
open PySem PySem.Spec PyProof.Rows L2
/-! ### facts about exceptions from the head's checks -/
section
variable {P : Program} {w : World} {K Kt : Fg} {mg : Str → Option Value} {base : Heap} {ca : Ca} {k kk c : Nat} {x f : Str} {B n i : String} {cs : List Nat} {lams : List LT} {h : Heap}
theorem exInit_ck {self vn qual : Str} {params : Arguments} {scope : Scope} {dvs : List V} {kws : List (Str × V)} {fd : FuncData} {p1 p2 p3 p4 : Pos} {C : Addr} (ck : ckExI K C f = true)
    (G : FunD K "__init__" qual params [.Assign [.Attribute (.Name self p1) f p2] (.Name vn p3) p4] scope dvs kws (He.ma K C "__init__") fd) (S : FnScope [self, vn] [self, vn] scope) (hb : Binds K fd [self, vn] [])
    (v1 : Vis scope self) (v2 : Vis scope vn) (d1 : (self == ("__debug__" : Str)) = false ∧ (self == ("__classdict__" : Str)) = false) (d2 : (vn == ("__debug__" : Str)) = false ∧ (vn == ("__classdict__" : Str)) = false)
    (hs : ∀ env : Env, env.scope = scope → swapsWith (.Name vn p3) (some (.Attribute (.Name self p1) f p2)) p4.line env = pure false) : ExInit K C (He.ma K C "__init__") f := by
  obtain ⟨c1, ck⟩ := He.ba ck
  obtain ⟨c2, c3⟩ := He.ba ck
  exact exInit_of (He.eqO_ok c1) (isFnT_ok c2) (He.eqO_ok c3) G S hb v1 v2 d1 d2 hs
theorem at_exc1 (hm : mg x = some (.ref (ca c))) (EB : ExB B n i (tailOf B)) (ck : ckEx1 K (ca c) (tailOf B) n f = true) (hi : ckExI K (ca c) f = true → ExInit K (ca c) (He.ma K (ca c) "__init__") f) : AtX P w K mg base fun X => Exc1 X ca x c f := by
  rintro X rfl rfl rfl rfl rfl
  obtain ⟨c1, c2⟩ := He.ba ck
  exact ⟨B, n, i, _, _, hm, EB, exK_of c1, hi c2⟩
theorem at_exc0 (hm : mg x = some (.ref (ca c))) (EB : ExB B n i (tailOf B)) (ck : ckEx0 K (ca c) (tailOf B) n = true) : AtX P w K mg base fun X => Exc0 X ca x c := by
  rintro X rfl rfl rfl rfl rfl
  obtain ⟨c1, c2⟩ := He.ba ck
  exact ⟨B, n, i, _, hm, EB, exK_of c1, c2⟩
theorem kitAny_all {t : Value} {T : D → Bool} : ∀ {l : List D} {vs : List Value}, clsVs ca l = some vs → (∀ d ∈ l, ∀ v, clsV ca d = some v → PySem.W.kitOne K t v = some (T d)) → PySem.W.kitAny K t vs = some (l.any T)
  | [], _, h, _ => by cases h; rfl
  | d :: l, _, h, q => by
    unfold clsVs at h
    cases e1 : clsV ca d with
    | none => rw [e1] at h; cases h
    | some v =>
      cases e2 : clsVs ca l with
      | none => rw [e1, e2] at h; cases h
      | some ws =>
        rw [e1, e2] at h
        cases h
        have z1 := q d (List.mem_cons_self ..) v e1
        have z2 := kitAny_all (T := T) e2 fun d' hd v' e => q d' (List.mem_cons_of_mem _ hd) v' e
        show PySem.W.kitAny K t (v :: ws) = _
        unfold PySem.W.kitAny
        rw [z1]
        cases e : T d with
        | true => simp [e]
        | false => simp only [List.any_cons, e, Bool.false_or]; exact z2
theorem clsVs_some : ∀ {l : List D}, l.all askE = true → ∃ vs, clsVs ca l = some vs
  | [], _ => ⟨_, rfl⟩
  | d :: l, h => by
    obtain ⟨h1, h2⟩ := He.ba (show (askE d && l.all askE) = true from h)
    obtain ⟨vs, e⟩ := clsVs_some h2
    unfold clsVs
    rw [e]
    cases d <;> first | exact ⟨_, rfl⟩ | cases h1
theorem ask_one (ck : askK K ca.f c = true) {d : D} (h : askE d = true) : ∃ v, clsV ca d = some v ∧ PySem.W.kitOne K (.ref (ca c)) v = some (subE c d) := by
  obtain ⟨_, ck⟩ := He.ba ck
  obtain ⟨c2, c3⟩ := He.ba ck
  cases d with
  | cls k =>
    refine ⟨_, rfl, ?_⟩
    obtain ⟨h1, h2⟩ := He.ba (show (Nat.ble 20 k && Nat.ble k 46) = true from h)
    have h1 := Nat.le_of_ble_eq_true h1
    have h2 := Nat.le_of_ble_eq_true h2
    have z := of_decide_eq_true (List.all_eq_true.mp c2 (k - 20) (List.mem_range.mpr (by omega)))
    have e : 20 + (k - 20) = k := by omega
    rw [e] at z
    exact z
  | ty n =>
    refine ⟨_, rfl, ?_⟩
    have h : (n == "ValueError" || n == "LookupError" || n == "ArithmeticError") = true := h
    refine of_decide_eq_true (List.all_eq_true.mp c3 n ?_)
    simp only [Bool.or_eq_true, beq_iff_eq] at h
    rcases h with (rfl | rfl) | rfl <;> simp
  | _ => cases h
theorem at_isaE (ck : ckIsaE K ca.f cs = true) : AtX P w K mg base fun X => IsaEOk X.K ca (isaE cs) := by
  rintro X rfl rfl rfl rfl rfl c y b h
  unfold isaE at h
  by_cases hc : c ∈ cs
  · rw [if_pos hc] at h
    have a := List.all_eq_true.mp ck c hc
    refine ⟨exIs_of (He.ba a).1, ?_⟩
    have one : askE y = true → some (subE c y) = some b → ∃ cv, clsV ca y = some cv ∧ PySem.W.kitOne X.K (.ref (ca c)) cv = some b := fun h1 h2 => by rw [← h2]; exact ask_one a h1
    cases y with
    | tup l =>
      simp only at h
      by_cases hl : l.all askE = true
      · rw [if_pos hl] at h
        cases h
        obtain ⟨vs, e⟩ := clsVs_some (ca := ca) hl
        exact ⟨vs, e, kitAny_all e fun d hd v ev => by obtain ⟨v', e', q⟩ := ask_one a (List.all_eq_true.mp hl d hd); rw [ev] at e'; cases e'; exact q⟩
      · rw [if_neg hl] at h; cases h
    | cls k =>
      simp only at h
      by_cases hl : askE (.cls k) = true
      · rw [if_pos hl] at h; exact one hl h
      · rw [if_neg hl] at h; cases h
    | ty k =>
      simp only at h
      by_cases hl : askE (.ty k) = true
      · rw [if_pos hl] at h; exact one hl h
      · rw [if_neg hl] at h; cases h
    | _ => simp [askE] at h
  · rw [if_neg hc] at h; cases h
theorem at_fldE (ck : ckFldE K ca.f (fldCs cs f) f = true) : AtX P w K mg base fun X => FldEOk X ca (fldCs cs f) f := by
  rintro X rfl rfl rfl rfl rfl c hc
  obtain ⟨a, b⟩ := He.ba (List.all_eq_true.mp ck c hc)
  exact ⟨exIs_of a, of_decide_eq_true b⟩
theorem at_fnH {fa : Addr} {sp : DSp} (hm : mg x = some (.ref fa)) (kp : PySem.W.keepIn K (.ref fa) = true) (G : FnDH P w K mg base ca k fa sp) (l : k ≤ kk) : AtX P w K mg base fun X => FnHn X ca kk x sp := by
  rintro X rfl rfl rfl rfl rfl
  obtain ⟨fd, ps, F, hb⟩ := G.ex
  exact ⟨fa, hm, kp, fd, ps, F.mono l, hb⟩
theorem hit_of (ck : ckHit K ca.f cs = true) : ∀ c ∈ cs, PySem.W.exmAny K (.ref (ca c)) [.ref (ca 20), .ref (ca 21), .ref (ca 22)] = some true := fun c hc => of_decide_eq_true (List.all_eq_true.mp ck c hc)
theorem at_lam (hl : okLams lams K Kt = true) (hT : ca.T = lamT lams K) (ht : ∀ p ∈ lamCs lams K, LamX.TabB base mg p.1 p.2) (i : Nat) {l : LT} (e : lams[i]? = some l := by rfl) : AtX P w K mg base fun X => LamOk X ca (lamC K l) (lamP K l) l.2 := by
  rintro X rfl rfl rfl rfl rfl
  have m := List.mem_of_getElem? e
  refine ⟨ht (lamC X.K l, lamP X.K l) (List.mem_map.mpr ⟨l, m, rfl⟩), ?_, fun p hp q => ?_⟩
  · rw [hT]; exact List.mem_map.mpr ⟨l, m, rfl⟩
  · rw [hT] at hp
    obtain ⟨l', m', rfl⟩ := List.mem_map.mp hp
    rw [noDupA_at (f := fun l => lamP X.K l) (He.ba hl).2 m' m q]
/-- the law's end where defs make lambdas -/
theorem law_spT {sp : DSp} (h : ∀ (ns : List Int) (M : Mem), ns.length ≤ 63 → sp [.lst (ns.map D.int)] M (fun _ _ _ => False) fun d _ => d = .bl true) (hT : ca.T = lamT lams K) (H F : Hp) (a : Addr) (ns : List Int) (hl : ns.length ≤ 63) (ht : ∀ p ∈ lamCs lams K, H p.2 = some (.tbl #[])) (hF : Ext F H) (hR : ∀ b o, F b = some o → Rg o)
    (hS : SqL K F a (ns.map V.int)) : toSp K ca sp [.ref a] H (fun v _ => v = .bl true) fun _ _ _ => False := by
  refine law_sp h H F a ns hl hF hR hS fun p hp => ?_
  rw [hT] at hp
  obtain ⟨l, m, rfl⟩ := List.mem_map.mp hp
  exact ⟨#[], ht (lamC K l, lamP K l) (List.mem_map.mpr ⟨l, m, rfl⟩), by first | trivial | constructor | decide, fun pos cv z => by cases z⟩
end
end TS
namespace TS
open PySem PySem.Spec PyProof.Rows L2
/-! ### defs with *rest -/
structure FnRo (P : Program) (w : World) (K : Fg) (mg : Str → Option Value) (base : Heap) (k : Nat) (f : Addr) (sp : Sp) : Prop where
  run : ∀ (A : Around) (outer : List Env) (s : Shared) (H : Hp) (us : List Value) (vs : List V) (Q : VK) (E : XK), Room k A → Env0 P w K mg base A outer s H → Vals vs us → sp vs H Q E → codeAny (model P w) A (.call (.ref f) ⟨us, []⟩) (CR (L2.CX P w) outer P w H s Q E) s
section
variable {P : Program} {w : World} {K : Fg} {mg : Str → Option Value} {base : Heap} {ca : Ca} {k : Nat} {f : Addr} {fd : FuncData} {N ps : List Str} {pv : Str}
theorem repL_split {F : Hp} : ∀ {l m : List D} {vs : List V}, RepL K ca F (l ++ m) vs → ∃ v1 v2, vs = v1 ++ v2 ∧ RepL K ca F l v1 ∧ RepL K ca F m v2
  | [], m, vs, h => ⟨[], vs, rfl, rfl, h⟩
  | d :: l, m, _, ⟨v, r, e, h, t⟩ => by
    subst e
    obtain ⟨v1, v2, rfl, h1, h2⟩ := repL_split t
    exact ⟨v :: v1, v2, rfl, ⟨v, v1, rfl, h, h1⟩, h2⟩
theorem bnd_star {us : List Value} {vs : List V} {A : Around} {outer : List Env} {s : Shared} {H : Hp} {E : XK} {ws rest : List V} (st : Env0 P w K mg base A outer s H) (hv : Vals vs us) (ev : vs = ws ++ rest) (hw : ws.length = ps.length) (hr : rest.length ≤ sizeLine)
    (hb : ∀ (us rest : List Value), us.length = ps.length → bindArgs fd ⟨us ++ rest, []⟩ = (do let t ← newTuple rest; pure (ps.zip us ++ [(pv, t)]))) :
    StX.Bnd (L2.CX P w) P w K mg base fd ⟨us, []⟩ (ps ++ [pv]) A outer s H E (fun zs H2 => H s.heap.objs.size = none ∧ zs = ws ++ [.ref s.heap.objs.size] ∧ H2 = upd H s.heap.objs.size (.tup rest)) := by
  intro A' Ex Q hq
  subst ev
  obtain ⟨u1, u2, rfl, hv1, hv2⟩ := StX.vals_split hv
  have hl : u1.length = ps.length := by rw [← hv1.length]; exact hw
  rw [hb u1 u2 hl]
  have nn : H s.heap.objs.size = none := st.hok.fresh (Nat.le_refl _)
  have lu : u2.length ≤ sizeLine := by rw [← hv2.length]; exact hr
  have ob : ObjOk P w (upd H s.heap.objs.size (.tup rest)) (s.heap.push { cls := Value.type "tuple", data := Data.seq u2.toArray }) s.heap.objs.size (.tup rest) := by
    exact ⟨hr, u2, hv2, IsTup.new _ _⟩
  refine wpAny_bind (wpAny_newTuple (wpAny_pure ?_) lu)
  have un : Un (frs outer) [] H (upd H s.heap.objs.size (.tup rest)) s.heap (s.heap.push { cls := Value.type "tuple", data := Data.seq u2.toArray }) := StX.un_laid nn
  have e : ps.zip u1 ++ [(pv, Value.ref s.heap.objs.size)] = (ps ++ [pv]).zip (u1 ++ [Value.ref s.heap.objs.size]) := by
    rw [List.zip_append hl.symm]
    rfl
  rw [e]
  refine hq _ (upd H s.heap.objs.size (.tup rest)) (ws ++ [.ref s.heap.objs.size]) _ (StX.env0_laid st ob) un rfl (fun e s' z => StX.cxUp outer s H { heap := s.heap.push { cls := Value.type "tuple", data := Data.seq u2.toArray }, gens := s.gens, drawn := s.drawn, toks := s.toks, os := s.os } (upd H s.heap.objs.size (.tup rest)) E e s' un (fun b o hbo => Heap.get?_push_of_some _ hbo) rfl z) (hv1.append (show Vals [V.ref s.heap.objs.size] [Value.ref s.heap.objs.size] from .cons rfl .nil)) (by rw [List.length_append, List.length_append, hw]; rfl) ⟨nn, rfl, rfl⟩
theorem fnRo_star {x qual : Str} {params : Arguments} {body : List Stmt} {scope : Scope} {kws : List (Str × V)} {sp : DSp} {t : DTS} (G : FunD K x qual params body scope [] kws f fd) (S : FnScope N ((ps ++ [pv])) scope)
    (hbd : ∀ (kV doc pm : Value) (an : Option Addr) (cdv ct : Value) (us rest : List Value), us.length = ps.length → bindArgs (PySem.W.fnOf x qual params body scope .none kV doc pm an cdv ct) ⟨us ++ rest, []⟩ = (do let t ← newTuple rest; pure (ps.zip us ++ [(pv, t)])))
    (len : ∀ ds M E Q, sp ds M E Q → ds.length = (ps ++ [pv]).length)
    (hb : ∀ (cdv : Value) (A : Around) (outer : List Env) (s : Shared) (H : Hp) (E : XK), Room k (A.deeper (envOfC qual scope s.heap.objs.size f cdv)) → DPSs (cxOf (L2.CX P w) P w K mg base N qual scope f cdv A outer s H E) ca (WB E) body t)
    (hp : Pure sp t N) : FnRo P w K mg base (k + 1) f (toSp K ca fun ds M E Q => ∃ ws rest, ds = ws ++ rest ∧ ws.length = ps.length ∧ rest.length ≤ sizeLine ∧ sp (ws ++ [.tup rest]) M E Q) := by
  refine ⟨fun A outer s H us vs Q E room st hv prom => ?_⟩
  obtain ⟨oc, od, dV, kV, doc, pm, an, cdv, ct, osl, rfl, look, code, hd, _⟩ := G.ex
  rcases hd with ⟨_, rfl⟩ | ⟨hd, _⟩
  · obtain ⟨U, F, M, ds, EX, QD, rl, hr, ⟨ws, rest, rfl, lw, lr, h⟩, c, xc⟩ := prom
    obtain ⟨vw, vr, rfl, rw', rr⟩ := repL_split rl
    have lvw : vw.length = ps.length := by rw [rw'.length]; exact lw
    have lvr : vr.length ≤ sizeLine := by rw [rr.length]; exact lr
    refine StX.run_bnd (N := N) (k := k) look code S room.r st (bnd_star st hv rfl lvw lvr (hbd kV doc pm an cdv ct)) fun s2 H2 zs hG _ => ?_
    obtain ⟨nn, rfl, rfl⟩ := hG
    refine ⟨_, hb cdv A outer s2 _ E (room.deeper _), ?_⟩
    obtain ⟨g2, e2⟩ := hr.newF nn (.tup vr)
    have hN : (vw ++ [V.ref s.heap.objs.size]).length ≤ N.length := by
      have e1 : (N.take (ps ++ [pv]).length).length = (ps ++ [pv]).length := by rw [S.pre]
      rw [List.length_take] at e1
      rw [List.length_append, lvw]
      rw [List.length_append] at e1
      simp only [List.length_cons, List.length_nil] at e1 ⊢
      omega
    have rl2 : RepL K ca (upd F s.heap.objs.size (.tup vr)) (ws ++ [.tup rest]) (vw ++ [V.ref s.heap.objs.size]) := (rw'.mono e2).append ⟨_, _, rfl, ⟨_, vr, rfl, .inl (.inl upd_same), rr.mono e2⟩, rfl⟩
    refine ⟨U, upd F s.heap.objs.size (.tup vr), M, startD N.length (ws ++ [D.tup rest]), { nx := fun _ M' => QD .non M', rt := QD, ex := fun c fs _ M' => EX c fs M' }, ⟨EnvR.start rl2 hN, g2, fun c' fs δ' M' F' σ' H' od he e ev hr2 ho => xc c' fs M' F' H' od he (e2.trans e) hr2 ho⟩, hp _ _ _ _ h, ?_⟩
    exact ⟨fun δ' M' F' σ' H' q e ev hr2 => c _ _ _ _ _ q (e2.trans e) rfl hr2, c.up e2, fun _ _ _ _ _ q => q.elim, fun _ _ _ _ _ q => q.elim⟩
  · exact absurd rfl hd
end
/-! ### classes whose __init__ has *rest -/
structure MkrR (X : Cx) (ca : Ca) (k : Nat) (c : Nat) (x : Str) (spC : DSp) : Prop where
  ex : ∃ (f : Addr) (spR : DSp), X.mg x = some (.ref (ca c)) ∧ Mk X.K (ca c) f ∧ FnRo X.prog X.w X.K X.mg X.base k f (toSp X.K ca spR) ∧
    ∀ ds M E Q, spC ds M E Q → ∀ x, M x = none → spR (.ref x :: ds) (M.set x (.ins c [])) (fun c' fs M' => E c' fs (M'.del x)) fun v M2 => v = .non ∧ ∃ fs, M2 x = some (.ins c fs) ∧ Q (.obj c fs) (M2.del x)
section
variable {X : Cx} {ca : Ca} {W : WX} {k j c : Nat} {e : Expr} {es : List Expr} {te : DT} {t : DTA}
theorem run_mkR {x : Str} {spC : DSp} {pins : List (Addr × Obj)} {s : Shared} {σ : L2.St} {U F H : Hp} {M : Mem} {δ : DEnv} {E : EX} {Q : QD} {R : VK} {ds : List D} {vs : List V} {ws : List Value} (C : Ctx X j W) (G : MkrR X ca k c x spC) (hk : k + 1 ≤ j) (I : Inv X pins σ H s) (S : Stt X.K ca U W F M δ E σ H)
    (rv : Vals vs ws) (rl : RepL X.K ca F ds vs) (h : spC ds M (fun c fs M' => E c fs δ M') Q) (cl : Cl X.K ca U F Q R) : wpAny (model X.prog X.w) X.A (call (.ref (ca c)) ws []) (EP X pins σ R) X.xe s := by
  obtain ⟨f, spR, hm, mk, FF, hs⟩ := G.ex
  have hs := hs _ _ _ _ h
  have n1 : H (s.heap.objs.size + 1) = none := I.hok.fresh (Nat.le_succ _)
  have n2 : H s.heap.objs.size = none := I.hok.fresh (Nat.le_refl _)
  have ne : s.heap.objs.size ≠ s.heap.objs.size + 1 := Nat.ne_of_lt (Nat.lt_succ_self _)
  have I2 := Inv.made (C := ca c) I
  have g1 : HR X.K ca U F M (upd H s.heap.objs.size (.own (s.heap.objs.size + 1))) := S.hr.grow (Ext.upd n2)
  have n3 : upd H s.heap.objs.size (.own (s.heap.objs.size + 1)) (s.heap.objs.size + 1) = none := by rw [upd_ne (Ne.symm ne)]; exact n1
  have g2 := g1.newM (m := .ins c []) n3 (.ins (ca c) s.heap.objs.size []) ⟨s.heap.objs.size, [], upd_same, rfl⟩
  have hq := hs (s.heap.objs.size + 1) (S.hr.no n1).2.2
  have rr : RepL X.K ca F (.ref (s.heap.objs.size + 1) :: ds) (V.ref (s.heap.objs.size + 1) :: vs) := ⟨_, _, rfl, (show V.ref (s.heap.objs.size + 1) = .ref (s.heap.objs.size + 1) from rfl), rl⟩
  have prom : toSp X.K ca spR (V.ref (s.heap.objs.size + 1) :: vs) (upd (upd H s.heap.objs.size (.own (s.heap.objs.size + 1))) (s.heap.objs.size + 1) (.ins (ca c) s.heap.objs.size []))
      (fun v H2 => v = .non ∧ R (.ref (s.heap.objs.size + 1)) H2) (fun cls od H' => W cls od σ H') :=
    ⟨U, F, M.set (s.heap.objs.size + 1) (.ins c []), .ref (s.heap.objs.size + 1) :: ds, _, _, rr, g2, hq, fun d M' F' v H' q e r g => mkD_go q e r g cl, fun c' fs M' F' H' od he e g ho => S.xc c' fs δ _ F' σ H' od he e (S.env.mono e) (g.drop _) ho⟩
  have ran := FF.run _ X.stack _ _ (Value.ref (s.heap.objs.size + 1) :: ws) (V.ref (s.heap.objs.size + 1) :: vs) _ _ ((C.room.mono hk).make (ca c) ws []) (I2.env0.make (ca c) ws []) (.cons rfl rv) prom
  refine wpAny_call (make_map (f := f) I.kIn mk.makes mk.init (beq_iff_eq.mp mk.fn) (codeAny_mono ran fun r s' out => ?_))
  cases r with
  | error e => exact C.tk e s' (XE.of_call I2 (fun cls d H' z => z) out)
  | ok fl =>
    cases fl with
    | ret u =>
      obtain ⟨v, H', I3, rv', ev, q3⟩ := I2.after out
      subst ev
      exact ⟨rv', ⟨V.ref (s.heap.objs.size + 1), H', I3, rfl, q3⟩⟩
    | next => exact out.elim
    | brk => exact out.elim
    | cont => exact out.elim
theorem de_makeR {x : Str} {spC : DSp} {p pos : Pos} (C : Ctx X j W) (G : MkrR X ca k c x spC) (ha : DPA X ca W (e :: es) t) (hk : k + 1 ≤ j := by decide) (hg : Gl X x := by rfl) (hdb : (x == ("__debug__" : Str)) = false := by decide) (he : starEach (e :: es) X.env = (false, eval e X.env) :: starEach es X.env := by rfl) (hpl : (backTo pos (starEach es X.env)).any (·.1) = false := by rfl) :
    DE X ca W (.Call (.Name x p) (e :: es) [] pos) (dCB spC t) := by
  refine ⟨fun pins s σ H R I ⟨U, F, M, δ, E, Q, S, h, c'⟩ => ?_⟩
  obtain ⟨f, spR, hm, mk, _⟩ := G.ex
  refine wpAny_Call_Name_kw (ld_glob I hg hm ?_ hdb)
  refine PySem.W.callWith_K (h₀ := X.base) I.ok.mod.kin mk.kp (thn (ha.run pos pins s σ H (fun vs H1 => ∃ F1 M1 ds, Stt X.K ca U W F1 M1 δ E σ H1 ∧ RepL X.K ca F1 ds vs ∧ spC ds M1 (fun c fs M' => E c fs δ M') Q ∧ Cl X.K ca U F1 Q R) I ?_) fun us s1 ⟨vs, H1, I1, r, F1, M1, ds, S1, rl, hs, c1⟩ => ⟨I1.kIn, ?_⟩) he hpl
  · exact liftA_of S h fun ds M1 F1 vs H1 h1 e1 r1 g1 => ⟨F1, M1, ds, S.up e1 g1, r1, h1, c'.up e1⟩
  · exact run_mkR C G hk I1 S1 r rl hs c1
def dCBs (spC : DSp) (te : DT) : DT := fun δ M E Q => te δ M E fun d M1 => match d with
  | .tup l => spC l M1 (fun c fs M' => E c fs δ M') Q
  | .lst l => spC l M1 (fun c fs M' => E c fs δ M') Q
  | _ => False
theorem de_makeRS {x : Str} {spC : DSp} {p pos sp_ : Pos} (C : Ctx X j W) (G : MkrR X ca k c x spC) (he : DE X ca W e te) (hk : k + 1 ≤ j := by decide) (hg : Gl X x := by rfl) (hdb : (x == ("__debug__" : Str)) = false := by decide)
    (hst : ∃ q, backTo pos (starEach [.Starred e sp_] X.env) = [(true, do let v ← eval e X.env; standAt q; pure v)] := by exact ⟨_, rfl⟩) :
    DE X ca W (.Call (.Name x p) [.Starred e sp_] [] pos) (dCBs spC te) := by
  refine ⟨fun pins s σ H R I ⟨U, F, M, δ, E, Q, S, h, c'⟩ => ?_⟩
  obtain ⟨f, spR, hm, mk, _⟩ := G.ex
  obtain ⟨q, hst⟩ := hst
  refine wpAny_Call_Name_kw (ld_glob I hg hm ?_ hdb)
  show wpAny _ _ (callWith pos (.ref (ca c)) [] (backTo pos (starEach [.Starred e sp_] X.env)) []) _ _ _
  rw [hst]
  refine PySem.W.ks_call (P := fun h => X.K.In h) rfl (PySem.W.keeps_K mk.kp) (PySem.W.ks_lone (thn (he.run pins s σ H (fun v H1 => ∃ F1 M1 d l, Stt X.K ca U W F1 M1 δ E σ H1 ∧ Rep X.K ca F1 d v ∧ (d = .tup l ∨ d = .lst l) ∧ spC l M1 (fun c fs M' => E c fs δ M') Q ∧ Cl X.K ca U F1 Q R) I ?_) fun u s1 ⟨v, H1, I1, rv, F1, M1, d, l, S1, rd, hd, hs, c1⟩ => ?_))
  · refine lift_of S h fun d M1 F1 v H1 h1 e1 r1 g1 => ?_
    cases d with
    | tup l => exact ⟨F1, M1, _, l, S.up e1 g1, r1, .inl rfl, h1, c'.up e1⟩
    | lst l => exact ⟨F1, M1, _, l, S.up e1 g1, r1, .inr rfl, h1, c'.up e1⟩
    | _ => exact h1.elim
  · have sq : ∃ a vs, v = .ref a ∧ (SqT X.K H1 a vs ∨ SqL X.K H1 a vs) ∧ RepL X.K ca F1 l vs := by
      rcases hd with rfl | rfl
      · obtain ⟨a, vs, ev, hsq, rl⟩ := rd
        exact ⟨a, vs, ev, .inl (hsq.ext S1.hr.sub), rl⟩
      · obtain ⟨a, vs, ev, hsq, rl⟩ := rd
        exact ⟨a, vs, ev, .inr (hsq.ext S1.hr.sub), rl⟩
    obtain ⟨a, vs, rfl, hsq, rl⟩ := sq
    obtain rfl : u = Value.ref a := rv
    refine StX.star_any I1 hsq fun us s2 I2 rvs => ⟨I2.kIn, ?_⟩
    exact run_mkR C G hk I2 S1 rvs rl hs c1
end
end TS
namespace TS
open PySem PySem.Spec PyProof.Rows L2
/-! ### enumerate of a tuple -/
theorem enumT_made (t : Addr) (xs : Array Value) :
    Meets (Builtin.«enumerate.__new__» ⟨[.type "enumerate", .ref t], []⟩) (fun _ R s => s.heap.IsTuple t xs ∧
      R (.ok (.ret (.ref (s.heap.push { cls := .type "tuple_iterator", data := .fields #[.ref t, .int 0 0] }).objs.size)))
        { s with heap := (s.heap.push { cls := .type "tuple_iterator", data := .fields #[.ref t, .int 0 0] }).push { cls := .type "enumerate", data := .fields #[.none, .bool false, .ref s.heap.objs.size, rawInt 0, .none, .none] } }) :=
  .of_wp fun prog w A R s h => by
    obtain ⟨hp, g, d, tk, os⟩ := s
    obtain ⟨hT, hR⟩ := h
    have hsub := sub_enumerate
    obtain ⟨⟨c, dct, dt, sl⟩, hg, hc, n, hd⟩ := id hT
    replace hc : c = .type "tuple" := hc
    replace hd : dt = .seq xs n := hd
    subst hc hd
    have iT : Heap.IsTuple (Shared.heap ⟨hp, g, d, tk, os⟩) t xs := hT
    wp_walk using wpAny_loadPart' hg, wpAny_pyIter_tuple iT
    refine wpAny_stack_any fun st => wpAny_pure ?_
    split
    · rename_i c _ _ _ _ _
      cases (c == Value.type "enumerate") <;> (wp_walk using wpAny_loadPart' hg, wpAny_pyIter_tuple iT; exact ⟨_, rfl, hR⟩)
    · wp_walk using wpAny_loadPart' hg, wpAny_pyIter_tuple iT
      exact ⟨_, rfl, hR⟩
section
variable {prog : Program} {w : World} {A : Around} {E : Value → Shared → Prop} {s : Shared}
theorem enumT_call {t : Addr} {xs : Array Value} {Q : Value → Shared → Prop} (hT : s.heap.IsTuple t xs)
    (k : ∀ h', IsEnum h' (s.heap.objs.size + 1) s.heap.objs.size 0 .none → h'.IsTupleIter s.heap.objs.size t 0 → (∀ b o, s.heap.get? b = some o → h'.get? b = some o) → Q (.ref (s.heap.objs.size + 1)) { s with heap := h' }) :
    wpAny (model prog w) A (call (.type "enumerate") [.ref t]) Q E s := by
  refine callType_new F.called_enumerate (by decide) (F.typeCall_enumerate_1 _) (F.newCall_enumerate_1 _) (fun ob => F.args_object_init_2 ob _) F.entry_enumerate_new (enumT_made t xs) ⟨hT, ?_⟩
  generalize hh : s.heap.push { cls := .type "tuple_iterator", data := .fields #[.ref t, .int 0 0] } = h1
  have hz : h1.objs.size = s.heap.objs.size + 1 := by rw [← hh]; exact Heap.size_push ..
  have g0 : h1.get? s.heap.objs.size = some { cls := .type "tuple_iterator", data := .fields #[.ref t, .int 0 0] } := by rw [← hh]; exact Heap.get?_push_size _ rfl
  have old : ∀ b o, s.heap.get? b = some o → h1.get? b = some o := fun b o q => by rw [← hh]; exact Heap.get?_push_of_some _ q
  have g1 := Heap.get?_push_size h1 (o := { cls := .type "enumerate", data := .fields #[.none, .bool false, .ref s.heap.objs.size, rawInt 0, .none, .none] }) rfl
  rw [hz] at g1 ⊢
  show _ ∧ _
  refine ⟨⟨_, g1, rfl⟩, k _ g1 ⟨_, Heap.get?_push_of_some _ g0, rfl, rfl⟩ fun b o q => Heap.get?_push_of_some _ (old b o q)⟩
end
/-- the tuple at a, turn by turn, each item in a new pair -/
def ItEn (K : PySem.W.Frag) (a : Addr) : It where
  go := fun i H => ∃ (xs : List V) (x : V), SqT K H a xs ∧ xs[i]? = some x
  yld := fun i H v H' => ∃ T x, (v = .ref T ∧ H T = none) ∧ H' = upd H T (.tup [.int (i : Nat), x]) ∧ ∀ xs, SqT K H a xs → xs[i]? = some x
  stop := fun i H => ∃ xs : List V, SqT K H a xs ∧ xs.length = i
theorem enumT_turn {P : Program} {w : World} {K : PySem.W.Frag} {elts : List Expr} {kk : Nat} {tpos : Pos} (a e it : Addr) (ha : a ≠ it) (hae : e ≠ a) :
    Turn P w K (.Tuple elts kk tpos) (ItEn K a) [e, it] e (fun i h => (∃ old, IsEnum h e it ((i : Nat) : Int) old) ∧ h.IsTupleIter it a i ∧ e ≠ it) where
  mem := List.mem_cons_self ..
  obj := fun i h ⟨⟨old, he⟩, ⟨o, ho, hc, hd⟩, _⟩ b hb => by
    rcases List.mem_cons.mp hb with rfl | hb
    · exact ⟨_, he, fun v q => nomatch q⟩
    · rw [List.mem_singleton.mp hb]
      exact ⟨o, ho, fun v q => by rw [hd] at q; cases q⟩
  keep := fun i h h' ⟨⟨old, he⟩, hi, hne⟩ k => ⟨⟨old, k e (List.mem_cons_self ..) _ he⟩, hi.at fun o q => k it (List.mem_cons_of_mem _ (List.mem_cons_self ..)) o q, hne⟩
  item := by
    intro X hP hw hK hc i pins s σ H E I hf ⟨⟨old, he⟩, hit, hne⟩ ⟨xs, x, hq, hx⟩
    subst hP hw hK
    obtain ⟨its, rv, p, hz⟩ := I.tuple hq
    obtain ⟨u, hu, ru⟩ := rv.get hx
    have hel : e < s.heap.objs.size := Heap.lt_size he
    have hil : it < s.heap.objs.size := by
      obtain ⟨_, q, _⟩ := hit
      exact Heap.lt_size q
    have hlt : i < its.toArray.size := by
      rw [List.size_toArray]
      exact (List.getElem?_eq_some_iff.mp hu).1
    have hh : X.A.in1.handled = none := I.ok.hd hc
    refine wpAny_pyNext_enum_itemD (Draws.tuple hh it a ha its.toArray) he ⟨hit, p⟩ hlt hne (fun z => by
      rcases List.mem_cons.mp z with z | z
      · exact hne z
      · exact hae (List.mem_singleton.mp z)) fun y h' tk hy ho st' hT hsz hk => ?_
    have ey : y = u := by
      have hy : its.toArray[i]? = some y := hy
      have hu' : its.toArray[i]? = some u := by simpa using hu
      rw [hu'] at hy
      exact (Option.some.inj hy).symm
    subst ey
    refine ⟨_, rfl, wpAny_letOwnedTupleGo_enum (s := { s with heap := h', toks := tk + 1 }) ho fun h'' he' sb => ?_⟩
    have hT2 : h''.get? s.heap.objs.size = some { cls := .type "tuple", data := .seq #[.int i tk, y] } := (sb.2 _ (Nat.ne_of_gt hel)).trans hT
    have new : ObjOk X.prog X.w (upd H s.heap.objs.size (.tup [.int (i : Nat), x])) h'' s.heap.objs.size (.tup [.int (i : Nat), x]) := ⟨(by show 2 ≤ sizeLine; decide), [.int i tk, y], .cons ⟨_, rfl⟩ (.cons ru .nil), ⟨_, hT2, rfl, _, rfl⟩⟩
    have I1 : Inv X pins σ (upd H s.heap.objs.size (.tup [.int (i : Nat), x])) { s with heap := h'', toks := tk + 1 } := by
      refine I.turnedNew (ch := [e, it]) (fun b ob hb q => ?_) hf (Nat.le_refl _) new
      have hbe : b ≠ e := fun z => hb (by rw [z]; exact List.mem_cons_self ..)
      have hbi : b ≠ it := fun z => hb (by rw [z]; exact List.mem_cons_of_mem _ (List.mem_cons_self ..))
      exact (sb.2 b hbe).trans (hk b ob hbe hbi q)
    refine ⟨.ref s.heap.objs.size, _, I1, rfl, ⟨_, x, ⟨rfl, I.hok.fresh (Nat.le_refl _)⟩, rfl, fun ys hy => by rw [I.tuple_inj hy hq]; exact hx⟩, ⟨⟨y, ?_⟩, st'.1.at fun o q => (sb.2 it (Ne.symm hne)).trans q, hne⟩, fun b hb => ?_⟩
    · rw [show ((i + 1 : Nat) : Int) = (i : Int) + 1 by omega]
      exact he'
    · have hb' : b < s.heap.objs.size := by
        rcases List.mem_cons.mp hb with rfl | hb
        · exact hel
        · rw [List.mem_singleton.mp hb]; exact hil
      rw [upd_ne (Nat.ne_of_lt hb')]
      exact (hf b hb).1
  done := by
    intro X hP hw hK hc i pins s σ H E I hf ⟨⟨old, he⟩, hit, hne⟩ ⟨xs, hq, hx⟩
    subst hP hw hK
    obtain ⟨its, rv, p, hz⟩ := I.tuple hq
    obtain ⟨f0, f1, f2, f3, f4, f5⟩ := hf it (List.mem_cons_of_mem _ (List.mem_cons_self ..))
    have hl := rv.length
    have hh : X.A.in1.handled = none := I.ok.hd hc
    have hi : i = its.toArray.size := by rw [List.size_toArray]; omega
    subst hi
    exact wpAny_pyNext_enum_endD (Draws.tuple hh it a ha its.toArray) he ⟨hit, p⟩ fun h' eb => ⟨rfl, I.turned (t' := s.toks) (fun b o hb q => eb b o hb q) f0 f1 f3 f4 f5⟩
  self := fun A i s Q E ⟨⟨_, he⟩, _⟩ h => wpAny_pyIter_enum he h

section
variable {X : Cx} {ca : Ca} {W : WX} {pos : Pos} {tg : Expr}
def iEnumT (K : PySem.W.Frag) (ta : TA) : TI := fun σ H R => ta σ H fun vs H1 => ∃ a xs, vs = [.ref a] ∧ SqT K H1 a xs ∧ R (ItEn K a) H1
theorem pi_enumT {e : Expr} {ta : TA} {p tpos : Pos} {elts : List Expr} {kk : Nat} (hg : Gl X "enumerate") (hm : X.mg "enumerate" = none) (ha : PA X [e] ta) (hs : starEach [e] X.env = [(false, eval e X.env)] := by rfl) :
    PI X (.Tuple elts kk tpos) (.Call (.Name "enumerate" p) [e] [] pos) (iEnumT X.K ta) := by
  refine ⟨fun pins s σ H R I h => Call_ (ld_blt I hg hm boot_enumerate (PyProof.Rows.callWith_type1 (thn (ha.run pos pins s σ H _ I h) fun us s1 ⟨vs, H1, I1, r1, a, xs, ex, hq, q⟩ => ?_) hs rfl))⟩
  subst ex
  cases r1 with
  | cons r rr =>
    cases rr
    cases r
    obtain ⟨its, rv, p', hz⟩ := I1.tuple hq
    have pT : s1.heap.IsTuple a its.toArray := p'
    have hal : a < s1.heap.objs.size := by
      obtain ⟨o, ho, _⟩ := id pT
      exact Heap.lt_size ho
    refine enumT_call pT fun h' he hit hk => wpAny_pyIter_enum he ?_
    have I2 : Inv X pins σ H1 { s1 with heap := h' } := I1.kept (t' := s1.toks) hk
    refine ⟨s1.heap.objs.size + 1, [s1.heap.objs.size + 1, s1.heap.objs.size], _, _, H1, rfl, I2, enumT_turn a (s1.heap.objs.size + 1) s1.heap.objs.size (Nat.ne_of_lt hal) (Nat.ne_of_gt (Nat.lt_succ_of_lt hal)), ⟨⟨.none, he⟩, hit, Nat.succ_ne_self _⟩, fun b hb => ?_, q⟩
    have hle : s1.heap.objs.size ≤ b := by
      rcases List.mem_cons.mp hb with rfl | hb
      · exact Nat.le_succ _
      · rw [List.mem_singleton.mp hb]; exact Nat.le_refl _
    exact I1.fpOk hle (I1.hok.fresh hle)
def enumD (l : List D) : List D := l.mapIdx fun i d => .tup [.int (i : Nat), d]
theorem ItOk.enumT {K : Fg} {F : Hp} {a : Addr} {xs : List V} {l : List D} (h : SqT K F a xs) (r : RepL K ca F l xs) : ItOk K ca F (ItEn K a) (enumD l) := by
  have el : (enumD l).length = xs.length := by unfold enumD; rw [List.length_mapIdx, r.length]
  refine ⟨fun H => SqT K H a xs, fun i H v H' => ∃ T x, (v = .ref T ∧ H T = none) ∧ H' = upd H T (.tup [.int (i : Nat), x]) ∧ xs[i]? = some x, ?_, fun U F' M' H' e hr => ⟨(h.ext e).ext hr.sub, ?_⟩⟩
  · rw [el]
    refine ⟨fun i H hi q => ⟨xs, xs[i], q, by simp [hi]⟩, fun H q => ⟨xs, q, rfl⟩, fun i H v H' _ q y => ?_⟩
    obtain ⟨T, x, h1, h2, h3⟩ := y
    exact ⟨T, x, h1, h2, h3 xs q⟩
  · rintro i v H'' ⟨T, x, ⟨rfl, hT⟩, rfl, hx⟩
    obtain ⟨d, hd, rd⟩ := r.get' hx
    obtain ⟨g2, e2⟩ := hr.newF hT (.tup [.int (i : Nat), x])
    refine ⟨_, .tup [.int (i : Nat), d], e2, g2, ?_, T, [.int (i : Nat), x], rfl, .inl (.inl upd_same), .int (i : Nat), [x], rfl, rfl, x, [], rfl, (rd.mono e).mono e2, rfl⟩
    unfold enumD
    rw [List.getElem?_mapIdx, hd]
    rfl
def goEnum (Q : List D → Mem → Prop) (ds : List D) (M1 : Mem) : Prop := match ds with | [.tup l] => Q (enumD l) M1 | _ => False
def dEnum (ta : DTA) : DTI := fun δ M E Q => ta δ M E fun ds M1 => goEnum Q ds M1
theorem di_enum {e : Expr} {ta : DTA} {p tpos : Pos} {elts : List Expr} {kk : Nat} (hm : X.mg "enumerate" = none) (ha : DPA X ca W [e] ta) (hg : Gl X "enumerate" := by rfl) (hs : starEach [e] X.env = [(false, eval e X.env)] := by rfl) :
    DPI X ca W (.Tuple elts kk tpos) (.Call (.Name "enumerate" p) [e] [] pos) (dEnum ta) := piImp (pi_enumT hg hm ha hs) fun σ H R ⟨U, F, M, δ, E, Q, S, h, c⟩ => by
  refine liftA_of S h fun ds M1 F1 vs H1 h1 e1 r1 g1 => ?_
  match ds, h1 with
  | [.tup l], h1 =>
    obtain ⟨v, r, ev, ⟨a, ws, ea, hs, rl⟩, er⟩ := r1
    cases er; subst ea; subst ev
    exact ⟨a, ws, rfl, hs.ext g1.sub, c _ M1 F1 H1 _ h1 e1 g1 (.enumT hs rl)⟩
/-! ### a tuple of anything against () -/
def oEqT0 (f : Bool → Bool) : DOp := fun x y M E Q => match x, y with | .tup l, .tup [] => Q (.bl (f l.isEmpty)) M | _, _ => False
theorem op_eqT0 {j : Nat} (C : Ctx X j W) : OpD X ca W (compareOp .Eq) (oEqT0 fun b => b) := by
  intro pins s σ H U F M δ E Q R dx dy x y v u I S rx ry rv ru ho c
  unfold oEqT0 at ho
  split at ho
  · rename_i l
    obtain ⟨a, vs, rfl, hs, rl⟩ := rx
    obtain ⟨a', vs', rfl, hs', rl'⟩ := ry
    cases rl'
    cases rv
    cases ru
    obtain ⟨its, r1, p1, _⟩ := I.tuple (hs.ext S.hr.sub)
    obtain ⟨its2, r2, p2, _⟩ := I.tuple (hs'.ext S.hr.sub)
    have e2 : its2 = [] := by cases r2; rfl
    subst e2
    have hu : X.A.units < cLine := by have := C.room.units; omega
    refine SeqAt.eq_tupleAt (e := fun _ => true) (show s.heap.IsTuple a its.toArray from p1) (show s.heap.IsTuple a' ([] : List Value).toArray from p2) hu (fun k h1 h2 => absurd h2 (by simp)) ?_
    have e3 : ((List.range (min its.toArray.size ([] : List Value).toArray.size)).all (fun _ => true) && its.toArray.size == ([] : List Value).toArray.size) = l.isEmpty := by
      have hl : its.length = l.length := by rw [← r1.length, rl.length]
      cases l with
      | nil => have : its = [] := List.length_eq_zero_iff.mp hl; subst this; rfl
      | cons d l =>
        cases its with
        | nil => cases hl
        | cons z zs => simp
    rw [e3]
    exact ⟨.bl l.isEmpty, H, I, rfl, c _ _ _ _ _ ho Ext.rfl' rfl S.hr⟩
  · exact ho.elim
/-! ### [..] * int -/
def oRepM : DOp := fun x y M E Q => match memL M x with
  | some (p, l) => (match y with | .int k => (-(2 ^ 63) ≤ k ∧ k < 2 ^ 63) ∧ l.length * k.toNat ≤ sizeLine ∧ Q (.lst (List.replicate k.toNat l).flatten) (M.del p) | _ => False)
  | none => False
theorem repL_rep {K : Fg} {F : Hp} {l : List D} {vs : List V} (r : RepL K ca F l vs) : ∀ n : Nat, RepL K ca F (List.replicate n l).flatten (List.replicate n vs).flatten
  | 0 => rfl
  | n + 1 => by
    rw [List.replicate_succ, List.replicate_succ, List.flatten_cons, List.flatten_cons]
    exact r.append (repL_rep r n)
theorem op_repM : OpD X ca W (binaryOp .Mult) oRepM := opD_of op_rep fun U F H M δ E Q R dx dy x y hr rx ry ho c => by
  unfold oRepM at ho
  cases em : memL M dx with
  | none => rw [em] at ho; exact ho.elim
  | some q =>
    obtain ⟨p, l⟩ := q
    rw [em] at ho
    obtain ⟨ed, em'⟩ := memL_ok em
    subst ed
    cases dy with
    | int k =>
      obtain ⟨⟨k1, k2⟩, hz, q⟩ := ho
      obtain ⟨_, _, vs, e, rl⟩ := hr.mem _ _ em'
      refine ⟨p, k, vs, rx, ry, e, k1, k2, by rw [rl.length]; exact hz, fun t ht => ?_⟩
      obtain ⟨g2, e2⟩ := (hr.drop p).newF ht (.lst (List.replicate k.toNat vs).flatten)
      exact c _ _ _ _ _ q e2 ⟨t, _, rfl, .inl (.inl upd_same), (repL_rep rl _).mono e2⟩ g2
    | _ => exact ho.elim
/-- [..] * n -/
def goRep (n : Int) (Q : QD) (xs : List D) (M1 : Mem) : Prop := xs.length ≤ sizeLine ∧ ∀ p, M1 p = none → oRepM (.ref p) (.int n) (M1.set p (.lst xs)) (fun _ _ _ => False) Q
theorem repM_any {x y : D} {M : Mem} {E E' : XD} {Q : QD} (h : oRepM x y M E Q) : oRepM x y M E' Q := h
theorem x_repM {ta : DTA} {n : Int} {δ : DEnv} {M : Mem} {E : EX} {Q : QD} (h : ta δ M E fun xs M1 => goRep n Q xs M1) : dBin oRepM (dLstM ta) (dC (.int n)) δ M E Q := h
theorem x_goRep {n : Int} {xs : List D} {M : Mem} {Q : QD} (h : (Nat.ble xs.length sizeLine && (decide (-(2 ^ 63) ≤ n) && (decide (n < 2 ^ 63) && Nat.ble (xs.length * n.toNat) sizeLine))) = true) (q : Q (.lst (List.replicate n.toNat xs).flatten) M) : goRep n Q xs M := by
  obtain ⟨h1, h⟩ := He.ba h
  obtain ⟨h2, h⟩ := He.ba h
  obtain ⟨h3, h4⟩ := He.ba h
  refine ⟨Nat.le_of_ble_eq_true h1, fun p hp => ?_⟩
  unfold oRepM
  have e : memL (M.set p (.lst xs)) (.ref p) = some (p, xs) := by
    show (match M.set p (.lst xs) p with | some (.lst l) => some (p, l) | _ => none) = _
    rw [Mem.set_same]
  rw [e]
  refine ⟨⟨of_decide_eq_true h2, of_decide_eq_true h3⟩, Nat.le_of_ble_eq_true h4, ?_⟩
  rw [Mem.del_set hp]
  exact q
/-! ### {text: text, ..}.get(k, d) -/
def keyD : D → Option Key
  | .int i => some (.inl i)
  | .str x => some (.inr x)
  | _ => none
def lookD (kvs : List (Key × D)) (k : Key) : Option D := (kvs.find? fun kv => decide (kv.1 = k)).map (·.2)
theorem repK_look {K : Fg} {F : Hp} {k : Key} : ∀ {kvs : List (Key × D)} {vs : List (Key × V)}, RepK K ca F kvs vs → ∀ {d : D} {z : V}, Rep K ca F d z → Rep K ca F ((lookD kvs k).getD d) ((valV vs k).getD z)
  | [], _, h, d, z, r => by cases h; exact r
  | (n, d') :: l, _, ⟨v, r, e, h1, h2⟩, d, z, rz => by
    subst e
    by_cases q : n = k
    · have e1 : lookD ((n, d') :: l) k = some d' := by unfold lookD; rw [List.find?_cons, show decide ((n, d').1 = k) = true from decide_eq_true q]; rfl
      rw [e1, valV_pos (p := (n, v)) q]
      exact h1
    · have e1 : lookD ((n, d') :: l) k = lookD l k := by unfold lookD; rw [List.find?_cons, show decide ((n, d').1 = k) = false from decide_eq_false q]
      rw [e1, valV_neg (p := (n, v)) q]
      exact repK_look h2 rz
def dGet2 (td tk tx : DT) : DT := fun δ M E Q => td δ M E fun d M1 => match d with
  | .dic kvs => tk δ M1 E fun k M2 => tx δ M2 E fun z M3 => (match keyD k with | some key => Q ((lookD kvs key).getD z) M3 | none => False)
  | _ => False
theorem keyD_ok {K : Fg} {F : Hp} {k : D} {key : Key} {v : V} (h : keyD k = some key) (r : Rep K ca F k v) : v = kV key := by
  cases k <;> first | (cases h; exact r) | cases h
theorem de_get2 {j : Nat} {o e f : Expr} {td tk tx : DT} {apos cpos : Pos} (C : Ctx X j W) (ho : DE X ca W o td) (he : DE X ca W e tk) (hf : DE X ca W f tx)
    (m : M2 X o "get" apos e f cpos := by exact ⟨rfl, rfl, rfl, rfl⟩) : DE X ca W (.Call (.Attribute o "get" apos) [e, f] [] cpos) (dGet2 td tk tx) :=
  peImp (pe_dget2 (by have := C.room.units; omega) ho he hf m) fun σ H R ⟨U, F, M, δ, E, Q, S, h, c⟩ => by
    refine lift_of S h fun d M1 F1 v H1 h1 e1 r1 g1 => ?_
    cases d with
    | dic kvs =>
      obtain ⟨a, vs, rfl, ha, rk⟩ := r1
      refine ⟨a, rfl, .inl ⟨vs, .inl (g1.sub _ _ ha)⟩, ?_⟩
      refine lift_of (S.up e1 g1) h1 fun k M2 F2 kv H2 h2 e2 r2 g2 => ?_
      refine lift_of ((S.up e1 g1).up e2 g2) h2 fun z M3 F3 zv H3 h3 e3 r3 g3 => ?_
      cases q : keyD k with
      | none => rw [q] at h3; exact h3.elim
      | some key =>
        rw [q] at h3
        have ek := keyD_ok q r2
        subst ek
        exact ⟨_, .inl ⟨vs, key, .inl (g3.sub _ _ (e3 _ _ (e2 _ _ ha))), rfl, rfl⟩, c _ _ _ _ _ h3 ((e1.trans e2).trans e3) (repK_look (rk.mono (e2.trans e3)) r3) g3⟩
    | _ => exact h1.elim
/-- a display of two texts -/
def dDic2 (a b c d : Str) : DT := fun _ M _ Q => Q (.dic [(.inr a, .str b), (.inr c, .str d)]) M
theorem de_dic2 {a b c d : Str} {k1 k2 k3 k4 : Nat} {p1 p2 p3 p4 : Pos} (h : a ≠ c := by decide +kernel) : DE X ca W (.Dict [some (.Constant (.str a) k1 p1), some (.Constant (.str c) k2 p2)] [.Constant (.str b) k3 p3, .Constant (.str d) k4 p4] pos) (dDic2 a b c d) :=
  peImp (pe_disp (pps_cons pe_str pe_str (pps_cons pe_str pe_str pps_nil)) rfl rfl (by simp) (by show 2 ≤ 15; decide)) fun σ H R ⟨U, F, M, δ, E, Q, S, q0, cl⟩ => fun p hp => by
  have hac : (Sum.inr a : Key) ≠ .inr c := fun e => h (Sum.inr.inj e)
  refine ⟨upd_same, [(.inr a, .str b), (.inr c, .str d)], rfl, (by show 2 ≤ 15; decide), ?_⟩
  have em : mergeK [] [((.inr a : Key), V.str b), (.inr c, .str d)] = [(.inr a, .str b), (.inr c, .str d)] := by
    show putK (putK [] (.inr a : Key) (V.str b)) (.inr c) (.str d) = _
    have e1 : putK [] (.inr a : Key) (V.str b) = [(.inr a, .str b)] := by simp [putK]
    rw [e1]
    simp [putK, hac]
  rw [em]
  have eu : upd (upd H p (.dK [])) p (.dK [((.inr a : Key), V.str b), (.inr c, .str d)]) = upd H p (.dK [((.inr a : Key), V.str b), (.inr c, .str d)]) := by
    funext q
    unfold upd
    split <;> rfl
  rw [eu]
  obtain ⟨g2, e2⟩ := S.hr.newF hp (.dK [((.inr a : Key), V.str b), (.inr c, .str d)])
  exact cl _ _ _ _ _ q0 e2 ⟨p, _, rfl, upd_same, .str b, _, rfl, rfl, .str d, [], rfl, rfl, rfl⟩ g2
/-! ### a def by its name, called with keywords alone -/
structure FnKw (X : Cx) (ca : Ca) (k : Nat) (x : Str) (ks : List Str) (js : List Nat) (dds : List D) (sp : DSp) : Prop where
  ex : ∃ f, X.mg x = some (.ref f) ∧ PySem.W.keepIn X.K (.ref f) = true ∧ KwD X.prog X.w X.K X.mg X.base ca k f 0 ks js dds sp
def goCallK (sp : DSp) (n : Nat) (js : List Nat) (dds : List D) (E0 : XD) (Q : QD) (ds : List D) (M1 : Mem) : Prop := ds.length = n ∧ sp (pick js (ds ++ dds)) M1 E0 Q
def dCallK (sp : DSp) (n : Nat) (js : List Nat) (dds : List D) (t : DTA) : DT := fun δ M E Q => t δ M E fun ds M1 => goCallK sp n js dds (fun c fs M' => E c fs δ M') Q ds M1
theorem de_callK {j k : Nat} {x : Str} {ks : List Str} {js : List Nat} {dds : List D} {sp : DSp} {kws : List Keyword} {t : DTA} {p : Pos} (C : Ctx X j W) (G : FnKw X ca k x ks js dds sp) (ha : DPK X ca W kws t) (hk : k ≤ j := by decide) (hg : Gl X x := by rfl) (hdb : (x == ("__debug__" : Str)) = false := by decide)
    (hall : (backToKw pos (keywordEach kws X.env)).all (·.1.isSome) = true := by rfl) (hks : (backToKw pos (keywordEach kws X.env)).filterMap (·.1) = ks := by rfl)
    (hpl : ((backTo pos (starEach [] X.env)).any (·.1) || (backToKw pos (keywordEach kws X.env)).any (·.1.isNone)) = false := by rfl) : DE X ca W (.Call (.Name x p) [] kws pos) (dCallK sp ks.length js dds t) := by
  refine ⟨fun pins s σ H R I ⟨U, F, M, δ, E, Q, S, h, c⟩ => ?_⟩
  obtain ⟨f, hm, kp, G⟩ := G.ex
  obtain ⟨fd, ps, its, dvs, FF, hb, rd⟩ := G.ex
  refine wpAny_Call_Name_kw (ld_glob I hg hm ?_ hdb)
  refine PySem.W.callWith_KW0 (first := []) (h₀ := X.base) I.ok.mod.kin kp hall (thn (ha.run pos pins s σ H (fun vs H1 => ∃ F1 M1 ds, (Stt X.K ca U W F1 M1 δ E σ H1 ∧ RepL X.K ca F1 ds vs) ∧ (ds.length = ks.length ∧ sp (pick js (ds ++ dds)) M1 (fun c fs M' => E c fs δ M') Q) ∧ Cl X.K ca U F1 Q R) I ?_) fun ws s1 ⟨vs, H1, I1, r, F1, M1, ds, ⟨S1, rl⟩, ⟨hlen, hs⟩, c1⟩ => ⟨I1.kIn, ?_⟩) hpl
  · exact liftA_of S h fun ds M1 F1 vs H1 h1 e1 r1 g1 => ⟨F1, M1, ds, ⟨S.up e1 g1, r1⟩, h1, c.up e1⟩
  · rw [hks]
    have lw : ws.length = ks.length := by rw [← r.length, rl.length]; exact hlen
    have rr : RepL X.K ca F1 (pick js (ds ++ dds)) (pick js (vs ++ dvs)) := repL_of_paired (paired_pick (paired_append (paired_of_repL rl) (paired_of_repL (rd F1))) js)
    have prom : toSp X.K ca sp (pick js ([] ++ vs ++ dvs)) H1 R (fun cls od H' => W cls od σ H') :=
      ⟨U, F1, M1, pick js (ds ++ dds), _, Q, rr, S1.hr, hs, c1, fun c' fs M' F' H' od he e hr ho => S1.xc c' fs δ M' F' σ H' od he e (S1.env.mono e) hr ho⟩
    have ran := FF.run X.A X.stack _ _ ⟨[], ks.zip ws⟩ (pick js ([] ++ ws ++ its)) _ _ _ (C.room.mono hk) I1.env0 (hb.to _ [] ws I1.kIn rfl lw) (hb.rel .nil r) prom
    refine wpAny_call (codeAny_mono ran fun r' s' out => ?_)
    cases r' with
    | error e => exact C.tk e s' (XE.of_call I1 (fun cls d H' z => z) out)
    | ok fl =>
      cases fl with
      | ret u => exact I1.after out
      | next => exact out.elim
      | brk => exact out.elim
      | cont => exact out.elim
end
section
variable {P : Program} {w : World} {K : Fg} {mg : Str → Option Value} {base : Heap} {ca : Ca} {k : Nat} {f : Addr} {x : Str} {sp : DSp} {ks : List Str} {js : List Nat} {dds : List D}
theorem at_fnK (hm : mg x = some (.ref f)) (kp : PySem.W.keepIn K (.ref f) = true) (G : KwD P w K mg base ca k f 0 ks js dds sp) : AtX P w K mg base fun X => FnKw X ca k x ks js dds sp := by
  rintro X rfl rfl rfl rfl rfl
  exact ⟨f, hm, kp, G⟩
theorem at_int {i : Int} (h : ∃ t, mg x = some (.int i t)) : AtX P w K mg base fun X => GC X ca x (.int i) := by
  rintro X rfl rfl rfl rfl rfl
  obtain ⟨t, h⟩ := h
  exact ⟨_, .int i, h, ⟨t, rfl⟩, fun _ => rfl⟩
end
/-! ### the steps -/
section
variable {M : Mem} {E : EX} {E0 : XD} {Q : QD} {δ : DEnv} {QL : List D → Mem → Prop}
theorem x_enum {ta : DTA} (h : ta δ M E fun ds M1 => goEnum QL ds M1) : dEnum ta δ M E QL := h
theorem x_goEnum {l : List D} (h : QL (enumD l) M) : goEnum QL [.tup l] M := h
theorem x_eqT0 {f : Bool → Bool} {l : List D} (h : Q (.bl (f l.isEmpty)) M) : oEqT0 f (.tup l) (.tup []) M E0 Q := h
theorem x_dic2 {a b c d : Str} (h : Q (.dic [(.inr a, .str b), (.inr c, .str d)]) M) : dDic2 a b c d δ M E Q := h
def goGet (tk tx : DT) (δ : DEnv) (E : EX) (Q : QD) (d : D) (M1 : Mem) : Prop := match d with
  | .dic kvs => tk δ M1 E fun k M2 => tx δ M2 E fun z M3 => (match keyD k with | some key => Q ((lookD kvs key).getD z) M3 | none => False)
  | _ => False
theorem x_get2 {td tk tx : DT} (h : td δ M E fun d M1 => goGet tk tx δ E Q d M1) : dGet2 td tk tx δ M E Q := h
theorem x_callK {sp : DSp} {n : Nat} {js : List Nat} {dds : List D} {t : DTA} (h : t δ M E fun ds M1 => goCallK sp n js dds (fun c fs M' => E c fs δ M') Q ds M1) : dCallK sp n js dds t δ M E Q := h
theorem x_goCallK {sp : DSp} {n : Nat} {js : List Nat} {dds ds ds' : List D} (h1 : (Nat.beq ds.length n) = true) (h2 : pick js (ds ++ dds) = ds') (h : sp ds' M E0 Q) : goCallK sp n js dds E0 Q ds M := ⟨Nat.eq_of_beq_eq_true h1, h2 ▸ h⟩
end
/-! comprehensions by their items, the store untouched -/
section
variable {δ : DEnv} {M : Mem} {bd : Bd} {ta : DT} {tt : DTT} {QA : List D → Mem → Prop}
theorem comp_mapG {f : D → D} : ∀ (l acc : List D), (∀ x ∈ l, ∃ δ1, bd x δ = some δ1 ∧ ∀ (Q' : QD), Q' (f x) M → ta δ1 M (fun _ _ _ _ => False) Q') → acc.length + l.length ≤ sizeLine → QA (acc ++ l.map f) M → CompL bd dYes ta QA l acc δ M
  | [], acc, _, _, q => by rw [List.map_nil, List.append_nil] at q; exact q
  | x :: l, acc, h, hl, q => by
    obtain ⟨δ1, e, h1⟩ := h x (List.mem_cons_self ..)
    unfold CompL
    rw [e]
    refine h1 _ ⟨by rw [List.length_cons] at hl; omega, ?_⟩
    refine comp_mapG l (acc ++ [f x]) (fun y hy => h y (List.mem_cons_of_mem _ hy)) (by rw [List.length_append, List.length_cons, List.length_nil]; rw [List.length_cons] at hl; omega) ?_
    rw [List.append_assoc]
    exact q
theorem comp_filt {p : D → Bool} {f : D → D} : ∀ (l acc : List D), (∀ x ∈ l, ∃ δ1, bd x δ = some δ1 ∧ (∀ (QB : Bool → Mem → Prop), QB (p x) M → tt δ1 M (fun _ _ _ _ => False) QB) ∧ ∀ (Q' : QD), Q' (f x) M → ta δ1 M (fun _ _ _ _ => False) Q') → acc.length + l.length ≤ sizeLine → QA (acc ++ (l.filter p).map f) M → CompL bd tt ta QA l acc δ M
  | [], acc, _, _, q => by rw [List.filter_nil, List.map_nil, List.append_nil] at q; exact q
  | x :: l, acc, h, hl, q => by
    obtain ⟨δ1, e, h1, h2⟩ := h x (List.mem_cons_self ..)
    unfold CompL
    rw [e]
    refine h1 _ ?_
    rw [List.length_cons] at hl
    cases hp : p x with
    | true =>
      rw [if_pos rfl]
      refine h2 _ ⟨by omega, ?_⟩
      refine comp_filt l (acc ++ [f x]) (fun y hy => h y (List.mem_cons_of_mem _ hy)) (by rw [List.length_append, List.length_cons, List.length_nil]; omega) ?_
      rw [List.filter_cons_of_pos hp, List.map_cons] at q
      rw [List.append_assoc]
      exact q
    | false =>
      rw [if_neg Bool.false_ne_true]
      refine comp_filt l acc (fun y hy => h y (List.mem_cons_of_mem _ hy)) (by omega) ?_
      rw [List.filter_cons_of_neg (by rw [hp]; exact Bool.false_ne_true)] at q
      exact q
end
theorem asBools_bl : ∀ bs : List Bool, asBools (bs.map D.bl) = some bs
  | [] => rfl
  | b :: bs => by simp only [List.map, asBools, asBools_bl bs, Option.map]
theorem x_all {bs : List Bool} {M : Mem} {E0 : XD} {Q : QD} (h : Q (.bl (bs.all _root_.id)) M) : bAll (.lst (bs.map D.bl)) M E0 Q := by
  unfold bAll bAllAny
  simp only [asL, asBools_bl]
  exact h
theorem x_any {bs : List Bool} {M : Mem} {E0 : XD} {Q : QD} (h : Q (.bl (bs.any _root_.id)) M) : bAny (.lst (bs.map D.bl)) M E0 Q := by
  unfold bAny bAllAny
  simp only [asL, asBools_bl]
  exact h
theorem x_addT {a b : List D} {M : Mem} {E0 : XD} {Q : QD} (h : a.length + b.length ≤ sizeLine) (q : Q (.tup (a ++ b)) M) : oAdd0 (.tup a) (.tup b) M E0 Q := ⟨h, q⟩
theorem x_addLL {a b : List D} {M : Mem} {E0 : XD} {Q : QD} (h : a.length + b.length ≤ sizeLine) (q : Q (.lst (a ++ b)) M) : oAdd0 (.lst a) (.lst b) M E0 Q := ⟨h, q⟩
theorem x_slT {l : List D} {lo hi : Option Int} {M : Mem} {Q : QD} (h : Q (.tup (cutD l lo hi)) M) : sliceD (.tup l) lo hi M Q := h
theorem cut_to {l : List D} {k : Int} {n : Nat} (hk : k = n) : cutD l none (some k) = l.take n := cutK hk
theorem cut_from {l : List D} {k : Int} {n : Nat} (hk : k = n) : cutD l (some k) none = l.drop n := by
  unfold cutD
  have hi : HT.sIx l.length 0 (some k) = min n l.length := by subst hk; exact HT.sIx_nat _ _ _
  have hj : HT.sIx l.length l.length none = l.length := rfl
  rw [hi, hj]
  by_cases h : n ≤ l.length
  · rw [Nat.min_eq_left h, List.take_of_length_le (by rw [List.length_drop]; omega)]
  · rw [Nat.min_eq_right (by omega), List.drop_of_length_le (Nat.le_refl _), List.drop_of_length_le (by omega), List.take_nil]
theorem x_mulI {i j : Int} {M : Mem} {E0 : XD} {Q : QD} (h : mulOk i j) (q : Q (.int (i * j)) M) : oMul0 (.int i) (.int j) M E0 Q := ⟨h, q⟩
end TS
namespace TS
open PySem PySem.Spec PyProof.Rows L2
open PySem.SeqAt PySem.MeetsSeq PySem.MeetsSeq2 PySem.MeetsSeq3
/-! ### == and != of tuples and lists whose items compare by own methods -/
section
variable {prog : Program} {w : World} {A : Around} {R : Result → Shared → Prop}
theorem tupEqB (l b : Addr) (xs ys : Array Value) (n n2 : Nat) (dd dd2 : Option Addr) (sl sl2 : Array (Option Value)) (e : Nat → Bool) (I : Shared → Prop)
    (step : ∀ i (h1 : i < xs.size) (h2 : i < ys.size) s, I s → wpAny (model prog w) A.in1 (eqBool xs[i] ys[i]) (fun r s' => r = e i ∧ I s') (fun z s' => R (.error z) s') s)
    (fin : ∀ s, I s → R (.ok (.ret (.bool ((List.range (min xs.size ys.size)).all e && xs.size == ys.size)))) s) {s : Shared}
    (hx : s.heap.get? l = some { cls := .type "tuple", dict := dd, data := .seq xs n, slots := sl }) (hy : s.heap.get? b = some { cls := .type "tuple", dict := dd2, data := .seq ys n2, slots := sl2 }) (h : I s) :
    wpAny (model prog w) A.in1 (Builtin.«tuple.__eq__» ⟨[.ref l, .ref b], []⟩) (GQ.FinOf prog w A R) (fun z s' => R (.error z) s') s := by
  have sb := AutoSeq1.sub_tuple_tuple
  have len : (xs.toList.zip ys.toList).length = min xs.size ys.size := by simp
  have i0 := h
  obtain ⟨hp, g, d, tk, os⟩ := s
  wp_walk using wpAny_loadPart' hx, wpAny_loadPart' hy, wpAny_forIn_list _ (fun rest c s' => c.1 = none ∧ ∃ i, rest = (xs.toList.zip ys.toList).drop i ∧ (List.range (min xs.size ys.size)).all e = ((List.range (min xs.size ys.size)).drop i).all e ∧ I s') _
  case turn =>
    rintro ⟨y, x⟩ rest c s' ⟨hc, i, hz, ha, hI⟩
    have lt : i < (xs.toList.zip ys.toList).length := by
      apply Classical.byContradiction
      intro no
      rw [List.drop_of_length_le (by omega)] at hz
      cases hz
    have m : i < min xs.size ys.size := len ▸ lt
    have m1 : i < xs.size := by omega
    have m2 : i < ys.size := by omega
    rw [List.drop_eq_getElem_cons lt] at hz
    injection hz with both more
    have ey : y = xs[i] := by simpa using congrArg Prod.fst both
    have ex : x = ys[i] := by simpa using congrArg Prod.snd both
    subst ey ex
    rw [show (List.range (min xs.size ys.size)).drop i = i :: (List.range (min xs.size ys.size)).drop (i + 1) by simp [List.drop_eq_getElem_cons, m], List.all_cons] at ha
    refine wpAny_bind (wpAny_mono (step i m1 m2 s' hI) (fun r s2 q2 => ?_) fun _ _ z => z)
    obtain ⟨er, q2⟩ := q2
    subst er
    cases he : e i with
    | true =>
      rw [he] at ha
      wp_walk
      exact ⟨rfl, i + 1, more, by simpa using ha, q2⟩
    | false =>
      rw [he] at ha
      have z := fin s2 q2
      rw [ha] at z
      wp_walk
      simpa using z
  case fin =>
    rintro ⟨c1, c2⟩ s' ⟨hc, i, hz, ha, hI⟩
    simp only at hc
    subst hc
    have ge : min xs.size ys.size ≤ i := by
      apply Classical.byContradiction
      intro no
      rw [List.drop_eq_getElem_cons (by rw [len]; omega)] at hz
      cases hz
    rw [List.drop_of_length_le (by simpa using ge)] at ha
    have z := fin s' hI
    rw [ha] at z
    wp_walk
    simpa [Builtin.Tuple.tupleCompareSizes] using z
  case h => exact ⟨rfl, 0, rfl, rfl, i0⟩
theorem tupNeB (l b : Addr) (xs ys : Array Value) (n n2 : Nat) (dd dd2 : Option Addr) (sl sl2 : Array (Option Value)) (e : Nat → Bool) (I : Shared → Prop)
    (step : ∀ i (h1 : i < xs.size) (h2 : i < ys.size) s, I s → wpAny (model prog w) A.in1 (eqBool xs[i] ys[i]) (fun r s' => r = e i ∧ I s') (fun z s' => R (.error z) s') s)
    (fin : ∀ s, I s → R (.ok (.ret (.bool (!((List.range (min xs.size ys.size)).all e && xs.size == ys.size))))) s) {s : Shared}
    (hx : s.heap.get? l = some { cls := .type "tuple", dict := dd, data := .seq xs n, slots := sl }) (hy : s.heap.get? b = some { cls := .type "tuple", dict := dd2, data := .seq ys n2, slots := sl2 }) (h : I s) :
    wpAny (model prog w) A.in1 (Builtin.«tuple.__ne__» ⟨[.ref l, .ref b], []⟩) (GQ.FinOf prog w A R) (fun z s' => R (.error z) s') s := by
  have sb := AutoSeq1.sub_tuple_tuple
  have len : (xs.toList.zip ys.toList).length = min xs.size ys.size := by simp
  have i0 := h
  obtain ⟨hp, g, d, tk, os⟩ := s
  wp_walk using wpAny_loadPart' hx, wpAny_loadPart' hy, wpAny_forIn_list _ (fun rest c s' => c.1 = none ∧ ∃ i, rest = (xs.toList.zip ys.toList).drop i ∧ (List.range (min xs.size ys.size)).all e = ((List.range (min xs.size ys.size)).drop i).all e ∧ I s') _
  case turn =>
    rintro ⟨y, x⟩ rest c s' ⟨hc, i, hz, ha, hI⟩
    have lt : i < (xs.toList.zip ys.toList).length := by
      apply Classical.byContradiction
      intro no
      rw [List.drop_of_length_le (by omega)] at hz
      cases hz
    have m : i < min xs.size ys.size := len ▸ lt
    have m1 : i < xs.size := by omega
    have m2 : i < ys.size := by omega
    rw [List.drop_eq_getElem_cons lt] at hz
    injection hz with both more
    have ey : y = xs[i] := by simpa using congrArg Prod.fst both
    have ex : x = ys[i] := by simpa using congrArg Prod.snd both
    subst ey ex
    rw [show (List.range (min xs.size ys.size)).drop i = i :: (List.range (min xs.size ys.size)).drop (i + 1) by simp [List.drop_eq_getElem_cons, m], List.all_cons] at ha
    refine wpAny_bind (wpAny_mono (step i m1 m2 s' hI) (fun r s2 q2 => ?_) fun _ _ z => z)
    obtain ⟨er, q2⟩ := q2
    subst er
    cases he : e i with
    | true =>
      rw [he] at ha
      wp_walk
      exact ⟨rfl, i + 1, more, by simpa using ha, q2⟩
    | false =>
      rw [he] at ha
      have z := fin s2 q2
      rw [ha] at z
      wp_walk
      simpa using z
  case fin =>
    rintro ⟨c1, c2⟩ s' ⟨hc, i, hz, ha, hI⟩
    simp only at hc
    subst hc
    have ge : min xs.size ys.size ≤ i := by
      apply Classical.byContradiction
      intro no
      rw [List.drop_eq_getElem_cons (by rw [len]; omega)] at hz
      cases hz
    rw [List.drop_of_length_le (by simpa using ge)] at ha
    have z := fin s' hI
    rw [ha] at z
    wp_walk
    simpa [Builtin.Tuple.tupleCompareSizes, bne] using z
  case h => exact ⟨rfl, 0, rfl, rfl, i0⟩
/-- both lists, read anew at each turn -/
def TwoL (l b : Addr) (N N2 : Nat) (s : Shared) (k : Array Value → Array Value → Prop) : Prop := ∃ (xs ys : Array Value) (n n2 : Nat) (sl sl2 : Array (Option Value)), s.heap.get? l = some { cls := .type "list", data := .seq xs n, slots := sl } ∧ s.heap.get? b = some { cls := .type "list", data := .seq ys n2, slots := sl2 } ∧ xs.size = N ∧ ys.size = N2 ∧ k xs ys
theorem lstEqLoop (l b : Addr) (N : Nat) (e : Nat → Bool) (I : Shared → Prop)
    (step : ∀ i s, I s → TwoL l b N N s fun xs ys => ∀ (h1 : i < xs.size) (h2 : i < ys.size), wpAny (model prog w) A.in1 (eqBool xs[i] ys[i]) (fun r s' => r = e i ∧ I s') (fun z s' => R (.error z) s') s) (k : Nat) :
    ∀ i : Nat, N - i = k → ∀ s, I s → (∀ s, I s → R (.ok (.ret (.bool (((List.range N).drop i).all e)))) s) →
      wpAny (model prog w) A.in1 (Builtin.«list.__eq__.loop» ⟨[.ref l, .ref b, rawInt i, rawInt 2], []⟩) (GQ.FinOf prog w A R) (fun z s' => R (.error z) s') s := by
  induction k with
  | zero =>
    intro i hk s h fin
    obtain ⟨xs, ys, n, n2, sl, sl2, hx, hy, z1, z2, _⟩ := step i s h
    have out := fin s h
    obtain ⟨hp, g, d, tk, os⟩ := s
    wp_walk using wpAny_loadPart' hx, wpAny_loadPart' hy
    have o1 : xs[((i : Nat) : Int).toNat]? = none := by simp; omega
    have o2 : ys[((i : Nat) : Int).toNat]? = none := by simp; omega
    rw [show (List.range N).drop i = [] by simp; omega] at out
    rw [o1, o2]
    wp_walk using wpAny_loadPart' hx, wpAny_loadPart' hy
    show R (.ok (.ret (.bool (xs.size == ys.size)))) _
    rw [z1, z2]
    simpa using out
  | succ k ih =>
    intro i hk s h fin
    obtain ⟨xs, ys, n, n2, sl, sl2, hx, hy, z1, z2, turn⟩ := step i s h
    have lt1 : i < xs.size := by omega
    have lt2 : i < ys.size := by omega
    have once := turn lt1 lt2
    obtain ⟨hp, g, d, tk, os⟩ := s
    wp_walk using wpAny_loadPart' hx, wpAny_loadPart' hy
    have o1 : xs[((i : Nat) : Int).toNat]? = some xs[i] := by simp [lt1]
    have o2 : ys[((i : Nat) : Int).toNat]? = some ys[i] := by simp [lt2]
    have up : ((i : Int) + 1) = ((i + 1 : Nat) : Int) := by omega
    have dr : (List.range N).drop i = i :: (List.range N).drop (i + 1) := by simp [List.drop_eq_getElem_cons, show i < N by omega]
    rw [o1, o2]
    refine wpAny_bind (wpAny_mono once (fun r s2 q2 => ?_) fun _ _ z => z)
    obtain ⟨er, q2⟩ := q2
    subst er
    cases he : e i with
    | true =>
      have more := ih (i + 1) (by omega) s2 q2 fun s3 q3 => by
        have z := fin s3 q3
        rw [dr, List.all_cons, he] at z
        simpa using z
      obtain ⟨hp2, g2, d2, tk2, os2⟩ := s2
      wp_walk
      rw [up]
      exact ⟨plainId_quiet plain_eq_loop _, codeAny_builtin entry_eq_loop (by
        rw [Around.under_plainId plain_eq_loop _]
        exact more)⟩
    | false =>
      have z := fin s2 q2
      rw [dr, List.all_cons, he] at z
      obtain ⟨xs', ys', n', n2', sl', sl2', hx', hy', z1', z2', _⟩ := step i s2 q2
      have o1' : xs'[((i : Nat) : Int).toNat]? = some (xs'[i]'(by omega)) := by simp [show i < xs'.size by omega]
      have o2' : ys'[((i : Nat) : Int).toNat]? = some (ys'[i]'(by omega)) := by simp [show i < ys'.size by omega]
      obtain ⟨hp2, g2, d2, tk2, os2⟩ := s2
      wp_walk using wpAny_loadPart' hx', wpAny_loadPart' hy'
      rw [o1', o2']
      wp_walk
      simpa using z
theorem lstNeLoop (l b : Addr) (N : Nat) (e : Nat → Bool) (I : Shared → Prop)
    (step : ∀ i s, I s → TwoL l b N N s fun xs ys => ∀ (h1 : i < xs.size) (h2 : i < ys.size), wpAny (model prog w) A.in1 (eqBool xs[i] ys[i]) (fun r s' => r = e i ∧ I s') (fun z s' => R (.error z) s') s) (k : Nat) :
    ∀ i : Nat, N - i = k → ∀ s, I s → (∀ s, I s → R (.ok (.ret (.bool (!((List.range N).drop i).all e)))) s) →
      wpAny (model prog w) A.in1 (Builtin.«list.__eq__.loop» ⟨[.ref l, .ref b, rawInt i, rawInt 3], []⟩) (GQ.FinOf prog w A R) (fun z s' => R (.error z) s') s := by
  induction k with
  | zero =>
    intro i hk s h fin
    obtain ⟨xs, ys, n, n2, sl, sl2, hx, hy, z1, z2, _⟩ := step i s h
    have out := fin s h
    obtain ⟨hp, g, d, tk, os⟩ := s
    wp_walk using wpAny_loadPart' hx, wpAny_loadPart' hy
    have o1 : xs[((i : Nat) : Int).toNat]? = none := by simp; omega
    have o2 : ys[((i : Nat) : Int).toNat]? = none := by simp; omega
    rw [show (List.range N).drop i = [] by simp; omega] at out
    rw [o1, o2]
    wp_walk using wpAny_loadPart' hx, wpAny_loadPart' hy
    show R (.ok (.ret (.bool (xs.size != ys.size)))) _
    rw [z1, z2]
    simpa using out
  | succ k ih =>
    intro i hk s h fin
    obtain ⟨xs, ys, n, n2, sl, sl2, hx, hy, z1, z2, turn⟩ := step i s h
    have lt1 : i < xs.size := by omega
    have lt2 : i < ys.size := by omega
    have once := turn lt1 lt2
    obtain ⟨hp, g, d, tk, os⟩ := s
    wp_walk using wpAny_loadPart' hx, wpAny_loadPart' hy
    have o1 : xs[((i : Nat) : Int).toNat]? = some xs[i] := by simp [lt1]
    have o2 : ys[((i : Nat) : Int).toNat]? = some ys[i] := by simp [lt2]
    have up : ((i : Int) + 1) = ((i + 1 : Nat) : Int) := by omega
    have dr : (List.range N).drop i = i :: (List.range N).drop (i + 1) := by simp [List.drop_eq_getElem_cons, show i < N by omega]
    rw [o1, o2]
    refine wpAny_bind (wpAny_mono once (fun r s2 q2 => ?_) fun _ _ z => z)
    obtain ⟨er, q2⟩ := q2
    subst er
    cases he : e i with
    | true =>
      have more := ih (i + 1) (by omega) s2 q2 fun s3 q3 => by
        have z := fin s3 q3
        rw [dr, List.all_cons, he] at z
        simpa using z
      obtain ⟨hp2, g2, d2, tk2, os2⟩ := s2
      wp_walk
      rw [up]
      exact ⟨plainId_quiet plain_eq_loop _, codeAny_builtin entry_eq_loop (by
        rw [Around.under_plainId plain_eq_loop _]
        exact more)⟩
    | false =>
      have z := fin s2 q2
      rw [dr, List.all_cons, he] at z
      obtain ⟨xs', ys', n', n2', sl', sl2', hx', hy', z1', z2', _⟩ := step i s2 q2
      have o1' : xs'[((i : Nat) : Int).toNat]? = some (xs'[i]'(by omega)) := by simp [show i < xs'.size by omega]
      have o2' : ys'[((i : Nat) : Int).toNat]? = some (ys'[i]'(by omega)) := by simp [show i < ys'.size by omega]
      obtain ⟨hp2, g2, d2, tk2, os2⟩ := s2
      wp_walk using wpAny_loadPart' hx', wpAny_loadPart' hy'
      rw [o1', o2']
      wp_walk
      simpa using z
end

section
variable {prog : Program} {w : World} {A : Around} {E : Value → Shared → Prop} {s : Shared} {op : CmpOp}
theorem rcT {l b : Addr} {xs ys : Array Value} {e : Nat → Bool} {Q : Value → Shared → Prop} (hu : A.units < cLine) (I : Shared → Prop) (hl : s.heap.IsTuple l xs) (hb : s.heap.IsTuple b ys)
    (step : ∀ i (h1 : i < xs.size) (h2 : i < ys.size) s, I s → wpAny (model prog w) A.in1 (eqBool xs[i] ys[i]) (fun r s' => r = e i ∧ I s') E s)
    (fin : ∀ s, I s → Q (.bool ((List.range (min xs.size ys.size)).all e && xs.size == ys.size)) s) (h : I s) : wpAny (model prog w) A (richCompare .Eq (.ref l) (.ref b)) Q E s := by
  obtain ⟨⟨cls, dd, data, sl⟩, ho, hc, n, hd⟩ := id hl
  obtain ⟨⟨cls2, dd2, data2, sl2⟩, ho2, hc2, n2, hd2⟩ := id hb
  simp only at hc hd hc2 hd2
  subst hc hd hc2 hd2
  refine wpAny_richCompare_same_room (op := .Eq) ⟨_, ho, rfl⟩ ⟨_, ho2, rfl⟩ F.slot_tuple_eq (GQ.call_here F.slot_tuple_eq ⟨_, ho, rfl⟩ F.entry_tuple_eq (F.args_tuple_eq_2 _ _) ?_) hu
  exact tupEqB (R := wants (fun v s' => v ≠ .notImplemented ∧ Q v s') E) l b xs ys n n2 dd dd2 sl sl2 e I step (fun s' q => ⟨(fun x => nomatch x), fin s' q⟩) ho ho2 h
theorem rcTn {l b : Addr} {xs ys : Array Value} {e : Nat → Bool} {Q : Value → Shared → Prop} (hu : A.units < cLine) (I : Shared → Prop) (hl : s.heap.IsTuple l xs) (hb : s.heap.IsTuple b ys)
    (step : ∀ i (h1 : i < xs.size) (h2 : i < ys.size) s, I s → wpAny (model prog w) A.in1 (eqBool xs[i] ys[i]) (fun r s' => r = e i ∧ I s') E s)
    (fin : ∀ s, I s → Q (.bool (!((List.range (min xs.size ys.size)).all e && xs.size == ys.size))) s) (h : I s) : wpAny (model prog w) A (richCompare .NotEq (.ref l) (.ref b)) Q E s := by
  obtain ⟨⟨cls, dd, data, sl⟩, ho, hc, n, hd⟩ := id hl
  obtain ⟨⟨cls2, dd2, data2, sl2⟩, ho2, hc2, n2, hd2⟩ := id hb
  simp only at hc hd hc2 hd2
  subst hc hd hc2 hd2
  refine wpAny_richCompare_same_room (op := .NotEq) ⟨_, ho, rfl⟩ ⟨_, ho2, rfl⟩ F.slot_tuple_ne (GQ.call_here F.slot_tuple_ne ⟨_, ho, rfl⟩ F.entry_tuple_ne (F.args_tuple_ne_2 _ _) ?_) hu
  exact tupNeB (R := wants (fun v s' => v ≠ .notImplemented ∧ Q v s') E) l b xs ys n n2 dd dd2 sl sl2 e I step (fun s' q => ⟨(fun x => nomatch x), fin s' q⟩) ho ho2 h
end
end TS
namespace TS
open PySem PySem.Spec PyProof.Rows L2
def flV : D → Option V
  | .non => some .non
  | .bl b => some (.bl b)
  | .int i => some (.int i)
  | .str x => some (.str x)
  | _ => none
/-- where both are one object, they are told equal -/
def SameD (x y : D) (b : Bool) : Prop := ∀ (K : Fg) (ca : Ca) (F : Hp) (v : V), (∀ a l m, SqT K F a l → SqT K F a m → l = m) → Rep K ca F x v → Rep K ca F y v → b = true
/-- b: whether x and y are equal; T: what the own __eq__ promise; n: how deep the tuples are -/
inductive EqD (T : OTab) (ts : List Tg) (M : Mem) : Nat → D → D → Bool → Prop
  | flat {n : Nat} {x y : D} {vx vy : V} : flV x = some vx → flV y = some vy → EqD T ts M n x y (eqV vx vy)
  | own {n : Nat} {x y : D} {c : Nat} {fs : List (Str × D)} {sp : DSp} {t : Tg} {b : Bool} : asO M x = some (c, fs) → T c = some sp → tgD M y = some t → t ∈ ts → (∀ E Q, Q (.bl b) M → sp [x, y] M E Q) → SameD x y b → EqD T ts M n x y b
  | tup {n : Nat} {l m : List D} {e : Nat → Bool} : (∀ (i : Nat) (x y : D), l[i]? = some x → m[i]? = some y → EqD T ts M n x y (e i)) → EqD T ts M (n + 1) (.tup l) (.tup m) ((List.range (min l.length m.length)).all e && l.length == m.length)
theorem eqV_self : ∀ {v : V}, flatV v = true → eqV v v = true
  | .non, _ => rfl
  | .bl b, _ => by cases b <;> rfl
  | .int i, _ => by show (i == i) = true; simp
  | .str x, _ => by show (x == x) = true; simp
theorem flV_rep {K : Fg} {ca : Ca} {F : Hp} {x : D} {v w : V} (h : flV x = some w) (r : Rep K ca F x v) : v = w ∧ flatV w = true := by
  cases x with
  | non => cases h; exact ⟨r, rfl⟩
  | bl b => cases h; exact ⟨r, rfl⟩
  | int b => cases h; exact ⟨r, rfl⟩
  | str b => cases h; exact ⟨r, rfl⟩
  | _ => cases h
theorem EqD.same {T : OTab} {ts : List Tg} {M : Mem} {n : Nat} {x y : D} {b : Bool} (h : EqD T ts M n x y b) : SameD x y b := by
  induction h with
  | flat h1 h2 =>
    intro K ca F v _ rx ry
    obtain ⟨e1, f1⟩ := flV_rep h1 rx
    obtain ⟨e2, _⟩ := flV_rep h2 ry
    subst e1; subst e2
    exact eqV_self f1
  | own _ _ _ _ _ s => exact s
  | @tup n l m e _ ih =>
    intro K ca F v uq rx ry
    obtain ⟨a, vs, ev, h1, r1⟩ := rx
    obtain ⟨a', ws, ev', h2, r2⟩ := ry
    subst ev
    cases ev'
    have := uq _ _ _ h1 h2
    subst this
    have l1 := r1.length
    have l2 := r2.length
    rw [Bool.and_eq_true]
    refine ⟨List.all_eq_true.mpr fun i hi => ?_, by rw [← l1, ← l2]; simp⟩
    have hi := List.mem_range.mp hi
    have i1 : i < l.length := by omega
    have i2 : i < m.length := by omega
    obtain ⟨v1, g1, q1⟩ := r1.get (List.getElem?_eq_getElem i1)
    obtain ⟨v2, g2, q2⟩ := r2.get (List.getElem?_eq_getElem i2)
    rw [g1] at g2
    cases g2
    exact ih i _ _ (List.getElem?_eq_getElem i1) (List.getElem?_eq_getElem i2) K ca F v1 uq q1 q2
section
variable {X : Cx} {ca : Ca} {W : WX} {k j n : Nat} {T : OTab} {ts : List Tg} {M : Mem} {x y : D} {b : Bool}
def EqOk (X : Cx) (ca : Ca) (k : Nat) (T : OTab) (ts : List Tg) : Prop := ∀ c sp, T c = some sp → Mt X ca k c "__eq__" [] sp ∧ NoSubs X.K ca c ts
def KpD (X : Cx) (ca : Ca) (W : WX) (pins : List (Addr × Obj)) (σ : L2.St) (U F : Hp) (M : Mem) (δ : DEnv) (E : EX) (s' : Shared) : Prop := ∃ F' H', Inv X pins σ H' s' ∧ Ext F F' ∧ Stt X.K ca U W F' M δ E σ H'
theorem uniq {pins : List (Addr × Obj)} {σ : L2.St} {H F : Hp} {s : Shared} (I : Inv X pins σ H s) (e : Ext F H) : ∀ a l m, SqT X.K F a l → SqT X.K F a m → l = m := fun a l m h1 h2 => I.tuple_inj (h1.ext e) (h2.ext e)
theorem eq_bool_of {A : Around} {pins : List (Addr × Obj)} {s : Shared} {σ : L2.St} {H U F : Hp} {δ : DEnv} {E : EX} {vx vy : V} {u v : Value} (h : EqD T ts M n x y b) (hv : ∃ a c, vx = .ref a ∧ vy = .ref c) (I : Inv X pins σ H s) (S : Stt X.K ca U W F M δ E σ H)
    (rx : Rep X.K ca F x vx) (ry : Rep X.K ca F y vy) (ru : RelV vx u) (rv : RelV vy v)
    (k : wpAny (model X.prog X.w) A (richCompare .Eq u v) (fun r s' => r = .bool b ∧ KpD X ca W pins σ U F M δ E s') X.xe s) : wpAny (model X.prog X.w) A (eqBool u v) (fun r s' => r = b ∧ KpD X ca W pins σ U F M δ E s') X.xe s := by
  obtain ⟨a, c, e1, e2⟩ := hv
  subst e1; subst e2
  obtain rfl : u = Value.ref a := ru
  obtain rfl : v = Value.ref c := rv
  by_cases hac : a = c
  · subst hac
    have hb := h.same X.K ca F _ (uniq I S.hr.sub) rx ry
    subst hb
    exact SeqAt.EqAt.same (A := A) (s := s) (.ref a) X.prog X.w X.xe _ ⟨rfl, F, H, I, Ext.rfl', S⟩
  · refine GQ.eqBool_refG hac (wpAny_mono k (fun r s' q => ?_) fun _ _ z => z)
    exact ⟨b, q.1, rfl, q.2⟩
theorem eqD_both (ok : EqOk X ca k T ts) (tk : Takes X W) (h : EqD T ts M n x y b) : ∀ {A : Around} {pins : List (Addr × Obj)} {s : Shared} {σ : L2.St} {H U F : Hp} {δ : DEnv} {E : EX} {vx vy : V} {u v : Value}, Sub X (k + n) A → Inv X pins σ H s → Stt X.K ca U W F M δ E σ H →
    Rep X.K ca F x vx → Rep X.K ca F y vy → RelV vx u → RelV vy v → wpAny (model X.prog X.w) A (eqBool u v) (fun r s' => r = b ∧ KpD X ca W pins σ U F M δ E s') X.xe s ∧
      ((∃ a c, vx = .ref a ∧ vy = .ref c) → wpAny (model X.prog X.w) A (richCompare .Eq u v) (fun r s' => r = .bool b ∧ KpD X ca W pins σ U F M δ E s') X.xe s) := by
  induction h with
  | flat h1 h2 =>
    intro A pins s σ H U F δ E vx vy u v sb I S rx ry ru rv
    obtain ⟨e1, f1⟩ := flV_rep h1 rx
    obtain ⟨e2, f2⟩ := flV_rep h2 ry
    subst e1; subst e2
    refine ⟨eqAt_V (A := A) (s := s) ru rv f1 f2 X.prog X.w X.xe _ ⟨rfl, F, H, I, Ext.rfl', S⟩, fun ⟨a, c, e, _⟩ => ?_⟩
    subst e
    cases f1
  | @own n x y c fs sp t b eo et ey ht hs sm =>
    intro A pins s σ H U F δ E vx vy u v sb I S rx ry ru rv
    have S0 := S
    have rich : wpAny (model X.prog X.w) A (richCompare .Eq u v) (fun r s' => r = .bool b ∧ KpD X ca W pins σ U F M δ E s') X.xe s := by
      obtain ⟨⟨cl, f, hm, G⟩, ns⟩ := ok c sp et
      have L := looks_of I S.hr ry rv ey
      obtain ⟨a, da, vs, ev, ha, _⟩ := asO_ok S.hr rx eo
      subst ev
      obtain rfl : u = Value.ref a := ru
      obtain ⟨od, J⟩ := inst_of I ha
      obtain ⟨m, hF⟩ := I.fr
      refine PySem.W.cmp_K sb.room.units0 hF I.ok.mod.kin J L (ns t ht) hm.at_ hm.fn ?_
      have q := hs (fun c fs M' => E c fs δ M') (fun d M' => d = .bl b ∧ M' = M) ⟨rfl, rfl⟩
      refine wpAny_mono (run_fnD (us := [.ref a, v]) (vs := [.ref a, vy]) (ds := [x, y]) (R := fun z H' => z = .bl b ∧ ∃ F', Ext F F' ∧ HR X.K ca U F' M H') ⟨sb.room.mono (Nat.le_add_right k n), sb.fr⟩ G tk I S (.cons rfl (.cons rv .nil)) ⟨_, _, rfl, rx, _, _, rfl, ry, rfl⟩ q ?_) (fun r s' z => ?_) fun _ _ z => z
      · rintro d M' F' z H' ⟨e1, e2⟩ e r g
        subst e1; subst e2
        exact ⟨r, F', e, g⟩
      · obtain ⟨z, H', I', rz, ez, F', e, g⟩ := z
        subst ez
        cases rz
        exact ⟨rfl, F', H', I', e, S0.env.mono e, g, S0.xc.up e⟩
    obtain ⟨a, da, vs, ev, ha, _⟩ := asO_ok S.hr rx eo
    refine ⟨?_, fun _ => rich⟩
    cases hy : flatV vy with
    | false =>
      have : ∃ c, vy = .ref c := by
        cases y with
        | non => cases ry; cases hy
        | bl _ => cases ry; cases hy
        | int _ => cases ry; cases hy
        | str _ => cases ry; cases hy
        | ty _ => cases ey
        | ref p => exact ⟨_, ry⟩
        | cls _ => exact ⟨_, ry⟩
        | tup _ => obtain ⟨a, _, e, _⟩ := ry; exact ⟨_, e⟩
        | lst _ => obtain ⟨a, _, e, _⟩ := ry; exact ⟨_, e⟩
        | obj _ _ => obtain ⟨a, _, _, e, _⟩ := ry; exact ⟨_, e⟩
        | dic _ => obtain ⟨a, _, e, _⟩ := ry; exact ⟨_, e⟩
        | exc _ _ => obtain ⟨a, _, _, _, e, _⟩ := ry; exact ⟨_, e⟩
      obtain ⟨c', e'⟩ := this
      exact eq_bool_of (EqD.own (n := n) eo et ey ht hs sm) ⟨_, _, ev, e'⟩ I S rx ry ru rv rich
    | true =>
      subst ev
      obtain rfl : u = Value.ref a := ru
      unfold eqBool
      refine wpAny_holding ?_
      refine wpAny_ite_split (fun hab => ?_) (fun _ => ?_)
      · have := eq_of_beq hab
        cases vy <;> first | (cases hy; done) | (cases rv; cases this; done) | (obtain ⟨_, z⟩ := rv; subst z; cases this; done)
      · refine wpAny_bind (wpAny_mono rich (fun r s' q => ?_) fun _ _ z => z)
        obtain ⟨er, q⟩ := q
        subst er
        exact wpAny_truthy_bool ⟨rfl, q⟩
  | @tup n l m e hs ih =>
    intro A pins s σ H U F δ E vx vy u v sb I S rx ry ru rv
    have whole := EqD.tup (T := T) (ts := ts) (M := M) (n := n) (l := l) (m := m) (e := e) hs
    have rx0 := rx
    have ry0 := ry
    obtain ⟨a, vs, ev, h1, r1⟩ := rx
    obtain ⟨a', ws, ev', h2, r2⟩ := ry
    subst ev; subst ev'
    obtain rfl : u = Value.ref a := ru
    obtain rfl : v = Value.ref a' := rv
    have rich : wpAny (model X.prog X.w) A (richCompare .Eq (.ref a) (.ref a')) (fun r s' => r = .bool ((List.range (min l.length m.length)).all e && l.length == m.length) ∧ KpD X ca W pins σ U F M δ E s') X.xe s := by
      obtain ⟨its, q1, p1, z1⟩ := I.tuple (h1.ext S.hr.sub)
      obtain ⟨its2, q2, p2, z2⟩ := I.tuple (h2.ext S.hr.sub)
      have n1 : its.length = l.length := by rw [← q1.length, r1.length]
      have n2 : its2.length = m.length := by rw [← q2.length, r2.length]
      refine rcT (e := e) sb.room.units0 (fun s' => KpD X ca W pins σ U F M δ E s') p1 p2 (fun i k1 k2 s' q => ?_) (fun s' q => ⟨?_, q⟩) ⟨F, H, I, Ext.rfl', S⟩
      · obtain ⟨F1, H1, I1, e1, S1⟩ := q
        have k1' : i < its.length := by simpa using k1
        have k2' : i < its2.length := by simpa using k2
        have i1 : i < l.length := by omega
        have i2 : i < m.length := by omega
        obtain ⟨v1, g1, w1⟩ := r1.get (List.getElem?_eq_getElem i1)
        obtain ⟨v2, g2, w2⟩ := r2.get (List.getElem?_eq_getElem i2)
        obtain ⟨u1, f1, t1⟩ := q1.get g1
        obtain ⟨u2, f2, t2⟩ := q2.get g2
        have f1' : its.toArray[i] = u1 := by
          rw [List.getElem?_eq_getElem k1'] at f1
          have := Option.some.inj f1
          simpa using this
        have f2' : its2.toArray[i] = u2 := by
          rw [List.getElem?_eq_getElem k2'] at f2
          have := Option.some.inj f2
          simpa using this
        rw [f1', f2']
        refine wpAny_mono ((ih i _ _ (List.getElem?_eq_getElem i1) (List.getElem?_eq_getElem i2) (A := A.in1) ⟨Room.in1 (k := k + n) sb.room, sb.fr⟩ I1 S1 (w1.mono e1) (w2.mono e1) t1 t2).1) (fun r s2 z => ?_) fun _ _ z => z
        obtain ⟨er, F2, H2, I2, e2, S2⟩ := z
        exact ⟨er, F2, H2, I2, e1.trans e2, S2⟩
      · rw [List.size_toArray, List.size_toArray, n1, n2]
    refine ⟨eq_bool_of whole ⟨_, _, rfl, rfl⟩ I S rx0 ry0 rfl rfl rich, fun _ => rich⟩
/-- x == y -/
def oEqO (T : OTab) (ts : List Tg) (n : Nat) : DOp := fun x y M E Q => ∃ b, (∃ l m, x = .tup l ∧ y = .tup m) ∧ EqD T ts M n x y b ∧ Q (.bl b) M
theorem op_eqO (C : Ctx X j W) (ok : EqOk X ca k T ts) (hk : k + n ≤ j := by decide) : OpD X ca W (compareOp .Eq) (oEqO T ts n) := by
  intro pins s σ H U F M δ E Q R dx dy x y v u I S rx ry rv ru ho c
  obtain ⟨b, ⟨l, m, e1, e2⟩, h, q⟩ := ho
  show wpAny (model X.prog X.w) X.A (richCompare .Eq v u) (EP X pins σ R) X.xe s
  have refs : ∃ a c, x = .ref a ∧ y = .ref c := by
    subst e1; subst e2
    obtain ⟨a, _, e, _⟩ := rx
    obtain ⟨a', _, e', _⟩ := ry
    exact ⟨_, _, e, e'⟩
  refine wpAny_mono ((eqD_both ok C.tk h (sub_of C hk) I S rx ry rv ru).2 refs) (fun r s' z => ?_) fun _ _ z => z
  obtain ⟨er, F', H', I', e, S'⟩ := z
  subst er
  exact ⟨.bl b, H', I', rfl, c _ _ _ _ _ q e rfl S'.hr⟩
/-- x != y -/
def oNeO (T : OTab) (ts : List Tg) (n : Nat) : DOp := fun x y M E Q => ∃ b, (∃ l m, x = .tup l ∧ y = .tup m) ∧ EqD T ts M n x y b ∧ Q (.bl (!b)) M
theorem op_neO (C : Ctx X j W) (ok : EqOk X ca k T ts) (hk : k + n ≤ j := by decide) : OpD X ca W (compareOp .NotEq) (oNeO T ts n) := by
  intro pins s σ H U F M δ E Q R dx dy x y v u I S rx ry rv ru ho c
  obtain ⟨b, ⟨l, m, e1, e2⟩, h, q⟩ := ho
  subst e1; subst e2
  obtain ⟨a, vs, ev, h1, r1⟩ := rx
  obtain ⟨a', ws, ev', h2, r2⟩ := ry
  subst ev; subst ev'
  obtain rfl : v = Value.ref a := rv
  obtain rfl : u = Value.ref a' := ru
  show wpAny (model X.prog X.w) X.A (richCompare .NotEq _ _) (EP X pins σ R) X.xe s
  have sb := sub_of C hk
  cases h with
  | flat z => cases z
  | own z => cases z
  | @tup n _ _ e hs =>
    obtain ⟨its, q1, p1, z1⟩ := I.tuple (h1.ext S.hr.sub)
    obtain ⟨its2, q2, p2, z2⟩ := I.tuple (h2.ext S.hr.sub)
    have n1 : its.length = l.length := by rw [← q1.length, r1.length]
    have n2 : its2.length = m.length := by rw [← q2.length, r2.length]
    refine rcTn (e := e) C.room.units0 (fun s' => KpD X ca W pins σ U F M δ E s') p1 p2 (fun i k1 k2 s' q => ?_) (fun s' z => ?_) ⟨F, H, I, Ext.rfl', S⟩
    · obtain ⟨F1, H1, I1, e1, S1⟩ := q
      have k1' : i < its.length := by simpa using k1
      have k2' : i < its2.length := by simpa using k2
      have i1 : i < l.length := by omega
      have i2 : i < m.length := by omega
      obtain ⟨v1, g1, w1⟩ := r1.get (List.getElem?_eq_getElem i1)
      obtain ⟨v2, g2, w2⟩ := r2.get (List.getElem?_eq_getElem i2)
      obtain ⟨u1, f1, t1⟩ := q1.get g1
      obtain ⟨u2, f2, t2⟩ := q2.get g2
      have f1' : its.toArray[i] = u1 := by
        rw [List.getElem?_eq_getElem k1'] at f1
        have := Option.some.inj f1
        simpa using this
      have f2' : its2.toArray[i] = u2 := by
        rw [List.getElem?_eq_getElem k2'] at f2
        have := Option.some.inj f2
        simpa using this
      rw [f1', f2']
      refine wpAny_mono ((eqD_both ok C.tk (hs i _ _ (List.getElem?_eq_getElem i1) (List.getElem?_eq_getElem i2)) (A := X.A.in1) ⟨Room.in1 (k := k + n) sb.room, sb.fr⟩ I1 S1 (w1.mono e1) (w2.mono e1) t1 t2).1) (fun r s2 z => ?_) fun _ _ z => z
      obtain ⟨er, F2, H2, I2, e2, S2⟩ := z
      exact ⟨er, F2, H2, I2, e1.trans e2, S2⟩
    · obtain ⟨F', H', I', e', S'⟩ := z
      rw [List.size_toArray, List.size_toArray, n1, n2]
      exact ⟨.bl _, H', I', rfl, c _ _ _ _ _ q e' rfl S'.hr⟩
end
/-! ### pairs, tuples -/
section
variable {T : OTab} {ts : List Tg} {M : Mem} {n : Nat} {E : XD} {Q : QD}
theorem EqD.two {a b c d : D} {p q : Bool} (h1 : EqD T ts M n a c p) (h2 : EqD T ts M n b d q) : EqD T ts M (n + 1) (.tup [a, b]) (.tup [c, d]) (p && q) := by
  have h := EqD.tup (T := T) (ts := ts) (M := M) (n := n) (l := [a, b]) (m := [c, d]) (e := fun i => if i = 0 then p else q) fun i x y e1 e2 => by
    cases i with
    | zero => cases e1; cases e2; exact h1
    | succ i =>
      cases i with
      | zero => cases e1; cases e2; exact h2
      | succ i => simp at e1
  have e : ((List.range (min [a, b].length [c, d].length)).all (fun i => if i = 0 then p else q) && [a, b].length == [c, d].length) = (p && q) := by
    simp [List.range, List.range.loop]
  rw [e] at h
  exact h
/-- items of one kind: equal just if what they stand for is -/
theorem EqD.row {α : Type} [DecidableEq α] {f : α → D} {xs ys : List α} (h : ∀ x ∈ xs, ∀ y ∈ ys, EqD T ts M n (f x) (f y) (decide (x = y))) : EqD T ts M (n + 1) (.tup (xs.map f)) (.tup (ys.map f)) (decide (xs = ys)) := by
  have h := EqD.tup (T := T) (ts := ts) (M := M) (n := n) (l := xs.map f) (m := ys.map f) (e := fun i => decide (xs[i]? = ys[i]?)) fun i x y e1 e2 => by
    rw [List.getElem?_map] at e1 e2
    cases z1 : xs[i]? with
    | none => rw [z1] at e1; cases e1
    | some a =>
      cases z2 : ys[i]? with
      | none => rw [z2] at e2; cases e2
      | some b =>
        rw [z1] at e1
        rw [z2] at e2
        cases e1; cases e2
        have g := h a (List.mem_of_getElem? z1) b (List.mem_of_getElem? z2)
        simpa using g
  have e : ((List.range (min (xs.map f).length (ys.map f).length)).all (fun i => decide (xs[i]? = ys[i]?)) && (xs.map f).length == (ys.map f).length) = decide (xs = ys) := by
    rw [List.length_map, List.length_map, Bool.eq_iff_iff, Bool.and_eq_true, decide_eq_true_eq, List.all_eq_true, beq_iff_eq]
    constructor
    · rintro ⟨h1, h2⟩
      refine List.ext_getElem? fun i => ?_
      by_cases hi : i < xs.length
      · exact of_decide_eq_true (h1 i (List.mem_range.mpr (by omega)))
      · rw [List.getElem?_eq_none (by omega), List.getElem?_eq_none (by omega)]
    · rintro rfl
      exact ⟨fun i _ => decide_eq_true rfl, rfl⟩
  rw [e] at h
  exact h
theorem x_eqO {x y : List D} {b : Bool} (h : EqD T ts M n (.tup x) (.tup y) b) (q : Q (.bl b) M) : oEqO T ts n (.tup x) (.tup y) M E Q := ⟨b, ⟨x, y, rfl, rfl⟩, h, q⟩
theorem x_neO {x y : List D} {b : Bool} (h : EqD T ts M n (.tup x) (.tup y) b) (q : Q (.bl (!b)) M) : oNeO T ts n (.tup x) (.tup y) M E Q := ⟨b, ⟨x, y, rfl, rfl⟩, h, q⟩
end
end TS
namespace TS
open PySem PySem.Spec PyProof.Rows L2
/-! ### x in a tuple, a list of flat values -/
def flVs : List D → Option (List V)
  | [] => some []
  | d :: l => match flV d, flVs l with
    | some v, some vs => some (v :: vs)
    | _, _ => none
theorem flVs_rep {K : Fg} {ca : Ca} {F : Hp} : ∀ {l : List D} {vs ws : List V}, flVs l = some ws → RepL K ca F l vs → vs = ws ∧ ws.all flatV = true
  | [], _, _, h, r => by cases h; cases r; exact ⟨rfl, rfl⟩
  | d :: l, _, _, h, ⟨v, r, e, rd, rl⟩ => by
    subst e
    unfold flVs at h
    cases h1 : flV d with
    | none => rw [h1] at h; cases h
    | some u =>
      cases h2 : flVs l with
      | none => rw [h1, h2] at h; cases h
      | some us =>
        rw [h1, h2] at h
        cases h
        obtain ⟨e1, f1⟩ := flV_rep h1 rd
        obtain ⟨e2, f2⟩ := flVs_rep h2 rl
        subst e1; subst e2
        exact ⟨rfl, by rw [List.all_cons, f1, f2]; rfl⟩
def rowD? (M : Mem) : D → Option (List D)
  | .tup l => some l
  | d => asL M d
def oIn0 (neg : Bool) : DOp := fun x y M E Q => ∃ vx l vs, flV x = some vx ∧ rowD? M y = some l ∧ flVs l = some vs ∧ Q (.bl (if neg then !inV vx vs else inV vx vs)) M
section
variable {X : Cx} {ca : Ca} {W : WX}
theorem rowD_rep {K : Fg} {U F H : Hp} {M : Mem} {y : D} {l : List D} {v : V} (hr : HR K ca U F M H) (h : rowD? M y = some l) (r : Rep K ca F y v) : ∃ p vs, v = .ref p ∧ (SqL K H p vs ∨ SqT K H p vs) ∧ RepL K ca F l vs := by
  cases y with
  | tup l' =>
    cases h
    obtain ⟨a, vs, e, hs, rl⟩ := r
    exact ⟨a, vs, e, .inr (hs.ext hr.sub), rl⟩
  | lst l' =>
    obtain ⟨a, vs, e, hs, rl⟩ := asL_ok hr r h
    exact ⟨a, vs, e, .inl hs, rl⟩
  | ref p =>
    obtain ⟨a, vs, e, hs, rl⟩ := asL_ok hr r h
    exact ⟨a, vs, e, .inl hs, rl⟩
  | _ => cases h
theorem op_in0 : OpD X ca W (compareOp .In) (oIn0 false) := opD_of op_in_seq fun U F H M δ E Q R dx dy x y hr rx ry ho c => by
  obtain ⟨vx, l, vs, h1, h2, h3, q⟩ := ho
  obtain ⟨e1, f1⟩ := flV_rep h1 rx
  obtain ⟨p, ws, e2, hs, rl⟩ := rowD_rep hr h2 ry
  obtain ⟨e3, f3⟩ := flVs_rep h3 rl
  subst e1; subst e2; subst e3
  exact ⟨p, ws, rfl, hs, f1, f3, c _ _ _ _ _ q Ext.rfl' rfl hr⟩
theorem op_notIn0 : OpD X ca W (compareOp .NotIn) (oIn0 true) := opD_of op_notIn_seq fun U F H M δ E Q R dx dy x y hr rx ry ho c => by
  obtain ⟨vx, l, vs, h1, h2, h3, q⟩ := ho
  obtain ⟨e1, f1⟩ := flV_rep h1 rx
  obtain ⟨p, ws, e2, hs, rl⟩ := rowD_rep hr h2 ry
  obtain ⟨e3, f3⟩ := flVs_rep h3 rl
  subst e1; subst e2; subst e3
  exact ⟨p, ws, rfl, hs, f1, f3, c _ _ _ _ _ q Ext.rfl' rfl hr⟩
theorem flVs_ints : ∀ ns : List Int, flVs (ns.map D.int) = some (ns.map V.int)
  | [] => rfl
  | n :: ns => by simp only [List.map, flVs, flV, flVs_ints ns]
theorem flVs_strs : ∀ ns : List Str, flVs (ns.map D.str) = some (ns.map V.str)
  | [] => rfl
  | n :: ns => by simp only [List.map, flVs, flV, flVs_strs ns]
theorem inV_ints (k : Int) : ∀ ns : List Int, inV (.int k) (ns.map V.int) = decide (k ∈ ns)
  | [] => rfl
  | n :: ns => by
    have ih := inV_ints k ns
    unfold inV at ih ⊢
    rw [List.map_cons, List.any_cons, ih]
    show ((n == k) || _) = _
    rw [Bool.eq_iff_iff, Bool.or_eq_true, beq_iff_eq, decide_eq_true_iff, decide_eq_true_iff, List.mem_cons]
    exact ⟨fun h => h.imp Eq.symm _root_.id, fun h => h.imp Eq.symm _root_.id⟩
theorem inV_strs (k : Str) : ∀ ns : List Str, inV (.str k) (ns.map V.str) = decide (k ∈ ns)
  | [] => rfl
  | n :: ns => by
    have ih := inV_strs k ns
    unfold inV at ih ⊢
    rw [List.map_cons, List.any_cons, ih]
    show ((n == k) || _) = _
    rw [Bool.eq_iff_iff, Bool.or_eq_true, beq_iff_eq, decide_eq_true_iff, decide_eq_true_iff, List.mem_cons]
    exact ⟨fun h => h.imp Eq.symm _root_.id, fun h => h.imp Eq.symm _root_.id⟩
theorem x_inI {k : Int} {ns : List Int} {neg : Bool} {M : Mem} {E : XD} {Q : QD} (h : Q (.bl (if neg then !decide (k ∈ ns) else decide (k ∈ ns))) M) : oIn0 neg (.int k) (.tup (ns.map D.int)) M E Q := ⟨_, _, _, rfl, rfl, flVs_ints ns, by rw [inV_ints]; exact h⟩
theorem x_inIL {k : Int} {ns : List Int} {neg : Bool} {M : Mem} {E : XD} {Q : QD} (h : Q (.bl (if neg then !decide (k ∈ ns) else decide (k ∈ ns))) M) : oIn0 neg (.int k) (.lst (ns.map D.int)) M E Q := ⟨_, _, _, rfl, rfl, flVs_ints ns, by rw [inV_ints]; exact h⟩
theorem x_inS {k : Str} {ns : List Str} {ds : List D} {neg : Bool} {M : Mem} {E : XD} {Q : QD} (e : ds = ns.map D.str) (h : Q (.bl (if neg then !decide (k ∈ ns) else decide (k ∈ ns))) M) : oIn0 neg (.str k) (.tup ds) M E Q := ⟨_, _, _, rfl, rfl, by rw [e]; exact flVs_strs ns, by rw [inV_strs]; exact h⟩
theorem x_inSL {k : Str} {ns : List Str} {ds : List D} {neg : Bool} {M : Mem} {E : XD} {Q : QD} (e : ds = ns.map D.str) (h : Q (.bl (if neg then !decide (k ∈ ns) else decide (k ∈ ns))) M) : oIn0 neg (.str k) (.lst ds) M E Q := ⟨_, _, _, rfl, rfl, by rw [e]; exact flVs_strs ns, by rw [inV_strs]; exact h⟩
end
/-! ### (a, b) = a list -/
section
variable {X : Cx} {ca : Ca} {W : WX} {pos : Pos} {k j c : Nat}
def gLstD (t : DTGs) (n : Nat) : DTG := fun d δ M E Q => match asL M d with | some l => l.length = n ∧ t l δ M E Q | none => False
theorem dg_lst {es : List Expr} {k : Nat} {t : DTGs} {n : Nat} (hc : X.calm = true) (h : PGs X es (liftGs X.K ca W t)) (hn : (assignEach es X.env).length = n := by rfl) (hst : (assignEach es X.env).findIdx? (·.1) = none := by rfl) : DPG X ca W (.Tuple es k pos) (gLstD t n) :=
  pgImp (pg_lst hc h hn hst) fun v σ H R ⟨U, F, M, δ, E, Q, d, S, r, h, c⟩ => by
    unfold gLstD at h
    cases el : asL M d with
    | none => rw [el] at h; exact h.elim
    | some l =>
      rw [el] at h
      obtain ⟨a, vs, e1, hq, rl⟩ := asL_ok S.hr r el
      exact ⟨a, vs, e1, hq, by rw [rl.length]; exact h.1, U, F, M, δ, E, Q, l, S, rl, h.2, c⟩
theorem x_gLst {l : List D} {t : DTGs} {n : Nat} {δ : DEnv} {M : Mem} {E : EX} {Q : DEnv → Mem → Prop} (hn : l.length = n) (h : t l δ M E Q) : gLstD t n (.lst l) δ M E Q := ⟨hn, h⟩
/-! ### C(), of *rest -/
theorem de_makeR0 {x : Str} {spC : DSp} {p pos : Pos} (C : Ctx X j W) (G : MkrR X ca k c x spC) (hk : k + 1 ≤ j := by decide) (hg : Gl X x := by rfl) (hdb : (x == ("__debug__" : Str)) = false := by decide) : DE X ca W (.Call (.Name x p) [] [] pos) (dCB spC dNil) := by
  refine ⟨fun pins s σ H R I ⟨U, F, M, δ, E, Q, S, h, c'⟩ => ?_⟩
  obtain ⟨f, spR, hm, mk, _⟩ := G.ex
  refine wpAny_Call_Name_kw (ld_glob I hg hm ?_ hdb)
  exact PySem.W.callWith_K0 I.kIn mk.kp (run_mkR (vs := []) (ws := []) (ds := []) C G hk I S .nil rfl h c')
end
section
variable {P : Program} {w : World} {K : Fg} {mg : Str → Option Value} {base : Heap} {ca : Ca} {k c : Nat} {f : Addr} {x : Str} {spC spR : DSp}
theorem at_mkrR (hm : mg x = some (.ref (ca c))) (mk : Mk K (ca c) f) (G : FnRo P w K mg base k f (toSp K ca spR))
    (h : ∀ ds M E Q, spC ds M E Q → ∀ x, M x = none → spR (.ref x :: ds) (M.set x (.ins c [])) (fun c' fs M' => E c' fs (M'.del x)) fun v M2 => v = .non ∧ ∃ fs, M2 x = some (.ins c fs) ∧ Q (.obj c fs) (M2.del x)) : AtX P w K mg base fun X => MkrR X ca k c x spC := by
  rintro X rfl rfl rfl rfl rfl
  exact ⟨f, spR, hm, mk, G, h⟩
theorem at_eqo {T : OTab} {ts : List Tg} (h : AtX P w K mg base fun X => CmpOwnOk X ca k (cmpInfo .Eq).2.1 T ts) : AtX P w K mg base fun X => EqOk X ca k T ts := by
  rintro X rfl rfl rfl rfl rfl
  exact h _ rfl rfl rfl rfl rfl
end
end TS
namespace TS
open PySem PySem.Spec PyProof.Rows L2
/-! ### a global that is a tuple of texts -/
def strsV : List Value → Option (List Str)
  | [] => some []
  | .str z _ :: r => match strsV r with | some zs => some (z :: zs) | none => none
  | _ => none
theorem strsV_ok : ∀ {us : List Value} {zs : List Str}, strsV us = some zs → Vals (zs.map V.str) us
  | [], _, h => by cases h; exact .nil
  | u :: us, zs, h => by
    cases u with
    | str z t =>
      unfold strsV at h
      cases e : strsV us with
      | none => rw [e] at h; cases h
      | some ys =>
        rw [e] at h
        cases h
        exact .cons ⟨t, rfl⟩ (strsV_ok e)
    | _ => cases h
theorem repL_ofStrs {K : Fg} {ca : Ca} {F : Hp} : ∀ zs : List Str, RepL K ca F (zs.map D.str) (zs.map V.str)
  | [] => rfl
  | z :: zs => ⟨.str z, zs.map V.str, rfl, rfl, repL_ofStrs zs⟩
def ckTupG (K : Fg) (x : Str) (zs : List Str) : Bool := match PySem.W.nsIn K mainGlobals x with
  | some (some (.ref a)) => (match K.lookup a with
    | some o => decide (o.cls = .type "tuple") && (match o.data with
      | .seq its _ => decide (strsV its.toList = some zs) && decide (its.size ≤ sizeLine)
      | _ => false)
    | none => false)
  | _ => false
theorem at_tupG {P : Program} {w : World} {K : Fg} {mg : Str → Option Value} {base h : Heap} {ca : Ca} {x : Str} {zs : List Str} (X : K.In h) (G : h.Ns mainGlobals mg) (c : ckTupG K x zs = true) : AtX P w K mg base fun X => GC X ca x (.tup (zs.map D.str)) := by
  rintro Y rfl rfl rfl rfl rfl
  unfold ckTupG at c
  cases e : PySem.W.nsIn Y.K mainGlobals x with
  | none => rw [e] at c; cases c
  | some v =>
    cases v with
    | none => rw [e] at c; cases c
    | some v =>
      cases v with
      | ref a =>
        rw [e] at c
        simp only at c
        cases e2 : Y.K.lookup a with
        | none => rw [e2] at c; cases c
        | some o =>
          rw [e2] at c
          simp only at c
          obtain ⟨c1, c2⟩ := He.ba c
          cases e3 : o.data with
          | seq its n =>
            rw [e3] at c2
            simp only at c2
            obtain ⟨c3, c4⟩ := He.ba c2
            exact ⟨.ref a, .ref a, PySem.W.mg_of X G e, rfl, fun F => ⟨a, zs.map V.str, rfl, .inr ⟨o, its, n, e2, of_decide_eq_true c1, e3, of_decide_eq_true c4, strsV_ok (of_decide_eq_true c3)⟩, repL_ofStrs zs⟩⟩
          | _ => rw [e3] at c2; cases c2
      | _ => rw [e] at c; cases c
end TS
namespace TS
open PySem PySem.Spec PyProof.Rows L2
/-! ### repr of a list whose items tell their own repr -/
section
variable {prog : Program} {w : World} {K : Fg} {A : Around} {E : Value → Shared → Prop} {s : Shared} {x C f : Addr} {ox : Obj} {od : Option Obj} {name : Str}
theorem ifBoundBy_K {M : Model} {last : Value → List Value → Sem Value} {Q : Option Value → Shared → Prop} (X : K.In s.heap) (I : PySem.W.InstAt s.heap x ox C od) (hs : PySem.W.findIn K (.ref C) name = some (some (.ref f))) (hf : PySem.W.isFn K (.ref f) = true)
    (h : wpAny M A (last (.ref f) [.ref x]) (fun v => Q (some v)) E s) : wpAny M A (callSpecialIfBoundBy? last (.ref x) name) Q E s := by
  simp only [callSpecialIfBoundBy?, bindSpecialIfBound?]
  refine wpAny_holding (wpAny_bind (wpAny_bind (wpAny_bind (I.type.here ((PySem.W.looks_findIn X hs).here ?_)))))
  refine wpAny_bind (wpAny_askSetting (wpAny_ite ?_))
  have fin : wpAny M A (last (.ref f) [.ref x] >>= fun v => pure (some v)) Q E s := wpAny_bind (wpAny_mono h (fun v s' h' => wpAny_pure h') fun _ _ h' => h')
  split
  · exact wpAny_bind ((PySem.W.bind_fn X _ (beq_iff_eq.mp hf)).here (wpAny_pure (by exact fin)))
  · exact wpAny_tryCatch (wpAny_bind ((PySem.W.bind_fn X _ (beq_iff_eq.mp hf)).here (wpAny_pure (by exact fin))))
theorem reprUnder_K {b : Nat} {Q : Str → Shared → Prop} (hb : b ≤ sizeLine) (hu : A.units < cLine) (X : K.In s.heap) (I : PySem.W.InstAt s.heap x ox C od) (hs : PySem.W.findIn K (.ref C) "__repr__" = some (some (.ref f))) (hf : PySem.W.isFn K (.ref f) = true)
    (h : wpAny (model prog w) A (call (.ref f) [.ref x]) (fun v s' => ∃ z t, v = .str z t ∧ Q z s') E s) : wpAny (model prog w) A (pyReprUnder b (.ref x)) Q E s := by
  refine wpAny_pyReprUnder_ref hb ?_
  unfold pyReprObjUnder pyReprObjBy
  refine wpAny_bind (wpAny_cRoomFor hu ?_)
  refine wpAny_bind (wpAny_bind (I.type.here ((PySem.W.looks_findIn X hs).here ?_)))
  show wpAny _ _ (if (some (Value.ref f)).isNone = true then _ else _) _ _ _
  rw [if_neg (by simp)]
  refine wpAny_bind (m := callSpecialIfBoundBy? _ (.ref x) (Str.ofString "__repr__")) (ifBoundBy_K X I hs hf ?_)
  show wpAny _ _ (call (.ref f) [.ref x]) _ _ _
  refine wpAny_mono h (fun r s' hr => ?_) fun _ _ y => y
  obtain ⟨z, t, rfl, q⟩ := hr
  refine wpAny_bind (wpAny_isInstance (typeIs_str _ _ _) isSubtype_str_str ?_)
  first
    | exact wpAny_pure ⟨_, _, rfl, q⟩
    | (rw [if_pos rfl]; exact wpAny_pure ⟨_, _, rfl, q⟩)
    | (simp only [if_true]; exact wpAny_pure ⟨_, _, rfl, q⟩)
end
abbrev loP (acc : Array Value) (c : Nat) : Obj := { cls := .type "list", dict := none, data := .seq acc c, slots := #[] }
/-- each item is an own object that tells its text -/
def OwnTexts (T : OTab) (M : Mem) (ds : List D) (ts : List Str) : Prop := ts.length = ds.length ∧ ∀ (i : Nat) (d : D) (t : Str), ds[i]? = some d → ts[i]? = some t → ∃ c fs sp, asO M d = some (c, fs) ∧ T c = some sp ∧ ∀ E Q, Q (.str t) M → sp [d] M E Q
section
variable {X : Cx} {ca : Ca} {W : WX} {k j : Nat} {T : OTab} {M : Mem} {pins : List (Addr × Obj)} {σ : L2.St} {U F0 : Hp} {δ : DEnv} {E : EX} {R : VK} {a P : Addr} {vs : List V} {ds : List D} {ts : List Str}
theorem cell_ne {H : Hp} {s : Shared} {o : Obj} (I : Inv X ((P, o) :: pins) σ H s) : ∀ x c, X.env.cells.lookup x = some c → c ≠ P := fun x c e z => by
  obtain ⟨v, o', ho, hd⟩ := I.cell x c e
  obtain ⟨p1, _, _, _, p5⟩ := I.pin (P, o) (List.mem_append_right _ (List.mem_cons_self ..))
  rw [z, p1] at ho
  cases ho
  exact p5 v hd
theorem repr_loopO (tk : Takes X W) (ok : MOk X ca k "__repr__" T) (hj : Room j X.A) (hk : k + 2 ≤ j) (hk30 : k < 30) (hne : a ≠ P) (hP0 : X.s_0.heap.objs.size ≤ P) (hP3 : ∀ p ∈ X.pn ++ pins, p.1 ≠ P)
    (hsq : SqL X.K F0 a vs) (rl : RepL X.K ca F0 ds vs) (own : OwnTexts T M ds ts) (hsz : (listText ts).length ≤ sizeLine)
    (fin : ∀ (F' H' : Hp) (s' : Shared) (u : Tok), Inv X pins σ H' s' → Ext F0 F' → Stt X.K ca U W F' M δ E σ H' → EP X pins σ R (.str (listText ts) u) s') :
    ∀ (n i : Nat) (s : Shared) (F H : Hp) (acc : Array Value) (c : Nat) (done : List (Str × Tok)), ds.length - i = n → i ≤ ds.length → Inv X ((P, loP acc c) :: pins) σ H s → Ext F0 F → Stt X.K ca U W F M δ E σ H → acc.toList = strValues done → done.map (·.1) = ts.take i →
      codeAny (model X.prog X.w) X.A.in1 (.builtin "list.__repr__.loop" ⟨[.ref a, rawInt i, .ref P, rawInt ((piled (ts.take i) : Nat) : Int)], []⟩) (callEnd (EP X pins σ R) X.xe) s := by
  obtain ⟨hlen, own⟩ := own
  have hX : (listText ts).length = (textFrom 0 "[" ts).length + 1 := by
    show (textFrom 0 "[" ts ++ "]").length = _
    rw [strLen_append]; rfl
  have hL := textFrom_len ts 0 "["
  have hsz2 : ∀ t ∈ ts, t.length ≤ sizeLine := fun t ht => by
    have h2 := hL.2.1 t ht
    omega
  have hsz1 : ts.length ≤ sizeLine := by
    have h1 := hL.1
    rw [if_neg (Nat.lt_irrefl 0)] at h1
    omega
  have hp3 := piled_le_listText ts
  intro n
  induction n with
  | zero =>
    intro i s F H acc c done hn hi I e S hacc hdone
    have hin : i = ds.length := by omega
    obtain ⟨its, r, ⟨oa, na, ha, hc, hd, hda⟩, _⟩ := I.list (hsq.ext (e.trans S.hr.sub))
    have nl : its.length = ds.length := by rw [← r.length, rl.length]
    have hP := ClX.pin_at I
    refine codeAny_builtin PySem.F.entry_list_repr_loop ?_
    show wpAny _ _ (Builtin.«list.__repr__.loop» ⟨[.ref a, .int i 0, .ref P, .int ((piled (ts.take i) : Nat) : Int) 0], []⟩) _ _ s
    rw [repr_loop_tree]
    refine wpAny_bind (wpAny_listItems ha hda ?_)
    have hnone : its.toArray[(i : Int).toNat]? = none := by simp; omega
    simp only [hnone]
    unfold reprEnd
    refine wpAny_bind (wpAny_listItems hP rfl ?_)
    rw [hacc, repr_fold]
    refine wpAny_bind (wpAny_pure ?_)
    have hall : done.map (·.1) = ts := by rw [hdone, hin, ← hlen, List.take_length]
    rw [hall]
    refine wpAny_bind (wpAny_mkStr (wpAny_pure ?_) hsz)
    exact fin F H _ _ ((ClX.unpin I).tok _) e S
  | succ n ih =>
    intro i s F H acc c done hn hi I e S hacc hdone
    have hlt : i < ds.length := by omega
    obtain ⟨its, r, ⟨oa, na, ha, hc, hd, hda⟩, _⟩ := I.list (hsq.ext (e.trans S.hr.sub))
    have nl : its.length = ds.length := by rw [← r.length, rl.length]
    have ht : ts[i]? = some (ts[i]'(by omega)) := List.getElem?_eq_getElem (by omega)
    have hdi := List.getElem?_eq_getElem hlt
    generalize ds[i] = d at hdi
    generalize ts[i]'(by omega) = t at ht
    obtain ⟨v, g1, w1⟩ := rl.get hdi
    obtain ⟨u, f1, t1⟩ := r.get g1
    have hp1 := piled_take_succ ht
    have hp2 := piled_take_le ts (i + 1)
    obtain ⟨cl, fs, sp, eo, et, hsp⟩ := own i d t hdi ht
    obtain ⟨_, f, hm, G⟩ := ok cl sp et
    obtain ⟨b, da, ws, ev, hb, _⟩ := asO_ok S.hr (w1.mono e) eo
    subst ev
    obtain rfl : u = Value.ref b := t1
    obtain ⟨od, J⟩ := inst_of I hb
    refine codeAny_builtin PySem.F.entry_list_repr_loop ?_
    show wpAny _ _ (Builtin.«list.__repr__.loop» ⟨[.ref a, .int i 0, .ref P, .int ((piled (ts.take i) : Nat) : Int) 0], []⟩) _ _ s
    rw [repr_loop_tree]
    refine wpAny_bind (wpAny_listItems ha hda ?_)
    have hsome : its.toArray[(i : Int).toNat]? = some (.ref b) := by simpa using f1
    simp only [hsome]
    rw [Int.toNat_natCast]
    have room : Room k (X.A.in1.under (.builtin "list.__repr__.loop" ⟨[.ref a, rawInt i, .ref P, rawInt ((piled (ts.take i) : Nat) : Int)], []⟩)) := Room.loop (Room.in1 (hj.mono hk)) hk30 _
    refine wpAny_bind (wpAny_holding (reprUnder_K (by omega) room.units0 I.kIn J hm.at_ hm.fn ?_))
    have q := hsp (fun c fs M' => E c fs δ M') (fun d M' => d = .str t ∧ M' = M) ⟨rfl, rfl⟩
    refine wpAny_mono (run_fnD (us := [.ref b]) (vs := [.ref b]) (ds := [d]) (R := fun z H' => z = .str t ∧ ∃ F', Ext F F' ∧ HR X.K ca U F' M H') ⟨room, loop_frames⟩ G tk I S (.cons rfl .nil) ⟨_, _, rfl, w1.mono e, rfl⟩ q ?_) (fun z' s' z => ?_) fun _ _ z => z
    · rintro d' M' F' z H' ⟨e1, e2⟩ e r g
      subst e1; subst e2
      exact ⟨r, F', e, g⟩
    obtain ⟨z, H', I', rz, ez, F', e', g⟩ := z
    subst ez
    obtain ⟨tk', rfl⟩ := id rz
    refine ⟨t, tk', rfl, ?_⟩
    refine wpAny_bind (wpAny_mkStr ?_ (hsz2 t (List.mem_of_getElem? ht)))
    refine wpAny_bind ?_
    have hP := ClX.pin_at I'
    show wpAny _ _ (updateSeq P _) _ _ _
    have hasz : acc.size ≤ sizeLine := by
      have e1 : acc.toList.length = acc.size := by simp
      have e2 : (strValues done).length = done.length := by simp [strValues]
      have e3 : done.length = (ts.take i).length := by rw [← hdone, List.length_map]
      have e4 : (ts.take i).length ≤ i := by rw [List.length_take]; omega
      rw [hacc] at e1; omega
    refine wpAny_updateSeq hP rfl (wpAny_pure ⟨PySem.F.quiet_list_repr_loop _, ?_⟩) hasz
    have e1 : ((i : Int) + 1) = ((i + 1 : Nat) : Int) := by omega
    have e2 : piled (ts.take i) + (t.length + 2) = piled (ts.take (i + 1)) := by omega
    rw [e1, e2]
    obtain ⟨p1, p2, p3, p4, p5⟩ := I'.pin (P, loP acc c) (List.mem_append_right _ (List.mem_cons_self ..))
    have I2 := (ClX.unpin I').turned (t' := s'.toks + 1) (it := P) (h' := s'.heap.update P (Obj.mapSeq (·.push (.str t s'.toks)))) (fun b o hb eb => (Heap.get?_update_other _ _ (Ne.symm hb)).trans eb) p2 p3 (.inr hP0) (cell_ne I') hP3
    have self : (s'.heap.update P (Obj.mapSeq (·.push (.str t s'.toks)))).get? P = some (loP (acc.push (.str t s'.toks)) _) := Heap.get?_update_self _ hP rfl
    have I3 : Inv X ((P, loP (acc.push (.str t s'.toks)) _) :: pins) σ H' { s' with heap := s'.heap.update P (Obj.mapSeq (·.push (.str t s'.toks))), toks := s'.toks + 1 } := I2.pins_of fun p hp => by
      rcases List.mem_cons.mp hp with e | e
      · subst e
        exact ⟨self, p2, p3, p4, fun v z => by cases z⟩
      · exact I2.pin p (List.mem_append_right _ e)
    exact ih (i + 1) _ F' H' (acc.push (.str t s'.toks)) _ (done ++ [(t, s'.toks)]) (by omega) hlt I3 (e.trans e') ⟨S.env.mono e', g, S.xc.up e'⟩ (by simp [hacc, strValues]) (by simp [List.take_add_one, ht, hdone])
end
/-- repr(x), x a list of own objects -/
def bReprO (T : OTab) (x : D) (M : Mem) (E : XD) (Q : QD) : Prop := ∃ ds ts, x = .lst ds ∧ ds ≠ [] ∧ OwnTexts T M ds ts ∧ (listText ts).length ≤ sizeLine ∧ Q (.str (listText ts)) M
section
variable {X : Cx} {ca : Ca} {W : WX} {j k : Nat} {T : OTab}
theorem call_reprO (C : Ctx X j W) (ok : MOk X ca k "__repr__" T) (hj : 30 ≤ j := by decide) (hk : k < 28 := by decide) : CallD X ca W (.builtin "repr") (b1 (bReprO T)) := .one fun pins s σ H U F M δ E Q R d v u I S rd ru h c => by
  obtain ⟨ds, ts, rfl, hne, own, hsz, q⟩ := h
  obtain ⟨a, vs, rfl, hsq, rl⟩ := rd
  obtain rfl : u = Value.ref a := ru
  obtain ⟨its, r, ⟨oa, na, ha, hc, hd, hda⟩, _⟩ := I.list (hsq.ext S.hr.sub)
  have nl : its.length = ds.length := by rw [← r.length, rl.length]
  have un := C.room.un
  have gd : X.A.in1.guards = some [] := C.room.gd hj
  have ty : s.TypeIs (.ref a) "list" := ⟨oa, ha, hc⟩
  refine call_repr_slot (by omega) ty PySem.F.slot_list_repr.toG ?_
  have run : wpAny (model X.prog X.w) X.A.in1 (call (.builtin "list.__repr__") [.ref a]) (EP X pins σ fun z H' => (∃ b, z = .str b) ∧ R z H') X.xe s := by
    refine wpAny_call (codeAny_call_builtin PySem.F.slot_list_repr.plain PySem.F.entry_list_repr (PySem.F.slot_list_repr.check _ _ _ _ _ _ _ _ ty (PySem.F.args_list_repr_1 _) ?_))
    cases its with
    | nil => exact absurd (List.length_eq_zero_iff.mp (by rw [← nl]; rfl)) hne
    | cons x l =>
    refine wpAny_list_repr_head (A := X.A.in1.in1) gd (fun v rest kw hm => nomatch hm) ha hda ?_
    refine wpAny_bind (m := newList []) (wpAny_newObj_type ?_)
    refine wpAny_pure ⟨PySem.F.quiet_list_repr_loop _, ?_⟩
    have hP3 : ∀ p ∈ X.pn ++ pins, p.1 ≠ s.heap.objs.size := fun p hp e => by
      obtain ⟨p1, _⟩ := I.pin p hp
      exact Nat.ne_of_lt (Heap.lt_size p1) e
    have I1 : Inv X ((s.heap.objs.size, loP #[] _) :: pins) σ H { s with heap := s.heap.push { cls := .type "list", data := .seq ([] : List Value).toArray } } :=
      ClX.pin_new (t' := s.toks) I (fun b u e => Heap.get?_push_of_some _ e) (Nat.le_refl _) (Heap.get?_push_size _ rfl) (fun v z => by cases z)
    exact repr_loopO (ds := ds) C.tk ok C.room (by omega) (by omega) (Nat.ne_of_lt (Heap.lt_size ha)) I.sz hP3 hsq rl own hsz (fun F' H' s' u I' e' S' => ⟨.str (listText ts), H', I', ⟨u, rfl⟩, ⟨_, rfl⟩, c _ _ _ _ _ q e' rfl S'.hr⟩) ds.length 0 _ F H #[] _ [] rfl (Nat.zero_le _) I1 Ext.rfl' S rfl (by simp)
  refine wpAny_mono run (fun r s' z => ?_) fun _ _ z => z
  obtain ⟨x, H', I', rx, ⟨b, rfl⟩, q'⟩ := z
  obtain ⟨t, rfl⟩ := id rx
  exact ⟨b, t, rfl, .str b, H', I', rx, q'⟩
end
end TS
namespace TS
open PySem PySem.Spec PyProof.Rows L2 TSR
section
def isVal (p : Rat) : Bool := decide (0 ≤ p.num) && decide (p.num ≤ p.den)
theorem isVal_of {p : Rat} (h0 : 0 ≤ p) (h1 : p ≤ 1) : isVal p = true := by
  have a := Rat.num_nonneg.mpr h0
  have b : p.num ≤ p.den := by
    have := (Rat.le_iff p 1).mp h1
    simpa using this
  unfold isVal
  rw [decide_eq_true a, decide_eq_true b]
  rfl
def sp_Frac_is_value : DSp := p1 fun a M E Q => (∃ p, a = fr p ∧ Q (.bl (isVal p)) M) ∨ ∃ t, tgD M a = some t ∧ isaT isaL (.cls 0) t = some false ∧ Q (.bl false) M
end
section
def sp__law_minus : DSp := p2 (g2 fun p q M E Q => Sz 2000 p ∧ Sz 2000 q ∧ Q (pr (p - q)) M)
def sp__law_gray : DSp := p1 fun a M E Q => ∃ p n, a = .ref p ∧ PoolAt M p n ∧ n < 90000 ∧ ∀ (x : Rat) M', 0 ≤ x → x ≤ 1 → Sz 42 x → PoolAt M' p (n + 5) → Only1 M M' p → Q (pr x) M'
def sp__law_word : DSp := p1 (g1 fun p M E Q => Sz 1900 p ∧ Q (.str (wordOf p)) M)
def sp__law_pair : DSp := p1 (f1 fun p M E Q => Q (pr p) M)
end
section
def sp_check_value : DSp := p1 fun a M E Q => ∃ x, a = fr x ∧ 0 ≤ x ∧ x ≤ 1 ∧ Q .non M
def Gy (p : Rat) : Prop := 0 ≤ p ∧ p ≤ 1
end
section
def sp__law_plus : DSp := p2 (g2 fun p q M E Q => Sz 2000 p ∧ Sz 2000 q ∧ Q (pr (p + q)) M)
def sp__law_times : DSp := p2 (g2 fun p q M E Q => Sz 2000 p ∧ Sz 2000 q ∧ Q (pr (p * q)) M)
def sp__law_less : DSp := p2 (g2 fun p q M E Q => Sz 2000 p ∧ Sz 2000 q ∧ Q (.bl (decide (p < q))) M)
def sp__law_frac : DSp := p1 (g1 fun p M E Q => Sz 2000 p ∧ Q (fr p) M)
end
section
def prs (ys : List Rat) : D := .lst (ys.map pr)
def sp__law_sorted : DSp := p1 fun a M E Q => ∃ xs : List Rat, a = prs xs ∧ xs.length ≤ 1000 ∧ (∀ x ∈ xs, Sz 2000 x) ∧ ∀ ys : List Rat, ys.Pairwise (· < ·) → (∀ y ∈ ys, y ∈ xs) → ys.length ≤ xs.length → (∀ y ∈ xs, y ∈ ys) → Q (prs ys) M
end
def N_Frac_is_value : List PySem.Str := ["thing"]
def t_Frac_is_value : DTS := (sRet (dAndV (dCB (b2 (bIsa (isaT isaL))) (dCons (dVar 0) (dCons (dC (.cls 0)) dNil))) (dChain oLe0 oLe0 (dC (.int 0)) (dFld [0] "over" (dVar 0)) (dFld [0] "under" (dVar 0)))))
def N_check_value : List PySem.Str := ["thing"]
def t_check_value : DTS := (sIf (dNot (dB (dSm sp_Frac_is_value (dCons (dVar 0) dNil)))) sNever sNext)
def N__law_minus : List PySem.Str := ["_law_x", "_law_y"]
def t__law_minus : DTS := (sRet (dCall sp__law_low [] (dCons (dBin oSub0 (dBin oMul0 (dBin oIx0 (dVar 0) (dC (.int 0))) (dBin oIx0 (dVar 1) (dC (.int 1)))) (dBin oMul0 (dBin oIx0 (dVar 1) (dC (.int 0))) (dBin oIx0 (dVar 0) (dC (.int 1))))) (dCons (dBin oMul0 (dBin oIx0 (dVar 0) (dC (.int 1))) (dBin oIx0 (dVar 1) (dC (.int 1)))) dNil))))
def N__law_pair : List PySem.Str := ["_law_made"]
def t__law_pair : DTS := (sRet (dIf (dB (dCB (b2 (bIsa (isaT isaL))) (dCons (dVar 0) (dCons (dC (.cls 0)) dNil)))) (dTup (dCons (dProp (tl [(0, sp_Frac_top)]) (dVar 0)) (dCons (dProp (tl [(0, sp_Frac_bottom)]) (dVar 0)) dNil))) (dC .non)))
def N__law_plus : List PySem.Str := ["_law_x", "_law_y"]
def t__law_plus : DTS := (sRet (dCall sp__law_low [] (dCons (dBin oAdd0 (dBin oMul0 (dBin oIx0 (dVar 0) (dC (.int 0))) (dBin oIx0 (dVar 1) (dC (.int 1)))) (dBin oMul0 (dBin oIx0 (dVar 1) (dC (.int 0))) (dBin oIx0 (dVar 0) (dC (.int 1))))) (dCons (dBin oMul0 (dBin oIx0 (dVar 0) (dC (.int 1))) (dBin oIx0 (dVar 1) (dC (.int 1)))) dNil))))
def N__law_times : List PySem.Str := ["_law_x", "_law_y"]
def t__law_times : DTS := (sRet (dCall sp__law_low [] (dCons (dBin oMul0 (dBin oIx0 (dVar 0) (dC (.int 0))) (dBin oIx0 (dVar 1) (dC (.int 0)))) (dCons (dBin oMul0 (dBin oIx0 (dVar 0) (dC (.int 1))) (dBin oIx0 (dVar 1) (dC (.int 1)))) dNil))))
def N__law_less : List PySem.Str := ["_law_x", "_law_y"]
def t__law_less : DTS := (sRet (dBin oLt0 (dBin oMul0 (dBin oIx0 (dVar 0) (dC (.int 0))) (dBin oIx0 (dVar 1) (dC (.int 1)))) (dBin oMul0 (dBin oIx0 (dVar 1) (dC (.int 0))) (dBin oIx0 (dVar 0) (dC (.int 1))))))
def N__law_frac : List PySem.Str := ["_law_x"]
def t__law_frac : DTS := (sRet (dCB spC_Frac (dCons (dBin oIx0 (dVar 0) (dC (.int 0))) (dCons (dBin oIx0 (dVar 0) (dC (.int 1))) dNil))))
def N__law_sorted : List PySem.Str := ["_law_spots", "_law_found", "_law_x", "_law_at", "_law_y"]
def b__law_sorted_1 : DTS := (sSeq (sAsg (dCB (b1 bLen) (dCons (dStill (dComp (dSeq (dVar 1)) (bdName 4) (dB (dCall sp__law_less [] (dCons (dVar 4) (dCons (dVar 2) dNil)))) (dVar 4) [4])) dNil)) (gNameD 3)) (sIf (dOr (dB (dBin (oEqP fun b => b) (dVar 3) (dCB (b1 bLen) (dCons (dVar 1) dNil)))) (dB (dBin (oEqP fun b => !b) (dBin oIx0 (dVar 1) (dVar 3)) (dVar 2)))) (sAsg (dBin oAdd0 (dBin oAdd0 (dSlice (dVar 1) dNoPart (dPart (dVar 3))) (dLst (dCons (dVar 2) dNil))) (dSlice (dVar 1) (dPart (dVar 3)) dNoPart)) (gNameD 1)) sNext))
def t__law_sorted : DTS := (sSeq (sAsg (dLst dNil) (gNameD 1)) (sSeq (sFor (dSeq (dVar 0)) (gNameD 2) b__law_sorted_1) (sRet (dVar 1))))
def N__law_gray : List PySem.Str := ["_law_pool_here", "_law_below"]
def t__law_gray : DTS := (sSeq (sAsg (dBin oIx0 (dLst (dCons (dBin oAdd0 (dC (.int 1)) (dCall sp__law_draw [] (dCons (dVar 0) (dCons (dC (.int 4)) dNil)))) (dCons (dBin oAdd0 (dC (.int 1)) (dCall sp__law_draw [] (dCons (dVar 0) (dCons (dC (.int 12)) dNil)))) (dCons (dBin oAdd0 (dC (.int 1)) (dCall sp__law_draw [] (dCons (dVar 0) (dCons (dBin oPow0 (dC (.int 10)) (dC (.int 12))) dNil)))) dNil)))) (dCall sp__law_draw [] (dCons (dVar 0) (dCons (dC (.int 3)) dNil)))) (gNameD 1)) (sRet (dCall sp__law_low [] (dCons (dCall sp__law_draw [] (dCons (dVar 0) (dCons (dBin oAdd0 (dVar 1) (dC (.int 1))) dNil))) (dCons (dVar 1) dNil)))))
def N__law_word : List PySem.Str := ["_law_x"]
def t__law_word : DTS := (sRet (dIf (dB (dBin (oEqP fun b => b) (dBin oIx0 (dVar 0) (dC (.int 1))) (dC (.int 1)))) (dCB (b1 bStr) (dCons (dBin oIx0 (dVar 0) (dC (.int 0))) dNil)) (dBin oAdd0 (dBin oAdd0 (dCB (b1 bStr) (dCons (dBin oIx0 (dVar 0) (dC (.int 0))) dNil)) (dC (.str "/"))) (dCB (b1 bStr) (dCons (dBin oIx0 (dVar 0) (dC (.int 1))) dNil)))))

section
variable {δ : DEnv} {M : Mem} {E : EX} {E0 : XD} {Q : QD} {t : DT} {tr : DTA} {p : Rat} {k : Nat} {d : D} {f : Str} {cs : List Nat} {sp : DSp} {T : Nat → Option D}
def goFld (cs : List Nat) (f : Str) (Q : QD) (d : D) (M1 : Mem) : Prop := match asO M1 d with
  | some (c, fs) => c ∈ cs ∧ (match fs.lookup f with | some v => Q v M1 | none => False)
  | none => False
theorem x_fld (h : t δ M E fun d M1 => goFld cs f Q d M1) : dFld cs f t δ M E Q := h
theorem x_goOver (h : Q (.int p.num) M) : goFld [0] "over" Q (fr p) M := ⟨mem0, h⟩
theorem x_goUnder (h : Q (.int p.den) M) : goFld [0] "under" Q (fr p) M := ⟨mem0, h⟩
theorem x_sm (h : tr δ M E fun ds M1 => sp ds M1 (fun c fs M' => E c fs δ M') Q) : dSm sp tr δ M E Q := by
  unfold dSm
  simp only [List.append_nil]
  exact h
theorem x_fv1 (h : Q (.bl (isVal p)) M) : sp_Frac_is_value [fr p] M E0 Q := .inl ⟨p, rfl, h⟩
theorem x_fvT (h0 : 0 ≤ p) (h1 : p ≤ 1) (h : Q (.bl true) M) : sp_Frac_is_value [fr p] M E0 Q := .inl ⟨p, rfl, by rw [isVal_of h0 h1]; exact h⟩
theorem x_isaFr (h : Q (.bl true) M) : bIsa (isaT isaL) (fr p) (.cls 0) M E0 Q := h
theorem x_isaD {t : Tg} {b : Bool} (ht : tgD M d = some t) (hb : isaT isaL (.cls k) t = some b) (h : Q (.bl b) M) : bIsa (isaT isaL) d (.cls k) M E0 Q := by
  unfold bIsa
  rw [ht]
  dsimp only
  rw [hb]
  exact h
theorem x_chain {o o' : DOp} {ta tb tc : DT} (h : ta δ M E fun x M1 => tb δ M1 E fun y M2 => o x y M2 (fun c fs M' => E c fs δ M') fun z M3 => ∃ k, z = .bl k ∧ if k = true then tc δ M3 E fun w M4 => o' y w M4 (fun c fs M' => E c fs δ M') Q else Q (.bl false) M3) : dChain o o' ta tb tc δ M E Q := h
end
section
variable {M : Mem} {E : XD} {Q : QD} {p q : Rat} {a : Addr} {n : Nat}
theorem x_minus (h1 : Sz 2000 p) (h2 : Sz 2000 q) (h : Q (pr (p - q)) M) : sp__law_minus [pr p, pr q] M E Q := ⟨p, q, rfl, rfl, h1, h2, h⟩
theorem x_pair (h : Q (pr p) M) : sp__law_pair [fr p] M E Q := ⟨p, rfl, h⟩
theorem x_word (h1 : Sz 300 p) (h : Q (.str (wordOf p)) M) : sp__law_word [pr p] M E Q := ⟨p, rfl, up1 h1, h⟩
theorem x_mkS (h1 : Sz 300 p) (h : Q (fr p) M) : spC_Frac [.int p.num, .int p.den] M E Q := ⟨den_ne p, lt8 (den_lt h1) (by decide), by rw [self_eq]; exact h⟩
theorem x_eqS {f : Bool → Bool} {a : Str} (h : Q (.bl (f true)) M) : oEqS f (.str a) (.str a) M E Q := by
  show Q (.bl (f (decide (a = a)))) M
  rw [decide_eq_true rfl]
  exact h
theorem drawn {m : Int} (h : PoolAt M a n) (hn : n < 100000) (h0 : 0 < m) (hm : m.natAbs < 2 ^ 8000) (k : ∀ d M', 0 ≤ d → d < m → PoolAt M' a (n + 1) → Only1 M M' a → Q (.int d) M') : sp__law_draw [.ref a, .int m] M E Q := ⟨a, m, n, rfl, rfl, h, hn, h0, hm, k⟩
theorem x_low {i j : Int} (hj : j ≠ 0) (h1 : i.natAbs < 2 ^ 50) (h2 : j.natAbs < 2 ^ 50) (h : Q (pr (Rat.divInt i j)) M) : sp__law_low [.int i, .int j] M E Q := ⟨hj, lt8 h1 (by decide), lt8 h2 (by decide), h⟩
theorem x_gray (h : PoolAt M a n) (hn : n < 90000) (k : ∀ (x : Rat) M', 0 ≤ x → x ≤ 1 → Sz 42 x → PoolAt M' a (n + 5) → Only1 M M' a → Q (pr x) M') : sp__law_gray [.ref a] M E Q := ⟨a, n, rfl, h, hn, k⟩
theorem x_eqST {f : Bool → Bool} {a b : Str} {M : Mem} {E : XD} {Q : QD} (e : a = b) (h : Q (.bl (f true)) M) : oEqS f (.str a) (.str b) M E Q := by
  show Q (.bl (f (decide (a = b)))) M
  rw [decide_eq_true e]
  exact h
theorem x_eqSF {f : Bool → Bool} {a b : Str} {M : Mem} {E : XD} {Q : QD} (e : a ≠ b) (h : Q (.bl (f false)) M) : oEqS f (.str a) (.str b) M E Q := by
  show Q (.bl (f (decide (a = b)))) M
  rw [decide_eq_false e]
  exact h
end
section
variable {M : Mem} {E : EX} {E0 : XD} {Q : QD} {p q t x : Rat}
theorem x_check (h0 : 0 ≤ x) (h1 : x ≤ 1) (h : Q .non M) : sp_check_value [fr x] M E0 Q := ⟨x, rfl, h0, h1, h⟩
end
section
variable {M : Mem} {E : EX} {E0 : XD} {Q : QD} {p q x : Rat} {δ : DEnv} {t : DTGs} {QE : DEnv → Mem → Prop} {f : Bool → Bool}
theorem x_plus (h1 : Sz 2000 p) (h2 : Sz 2000 q) (h : Q (pr (p + q)) M) : sp__law_plus [pr p, pr q] M E0 Q := ⟨p, q, rfl, rfl, h1, h2, h⟩
theorem x_times (h1 : Sz 2000 p) (h2 : Sz 2000 q) (h : Q (pr (p * q)) M) : sp__law_times [pr p, pr q] M E0 Q := ⟨p, q, rfl, rfl, h1, h2, h⟩
theorem x_less (h1 : Sz 2000 p) (h2 : Sz 2000 q) (h : Q (.bl (decide (p < q))) M) : sp__law_less [pr p, pr q] M E0 Q := ⟨p, q, rfl, rfl, h1, h2, h⟩
theorem x_minus1 (h2 : Sz 2000 q) (h : Q (pr (1 - q)) M) : sp__law_minus [.tup [.int 1, .int 1], pr q] M E0 Q := x_minus (p := 1) ⟨by decide +kernel, by decide +kernel⟩ h2 h
theorem x_frac (h1 : Sz 300 p) (h : Q (fr p) M) : sp__law_frac [pr p] M E0 Q := ⟨p, rfl, up2 h1, h⟩
theorem x_eqpr0 (h : Q (.bl (f (decide (p = 0)))) M) : oEqP f (pr p) (.tup [.int 0, .int 1]) M E0 Q := x_eqpr (q := 0) h
theorem x_eqpr1 (h : Q (.bl (f (decide (p = 1)))) M) : oEqP f (pr p) (.tup [.int 1, .int 1]) M E0 Q := x_eqpr (q := 1) h
theorem x_p0 (h : Q (.int p.num) M) : oIx0 (pr p) (.int 0) M E0 Q := h
end
section
variable {M : Mem} {E : EX} {E0 : XD} {Q : QD} {p q : Rat} {ys : List Rat} {i : Int} {δ : DEnv} {t : DTGs} {QE : DEnv → Mem → Prop} {f : Bool → Bool}
theorem x_lenP (h : Q (.int ys.length) M) : bLen (prs ys) M E0 Q := by
  have e : (ys.map pr).length = ys.length := List.length_map ..
  have h2 : bLen (.lst (ys.map pr)) M E0 Q := by
    refine x_lenL ?_
    rw [e]
    exact h
  exact h2
theorem x_sqP {QL : List D → Mem → Prop} (h : QL (ys.map pr) M) : goSeq (prs ys) QL M := h
theorem x_ixP {k : Nat} (hk : i = k) (h : ys[k]? = some p) (q : Q (pr p) M) : oIx0 (prs ys) (.int i) M E0 Q := by
  subst hk
  refine ixL (atI_nat ?_) q
  rw [List.getElem?_map, h]
  rfl
theorem x_slPt {k : Nat} (hk : i = k) (h : Q (prs (ys.take k)) M) : sliceD (prs ys) none (some i) M Q := by
  refine x_slL ?_
  rw [cut_to hk, ← List.map_take]
  exact h
theorem x_slPf {k : Nat} (hk : i = k) (h : Q (prs (ys.drop k)) M) : sliceD (prs ys) (some i) none M Q := by
  refine x_slL ?_
  rw [cut_from hk, ← List.map_drop]
  exact h
theorem x_addP {zs : List Rat} (h : ys.length + zs.length ≤ sizeLine) (q : Q (prs (ys ++ zs)) M) : oAdd0 (prs ys) (prs zs) M E0 Q := by
  refine x_addLL (by rw [List.length_map, List.length_map]; exact h) ?_
  rw [← List.map_append]
  exact q
theorem x_addP1 (h : ys.length + 1 ≤ sizeLine) (q : Q (prs (ys ++ [p])) M) : oAdd0 (prs ys) (.lst [pr p]) M E0 Q := x_addP (zs := [p]) h q
theorem x_less0 (h1 : Sz 2000 p) (h : Q (.bl (decide (p < 0))) M) : sp__law_less [pr p, .tup [.int 0, .int 1]] M E0 Q := x_less (q := 0) h1 ⟨by decide +kernel, by decide +kernel⟩ h
theorem x_less1 (h1 : Sz 2000 p) (h : Q (.bl (decide (1 < p))) M) : sp__law_less [.tup [.int 1, .int 1], pr p] M E0 Q := x_less (p := 1) ⟨by decide +kernel, by decide +kernel⟩ h1 h
theorem x_sorted (h1 : ys.length ≤ 1000) (h2 : ∀ x ∈ ys, Sz 2000 x) (k : ∀ zs : List Rat, zs.Pairwise (· < ·) → (∀ y ∈ zs, y ∈ ys) → zs.length ≤ ys.length → (∀ y ∈ ys, y ∈ zs) → Q (prs zs) M) : sp__law_sorted [prs ys] M E0 Q := ⟨ys, rfl, h1, h2, k⟩
theorem x_tupL {zs : List D} (h : Q (.tup zs) M) : bTuple (.lst zs) M E0 Q := h
end
section
variable {δ : DEnv} {M : Mem} {E : EX} {E0 : XD} {Q : QD}
theorem x_isnB {f : Bool → Bool} {a b : Bool} (h : Q (.bl (f (a == b))) M) : oIsB f (.bl a) (.bl b) M E0 Q := h
end
section
theorem len_Frac_is_value : ∀ ds M E Q, sp_Frac_is_value ds M E Q → ds.length = [("thing" : Str)].length := p1_len
local macro_rules | `(tactic| case xr1 => skip) => `(tactic| (first | refine x_repM ?_ | refine x_v0 ?_ | refine x_v1 ?_ | refine x_v2 ?_ | refine x_v3 ?_ | refine x_v4 ?_ | refine x_v5 ?_ | refine x_v6 ?_ | refine x_v7 ?_ | refine x_v8 ?_ | refine x_v9 ?_ | refine x_v10 ?_ | refine x_v11 ?_ | refine x_gsC ?_ | refine x_gsN ?_ | refine x_lenL ?_ | refine x_lenT ?_ | refine x_max ?_ | refine x_min ?_ | refine x_slice ?_ | refine x_noP ?_ | refine x_part ?_ | refine x_goPart ?_ | refine x_slL ?_ | refine x_rg1 ?_ | refine x_bm ?_ | refine x_seq ?_ | refine x_asg ?_ | refine x_ret ?_ | refine x_if ?_ | refine x_dB ?_ | refine x_ex ?_ | refine x_cons ?_ | refine x_nil ?_ | refine x_tup ?_ | refine x_lst ?_ | refine x_bin ?_ | refine x_un ?_ | refine x_cb ?_ | refine x_call ?_ | refine x_b1 ?_ | refine x_b2 ?_ | refine x_c ?_ | refine x_tt ?_ | refine x_ff ?_ | refine x_ifx ?_ | refine x_andV ?_ | refine x_orV ?_ | refine x_notV ?_ | refine x_not ?_ | refine x_and ?_ | refine x_or ?_ | refine x_still ?_ | refine x_par ?_ | refine x_par2 ?_ | refine x_aug ?_ | refine x_for ?_ | refine x_dseq ?_ | refine x_goL ?_ | refine x_goT ?_ | refine x_comp ?_ | refine x_addI ?_ | refine x_subI ?_ | refine x_neg ?_ | refine x_absI ?_ | refine x_lt ?_ | refine x_le ?_ | refine x_gt ?_ | refine x_ge ?_ | refine x_i0 ?_ | refine x_i1 ?_ | refine x_isB ?_ | refine x_eqB ?_ | refine x_eqI ?_ | refine x_eqpr ?_ | refine x_fbool ?_ | refine x_next ?_ | refine x_drop ?_ | refine x_retN ?_ | refine x_n0 ?_ | refine x_n1 ?_ | refine x_n2 ?_ | refine x_n3 ?_ | refine x_n4 ?_ | refine x_n5 ?_ | refine x_n6 ?_ | refine x_n7 ?_ | refine x_n8 ?_ | refine x_n9 ?_ | refine x_n10 ?_ | refine x_n11 ?_ | refine x_fadd (by assumption) (by assumption) ?_ | refine x_fsub (by assumption) (by assumption) ?_ | refine x_fmul (by assumption) (by assumption) ?_ | refine x_fneg (by assumption) ?_ | refine x_fabs (by assumption) ?_ | refine x_frepr (by assumption) ?_ | refine x_fstr (by assumption) ?_ | refine x_gtup rfl ?_ | refine x_goR1 (by decide) ?_ | refine x_goTup rfl ?_ | refine x_goLst rfl ?_ | refine x_addL rfl ?_ | refine x_meth ?_ | refine x_goQuo ?_ | refine x_truO ?_ | refine x_goTru ?_ | refine x_feq ?_ | refine x_fne ?_ | refine x_par3 ?_ | refine x_par4 ?_ | refine x_nt ?_ | refine x_nf ?_ | refine x_mk1_0 ?_ | refine x_mk1_1 ?_ | refine x_mk1_m ?_ | refine x_flt (by assumption) (by assumption) ?_ | refine x_fle (by assumption) (by assumption) ?_ | refine x_fgt (by assumption) (by assumption) ?_ | refine x_fge (by assumption) (by assumption) ?_ | refine x_fadd (up2 (by assumption)) (up2 (by assumption)) ?_ | refine x_fsub (up2 (by assumption)) (up2 (by assumption)) ?_ | refine x_fmul (up2 (by assumption)) (up2 (by assumption)) ?_ | refine x_fneg (up4 (by assumption)) ?_ | refine x_fabs (up4 (by assumption)) ?_ | refine x_frepr (up1 (by assumption)) ?_ | refine x_flt (up4 (by assumption)) (up4 (by assumption)) ?_ | refine x_fle (up4 (by assumption)) (up4 (by assumption)) ?_ | refine x_fgt (up4 (by assumption)) (up4 (by assumption)) ?_ | refine x_fge (up4 (by assumption)) (up4 (by assumption)) ?_ | refine x_fquo (by assumption) (up2 (by assumption)) (up2 (by assumption)) ?_ | refine x_prop ?_ | refine x_goTop ?_ | refine x_goBot ?_ | refine x_t0 ?_ | refine x_t1 ?_ | refine x_t2 ?_ | refine x_l0 ?_ | refine x_l1 ?_ | refine x_l2 ?_ | refine x_l3 ?_ | refine x_addS (by assumption) ?_ | refine x_fstr (up1 (by assumption)) ?_ | refine x_dic0 ?_ | refine x_fld ?_ | refine x_goOver ?_ | refine x_goUnder ?_ | refine x_sm ?_ | refine x_isaFr ?_ | refine x_chain ?_ | refine x_isnB ?_ | refine x_v12 ?_ | refine x_n12 ?_ | refine x_v13 ?_ | refine x_n13 ?_ | refine x_v14 ?_ | refine x_n14 ?_ | refine x_v15 ?_ | refine x_n15 ?_ | refine x_v16 ?_ | refine x_n16 ?_ | refine x_v17 ?_ | refine x_n17 ?_ | refine x_v18 ?_ | refine x_n18 ?_ | refine x_v19 ?_ | refine x_n19 ?_ | refine x_enum ?_ | refine x_goEnum ?_ | refine x_callK ?_ | refine x_get2 ?_ | refine x_dic2 ?_ | refine x_lstM ?_ | refine x_less (by assumption) (by assumption) ?_ | refine x_plus (by assumption) (by assumption) ?_ | refine x_times (by assumption) (by assumption) ?_ | refine x_minus1 (by assumption) ?_ | refine x_frac (by assumption) ?_ | refine x_inI ?_ | refine x_inIL ?_ | refine x_gLst rfl ?_ | refine x_addT (by assumption) ?_))
theorem pure_Frac_is_value : Pure sp_Frac_is_value t_Frac_is_value N_Frac_is_value := pure1 fun a M E Q h => by
  simp only [t_Frac_is_value, startD, N_Frac_is_value, List.map, List.length, List.replicate, Nat.reduceSub, Nat.reduceAdd, List.nil_append, List.cons_append]
  rcases h with ⟨p, rfl, h⟩ | ⟨t, ht, hi, h⟩
  · repeat (with_reducible case xr1 => skip)
    unfold isVal at h
    rcases Classical.em (0 ≤ p.num) with h0 | h0
    · rw [decide_eq_true h0] at h ⊢
      repeat (with_reducible case xr1 => skip)
      exact h
    · rw [decide_eq_false h0] at h ⊢
      repeat (with_reducible case xr1 => skip)
      exact h
  · repeat (with_reducible case xr1 => skip)
    refine x_isaD ht hi ?_
    repeat (with_reducible case xr1 => skip)
    exact h
def goFD (cs : List Nat) (f : Str) (v d : D) (Z : DEnds) (δ : DEnv) (M2 : Mem) : Prop := match d with
  | .ref p => (match M2 p with
    | some (.ins c fs) => c ∈ cs ∧ fs.length < 1000 ∧ Z.nx δ (M2.set p (.ins c (putD f v fs)))
    | _ => False)
  | _ => False
theorem x_fldD {cs : List Nat} {f : Str} {to te : DT} {Z : DEnds} {δ : DEnv} {M : Mem} (h : te δ M Z.ex fun v M1 => to δ M1 Z.ex fun d M2 => goFD cs f v d Z δ M2) : sFldD cs f to te Z δ M := h
theorem x_goFD {cs : List Nat} {f : Str} {v : D} {Z : DEnds} {δ : DEnv} {M : Mem} {p : Addr} {c : Nat} {fs : List (Str × D)} (hm : M p = some (.ins c fs)) (h1 : c ∈ cs) (h2 : fs.length < 1000) (h : Z.nx δ (M.set p (.ins c (putD f v fs)))) : goFD cs f v (.ref p) Z δ M := by
  unfold goFD
  simp only [hm]
  exact ⟨h1, h2, h⟩
end
section
theorem len__law_minus : ∀ ds M E Q, sp__law_minus ds M E Q → ds.length = [("_law_x" : Str), "_law_y"].length := p2_len
theorem nm_lt {p q : Rat} (h1 : Sz 2000 p) (h2 : Sz 2000 q) : (p.num * (q.den : Nat) - q.num * (p.den : Nat)).natAbs < 2 ^ 8000 := by
  refine lt8 (Nat.lt_of_le_of_lt (Int.natAbs_sub_le _ _) (add_lt (n := 4000) ?_ ?_)) (by decide)
  · rw [Int.natAbs_mul]; exact mul_lt (n := 2000) (m := 2000) h1.1 (den_lt h2)
  · rw [Int.natAbs_mul]; exact mul_lt (n := 2000) (m := 2000) h2.1 (den_lt h1)
theorem pure__law_minus : Pure sp__law_minus t__law_minus N__law_minus := pure2 fun a b M E Q h => by
  obtain ⟨p, q, rfl, rfl, h1, h2, h⟩ := h
  simp only [t__law_minus, startD, N__law_minus, sRet, dCall, dCons, dNil, dBin, dVar, dC, gt, oSub0, oMul0, r_ix0, r_ix1, r_low, List.map, List.length, List.replicate, Nat.reduceSub, Nat.reduceAdd, List.nil_append, List.cons_append]
  refine ⟨mulOk_of h1.1 (den_lt h2), mulOk_of h2.1 (den_lt h1), mulOk_of (den_lt h1) (den_lt h2), dd_ne p q, nm_lt h1 h2, dd_lt h1 h2, ?_⟩
  rw [sub_eq]
  exact h
theorem len__law_pair : ∀ ds M E Q, sp__law_pair ds M E Q → ds.length = [("_law_made" : Str)].length := p1_len
local macro_rules | `(tactic| case xr2 => skip) => `(tactic| (first | refine x_repM ?_ | refine x_v0 ?_ | refine x_v1 ?_ | refine x_v2 ?_ | refine x_v3 ?_ | refine x_v4 ?_ | refine x_v5 ?_ | refine x_v6 ?_ | refine x_v7 ?_ | refine x_v8 ?_ | refine x_v9 ?_ | refine x_v10 ?_ | refine x_v11 ?_ | refine x_gsC ?_ | refine x_gsN ?_ | refine x_lenL ?_ | refine x_lenT ?_ | refine x_max ?_ | refine x_min ?_ | refine x_slice ?_ | refine x_noP ?_ | refine x_part ?_ | refine x_goPart ?_ | refine x_slL ?_ | refine x_rg1 ?_ | refine x_bm ?_ | refine x_seq ?_ | refine x_asg ?_ | refine x_ret ?_ | refine x_if ?_ | refine x_dB ?_ | refine x_ex ?_ | refine x_cons ?_ | refine x_nil ?_ | refine x_tup ?_ | refine x_lst ?_ | refine x_bin ?_ | refine x_un ?_ | refine x_cb ?_ | refine x_call ?_ | refine x_b1 ?_ | refine x_b2 ?_ | refine x_c ?_ | refine x_tt ?_ | refine x_ff ?_ | refine x_ifx ?_ | refine x_andV ?_ | refine x_orV ?_ | refine x_notV ?_ | refine x_not ?_ | refine x_and ?_ | refine x_or ?_ | refine x_still ?_ | refine x_par ?_ | refine x_par2 ?_ | refine x_aug ?_ | refine x_for ?_ | refine x_dseq ?_ | refine x_goL ?_ | refine x_goT ?_ | refine x_comp ?_ | refine x_addI ?_ | refine x_subI ?_ | refine x_neg ?_ | refine x_absI ?_ | refine x_lt ?_ | refine x_le ?_ | refine x_gt ?_ | refine x_ge ?_ | refine x_i0 ?_ | refine x_i1 ?_ | refine x_isB ?_ | refine x_eqB ?_ | refine x_eqI ?_ | refine x_eqpr ?_ | refine x_fbool ?_ | refine x_next ?_ | refine x_drop ?_ | refine x_retN ?_ | refine x_n0 ?_ | refine x_n1 ?_ | refine x_n2 ?_ | refine x_n3 ?_ | refine x_n4 ?_ | refine x_n5 ?_ | refine x_n6 ?_ | refine x_n7 ?_ | refine x_n8 ?_ | refine x_n9 ?_ | refine x_n10 ?_ | refine x_n11 ?_ | refine x_fadd (by assumption) (by assumption) ?_ | refine x_fsub (by assumption) (by assumption) ?_ | refine x_fmul (by assumption) (by assumption) ?_ | refine x_fneg (by assumption) ?_ | refine x_fabs (by assumption) ?_ | refine x_frepr (by assumption) ?_ | refine x_fstr (by assumption) ?_ | refine x_gtup rfl ?_ | refine x_goR1 (by decide) ?_ | refine x_goTup rfl ?_ | refine x_goLst rfl ?_ | refine x_addL rfl ?_ | refine x_meth ?_ | refine x_goQuo ?_ | refine x_truO ?_ | refine x_goTru ?_ | refine x_feq ?_ | refine x_fne ?_ | refine x_par3 ?_ | refine x_par4 ?_ | refine x_nt ?_ | refine x_nf ?_ | refine x_mk1_0 ?_ | refine x_mk1_1 ?_ | refine x_mk1_m ?_ | refine x_flt (by assumption) (by assumption) ?_ | refine x_fle (by assumption) (by assumption) ?_ | refine x_fgt (by assumption) (by assumption) ?_ | refine x_fge (by assumption) (by assumption) ?_ | refine x_fadd (up2 (by assumption)) (up2 (by assumption)) ?_ | refine x_fsub (up2 (by assumption)) (up2 (by assumption)) ?_ | refine x_fmul (up2 (by assumption)) (up2 (by assumption)) ?_ | refine x_fneg (up4 (by assumption)) ?_ | refine x_fabs (up4 (by assumption)) ?_ | refine x_frepr (up1 (by assumption)) ?_ | refine x_flt (up4 (by assumption)) (up4 (by assumption)) ?_ | refine x_fle (up4 (by assumption)) (up4 (by assumption)) ?_ | refine x_fgt (up4 (by assumption)) (up4 (by assumption)) ?_ | refine x_fge (up4 (by assumption)) (up4 (by assumption)) ?_ | refine x_fquo (by assumption) (up2 (by assumption)) (up2 (by assumption)) ?_ | refine x_prop ?_ | refine x_goTop ?_ | refine x_goBot ?_ | refine x_t0 ?_ | refine x_t1 ?_ | refine x_t2 ?_ | refine x_l0 ?_ | refine x_l1 ?_ | refine x_l2 ?_ | refine x_l3 ?_ | refine x_addS (by assumption) ?_ | refine x_fstr (up1 (by assumption)) ?_ | refine x_dic0 ?_ | refine x_fld ?_ | refine x_goOver ?_ | refine x_goUnder ?_ | refine x_sm ?_ | refine x_isaFr ?_ | refine x_chain ?_ | refine x_isnB ?_ | refine x_v12 ?_ | refine x_n12 ?_ | refine x_v13 ?_ | refine x_n13 ?_ | refine x_v14 ?_ | refine x_n14 ?_ | refine x_v15 ?_ | refine x_n15 ?_ | refine x_v16 ?_ | refine x_n16 ?_ | refine x_v17 ?_ | refine x_n17 ?_ | refine x_v18 ?_ | refine x_n18 ?_ | refine x_v19 ?_ | refine x_n19 ?_ | refine x_fldD ?_ | refine x_enum ?_ | refine x_goEnum ?_ | refine x_callK ?_ | refine x_get2 ?_ | refine x_dic2 ?_ | refine x_lstM ?_ | refine x_less (by assumption) (by assumption) ?_ | refine x_plus (by assumption) (by assumption) ?_ | refine x_times (by assumption) (by assumption) ?_ | refine x_minus1 (by assumption) ?_ | refine x_frac (by assumption) ?_ | refine x_inI ?_ | refine x_inIL ?_ | refine x_gLst rfl ?_ | refine x_addT (by assumption) ?_))
theorem pure__law_pair : Pure sp__law_pair t__law_pair N__law_pair := pure1 fun a M E Q h => by
  obtain ⟨p, rfl, h⟩ := h
  simp only [t__law_pair, startD, N__law_pair, List.map, List.length, List.replicate, Nat.reduceSub, Nat.reduceAdd, List.nil_append, List.cons_append]
  repeat (with_reducible case xr2 => skip)
  exact h
theorem ratio_lt {i j : Int} (hj : 0 < j) (h : i < j) : Rat.divInt i j < 1 := by
  have hj' : (0 : Rat) < (j : Rat) := Rat.intCast_lt_intCast.mpr hj
  rw [Rat.divInt_eq_div, Rat.div_lt_iff hj', Rat.one_mul]
  exact Rat.intCast_lt_intCast.mpr h
theorem ratio {i j : Int} (h0 : 0 ≤ i) (hj : 0 < j) (h : i ≤ j) : 0 ≤ Rat.divInt i j ∧ Rat.divInt i j ≤ 1 := by
  refine ⟨Rat.divInt_nonneg h0 (Int.le_of_lt hj), ?_⟩
  rcases Int.lt_or_eq_of_le h with z | z
  · exact Rat.le_of_lt (ratio_lt hj z)
  · rw [z, Rat.divInt_self' (by omega)]
    exact Rat.le_refl
theorem ratio1 {i j : Int} (h0 : 0 < i) (hj : 0 < j) (h : i < j) : 0 < Rat.divInt i j ∧ Rat.divInt i j < 1 := by
  refine ⟨?_, ratio_lt hj h⟩
  have h1 := Rat.divInt_nonneg (Int.le_of_lt h0) (Int.le_of_lt hj)
  rcases Classical.em (Rat.divInt i j = 0) with z | z
  · have e : (0 : Rat) = Rat.divInt 0 1 := by decide +kernel
    rw [e, Rat.divInt_eq_divInt_iff (by omega) (by decide)] at z
    omega
  · grind
theorem sz42 {i j : Int} (hj : j ≠ 0) (h1 : i.natAbs ≤ 4000000000000) (h2 : j.natAbs ≤ 4000000000000) : Sz 42 (Rat.divInt i j) := Sz.of hj (by show _ < 4398046511104; omega) (by show _ < 4398046511104; omega)
theorem len__law_gray : ∀ ds M E Q, sp__law_gray ds M E Q → ds.length = [("_law_pool_here" : Str)].length := p1_len
theorem pure__law_gray : Pure sp__law_gray t__law_gray N__law_gray := pure1 fun a M E Q h => by
  obtain ⟨p, n, rfl, hp, hn, hq⟩ := h
  simp only [t__law_gray, startD, N__law_gray, List.map, List.length, List.replicate, Nat.reduceSub, Nat.reduceAdd, List.nil_append, List.cons_append]
  repeat (with_reducible case xr2 => skip)
  refine drawn hp (by omega) (by decide) (by decide +kernel) fun d0 M0 a0 b0 hp0 o0 => ?_
  repeat (with_reducible case xr2 => skip)
  refine drawn hp0 (by omega) (by decide) (by decide +kernel) fun d1 M1 a1 b1 hp1 o1 => ?_
  repeat (with_reducible first | case xr2 => skip | refine x_powI rfl ?_)
  refine drawn hp1 (by omega) (by decide) (by decide +kernel) fun d2 M2 a2 b2 hp2 o2 => ?_
  repeat (with_reducible case xr2 => skip)
  refine drawn hp2 (by omega) (by decide) (by decide +kernel) fun d3 M3 a3 b3 hp3 o3 => ?_
  have b2 : d2 < 1000000000000 := b2
  obtain ⟨b, hb, hb1, hb2⟩ : ∃ b : Int, atI [D.int (1 + d0), .int (1 + d1), .int (1 + d2)] d3 = some (.int b) ∧ 1 ≤ b ∧ b ≤ 1000000000000 := by
    have : d3 = 0 ∨ d3 = 1 ∨ d3 = 2 := by omega
    rcases this with rfl | rfl | rfl
    · exact ⟨1 + d0, rfl, by omega, by omega⟩
    · exact ⟨1 + d1, rfl, by omega, by omega⟩
    · exact ⟨1 + d2, rfl, by omega, by omega⟩
  repeat (with_reducible case xr2 => skip)
  refine ixL hb ?_
  repeat (with_reducible case xr2 => skip)
  refine drawn hp3 (by omega) (by omega) (lt8 (n := 50) (by show _ < 1125899906842624; omega) (by decide)) fun d4 M4 a4 b4 hp4 o4 => ?_
  repeat (with_reducible case xr2 => skip)
  refine x_low (by omega) (by show _ < 1125899906842624; omega) (by show _ < 1125899906842624; omega) ?_
  have r := ratio (i := d4) (j := b) a4 (by omega) (by omega)
  exact hq _ _ r.1 r.2 (sz42 (by omega) (by omega) (by omega)) hp4 ((((o0.trans o1).trans o2).trans o3).trans o4)
theorem len__law_word : ∀ ds M E Q, sp__law_word ds M E Q → ds.length = [("_law_x" : Str)].length := p1_len
theorem pure__law_word : Pure sp__law_word t__law_word N__law_word := pure1 fun a M E Q h => by
  obtain ⟨p, rfl, h1, h⟩ := h
  have l1 := log2_of (m := 1920) h1.1 (by decide) (by decide)
  have l2 := log2_of (m := 1920) (den_lt h1) (by decide) (by decide)
  have k1 := int_len h1.1 (by decide)
  have k2 := int_len (den_lt h1) (by decide)
  simp only [t__law_word, startD, N__law_word, List.map, List.length, List.replicate, Nat.reduceSub, Nat.reduceAdd, List.nil_append, List.cons_append]
  unfold wordOf at h
  repeat (with_reducible case xr2 => skip)
  by_cases hd : p.den = 1
  · rw [if_pos (decide_eq_true (by omega))]
    rw [if_pos hd] at h
    repeat (with_reducible case xr2 => skip)
    exact ⟨l1, h⟩
  · rw [if_neg (by simp; omega)]
    rw [if_neg hd] at h
    have k3 : ("/" : Str).length = 1 := by decide +kernel
    have k4 : sizeLine = 16777216 := sizeLine_eq
    rw [str_nil] at h
    repeat (with_reducible case xr2 => skip)
    refine ⟨l1, ?_⟩
    repeat (with_reducible case xr2 => skip)
    refine ⟨by omega, ?_⟩
    repeat (with_reducible case xr2 => skip)
    refine ⟨l2, ?_⟩
    refine ⟨by rw [cat_len]; omega, h⟩
end
section
theorem gy_mul {x y : Rat} (h : Gy x) (g : Gy y) : Gy (x * y) := by
  have a := Rat.mul_nonneg h.1 g.1
  have b : x * y ≤ x * 1 := Rat.mul_le_mul_of_nonneg_left g.2 h.1
  have c := h.2
  constructor <;> grind
theorem gy_le {x : Rat} (h : Gy x) : -1 ≤ x ∧ x ≤ 1 ∧ -2 ≤ x ∧ x ≤ 2 := by
  obtain ⟨a, b⟩ := h
  refine ⟨?_, ?_, ?_, ?_⟩ <;> grind
theorem Gy.one_sub {x : Rat} (h : Gy x) : Gy (1 - x) := by obtain ⟨a, b⟩ := h; constructor <;> grind
theorem dv_mul_r {D E : Nat} {q : Rat} (h : Dv D q) (hE : 0 < E) : Dv (D * E) q := h.mono (Nat.dvd_mul_right ..) (Nat.mul_pos h.1 hE)
theorem dv_mul_l {D E : Nat} {q : Rat} (h : Dv D q) (hE : 0 < E) : Dv (E * D) q := h.mono (Nat.dvd_mul_left ..) (Nat.mul_pos hE h.1)
theorem gy_sz {D n : Nat} {q : Rat} (h : Gy q) (d : Dv D q) (l : D < 2 ^ n) : Sz n q := d.sz l (gy_le h).1 (gy_le h).2.1
theorem add_szG {n m : Nat} {t x : Rat} (ht : Gy t) (hx : Gy x) (h1 : Sz n t) (h2 : Sz m x) : Sz (m + n + 1) (x + t) := by
  have d : Dv (x.den * t.den) (x + t) := (dv_mul_r (Dv.self x) (den_pos t)).add (dv_mul_l (Dv.self t) (den_pos x))
  obtain ⟨a, b⟩ := ht
  obtain ⟨a', b'⟩ := hx
  exact d.sz2 (mul_lt h2.2 h1.2) (by grind) (by grind)
theorem len_check_value : ∀ ds M E Q, sp_check_value ds M E Q → ds.length = [("thing" : Str)].length := p1_len
local macro_rules | `(tactic| case xr3 => skip) => `(tactic| (first | refine x_repM ?_ | refine x_v0 ?_ | refine x_v1 ?_ | refine x_v2 ?_ | refine x_v3 ?_ | refine x_v4 ?_ | refine x_v5 ?_ | refine x_v6 ?_ | refine x_v7 ?_ | refine x_v8 ?_ | refine x_v9 ?_ | refine x_v10 ?_ | refine x_v11 ?_ | refine x_gsC ?_ | refine x_gsN ?_ | refine x_lenL ?_ | refine x_lenT ?_ | refine x_max ?_ | refine x_min ?_ | refine x_slice ?_ | refine x_noP ?_ | refine x_part ?_ | refine x_goPart ?_ | refine x_slL ?_ | refine x_rg1 ?_ | refine x_bm ?_ | refine x_seq ?_ | refine x_asg ?_ | refine x_ret ?_ | refine x_if ?_ | refine x_dB ?_ | refine x_ex ?_ | refine x_cons ?_ | refine x_nil ?_ | refine x_tup ?_ | refine x_lst ?_ | refine x_bin ?_ | refine x_un ?_ | refine x_cb ?_ | refine x_call ?_ | refine x_b1 ?_ | refine x_b2 ?_ | refine x_c ?_ | refine x_tt ?_ | refine x_ff ?_ | refine x_ifx ?_ | refine x_andV ?_ | refine x_orV ?_ | refine x_notV ?_ | refine x_not ?_ | refine x_and ?_ | refine x_or ?_ | refine x_still ?_ | refine x_par ?_ | refine x_par2 ?_ | refine x_aug ?_ | refine x_for ?_ | refine x_dseq ?_ | refine x_goL ?_ | refine x_goT ?_ | refine x_comp ?_ | refine x_addI ?_ | refine x_subI ?_ | refine x_neg ?_ | refine x_absI ?_ | refine x_lt ?_ | refine x_le ?_ | refine x_gt ?_ | refine x_ge ?_ | refine x_i0 ?_ | refine x_i1 ?_ | refine x_isB ?_ | refine x_eqB ?_ | refine x_eqI ?_ | refine x_eqpr ?_ | refine x_fbool ?_ | refine x_next ?_ | refine x_drop ?_ | refine x_retN ?_ | refine x_n0 ?_ | refine x_n1 ?_ | refine x_n2 ?_ | refine x_n3 ?_ | refine x_n4 ?_ | refine x_n5 ?_ | refine x_n6 ?_ | refine x_n7 ?_ | refine x_n8 ?_ | refine x_n9 ?_ | refine x_n10 ?_ | refine x_n11 ?_ | refine x_fadd (by assumption) (by assumption) ?_ | refine x_fsub (by assumption) (by assumption) ?_ | refine x_fmul (by assumption) (by assumption) ?_ | refine x_fneg (by assumption) ?_ | refine x_fabs (by assumption) ?_ | refine x_frepr (by assumption) ?_ | refine x_fstr (by assumption) ?_ | refine x_gtup rfl ?_ | refine x_goR1 (by decide) ?_ | refine x_goTup rfl ?_ | refine x_goLst rfl ?_ | refine x_addL rfl ?_ | refine x_meth ?_ | refine x_goQuo ?_ | refine x_truO ?_ | refine x_goTru ?_ | refine x_feq ?_ | refine x_fne ?_ | refine x_par3 ?_ | refine x_par4 ?_ | refine x_nt ?_ | refine x_nf ?_ | refine x_mk1_0 ?_ | refine x_mk1_1 ?_ | refine x_mk1_m ?_ | refine x_flt (by assumption) (by assumption) ?_ | refine x_fle (by assumption) (by assumption) ?_ | refine x_fgt (by assumption) (by assumption) ?_ | refine x_fge (by assumption) (by assumption) ?_ | refine x_fadd (up2 (by assumption)) (up2 (by assumption)) ?_ | refine x_fsub (up2 (by assumption)) (up2 (by assumption)) ?_ | refine x_fmul (up2 (by assumption)) (up2 (by assumption)) ?_ | refine x_fneg (up4 (by assumption)) ?_ | refine x_fabs (up4 (by assumption)) ?_ | refine x_frepr (up1 (by assumption)) ?_ | refine x_flt (up4 (by assumption)) (up4 (by assumption)) ?_ | refine x_fle (up4 (by assumption)) (up4 (by assumption)) ?_ | refine x_fgt (up4 (by assumption)) (up4 (by assumption)) ?_ | refine x_fge (up4 (by assumption)) (up4 (by assumption)) ?_ | refine x_fquo (by assumption) (up2 (by assumption)) (up2 (by assumption)) ?_ | refine x_prop ?_ | refine x_goTop ?_ | refine x_goBot ?_ | refine x_t0 ?_ | refine x_t1 ?_ | refine x_t2 ?_ | refine x_l0 ?_ | refine x_l1 ?_ | refine x_l2 ?_ | refine x_l3 ?_ | refine x_addS (by assumption) ?_ | refine x_fstr (up1 (by assumption)) ?_ | refine x_dic0 ?_ | refine x_fld ?_ | refine x_goOver ?_ | refine x_goUnder ?_ | refine x_sm ?_ | refine x_isaFr ?_ | refine x_chain ?_ | refine x_isnB ?_ | refine x_v12 ?_ | refine x_n12 ?_ | refine x_v13 ?_ | refine x_n13 ?_ | refine x_v14 ?_ | refine x_n14 ?_ | refine x_v15 ?_ | refine x_n15 ?_ | refine x_v16 ?_ | refine x_n16 ?_ | refine x_v17 ?_ | refine x_n17 ?_ | refine x_v18 ?_ | refine x_n18 ?_ | refine x_v19 ?_ | refine x_n19 ?_ | refine x_fldD ?_ | refine x_enum ?_ | refine x_goEnum ?_ | refine x_callK ?_ | refine x_get2 ?_ | refine x_dic2 ?_ | refine x_lstM ?_ | refine x_less (by assumption) (by assumption) ?_ | refine x_plus (by assumption) (by assumption) ?_ | refine x_times (by assumption) (by assumption) ?_ | refine x_minus1 (by assumption) ?_ | refine x_frac (by assumption) ?_ | refine x_inI ?_ | refine x_inIL ?_ | refine x_gLst rfl ?_ | refine x_addT (by assumption) ?_))
theorem pure_check_value : Pure sp_check_value t_check_value N_check_value := pure1 fun a M E Q h => by
  obtain ⟨x, rfl, h0, h1, h⟩ := h
  simp only [t_check_value, startD, N_check_value, List.map, List.length, List.replicate, Nat.reduceSub, Nat.reduceAdd, List.nil_append, List.cons_append]
  repeat (with_reducible first | case xr3 => skip | refine x_fvT (by assumption) (by assumption) ?_)
  exact h
end
section
theorem len__law_plus : ∀ ds M E Q, sp__law_plus ds M E Q → ds.length = [("_law_x" : Str), "_law_y"].length := p2_len
theorem nn_lt {p q : Rat} (h1 : Sz 2000 p) (h2 : Sz 2000 q) : (p.num * (q.den : Nat) + q.num * (p.den : Nat)).natAbs < 2 ^ 8000 := by
  refine lt8 (Nat.lt_of_le_of_lt (Int.natAbs_add_le _ _) (add_lt (n := 4000) ?_ ?_)) (by decide)
  · rw [Int.natAbs_mul]; exact mul_lt (n := 2000) (m := 2000) h1.1 (den_lt h2)
  · rw [Int.natAbs_mul]; exact mul_lt (n := 2000) (m := 2000) h2.1 (den_lt h1)
theorem pure__law_plus : Pure sp__law_plus t__law_plus N__law_plus := pure2 fun a b M E Q h => by
  obtain ⟨p, q, rfl, rfl, h1, h2, h⟩ := h
  simp only [t__law_plus, startD, N__law_plus, sRet, dCall, dCons, dNil, dBin, dVar, dC, gt, oAdd0, oMul0, r_ix0, r_ix1, r_low, List.map, List.length, List.replicate, Nat.reduceSub, Nat.reduceAdd, List.nil_append, List.cons_append]
  refine ⟨mulOk_of h1.1 (den_lt h2), mulOk_of h2.1 (den_lt h1), mulOk_of (den_lt h1) (den_lt h2), dd_ne p q, nn_lt h1 h2, dd_lt h1 h2, ?_⟩
  rw [add_eq]
  exact h
theorem len__law_times : ∀ ds M E Q, sp__law_times ds M E Q → ds.length = [("_law_x" : Str), "_law_y"].length := p2_len
theorem pure__law_times : Pure sp__law_times t__law_times N__law_times := pure2 fun a b M E Q h => by
  obtain ⟨p, q, rfl, rfl, h1, h2, h⟩ := h
  simp only [t__law_times, startD, N__law_times, sRet, dCall, dCons, dNil, dBin, dVar, dC, gt, oMul0, r_ix0, r_ix1, r_low, List.map, List.length, List.replicate, Nat.reduceSub, Nat.reduceAdd, List.nil_append, List.cons_append]
  refine ⟨mulOk_of h1.1 h2.1, mulOk_of (den_lt h1) (den_lt h2), dd_ne p q, ?_, dd_lt h1 h2, ?_⟩
  · rw [Int.natAbs_mul]
    exact lt8 (n := 4000) (mul_lt (n := 2000) (m := 2000) h1.1 h2.1) (by decide)
  rw [mul_eq]
  exact h
theorem len__law_less : ∀ ds M E Q, sp__law_less ds M E Q → ds.length = [("_law_x" : Str), "_law_y"].length := p2_len
theorem pure__law_less : Pure sp__law_less t__law_less N__law_less := pure2 fun a b M E Q h => by
  obtain ⟨p, q, rfl, rfl, h1, h2, h⟩ := h
  simp only [t__law_less, startD, N__law_less, sRet, dBin, dVar, dC, gt, oMul0, oCmpI, r_ix0, r_ix1, List.map, List.length, List.replicate, List.nil_append, List.cons_append]
  refine ⟨mulOk_of h1.1 (den_lt h2), mulOk_of h2.1 (den_lt h1), ?_⟩
  rw [← decide_eq_decide.mpr (Rat.lt_iff p q)]
  exact h
theorem len__law_frac : ∀ ds M E Q, sp__law_frac ds M E Q → ds.length = [("_law_x" : Str)].length := p1_len
theorem pure__law_frac : Pure sp__law_frac t__law_frac N__law_frac := pure1 fun a M E Q h => by
  obtain ⟨p, rfl, h1, h⟩ := h
  simp only [t__law_frac, startD, N__law_frac, sRet, dCB, dCons, dNil, dBin, dVar, dC, gt, r_ix0, r_ix1, r_mk, self_eq, List.map, List.length, List.replicate, Nat.reduceSub, Nat.reduceAdd, List.nil_append, List.cons_append]
  exact ⟨den_ne p, d_lt h1 (by decide), h⟩
end
section
theorem enumD_drop {l : List D} {i : Nat} {d : D} (h : l[i]? = some d) : (enumD l).drop i = .tup [.int (i : Nat), d] :: (enumD l).drop (i + 1) := by
  have hi := (List.getElem?_eq_some_iff.mp h).1
  have hj : i < (enumD l).length := by unfold enumD; rw [List.length_mapIdx]; exact hi
  rw [List.drop_eq_getElem_cons hj]
  congr 1
  have e : (enumD l)[i]? = some (.tup [.int (i : Nat), d]) := by unfold enumD; rw [List.getElem?_mapIdx, h]; rfl
  rw [List.getElem?_eq_getElem hj] at e
  exact Option.some.inj e
theorem enumD_length {l : List D} : (enumD l).length = l.length := by unfold enumD; exact List.length_mapIdx
theorem comp_map2 {α : Type} {δ : DEnv} {M : Mem} {bd : Bd} {ta : DT} {QA : List D → Mem → Prop} {up : α → D} {g : α → D} : ∀ (l : List α) (acc : List D), (∀ x ∈ l, ∃ δ1, bd (up x) δ = some δ1 ∧ ∀ (Q' : QD), Q' (g x) M → ta δ1 M (fun _ _ _ _ => False) Q') → acc.length + l.length ≤ sizeLine → QA (acc ++ l.map g) M → CompL bd dYes ta QA (l.map up) acc δ M
  | [], acc, _, _, q => by rw [List.map_nil, List.append_nil] at q; exact q
  | x :: l, acc, h, hl, q => by
    obtain ⟨δ1, e, h1⟩ := h x (List.mem_cons_self ..)
    rw [List.map_cons]
    unfold CompL
    rw [e]
    refine h1 _ ⟨by rw [List.length_cons] at hl; omega, ?_⟩
    refine comp_map2 l (acc ++ [g x]) (fun y hy => h y (List.mem_cons_of_mem _ hy)) (by rw [List.length_append, List.length_cons, List.length_nil]; rw [List.length_cons] at hl; omega) ?_
    rw [List.append_assoc]
    exact q
end
section
theorem split_lt (x : Rat) : ∀ ys : List Rat, ys.Pairwise (· < ·) → ys.filter (fun y => decide (y < x)) ++ ys.filter (fun y => !decide (y < x)) = ys
  | [], _ => rfl
  | y :: ys, h => by
    obtain ⟨h1, h2⟩ := List.pairwise_cons.mp h
    by_cases hy : y < x
    · have ih := split_lt x ys h2
      rw [List.filter_cons_of_pos (by simpa using hy), List.filter_cons_of_neg (by simpa using hy), List.cons_append, ih]
    · have e1 : (y :: ys).filter (fun y => decide (y < x)) = [] := by
        rw [List.filter_eq_nil_iff]
        intro z hz
        rcases List.mem_cons.mp hz with rfl | hz
        · simpa using hy
        · have := h1 z hz
          simp only [decide_eq_true_eq]
          intro hzx
          exact hy (by grind)
      have e2 : (y :: ys).filter (fun y => !decide (y < x)) = y :: ys := by
        rw [List.filter_eq_self]
        intro z hz
        rcases List.mem_cons.mp hz with rfl | hz
        · simpa using hy
        · have := h1 z hz
          simp only [Bool.not_eq_true', decide_eq_false_iff_not]
          intro hzx
          exact hy (by grind)
      rw [e1, e2, List.nil_append]
theorem ins_up {x : Rat} {a b : List Rat} (h : (a ++ b).Pairwise (· < ·)) (ha : ∀ y ∈ a, y < x) (hb : ∀ y ∈ b, x < y) : (a ++ [x] ++ b).Pairwise (· < ·) := by
  obtain ⟨h1, h2, h3⟩ := List.pairwise_append.mp h
  refine List.pairwise_append.mpr ⟨List.pairwise_append.mpr ⟨h1, List.pairwise_cons.mpr ⟨fun _ z => absurd z List.not_mem_nil, .nil⟩, fun y hy z hz => ?_⟩, h2, fun y hy z hz => ?_⟩
  · rw [List.mem_singleton.mp hz]; exact ha y hy
  · rcases List.mem_append.mp hy with hy | hy
    · exact h3 y hy z hz
    · rw [List.mem_singleton.mp hy]; exact hb z hz
theorem comp_filtR {α : Type} {δ : DEnv} {M : Mem} {bd : Bd} {ta : DT} {tt : DTT} {QA : List D → Mem → Prop} {up : α → D} {p : α → Bool} {f : α → D} : ∀ (l : List α) (acc : List D), (∀ x ∈ l, ∃ δ1, bd (up x) δ = some δ1 ∧ (∀ (QB : Bool → Mem → Prop), QB (p x) M → tt δ1 M (fun _ _ _ _ => False) QB) ∧ ∀ (Q' : QD), Q' (f x) M → ta δ1 M (fun _ _ _ _ => False) Q') → acc.length + l.length ≤ sizeLine → QA (acc ++ (l.filter p).map f) M → CompL bd tt ta QA (l.map up) acc δ M
  | [], acc, _, _, q => by rw [List.filter_nil, List.map_nil, List.append_nil] at q; exact q
  | x :: l, acc, h, hl, q => by
    obtain ⟨δ1, e, h1, h2⟩ := h x (List.mem_cons_self ..)
    rw [List.map_cons]
    unfold CompL
    rw [e]
    refine h1 _ ?_
    rw [List.length_cons] at hl
    cases hp : p x with
    | true =>
      rw [if_pos rfl]
      refine h2 _ ⟨by omega, ?_⟩
      refine comp_filtR l (acc ++ [f x]) (fun y hy => h y (List.mem_cons_of_mem _ hy)) (by rw [List.length_append, List.length_cons, List.length_nil]; omega) ?_
      rw [List.filter_cons_of_pos hp, List.map_cons] at q
      rw [List.append_assoc]
      exact q
    | false =>
      rw [if_neg Bool.false_ne_true]
      refine comp_filtR l acc (fun y hy => h y (List.mem_cons_of_mem _ hy)) (by omega) ?_
      rw [List.filter_cons_of_neg (by rw [hp]; exact Bool.false_ne_true)] at q
      exact q
theorem len__law_sorted : ∀ ds M E Q, sp__law_sorted ds M E Q → ds.length = [("_law_spots" : Str)].length := p1_len
local macro_rules | `(tactic| case xr4 => skip) => `(tactic| (first | refine x_repM ?_ | refine x_v0 ?_ | refine x_v1 ?_ | refine x_v2 ?_ | refine x_v3 ?_ | refine x_v4 ?_ | refine x_v5 ?_ | refine x_v6 ?_ | refine x_v7 ?_ | refine x_v8 ?_ | refine x_v9 ?_ | refine x_v10 ?_ | refine x_v11 ?_ | refine x_gsC ?_ | refine x_gsN ?_ | refine x_lenL ?_ | refine x_lenT ?_ | refine x_max ?_ | refine x_min ?_ | refine x_slice ?_ | refine x_noP ?_ | refine x_part ?_ | refine x_goPart ?_ | refine x_slL ?_ | refine x_rg1 ?_ | refine x_bm ?_ | refine x_seq ?_ | refine x_asg ?_ | refine x_ret ?_ | refine x_if ?_ | refine x_dB ?_ | refine x_ex ?_ | refine x_cons ?_ | refine x_nil ?_ | refine x_tup ?_ | refine x_lst ?_ | refine x_bin ?_ | refine x_un ?_ | refine x_cb ?_ | refine x_call ?_ | refine x_b1 ?_ | refine x_b2 ?_ | refine x_c ?_ | refine x_tt ?_ | refine x_ff ?_ | refine x_ifx ?_ | refine x_andV ?_ | refine x_orV ?_ | refine x_notV ?_ | refine x_not ?_ | refine x_and ?_ | refine x_or ?_ | refine x_still ?_ | refine x_par ?_ | refine x_par2 ?_ | refine x_aug ?_ | refine x_for ?_ | refine x_dseq ?_ | refine x_goL ?_ | refine x_goT ?_ | refine x_comp ?_ | refine x_addI ?_ | refine x_subI ?_ | refine x_neg ?_ | refine x_absI ?_ | refine x_lt ?_ | refine x_le ?_ | refine x_gt ?_ | refine x_ge ?_ | refine x_i0 ?_ | refine x_i1 ?_ | refine x_isB ?_ | refine x_eqB ?_ | refine x_eqI ?_ | refine x_eqpr ?_ | refine x_fbool ?_ | refine x_next ?_ | refine x_drop ?_ | refine x_retN ?_ | refine x_n0 ?_ | refine x_n1 ?_ | refine x_n2 ?_ | refine x_n3 ?_ | refine x_n4 ?_ | refine x_n5 ?_ | refine x_n6 ?_ | refine x_n7 ?_ | refine x_n8 ?_ | refine x_n9 ?_ | refine x_n10 ?_ | refine x_n11 ?_ | refine x_fadd (by assumption) (by assumption) ?_ | refine x_fsub (by assumption) (by assumption) ?_ | refine x_fmul (by assumption) (by assumption) ?_ | refine x_fneg (by assumption) ?_ | refine x_fabs (by assumption) ?_ | refine x_frepr (by assumption) ?_ | refine x_fstr (by assumption) ?_ | refine x_gtup rfl ?_ | refine x_goR1 (by decide) ?_ | refine x_goTup rfl ?_ | refine x_goLst rfl ?_ | refine x_addL rfl ?_ | refine x_meth ?_ | refine x_goQuo ?_ | refine x_truO ?_ | refine x_goTru ?_ | refine x_feq ?_ | refine x_fne ?_ | refine x_par3 ?_ | refine x_par4 ?_ | refine x_nt ?_ | refine x_nf ?_ | refine x_mk1_0 ?_ | refine x_mk1_1 ?_ | refine x_mk1_m ?_ | refine x_flt (by assumption) (by assumption) ?_ | refine x_fle (by assumption) (by assumption) ?_ | refine x_fgt (by assumption) (by assumption) ?_ | refine x_fge (by assumption) (by assumption) ?_ | refine x_fadd (up2 (by assumption)) (up2 (by assumption)) ?_ | refine x_fsub (up2 (by assumption)) (up2 (by assumption)) ?_ | refine x_fmul (up2 (by assumption)) (up2 (by assumption)) ?_ | refine x_fneg (up4 (by assumption)) ?_ | refine x_fabs (up4 (by assumption)) ?_ | refine x_frepr (up1 (by assumption)) ?_ | refine x_flt (up4 (by assumption)) (up4 (by assumption)) ?_ | refine x_fle (up4 (by assumption)) (up4 (by assumption)) ?_ | refine x_fgt (up4 (by assumption)) (up4 (by assumption)) ?_ | refine x_fge (up4 (by assumption)) (up4 (by assumption)) ?_ | refine x_fquo (by assumption) (up2 (by assumption)) (up2 (by assumption)) ?_ | refine x_prop ?_ | refine x_goTop ?_ | refine x_goBot ?_ | refine x_t0 ?_ | refine x_t1 ?_ | refine x_t2 ?_ | refine x_l0 ?_ | refine x_l1 ?_ | refine x_l2 ?_ | refine x_l3 ?_ | refine x_addS (by assumption) ?_ | refine x_fstr (up1 (by assumption)) ?_ | refine x_dic0 ?_ | refine x_fld ?_ | refine x_goOver ?_ | refine x_goUnder ?_ | refine x_sm ?_ | refine x_isaFr ?_ | refine x_chain ?_ | refine x_isnB ?_ | refine x_v12 ?_ | refine x_n12 ?_ | refine x_v13 ?_ | refine x_n13 ?_ | refine x_v14 ?_ | refine x_n14 ?_ | refine x_v15 ?_ | refine x_n15 ?_ | refine x_v16 ?_ | refine x_n16 ?_ | refine x_v17 ?_ | refine x_n17 ?_ | refine x_v18 ?_ | refine x_n18 ?_ | refine x_v19 ?_ | refine x_n19 ?_ | refine x_fldD ?_ | refine x_enum ?_ | refine x_goEnum ?_ | refine x_callK ?_ | refine x_get2 ?_ | refine x_dic2 ?_ | refine x_lstM ?_ | refine x_less (by assumption) (by assumption) ?_ | refine x_plus (by assumption) (by assumption) ?_ | refine x_times (by assumption) (by assumption) ?_ | refine x_minus1 (by assumption) ?_ | refine x_frac (by assumption) ?_ | refine x_inI ?_ | refine x_inIL ?_ | refine x_gLst rfl ?_ | refine x_addT (by assumption) ?_))
theorem sort_loop {a0 : Option D} {M : Mem} {Z : DEnds} {xs : List Rat} (few : xs.length ≤ 1000) (sz : ∀ x ∈ xs, Sz 2000 x) (hz : ∀ (ys : List Rat) a b, ys.Pairwise (· < ·) → (∀ y ∈ ys, y ∈ xs) → ys.length ≤ xs.length → (∀ y ∈ xs, y ∈ ys) → Z.nx [a0, some (prs ys), a, b, none] M) :
    ∀ (us vs ys : List Rat) a b, us ++ vs = xs → ys.Pairwise (· < ·) → (∀ y ∈ ys, y ∈ xs) → ys.length ≤ us.length → (∀ u ∈ us, u ∈ ys) → ForL (gNameD 2) b__law_sorted_1 Z (vs.map pr) [a0, some (prs ys), a, b, none] M
  | us, [], ys, a, b, e, h1, h2, h3, h4 => by
    rw [List.append_nil] at e
    subst e
    exact x_forN (hz ys a b h1 h2 h3 h4)
  | us, x :: vs, ys, a, b, e, h1, h2, h3, h4 => by
    have hx : x ∈ xs := by rw [← e]; exact List.mem_append_right _ (List.mem_cons_self ..)
    have sx := sz x hx
    have lu : us.length + 1 ≤ 1000 := by
      have := congrArg List.length e
      rw [List.length_append, List.length_cons] at this
      omega
    have e' : (us ++ [x]) ++ vs = xs := by rw [← e, List.append_assoc]; rfl
    have ih := fun zs a b => sort_loop few sz hz (us ++ [x]) vs zs a b e'
    rw [List.map_cons]
    refine x_forC ?_
    unfold b__law_sorted_1
    have szl := sizeLine_eq
    repeat (with_reducible first | case xr4 => skip | refine x_sqP ?_ | refine x_lenP ?_)
    refine comp_filtR (p := fun y => decide (y < x)) (f := fun y => pr y) ys [] (fun y hy => ⟨_, rfl, fun QB q => ?_, fun Q' q => ?_⟩) (by rw [List.length_nil]; omega) ?_
    · have sy := sz y (h2 y hy)
      simp only [wipeD, List.set, stt]
      repeat (with_reducible first | case xr4 => skip | refine x_less (by assumption) (by assumption) ?_)
      exact q
    · simp only [wipeD, List.set, stt]
      repeat (with_reducible case xr4 => skip)
      exact q
    rw [List.nil_append]
    have sp := split_lt x ys h1
    generalize hA : ys.filter (fun y => decide (y < x)) = A at sp
    generalize hB : ys.filter (fun y => !decide (y < x)) = B at sp
    have lA : ∀ y ∈ A, y < x := fun y hy => by
      rw [← hA] at hy
      simpa using (List.mem_filter.mp hy).2
    have lB : ∀ y ∈ B, ¬ y < x := fun y hy => by
      rw [← hB] at hy
      simpa using (List.mem_filter.mp hy).2
    have tk : ys.take A.length = A := by rw [← sp, List.take_left]
    have dr : ys.drop A.length = B := by rw [← sp, List.drop_left]
    have lenY : ys.length = A.length + B.length := by rw [← sp, List.length_append]
    have ins : (∀ y ∈ B, x < y) → ForL (gNameD 2) b__law_sorted_1 Z (vs.map pr) [a0, some (prs (A ++ [x] ++ B)), some (pr x), some (.int A.length), none] M := fun lB' => by
      refine ih _ _ _ (ins_up (by rw [sp]; exact h1) lA lB') (fun y hy => ?_) ?_ (fun u hu => ?_)
      · rcases List.mem_append.mp hy with hy | hy
        · rcases List.mem_append.mp hy with hy | hy
          · exact h2 y (by rw [← sp]; exact List.mem_append_left _ hy)
          · rw [List.mem_singleton.mp hy]; exact hx
        · exact h2 y (by rw [← sp]; exact List.mem_append_right _ hy)
      · rw [List.length_append, List.length_append, List.length_append, List.length_cons, List.length_nil]; omega
      · rcases List.mem_append.mp hu with hu | hu
        · have := h4 u hu
          rw [← sp] at this
          rcases List.mem_append.mp this with k | k
          · exact List.mem_append_left _ (List.mem_append_left _ k)
          · exact List.mem_append_right _ k
        · exact List.mem_append_left _ (List.mem_append_right _ hu)
    repeat (with_reducible first | case xr4 => skip | refine x_lenP ?_)
    rw [List.length_map]
    repeat (with_reducible first | case xr4 => skip | refine x_lenP ?_)
    cases B with
    | nil =>
      refine x_dt (by rw [lenY]; simp) ?_
      have ins := ins fun y hy => absurd hy List.not_mem_nil
      repeat (with_reducible case xr4 => skip)
      refine x_slPt rfl ?_
      rw [tk]
      repeat (with_reducible case xr4 => skip)
      refine x_addP1 (by omega) ?_
      repeat (with_reducible case xr4 => skip)
      refine x_slPf rfl ?_
      rw [dr]
      refine x_addP (by rw [List.length_append, List.length_nil]; simp; omega) ?_
      repeat (with_reducible case xr4 => skip)
      exact ins
    | cons z B =>
      have hz1 : ys[A.length]? = some z := by rw [← sp, List.getElem?_append_right (Nat.le_refl _), Nat.sub_self]; rfl
      rw [List.length_cons] at lenY
      refine x_df (by rw [lenY]; omega) ?_
      repeat (with_reducible case xr4 => skip)
      refine x_ixP rfl hz1 ?_
      repeat (with_reducible case xr4 => skip)
      by_cases hzx : z = x
      · rw [decide_eq_true hzx]
        repeat (with_reducible case xr4 => skip)
        refine ih ys _ _ h1 h2 (by rw [List.length_append]; omega) fun u hu => ?_
        rcases List.mem_append.mp hu with hu | hu
        · exact h4 u hu
        · rw [List.mem_singleton.mp hu, ← sp, hzx]
          exact List.mem_append_right _ (List.mem_cons_self ..)
      · rw [decide_eq_false hzx]
        have hp := List.pairwise_append.mp (show (A ++ z :: B).Pairwise (· < ·) by rw [sp]; exact h1)
        have zx : x < z := by
          have := lB z (List.mem_cons_self ..)
          grind
        have ins := ins fun y hy => by
          rcases List.mem_cons.mp hy with rfl | hy
          · exact zx
          · have := (List.pairwise_cons.mp hp.2.1).1 y hy
            grind
        repeat (with_reducible case xr4 => skip)
        refine x_slPt rfl ?_
        rw [tk]
        repeat (with_reducible case xr4 => skip)
        refine x_addP1 (by omega) ?_
        repeat (with_reducible case xr4 => skip)
        refine x_slPf rfl ?_
        rw [dr]
        refine x_addP (by rw [List.length_append, List.length_cons, List.length_cons, List.length_nil]; omega) ?_
        repeat (with_reducible case xr4 => skip)
        exact ins
theorem pure__law_sorted : Pure sp__law_sorted t__law_sorted N__law_sorted := pure1 fun a M E Q h => by
  obtain ⟨xs, rfl, few, sz, h⟩ := h
  simp only [t__law_sorted, startD, N__law_sorted, List.map, List.length, List.replicate, Nat.reduceSub, Nat.reduceAdd, List.nil_append, List.cons_append]
  repeat (with_reducible first | case xr4 => skip | refine x_sqP ?_)
  refine sort_loop few sz (fun ys a b h1 h2 h3 h4 => ?_) [] xs [] _ _ rfl .nil (fun y hy => absurd hy List.not_mem_nil) (Nat.le_refl _) (fun z hz => absurd hz List.not_mem_nil)
  repeat (with_reducible case xr4 => skip)
  exact h ys h1 h2 h3 h4
end
section
theorem forInv {g : DTG} {t : DTS} {Z : DEnds} (I : Nat → DEnv → Mem → Prop) : ∀ (xs : List D) (j : Nat) (δ : DEnv) (M : Mem),
    (∀ i d δ M (Zn : DEnv → Mem → Prop), xs[i]? = some d → I (j + i) δ M → (∀ δ' M', I (j + i + 1) δ' M' → Zn δ' M') → g d δ M Z.ex fun δ1 M1 => t { Z with nx := Zn, ct := Zn, bk := Z.nx } δ1 M1) →
    I j δ M → (∀ δ M, I (j + xs.length) δ M → Z.nx δ M) → ForL g t Z xs δ M
  | [], j, δ, M, _, h0, fin => x_forN (fin δ M h0)
  | x :: xs, j, δ, M, h, h0, fin => by
    refine x_forC ?_
    refine h 0 x δ M _ rfl h0 fun δ' M' h1 => ?_
    refine forInv I xs (j + 1) δ' M' (fun i d δ M Zn hd hi hz => ?_) h1 (fun δ M hI => fin δ M ?_)
    · refine h (i + 1) d δ M Zn (by simpa using hd) ?_ fun δ' M' q => hz δ' M' ?_
      · rw [show j + (i + 1) = j + 1 + i by omega]; exact hi
      · rw [show j + (i + 1) + 1 = j + 1 + i + 1 by omega] at q; exact q
    · rw [List.length_cons, show j + (xs.length + 1) = j + 1 + xs.length by omega]; exact hI
theorem sz01 : Gy 0 ∧ Gy 1 ∧ Sz 1 (0 : Rat) ∧ Sz 1 (1 : Rat) := ⟨⟨by decide +kernel, by decide +kernel⟩, ⟨by decide +kernel, by decide +kernel⟩, ⟨by decide +kernel, by decide +kernel⟩, ⟨by decide +kernel, by decide +kernel⟩⟩
end
section
variable {M : Mem} {E : EX} {E0 : XD} {Q : QD}
theorem same_fr (p q : Rat) : SameD (fr p) (fr q) (decide (p = q)) := fun K ca F v uq rx ry => by
  obtain ⟨a, dx, vs, ev, h1, r1⟩ := rx
  obtain ⟨a', dx', vs', ev', h2, r2⟩ := ry
  subst ev
  cases ev'
  rw [h1] at h2
  cases h2
  obtain ⟨v1, t1, e1, q1, v2, t2, e2, q2, e3⟩ := r1
  obtain ⟨w1, s1, f1, g1, w2, s2, f2, g2, f3⟩ := r2
  subst e1; subst e2; subst e3
  simp only [List.cons.injEq, Prod.mk.injEq, true_and] at f1
  obtain ⟨z1, z2⟩ := f1
  subst z1
  subst f2
  simp only [List.cons.injEq, Prod.mk.injEq, true_and] at z2
  have n : v1 = V.int p.num := q1
  have n' : v1 = V.int q.num := g1
  have m : v2 = V.int p.den := q2
  have m' : w2 = V.int q.den := g2
  rw [← z2.1] at m'
  rw [n] at n'
  rw [m] at m'
  refine decide_eq_true ?_
  injection n' with n'
  injection m' with m'
  exact Rat.ext n' (by omega)
theorem eq_fr {n : Nat} (p q : Rat) : EqD (tl [(0, sp_Frac_eq)]) tgs M n (fr p) (fr q) (decide (p = q)) :=
  .own rfl rfl rfl (by decide) (fun E Q h => ⟨p, rfl, .inl ⟨q, rfl, h⟩⟩) (same_fr p q)
theorem x_eqFF {a b c d : Rat} (h : Q (.bl (decide (a = c) && decide (b = d))) M) : oEqO (tl [(0, sp_Frac_eq)]) tgs 1 (.tup [fr a, fr b]) (.tup [fr c, fr d]) M E0 Q := x_eqO (.two (eq_fr a c) (eq_fr b d)) h
end
section
variable {α β γ : Type} [DecidableEq α] [DecidableEq β] [DecidableEq γ] {P : α → Prop} {P' : β → Prop} {P'' : γ → Prop} {d e c : Nat} {f : α → D} {g : α → PyData} {f' : β → D} {g' : β → PyData} {f'' : γ → D} {g'' : γ → PyData} {M : Mem} {E : XD} {Q : QD} {k : Bool → Bool}
structure Plain {α : Type} [DecidableEq α] (P : α → Prop) (d : Nat) (f : α → D) (g : α → PyData) : Prop where
  py : ∀ M x, toPy M (f x) = some (g x)
  lay : ∀ x, P x → (g x).canLay0 = true
  dep : ∀ x, (g x).depth ≤ d
  eq : ∀ x y, P x → P y → PyData.eqv (g x) (g y) = decide (x = y)
theorem Plain.mono (h : Plain P d f g) (hd : d ≤ e) : Plain P e f g := ⟨h.py, h.lay, fun x => Nat.le_trans (h.dep x) hd, h.eq⟩
theorem Plain.shaped (h : Plain P d f g) (hd : d ≤ 64) {x : α} (hx : P x) : SeqAt.shaped (g x) = true := by
  unfold SeqAt.shaped
  rw [h.lay x hx]
  exact decide_eq_true (Nat.le_trans (h.dep x) hd)
theorem x_eqPl (h : Plain P d f g) {x y : α} (hx : P x) (hy : P y) (q : Q (.bl (k (decide (x = y)))) M) (hd : d ≤ 64 := by decide) : oEqP k (f x) (f y) M E Q := by
  unfold oEqP
  rw [h.py, h.py]
  exact ⟨h.shaped hd hx, h.shaped hd hy, by rw [h.eq x y hx hy]; exact q⟩
theorem pl_int : Plain (fun _ => True) 0 D.int PyData.int := ⟨fun _ _ => rfl, fun _ _ => rfl, fun _ => Nat.le_refl _, fun x y _ _ => by show (x == y) = _; rw [Bool.eq_iff_iff]; simp⟩
theorem pl_bl : Plain (fun _ => True) 0 D.bl PyData.bool := ⟨fun _ _ => rfl, fun _ _ => rfl, fun _ => Nat.le_refl _, fun x y _ _ => by show (x == y) = _; rw [Bool.eq_iff_iff]; simp⟩
theorem pl_str : Plain (fun x => PyData.strOk x = true) 0 D.str PyData.str := ⟨fun _ _ => rfl, fun _ h => h, fun _ => Nat.le_refl _, fun x y _ _ => by
  show (x == y) = _
  rw [Bool.eq_iff_iff, beq_iff_eq, decide_eq_true_iff]⟩
theorem pl_pr : Plain (fun _ => True) 1 pr pyPr := ⟨fun _ _ => rfl, fun _ _ => rfl, fun _ => Nat.le_refl _, fun x y _ _ => eqv_pr⟩
theorem pys_map (h : Plain P d f g) : ∀ xs : List α, toPys M (xs.map f) = some (xs.map g)
  | [] => rfl
  | x :: xs => by simp only [List.map, toPys, h.py, pys_map h xs]
theorem lay_map (h : Plain P d f g) : ∀ xs : List α, (∀ x ∈ xs, P x) → PyData.canLayAll0 (xs.map g) = true
  | [], _ => rfl
  | x :: xs, hp => by
    simp only [List.map, PyData.canLayAll0]
    rw [h.lay x (hp x (List.mem_cons_self ..)), lay_map h xs fun y hy => hp y (List.mem_cons_of_mem _ hy)]
    rfl
theorem dep_map (h : Plain P d f g) : ∀ xs : List α, PyData.depthAll (xs.map g) ≤ d
  | [] => Nat.zero_le _
  | x :: xs => by
    simp only [List.map, PyData.depthAll]
    have := h.dep x
    have := dep_map h xs
    omega
theorem eqv_map (h : Plain P d f g) : ∀ xs ys : List α, (∀ x ∈ xs, P x) → (∀ x ∈ ys, P x) → PyData.eqvAll (xs.map g) (ys.map g) = decide (xs = ys)
  | [], [], _, _ => rfl
  | [], y :: ys, _, _ => by rw [decide_eq_false (by simp)]; rfl
  | x :: xs, [], _, _ => by rw [decide_eq_false (by simp)]; rfl
  | x :: xs, y :: ys, h1, h2 => by
    simp only [List.map, PyData.eqvAll]
    rw [h.eq x y (h1 x (List.mem_cons_self ..)) (h2 y (List.mem_cons_self ..)), eqv_map h xs ys (fun z hz => h1 z (List.mem_cons_of_mem _ hz)) fun z hz => h2 z (List.mem_cons_of_mem _ hz)]
    rw [Bool.eq_iff_iff, Bool.and_eq_true, decide_eq_true_iff, decide_eq_true_iff, decide_eq_true_iff, List.cons.injEq]
theorem pl_lst (h : Plain P d f g) : Plain (fun xs : List α => ∀ x ∈ xs, P x) (d + 1) (fun xs => .lst (xs.map f)) (fun xs => .list (xs.map g)) :=
  ⟨fun M xs => by simp only [toPy, pys_map h]; rfl, fun xs hp => lay_map h xs hp, fun xs => by have := dep_map h xs; simp only [PyData.depth]; omega, fun xs ys h1 h2 => by simp only [PyData.eqv]; exact eqv_map h xs ys h1 h2⟩
theorem pl_tup (h : Plain P d f g) : Plain (fun xs : List α => ∀ x ∈ xs, P x) (d + 1) (fun xs => .tup (xs.map f)) (fun xs => .tuple (xs.map g)) :=
  ⟨fun M xs => by simp only [toPy, pys_map h]; rfl, fun xs hp => lay_map h xs hp, fun xs => by have := dep_map h xs; simp only [PyData.depth]; omega, fun xs ys h1 h2 => by simp only [PyData.eqv]; exact eqv_map h xs ys h1 h2⟩
theorem pl_pair (h : Plain P d f g) (h' : Plain P' e f' g') : Plain (fun p : α × β => P p.1 ∧ P' p.2) (max d e + 1) (fun p => .tup [f p.1, f' p.2]) (fun p => .tuple [g p.1, g' p.2]) :=
  ⟨fun M p => by simp only [toPy, toPys, h.py, h'.py]; rfl, fun p hp => by simp only [PyData.canLay0, PyData.canLayAll0]; rw [h.lay _ hp.1, h'.lay _ hp.2]; rfl, fun p => by
    have := h.dep p.1
    have := h'.dep p.2
    simp only [PyData.depth, PyData.depthAll]
    omega, fun p q h1 h2 => by
    simp only [PyData.eqv, PyData.eqvAll]
    rw [h.eq _ _ h1.1 h2.1, h'.eq _ _ h1.2 h2.2, Bool.and_true, Bool.eq_iff_iff, Bool.and_eq_true, decide_eq_true_iff, decide_eq_true_iff, decide_eq_true_iff]
    exact ⟨fun z => Prod.ext z.1 z.2, fun z => by rw [z]; exact ⟨rfl, rfl⟩⟩⟩
theorem pl_two (h : Plain P d f g) (h' : Plain P' e f' g') : Plain (fun p : α × β => P p.1 ∧ P' p.2) (max d e + 1) (fun p => .lst [f p.1, f' p.2]) (fun p => .list [g p.1, g' p.2]) :=
  ⟨fun M p => by simp only [toPy, toPys, h.py, h'.py]; rfl, fun p hp => by simp only [PyData.canLay0, PyData.canLayAll0]; rw [h.lay _ hp.1, h'.lay _ hp.2]; rfl, fun p => by
    have := h.dep p.1
    have := h'.dep p.2
    simp only [PyData.depth, PyData.depthAll]
    omega, fun p q h1 h2 => by
    simp only [PyData.eqv, PyData.eqvAll]
    rw [h.eq _ _ h1.1 h2.1, h'.eq _ _ h1.2 h2.2, Bool.and_true, Bool.eq_iff_iff, Bool.and_eq_true, decide_eq_true_iff, decide_eq_true_iff, decide_eq_true_iff]
    exact ⟨fun z => Prod.ext z.1 z.2, fun z => by rw [z]; exact ⟨rfl, rfl⟩⟩⟩
theorem x_eqPair (h : Plain P d f g) (h' : Plain P' e f' g') {a b : α} {a' b' : β} (ha : P a) (hb : P b) (ha' : P' a') (hb' : P' b') (q : Q (.bl (k (decide (a = b) && decide (a' = b')))) M) (hd : max d e + 1 ≤ 64 := by decide) : oEqP k (.tup [f a, f' a']) (.tup [f b, f' b']) M E Q := by
  refine x_eqPl (pl_pair h h') (x := (a, a')) (y := (b, b')) ⟨ha, ha'⟩ ⟨hb, hb'⟩ ?_ hd
  have z : decide ((a, a') = (b, b')) = (decide (a = b) && decide (a' = b')) := by
    rw [Bool.eq_iff_iff, Bool.and_eq_true, decide_eq_true_iff, decide_eq_true_iff, decide_eq_true_iff, Prod.mk.injEq]
  rw [z]
  exact q
theorem x_eqTwo (h : Plain P d f g) (h' : Plain P' e f' g') {a b : α} {a' b' : β} (ha : P a) (hb : P b) (ha' : P' a') (hb' : P' b') (q : Q (.bl (k (decide (a = b) && decide (a' = b')))) M) (hd : max d e + 1 ≤ 64 := by decide) : oEqP k (.lst [f a, f' a']) (.lst [f b, f' b']) M E Q := by
  refine x_eqPl (pl_two h h') (x := (a, a')) (y := (b, b')) ⟨ha, ha'⟩ ⟨hb, hb'⟩ ?_ hd
  have z : decide ((a, a') = (b, b')) = (decide (a = b) && decide (a' = b')) := by
    rw [Bool.eq_iff_iff, Bool.and_eq_true, decide_eq_true_iff, decide_eq_true_iff, decide_eq_true_iff, Prod.mk.injEq]
  rw [z]
  exact q
theorem x_eqPrs {xs ys : List Rat} (q : Q (.bl (k (decide (xs = ys)))) M) : oEqP k (prs xs) (prs ys) M E Q := x_eqPl (pl_lst pl_pr) (fun _ _ => trivial) (fun _ _ => trivial) q
theorem x_eqPP {a b a' b' : Rat} (q : Q (.bl (k (decide (a = b) && decide (a' = b')))) M) : oEqP k (.lst [pr a, pr a']) (.lst [pr b, pr b']) M E Q := x_eqTwo pl_pr pl_pr trivial trivial trivial trivial q
end
section
theorem range_at {i n : Nat} {d : D} (h : (rangeD 0 n)[i]? = some d) : i < n ∧ d = .int i := by
  have hl : i < n := by
    have := (List.getElem?_eq_some_iff.mp h).1
    rwa [rangeD_length] at this
  obtain ⟨j, hj, e⟩ := mem_range (List.mem_of_getElem? h)
  refine ⟨hl, ?_⟩
  unfold rangeD at h
  rw [List.getElem?_map] at h
  rw [List.getElem?_range hl] at h
  cases h
  simp
theorem x_modI {i j : Int} {M : Mem} {E0 : XD} {Q : QD} (hj : 0 < j) (h : Q (.int (i % j)) M) : oMod0 (.int i) (.int j) M E0 Q := by
  refine ⟨by omega, ?_⟩
  rw [fm _ _ (Int.le_of_lt hj)]
  exact h
theorem x_lowI {i j : Int} {M : Mem} {E0 : XD} {Q : QD} (h1 : j ≠ 0) (h2 : i.natAbs < 2 ^ 8000) (h3 : j.natAbs < 2 ^ 8000) (h : Q (pr (Rat.divInt i j)) M) : sp__law_low [.int i, .int j] M E0 Q := ⟨h1, h2, h3, h⟩
theorem x_ixLast {q : Addr} {l : List D} {d : D} {M : Mem} {E0 : XD} {Q : QD} (hm : M q = some (.lst (l ++ [d]))) (h : Q d M) : oIx0 (.ref q) (.int (-1)) M E0 Q := by
  unfold oIx0
  simp only [asL, hm]
  have e : atI (l ++ [d]) (-1) = some d := atI_last ..
  rw [e]
  exact h
theorem x_lenR {q : Addr} {l : List D} {M : Mem} {E0 : XD} {Q : QD} (hm : M q = some (.lst l)) (h : Q (.int l.length) M) : bLen (.ref q) M E0 Q := by
  unfold bLen
  simp only [asL, hm]
  exact h
theorem x_nbb {b : Bool} {P R : Prop} (h : R) : if (!(b == b)) = true then P else R := by
  rw [if_neg (by cases b <;> decide)]
  exact h
end
end TS
namespace TS
open PySem PySem.Spec PyProof.Rows L2 TSR
/-! ### repr of plain data: how long the text is -/
structure Shw (k n : Nat) (p : PyData) : Prop where
  sh : p.showable = true
  hd : p.hasDict = false
  dp : p.depth ≤ k
  ln : p.shown.length ≤ n
theorem Shw.mono {k k' n n' : Nat} {p : PyData} (h : Shw k n p) (a : k ≤ k') (b : n ≤ n') : Shw k' n' p := ⟨h.sh, h.hd, Nat.le_trans h.dp a, Nat.le_trans h.ln b⟩
theorem shw_int {i : Int} {n : Nat} (h : i.natAbs < 2 ^ n) (hn : 0 < n) (hm : n ≤ 1900) : Shw 0 (n + 1) (.int i) :=
  ⟨decide_eq_true (log2_of (m := 1920) h hn (by omega)), rfl, Nat.le_refl _, int_len h hn⟩
theorem shw_bl (b : Bool) : Shw 0 5 (.bool b) := ⟨rfl, rfl, Nat.le_refl _, by cases b <;> decide +kernel⟩
theorem shw_none : Shw 0 4 .none := ⟨rfl, rfl, Nat.le_refl _, by decide +kernel⟩
theorem textFrom_le {n : Nat} : ∀ (ts : List Str) (k : Nat) (acc : Str), (∀ t ∈ ts, t.length ≤ n) → (textFrom k acc ts).length ≤ acc.length + ts.length * (n + 2)
  | [], k, acc, _ => by show acc.length ≤ _; simp
  | t :: ts, k, acc, h => by
    have ih := textFrom_le ts (k + 1) (acc ++ (if k > 0 then ", " else "" : String) ++ t) fun z hz => h z (List.mem_cons_of_mem _ hz)
    have l1 := h t (List.mem_cons_self ..)
    have l2 : (Str.ofString (if k > 0 then ", " else "" : String)).length ≤ 2 := by split <;> decide +kernel
    rw [cat_len, cat_len] at ih
    show (textFrom (k + 1) (acc ++ (if k > 0 then ", " else "" : String) ++ t) ts).length ≤ _
    rw [List.length_cons, Nat.succ_mul]
    omega
theorem alls {k n : Nat} : ∀ {ps : List PyData}, (∀ p ∈ ps, Shw k n p) → PyData.showableAll ps = true ∧ PyData.hasDictAll ps = false ∧ PyData.depthAll ps ≤ k ∧ (PyData.shownAll ps).length = ps.length ∧ ∀ t ∈ PyData.shownAll ps, t.length ≤ n
  | [], _ => ⟨rfl, rfl, Nat.zero_le _, rfl, fun _ h => absurd h List.not_mem_nil⟩
  | p :: ps, h => by
    obtain ⟨h1, h2, h3, h4, h5⟩ := alls (ps := ps) fun q hq => h q (List.mem_cons_of_mem _ hq)
    obtain ⟨a, b, c, d⟩ := h p (List.mem_cons_self ..)
    refine ⟨?_, ?_, ?_, ?_, fun t ht => ?_⟩
    · simp only [PyData.showableAll, a, h1, Bool.and_true]
    · simp only [PyData.hasDictAll, b, h2, Bool.or_false]
    · simp only [PyData.depthAll]; omega
    · simp only [PyData.shownAll, List.length_cons, h4]
    · simp only [PyData.shownAll, List.mem_cons] at ht
      rcases ht with rfl | ht
      · exact d
      · exact h5 t ht
theorem shw_lst {k n : Nat} {ps : List PyData} (h : ∀ p ∈ ps, Shw k n p) : Shw (k + 1) (2 + ps.length * (n + 2)) (.list ps) := by
  obtain ⟨h1, h2, h3, h4, h5⟩ := alls h
  refine ⟨h1, h2, by simp only [PyData.depth]; omega, ?_⟩
  show (textFrom 0 "[" (PyData.shownAll ps) ++ "]").length ≤ _
  have := textFrom_le (n := n) (PyData.shownAll ps) 0 (Str.ofString "[") h5
  have e1 : (Str.ofString "[").length = 1 := by decide +kernel
  have e2 : (Str.ofString "]").length = 1 := by decide +kernel
  rw [cat_len]
  rw [h4] at this
  omega
theorem piled_le {n : Nat} : ∀ ts : List Str, (∀ t ∈ ts, t.length ≤ n) → piled ts ≤ ts.length * (n + 2)
  | [], _ => Nat.le_of_eq (by rw [piled_nil]; simp)
  | t :: ts, h => by
    have ih := piled_le ts fun z hz => h z (List.mem_cons_of_mem _ hz)
    have l1 := h t (List.mem_cons_self ..)
    rw [piled_cons, List.length_cons, Nat.succ_mul]
    omega
theorem shw_tup {k n : Nat} {ps : List PyData} (h : ∀ p ∈ ps, Shw k n p) : Shw (k + 1) (3 + ps.length * (n + 2)) (.tuple ps) := by
  obtain ⟨h1, h2, h3, h4, h5⟩ := alls h
  refine ⟨h1, h2, by simp only [PyData.depth]; omega, ?_⟩
  show (("(" : Str) ++ Str.join ", " (PyData.shownAll ps) ++ (if (PyData.shownAll ps).length == 1 then ",)" else ")" : String)).length ≤ _
  have e1 : (Str.ofString "(").length = 1 := by decide +kernel
  have e2 : (Str.ofString (if (PyData.shownAll ps).length == 1 then ",)" else ")" : String)).length ≤ 2 := by split <;> decide +kernel
  have pl := piled_le _ h5
  rw [h4] at pl
  rw [cat_len, cat_len]
  by_cases hn : PyData.shownAll ps = []
  · rw [hn] at e2 ⊢
    have : (Str.join ", " ([] : List Str)).length = 0 := by decide +kernel
    omega
  · have := join_length_add _ hn
    omega
theorem x_repr {d : D} {p : PyData} {k n : Nat} {M : Mem} {E : XD} {Q : QD} (h : toPy M d = some p) (s : Shw k n p) (q : Q (.str p.shown) M) (hk : k ≤ 64 := by decide) (hn : n ≤ 16000000 := by omega) : bReprP d M E Q := by
  unfold bReprP
  rw [h]
  exact ⟨s.sh, s.hd, Nat.le_trans s.dp hk, by rw [sizeLine_eq]; exact Nat.le_trans s.ln (by omega), q⟩
theorem toPy_ints {M : Mem} (ns : List Int) : toPy M (.tup (ns.map D.int)) = some (.tuple (ns.map PyData.int)) := (pl_tup pl_int).py M ns
theorem shw_ints {ns : List Int} (h : ∀ i ∈ ns, i.natAbs < 2 ^ 20) : Shw 1 (3 + ns.length * 23) (.tuple (ns.map PyData.int)) := by
  have := shw_tup (k := 0) (n := 21) (ps := ns.map PyData.int) fun p hp => by
    obtain ⟨i, hi, rfl⟩ := List.mem_map.mp hp
    exact shw_int (h i hi) (by decide) (by decide)
  rw [List.length_map] at this
  exact this
end TS
namespace TSW
open PySem PySem.W PyProof.Rows
theorem callWith_callerK {M : Model} {A : Around} {E : Value → Shared → Prop} {s : Shared} {pos : Pos} {x : Addr} {first : List Value} {Q : Value → Shared → Prop} {kws : List (Option Str × Sem Value)} (hst : (kws.any fun x => x.1.isNone) = false)
    (h : wpAny M A (evalArgs (.ref x) true [] kws) (fun a s₁ => (∃ C ox od, PySem.W.InstAt s₁.heap x ox C od ∧ ox.data = .plain) ∧ wpAny M A (call (.ref x) (first ++ a.pos) a.kw) Q E s₁) E s) : wpAny M A (callWith pos (.ref x) first [] kws) Q E s := by
  unfold callWith
  refine wpAny_bind (wpAny_holding (wpAny_mono h (fun a s₁ ⟨⟨C, ox, od, J, pl⟩, hc⟩ => ?_) fun _ _ z => z))
  refine wpAny_bind (wpAny_standAt ?_)
  rw [hst]
  refine wpAny_bind (W.kco_keeper J pl A _ E s₁ (fun _ _ z => z) ?_)
  show wpAny M A (do let r ← operate _ (call (.ref x) (first ++ a.pos) a.kw); (do holding [r] point; pure r)) _ _ _
  refine wpAny_bind (wpAny_operating (wpAny_mono hc (fun r s₂ hq => ?_) fun _ _ z => z))
  exact wpAny_bind (wpAny_holding (wpAny_point (wpAny_pure hq)))
end TSW
namespace TS
open PySem PySem.Spec PyProof.Rows L2
/-! ### own objects and their methods, called with keywords -/
structure CoKw (X : Cx) (ca : Ca) (k c : Nat) (ks : List Str) (js : List Nat) (dds : List D) (sp : DSp) : Prop where
  ex : ∃ f, Meth X.K (ca c) "__call__" f ∧ PySem.W.fnIn X.K f = true ∧ KwD X.prog X.w X.K X.mg X.base ca k f 1 ks js dds sp
structure MtKw (X : Cx) (ca : Ca) (k c : Nat) (m : Str) (ks : List Str) (js : List Nat) (dds : List D) (sp : DSp) : Prop where
  cl : Cls X.K (ca c)
  ex : ∃ f, Meth X.K (ca c) m f ∧ KwD X.prog X.w X.K X.mg X.base ca k f 1 ks js dds sp
def goCallOK (c : Nat) (sp : DSp) (n : Nat) (js : List Nat) (dds : List D) (t : DTA) (δ : DEnv) (E : EX) (Q : QD) (d : D) (M1 : Mem) : Prop := match d with
  | .obj c' _ => c' = c ∧ t δ M1 E fun ds M2 => goCallK sp (n + 1) js dds (fun c fs M' => E c fs δ M') Q (d :: ds) M2
  | _ => False
def dCallOK (c : Nat) (sp : DSp) (n : Nat) (js : List Nat) (dds : List D) (te : DT) (t : DTA) : DT := fun δ M E Q => te δ M E fun d M1 => goCallOK c sp n js dds t δ E Q d M1
def goMethK (c : Nat) (sp : DSp) (m : Str) (n : Nat) (js : List Nat) (dds : List D) (t : DTA) (δ : DEnv) (E : EX) (Q : QD) (d : D) (M1 : Mem) : Prop := match asO M1 d with
  | some (c', fs) => c' = c ∧ fs.lookup m = none ∧ t δ M1 E fun ds M2 => goCallK sp (n + 1) js dds (fun c fs M' => E c fs δ M') Q (d :: ds) M2
  | none => False
def dMethK (c : Nat) (sp : DSp) (m : Str) (n : Nat) (js : List Nat) (dds : List D) (to : DT) (t : DTA) : DT := fun δ M E Q => to δ M E fun d M1 => goMethK c sp m n js dds t δ E Q d M1
section
variable {X : Cx} {ca : Ca} {W : WX} {j k c : Nat} {x : Str} {e : Expr} {es : List Expr} {o fe : Expr} {kws : List Keyword} {p pos apos : Pos} {te to : DT} {t : DTA} {sp : DSp} {ks : List Str} {js : List Nat} {dds : List D}
theorem run_kw1 {pins : List (Addr × Obj)} {s : Shared} {σ : L2.St} {U F H : Hp} {M : Mem} {δ : DEnv} {E : EX} {Q : QD} {R : VK} {f a : Addr} {d : D} {ds : List D} {vs : List V} {ws : List Value} (C : Ctx X j W) (hk : k ≤ j) (G : KwD X.prog X.w X.K X.mg X.base ca k f 1 ks js dds sp) (I : Inv X pins σ H s) (S : Stt X.K ca U W F M δ E σ H) (r : Vals vs ws) (rd0 : Rep X.K ca F d (.ref a)) (rl : RepL X.K ca F ds vs) (h : goCallK sp (ks.length + 1) js dds (fun c fs M' => E c fs δ M') Q (d :: ds) M) (c1 : Cl X.K ca U F Q R) :
    codeAny (model X.prog X.w) X.A (.call (.ref f) ⟨[.ref a], ks.zip ws⟩) (fun r s' => match r with | .ok (.ret u) => EP X pins σ R u s' | .ok _ => False | .error e => X.xe e s') s := by
  obtain ⟨fd, ps, its, dvs, FF, hb, rd⟩ := G.ex
  obtain ⟨hlen, hs⟩ := h
  have lw : ws.length = ks.length := by rw [← r.length, rl.length]; exact Nat.succ.inj hlen
  have r1 : Vals [V.ref a] [Value.ref a] := .cons rfl .nil
  have rr : RepL X.K ca F (pick js ((d :: ds) ++ dds)) (pick js ([.ref a] ++ vs ++ dvs)) := repL_of_paired (paired_pick (paired_append (paired_append (.cons rd0 .nil) (paired_of_repL rl)) (paired_of_repL (rd F))) js)
  have prom : toSp X.K ca sp (pick js ([.ref a] ++ vs ++ dvs)) H R (fun cls od H' => W cls od σ H') :=
    ⟨U, F, M, pick js ((d :: ds) ++ dds), _, Q, rr, S.hr, hs, c1, fun c' fs M' F' H' od he e hr ho => S.xc c' fs δ M' F' σ H' od he e (S.env.mono e) hr ho⟩
  have ran := FF.run X.A X.stack _ _ ⟨[.ref a], ks.zip ws⟩ (pick js ([.ref a] ++ ws ++ its)) _ _ _ (C.room.mono hk) I.env0 (hb.to _ [.ref a] ws I.kIn rfl lw) (hb.rel r1 r) prom
  refine codeAny_mono ran fun r' s' out => ?_
  cases r' with
  | error e => exact C.tk e s' (XE.of_call I (fun cls d H' z => z) out)
  | ok fl =>
    cases fl with
    | ret u => exact I.after out
    | next => exact out.elim
    | brk => exact out.elim
    | cont => exact out.elim
theorem de_callOK (C : Ctx X j W) (ok : CoKw X ca k c ks js dds sp) (he : DE X ca W (.Name x p) te) (ha : DPK X ca W kws t) (hk : k ≤ j := by decide)
    (hall : (backToKw pos (keywordEach kws X.env)).all (·.1.isSome) = true := by rfl) (hks : (backToKw pos (keywordEach kws X.env)).filterMap (·.1) = ks := by rfl)
    (hpl : ((backToKw pos (keywordEach kws X.env)).any (·.1.isNone)) = false := by rfl) : DE X ca W (.Call (.Name x p) [] kws pos) (dCallOK c sp ks.length js dds te t) := by
  refine ⟨fun pins s σ H R I ⟨U, F, M, δ, E, Q, S, h, c0⟩ => ?_⟩
  refine wpAny_Call_Name_kw (thn (he.run pins s σ H (fun x H1 => ∃ F1 M1 d, Stt X.K ca U W F1 M1 δ E σ H1 ∧ Rep X.K ca F1 d x ∧ goCallOK c sp ks.length js dds t δ E Q d M1 ∧ Cl X.K ca U F1 Q R) I (lift_of S h fun d M1 F1 v H1 h1 e1 r1 g1 => ⟨F1, M1, d, S.up e1 g1, r1, h1, c0.up e1⟩)) fun u s1 ⟨v, H1, I1, rv, F1, M1, d, S1, rd, h1, c1⟩ => ?_)
  cases d with
  | obj cl fs =>
    obtain ⟨rfl, h1⟩ : cl = c ∧ t δ M1 E fun ds M2 => goCallK sp (ks.length + 1) js dds (fun c fs M' => E c fs δ M') Q (.obj cl fs :: ds) M2 := h1
    obtain ⟨a, dx, vs0, ev, _, _⟩ := asO_ok S1.hr rd (show asO M1 (.obj cl fs) = some (cl, fs) from rfl)
    subst ev
    obtain rfl : u = Value.ref a := rv
    obtain ⟨f, hm, fi, G⟩ := ok.ex
    refine TSW.callWith_callerK hpl (evalArgs_kw2_nil hall ?_)
    have run := ha.run pos pins s1 σ H1 (fun vs H2 => ∃ F2 M2 ds, Ext F1 F2 ∧ Stt X.K ca U W F2 M2 δ E σ H2 ∧ RepL X.K ca F2 ds vs ∧ goCallK sp (ks.length + 1) js dds (fun c fs M' => E c fs δ M') Q (.obj cl fs :: ds) M2 ∧ Cl X.K ca U F2 Q R) I1 (liftA_of S1 h1 fun ds M2 F2 vs H2 h2 e2 r2 g2 => ⟨F2, M2, ds, e2, S1.up e2 g2, r2, h2, c1.up e2⟩)
    refine wpAny_mono run (fun us s2 z => ?_) fun _ _ z => z
    obtain ⟨ws, H2, I2, r, F2, M2, ds, e2, S2, rl, hs, c2⟩ := z
    have rd2 := rd.mono e2
    obtain ⟨a', dx', vs', ev', ha', _⟩ := asO_ok S2.hr rd2 (show asO M2 (.obj cl fs) = some (cl, fs) from rfl)
    cases ev'
    obtain ⟨od, J⟩ := inst_of I2 ha'
    rw [hks]
    refine ⟨⟨_, _, _, J, rfl⟩, ?_⟩
    refine wpAny_call (PySem.W.kco_code I2.kIn J rfl hm.at_ hm.fn fi ?_)
    exact run_kw1 C hk G I2 S2 r rd2 rl hs c2
  | _ => exact h1.elim
theorem de_methK {m : Str} {pl : Sem Bool} (C : Ctx X j W) (ok : MtKw X ca k c m ks js dds sp) (ho : DE X ca W o to) (ha : DPK X ca W kws t) (hk : k ≤ j := by decide)
    (hall : (backToKw pos (keywordEach kws X.env)).all (·.1.isSome) = true := by rfl) (hks : (backToKw pos (keywordEach kws X.env)).filterMap (·.1) = ks := by rfl)
    (hpl : ((backTo pos (starEach [] X.env)).any (·.1) || (backToKw pos (keywordEach kws X.env)).any (·.1.isNone)) = false := by rfl)
    (ht : eval (.Call (.Attribute o m apos) [] kws pos) X.env = (do
      let ov ← eval o X.env
      standAt apos.atName
      let (f, first) ← holding [ov] (getMethod ov m pl)
      callWith pos f first (backTo pos (starEach [] X.env)) (backToKw pos (keywordEach kws X.env))) := by rfl) :
    DE X ca W (.Call (.Attribute o m apos) [] kws pos) (dMethK c sp m ks.length js dds to t) := by
  refine ⟨fun pins s σ H R I ⟨U, F, M, δ, E, Q, S, h, c0⟩ => ?_⟩
  refine PySem.W.methodCall_KW (pl := pl) (thn (ho.run pins s σ H (fun x H1 => ∃ F1 M1 d, Stt X.K ca U W F1 M1 δ E σ H1 ∧ Rep X.K ca F1 d x ∧ goMethK c sp m ks.length js dds t δ E Q d M1 ∧ Cl X.K ca U F1 Q R) I ?_) fun u s1 ⟨x, H1, I1, rx, F1, M1, d, S1, rd, h1, c1⟩ => ?_) ht
  · exact lift_of S h fun d M1 F1 v H1 h1 e1 r1 g1 => ⟨F1, M1, d, S.up e1 g1, r1, h1, c0.up e1⟩
  · unfold goMethK at h1
    cases eo : asO M1 d with
    | none => rw [eo] at h1; exact h1.elim
    | some p =>
      obtain ⟨k', fs⟩ := p
      rw [eo] at h1
      obtain ⟨rfl, hl, h1⟩ := h1
      obtain ⟨a, dx, vs, ev, ha', rf⟩ := asO_ok S1.hr rd eo
      subst ev
      obtain rfl : u = Value.ref a := rx
      obtain ⟨cl, f, hm, G⟩ := ok
      refine getmeth_ok I1 ha' cl hm (rf.look_none hl) ?_
      refine PySem.W.callWith_KW0 (first := [.ref a]) (h₀ := X.base) I.ok.mod.kin hm.kp hall (thn (ha.run pos pins s1 σ H1 (fun vs H2 => ∃ F2 M2 ds, Ext F1 F2 ∧ Stt X.K ca U W F2 M2 δ E σ H2 ∧ RepL X.K ca F2 ds vs ∧ goCallK sp (ks.length + 1) js dds (fun c fs M' => E c fs δ M') Q (d :: ds) M2 ∧ Cl X.K ca U F2 Q R) I1 ?_) fun us s2 ⟨ws, H2, I2, r, F2, M2, ds, e2, S2, rl, hs, c2⟩ => ⟨I2.kIn, ?_⟩) hpl
      · exact liftA_of S1 h1 fun ds M2 F2 vs H2 h2 e2 r2 g2 => ⟨F2, M2, ds, e2, S1.up e2 g2, r2, h2, c1.up e2⟩
      · rw [hks]
        exact wpAny_call (run_kw1 C hk G I2 S2 r (rd.mono e2) rl hs c2)
/-- an own object that a row gives is called -/
theorem de_callOE {T : Nat → Option DSp} (C : Ctx X j W) (ok : CoOk X ca k T) (he : DE X ca W fe te) (ha : DPA X ca W (e :: es) t) (hk : k ≤ j := by decide)
    (hev : eval (.Call fe (e :: es) [] pos) X.env = (do callWith pos (← eval fe X.env) [] (backTo pos (starEach (e :: es) X.env)) (backToKw pos (keywordEach [] X.env))) := by rfl)
    (hst : starEach (e :: es) X.env = (false, eval e X.env) :: starEach es X.env := by rfl) (hpl : (backTo pos (starEach (e :: es) X.env)).any (·.1) = false := by rfl) :
    DE X ca W (.Call fe (e :: es) [] pos) (dCallO T te t) := by
  refine ⟨fun pins s σ H R I ⟨U, F, M, δ, E, Q, S, h, c⟩ => ?_⟩
  rw [hev]
  refine wpAny_bind (thn (he.run pins s σ H (fun x H1 => ∃ F1 M1 d, Stt X.K ca U W F1 M1 δ E σ H1 ∧ Rep X.K ca F1 d x ∧ (match d with
    | .obj c _ => (match T c with | some sp => t δ M1 E fun ds M2 => sp (d :: ds) M2 (fun c fs M' => E c fs δ M') Q | none => False)
    | _ => False) ∧ Cl X.K ca U F1 Q R) I (lift_of S h fun d M1 F1 v H1 h1 e1 r1 g1 => ⟨F1, M1, d, S.up e1 g1, r1, h1, c.up e1⟩)) fun u s1 ⟨v, H1, I1, rv, F1, M1, d, S1, rd, h1, c1⟩ => ?_)
  cases d with
  | obj cl fs =>
    have h1 : (match T cl with | some sp => t δ M1 E fun ds M2 => sp (.obj cl fs :: ds) M2 (fun c fs M' => E c fs δ M') Q | none => False) := h1
    cases et : T cl with
    | none => rw [et] at h1; exact h1.elim
    | some sp =>
      rw [et] at h1
      obtain ⟨a, dx, vs0, ev, _, _⟩ := asO_ok S1.hr rd (show asO M1 (.obj cl fs) = some (cl, fs) from rfl)
      subst ev
      obtain rfl : u = Value.ref a := rv
      obtain ⟨f, hm, fi, G⟩ := (ok cl sp et).ex
      refine TSW.callWith_caller hpl ?_
      have run := ha.run pos pins s1 σ H1 (fun vs H2 => ∃ F2 M2 ds, Ext F1 F2 ∧ Stt X.K ca U W F2 M2 δ E σ H2 ∧ RepL X.K ca F2 ds vs ∧ sp (.obj cl fs :: ds) M2 (fun c fs M' => E c fs δ M') Q ∧ Cl X.K ca U F2 Q R) I1 (liftA_of S1 h1 fun ds M2 F2 vs H2 h2 e2 r2 g2 => ⟨F2, M2, ds, e2, S1.up e2 g2, r2, h2, c1.up e2⟩)
      rw [hst] at run ⊢
      refine PySem.Calls.evalArgs_plain (wpAny_mono run (fun us s2 z => ?_) fun _ _ z => z)
      obtain ⟨ws, H2, I2, r, F2, M2, ds, e2, S2, rl, hs, c2⟩ := z
      have rd2 := rd.mono e2
      obtain ⟨a', dx', vs', ev', ha', _⟩ := asO_ok S2.hr rd2 (show asO M2 (.obj cl fs) = some (cl, fs) from rfl)
      cases ev'
      obtain ⟨od, J⟩ := inst_of I2 ha'
      refine ⟨⟨_, _, _, J, rfl⟩, ?_⟩
      refine wpAny_call (PySem.W.kco_code I2.kIn J rfl hm.at_ hm.fn fi ?_)
      exact run_co (vs := .ref a :: ws) (ds := .obj cl fs :: ds) C hk G I2 S2 (.cons rfl r) ⟨_, _, rfl, rd2, rl⟩ hs c2
  | _ => exact h1.elim
end
section
variable {P : Program} {w : World} {K : Fg} {mg : Str → Option Value} {base : Heap} {ca : Ca} {k c : Nat} {f : Addr} {m : Str} {sp : DSp} {ks : List Str} {js : List Nat} {dds : List D}
theorem at_coK (hm : Meth K (ca c) "__call__" f) (fi : PySem.W.fnIn K f = true) (G : KwD P w K mg base ca k f 1 ks js dds sp) : AtX P w K mg base fun X => CoKw X ca k c ks js dds sp := by
  rintro X rfl rfl rfl rfl rfl
  exact ⟨f, hm, fi, G⟩
theorem at_mtK (cl : Cls K (ca c)) (hm : Meth K (ca c) m f) (G : KwD P w K mg base ca k f 1 ks js dds sp) : AtX P w K mg base fun X => MtKw X ca k c m ks js dds sp := by
  rintro X rfl rfl rfl rfl rfl
  exact ⟨cl, f, hm, G⟩
end
section
variable {M : Mem} {E : EX} {Q : QD} {δ : DEnv} {te to : DT} {t : DTA} {sp : DSp} {n c : Nat} {js : List Nat} {dds : List D} {m : Str} {ps : List Pt}
theorem x_callOK (h : te δ M E fun d M1 => goCallOK c sp n js dds t δ E Q d M1) : dCallOK c sp n js dds te t δ M E Q := h
theorem x_methK (h : to δ M E fun d M1 => goMethK c sp m n js dds t δ E Q d M1) : dMethK c sp m n js dds to t δ M E Q := h
end
end TS
namespace TSW
open PySem PySem.W PySem.Spec PySem.Calls PyProof.Rows Builtin
section
variable {prog : Program} {w : World} {A : Around} {E : Value → Shared → Prop} {s : Shared} {K : Frag} {x C L f : Addr} {ox : Obj} {od : Option Obj} {b : Value}
/-- b in x, x of an own class -/
theorem contains_K {Q : Bool → Shared → Prop} (X : K.In s.heap) (I : InstAt s.heap x ox C od) (hs : findIn K (.ref C) "__contains__" = some (some (.ref f))) (hf : isFn K (.ref f) = true)
    (h : wpAny (model prog w) A (call (.ref f) [.ref x, b]) (fun v s' => ∃ c, v = .bool c ∧ Q c s') E s) : wpAny (model prog w) A (contains (.ref x) b) Q E s := by
  have hn : ((some (Value.ref f)) == some Value.none) = false := rfl
  have hn2 : (Value.ref f == Value.none) = false := rfl
  have st : stdlibNamesSay? (.ref x) b = none := rfl
  unfold contains
  refine wpAny_holding ?_
  rw [st]
  refine wpAny_bind (wpAny_bind (I.type.here ((looks_findIn X hs).here ?_)))
  rw [hn]
  simp only [Bool.false_eq_true, if_false]
  refine wpAny_bind (m := callSpecialUnlessNone? (.ref x) (Str.ofString "__contains__") [b] _) ?_
  unfold callSpecialUnlessNone?
  refine wpAny_bind (wpAny_bind (I.type.here ((looks_findIn X hs).here ?_)))
  refine wpAny_holding (wpAny_bind ((bind_fn X _ (beq_iff_eq.mp hf)).here ?_))
  show wpAny _ _ (if (Value.ref f == Value.none) = true then _ else _) _ _ _
  rw [hn2]
  simp only [Bool.false_eq_true, if_false]
  refine wpAny_bind (wpAny_mono h (fun v s' hv => wpAny_pure ?_) fun _ _ z => z)
  obtain ⟨c, rfl, hq⟩ := hv
  exact wpAny_truthy_bool hq
end
section
open HT
variable {prog : Program} {w : World} {A : Around} {E : Value → Shared → Prop} {s : Shared}
theorem adjust_rev (n : Nat) : Builtin.Slice.sliceAdjust none none (-1) (n : Int) = ((n : Int) - 1, -1) := by
  unfold Builtin.Slice.sliceAdjust
  rfl
theorem places_rev (n : Nat) : Builtin.Slice.slicePlaces ((n : Int) - 1) (-1) (-1) = n := by
  unfold Builtin.Slice.slicePlaces
  have h1 : ¬ ((-1 : Int) > 0) := by decide
  have e : (-(-1 : Int)) = 1 := by decide
  simp only [h1, if_false, e, Int.ediv_one]
  split <;> omega
theorem sliceApplied_rev {sl : Addr} {vl vu vk : Value} {n : Nat} {Q : Int × Int × Nat → Shared → Prop} (hs : s.heap.IsSliceOf sl vl vu vk) (pl : IsPart vl none) (pu : IsPart vu none) (pk : IsPart vk (some (-1)))
    (h : Q ((n : Int) - 1, -1, n) s) : wpAny (model prog w) A (Builtin.Slice.sliceApplied (.ref sl) (pure (n : Int))) Q E s := by
  obtain ⟨os, hos, hcs, hds⟩ := id hs
  unfold Builtin.Slice.sliceApplied Builtin.Slice.sliceFields
  refine wpAny_bind (wpAny_bind (wpAny_field hos hds (x := vl) rfl (wpAny_bind (wpAny_field hos hds (x := vu) rfl (wpAny_bind (wpAny_field hos hds (x := vk) rfl (wpAny_pure ?_)))))))
  refine wpAny_bind (slicePart_ pk ?_)
  show wpAny _ _ (if ((-1 : Int) == 0) = true then _ else _) _ _ s
  rw [if_neg (by decide)]
  refine wpAny_bind (slicePart_ pl (wpAny_bind (slicePart_ pu (wpAny_bind (wpAny_pure ?_)))))
  show wpAny _ _ (match Builtin.Slice.sliceAdjust none none (-1) (n : Int) with | (lo, hi) => pure (lo, (-1 : Int), Builtin.Slice.slicePlaces lo hi (-1))) _ _ s
  rw [adjust_rev n]
  show wpAny _ _ (pure ((n : Int) - 1, (-1 : Int), Builtin.Slice.slicePlaces ((n : Int) - 1) (-1) (-1))) _ _ s
  rw [places_rev]
  exact wpAny_pure h
theorem pick_rev (xs : Array Value) : ((List.range xs.size).filterMap fun (m : Nat) => xs[((xs.size : Int) - 1 + (m : Int) * (-1)).toNat]?).toArray = xs.toList.reverse.toArray := by
  have e : ((List.range xs.size).filterMap fun (m : Nat) => xs[((xs.size : Int) - 1 + (m : Int) * (-1)).toNat]?) = ((List.range xs.size).map fun k => xs.size - 1 - k).filterMap (xs[·]?) := by
    rw [List.filterMap_map]
    congr 1
    funext m
    have : ((xs.size : Int) - 1 + (m : Int) * (-1)).toNat = xs.size - 1 - m := by omega
    rw [this]
    rfl
  rw [e, PySem.W.krv_range, List.filterMap_reverse, PySem.W.krv_all]
theorem getItem_tuple_rev {t sl : Addr} {items : Array Value} {vl vu vk : Value} {Q : Value → Shared → Prop} (ht : IsTup s.heap t items) (hs : s.heap.IsSliceOf sl vl vu vk) (pl : IsPart vl none) (pu : IsPart vu none) (pk : IsPart vk (some (-1)))
    (h : Q (.ref s.heap.objs.size) { s with heap := s.heap.push { cls := .type "tuple", data := .seq items.toList.reverse.toArray } })
    (hsz : items.size ≤ sizeLine) : wpAny (model prog w) A (getItem (.ref t) (.ref sl)) Q E s := by
  have htake : sizeOk (.seq items.toList.reverse.toArray) := by
    show items.toList.reverse.toArray.size ≤ sizeLine
    rw [List.size_toArray, List.length_reverse, Array.length_toList]
    omega
  obtain ⟨os, hos, hcs, hds⟩ := id hs
  have hTs : s.TypeIs (.ref sl) "slice" := ⟨os, hos, hcs⟩
  unfold getItem
  try with_reducible refine wpAny_holding ?_
  first | refine wpAny_bind (wpAny_pure ?_) | skip
  refine wpAny_bind (wpAny_sequenceKey ht.typeIs (by decide) ?_)
  refine wpAny_bind (wpAny_callSpecial?_slot (name := Str.ofString "__getitem__") ht.typeIs PyProof.Rows.slot_tuple_getitem
    (wpAny_call_entry PyProof.Rows.slot_tuple_getitem ht.typeIs entry_tuple_getitem ?_ (args_tuple_getitem _ _)))
  show wpAny _ _ (Builtin.Tuple.tupleItemsOf (.ref t) >>= _) _ _ s
  refine wpAny_bind (tupleItemsOf_ ht ?_)
  refine wpAny_bind (wpAny_typeOf hTs ?_)
  rw [if_pos (by decide)]
  refine wpAny_bind (sliceApplied_rev hs pl pu pk ?_)
  have hno : ¬ ((((items.size : Int) - 1) == 0 && (-1 : Int) == 1 && items.size == items.size) = true) := by
    intro q
    rw [Bool.and_eq_true, Bool.and_eq_true] at q
    exact absurd q.1.2 (by decide)
  show wpAny _ _ (if (((items.size : Int) - 1) == 0 && (-1 : Int) == 1 && items.size == items.size) = true then _ else _) _ _ s
  rw [if_neg hno, pick_rev]
  first
    | exact wpAny_bind (m := Builtin.Tuple.tupleExact _) (wpAny_newObj_type (wpAny_pure ⟨_, rfl, wpAny_pure h⟩) htake)
    | exact wpAny_bind (m := Builtin.Tuple.tupleExact _) (wpAny_newObj_type (wpAny_bind (wpAny_pure (wpAny_pure ⟨_, rfl, wpAny_pure h⟩))) htake)
    | exact wpAny_bind (wpAny_bind (m := Builtin.Tuple.tupleExact _) (wpAny_newObj_type (wpAny_pure (wpAny_pure ⟨_, rfl, wpAny_pure h⟩)) htake))
    | exact wpAny_bind (wpAny_bind (m := Builtin.Tuple.tupleExact _) (wpAny_newObj_type (wpAny_pure ⟨_, rfl, wpAny_pure h⟩) htake))
end
end TSW
namespace L2
open PySem PySem.Spec PyProof.Rows
section
variable {X : Cx}
/-! ### t[::-1] -/
def tRevT (K : PySem.W.Frag) (te : TE) : TE := fun σ H Q => te σ H fun x H1 => ∃ a xs, x = .ref a ∧ SqT K H1 a xs ∧ ∀ p, H1 p = none → Q (.ref p) (upd H1 p (.tup xs.reverse))
theorem pe_revT {e : Expr} {te : TE} {k : Nat} {p1 p2 p3 pos : Pos} (he : PE X e te) : PE X (.Subscript e (.Slice none none (some (.UnaryOp .USub (.Constant (.int 1) k p1) p2)) p3) pos) (tRevT X.K te) := by
  refine ⟨fun pins s σ H Q I h => ?_⟩
  refine Subscript_ (thn (he.run pins s σ H _ I h) fun v s1 ⟨x, H1, I1, r1, q1⟩ => ?_)
  obtain ⟨a, xs, ex, hx, q⟩ := q1
  subst ex
  cases r1
  have hst : PO X (some (.UnaryOp .USub (.Constant (.int 1) k p1) p2)) (tPart (tUn (rU fun i => .int (-i)) (tC (.int 1)))) := po_some (pe_un un_neg pe_int)
  refine wpAny_Slice (thn (po_none.run pins s1 σ H1 (fun o H2 => o = none ∧ H2 = H1) I1 ⟨rfl, rfl⟩) fun vl s2 ⟨l, H2, I2, pl, el, e2⟩ => ?_)
  subst el e2
  refine thn (po_none.run pins s2 σ H2 (fun o H3 => o = none ∧ H3 = H2) I2 ⟨rfl, rfl⟩) fun vu s3 ⟨u, H3, I3, pu, eu, e3⟩ => ?_
  subst eu e3
  refine thn (hst.run pins s3 σ H3 (fun o H4 => o = some (-1) ∧ H4 = H3) I3 ⟨1, rfl, -1, rfl, rfl, rfl⟩) fun vs s4 ⟨o, H4, I4, ps, eo, e4⟩ => ?_
  subst eo e4
  have I5 : Inv X pins σ H4 { s4 with heap := s4.heap.push { cls := .type "slice", data := .fields #[vl, vu, vs] } } := I4.kept (t' := s4.toks) fun b ob q => Heap.get?_push_of_some _ q
  obtain ⟨its, r, ht, hz⟩ := I5.tuple hx
  have hlen := r.length
  show wpAny (model X.prog X.w) X.A (subscriptTail e (.Slice none none (some (.UnaryOp .USub (.Constant (.int 1) k p1) p2)) p3) (.ref a) (.ref s4.heap.objs.size)) (EP X pins σ Q) X.xe { s4 with heap := s4.heap.push { cls := .type "slice", data := .fields #[vl, vu, vs] } }
  refine tail_any (ops := [.ref a, .ref s4.heap.objs.size]) ht.typeIs (PyProof.Rows.slot_tuple_getitem.lookup) ?_ (by with_unfolding_all rfl)
  refine TSW.getItem_tuple_rev ht (Heap.IsSliceOf.new _ vl vu vs) pl pu ps ?_ (by rw [List.size_toArray]; omega)
  refine ⟨.ref _, _, I5.laid (t' := s4.toks) (o := .tup xs.reverse) (fun b ob q => Heap.get?_push_of_some _ q) (Nat.le_refl _) ?_, rfl, q _ (I5.hok.fresh (Nat.le_refl _))⟩
  exact ⟨by rw [List.length_reverse]; exact hz, _, r.reverse, IsTup.new _ _⟩
end
end L2
namespace TS
open PySem PySem.Spec PyProof.Rows L2
section
variable {X : Cx} {ca : Ca} {W : WX} {k j : Nat}
/-- t[::-1] of a tuple -/
def dRev (te : DT) : DT := fun δ M E Q => te δ M E fun d M1 => match d with | .tup l => Q (.tup l.reverse) M1 | _ => False
theorem repL_rev {K : Fg} {F : Hp} : ∀ {l : List D} {vs : List V}, RepL K ca F l vs → RepL K ca F l.reverse vs.reverse
  | [], _, h => by cases h; rfl
  | d :: l, _, ⟨v, r, e, h, t⟩ => by
    subst e
    rw [List.reverse_cons, List.reverse_cons]
    exact (repL_rev t).append (.one h)
theorem de_rev {e : Expr} {te : DT} {kk : Nat} {p1 p2 p3 pos : Pos} (he : DE X ca W e te) : DE X ca W (.Subscript e (.Slice none none (some (.UnaryOp .USub (.Constant (.int 1) kk p1) p2)) p3) pos) (dRev te) :=
  peImp (pe_revT he) fun σ H R ⟨U, F, M, δ, E, Q, S, h, c⟩ => by
    refine lift_of S h fun d M1 F1 v H1 h1 e1 r1 g1 => ?_
    match d, h1 with
    | .tup l, h1 =>
      obtain ⟨a, vs, ev, hs, rl⟩ := r1
      refine ⟨a, vs, ev, hs.ext g1.sub, fun p hp => ?_⟩
      obtain ⟨g2, e2⟩ := g1.newF hp (.tup vs.reverse)
      exact c _ _ _ _ _ h1 (e1.trans e2) ⟨p, _, rfl, .inl (.inl upd_same), (repL_rev rl).mono e2⟩ g2
/-- i += j -/
def oIAdd0 : DOp := fun x y M E Q => match x, y with | .int i, .int j => Q (.int (i + j)) M | _, _ => False
theorem op_iaddD : OpD X ca W (inplaceOp .Add) oIAdd0 := opD_of iop_add fun U F H M δ E Q R dx dy x y hr rx ry ho c => by
  cases dx <;> cases dy <;> first | exact ho.elim | exact ⟨_, _, rx, ry, c _ _ _ _ _ ho Ext.rfl' rfl hr⟩
/-- a list of anything against [] -/
def oEqL0 (f : Bool → Bool) : DOp := fun x y M E Q => match x, y with | .lst l, .lst [] => Q (.bl (f l.isEmpty)) M | _, _ => False
theorem op_eqL0 {j : Nat} (C : Ctx X j W) : OpD X ca W (compareOp .Eq) (oEqL0 fun b => b) := by
  intro pins s σ H U F M δ E Q R dx dy x y v u I S rx ry rv ru ho c
  unfold oEqL0 at ho
  split at ho
  · rename_i l
    obtain ⟨a, vs, rfl, hs, rl⟩ := rx
    obtain ⟨a', vs', rfl, hs', rl'⟩ := ry
    cases rl'
    cases rv
    cases ru
    obtain ⟨its, r1, p1, _⟩ := I.list (hs.ext S.hr.sub)
    obtain ⟨its2, r2, p2, _⟩ := I.list (hs'.ext S.hr.sub)
    have e2 : its2 = [] := by cases r2; rfl
    subst e2
    have hu : X.A.units < cLine := by have := C.room.units; omega
    have hl : its.length = l.length := by rw [← r1.length, rl.length]
    have fin : EP X pins σ R (.bool l.isEmpty) s := ⟨.bl l.isEmpty, H, I, rfl, c _ _ _ _ _ ho Ext.rfl' rfl S.hr⟩
    cases l with
    | nil =>
      have : its = [] := List.length_eq_zero_iff.mp hl
      subst this
      exact SeqAt.eq_listAt (e := fun _ => true) p1.isList p2.isList rfl hu (fun k h1 => absurd h1 (by simp)) fin
    | cons d l =>
      cases its with
      | nil => cases hl
      | cons z zs => exact SeqAt.eq_list_lengthsAt p1.isList p2.isList (by simp) hu fin
  · exact ho.elim
/-- x in o, x not in o: o of an own class with __contains__ -/
def oMemOwn (T : OTab) (f : Bool → Bool) : DOp := fun x y M E Q => match asO M y with
  | some (c, _) => (match T c with
    | some sp => sp [y, x] M E fun r M' => ∃ c, r = .bl c ∧ Q (.bl (f c)) M'
    | none => False)
  | none => False
theorem mem_go {T : OTab} (C : Ctx X j W) (ok : MOk X ca k "__contains__" T) (hk : k ≤ j) {pins : List (Addr × Obj)} {s : Shared} {σ : L2.St} {H U F : Hp} {M : Mem} {δ : DEnv} {E : EX} {Q : QD} {R : VK} {dx dy : D} {x y : V} {v u : Value} {f : Bool → Bool} (I : Inv X pins σ H s) (S : Stt X.K ca U W F M δ E σ H) (rx : Rep X.K ca F dx x) (ry : Rep X.K ca F dy y) (rv : RelV x v) (ru : RelV y u) (ho : oMemOwn T f dx dy M (fun c fs M' => E c fs δ M') Q) (c : Cl X.K ca U F Q R) :
    wpAny (model X.prog X.w) X.A (contains u v) (fun b s' => EP X pins σ R (.bool (f b)) s') X.xe s := by
  unfold oMemOwn at ho
  cases e1 : asO M dy with
  | none => rw [e1] at ho; exact ho.elim
  | some p =>
    obtain ⟨k1, fs⟩ := p
    rw [e1] at ho
    simp only at ho
    cases et : T k1 with
    | none => rw [et] at ho; exact ho.elim
    | some sp =>
      rw [et] at ho
      obtain ⟨cl, g, hm, G⟩ := ok k1 sp et
      obtain ⟨a, da, vs, ev, ha, _⟩ := asO_ok S.hr ry e1
      subst ev
      obtain rfl : u = Value.ref a := ru
      obtain ⟨od, J⟩ := inst_of I ha
      have c2 : Cl X.K ca U F (fun r M' => ∃ b, r = .bl b ∧ Q (.bl (f b)) M') (fun x H => ∃ b, x = .bl b ∧ R (.bl (f b)) H) := fun d M' F' v H' ⟨b, e, q⟩ ex r g => by
        subst e
        exact ⟨b, r, c _ _ _ _ _ q ex rfl g⟩
      refine TSW.contains_K I.kIn J hm.at_ hm.fn (wpAny_mono (run_fnD (us := [.ref a, v]) (vs := [.ref a, x]) (ds := [dy, dx]) (sub_of C hk) G C.tk I S (.cons rfl (.cons rv .nil)) ⟨_, _, rfl, ry, _, _, rfl, rx, rfl⟩ ho c2) (fun r s' z => ?_) fun _ _ z => z)
      obtain ⟨x', H', I', r', b, ex, q⟩ := z
      subst ex
      cases r'
      exact ⟨b, rfl, .bl (f b), H', I', rfl, q⟩
theorem op_memOwn {T : OTab} (C : Ctx X j W) (ok : MOk X ca k "__contains__" T) (hk : k ≤ j := by decide) : OpD X ca W (compareOp .In) (oMemOwn T fun b => b) := fun pins s σ H U F M δ E Q R dx dy x y v u I S rx ry rv ru ho c => by
  show wpAny _ _ (contains u v >>= fun b => (pure (Value.bool b) : Sem Value)) _ _ _
  exact wpAny_bind (wpAny_mono (mem_go C ok hk I S rx ry rv ru ho c) (fun b s' z => wpAny_pure z) fun _ _ z => z)
theorem op_notMemOwn {T : OTab} (C : Ctx X j W) (ok : MOk X ca k "__contains__" T) (hk : k ≤ j := by decide) : OpD X ca W (compareOp .NotIn) (oMemOwn T fun b => !b) := fun pins s σ H U F M δ E Q R dx dy x y v u I S rx ry rv ru ho c => by
  show wpAny _ _ (contains u v >>= fun b => (pure (Value.bool (!b)) : Sem Value)) _ _ _
  exact wpAny_bind (wpAny_mono (mem_go C ok hk I S rx ry rv ru ho c) (fun b s' z => wpAny_pure z) fun _ _ z => z)
/-- the beginning of a recursion: a promise that nobody asks for -/
theorem fnD_nil {P : Program} {w : World} {K : Fg} {mg : Str → Option Value} {base : Heap} {f : Addr} {fd : FuncData} {ps : List Str} {sp : DSp} (hb : Binds K fd ps []) (no : ∀ ds M E Q, ¬ sp ds M E Q) : FnD P w K mg base ca k f [] sp :=
  ⟨fd, ps, [], [], ⟨fun vs H Q E ⟨_, _, _, ds, _, _, _, _, h, _⟩ => (no _ _ _ _ h).elim, fun A outer s H args us vs Q E _ _ _ _ ⟨_, _, _, ds, _, _, _, _, h, _⟩ => (no _ _ _ _ h).elim⟩, hb, .nil, fun _ => rfl⟩
theorem fnIn_of {K : Fg} {x qual : Str} {params : Arguments} {body : List Stmt} {scope : Scope} {dvs : List V} {kws : List (Str × V)} {f : Addr} {fd : FuncData} (F : FunD K x qual params body scope dvs kws f fd) : PySem.W.fnIn K f = true := by
  obtain ⟨_, _, _, _, _, _, _, _, _, _, _, e, _⟩ := F.ex
  unfold PySem.W.fnIn
  rw [e]
theorem Ctx.mono (C : Ctx X j W) (h : k ≤ j) : Ctx X k W := ⟨C.room.mono h, C.tk, C.calm⟩
end
section
variable {M : Mem} {E : EX} {E0 : XD} {Q : QD} {δ : DEnv} {te : DT} {l : List D} {i j : Int} {f : Bool → Bool} {d e : D}
def goRev (Q : QD) (d : D) (M1 : Mem) : Prop := match d with | .tup l => Q (.tup l.reverse) M1 | _ => False
theorem x_rev (h : te δ M E fun d M1 => goRev Q d M1) : dRev te δ M E Q := h
theorem x_goRev (h : Q (.tup l.reverse) M) : goRev Q (.tup l) M := h
theorem comp_filt2 {α : Type} {bd : Bd} {tt : DTT} {ta : DT} {QA : List D → Mem → Prop} {up g : α → D} {p : α → Bool} : ∀ (l : List α) (acc : List D), (∀ x ∈ l, ∃ δ1, bd (up x) δ = some δ1 ∧ (∀ (QB : Bool → Mem → Prop), QB (p x) M → tt δ1 M (fun _ _ _ _ => False) QB) ∧ (p x = true → ∀ (Q' : QD), Q' (g x) M → ta δ1 M (fun _ _ _ _ => False) Q')) → acc.length + l.length ≤ sizeLine → QA (acc ++ (l.filter p).map g) M → CompL bd tt ta QA (l.map up) acc δ M
  | [], acc, _, _, q => by rw [List.filter_nil, List.map_nil, List.append_nil] at q; exact q
  | x :: l, acc, h, hl, q => by
    obtain ⟨δ1, e, h1, h2⟩ := h x (List.mem_cons_self ..)
    rw [List.length_cons] at hl
    rw [List.map_cons]
    unfold CompL
    rw [e]
    refine h1 _ ?_
    cases hp : p x with
    | true =>
      rw [if_pos rfl]
      rw [List.filter_cons_of_pos hp] at q
      refine h2 hp _ ⟨by omega, ?_⟩
      refine comp_filt2 l (acc ++ [g x]) (fun y hy => h y (List.mem_cons_of_mem _ hy)) (by rw [List.length_append, List.length_singleton]; omega) ?_
      rw [List.append_assoc]
      exact q
    | false =>
      rw [if_neg Bool.false_ne_true]
      rw [List.filter_cons_of_neg (by rw [hp]; exact Bool.false_ne_true)] at q
      exact comp_filt2 l acc (fun y hy => h y (List.mem_cons_of_mem _ hy)) (by omega) q
/-- what follows gets a name, so that two ways meet in it -/
theorem x_seqG {t u : DTS} {Z : DEnds} (h : ∀ K : DEnv → Mem → Prop, (∀ δ M, u Z δ M → K δ M) → t { Z with nx := K } δ M) : sSeq t u Z δ M := h _ fun _ _ q => q
theorem x_iadd (h : Q (.int (i + j)) M) : oIAdd0 (.int i) (.int j) M E0 Q := h
theorem x_eqL0 (h : Q (.bl (f l.isEmpty)) M) : oEqL0 f (.lst l) (.lst []) M E0 Q := h
end
end TS
namespace TS
open PySem PySem.Spec PyProof.Rows L2
/-! ### repr of plain data and {} -/
mutual
def rdPy : D → Option PyData
  | .non => some .none
  | .bl b => some (.bool b)
  | .int i => some (.int i)
  | .str z => some (.str z)
  | .tup l => (rdPys l).map .tuple
  | .lst l => (rdPys l).map .list
  | .dic [] => some (.dict [])
  | _ => none
def rdPys : List D → Option (List PyData)
  | [] => some []
  | d :: l => match rdPy d, rdPys l with
    | some p, some ps => some (p :: ps)
    | _, _ => none
end
def SysOk (X : Cx) : Prop := ∃ o, X.K.lookup sysModules = some o ∧ o.cls = .type "dict"
theorem at_sys {P : Program} {w : World} {K : Fg} {mg : Str → Option Value} {base : Heap} (h : ckSys K = true) : AtX P w K mg base SysOk := by
  rintro X rfl rfl rfl rfl rfl
  unfold ckSys at h
  split at h
  · rename_i n dx dt sl e
    exact ⟨_, e, by rw [eq_of_beq h]⟩
  · cases h
section
variable {X : Cx} {ca : Ca} {W : WX} {j : Nat} {pins : List (Addr × Obj)} {σ : L2.St} {H F U : Hp} {M : Mem} {s : Shared}
mutual
theorem rd_ok (I : Inv X pins σ H s) (sy : SysOk X) (hr : HR X.K ca U F M H) : ∀ (d : D) (p : PyData) (v : V) (u : Value), rdPy d = some p → Rep X.K ca F d v → RelV v u → ∃ as, Reads s.heap u p as ∧ sysModules ∉ as
  | .non, _, _, _, e, r, ru => by cases e; cases r; obtain rfl : _ = Value.none := ru; exact ⟨_, .none, by simp⟩
  | .bl b, _, _, _, e, r, ru => by cases e; cases r; obtain rfl : _ = Value.bool b := ru; exact ⟨_, .bool b, by simp⟩
  | .int i, _, _, _, e, r, ru => by cases e; cases r; obtain ⟨t, rfl⟩ := ru; exact ⟨_, .int i t, by simp⟩
  | .str z, _, _, _, e, r, ru => by cases e; cases r; obtain ⟨t, rfl⟩ := ru; exact ⟨_, .str z t, by simp⟩
  | .tup l, p, v, u, e, r, ru => by
    have e : (rdPys l).map PyData.tuple = some p := by unfold rdPy at e; exact e
    cases q : rdPys l with
    | none => rw [q] at e; cases e
    | some ps =>
      rw [q] at e
      cases e
      obtain ⟨a, xs, rfl, hs, rl⟩ := r
      obtain rfl : u = Value.ref a := ru
      obtain ⟨its, rv, ⟨o, ho, hc, n, hd⟩, _⟩ := I.tuple (hs.ext hr.sub)
      obtain ⟨as, h1, h2⟩ := rds_ok I sy hr l ps xs its q rl rv
      exact ⟨_, Reads.tuple ho hc hd h1, h2⟩
  | .lst l, p, v, u, e, r, ru => by
    have e : (rdPys l).map PyData.list = some p := by unfold rdPy at e; exact e
    cases q : rdPys l with
    | none => rw [q] at e; cases e
    | some ps =>
      rw [q] at e
      cases e
      obtain ⟨a, xs, rfl, hs, rl⟩ := r
      obtain rfl : u = Value.ref a := ru
      obtain ⟨its, rv, ⟨o, n, ho, hc, _, hd⟩, _⟩ := I.list (hs.ext hr.sub)
      obtain ⟨as, h1, h2⟩ := rds_ok I sy hr l ps xs its q rl rv
      refine ⟨_, Reads.list ho hc hd h1, fun m => ?_⟩
      rcases List.mem_cons.mp m with z | z
      · obtain ⟨oS, e1, e2⟩ := sy
        have e3 := I.kIn _ _ e1
        rw [z, ho] at e3
        cases e3
        rw [hc] at e2
        injection e2 with e4
        exact absurd e4 (by decide)
      · exact h2 z
  | .dic [], p, v, u, e, r, ru => by
    obtain rfl : p = .dict [] := by unfold rdPy at e; cases e; rfl
    obtain ⟨a, vs, rfl, hF, rk⟩ := r
    obtain rfl : u = Value.ref a := ru
    have ev : vs = [] := by cases rk; rfl
    subst ev
    obtain ⟨_, ns, xs, kv, ⟨o, es, ep, ho, ex, hd, _, pr, _⟩⟩ := (show ObjOk X.prog X.w H s.heap a (.dK []) from I.hok a _ (hr.sub _ _ hF))
    cases kv
    have ee : es.toList = [] := by
      cases hl : es.toList with
      | nil => rfl
      | cons x l => rw [hl] at pr; cases pr
    refine ⟨a :: [] ++ [], Reads.dict ho ex.1 hd (by rw [ee]; exact .nil) (by rw [ee]; exact .nil), fun m => ?_⟩
    simp only [List.append_nil, List.mem_cons, List.not_mem_nil, or_false] at m
    rw [m] at ns
    simp at ns
  | .dic (_ :: _), _, _, _, e, _, _ => by unfold rdPy at e; cases e
  | .obj _ _, _, _, _, e, _, _ => by unfold rdPy at e; cases e
  | .exc _ _, _, _, _, e, _, _ => by unfold rdPy at e; cases e
  | .ref _, _, _, _, e, _, _ => by unfold rdPy at e; cases e
  | .cls _, _, _, _, e, _, _ => by unfold rdPy at e; cases e
  | .ty _, _, _, _, e, _, _ => by unfold rdPy at e; cases e
theorem rds_ok (I : Inv X pins σ H s) (sy : SysOk X) (hr : HR X.K ca U F M H) : ∀ (l : List D) (ps : List PyData) (vs : List V) (us : List Value), rdPys l = some ps → RepL X.K ca F l vs → Vals vs us → ∃ as, ReadsAll s.heap us ps as ∧ sysModules ∉ as
  | [], ps, _, _, e, r, ru => by
    have e2 : ps = [] := by unfold rdPys at e; cases e; rfl
    subst e2
    cases r
    cases ru
    exact ⟨_, .nil, by simp⟩
  | d :: l, ps, _, _, e, r, ru => by
    unfold rdPys at e
    cases q1 : rdPy d with
    | none => rw [q1] at e; cases e
    | some p =>
      cases q2 : rdPys l with
      | none => rw [q1, q2] at e; cases e
      | some ps' =>
        rw [q1, q2] at e
        cases e
        obtain ⟨x, xr, rfl, rd, rl⟩ := r
        cases ru with
        | cons r1 r2 =>
          obtain ⟨as, h1, h2⟩ := rd_ok I sy hr d p x _ q1 rd r1
          obtain ⟨bs, h3, h4⟩ := rds_ok I sy hr l ps' xr _ q2 rl r2
          exact ⟨_, .cons h1 h3, fun m => (List.mem_append.mp m).elim h2 h4⟩
end
def bReprX (x : D) (M : Mem) (E : XD) (Q : QD) : Prop := match x, rdPy x with
  | .lst _, some p => p.showable = true ∧ p.depth ≤ 64 ∧ p.shown.length ≤ sizeLine ∧ Q (.str p.shown) M
  | _, _ => False
theorem call_reprX (C : Ctx X j W) (sy : SysOk X) (hj : 30 ≤ j := by decide) : CallD X ca W (.builtin "repr") (b1 bReprX) := .one fun pins s σ H U F M δ E Q R d v u I S rd ru h c => by
  unfold bReprX at h
  split at h
  · rename_i l p et
    obtain ⟨hs, hdep, hz, q⟩ := h
    obtain ⟨as, rr, ns⟩ := rd_ok I sy S.hr _ p v u et rd ru
    have un := C.room.un
    have gd := C.room.gd hj
    obtain ⟨a, vs, rfl, _⟩ := rd
    obtain rfl : u = Value.ref a := ru
    refine repr_of_reads' rr hs (fun _ => ns) gd (by omega) (fun _ _ z => z) (fun h' u' tk kp => ?_) hz
    exact ⟨.str p.shown, H, I.kept (t' := tk) kp, ⟨u', rfl⟩, c _ _ _ _ _ q Ext.rfl' rfl S.hr⟩
  · exact h.elim
end
/-! ### repr of lists in lists -/
/-- an item tells its text -/
def ItemOk (X : Cx) (ca : Ca) (W : WX) (U : Hp) (M : Mem) (δ : DEnv) (E : EX) (σ : L2.St) (F0 : Hp) (A' : Around) (d : D) (t : Str) : Prop :=
  ∀ (pins : List (Addr × Obj)) (s : Shared) (F H : Hp) (v : V) (u : Value) (b : Nat), b + t.length ≤ sizeLine → Inv X pins σ H s → Ext F0 F → Stt X.K ca U W F M δ E σ H → Rep X.K ca F0 d v → RelV v u →
    wpAny (model X.prog X.w) A' (pyReprUnder b u) (fun z s' => z = t ∧ ∃ F' H', Inv X pins σ H' s' ∧ Ext F F' ∧ HR X.K ca U F' M H') X.xe s
section
variable {X : Cx} {ca : Ca} {W : WX} {k j : Nat} {T : OTab} {M : Mem} {pins : List (Addr × Obj)} {σ : L2.St} {U F0 : Hp} {δ : DEnv} {E : EX} {R : Value → Shared → Prop} {a P : Addr} {vs : List V} {ds : List D} {ts : List Str} {A : Around} {base : Nat}
theorem repr_loopG (item : ∀ (i : Nat) (d : D) (t : Str) (args : List Value), ds[i]? = some d → ts[i]? = some t → ItemOk X ca W U M δ E σ F0 (A.under (.builtin "list.__repr__.loop" ⟨.ref a :: args, []⟩)) d t) (hne : a ≠ P) (hP0 : X.s_0.heap.objs.size ≤ P) (hP3 : ∀ p ∈ X.pn ++ pins, p.1 ≠ P)
    (hsq : SqL X.K F0 a vs) (rl : RepL X.K ca F0 ds vs) (hlen : ts.length = ds.length) (hsz : base + (listText ts).length ≤ sizeLine)
    (fin : ∀ (F' H' : Hp) (s' : Shared) (u : Tok), Inv X pins σ H' s' → Ext F0 F' → Stt X.K ca U W F' M δ E σ H' → R (.str (listText ts) u) s') :
    ∀ (n i : Nat) (s : Shared) (F H : Hp) (acc : Array Value) (c : Nat) (done : List (Str × Tok)), ds.length - i = n → i ≤ ds.length → Inv X ((P, loP acc c) :: pins) σ H s → Ext F0 F → Stt X.K ca U W F M δ E σ H → acc.toList = strValues done → done.map (·.1) = ts.take i →
      codeAny (model X.prog X.w) A (.builtin "list.__repr__.loop" ⟨[.ref a, rawInt i, .ref P, rawInt ((base + piled (ts.take i) : Nat) : Int)], []⟩) (callEnd R X.xe) s := by
  have hX : (listText ts).length = (textFrom 0 "[" ts).length + 1 := by
    show (textFrom 0 "[" ts ++ "]").length = _
    rw [strLen_append]; rfl
  have hL := textFrom_len ts 0 "["
  have hsz2 : ∀ t ∈ ts, t.length ≤ sizeLine := fun t ht => by
    have h2 := hL.2.1 t ht
    omega
  have hsz1 : ts.length ≤ sizeLine := by
    have h1 := hL.1
    rw [if_neg (Nat.lt_irrefl 0)] at h1
    omega
  have hsz3 : (listText ts).length ≤ sizeLine := by omega
  have hp3 := piled_le_listText ts
  intro n
  induction n with
  | zero =>
    intro i s F H acc c done hn hi I e S hacc hdone
    have hin : i = ds.length := by omega
    obtain ⟨its, r, ⟨oa, na, ha, hc, hd, hda⟩, _⟩ := I.list (hsq.ext (e.trans S.hr.sub))
    have nl : its.length = ds.length := by rw [← r.length, rl.length]
    have hP := ClX.pin_at I
    refine codeAny_builtin PySem.F.entry_list_repr_loop ?_
    show wpAny _ _ (Builtin.«list.__repr__.loop» ⟨[.ref a, .int i 0, .ref P, .int ((base + piled (ts.take i) : Nat) : Int) 0], []⟩) _ _ s
    rw [repr_loop_tree]
    refine wpAny_bind (wpAny_listItems ha hda ?_)
    have hnone : its.toArray[(i : Int).toNat]? = none := by simp; omega
    simp only [hnone]
    unfold reprEnd
    refine wpAny_bind (wpAny_listItems hP rfl ?_)
    rw [hacc, repr_fold]
    refine wpAny_bind (wpAny_pure ?_)
    have hall : done.map (·.1) = ts := by rw [hdone, hin, ← hlen, List.take_length]
    rw [hall]
    refine wpAny_bind (wpAny_mkStr (wpAny_pure ?_) hsz3)
    exact fin F H _ _ ((ClX.unpin I).tok _) e S
  | succ n ih =>
    intro i s F H acc c done hn hi I e S hacc hdone
    have hlt : i < ds.length := by omega
    obtain ⟨its, r, ⟨oa, na, ha, hc, hd, hda⟩, _⟩ := I.list (hsq.ext (e.trans S.hr.sub))
    have nl : its.length = ds.length := by rw [← r.length, rl.length]
    have ht : ts[i]? = some (ts[i]'(by omega)) := List.getElem?_eq_getElem (by omega)
    have hdi := List.getElem?_eq_getElem hlt
    generalize ds[i] = d at hdi
    generalize ts[i]'(by omega) = t at ht
    obtain ⟨v, g1, w1⟩ := rl.get hdi
    obtain ⟨u, f1, t1⟩ := r.get g1
    have hp1 := piled_take_succ ht
    have hp2 := piled_take_le ts (i + 1)
    refine codeAny_builtin PySem.F.entry_list_repr_loop ?_
    show wpAny _ _ (Builtin.«list.__repr__.loop» ⟨[.ref a, .int i 0, .ref P, .int ((base + piled (ts.take i) : Nat) : Int) 0], []⟩) _ _ s
    rw [repr_loop_tree]
    refine wpAny_bind (wpAny_listItems ha hda ?_)
    have hsome : its.toArray[(i : Int).toNat]? = some u := by simpa using f1
    simp only [hsome]
    rw [Int.toNat_natCast]
    refine wpAny_bind (wpAny_holding (wpAny_mono (item i d t _ hdi ht _ s F H v u _ (by omega) I e S w1 t1) (fun z' s' z => ?_) fun _ _ z => z))
    obtain ⟨rfl, F', H', I', e', g⟩ := z
    generalize hz : z' = t at *
    refine wpAny_bind (wpAny_mkStr ?_ (hsz2 t (List.mem_of_getElem? ht)))
    refine wpAny_bind ?_
    have hP := ClX.pin_at I'
    show wpAny _ _ (updateSeq P _) _ _ _
    have hasz : acc.size ≤ sizeLine := by
      have e1 : acc.toList.length = acc.size := by simp
      have e2 : (strValues done).length = done.length := by simp [strValues]
      have e3 : done.length = (ts.take i).length := by rw [← hdone, List.length_map]
      have e4 : (ts.take i).length ≤ i := by rw [List.length_take]; omega
      rw [hacc] at e1; omega
    refine wpAny_updateSeq hP rfl (wpAny_pure ⟨PySem.F.quiet_list_repr_loop _, ?_⟩) hasz
    have e1 : ((i : Int) + 1) = ((i + 1 : Nat) : Int) := by omega
    have e2 : base + piled (ts.take i) + (t.length + 2) = base + piled (ts.take (i + 1)) := by omega
    rw [e1, e2]
    obtain ⟨p1, p2, p3, p4, p5⟩ := I'.pin (P, loP acc c) (List.mem_append_right _ (List.mem_cons_self ..))
    have I2 := (ClX.unpin I').turned (t' := s'.toks + 1) (it := P) (h' := s'.heap.update P (Obj.mapSeq (·.push (.str t s'.toks)))) (fun b o hb eb => (Heap.get?_update_other _ _ (Ne.symm hb)).trans eb) p2 p3 (.inr hP0) (cell_ne I') hP3
    have self : (s'.heap.update P (Obj.mapSeq (·.push (.str t s'.toks)))).get? P = some (loP (acc.push (.str t s'.toks)) _) := Heap.get?_update_self _ hP rfl
    have I3 : Inv X ((P, loP (acc.push (.str t s'.toks)) _) :: pins) σ H' { s' with heap := s'.heap.update P (Obj.mapSeq (·.push (.str t s'.toks))), toks := s'.toks + 1 } := I2.pins_of fun p hp => by
      rcases List.mem_cons.mp hp with e | e
      · subst e
        exact ⟨self, p2, p3, p4, fun v z => by cases z⟩
      · exact I2.pin p (List.mem_append_right _ e)
    exact ih (i + 1) _ F' H' (acc.push (.str t s'.toks)) _ (done ++ [(t, s'.toks)]) (by omega) hlt I3 (e.trans e') ⟨S.env.mono e', g, S.xc.up e'⟩ (by simp [hacc, strValues]) (by simp [List.take_add_one, ht, hdone])
/-- the whole list, the guard g being laid -/
theorem list_reprG {s : Shared} {F H : Hp} {g : List Code} (item : ∀ (i : Nat) (d : D) (t : Str) (args : List Value), ds[i]? = some d → ts[i]? = some t → ItemOk X ca W U M δ E σ F0 (A.under (.builtin "list.__repr__.loop" ⟨.ref a :: args, []⟩)) d t)
    (hsq : SqL X.K F0 a vs) (rl : RepL X.K ca F0 ds vs) (hds : ds ≠ []) (hlen : ts.length = ds.length) (hsz : base + (listText ts).length ≤ sizeLine) (hg : A.guards = some g) (hcl : ∀ (v : Value) (rest : List Value) (kw : List (Str × Value)), Code.builtin "list.__repr__.loop" ⟨v :: rest, kw⟩ ∈ g → v ≠ .ref a)
    (I : Inv X pins σ H s) (e : Ext F0 F) (S : Stt X.K ca U W F M δ E σ H)
    (fin : ∀ (F' H' : Hp) (s' : Shared) (u : Tok), Inv X pins σ H' s' → Ext F0 F' → Stt X.K ca U W F' M δ E σ H' → R (.str (listText ts) u) s') :
    wpAny (model X.prog X.w) A.in1 (Builtin.listReprAt base ⟨[.ref a], []⟩) (fun fin s' => match fin with | .done f => callEnd R X.xe (.ok f) s' | .again c' => c'.quiet = true ∧ codeAny (model X.prog X.w) A c' (callEnd R X.xe) s') (fun e s' => callEnd R X.xe (.error e) s') s := by
  obtain ⟨its, r, ⟨oa, na, ha, hc, hd, hda⟩, _⟩ := I.list (hsq.ext (e.trans S.hr.sub))
  have nl : its.length = ds.length := by rw [← r.length, rl.length]
  cases its with
  | nil => exact absurd (List.length_eq_zero_iff.mp (by rw [← nl]; rfl)) hds
  | cons x l =>
    refine wpAny_list_repr_head (A := A.in1) hg (fun v rest kw hm => listSameRef_of_ne (hcl v rest kw hm)) ha hda ?_
    refine wpAny_bind (m := newList []) (wpAny_newObj_type ?_)
    refine wpAny_pure ⟨PySem.F.quiet_list_repr_loop _, ?_⟩
    have hP3 : ∀ p ∈ X.pn ++ pins, p.1 ≠ s.heap.objs.size := fun p hp e => by
      obtain ⟨p1, _⟩ := I.pin p hp
      exact Nat.ne_of_lt (Heap.lt_size p1) e
    have I1 : Inv X ((s.heap.objs.size, loP #[] _) :: pins) σ H { s with heap := s.heap.push { cls := .type "list", data := .seq ([] : List Value).toArray } } :=
      ClX.pin_new (t' := s.toks) I (fun b u e => Heap.get?_push_of_some _ e) (Nat.le_refl _) (Heap.get?_push_size _ rfl) (fun v z => by cases z)
    exact repr_loopG item (Nat.ne_of_lt (Heap.lt_size ha)) I.sz hP3 hsq rl hlen hsz fin ds.length 0 _ F H #[] _ [] rfl (Nat.zero_le _) I1 e S rfl (by simp)
/-! the items -/
theorem item_str {z : Str} : ItemOk X ca W U M δ E σ F0 A (.str z) (reprText z) := fun pins s F H v u b hb I e S rd ru => by
  cases rd
  obtain ⟨tk, rfl⟩ := ru
  rw [pyReprUnder_leaf (v := .str z tk) (by omega) (fun a h => by cases h)]
  exact wpAny_pyRepr_str ⟨rfl, F, H, I.tok _, Ext.rfl', S.hr⟩ (by omega)
theorem item_own {d : D} {t : Str} {c : Nat} {fs : List (Str × D)} {sp : DSp} (tk : Takes X W) (ok : MOk X ca k "__repr__" T) (sub : Sub X k A) (eo : asO M d = some (c, fs)) (et : T c = some sp) (hsp : ∀ E Q, Q (.str t) M → sp [d] M E Q) : ItemOk X ca W U M δ E σ F0 A d t := fun pins s F H v u b hb I e S w1 ru => by
  obtain ⟨_, f, hm, G⟩ := ok c sp et
  obtain ⟨b', da, ws, ev, hb', _⟩ := asO_ok S.hr (w1.mono e) eo
  subst ev
  obtain rfl : u = Value.ref b' := ru
  obtain ⟨od, J⟩ := inst_of I hb'
  refine reprUnder_K (by omega) sub.room.units0 I.kIn J hm.at_ hm.fn ?_
  have q := hsp (fun c fs M' => E c fs δ M') (fun d M' => d = .str t ∧ M' = M) ⟨rfl, rfl⟩
  refine wpAny_mono (run_fnD (us := [.ref b']) (vs := [.ref b']) (ds := [d]) (R := fun z H' => z = .str t ∧ ∃ F', Ext F F' ∧ HR X.K ca U F' M H') sub G tk I S (.cons rfl .nil) ⟨_, _, rfl, w1.mono e, rfl⟩ q ?_) (fun z' s' z => ?_) fun _ _ z => z
  · rintro d' M' F' z H' ⟨e1, e2⟩ e r g
    subst e1; subst e2
    exact ⟨r, F', e, g⟩
  · obtain ⟨z, H', I', rz, ez, F', e', g⟩ := z
    subst ez
    obtain ⟨tk', rfl⟩ := id rz
    exact ⟨t, tk', rfl, rfl, F', H', I', e', g⟩
/-- a list of own objects within a list whose first item is a text -/
theorem item_list {os : List D} {to : List Str} {w0 : Str} {ds0 : List D} {vs0 : List V} {a0 : Addr} {args : List Value} (tk : Takes X W) (ok : MOk X ca k "__repr__" T) (hA : Room (k + 1) A) (hk30 : k < 30) (fr : A.frames = X.A.frames) (hg : A.guards = some [.builtin "list.__repr__.loop" ⟨.ref a0 :: args, []⟩])
    (h0 : SqL X.K F0 a0 vs0) (r0 : RepL X.K ca F0 (.str w0 :: ds0) vs0) (hos : os ≠ []) (own : OwnTexts T M os to) : ItemOk X ca W U M δ E σ F0 A (.lst os) (listText to) := fun pins s F H v u b hb I e S rd ru => by
  obtain ⟨a, vs, rfl, hsq, rl⟩ := rd
  obtain rfl : u = Value.ref a := ru
  obtain ⟨hl, own⟩ := own
  obtain ⟨its, r, ⟨oa, na, ha, hc, hd, hda⟩, _⟩ := I.list (hsq.ext (e.trans S.hr.sub))
  have ne : a0 ≠ a := by
    rintro rfl
    obtain ⟨its0, q0, ⟨ob, nb, hb1, _, _, hdb⟩, _⟩ := I.list (h0.ext (e.trans S.hr.sub))
    rw [ha] at hb1
    cases hb1
    rw [hda] at hdb
    obtain ⟨d1, os', rfl⟩ : ∃ d1 os', os = d1 :: os' := by cases os with | nil => exact (hos rfl).elim | cons x l => exact ⟨x, l, rfl⟩
    obtain ⟨x1, xr, rfl, rd1, _⟩ := rl
    obtain ⟨y1, yr, rfl, rd2, _⟩ := r0
    cases rd2
    cases r
    rename_i r1 _
    cases q0
    rename_i s1 _
    · · obtain ⟨tk', rfl⟩ := s1
        simp only [Data.seq.injEq, List.cons.injEq, Array.mk.injEq] at hdb
        obtain ⟨t1, ht⟩ : ∃ t1, to[0]? = some t1 := by cases to with | nil => cases hl | cons x l => exact ⟨x, rfl⟩
        obtain ⟨c1, fs, sp, eo, _, _⟩ := own 0 d1 t1 rfl ht
        obtain ⟨b', da, ws, ev, _, _⟩ := asO_ok S.hr (rd1.mono e) eo
        subst ev
        obtain rfl := r1
        cases hdb.1.1
  refine wpAny_pyReprUnder_ref (by omega) (wpAny_pyReprObjUnder_twin (twin := "list.__repr__.under") ⟨oa, ha, hc⟩ PySem.F.slot_list_repr.toG rfl hA.units0 ?_)
  refine call_twin_plain PySem.F.plain_list_repr_under PySem.F.entry_list_repr_under PySem.F.check_list_repr_under ⟨oa, ha, hc⟩ PySem.F.slot_list_repr.toG (PySem.F.args_list_repr_1 _) ?_
  refine list_reprG (F0 := F) (fun i d t args hd ht => ?_) (hsq.ext e) (rl.mono e) hos hl hb hg (fun v rest kw hm => ?_) I Ext.rfl' S (fun F' H' s' u I' e' S' => ⟨⟨_, _, rfl⟩, _, _, rfl, rfl, F', H', I', e', S'.hr⟩)
  · obtain ⟨c, fs, sp, eo, et, hsp⟩ := own i d t hd ht
    exact item_own tk ok ⟨Room.loop hA hk30 _, loop_frames.trans fr⟩ eo et hsp
  · simp only [List.mem_cons, List.not_mem_nil, or_false, Code.builtin.injEq, Args.mk.injEq, List.cons.injEq, true_and] at hm
    rw [hm.1.1]
    exact fun z => ne (Value.ref.inj z)
end
/-- an item of such a list, its text -/
def IT (T : OTab) (M : Mem) (d : D) (t : Str) : Prop := (∃ z, d = .str z ∧ t = reprText z) ∨ (∃ c fs sp, asO M d = some (c, fs) ∧ T c = some sp ∧ ∀ E Q, Q (.str t) M → sp [d] M E Q) ∨ ∃ os to, d = .lst os ∧ os ≠ [] ∧ OwnTexts T M os to ∧ t = listText to
def bReprN (T : OTab) (x : D) (M : Mem) (E : XD) (Q : QD) : Prop := ∃ w0 ds ts, x = .lst (.str w0 :: ds) ∧ ts.length = ds.length + 1 ∧ (∀ (i : Nat) (d : D) (t : Str), (D.str w0 :: ds)[i]? = some d → ts[i]? = some t → IT T M d t) ∧ (listText ts).length ≤ sizeLine ∧ Q (.str (listText ts)) M
section
variable {X : Cx} {ca : Ca} {W : WX} {j k : Nat} {T : OTab}
theorem call_reprN (C : Ctx X j W) (ok : MOk X ca k "__repr__" T) (hj : 30 ≤ j := by decide) (hk : k < 27 := by decide) : CallD X ca W (.builtin "repr") (b1 (bReprN T)) := .one fun pins s σ H U F M δ E Q R d v u I S rd ru h c => by
  obtain ⟨w0, ds, ts, rfl, hlen, its, hsz, q⟩ := h
  obtain ⟨a, vs, rfl, hsq, rl⟩ := rd
  obtain rfl : u = Value.ref a := ru
  obtain ⟨us, r, ⟨oa, na, ha, hc, hd, hda⟩, _⟩ := I.list (hsq.ext S.hr.sub)
  have un := C.room.un
  have gd : X.A.in1.guards = some [] := C.room.gd hj
  have ty : s.TypeIs (.ref a) "list" := ⟨oa, ha, hc⟩
  refine call_repr_slot (by omega) ty PySem.F.slot_list_repr.toG ?_
  have r1 : Room (k + 2) X.A.in1 := Room.in1 (C.room.mono (by omega))
  have run : wpAny (model X.prog X.w) X.A.in1 (call (.builtin "list.__repr__") [.ref a]) (EP X pins σ fun z H' => (∃ b, z = .str b) ∧ R z H') X.xe s := by
    refine wpAny_call (codeAny_call_builtin PySem.F.slot_list_repr.plain PySem.F.entry_list_repr (PySem.F.slot_list_repr.check _ _ _ _ _ _ _ _ ty (PySem.F.args_list_repr_1 _) ?_))
    refine list_reprG (base := 0) (F0 := F) (ds := .str w0 :: ds) (g := []) (fun i d t args hd ht => ?_) hsq rl (by simp) hlen (by omega) gd (fun v rest kw hm => nomatch hm) I Ext.rfl' S (fun F' H' s' u I' e' S' => ⟨.str (listText ts), H', I', ⟨u, rfl⟩, ⟨_, rfl⟩, c _ _ _ _ _ q e' rfl S'.hr⟩)
    have rl1 : Room (k + 1) (X.A.in1.under (.builtin "list.__repr__.loop" ⟨.ref a :: args, []⟩)) := Room.loop r1 (by omega) _
    rcases its i d t hd ht with ⟨z, rfl, rfl⟩ | ⟨cl, fs, sp, eo, et, hsp⟩ | ⟨os, to, rfl, hos, own, rfl⟩
    · exact item_str
    · exact item_own C.tk ok ⟨rl1.mono (Nat.le_succ _), loop_frames⟩ eo et hsp
    · exact item_list C.tk ok rl1 (by omega) loop_frames (guards_under_guard (isGuard_list_loop _) gd) hsq rl hos own
  refine wpAny_mono run (fun r s' z => ?_) fun _ _ z => z
  obtain ⟨x, H', I', rx, ⟨b, rfl⟩, q'⟩ := z
  obtain ⟨t, rfl⟩ := id rx
  exact ⟨b, t, rfl, .str b, H', I', rx, q'⟩
/-- either way -/
def bReprL (T : OTab) (x : D) (M : Mem) (E : XD) (Q : QD) : Prop := bReprX x M E Q ∨ bReprN T x M E Q
theorem call_reprL (C : Ctx X j W) (sy : SysOk X) (ok : MOk X ca k "__repr__" T) (hj : 30 ≤ j := by decide) (hk : k < 27 := by decide) : CallD X ca W (.builtin "repr") (b1 (bReprL T)) := CallD.or1 (call_reprX C sy hj) (call_reprN C ok hj hk)
end
end TS
namespace TS
open PySem PySem.Spec PyProof.Rows L2 TSR
def sp_Frac_quotientX : DSp := p2 fun a b M E Q => ∃ p, a = fr p ∧ ((∃ q, b = fr q ∧ q ≠ 0 ∧ Sz 2000 p ∧ Sz 2000 q ∧ Q (fr (p / q)) M) ∨ (b = fr 0 ∧ E 43 [] M) ∨ ∃ t, tgD M b = some t ∧ t ∈ plainT ∧ E 37 [("value", b)] M)
def sp__law_share : DSp := p2 (g2 fun p q M E Q => q ≠ 0 ∧ Sz 2000 p ∧ Sz 2000 q ∧ Q (pr (p / q)) M)
def sp__law_number : DSp := p1 fun a M E Q => ∃ p n, a = .ref p ∧ PoolAt M p n ∧ n < 90000 ∧ ∀ (i j : Int) M', i.natAbs ≤ 100000000000000 → j ≠ 0 → j.natAbs ≤ 100000000000000 → PoolAt M' p (n + 4) → Only1 M M' p → Q (.tup [.int i, .int j]) M'
def sp__law_pair_right : DSp := p2 (g2 fun p q M E Q => Sz 50 p ∧ Sz 50 q ∧ ∀ M', Q (.bl true) M')
def sp__law_wrong_right : DSp := p1 (g1 fun p M E Q => Sz 50 p ∧ Q (.bl true) M)
def sp__law_right : DSp := p1 fun a M E Q => ∃ p, a = .ref p ∧ PoolAt M p 0 ∧ ∀ M', Q (.bl true) M'
def sp_law : DSp := p1 fun a M E Q => ∃ ns : List Int, a = .lst (ns.map D.int) ∧ ns.length ≤ 63 ∧ ∀ M', Q (.bl true) M'
def N_Frac_quotientX : List PySem.Str := ["self", "divisor"]
def t_Frac_quotientX : DTS := (sSeq (sIf (dNot (dB (dCB (b2 (bIsa (isaT isaL))) (dCons (dVar 1) (dCons (dC (.cls 0)) dNil))))) (sRaise 37 "value" (dVar 1)) sNext) (sSeq (sIf (dB (dBin (oEqP fun b => b) (dFld [0] "over" (dVar 1)) (dC (.int 0)))) (sRaise0 43) sNext) (sRet (dCB spC_Frac (dCons (dBin oMul0 (dFld [0] "over" (dVar 0)) (dFld [0] "under" (dVar 1))) (dCons (dBin oMul0 (dFld [0] "under" (dVar 0)) (dFld [0] "over" (dVar 1))) dNil))))))
def N__law_share : List PySem.Str := ["_law_x", "_law_y"]
def t__law_share : DTS := (sRet (dCall sp__law_low [] (dCons (dBin oMul0 (dBin oIx0 (dVar 0) (dC (.int 0))) (dBin oIx0 (dVar 1) (dC (.int 1)))) (dCons (dBin oMul0 (dBin oIx0 (dVar 0) (dC (.int 1))) (dBin oIx0 (dVar 1) (dC (.int 0)))) dNil))))
def N__law_number : List PySem.Str := ["_law_pool_here", "_law_way", "_law_size", "_law_below"]
def t__law_number : DTS := (sSeq (sAsg (dCall sp__law_draw [] (dCons (dVar 0) (dCons (dC (.int 4)) dNil))) (gNameD 1)) (sSeq (sAsg (dBin oIx0 (dLst (dCons (dC (.int 3)) (dCons (dC (.int 12)) (dCons (dBin oPow0 (dC (.int 10)) (dC (.int 6))) (dCons (dBin oPow0 (dC (.int 10)) (dC (.int 14))) dNil))))) (dVar 1)) (gNameD 2)) (sSeq (sAsg (dBin oAdd0 (dC (.int 1)) (dCall sp__law_draw [] (dCons (dVar 0) (dCons (dVar 2) dNil)))) (gNameD 3)) (sRet (dTup (dCons (dBin oSub0 (dCall sp__law_draw [] (dCons (dVar 0) (dCons (dBin oAdd0 (dBin oMul0 (dC (.int 2)) (dVar 2)) (dC (.int 1))) dNil))) (dVar 2)) (dCons (dIf (dB (dBin (oEqP fun b => b) (dCall sp__law_draw [] (dCons (dVar 0) (dCons (dC (.int 2)) dNil))) (dC (.int 0)))) (dVar 3) (dUn uNeg0 (dVar 3))) dNil)))))))
def N__law_pair_right : List PySem.Str := ["_law_first", "_law_second", "_law_a", "_law_b", "_law_as_it_was", "_law_told", "_law_due", "_law_results", "_law_found", "_law_each"]
def b__law_pair_right_1 : DTS := (sIf (dB (dBin (oEqP fun b => !b) (dBin oAdd0 (dLst (dCons (dBin oIx0 (dVar 8) (dC (.int 0))) dNil)) (dStill (dComp (dSeq (dSlice (dVar 8) (dPart (dC (.int 1))) dNoPart)) (bdName 9) dYes (dCall sp__law_pair [] (dCons (dVar 9) dNil)) [9]))) (dVar 6))) (sRet (dC (.bl false))) sNext)
def t__law_pair_right : DTS := (sSeq (sAsg (dTup (dCons (dCall sp__law_frac [] (dCons (dVar 0) dNil)) (dCons (dCall sp__law_frac [] (dCons (dVar 1) dNil)) dNil))) (gTupD (gsCons (gNameD 2) (gsCons (gNameD 3) gsNil)) 2)) (sSeq (sAsg (dLst (dCons (dCB (b1 (uOwnS (tl [(0, sp_Frac_repr)]))) (dCons (dVar 2) dNil)) (dCons (dCB (b1 (uOwnS (tl [(0, sp_Frac_repr)]))) (dCons (dVar 3) dNil)) dNil))) (gNameD 4)) (sSeq (sAsg (dLst (dCons (dBin (oOwn (tl [(0, sp_Frac_mul)])) (dVar 2) (dVar 3)) (dCons (dBin (oOwn (tl [(0, sp_Frac_mul)])) (dVar 3) (dVar 2)) (dCons (dBin (oOwn (tl [(0, sp_Frac_mul)])) (dVar 2) (dVar 2)) dNil)))) (gNameD 5)) (sSeq (sIf (dB (dBin (oEqP fun b => !b) (dStill (dComp (dSeq (dVar 5)) (bdName 9) dYes (dCall sp__law_pair [] (dCons (dVar 9) dNil)) [9])) (dBin oAdd0 (dBin oRepM (dLstM (dCons (dCall sp__law_times [] (dCons (dVar 0) (dCons (dVar 1) dNil))) dNil)) (dC (.int 2))) (dLst (dCons (dCall sp__law_times [] (dCons (dVar 0) (dCons (dVar 0) dNil))) dNil))))) (sRet (dC (.bl false))) sNext) (sSeq (sAsg (dIf (dB (dBin (oEqP fun b => !b) (dBin oIx0 (dVar 1) (dC (.int 0))) (dC (.int 0)))) (dLst (dCons (dC (.str "returned")) (dCons (dCall sp__law_share [] (dCons (dVar 0) (dCons (dVar 1) dNil))) dNil))) (dLst (dCons (dC (.str "zero")) dNil))) (gNameD 6)) (sSeq (sAsg (dLstM (dCons (dCaught [37, 43] (dMeth (tl [(0, (sp_Frac_quotientX, []))]) "quotient" (dVar 2) (dCons (dVar 3) dNil))) dNil)) (gNameD 7)) (sSeq (sDrop (dBM "list" mAppend (dVar 7) (dCons (dCaught [37, 43] (dMethK 0 sp_Frac_quotientX "quotient" 1 [0, 1] [] (dVar 2) (dCons (dVar 3) dNil))) dNil))) (sStill 7 (sSeq (sFor (dSeq (dVar 7)) (gNameD 8) b__law_pair_right_1) (sSeq (sIf (dAnd (dB (dBin (oEqP fun b => !b) (dBin oIx0 (dVar 1) (dC (.int 0))) (dC (.int 0)))) (dB (dBin (oEqP fun b => !b) (dCall sp__law_pair [] (dCons (dMeth (tl [(0, (sp_Frac_quotientX, []))]) "quotient" (dBin (oOwn (tl [(0, sp_Frac_mul)])) (dVar 2) (dVar 3)) (dCons (dVar 3) dNil)) dNil)) (dVar 0)))) (sRet (dC (.bl false))) sNext) (sRet (dBin (oEqP fun b => b) (dLst (dCons (dCB (b1 (uOwnS (tl [(0, sp_Frac_repr)]))) (dCons (dVar 2) dNil)) (dCons (dCB (b1 (uOwnS (tl [(0, sp_Frac_repr)]))) (dCons (dVar 3) dNil)) dNil))) (dVar 4)))))))))))))
def N__law_wrong_right : List PySem.Str := ["_law_pair_here", "_law_a", "_law_matter"]
def b__law_wrong_right_1 : DTS := (sIf (dB (dBin (oEqS fun b => !b) (dCB (b1 (bReprL (tl [(0, sp_Frac_repr)]))) (dCons (dCaught [37, 43] (dMeth (tl [(0, (sp_Frac_quotientX, []))]) "quotient" (dVar 1) (dCons (dVar 2) dNil))) dNil)) (dCB (b1 (bReprL (tl [(0, sp_Frac_repr)]))) (dCons (dLst (dCons (dC (.str "notfraction")) (dCons (dVar 2) dNil))) dNil)))) (sRet (dC (.bl false))) sNext)
def t__law_wrong_right : DTS := (sSeq (sAsg (dCall sp__law_frac [] (dCons (dVar 0) dNil)) (gNameD 1)) (sSeq (sFor (dSeq (dLst (dCons (dC .non) (dCons (dC (.int 0)) (dCons (dC (.int 1)) (dCons (dC (.bl true)) (dCons (dC (.str "1/2")) (dCons (dTup dNil) (dCons (dTup (dCons (dC (.int 1)) (dCons (dC (.int 2)) dNil))) (dCons (dLst (dCons (dVar 1) dNil)) (dCons dDic0 (dCons (dVar 0) (dCons (dLst dNil) (dCons (dBin (oCmpOwn (tl [(0, sp_Frac_eq)]) tgs) (dVar 1) (dVar 1)) dNil)))))))))))))) (gNameD 2) b__law_wrong_right_1) (sRet (dBin (oEqP fun b => b) (dCaught [37, 43] (dMeth (tl [(0, (sp_Frac_quotientX, []))]) "quotient" (dVar 1) (dCons (dCB spC_Frac (dCons (dC (.int 0)) (dCons (dC (.int 5)) dNil))) dNil))) (dLst (dCons (dC (.str "zero")) dNil))))))
def N__law_right : List PySem.Str := ["_law_pool_here", "_law_seen", "_law_turn", "_law_pair_here", "_law_first", "_law_second"]
def b__law_right_1 : DTS := (sSeq (sAsg (dCall sp__law_number [] (dCons (dVar 0) dNil)) (gNameD 3)) (sDrop (dBM "list" mAppend (dVar 1) (dCons (dCall sp__law_low [] (dCons (dBin oIx0 (dVar 3) (dC (.int 0))) (dCons (dBin oIx0 (dVar 3) (dC (.int 1))) dNil))) dNil))))
def b__law_right_2 : DTS := (sIf (dOr (dNot (dB (dCall sp__law_wrong_right [] (dCons (dVar 4) dNil)))) (dNot (dB (dCB (b1 bAll) (dCons (dStill (dComp (dSeq (dVar 1)) (bdName 5) dYes (dCall sp__law_pair_right [] (dCons (dVar 4) (dCons (dVar 5) dNil))) [5])) dNil))))) (sRet (dC (.bl false))) sNext)
def t__law_right : DTS := (sSeq (sAsg (dLstM (dCons (dTup (dCons (dC (.int 0)) (dCons (dC (.int 1)) dNil))) (dCons (dTup (dCons (dC (.int 1)) (dCons (dC (.int 1)) dNil))) dNil))) (gNameD 1)) (sSeq (sFor (dRange1 (dCons (dC (.int 4)) dNil)) (gNameD 2) b__law_right_1) (sStill 1 (sSeq (sFor (dSeq (dVar 1)) (gNameD 4) b__law_right_2) (sRet (dC (.bl true)))))))
def N_law : List PySem.Str := ["_law_script", "_law_k"]
def t_law : DTS := (sRet (dCB (b1 bAll) (dCons (dStill (dComp (dRange1 (dCons (dCB (b2 bMax) (dCons (dC (.int 2)) (dCons (dCB (b2 bMin) (dCons (dCB (b1 bLen) (dCons (dVar 0) dNil)) (dCons (dC (.int 8)) dNil))) dNil))) dNil)) (bdName 1) dYes (dCall sp__law_right [] (dCons (dCall sp__law_pool [] (dCons (dCall sp__law_cell [] (dCons (dVar 0) (dCons (dVar 1) dNil))) dNil)) dNil)) [1])) dNil)))

theorem len_Frac_quotientX : ∀ ds M E Q, sp_Frac_quotientX ds M E Q → ds.length = [("self" : Str), "divisor"].length := p2_len
theorem pure_Frac_quotientX : Pure sp_Frac_quotientX t_Frac_quotientX N_Frac_quotientX := pure2 fun a b M E Q h => by
  obtain ⟨p, rfl, ⟨q, rfl, hq, h1, h2, h⟩ | ⟨rfl, h⟩ | ⟨t, ht, hm, h⟩⟩ := h
  · refine ⟨true, rfl, ?_⟩
    dsimp only
    rw [if_neg (by decide)]
    simp only [startD, N_Frac_quotientX, sSeq, sIf, sNext, dB, sRet, dC, dCB, dCons, dNil, dBin, dFld, dVar, gt, oMul0, List.map, List.length, List.replicate, List.cons_append, List.nil_append, asO_fr, look_over, look_under, r_mk, r_eqint]
    refine ⟨mem0, _, rfl, ?_⟩
    rw [if_neg (by simpa using num_ne hq)]
    refine ⟨mem0, mem0, mulOk_of h1.1 (den_lt h2), mem0, mem0, mulOk_of (den_lt h1) h2.1, Int.mul_ne_zero (den_ne p) (num_ne hq), ?_, ?_⟩
    · rw [Int.natAbs_mul]
      exact lt8 (n := 4000) (mul_lt (n := 2000) (m := 2000) (den_lt h1) h2.1) (by decide)
    · rw [div_eq]
      exact h
  · refine ⟨true, rfl, ?_⟩
    dsimp only
    rw [if_neg (by decide)]
    simp only [startD, N_Frac_quotientX, sSeq, sIf, sNext, dB, sRet, sRaise0, dC, dCB, dCons, dNil, dBin, dFld, dVar, gt, oMul0, List.map, List.length, List.replicate, List.cons_append, List.nil_append, asO_fr, look_over, look_under, r_mk, r_eqint]
    refine ⟨mem0, _, rfl, ?_⟩
    rw [if_pos (by decide)]
    exact h
  · simp only [t_Frac_quotientX, startD, N_Frac_quotientX, sSeq, sIf, sRaise, dNot, dB, dCB, b2, dCons, dNil, dVar, dC, gt, List.map, List.length, List.replicate, List.cons_append, List.nil_append, bIsa, ht, isa_plain hm]
    refine ⟨false, rfl, ?_⟩
    rw [if_pos (by decide)]
    exact h
theorem len__law_share : ∀ ds M E Q, sp__law_share ds M E Q → ds.length = [("_law_x" : Str), "_law_y"].length := p2_len
theorem pure__law_share : Pure sp__law_share t__law_share N__law_share := pure2 fun a b M E Q h => by
  obtain ⟨p, q, rfl, rfl, hq, h1, h2, h⟩ := h
  simp only [t__law_share, startD, N__law_share, sRet, dCall, dCons, dNil, dBin, dVar, dC, gt, oSub0, oMul0, r_ix0, r_ix1, r_low, List.map, List.length, List.replicate, Nat.reduceSub, Nat.reduceAdd, List.nil_append, List.cons_append]
  refine ⟨mulOk_of h1.1 (den_lt h2), mulOk_of (den_lt h1) h2.1, Int.mul_ne_zero (den_ne p) (num_ne hq), ?_, ?_, ?_⟩
  · rw [Int.natAbs_mul]
    exact lt8 (n := 4000) (mul_lt (n := 2000) (m := 2000) h1.1 (den_lt h2)) (by decide)
  · rw [Int.natAbs_mul]
    exact lt8 (n := 4000) (mul_lt (n := 2000) (m := 2000) (den_lt h1) h2.1) (by decide)
  · rw [div_eq]
    exact h
theorem len__law_number : ∀ ds M E Q, sp__law_number ds M E Q → ds.length = [("_law_pool_here" : Str)].length := p1_len
theorem pure__law_number : Pure sp__law_number t__law_number N__law_number := pure1 fun a M E Q h => by
  obtain ⟨p, n, rfl, hp, hn, hq⟩ := h
  simp only [t__law_number, startD, N__law_number, sSeq, sAsg, sRet, dCall, dCons, dNil, dBin, dVar, dC, gNameD, gt, stt, dLst, oPow0, dTup, dIf, dB, dUn, uNeg0, oAdd0, oSub0, oMul0, List.map, List.length, List.replicate, Nat.reduceSub, Nat.reduceAdd, List.nil_append, List.cons_append, r_eqint]
  refine drawn hp (by omega) (by decide) (by decide +kernel) fun d M1 d0 d1 hp1 o1 => ?_
  refine ⟨⟨by decide, by decide, by decide⟩, ⟨by decide, by decide, by decide⟩, by decide, ?_⟩
  obtain ⟨sz, hs, hs1, hs2⟩ : ∃ sz : Int, atI [D.int 3, .int 12, .int ((10 : Int) ^ (6 : Int).toNat), .int ((10 : Int) ^ (14 : Int).toNat)] d = some (.int sz) ∧ 0 < sz ∧ sz ≤ 100000000000000 := by
    have : d = 0 ∨ d = 1 ∨ d = 2 ∨ d = 3 := by omega
    rcases this with rfl | rfl | rfl | rfl
    · exact ⟨3, rfl, by decide, by decide⟩
    · exact ⟨12, rfl, by decide, by decide⟩
    · exact ⟨(10 : Int) ^ (6 : Int).toNat, rfl, by decide, by decide⟩
    · exact ⟨(10 : Int) ^ (14 : Int).toNat, rfl, by decide, by decide⟩
  refine ixL hs ?_
  have hz : sz.natAbs < 2 ^ 8000 := lt8 (n := 50) (by show _ < 1125899906842624; omega) (by decide)
  refine drawn hp1 (by omega) hs1 hz fun d2 M2 e0 e1 hp2 o2 => ?_
  refine ⟨mulOk_of (n := 50) (m := 50) (by decide) (by show _ < 1125899906842624; omega), ?_⟩
  refine drawn hp2 (by omega) (by omega) (lt8 (n := 50) (by show _ < 1125899906842624; omega) (by decide)) fun d3 M3 f0 f1 hp3 o3 => ?_
  refine drawn hp3 (by omega) (by decide) (by decide +kernel) fun d4 M4 g0 g1 hp4 o4 => ?_
  simp only [r_eqint]
  refine ⟨_, rfl, ?_⟩
  have o : Only1 M M4 p := ((o1.trans o2).trans o3).trans o4
  by_cases hd : d4 = 0
  · rw [if_pos (decide_eq_true hd)]
    exact ⟨by decide, hq _ _ _ (by omega) (by omega) (by omega) hp4 o⟩
  · rw [if_neg (by simpa using hd)]
    exact ⟨by decide, hq _ _ _ (by omega) (by omega) (by omega) hp4 o⟩
/-! ### quotients with errors -/
section
variable {δ : DEnv} {M : Mem} {E : EX} {E0 : XD} {Q : QD} {p q : Rat} {d : D} {to : DT} {tr : DTA}
theorem x_goQuoX (h : tr δ M E fun ds M2 => sp_Frac_quotientX (fr p :: ds) M2 (fun c fs M' => E c fs δ M') Q) : goMeth (tl [(0, (sp_Frac_quotientX, []))]) "quotient" tr δ E Q (fr p) M := by
  unfold goMeth
  simp only [asO_fr, tl0, List.append_nil]
  exact ⟨rfl, h⟩
theorem x_goQuoK (h : tr δ M E fun ds M2 => goCallK sp_Frac_quotientX 2 [0, 1] [] (fun c fs M' => E c fs δ M') Q (fr p :: ds) M2) : goMethK 0 sp_Frac_quotientX "quotient" 1 [0, 1] [] tr δ E Q (fr p) M := ⟨rfl, rfl, h⟩
theorem x_quoX (hq : q ≠ 0) (h1 : Sz 300 p) (h2 : Sz 300 q) (h : Q (fr (p / q)) M) : sp_Frac_quotientX [fr p, fr q] M E0 Q := ⟨p, rfl, .inl ⟨q, rfl, hq, up2 h1, up2 h2, h⟩⟩
theorem x_quo0 (h : E0 43 [] M) : sp_Frac_quotientX [fr p, fr 0] M E0 Q := ⟨p, rfl, .inr (.inl ⟨rfl, h⟩)⟩
theorem x_quoW {t : Tg} (ht : tgD M d = some t) (hm : t ∈ plainT) (h : E0 37 [("value", d)] M) : sp_Frac_quotientX [fr p, d] M E0 Q := ⟨p, rfl, .inr (.inr ⟨t, ht, hm, h⟩)⟩
theorem x_shareQ (hq : q ≠ 0) (h1 : Sz 300 p) (h2 : Sz 300 q) (h : Q (pr (p / q)) M) : sp__law_share [pr p, pr q] M E0 Q := ⟨p, q, rfl, rfl, hq, up2 h1, up2 h2, h⟩
/-- an error that is caught -/
theorem caught0 (h : Q (.lst [.str "zero"]) M) : (43 : Nat) ∈ [37, 43] ∧ ([] : List (Str × D)).map (·.1) = fieldsE 43 ∧ Q (.lst (.str (wordE 43) :: ([] : List (Str × D)).map (·.2))) M := ⟨by decide, rfl, h⟩
theorem caughtW (h : Q (.lst [.str "notfraction", d]) M) : (37 : Nat) ∈ [37, 43] ∧ ([(("value" : Str), d)] : List (Str × D)).map (·.1) = fieldsE 37 ∧ Q (.lst (.str (wordE 37) :: ([(("value" : Str), d)] : List (Str × D)).map (·.2))) M := ⟨by decide, rfl, h⟩
end
theorem wordE43 : wordE 43 = "zero" := rfl
/-- its error's repr is told -/
def Tells (M : Mem) (d : D) : Prop := (∃ t, tgD M d = some t ∧ t ∈ plainT) ∧ ∃ z : Str, ∀ (E : XD) (Q : QD), Q (.str z) M → bReprL (tl [(0, sp_Frac_repr)]) (.lst [.str "notfraction", d]) M E Q
theorem tells_x {M : Mem} {d : D} {p : PyData} (ht : ∃ t, tgD M d = some t ∧ t ∈ plainT) (e : rdPy d = some p) (h1 : (PyData.list [.str "notfraction", p]).showable = true) (h2 : (PyData.list [.str "notfraction", p]).depth ≤ 64) (h3 : (PyData.list [.str "notfraction", p]).shown.length ≤ sizeLine) : Tells M d := by
  refine ⟨ht, (PyData.list [.str "notfraction", p]).shown, fun E Q h => .inl ?_⟩
  have e2 : rdPy (.lst [.str "notfraction", d]) = some (.list [.str "notfraction", p]) := by simp [rdPy, rdPys, e]
  unfold bReprX
  rw [e2]
  exact ⟨h1, h2, h3, h⟩
theorem len_s : (PyData.str "notfraction").shown.length ≤ 20 := by decide +kernel
theorem tells_pr {M : Mem} {p : Rat} (h : Sz 50 p) : Tells M (pr p) := by
  have s1 : Shw 0 51 (.int p.num) := shw_int h.1 (by decide) (by decide)
  have s2 : Shw 0 51 (.int (p.den : Int)) := shw_int (show (p.den : Int).natAbs < 2 ^ 50 from h.2) (by decide) (by decide)
  have s3 : Shw 1 109 (.tuple [.int p.num, .int (p.den : Int)]) := shw_tup (k := 0) (n := 51) (ps := [.int p.num, .int (p.den : Int)]) fun x hx => by
    simp only [List.mem_cons, List.not_mem_nil, or_false] at hx
    rcases hx with rfl | rfl
    · exact s1
    · exact s2
  have s4 : Shw 2 224 (.list [.str "notfraction", .tuple [.int p.num, .int (p.den : Int)]]) := shw_lst (k := 1) (n := 109) (ps := [.str "notfraction", .tuple [.int p.num, .int (p.den : Int)]]) fun x hx => by
    simp only [List.mem_cons, List.not_mem_nil, or_false] at hx
    rcases hx with rfl | rfl
    · exact ⟨by decide +kernel, rfl, by decide, Nat.le_trans len_s (by decide)⟩
    · exact s3
  exact tells_x ⟨.tup, rfl, by decide⟩ rfl s4.sh (Nat.le_trans s4.dp (by decide)) (by rw [sizeLine_eq]; exact Nat.le_trans s4.ln (by decide))
theorem tells_fr {M : Mem} {p : Rat} (h : Sz 50 p) : Tells M (.lst [fr p]) := by
  have hw := word_len (h.mono (by decide) : Sz 1900 p)
  have hr : (reprOf p).length ≤ 4020 := by
    unfold reprOf
    rw [cat_len, cat_len, cat_len]
    have e1 : (Str.ofString "Frac('").length = 6 := by decide +kernel
    have e2 : (Str.ofString "')").length = 2 := by decide +kernel
    have e3 : Str.empty.length = 0 := by decide +kernel
    omega
  have l1 : (listText [reprOf p]).length ≤ 4030 := by
    show (textFrom 0 "[" [reprOf p] ++ "]").length ≤ _
    have := textFrom_le (n := 4020) [reprOf p] 0 (Str.ofString "[") fun t ht => by
      simp only [List.mem_cons, List.not_mem_nil, or_false] at ht
      rw [ht]; exact hr
    have e1 : (Str.ofString "[").length = 1 := by decide +kernel
    have e2 : (Str.ofString "]").length = 1 := by decide +kernel
    rw [List.length_cons, List.length_nil] at this
    rw [cat_len]
    omega
  have l2 : (listText [reprText "notfraction", listText [reprOf p]]).length ≤ sizeLine := by
    show (textFrom 0 "[" [reprText "notfraction", listText [reprOf p]] ++ "]").length ≤ _
    have := textFrom_le (n := 4030) [reprText "notfraction", listText [reprOf p]] 0 (Str.ofString "[") fun t ht => by
      simp only [List.mem_cons, List.not_mem_nil, or_false] at ht
      rcases ht with rfl | rfl
      · exact Nat.le_trans (show (reprText "notfraction").length ≤ 20 by decide +kernel) (by decide)
      · exact l1
    have e1 : (Str.ofString "[").length = 1 := by decide +kernel
    have e2 : (Str.ofString "]").length = 1 := by decide +kernel
    rw [List.length_cons, List.length_cons, List.length_nil] at this
    rw [cat_len, sizeLine_eq]
    omega
  refine ⟨⟨.lst, rfl, by decide⟩, _, fun E Q h' => .inr ⟨"notfraction", [.lst [fr p]], [reprText "notfraction", listText [reprOf p]], rfl, rfl, fun i d t hd ht => ?_, l2, h'⟩⟩
  match i, hd, ht with
  | 0, hd, ht => cases hd; cases ht; exact .inl ⟨_, rfl, rfl⟩
  | 1, hd, ht =>
    cases hd
    cases ht
    refine .inr (.inr ⟨[fr p], [reprOf p], rfl, by simp, ⟨rfl, fun i d t hd ht => ?_⟩, rfl⟩)
    match i, hd, ht with
    | 0, hd, ht =>
      cases hd
      cases ht
      exact ⟨0, _, sp_Frac_repr, asO_fr, rfl, fun E Q h' => ⟨p, rfl, h.mono (by decide), h'⟩⟩
    | n + 1, hd, _ => cases hd
  | n + 2, hd, _ => cases hd
theorem len__law_wrong_right : ∀ ds M E Q, sp__law_wrong_right ds M E Q → ds.length = [("_law_pair_here" : Str)].length := p1_len
local macro_rules | `(tactic| case xr1 => skip) => `(tactic| (first | refine x_repM ?_ | refine x_v0 ?_ | refine x_v1 ?_ | refine x_v2 ?_ | refine x_v3 ?_ | refine x_v4 ?_ | refine x_v5 ?_ | refine x_v6 ?_ | refine x_v7 ?_ | refine x_v8 ?_ | refine x_v9 ?_ | refine x_v10 ?_ | refine x_v11 ?_ | refine x_gsC ?_ | refine x_gsN ?_ | refine x_lenL ?_ | refine x_lenT ?_ | refine x_max ?_ | refine x_min ?_ | refine x_slice ?_ | refine x_noP ?_ | refine x_part ?_ | refine x_goPart ?_ | refine x_slL ?_ | refine x_rg1 ?_ | refine x_bm ?_ | refine x_seq ?_ | refine x_asg ?_ | refine x_ret ?_ | refine x_if ?_ | refine x_dB ?_ | refine x_ex ?_ | refine x_cons ?_ | refine x_nil ?_ | refine x_tup ?_ | refine x_lst ?_ | refine x_bin ?_ | refine x_un ?_ | refine x_cb ?_ | refine x_call ?_ | refine x_b1 ?_ | refine x_b2 ?_ | refine x_c ?_ | refine x_tt ?_ | refine x_ff ?_ | refine x_ifx ?_ | refine x_andV ?_ | refine x_orV ?_ | refine x_notV ?_ | refine x_not ?_ | refine x_and ?_ | refine x_or ?_ | refine x_still ?_ | refine x_par ?_ | refine x_par2 ?_ | refine x_aug ?_ | refine x_for ?_ | refine x_dseq ?_ | refine x_goL ?_ | refine x_goT ?_ | refine x_comp ?_ | refine x_addI ?_ | refine x_subI ?_ | refine x_neg ?_ | refine x_absI ?_ | refine x_lt ?_ | refine x_le ?_ | refine x_gt ?_ | refine x_ge ?_ | refine x_i0 ?_ | refine x_i1 ?_ | refine x_isB ?_ | refine x_eqB ?_ | refine x_eqI ?_ | refine x_eqpr ?_ | refine x_fbool ?_ | refine x_next ?_ | refine x_drop ?_ | refine x_retN ?_ | refine x_n0 ?_ | refine x_n1 ?_ | refine x_n2 ?_ | refine x_n3 ?_ | refine x_n4 ?_ | refine x_n5 ?_ | refine x_n6 ?_ | refine x_n7 ?_ | refine x_n8 ?_ | refine x_n9 ?_ | refine x_n10 ?_ | refine x_n11 ?_ | refine x_fadd (by assumption) (by assumption) ?_ | refine x_fsub (by assumption) (by assumption) ?_ | refine x_fmul (by assumption) (by assumption) ?_ | refine x_fneg (by assumption) ?_ | refine x_fabs (by assumption) ?_ | refine x_frepr (by assumption) ?_ | refine x_fstr (by assumption) ?_ | refine x_gtup rfl ?_ | refine x_goR1 (by decide) ?_ | refine x_goTup rfl ?_ | refine x_goLst rfl ?_ | refine x_addL rfl ?_ | refine x_meth ?_ | refine x_goQuo ?_ | refine x_truO ?_ | refine x_goTru ?_ | refine x_feq ?_ | refine x_fne ?_ | refine x_par3 ?_ | refine x_par4 ?_ | refine x_nt ?_ | refine x_nf ?_ | refine x_mk1_0 ?_ | refine x_mk1_1 ?_ | refine x_mk1_m ?_ | refine x_flt (by assumption) (by assumption) ?_ | refine x_fle (by assumption) (by assumption) ?_ | refine x_fgt (by assumption) (by assumption) ?_ | refine x_fge (by assumption) (by assumption) ?_ | refine x_fadd (up2 (by assumption)) (up2 (by assumption)) ?_ | refine x_fsub (up2 (by assumption)) (up2 (by assumption)) ?_ | refine x_fmul (up2 (by assumption)) (up2 (by assumption)) ?_ | refine x_fneg (up4 (by assumption)) ?_ | refine x_fabs (up4 (by assumption)) ?_ | refine x_frepr (up1 (by assumption)) ?_ | refine x_flt (up4 (by assumption)) (up4 (by assumption)) ?_ | refine x_fle (up4 (by assumption)) (up4 (by assumption)) ?_ | refine x_fgt (up4 (by assumption)) (up4 (by assumption)) ?_ | refine x_fge (up4 (by assumption)) (up4 (by assumption)) ?_ | refine x_fquo (by assumption) (up2 (by assumption)) (up2 (by assumption)) ?_ | refine x_prop ?_ | refine x_goTop ?_ | refine x_goBot ?_ | refine x_t0 ?_ | refine x_t1 ?_ | refine x_t2 ?_ | refine x_l0 ?_ | refine x_l1 ?_ | refine x_l2 ?_ | refine x_l3 ?_ | refine x_addS (by assumption) ?_ | refine x_fstr (up1 (by assumption)) ?_ | refine x_dic0 ?_ | refine x_fld ?_ | refine x_goOver ?_ | refine x_goUnder ?_ | refine x_sm ?_ | refine x_isaFr ?_ | refine x_chain ?_ | refine x_isnB ?_ | refine x_v12 ?_ | refine x_n12 ?_ | refine x_v13 ?_ | refine x_n13 ?_ | refine x_v14 ?_ | refine x_n14 ?_ | refine x_v15 ?_ | refine x_n15 ?_ | refine x_v16 ?_ | refine x_n16 ?_ | refine x_v17 ?_ | refine x_n17 ?_ | refine x_v18 ?_ | refine x_n18 ?_ | refine x_v19 ?_ | refine x_n19 ?_ | refine x_fldD ?_ | refine x_enum ?_ | refine x_goEnum ?_ | refine x_callK ?_ | refine x_get2 ?_ | refine x_dic2 ?_ | refine x_lstM ?_ | refine x_less (by assumption) (by assumption) ?_ | refine x_plus (by assumption) (by assumption) ?_ | refine x_times (by assumption) (by assumption) ?_ | refine x_minus1 (by assumption) ?_ | refine x_frac (by assumption) ?_ | refine x_inI ?_ | refine x_inIL ?_ | refine x_gLst rfl ?_ | refine x_addT (by assumption) ?_ | refine x_eqFF ?_))
theorem wrong_loop {p : Rat} {M : Mem} {Z : DEnds} {x0 : Option D} (hz : ∀ a, Z.nx [x0, some (fr p), a] M) :
    ∀ (l : List D) a, (∀ d ∈ l, Tells M d) → ForL (gNameD 2) b__law_wrong_right_1 Z l [x0, some (fr p), a] M
  | [], a, _ => x_forN (hz a)
  | d :: l, a, hl => by
    obtain ⟨⟨t, ht, hm⟩, z, hzz⟩ := hl d (List.mem_cons_self ..)
    refine x_forC ?_
    unfold b__law_wrong_right_1
    repeat (with_reducible first | case xr1 => skip | refine x_caught ?_ | refine x_meth ?_ | refine x_goQuoX ?_ | refine x_quoW ht hm ?_)
    refine ⟨by decide, rfl, ?_⟩
    repeat (with_reducible first | case xr1 => skip | refine hzz _ _ ?_)
    refine hzz _ _ ?_
    repeat (with_reducible case xr1 => skip)
    refine hzz _ _ ?_
    refine x_eqS ?_
    repeat (with_reducible case xr1 => skip)
    exact wrong_loop hz l _ fun y hy => hl y (List.mem_cons_of_mem _ hy)
theorem pure__law_wrong_right : Pure sp__law_wrong_right t__law_wrong_right N__law_wrong_right := pure1 fun a M E Q h => by
  obtain ⟨p, rfl, hp, h⟩ := h
  have a1 : Sz 300 p := hp.mono (by decide)
  simp only [t__law_wrong_right, startD, N__law_wrong_right, List.map, List.length, List.replicate, Nat.reduceSub, Nat.reduceAdd, List.nil_append, List.cons_append]
  repeat (with_reducible first | case xr1 => skip | refine x_frac (by assumption) ?_ | refine x_dic0 ?_)
  refine wrong_loop (fun a => ?_) _ _ fun d hd => ?_
  · repeat (with_reducible first | case xr1 => skip | refine x_caught ?_ | refine x_meth ?_ | refine x_goQuoX ?_)
    have e0 : Rat.divInt 0 5 = 0 := by decide +kernel
    refine x_mk2 (by decide) (lt8 (n := 50) (by decide) (by decide)) ?_
    rw [e0]
    repeat (with_reducible case xr1 => skip)
    refine x_quo0 ?_
    refine ⟨by decide, rfl, ?_⟩
    repeat (with_reducible case xr1 => skip)
    exact eq_selfP (d := .lst [.str "zero"]) (y := .list [.str "zero"]) rfl (by decide +kernel) h
  · simp only [List.mem_cons, List.not_mem_nil, or_false] at hd
    rcases hd with rfl | rfl | rfl | rfl | rfl | rfl | rfl | rfl | rfl | rfl | rfl | rfl
    all_goals first | exact tells_x ⟨_, rfl, by decide⟩ rfl (by decide +kernel) (by decide +kernel) (by decide +kernel) | exact tells_pr hp | exact tells_fr hp
theorem sh_ret (r : Rat) : SeqAt.shaped (.list [.str "returned", pyPr r]) = true := by
  kernel_rfl
def GoodD (d due : D) : Prop := (d = .lst [.str "zero"] ∧ due = .lst [.str "zero"]) ∨ ∃ r : Rat, d = .lst [.str "returned", fr r] ∧ due = .lst [.str "returned", pr r]
theorem res_loop {M : Mem} {Z : DEnds} {x0 x1 x2 x3 x4 x5 x7 : Option D} {due : D} (hz : ∀ a b, Z.nx [x0, x1, x2, x3, x4, x5, some due, x7, a, b] M) :
    ∀ (l : List D) a b, (∀ d ∈ l, GoodD d due) → ForL (gNameD 8) b__law_pair_right_1 Z l [x0, x1, x2, x3, x4, x5, some due, x7, a, b] M
  | [], a, b, _ => x_forN (hz a b)
  | d :: l, a, b, hl => by
    have hr := res_loop hz l
    refine x_forC ?_
    unfold b__law_pair_right_1
    rcases hl d (List.mem_cons_self ..) with ⟨rfl, rfl⟩ | ⟨r, rfl, rfl⟩
    · repeat (with_reducible case xr1 => skip)
      refine comp_map2 (up := fr) (g := pr) [] [] (fun p hp => ⟨_, rfl, fun Q' q => ?_⟩) (by show (0 : Nat) ≤ sizeLine; exact Nat.zero_le _) ?_
      · cases hp
      repeat (with_reducible case xr1 => skip)
      refine eq_selfN (d := .lst [.str "zero"]) (y := .list [.str "zero"]) rfl (by decide +kernel) ?_
      repeat (with_reducible case xr1 => skip)
      exact hr _ _ fun y hy => hl y (List.mem_cons_of_mem _ hy)
    · repeat (with_reducible case xr1 => skip)
      refine comp_map2 (up := fr) (g := pr) [r] [] (fun p hp => ⟨_, rfl, fun Q' q => ?_⟩) (by show (1 : Nat) ≤ sizeLine; rw [sizeLine_eq]; decide) ?_
      · simp only [wipeD, List.set, stt]
        repeat (with_reducible first | case xr1 => skip | refine x_pair ?_)
        exact q
      repeat (with_reducible case xr1 => skip)
      refine eq_selfN (d := .lst [.str "returned", pr r]) (y := .list [.str "returned", pyPr r]) rfl (sh_ret r) ?_
      repeat (with_reducible case xr1 => skip)
      exact hr _ _ fun y hy => hl y (List.mem_cons_of_mem _ hy)
theorem len__law_pair_right : ∀ ds M E Q, sp__law_pair_right ds M E Q → ds.length = [("_law_first" : Str), "_law_second"].length := p2_len
theorem pure__law_pair_right : Pure sp__law_pair_right t__law_pair_right N__law_pair_right := pure2 fun a b M E Q h => by
  obtain ⟨x, y, rfl, rfl, hx, hy, h⟩ := h
  have a1 : Sz 300 x := hx.mono (by decide)
  have a2 : Sz 300 y := hy.mono (by decide)
  have a3 : Sz 300 (x * y) := (hx.mul hy).mono (by decide)
  have a4 : Sz 300 (y * x) := (hy.mul hx).mono (by decide)
  have a5 : Sz 300 (x * x) := (hx.mul hx).mono (by decide)
  have c1 : y * x = x * y := Rat.mul_comm y x
  have b1 : Sz 2000 x := up2 a1
  have b2 : Sz 2000 y := up2 a2
  simp only [t__law_pair_right, startD, N__law_pair_right, List.map, List.length, List.replicate, Nat.reduceSub, Nat.reduceAdd, List.nil_append, List.cons_append]
  rcases Classical.em (y = 0) with hy0 | hy0
  · subst hy0
    have n0 : (0 : Rat).num = 0 := rfl
    repeat (with_reducible first | case xr1 => skip | refine x_frac (by assumption) ?_)
    refine comp_map2 (up := fr) (g := pr) [x * 0, 0 * x, x * x] [] (fun p hp => ⟨_, rfl, fun Q' q => ?_⟩) (by show (3 : Nat) ≤ sizeLine; rw [sizeLine_eq]; decide) ?_
    · simp only [wipeD, List.set, stt]
      repeat (with_reducible first | case xr1 => skip | refine x_pair ?_)
      exact q
    · repeat (with_reducible first | case xr1 => skip | refine x_times b1 b2 ?_ | refine x_times b1 b1 ?_)
      refine x_goRep rfl ?_
      repeat (with_reducible first | case xr1 => skip | refine x_times b1 b1 ?_)
      refine x_eqPrs (k := fun b => !b) (xs := [x * 0, 0 * x, x * x]) (ys := [x * 0, x * 0, x * x]) ?_
      rw [decide_eq_true (by rw [c1])]
      repeat (with_reducible first | case xr1 => skip | refine x_ixp0 ?_ | refine x_nd n0 ?_ | refine x_caught ?_ | refine x_meth ?_ | refine x_goQuoX ?_ | refine x_quo0 ?_)
      refine ⟨by decide, rfl, ?_⟩
      rw [wordE43, List.map_nil]
      repeat (with_reducible case xr1 => skip)
      refine ⟨by show (1 : Nat) ≤ sizeLine; rw [sizeLine_eq]; decide, fun q hq => ?_⟩
      repeat (with_reducible case xr1 => skip)
      refine x_goBM Mem.set_same ?_
      repeat (with_reducible first | case xr1 => skip | refine x_caught ?_ | refine x_methK ?_ | refine x_goQuoK ?_)
      refine x_goCallK rfl rfl ?_
      refine x_quo0 ?_
      refine ⟨by decide, rfl, ?_⟩
      rw [wordE43, List.map_nil]
      repeat (with_reducible case xr1 => skip)
      refine x_append Mem.set_same (by show (1 : Nat) < sizeLine; rw [sizeLine_eq]; decide) ?_
      repeat (with_reducible case xr1 => skip)
      dsimp only
      refine x_stillAt rfl Mem.set_same rfl ?_
      dsimp only [stt, List.set, MO.still, List.cons_append, List.nil_append]
      repeat (with_reducible case xr1 => skip)
      refine res_loop (fun a b => ?_) _ _ _ fun d hd => ?_
      · repeat (with_reducible first | case xr1 => skip | refine x_nd n0 ?_)
        refine eq_selfP (y := .list [.str (reprOf x), .str (reprOf 0)]) rfl sh_reprs ?_
        exact h _
      · simp only [List.mem_cons, List.not_mem_nil, or_false, or_self] at hd
        exact .inl ⟨hd, rfl⟩
  · have nz : ¬ (y.num = 0) := num_ne hy0
    have a6 : Sz 300 (x / y) := (Sz.div hy0 hx hy).mono (by decide)
    have e3 : x * y / y = x := by grind
    have nx : ∀ {A B : Prop}, A → if (!decide (y.num = 0)) = true then A else B := fun {A B} z => by rw [decide_eq_false nz]; exact z
    repeat (with_reducible first | case xr1 => skip | refine x_frac (by assumption) ?_)
    refine comp_map2 (up := fr) (g := pr) [x * y, y * x, x * x] [] (fun p hp => ⟨_, rfl, fun Q' q => ?_⟩) (by show (3 : Nat) ≤ sizeLine; rw [sizeLine_eq]; decide) ?_
    · simp only [wipeD, List.set, stt]
      repeat (with_reducible first | case xr1 => skip | refine x_pair ?_)
      exact q
    · repeat (with_reducible first | case xr1 => skip | refine x_times b1 b2 ?_ | refine x_times b1 b1 ?_)
      refine x_goRep rfl ?_
      repeat (with_reducible first | case xr1 => skip | refine x_times b1 b1 ?_)
      refine x_eqPrs (k := fun b => !b) (xs := [x * y, y * x, x * x]) (ys := [x * y, x * y, x * x]) ?_
      rw [decide_eq_true (by rw [c1])]
      repeat (with_reducible first | case xr1 => skip | refine x_ixp0 ?_ | refine nx ?_ | refine x_caught ?_ | refine x_meth ?_ | refine x_goQuoX ?_ | refine x_shareQ hy0 a1 a2 ?_ | refine x_quoX hy0 a1 a2 ?_)
      refine ⟨by show (1 : Nat) ≤ sizeLine; rw [sizeLine_eq]; decide, fun q hq => ?_⟩
      repeat (with_reducible case xr1 => skip)
      refine x_goBM Mem.set_same ?_
      repeat (with_reducible first | case xr1 => skip | refine x_caught ?_ | refine x_methK ?_ | refine x_goQuoK ?_)
      refine x_goCallK rfl rfl ?_
      refine x_quoX hy0 a1 a2 ?_
      repeat (with_reducible case xr1 => skip)
      refine x_append Mem.set_same (by show (1 : Nat) < sizeLine; rw [sizeLine_eq]; decide) ?_
      repeat (with_reducible case xr1 => skip)
      dsimp only
      refine x_stillAt rfl Mem.set_same rfl ?_
      dsimp only [stt, List.set, MO.still, List.cons_append, List.nil_append]
      repeat (with_reducible case xr1 => skip)
      refine res_loop (fun a b => ?_) _ _ _ fun d hd => ?_
      · repeat (with_reducible first | case xr1 => skip | refine x_ixp0 ?_ | refine nx ?_ | refine x_meth ?_ | refine x_goQuoX ?_ | refine x_quoX hy0 a3 a2 ?_ | refine x_pair ?_)
        rw [e3]
        repeat (with_reducible first | case xr1 => skip | refine x_nd rfl ?_)
        refine eq_selfP (y := .list [.str (reprOf x), .str (reprOf y)]) rfl sh_reprs ?_
        exact h _
      · simp only [List.mem_cons, List.not_mem_nil, or_false, or_self] at hd
        exact .inr ⟨_, hd, rfl⟩
theorem len__law_right : ∀ ds M E Q, sp__law_right ds M E Q → ds.length = [("_law_pool_here" : Str)].length := p1_len
theorem x_number {M : Mem} {p : Addr} {n : Nat} {E : XD} {Q : QD} (h : PoolAt M p n) (hn : n < 90000) (k : ∀ (i j : Int) M', i.natAbs ≤ 100000000000000 → j ≠ 0 → j.natAbs ≤ 100000000000000 → PoolAt M' p (n + 4) → Only1 M M' p → Q (.tup [.int i, .int j]) M') : sp__law_number [.ref p] M E Q := ⟨p, n, rfl, h, hn, k⟩
theorem x_pairR {M : Mem} {p q : Rat} {E : XD} {Q : QD} (h1 : Sz 50 p) (h2 : Sz 50 q) (h : ∀ M', Q (.bl true) M') : sp__law_pair_right [pr p, pr q] M E Q := ⟨p, q, rfl, rfl, h1, h2, h⟩
theorem x_wrongR {M : Mem} {p : Rat} {E : XD} {Q : QD} (h1 : Sz 50 p) (h : Q (.bl true) M) : sp__law_wrong_right [pr p] M E Q := ⟨p, rfl, h1, h⟩
local macro_rules | `(tactic| case xr2 => skip) => `(tactic| (first | refine x_repM ?_ | refine x_v0 ?_ | refine x_v1 ?_ | refine x_v2 ?_ | refine x_v3 ?_ | refine x_v4 ?_ | refine x_v5 ?_ | refine x_v6 ?_ | refine x_v7 ?_ | refine x_v8 ?_ | refine x_v9 ?_ | refine x_v10 ?_ | refine x_v11 ?_ | refine x_gsC ?_ | refine x_gsN ?_ | refine x_lenL ?_ | refine x_lenT ?_ | refine x_max ?_ | refine x_min ?_ | refine x_slice ?_ | refine x_noP ?_ | refine x_part ?_ | refine x_goPart ?_ | refine x_slL ?_ | refine x_rg1 ?_ | refine x_bm ?_ | refine x_seq ?_ | refine x_asg ?_ | refine x_ret ?_ | refine x_if ?_ | refine x_dB ?_ | refine x_ex ?_ | refine x_cons ?_ | refine x_nil ?_ | refine x_tup ?_ | refine x_lst ?_ | refine x_bin ?_ | refine x_un ?_ | refine x_cb ?_ | refine x_call ?_ | refine x_b1 ?_ | refine x_b2 ?_ | refine x_c ?_ | refine x_tt ?_ | refine x_ff ?_ | refine x_ifx ?_ | refine x_andV ?_ | refine x_orV ?_ | refine x_notV ?_ | refine x_not ?_ | refine x_and ?_ | refine x_or ?_ | refine x_still ?_ | refine x_par ?_ | refine x_par2 ?_ | refine x_aug ?_ | refine x_for ?_ | refine x_dseq ?_ | refine x_goL ?_ | refine x_goT ?_ | refine x_comp ?_ | refine x_addI ?_ | refine x_subI ?_ | refine x_neg ?_ | refine x_absI ?_ | refine x_lt ?_ | refine x_le ?_ | refine x_gt ?_ | refine x_ge ?_ | refine x_i0 ?_ | refine x_i1 ?_ | refine x_isB ?_ | refine x_eqB ?_ | refine x_eqI ?_ | refine x_eqpr ?_ | refine x_fbool ?_ | refine x_next ?_ | refine x_drop ?_ | refine x_retN ?_ | refine x_n0 ?_ | refine x_n1 ?_ | refine x_n2 ?_ | refine x_n3 ?_ | refine x_n4 ?_ | refine x_n5 ?_ | refine x_n6 ?_ | refine x_n7 ?_ | refine x_n8 ?_ | refine x_n9 ?_ | refine x_n10 ?_ | refine x_n11 ?_ | refine x_fadd (by assumption) (by assumption) ?_ | refine x_fsub (by assumption) (by assumption) ?_ | refine x_fmul (by assumption) (by assumption) ?_ | refine x_fneg (by assumption) ?_ | refine x_fabs (by assumption) ?_ | refine x_frepr (by assumption) ?_ | refine x_fstr (by assumption) ?_ | refine x_gtup rfl ?_ | refine x_goR1 (by decide) ?_ | refine x_goTup rfl ?_ | refine x_goLst rfl ?_ | refine x_addL rfl ?_ | refine x_meth ?_ | refine x_goQuo ?_ | refine x_truO ?_ | refine x_goTru ?_ | refine x_feq ?_ | refine x_fne ?_ | refine x_par3 ?_ | refine x_par4 ?_ | refine x_nt ?_ | refine x_nf ?_ | refine x_mk1_0 ?_ | refine x_mk1_1 ?_ | refine x_mk1_m ?_ | refine x_flt (by assumption) (by assumption) ?_ | refine x_fle (by assumption) (by assumption) ?_ | refine x_fgt (by assumption) (by assumption) ?_ | refine x_fge (by assumption) (by assumption) ?_ | refine x_fadd (up2 (by assumption)) (up2 (by assumption)) ?_ | refine x_fsub (up2 (by assumption)) (up2 (by assumption)) ?_ | refine x_fmul (up2 (by assumption)) (up2 (by assumption)) ?_ | refine x_fneg (up4 (by assumption)) ?_ | refine x_fabs (up4 (by assumption)) ?_ | refine x_frepr (up1 (by assumption)) ?_ | refine x_flt (up4 (by assumption)) (up4 (by assumption)) ?_ | refine x_fle (up4 (by assumption)) (up4 (by assumption)) ?_ | refine x_fgt (up4 (by assumption)) (up4 (by assumption)) ?_ | refine x_fge (up4 (by assumption)) (up4 (by assumption)) ?_ | refine x_fquo (by assumption) (up2 (by assumption)) (up2 (by assumption)) ?_ | refine x_prop ?_ | refine x_goTop ?_ | refine x_goBot ?_ | refine x_t0 ?_ | refine x_t1 ?_ | refine x_t2 ?_ | refine x_l0 ?_ | refine x_l1 ?_ | refine x_l2 ?_ | refine x_l3 ?_ | refine x_addS (by assumption) ?_ | refine x_fstr (up1 (by assumption)) ?_ | refine x_dic0 ?_ | refine x_fld ?_ | refine x_goOver ?_ | refine x_goUnder ?_ | refine x_sm ?_ | refine x_isaFr ?_ | refine x_chain ?_ | refine x_isnB ?_ | refine x_v12 ?_ | refine x_n12 ?_ | refine x_v13 ?_ | refine x_n13 ?_ | refine x_v14 ?_ | refine x_n14 ?_ | refine x_v15 ?_ | refine x_n15 ?_ | refine x_v16 ?_ | refine x_n16 ?_ | refine x_v17 ?_ | refine x_n17 ?_ | refine x_v18 ?_ | refine x_n18 ?_ | refine x_v19 ?_ | refine x_n19 ?_ | refine x_fldD ?_ | refine x_enum ?_ | refine x_goEnum ?_ | refine x_callK ?_ | refine x_get2 ?_ | refine x_dic2 ?_ | refine x_lstM ?_ | refine x_less (by assumption) (by assumption) ?_ | refine x_plus (by assumption) (by assumption) ?_ | refine x_times (by assumption) (by assumption) ?_ | refine x_minus1 (by assumption) ?_ | refine x_frac (by assumption) ?_ | refine x_inI ?_ | refine x_inIL ?_ | refine x_gLst rfl ?_ | refine x_addT (by assumption) ?_ | refine x_eqFF ?_))
theorem seen_loop {p q : Addr} (hpq : q ≠ p) (Z : DEnds) (N : Nat) (hN : N < 1000)
    (hz : ∀ (qs : List Rat) a b M, M q = some (.lst (qs.map pr)) → (∀ r ∈ qs, Sz 50 r) → qs.length = N → Z.nx [some (.ref p), some (.ref q), a, b, none, none] M) :
    ∀ (l : List D) (qs : List Rat) a b M n, PoolAt M p n → n + 4 * l.length < 80000 → M q = some (.lst (qs.map pr)) → (∀ r ∈ qs, Sz 50 r) → qs.length + l.length = N → ForL (gNameD 2) b__law_right_1 Z l [some (.ref p), some (.ref q), a, b, none, none] M
  | [], qs, a, b, M, n, hp, _, hq, hs, hl => x_forN (hz qs a b M hq hs (by simpa using hl))
  | z :: l, qs, a, b, M, n, hp, hn, hq, hs, hl => by
    rw [List.length_cons] at hn hl
    refine x_forC ?_
    unfold b__law_right_1
    repeat (with_reducible case xr2 => skip)
    refine x_number hp (by omega) fun i j M1 h1 h2 h3 hp1 o1 => ?_
    repeat (with_reducible case xr2 => skip)
    have hq1 : M1 q = some (.lst (qs.map pr)) := (o1 q hpq).trans hq
    refine x_goBM hq1 ?_
    repeat (with_reducible case xr2 => skip)
    refine x_low h2 (by show _ < 1125899906842624; omega) (by show _ < 1125899906842624; omega) ?_
    repeat (with_reducible case xr2 => skip)
    refine x_append hq1 (by rw [List.length_map, sizeLine_eq]; omega) ?_
    refine seen_loop hpq Z N hN hz l (qs ++ [Rat.divInt i j]) _ _ _ (n + 4) (hp1.same (Mem.set_ne (Ne.symm hpq))) (by omega) ?_ ?_ (by rw [List.length_append, List.length_cons, List.length_nil]; omega)
    · rw [Mem.set_same, List.map_append]; rfl
    · intro r hr
      rcases List.mem_append.mp hr with hr | hr
      · exact hs r hr
      · simp only [List.mem_cons, List.not_mem_nil, or_false] at hr
        subst hr
        exact (Sz.pr0 h2 h1 h3).mono (by decide)
theorem outer_loop {qs : List Rat} (hs : ∀ r ∈ qs, Sz 50 r) (hl : qs.length ≤ 100) (Z : DEnds) (x0 x2 x3 : Option D) (hz : ∀ a b M, Z.nx [x0, some (.lst (qs.map pr)), x2, x3, a, b] M) :
    ∀ (l : List Rat) a b M, (∀ r ∈ l, Sz 50 r) → ForL (gNameD 4) b__law_right_2 Z (l.map pr) [x0, some (.lst (qs.map pr)), x2, x3, a, b] M
  | [], a, b, M, _ => x_forN (hz a b M)
  | r :: l, a, b, M, hr => by
    have h1 := hr r (List.mem_cons_self ..)
    refine x_forC ?_
    unfold b__law_right_2
    repeat (with_reducible first | case xr2 => skip | refine x_wrongR h1 ?_)
    refine comp_allM _ [] _ (fun x hx M1 Q' hQ => ?_) (by rw [List.length_map, sizeLine_eq, List.length_nil]; omega) fun M' => ?_
    · obtain ⟨v, hv, rfl⟩ := List.mem_map.mp hx
      have h2 := hs v hv
      simp only [wipeD, List.set, stt]
      repeat (with_reducible case xr2 => skip)
      exact x_pairR h1 h2 hQ
    · repeat (with_reducible case xr2 => skip)
      rw [List.nil_append]
      refine x_allT ?_
      repeat (with_reducible case xr2 => skip)
      exact outer_loop hs hl Z x0 x2 x3 hz l _ _ _ fun y hy => hr y (List.mem_cons_of_mem _ hy)
theorem pure__law_right : Pure sp__law_right t__law_right N__law_right := pure1 fun a M E Q h => by
  obtain ⟨p, rfl, hp, h⟩ := h
  simp only [t__law_right, startD, N__law_right, List.map, List.length, List.replicate, Nat.reduceSub, Nat.reduceAdd, List.nil_append, List.cons_append]
  repeat (with_reducible case xr2 => skip)
  refine ⟨by show (2 : Nat) ≤ sizeLine; rw [sizeLine_eq]; decide, fun q hq => ?_⟩
  have hpq : q ≠ p := by
    rintro rfl
    obtain ⟨s, g, c, hm, _⟩ := hp
    rw [hm] at hq
    cases hq
  repeat (with_reducible case xr2 => skip)
  refine seen_loop hpq _ 6 (by decide) (fun qs a b M1 hq1 hs hl => ?_) _ [0, 1] _ _ _ 0 (hp.same (Mem.set_ne (Ne.symm hpq))) (by decide) Mem.set_same (fun r hr => ?_) (by decide)
  · repeat (with_reducible case xr2 => skip)
    dsimp only
    refine x_stillAt rfl hq1 rfl ?_
    dsimp only [stt, List.set, MO.still]
    repeat (with_reducible case xr2 => skip)
    refine outer_loop hs (by omega) _ _ _ _ (fun a b M => ?_) _ _ _ _ hs
    repeat (with_reducible case xr2 => skip)
    exact h _
  · simp only [List.mem_cons, List.not_mem_nil, or_false] at hr
    rcases hr with rfl | rfl
    · exact ⟨by decide +kernel, by decide +kernel⟩
    · exact ⟨by decide +kernel, by decide +kernel⟩
theorem len_law : ∀ ds M E Q, sp_law ds M E Q → ds.length = [("_law_script" : Str)].length := p1_len
theorem pure_law : Pure sp_law t_law N_law := pure1 fun a M E Q h => by
  obtain ⟨ns, rfl, hl, h⟩ := h
  simp only [t_law, startD, N_law, List.map, List.length, List.replicate, Nat.reduceSub, Nat.reduceAdd, List.nil_append, List.cons_append]
  repeat (with_reducible case xr2 => skip)
  have hk : ∃ k : Nat, (if (if (8 : Int) < (List.map D.int ns).length then (8 : Int) else (List.map D.int ns).length) > 2 then (if (8 : Int) < (List.map D.int ns).length then (8 : Int) else (List.map D.int ns).length) else 2) = (k : Int) ∧ k ≤ 8 := by
    rw [List.length_map]
    by_cases h8 : (8 : Int) < ns.length
    · rw [if_pos h8]; exact ⟨8, by decide, by decide⟩
    · rw [if_neg h8]
      by_cases h2 : (ns.length : Int) > 2
      · rw [if_pos h2]; exact ⟨ns.length, rfl, by omega⟩
      · rw [if_neg h2]; exact ⟨2, rfl, by decide⟩
  obtain ⟨k, ek, hk8⟩ := hk
  rw [ek]
  refine ⟨by omega, by omega, ?_⟩
  refine comp_allM _ [] _ (fun x hx M1 Q' hQ => ?_) (by rw [rangeD_length, sizeLine_eq, List.length_nil]; omega) fun M' => ?_
  · obtain ⟨i, hi, rfl⟩ := mem_range hx
    simp only [wipeD, List.set, stt]
    repeat (with_reducible case xr2 => skip)
    refine ⟨ns, _, rfl, rfl, by omega, by omega, hl, fun c => ?_⟩
    repeat (with_reducible case xr2 => skip)
    refine ⟨c, rfl, fun p M2 hp0 hp o => ?_⟩
    repeat (with_reducible case xr2 => skip)
    exact ⟨p, rfl, hp, hQ⟩
  · repeat (with_reducible case xr2 => skip)
    rw [List.nil_append]
    refine x_allT ?_
    exact h _
theorem law_end (ns : List Int) (M : Mem) (hl : ns.length ≤ 63) : sp_law [.lst (ns.map D.int)] M (fun _ _ _ => False) fun d _ => d = .bl true := ⟨ns, rfl, hl, fun _ => rfl⟩
end TS
namespace TS
open PySem PySem.Spec PyProof.Rows L2
section
variable {P : Program} {w : World} {K : Fg} {mg : Str → Option Value} {base : Heap} {ca : Ca}
theorem in_NotAFraction {fd : FuncData} {C : Addr} (G : FunD K "__init__" "NotAFraction.__init__" (defArgs s_NotAFraction_init) (defBody s_NotAFraction_init) (defScope s_NotAFraction_init) [] [] (He.ma K C "__init__") fd) (ck : ckExI K C "value" = true) : ExInit K C (He.ma K C "__init__") "value" :=
  exInit_ck (self := "self") (vn := "value") ck G ⟨rfl, rfl, rfl, by decide +kernel, rfl, by decide +kernel, by decide +kernel⟩ (G.bindsN (ps := ["self", "value"]) (fun _ _ _ _ _ _ us hl => match us, hl with | [_, _], _ => rfl)) (.inl rfl) (.inl rfl) ⟨by decide, by decide⟩ ⟨by decide, by decide⟩ (fun env h => by
    obtain ⟨⟩ := env
    cases h
    rfl)
theorem ok__law_caught {cs : List Nat} {C1 C2 C3 : Value} {f : Addr} {fd : FuncData} (G : FunD K "_law_caught" "_law_caught" (defArgs s__law_caught) (defBody s__law_caught) (defScope s__law_caught) [] [] f fd) (hm : mg "_law_caught" = some (.ref f)) (h1 : AtX P w K mg base fun X => FnHn X ca 6 "_law_kind" (sp_kindE cs)) (h2 : AtX P w K mg base fun X => FnHn X ca 6 "_law_fields" (sp_fieldsE cs))
    (m1 : mg "ToneError" = some C1) (m2 : mg "StateError" = some C2) (m3 : mg "SizeError" = some C3) (hit : ∀ c ∈ cs, PySem.W.exmAny K (.ref (ca c)) [C1, C2, C3] = some true) : AtX P w K mg base fun X => CaughtOk X ca cs 6 :=
  caughtOk_of G hm (G.bindsN (ps := ["_law_call"]) (fun _ _ _ _ _ _ us hl => match us, hl with | [_], _ => rfl)) ⟨rfl, rfl, rfl, by decide +kernel, rfl, by decide +kernel, by decide +kernel⟩ (.inl rfl) h1 h2 m1 m2 m3 hit ⟨rfl, rfl, rfl, rfl, rfl⟩ rfl
theorem sc_is_whole : FnScope N_is_whole ["thing"] (defScope s_is_whole) := ⟨rfl, rfl, rfl, by decide +kernel, rfl, by decide +kernel, by decide +kernel⟩
theorem ok_is_whole {f : Addr} {fd : FuncData} (G : FunD K "is_whole" "is_whole" (defArgs s_is_whole) (defBody s_is_whole) (defScope s_is_whole) [] [] f fd) (h_no_int : AtX P w K mg base fun X => X.mg "int" = none) (h_no_isinstance : AtX P w K mg base fun X => X.mg "isinstance" = none) (h_isa : AtX P w K mg base fun X => IsaOk X.K ca (isaT isaL)) (h_no_bool : AtX P w K mg base fun X => X.mg "bool" = none) : FnD P w K mg base ca 1 f [] sp_is_whole := by
  refine fnD_by (k := 0) (t := t_is_whole) (dvs' := []) G sc_is_whole ⟨[], .nil, G.bindsN (ps := ["thing"]) (fun _ _ _ _ _ _ us hl => match us, hl with | [_], _ => rfl)⟩ rep_nil len_is_whole (fun cdv A outer s H E hr => ?_) pure_is_whole
  have C : Ctx (cxOf (L2.CX P w) P w K mg base N_is_whole "is_whole" (defScope s_is_whole) f cdv A outer s H E) 0 (WB E) := ctx_of hr
  have S := sc_is_whole
  exact (dss_one (ds_ret (de_and (de_callB (call_isaD (h_isa _ rfl rfl rfl rfl rfl)) (h_no_isinstance _ rfl rfl rfl rfl rfl) (by decide +kernel) (da_cons (de_var 0) (da_cons (de_ty (h_no_int _ rfl rfl rfl rfl rfl) (by decide +kernel)) da_nil))) (de_one (de_not (de_callB (call_isaD (h_isa _ rfl rfl rfl rfl rfl)) (h_no_isinstance _ rfl rfl rfl rfl rfl) (by decide +kernel) (da_cons (de_var 0) (da_cons (de_ty (h_no_bool _ rfl rfl rfl rfl rfl) (by decide +kernel)) da_nil))))))))
theorem sc_common : FnScope N_common ["one", "other"] (defScope s_common) := ⟨rfl, rfl, rfl, by decide +kernel, rfl, by decide +kernel, by decide +kernel⟩
theorem ok_common {f : Addr} {fd : FuncData} (G : FunD K "common" "common" (defArgs s_common) (defBody s_common) (defScope s_common) [] [] f fd)  : FnD P w K mg base ca 1 f [] sp_common := by
  refine fnD_by (k := 0) (t := t_common) (dvs' := []) G sc_common ⟨[], .nil, G.bindsN (ps := ["one", "other"]) (fun _ _ _ _ _ _ us hl => match us, hl with | [_, _], _ => rfl)⟩ rep_nil len_common (fun cdv A outer s H E hr => ?_) pure_common
  have C : Ctx (cxOf (L2.CX P w) P w K mg base N_common "common" (defScope s_common) f cdv A outer s H E) 0 (WB E) := ctx_of hr
  have S := sc_common
  exact (dss_cons (ds_while (passes_of rfl) (dt_cmp op_gtD (de_var 1) de_int) (dss_one (ds_par 0 1 rfl S.nd (da_cons (de_var 1) (da_cons (de_bin op_modD (de_var 0) (de_var 1)) da_nil)))))
    (dss_one (ds_ret (de_orT (de_var 0) (de_one de_int)))))
theorem sc_lowest_terms : FnScope N_lowest_terms ["top", "bottom"] (defScope s_lowest_terms) := ⟨rfl, rfl, rfl, by decide +kernel, rfl, by decide +kernel, by decide +kernel⟩
theorem ok_lowest_terms {f : Addr} {fd : FuncData} (G : FunD K "lowest_terms" "lowest_terms" (defArgs s_lowest_terms) (defBody s_lowest_terms) (defScope s_lowest_terms) [] [] f fd) (h_no_abs : AtX P w K mg base fun X => X.mg "abs" = none) (h_common : AtX P w K mg base fun X => Fn X ca 1 "common" [] sp_common) : FnD P w K mg base ca 2 f [] sp_lowest_terms := by
  refine fnD_by (k := 1) (t := t_lowest_terms) (dvs' := []) G sc_lowest_terms ⟨[], .nil, G.bindsN (ps := ["top", "bottom"]) (fun _ _ _ _ _ _ us hl => match us, hl with | [_, _], _ => rfl)⟩ rep_nil len_lowest_terms (fun cdv A outer s H E hr => ?_) pure_lowest_terms
  have C : Ctx (cxOf (L2.CX P w) P w K mg base N_lowest_terms "lowest_terms" (defScope s_lowest_terms) f cdv A outer s H E) 1 (WB E) := ctx_of hr
  have S := sc_lowest_terms
  exact (dss_cons (ds_set 2 S.nd (de_call C (h_common _ rfl rfl rfl rfl rfl) (da_cons (de_callB call_absD (h_no_abs _ rfl rfl rfl rfl rfl) (by decide +kernel) (da_cons (de_var 0) da_nil)) (da_cons (de_callB call_absD (h_no_abs _ rfl rfl rfl rfl rfl) (by decide +kernel) (da_cons (de_var 1) da_nil)) da_nil))))
    (dss_cons (ds_if (dt_cmp op_ltD (de_var 1) de_int) (dss_one (ds_set 2 S.nd (de_un un_negD (de_var 2)))) dss_nil)
    (dss_one (ds_ret (de_tup (da_cons (de_bin op_divD (de_var 0) (de_var 2)) (da_cons (de_bin op_divD (de_var 1) (de_var 2)) da_nil)))))))
theorem sc_Frac_init : FnScope N_Frac_init ["self", "top", "bottom"] (defScope s_Frac_init) := ⟨rfl, rfl, rfl, by decide +kernel, rfl, by decide +kernel, by decide +kernel⟩
theorem ok_Frac_init {f : Addr} {fd : FuncData} (G : FunD K "__init__" "Frac.__init__" (defArgs s_Frac_init) (defBody s_Frac_init) (defScope s_Frac_init) [.int 1] [] f fd) (h_is_whole : AtX P w K mg base fun X => Fn X ca 1 "is_whole" [] sp_is_whole) (h_lowest_terms : AtX P w K mg base fun X => Fn X ca 2 "lowest_terms" [] sp_lowest_terms) (h_fld_under : AtX P w K mg base fun X => FldOk X ca [0] "under") (h_fld_over : AtX P w K mg base fun X => FldOk X ca [0] "over") : FnD P w K mg base ca 3 f [] sp_Frac_init := by
  refine fnD_by (k := 2) (t := t_Frac_init) (dvs' := []) G sc_Frac_init (by obtain ⟨ds, h1, h2⟩ := G.binds1 (ps := ["self", "top", "bottom"]) 3 1 (by simp) (by decide) (fun _ _ _ _ _ _ _ us its hl hi => match us, hl, its, hi with | [_, _, _], _, [_], _ => ⟨_, rfl, rfl⟩); exact ⟨ds, h1, h2⟩) rep_nil len_Frac_init (fun cdv A outer s H E hr => ?_) pure_Frac_init
  have C : Ctx (cxOf (L2.CX P w) P w K mg base N_Frac_init "Frac.__init__" (defScope s_Frac_init) f cdv A outer s H E) 2 (WB E) := ctx_of hr
  have S := sc_Frac_init
  exact (dss_cons (ds_if (dt_not (dt_val (de_call C (h_is_whole _ rfl rfl rfl rfl rfl) (da_cons (de_var 1) da_nil)))) dss_never dss_nil)
    (dss_cons (ds_if (dt_w (dw_or (dt_not (dt_val (de_call C (h_is_whole _ rfl rfl rfl rfl rfl) (da_cons (de_var 2) da_nil)))) (dw_or1 (dt_cmp (op_eqP (k := 0) C) (de_var 2) de_int)))) dss_never dss_nil)
    (dss_one (ds_asg (de_call C (h_lowest_terms _ rfl rfl rfl rfl rfl) (da_cons (de_var 1) (da_cons (de_var 2) da_nil))) (dg_tup rfl (dgs_cons (dg_fld (h_fld_over _ rfl rfl rfl rfl rfl) (de_var 0)) (dgs_cons (dg_fld (h_fld_under _ rfl rfl rfl rfl rfl) (de_var 0)) dgs_nil)))))))
theorem sc_Frac_top : FnScope N_Frac_top ["self"] (defScope s_Frac_top) := ⟨rfl, rfl, rfl, by decide +kernel, rfl, by decide +kernel, by decide +kernel⟩
theorem ok_Frac_top {f : Addr} {fd : FuncData} (G : FunD K "top" "Frac.top" (defArgs s_Frac_top) (defBody s_Frac_top) (defScope s_Frac_top) [] [] f fd) (h_fld_over : AtX P w K mg base fun X => FldOk X ca [0] "over") : FnD P w K mg base ca 1 f [] sp_Frac_top := by
  refine fnD_by (k := 0) (t := t_Frac_top) (dvs' := []) G sc_Frac_top ⟨[], .nil, G.bindsN (ps := ["self"]) (fun _ _ _ _ _ _ us hl => match us, hl with | [_], _ => rfl)⟩ rep_nil len_Frac_top (fun cdv A outer s H E hr => ?_) pure_Frac_top
  have C : Ctx (cxOf (L2.CX P w) P w K mg base N_Frac_top "Frac.top" (defScope s_Frac_top) f cdv A outer s H E) 0 (WB E) := ctx_of hr
  have S := sc_Frac_top
  exact (dss_one (ds_ret (de_fld (h_fld_over _ rfl rfl rfl rfl rfl) (de_var 0))))
theorem sc_Frac_bottom : FnScope N_Frac_bottom ["self"] (defScope s_Frac_bottom) := ⟨rfl, rfl, rfl, by decide +kernel, rfl, by decide +kernel, by decide +kernel⟩
theorem ok_Frac_bottom {f : Addr} {fd : FuncData} (G : FunD K "bottom" "Frac.bottom" (defArgs s_Frac_bottom) (defBody s_Frac_bottom) (defScope s_Frac_bottom) [] [] f fd) (h_fld_under : AtX P w K mg base fun X => FldOk X ca [0] "under") : FnD P w K mg base ca 1 f [] sp_Frac_bottom := by
  refine fnD_by (k := 0) (t := t_Frac_bottom) (dvs' := []) G sc_Frac_bottom ⟨[], .nil, G.bindsN (ps := ["self"]) (fun _ _ _ _ _ _ us hl => match us, hl with | [_], _ => rfl)⟩ rep_nil len_Frac_bottom (fun cdv A outer s H E hr => ?_) pure_Frac_bottom
  have C : Ctx (cxOf (L2.CX P w) P w K mg base N_Frac_bottom "Frac.bottom" (defScope s_Frac_bottom) f cdv A outer s H E) 0 (WB E) := ctx_of hr
  have S := sc_Frac_bottom
  exact (dss_one (ds_ret (de_fld (h_fld_under _ rfl rfl rfl rfl rfl) (de_var 0))))
theorem sc_Frac_eq : FnScope N_Frac_eq ["self", "other"] (defScope s_Frac_eq) := ⟨rfl, rfl, rfl, by decide +kernel, rfl, by decide +kernel, by decide +kernel⟩
theorem ok_Frac_eq {f : Addr} {fd : FuncData} (G : FunD K "__eq__" "Frac.__eq__" (defArgs s_Frac_eq) (defBody s_Frac_eq) (defScope s_Frac_eq) [] [] f fd) (h_cls_Frac : AtX P w K mg base fun X => GC X ca "Frac" (.cls 0)) (h_no_isinstance : AtX P w K mg base fun X => X.mg "isinstance" = none) (h_isa : AtX P w K mg base fun X => IsaOk X.K ca (isaT isaL)) (h_fld_over : AtX P w K mg base fun X => FldOk X ca [0] "over") (h_fld_under : AtX P w K mg base fun X => FldOk X ca [0] "under") : FnD P w K mg base ca 1 f [] sp_Frac_eq := by
  refine fnD_by (k := 0) (t := t_Frac_eq) (dvs' := []) G sc_Frac_eq ⟨[], .nil, G.bindsN (ps := ["self", "other"]) (fun _ _ _ _ _ _ us hl => match us, hl with | [_, _], _ => rfl)⟩ rep_nil len_Frac_eq (fun cdv A outer s H E hr => ?_) pure_Frac_eq
  have C : Ctx (cxOf (L2.CX P w) P w K mg base N_Frac_eq "Frac.__eq__" (defScope s_Frac_eq) f cdv A outer s H E) 0 (WB E) := ctx_of hr
  have S := sc_Frac_eq
  exact (dss_one (ds_ret (de_and (de_callB (call_isaD (h_isa _ rfl rfl rfl rfl rfl)) (h_no_isinstance _ rfl rfl rfl rfl rfl) (by decide +kernel) (da_cons (de_var 1) (da_cons (de_glob (h_cls_Frac _ rfl rfl rfl rfl rfl)) da_nil))) (de_and (de_cmp (op_eqP (k := 0) C) (de_fld (h_fld_over _ rfl rfl rfl rfl rfl) (de_var 0)) (de_fld (h_fld_over _ rfl rfl rfl rfl rfl) (de_var 1))) (de_one (de_cmp (op_eqP (k := 0) C) (de_fld (h_fld_under _ rfl rfl rfl rfl rfl) (de_var 0)) (de_fld (h_fld_under _ rfl rfl rfl rfl rfl) (de_var 1))))))))
theorem sc_Frac_mul : FnScope N_Frac_mul ["self", "other"] (defScope s_Frac_mul) := ⟨rfl, rfl, rfl, by decide +kernel, rfl, by decide +kernel, by decide +kernel⟩
theorem ok_Frac_mul {f : Addr} {fd : FuncData} (G : FunD K "__mul__" "Frac.__mul__" (defArgs s_Frac_mul) (defBody s_Frac_mul) (defScope s_Frac_mul) [] [] f fd) (h_fld_under : AtX P w K mg base fun X => FldOk X ca [0] "under") (h_fld_over : AtX P w K mg base fun X => FldOk X ca [0] "over") (h_mk_Frac : AtX P w K mg base fun X => Mkr X ca 3 0 "Frac" spC_Frac) : FnD P w K mg base ca 5 f [] sp_Frac_mul := by
  refine fnD_by (k := 4) (t := t_Frac_mul) (dvs' := []) G sc_Frac_mul ⟨[], .nil, G.bindsN (ps := ["self", "other"]) (fun _ _ _ _ _ _ us hl => match us, hl with | [_, _], _ => rfl)⟩ rep_nil len_Frac_mul (fun cdv A outer s H E hr => ?_) pure_Frac_mul
  have C : Ctx (cxOf (L2.CX P w) P w K mg base N_Frac_mul "Frac.__mul__" (defScope s_Frac_mul) f cdv A outer s H E) 4 (WB E) := ctx_of hr
  have S := sc_Frac_mul
  exact (dss_one (ds_ret (de_make C (h_mk_Frac _ rfl rfl rfl rfl rfl) (da_cons (de_bin op_mulD (de_fld (h_fld_over _ rfl rfl rfl rfl rfl) (de_var 0)) (de_fld (h_fld_over _ rfl rfl rfl rfl rfl) (de_var 1))) (da_cons (de_bin op_mulD (de_fld (h_fld_under _ rfl rfl rfl rfl rfl) (de_var 0)) (de_fld (h_fld_under _ rfl rfl rfl rfl rfl) (de_var 1))) da_nil)))))
theorem sc_Frac_str : FnScope N_Frac_str ["self"] (defScope s_Frac_str) := ⟨rfl, rfl, rfl, by decide +kernel, rfl, by decide +kernel, by decide +kernel⟩
theorem ok_Frac_str {f : Addr} {fd : FuncData} (G : FunD K "__str__" "Frac.__str__" (defArgs s_Frac_str) (defBody s_Frac_str) (defScope s_Frac_str) [] [] f fd) (h_fld_under : AtX P w K mg base fun X => FldOk X ca [0] "under") (h_fld_over : AtX P w K mg base fun X => FldOk X ca [0] "over") (h_no_str : AtX P w K mg base fun X => X.mg "str" = none) : FnD P w K mg base ca 1 f [] sp_Frac_str := by
  refine fnD_by (k := 0) (t := t_Frac_str) (dvs' := []) G sc_Frac_str ⟨[], .nil, G.bindsN (ps := ["self"]) (fun _ _ _ _ _ _ us hl => match us, hl with | [_], _ => rfl)⟩ rep_nil len_Frac_str (fun cdv A outer s H E hr => ?_) pure_Frac_str
  have C : Ctx (cxOf (L2.CX P w) P w K mg base N_Frac_str "Frac.__str__" (defScope s_Frac_str) f cdv A outer s H E) 0 (WB E) := ctx_of hr
  have S := sc_Frac_str
  exact (dss_cons (ds_if (dt_cmp (op_eqP (k := 0) C) (de_fld (h_fld_under _ rfl rfl rfl rfl rfl) (de_var 0)) de_int) (dss_one (ds_ret (de_callTy call_strD (h_no_str _ rfl rfl rfl rfl rfl) (by decide +kernel) (da_cons (de_fld (h_fld_over _ rfl rfl rfl rfl rfl) (de_var 0)) da_nil)))) dss_nil)
    (dss_one (ds_ret (de_joined (.cons (de_fmt (de_fld (h_fld_over _ rfl rfl rfl rfl rfl) (de_var 0))) (.cons de_str (.cons (de_fmt (de_fld (h_fld_under _ rfl rfl rfl rfl rfl) (de_var 0))) .nil)))))))
theorem sc_Frac_repr : FnScope N_Frac_repr ["self"] (defScope s_Frac_repr) := ⟨rfl, rfl, rfl, by decide +kernel, rfl, by decide +kernel, by decide +kernel⟩
theorem ok_Frac_repr {f : Addr} {fd : FuncData} (G : FunD K "__repr__" "Frac.__repr__" (defArgs s_Frac_repr) (defBody s_Frac_repr) (defScope s_Frac_repr) [] [] f fd) (h_no_str : AtX P w K mg base fun X => X.mg "str" = none) (h_Frac_str : AtX P w K mg base fun X => MOk X ca 1 "__str__" (tl [(0, sp_Frac_str)])) : FnD P w K mg base ca 4 f [] sp_Frac_repr := by
  refine fnD_by (k := 3) (t := t_Frac_repr) (dvs' := []) G sc_Frac_repr ⟨[], .nil, G.bindsN (ps := ["self"]) (fun _ _ _ _ _ _ us hl => match us, hl with | [_], _ => rfl)⟩ rep_nil len_Frac_repr (fun cdv A outer s H E hr => ?_) pure_Frac_repr
  have C : Ctx (cxOf (L2.CX P w) P w K mg base N_Frac_repr "Frac.__repr__" (defScope s_Frac_repr) f cdv A outer s H E) 3 (WB E) := ctx_of hr
  have S := sc_Frac_repr
  exact (dss_one (ds_ret (de_joined (.cons de_str (.cons (de_fmt (de_callTy (call_strOwn C (h_Frac_str _ rfl rfl rfl rfl rfl)) (h_no_str _ rfl rfl rfl rfl rfl) (by decide +kernel) (da_cons (de_var 0) da_nil))) (.cons de_str .nil))))))
theorem sc_Frac_quotientX : FnScope N_Frac_quotientX ["self", "divisor"] (defScope s_Frac_quotientX) := ⟨rfl, rfl, rfl, by decide +kernel, rfl, by decide +kernel, by decide +kernel⟩
theorem ok_Frac_quotientX {f : Addr} {fd : FuncData} (G : FunD K "quotient" "Frac.quotient" (defArgs s_Frac_quotientX) (defBody s_Frac_quotientX) (defScope s_Frac_quotientX) [] [] f fd) (h_cls_Frac : AtX P w K mg base fun X => GC X ca "Frac" (.cls 0)) (h_no_isinstance : AtX P w K mg base fun X => X.mg "isinstance" = none) (h_isa : AtX P w K mg base fun X => IsaOk X.K ca (isaT isaL)) (h_exc_NotAFraction : AtX P w K mg base fun X => Exc1 X ca "NotAFraction" 37 "value") (h_fld_over : AtX P w K mg base fun X => FldOk X ca [0] "over") (h_exc_ZeroDivisor : AtX P w K mg base fun X => Exc0 X ca "ZeroDivisor" 43) (h_fld_under : AtX P w K mg base fun X => FldOk X ca [0] "under") (h_mk_Frac : AtX P w K mg base fun X => Mkr X ca 3 0 "Frac" spC_Frac) : FnD P w K mg base ca 5 f [] sp_Frac_quotientX := by
  refine fnD_by (k := 4) (t := t_Frac_quotientX) (dvs' := []) G sc_Frac_quotientX ⟨[], .nil, G.bindsN (ps := ["self", "divisor"]) (fun _ _ _ _ _ _ us hl => match us, hl with | [_, _], _ => rfl)⟩ rep_nil len_Frac_quotientX (fun cdv A outer s H E hr => ?_) pure_Frac_quotientX
  have C : Ctx (cxOf (L2.CX P w) P w K mg base N_Frac_quotientX "Frac.quotient" (defScope s_Frac_quotientX) f cdv A outer s H E) 4 (WB E) := ctx_of hr
  have S := sc_Frac_quotientX
  exact (dss_cons (ds_if (dt_not (dt_val (de_callB (call_isaD (h_isa _ rfl rfl rfl rfl rfl)) (h_no_isinstance _ rfl rfl rfl rfl rfl) (by decide +kernel) (da_cons (de_var 1) (da_cons (de_glob (h_cls_Frac _ rfl rfl rfl rfl rfl)) da_nil))))) (dss_one (ds_raise C (h_exc_NotAFraction _ rfl rfl rfl rfl rfl) (de_var 1))) dss_nil)
    (dss_cons (ds_if (dt_cmp (op_eqP (k := 0) C) (de_fld (h_fld_over _ rfl rfl rfl rfl rfl) (de_var 1)) de_int) (dss_one (ds_raise0 C (h_exc_ZeroDivisor _ rfl rfl rfl rfl rfl))) dss_nil)
    (dss_one (ds_ret (de_make C (h_mk_Frac _ rfl rfl rfl rfl rfl) (da_cons (de_bin op_mulD (de_fld (h_fld_over _ rfl rfl rfl rfl rfl) (de_var 0)) (de_fld (h_fld_under _ rfl rfl rfl rfl rfl) (de_var 1))) (da_cons (de_bin op_mulD (de_fld (h_fld_under _ rfl rfl rfl rfl rfl) (de_var 0)) (de_fld (h_fld_over _ rfl rfl rfl rfl rfl) (de_var 1))) da_nil)))))))
theorem okK_Frac_quotientX_1divisor {f : Addr} {fd : FuncData} (G : FunD K "quotient" "Frac.quotient" (defArgs s_Frac_quotientX) (defBody s_Frac_quotientX) (defScope s_Frac_quotientX) [] [] f fd) (h_cls_Frac : AtX P w K mg base fun X => GC X ca "Frac" (.cls 0)) (h_no_isinstance : AtX P w K mg base fun X => X.mg "isinstance" = none) (h_isa : AtX P w K mg base fun X => IsaOk X.K ca (isaT isaL)) (h_exc_NotAFraction : AtX P w K mg base fun X => Exc1 X ca "NotAFraction" 37 "value") (h_fld_over : AtX P w K mg base fun X => FldOk X ca [0] "over") (h_exc_ZeroDivisor : AtX P w K mg base fun X => Exc0 X ca "ZeroDivisor" 43) (h_fld_under : AtX P w K mg base fun X => FldOk X ca [0] "under") (h_mk_Frac : AtX P w K mg base fun X => Mkr X ca 3 0 "Frac" spC_Frac) : KwD P w K mg base ca 5 f 1 ["divisor"] [0, 1] [] sp_Frac_quotientX := by
  have F : FnOk P w K mg base (L2.CX P w) 5 f fd ["self", "divisor"] (toSp K ca sp_Frac_quotientX) := by
    refine fn_okX (k := 4) (t := t_Frac_quotientX) G sc_Frac_quotientX len_Frac_quotientX (fun cdv A outer s H E hr => ?_) pure_Frac_quotientX
    have C : Ctx (cxOf (L2.CX P w) P w K mg base N_Frac_quotientX "Frac.quotient" (defScope s_Frac_quotientX) f cdv A outer s H E) 4 (WB E) := ctx_of hr
    have S := sc_Frac_quotientX
    exact (dss_cons (ds_if (dt_not (dt_val (de_callB (call_isaD (h_isa _ rfl rfl rfl rfl rfl)) (h_no_isinstance _ rfl rfl rfl rfl rfl) (by decide +kernel) (da_cons (de_var 1) (da_cons (de_glob (h_cls_Frac _ rfl rfl rfl rfl rfl)) da_nil))))) (dss_one (ds_raise C (h_exc_NotAFraction _ rfl rfl rfl rfl rfl) (de_var 1))) dss_nil)
    (dss_cons (ds_if (dt_cmp (op_eqP (k := 0) C) (de_fld (h_fld_over _ rfl rfl rfl rfl rfl) (de_var 1)) de_int) (dss_one (ds_raise0 C (h_exc_ZeroDivisor _ rfl rfl rfl rfl rfl))) dss_nil)
    (dss_one (ds_ret (de_make C (h_mk_Frac _ rfl rfl rfl rfl rfl) (da_cons (de_bin op_mulD (de_fld (h_fld_over _ rfl rfl rfl rfl rfl) (de_var 0)) (de_fld (h_fld_under _ rfl rfl rfl rfl rfl) (de_var 1))) (da_cons (de_bin op_mulD (de_fld (h_fld_under _ rfl rfl rfl rfl rfl) (de_var 0)) (de_fld (h_fld_over _ rfl rfl rfl rfl rfl) (de_var 1))) da_nil)))))))
  exact kwD_n G F (fun _ _ _ _ _ _ us ws h1 h2 => match us, h1, ws, h2 with | [_], _, [_], _ => rfl)
theorem sc__law_cell : FnScope N__law_cell ["_law_script", "_law_k"] (defScope s__law_cell) := ⟨rfl, rfl, rfl, by decide +kernel, rfl, by decide +kernel, by decide +kernel⟩
theorem ok__law_cell {f : Addr} {fd : FuncData} (G : FunD K "_law_cell" "_law_cell" (defArgs s__law_cell) (defBody s__law_cell) (defScope s__law_cell) [] [] f fd) (h_no_len : AtX P w K mg base fun X => X.mg "len" = none) : FnD P w K mg base ca 1 f [] sp__law_cell := by
  refine fnD_by (k := 0) (t := t__law_cell) (dvs' := []) G sc__law_cell ⟨[], .nil, G.bindsN (ps := ["_law_script", "_law_k"]) (fun _ _ _ _ _ _ us hl => match us, hl with | [_, _], _ => rfl)⟩ rep_nil len__law_cell (fun cdv A outer s H E hr => ?_) pure__law_cell
  have C : Ctx (cxOf (L2.CX P w) P w K mg base N__law_cell "_law_cell" (defScope s__law_cell) f cdv A outer s H E) 0 (WB E) := ctx_of hr
  have S := sc__law_cell
  exact (dss_cons (ds_if (dt_cmp op_ltD (de_var 1) (de_callB call_lenD (h_no_len _ rfl rfl rfl rfl rfl) (by decide +kernel) (da_cons (de_var 0) da_nil))) (dss_one (ds_ret (de_ix (de_var 0) (de_var 1)))) dss_nil)
    (dss_cons (ds_set 2 S.nd (de_bin op_modD (de_bin op_mulD de_int (de_bin op_addD (de_bin op_addD (de_bin op_mulD (de_var 1) (de_var 1)) (de_bin op_mulD de_int (de_var 1))) de_int)) de_int))
    (dss_cons (ds_for (passes_of rfl) rfl (di_seq (de_slice (de_var 0) do_none (do_some de_int))) (dg_name 3 S.nd) (dss_one (ds_set 2 S.nd (de_bin op_modD (de_bin op_addD (de_bin op_mulD (de_var 2) de_int) (de_var 3)) de_int))))
    (dss_one (ds_ret (de_var 2))))))
theorem sc__law_pool : FnScope N__law_pool ["_law_cell_here"] (defScope s__law_pool) := ⟨rfl, rfl, rfl, by decide +kernel, rfl, by decide +kernel, by decide +kernel⟩
theorem ok__law_pool {f : Addr} {fd : FuncData} (G : FunD K "_law_pool" "_law_pool" (defArgs s__law_pool) (defBody s__law_pool) (defScope s__law_pool) [] [] f fd) (h_no_abs : AtX P w K mg base fun X => X.mg "abs" = none) : FnD P w K mg base ca 1 f [] sp__law_pool := by
  refine fnD_by (k := 0) (t := t__law_pool) (dvs' := []) G sc__law_pool ⟨[], .nil, G.bindsN (ps := ["_law_cell_here"]) (fun _ _ _ _ _ _ us hl => match us, hl with | [_], _ => rfl)⟩ rep_nil len__law_pool (fun cdv A outer s H E hr => ?_) pure__law_pool
  have C : Ctx (cxOf (L2.CX P w) P w K mg base N__law_pool "_law_pool" (defScope s__law_pool) f cdv A outer s H E) 0 (WB E) := ctx_of hr
  have S := sc__law_pool
  exact (dss_cons (ds_set 1 S.nd de_int)
    (dss_cons (ds_if (dt_w (dw_or (dt_cmp op_ltD (de_var 0) de_int) (dw_or1 (dt_cmp op_geD (de_var 0) (de_bin op_powD de_int de_int))))) (dss_one (ds_set 1 S.nd (de_callB call_absD (h_no_abs _ rfl rfl rfl rfl rfl) (by decide +kernel) (da_cons (de_var 0) da_nil)))) dss_nil)
    (dss_one (ds_ret (de_lstM (da_cons (de_bin op_modD (de_var 0) de_int) (da_cons (de_var 1) (da_cons de_int da_nil))))))))
theorem sc__law_draw : FnScope N__law_draw ["_law_pool_here", "_law_many"] (defScope s__law_draw) := ⟨rfl, rfl, rfl, by decide +kernel, rfl, by decide +kernel, by decide +kernel⟩
theorem ok__law_draw {f : Addr} {fd : FuncData} (G : FunD K "_law_draw" "_law_draw" (defArgs s__law_draw) (defBody s__law_draw) (defScope s__law_draw) [] [] f fd) (h_no_divmod : AtX P w K mg base fun X => X.mg "divmod" = none) : FnD P w K mg base ca 1 f [] sp__law_draw := by
  refine fnD_by (k := 0) (t := t__law_draw) (dvs' := []) G sc__law_draw ⟨[], .nil, G.bindsN (ps := ["_law_pool_here", "_law_many"]) (fun _ _ _ _ _ _ us hl => match us, hl with | [_, _], _ => rfl)⟩ rep_nil len__law_draw (fun cdv A outer s H E hr => ?_) pure__law_draw
  have C : Ctx (cxOf (L2.CX P w) P w K mg base N__law_draw "_law_draw" (defScope s__law_draw) f cdv A outer s H E) 0 (WB E) := ctx_of hr
  have S := sc__law_draw
  exact (dss_cons (ds_asg (de_bin op_addD (de_ix (de_var 0) de_int) de_int) (dg_sub (de_var 0) de_int))
    (dss_cons (ds_set 2 S.nd (de_ix (de_var 0) de_int))
    (dss_cons (ds_asg (de_bin op_modD (de_bin op_addD (de_bin op_addD (de_bin op_mulD (de_var 2) (de_bin op_addD (de_bin op_modD (de_var 2) de_int) de_int)) (de_bin op_mulD de_int (de_ix (de_var 0) de_int))) de_int) de_int) (dg_sub (de_var 0) de_int))
    (dss_cons (ds_if (dt_cmp op_gtD (de_ix (de_var 0) de_int) de_int) (dss_cons (ds_asg (de_callB call_divmodD (h_no_divmod _ rfl rfl rfl rfl rfl) (by decide +kernel) (da_cons (de_ix (de_var 0) de_int) (da_cons (de_var 1) da_nil))) (dg_tup rfl (dgs_cons (dg_sub (de_var 0) de_int) (dgs_cons (dg_name 3 S.nd) dgs_nil))))
    (dss_one (ds_ret (de_var 3)))) dss_nil)
    (dss_one (ds_ret (de_bin op_modD (de_bin op_divD (de_ix (de_var 0) de_int) de_int) (de_var 1))))))))
theorem sc__law_low : FnScope N__law_low ["_law_upon", "_law_below"] (defScope s__law_low) := ⟨rfl, rfl, rfl, by decide +kernel, rfl, by decide +kernel, by decide +kernel⟩
theorem ok__law_low {f : Addr} {fd : FuncData} (G : FunD K "_law_low" "_law_low" (defArgs s__law_low) (defBody s__law_low) (defScope s__law_low) [] [] f fd) (h_no_abs : AtX P w K mg base fun X => X.mg "abs" = none) (h_no_max : AtX P w K mg base fun X => X.mg "max" = none) : FnD P w K mg base ca 1 f [] sp__law_low := by
  refine fnD_by (k := 0) (t := t__law_low) (dvs' := []) G sc__law_low ⟨[], .nil, G.bindsN (ps := ["_law_upon", "_law_below"]) (fun _ _ _ _ _ _ us hl => match us, hl with | [_, _], _ => rfl)⟩ rep_nil len__law_low (fun cdv A outer s H E hr => ?_) pure__law_low
  have C : Ctx (cxOf (L2.CX P w) P w K mg base N__law_low "_law_low" (defScope s__law_low) f cdv A outer s H E) 0 (WB E) := ctx_of hr
  have S := sc__law_low
  exact (dss_cons (ds_par 2 3 rfl S.nd (da_cons (de_callB call_absD (h_no_abs _ rfl rfl rfl rfl rfl) (by decide +kernel) (da_cons (de_var 0) da_nil)) (da_cons (de_callB call_absD (h_no_abs _ rfl rfl rfl rfl rfl) (by decide +kernel) (da_cons (de_var 1) da_nil)) da_nil)))
    (dss_cons (ds_while (passes_of rfl) (dt_cmp op_gtD (de_var 3) de_int) (dss_one (ds_par 2 3 rfl S.nd (da_cons (de_var 3) (da_cons (de_bin op_modD (de_var 2) (de_var 3)) da_nil)))))
    (dss_cons (ds_set 4 S.nd (de_if (dt_cmp op_ltD (de_var 1) de_int) (de_un un_negD de_int) de_int))
    (dss_one (ds_ret (de_tup (da_cons (de_bin op_divD (de_bin op_mulD (de_var 4) (de_var 0)) (de_callB (call_maxD rfl) (h_no_max _ rfl rfl rfl rfl rfl) (by decide +kernel) (da_cons de_int (da_cons (de_var 2) da_nil)))) (da_cons (de_bin op_divD (de_callB call_absD (h_no_abs _ rfl rfl rfl rfl rfl) (by decide +kernel) (da_cons (de_var 1) da_nil)) (de_callB (call_maxD rfl) (h_no_max _ rfl rfl rfl rfl rfl) (by decide +kernel) (da_cons de_int (da_cons (de_var 2) da_nil)))) da_nil))))))))
theorem sc__law_times : FnScope N__law_times ["_law_x", "_law_y"] (defScope s__law_times) := ⟨rfl, rfl, rfl, by decide +kernel, rfl, by decide +kernel, by decide +kernel⟩
theorem ok__law_times {f : Addr} {fd : FuncData} (G : FunD K "_law_times" "_law_times" (defArgs s__law_times) (defBody s__law_times) (defScope s__law_times) [] [] f fd) (h__law_low : AtX P w K mg base fun X => Fn X ca 1 "_law_low" [] sp__law_low) : FnD P w K mg base ca 2 f [] sp__law_times := by
  refine fnD_by (k := 1) (t := t__law_times) (dvs' := []) G sc__law_times ⟨[], .nil, G.bindsN (ps := ["_law_x", "_law_y"]) (fun _ _ _ _ _ _ us hl => match us, hl with | [_, _], _ => rfl)⟩ rep_nil len__law_times (fun cdv A outer s H E hr => ?_) pure__law_times
  have C : Ctx (cxOf (L2.CX P w) P w K mg base N__law_times "_law_times" (defScope s__law_times) f cdv A outer s H E) 1 (WB E) := ctx_of hr
  have S := sc__law_times
  exact (dss_one (ds_ret (de_call C (h__law_low _ rfl rfl rfl rfl rfl) (da_cons (de_bin op_mulD (de_ix (de_var 0) de_int) (de_ix (de_var 1) de_int)) (da_cons (de_bin op_mulD (de_ix (de_var 0) de_int) (de_ix (de_var 1) de_int)) da_nil)))))
theorem sc__law_share : FnScope N__law_share ["_law_x", "_law_y"] (defScope s__law_share) := ⟨rfl, rfl, rfl, by decide +kernel, rfl, by decide +kernel, by decide +kernel⟩
theorem ok__law_share {f : Addr} {fd : FuncData} (G : FunD K "_law_share" "_law_share" (defArgs s__law_share) (defBody s__law_share) (defScope s__law_share) [] [] f fd) (h__law_low : AtX P w K mg base fun X => Fn X ca 1 "_law_low" [] sp__law_low) : FnD P w K mg base ca 2 f [] sp__law_share := by
  refine fnD_by (k := 1) (t := t__law_share) (dvs' := []) G sc__law_share ⟨[], .nil, G.bindsN (ps := ["_law_x", "_law_y"]) (fun _ _ _ _ _ _ us hl => match us, hl with | [_, _], _ => rfl)⟩ rep_nil len__law_share (fun cdv A outer s H E hr => ?_) pure__law_share
  have C : Ctx (cxOf (L2.CX P w) P w K mg base N__law_share "_law_share" (defScope s__law_share) f cdv A outer s H E) 1 (WB E) := ctx_of hr
  have S := sc__law_share
  exact (dss_one (ds_ret (de_call C (h__law_low _ rfl rfl rfl rfl rfl) (da_cons (de_bin op_mulD (de_ix (de_var 0) de_int) (de_ix (de_var 1) de_int)) (da_cons (de_bin op_mulD (de_ix (de_var 0) de_int) (de_ix (de_var 1) de_int)) da_nil)))))
theorem sc__law_frac : FnScope N__law_frac ["_law_x"] (defScope s__law_frac) := ⟨rfl, rfl, rfl, by decide +kernel, rfl, by decide +kernel, by decide +kernel⟩
theorem ok__law_frac {f : Addr} {fd : FuncData} (G : FunD K "_law_frac" "_law_frac" (defArgs s__law_frac) (defBody s__law_frac) (defScope s__law_frac) [] [] f fd) (h_mk_Frac : AtX P w K mg base fun X => Mkr X ca 3 0 "Frac" spC_Frac) : FnD P w K mg base ca 5 f [] sp__law_frac := by
  refine fnD_by (k := 4) (t := t__law_frac) (dvs' := []) G sc__law_frac ⟨[], .nil, G.bindsN (ps := ["_law_x"]) (fun _ _ _ _ _ _ us hl => match us, hl with | [_], _ => rfl)⟩ rep_nil len__law_frac (fun cdv A outer s H E hr => ?_) pure__law_frac
  have C : Ctx (cxOf (L2.CX P w) P w K mg base N__law_frac "_law_frac" (defScope s__law_frac) f cdv A outer s H E) 4 (WB E) := ctx_of hr
  have S := sc__law_frac
  exact (dss_one (ds_ret (de_make C (h_mk_Frac _ rfl rfl rfl rfl rfl) (da_cons (de_ix (de_var 0) de_int) (da_cons (de_ix (de_var 0) de_int) da_nil)))))
theorem sc__law_pair : FnScope N__law_pair ["_law_made"] (defScope s__law_pair) := ⟨rfl, rfl, rfl, by decide +kernel, rfl, by decide +kernel, by decide +kernel⟩
theorem ok__law_pair {f : Addr} {fd : FuncData} (G : FunD K "_law_pair" "_law_pair" (defArgs s__law_pair) (defBody s__law_pair) (defScope s__law_pair) [] [] f fd) (h_cls_Frac : AtX P w K mg base fun X => GC X ca "Frac" (.cls 0)) (h_no_isinstance : AtX P w K mg base fun X => X.mg "isinstance" = none) (h_isa : AtX P w K mg base fun X => IsaOk X.K ca (isaT isaL)) (h_Frac_bottom : AtX P w K mg base fun X => PrOk X ca 1 "bottom" (tl [(0, sp_Frac_bottom)])) (h_Frac_top : AtX P w K mg base fun X => PrOk X ca 1 "top" (tl [(0, sp_Frac_top)])) : FnD P w K mg base ca 3 f [] sp__law_pair := by
  refine fnD_by (k := 2) (t := t__law_pair) (dvs' := []) G sc__law_pair ⟨[], .nil, G.bindsN (ps := ["_law_made"]) (fun _ _ _ _ _ _ us hl => match us, hl with | [_], _ => rfl)⟩ rep_nil len__law_pair (fun cdv A outer s H E hr => ?_) pure__law_pair
  have C : Ctx (cxOf (L2.CX P w) P w K mg base N__law_pair "_law_pair" (defScope s__law_pair) f cdv A outer s H E) 2 (WB E) := ctx_of hr
  have S := sc__law_pair
  exact (dss_one (ds_ret (de_if (dt_val (de_callB (call_isaD (h_isa _ rfl rfl rfl rfl rfl)) (h_no_isinstance _ rfl rfl rfl rfl rfl) (by decide +kernel) (da_cons (de_var 0) (da_cons (de_glob (h_cls_Frac _ rfl rfl rfl rfl rfl)) da_nil)))) (de_tup (da_cons (de_prop C (h_Frac_top _ rfl rfl rfl rfl rfl) (de_var 0)) (da_cons (de_prop C (h_Frac_bottom _ rfl rfl rfl rfl rfl) (de_var 0)) da_nil))) de_non)))
theorem sc__law_other_fields : FnScope N__law_other_fields ["_law_e"] (defScope s__law_other_fields) := ⟨rfl, rfl, rfl, by decide +kernel, rfl, by decide +kernel, by decide +kernel⟩
theorem ok__law_other_fields {cs : List Nat} (hn : ExNums cs) {f : Addr} {fd : FuncData} (G : FunD K "_law_other_fields" "_law_other_fields" (defArgs s__law_other_fields) (defBody s__law_other_fields) (defScope s__law_other_fields) [] [] f fd) (h_cls_InvalidMode : AtX P w K mg base fun X => GC X ca "InvalidMode" (.cls 29)) (h_no_isinstance : AtX P w K mg base fun X => X.mg "isinstance" = none) (h_isaE : AtX P w K mg base fun X => IsaEOk X.K ca (isaE cs)) (h_fldE_mode : AtX P w K mg base fun X => FldEOk X ca (fldCs cs "mode") "mode") (h_cls_InvalidText : AtX P w K mg base fun X => GC X ca "InvalidText" (.cls 31)) (h_fldE_text : AtX P w K mg base fun X => FldEOk X ca (fldCs cs "text") "text") (h_cls_InvalidCommand : AtX P w K mg base fun X => GC X ca "InvalidCommand" (.cls 33)) (h_fldE_command : AtX P w K mg base fun X => FldEOk X ca (fldCs cs "command") "command") : FnDH P w K mg base ca 1 f (sp_otherE cs) := by
  refine fnDH_by (k := 0) (t := t__law_other_fields cs) G sc__law_other_fields (G.bindsN (ps := ["_law_e"]) (fun _ _ _ _ _ _ us hl => match us, hl with | [_], _ => rfl)) len__law_other_fields (fun cdv A outer s H E p hr => ?_) (pure__law_other_fields hn)
  have C : CtxH (L2H.cxH (L2.CX P w) P w K mg base N__law_other_fields "_law_other_fields" (defScope s__law_other_fields) f cdv A outer s H E p) 0 (WB E) := ctxH_of hr
  have S := sc__law_other_fields
  exact (dss_cons (ds_if (dt_val (de_callB (call_isaE (h_isaE _ rfl rfl rfl rfl rfl)) (h_no_isinstance _ rfl rfl rfl rfl rfl) (by decide +kernel) (da_cons (de_var 0) (da_cons (de_glob (h_cls_InvalidMode _ rfl rfl rfl rfl rfl)) da_nil)))) (dss_one (ds_ret (de_lst (da_cons (de_fldE (h_fldE_mode _ rfl rfl rfl rfl rfl) (de_var 0)) da_nil)))) dss_nil)
    (dss_cons (ds_if (dt_val (de_callB (call_isaE (h_isaE _ rfl rfl rfl rfl rfl)) (h_no_isinstance _ rfl rfl rfl rfl rfl) (by decide +kernel) (da_cons (de_var 0) (da_cons (de_glob (h_cls_InvalidText _ rfl rfl rfl rfl rfl)) da_nil)))) (dss_one (ds_ret (de_lst (da_cons (de_fldE (h_fldE_text _ rfl rfl rfl rfl rfl) (de_var 0)) da_nil)))) dss_nil)
    (dss_one (ds_ret (de_if (dt_val (de_callB (call_isaE (h_isaE _ rfl rfl rfl rfl rfl)) (h_no_isinstance _ rfl rfl rfl rfl rfl) (by decide +kernel) (da_cons (de_var 0) (da_cons (de_glob (h_cls_InvalidCommand _ rfl rfl rfl rfl rfl)) da_nil)))) (de_lst (da_cons (de_fldE (h_fldE_command _ rfl rfl rfl rfl rfl) (de_var 0)) da_nil)) (de_lst da_nil))))))
theorem sc__law_fields : FnScope N__law_fields ["_law_e"] (defScope s__law_fields) := ⟨rfl, rfl, rfl, by decide +kernel, rfl, by decide +kernel, by decide +kernel⟩
theorem ok__law_fields {cs : List Nat} (hn : ExNums cs) {f : Addr} {fd : FuncData} (G : FunD K "_law_fields" "_law_fields" (defArgs s__law_fields) (defBody s__law_fields) (defScope s__law_fields) [] [] f fd) (h_cls_InvalidAction : AtX P w K mg base fun X => GC X ca "InvalidAction" (.cls 32)) (h_cls_InvalidIndex : AtX P w K mg base fun X => GC X ca "InvalidIndex" (.cls 30)) (h_cls_InvalidSamples : AtX P w K mg base fun X => GC X ca "InvalidSamples" (.cls 28)) (h_cls_InvalidPoints : AtX P w K mg base fun X => GC X ca "InvalidPoints" (.cls 27)) (h_cls_InvalidLayers : AtX P w K mg base fun X => GC X ca "InvalidLayers" (.cls 26)) (h_no_isinstance : AtX P w K mg base fun X => X.mg "isinstance" = none) (h_isaE : AtX P w K mg base fun X => IsaEOk X.K ca (isaE cs)) (h_fldE_index : AtX P w K mg base fun X => FldEOk X ca (fldCs cs "index") "index") (h_cls_TooManyEntries : AtX P w K mg base fun X => GC X ca "TooManyEntries" (.cls 46)) (h_cls_TooManyCorners : AtX P w K mg base fun X => GC X ca "TooManyCorners" (.cls 45)) (h_cls_TooManyLayers : AtX P w K mg base fun X => GC X ca "TooManyLayers" (.cls 44)) (h_fldE_found : AtX P w K mg base fun X => FldEOk X ca (fldCs cs "found") "found") (h_cls_NotACurve : AtX P w K mg base fun X => GC X ca "NotACurve" (.cls 36)) (h_cls_NotAStack : AtX P w K mg base fun X => GC X ca "NotAStack" (.cls 35)) (h_cls_NotALayer : AtX P w K mg base fun X => GC X ca "NotALayer" (.cls 34)) (h_cls_InvalidOpacity : AtX P w K mg base fun X => GC X ca "InvalidOpacity" (.cls 25)) (h_cls_InvalidColor : AtX P w K mg base fun X => GC X ca "InvalidColor" (.cls 24)) (h_cls_InvalidFraction : AtX P w K mg base fun X => GC X ca "InvalidFraction" (.cls 23)) (h_fldE_value : AtX P w K mg base fun X => FldEOk X ca (fldCs cs "value") "value") (h_cls_NotSeen : AtX P w K mg base fun X => GC X ca "NotSeen" (.cls 40)) (h_cls_NotAValue : AtX P w K mg base fun X => GC X ca "NotAValue" (.cls 38)) (h_cls_NotAFraction : AtX P w K mg base fun X => GC X ca "NotAFraction" (.cls 37)) (h_hot__law_other_fields : AtX P w K mg base fun X => FnHn X ca 1 "_law_other_fields" (sp_otherE cs)) : FnDH P w K mg base ca 2 f (sp_fieldsE cs) := by
  refine fnDH_by (k := 1) (t := t__law_fields cs) G sc__law_fields (G.bindsN (ps := ["_law_e"]) (fun _ _ _ _ _ _ us hl => match us, hl with | [_], _ => rfl)) len__law_fields (fun cdv A outer s H E p hr => ?_) (pure__law_fields hn)
  have C : CtxH (L2H.cxH (L2.CX P w) P w K mg base N__law_fields "_law_fields" (defScope s__law_fields) f cdv A outer s H E p) 1 (WB E) := ctxH_of hr
  have S := sc__law_fields
  exact (dss_cons (ds_if (dt_val (de_callB (call_isaE (h_isaE _ rfl rfl rfl rfl rfl)) (h_no_isinstance _ rfl rfl rfl rfl rfl) (by decide +kernel) (da_cons (de_var 0) (da_cons (de_tup (da_cons (de_glob (h_cls_InvalidLayers _ rfl rfl rfl rfl rfl)) (da_cons (de_glob (h_cls_InvalidPoints _ rfl rfl rfl rfl rfl)) (da_cons (de_glob (h_cls_InvalidSamples _ rfl rfl rfl rfl rfl)) (da_cons (de_glob (h_cls_InvalidIndex _ rfl rfl rfl rfl rfl)) (da_cons (de_glob (h_cls_InvalidAction _ rfl rfl rfl rfl rfl)) da_nil)))))) da_nil)))) (dss_one (ds_ret (de_lst (da_cons (de_fldE (h_fldE_index _ rfl rfl rfl rfl rfl) (de_var 0)) da_nil)))) dss_nil)
    (dss_cons (ds_if (dt_val (de_callB (call_isaE (h_isaE _ rfl rfl rfl rfl rfl)) (h_no_isinstance _ rfl rfl rfl rfl rfl) (by decide +kernel) (da_cons (de_var 0) (da_cons (de_tup (da_cons (de_glob (h_cls_TooManyLayers _ rfl rfl rfl rfl rfl)) (da_cons (de_glob (h_cls_TooManyCorners _ rfl rfl rfl rfl rfl)) (da_cons (de_glob (h_cls_TooManyEntries _ rfl rfl rfl rfl rfl)) da_nil)))) da_nil)))) (dss_one (ds_ret (de_lst (da_cons (de_fldE (h_fldE_found _ rfl rfl rfl rfl rfl) (de_var 0)) da_nil)))) dss_nil)
    (dss_cons (ds_if (dt_val (de_callB (call_isaE (h_isaE _ rfl rfl rfl rfl rfl)) (h_no_isinstance _ rfl rfl rfl rfl rfl) (by decide +kernel) (da_cons (de_var 0) (da_cons (de_tup (da_cons (de_glob (h_cls_InvalidFraction _ rfl rfl rfl rfl rfl)) (da_cons (de_glob (h_cls_InvalidColor _ rfl rfl rfl rfl rfl)) (da_cons (de_glob (h_cls_InvalidOpacity _ rfl rfl rfl rfl rfl)) (da_cons (de_glob (h_cls_NotALayer _ rfl rfl rfl rfl rfl)) (da_cons (de_glob (h_cls_NotAStack _ rfl rfl rfl rfl rfl)) (da_cons (de_glob (h_cls_NotACurve _ rfl rfl rfl rfl rfl)) da_nil))))))) da_nil)))) (dss_one (ds_ret (de_lst (da_cons (de_fldE (h_fldE_value _ rfl rfl rfl rfl rfl) (de_var 0)) da_nil)))) dss_nil)
    (dss_cons (ds_if (dt_val (de_callB (call_isaE (h_isaE _ rfl rfl rfl rfl rfl)) (h_no_isinstance _ rfl rfl rfl rfl rfl) (by decide +kernel) (da_cons (de_var 0) (da_cons (de_tup (da_cons (de_glob (h_cls_NotAFraction _ rfl rfl rfl rfl rfl)) (da_cons (de_glob (h_cls_NotAValue _ rfl rfl rfl rfl rfl)) (da_cons (de_glob (h_cls_NotSeen _ rfl rfl rfl rfl rfl)) da_nil)))) da_nil)))) (dss_one (ds_ret (de_lst (da_cons (de_fldE (h_fldE_value _ rfl rfl rfl rfl rfl) (de_var 0)) da_nil)))) dss_nil)
    (dss_one (ds_ret (de_callH C (h_hot__law_other_fields _ rfl rfl rfl rfl rfl) (da_cons (de_var 0) da_nil))))))))
theorem sc__law_kind : FnScope N__law_kind ["_law_e"] (defScope s__law_kind) := ⟨rfl, rfl, rfl, by decide +kernel, rfl, by decide +kernel, by decide +kernel⟩
theorem ok__law_kind {cs : List Nat} (hn : ExNums cs) {f : Addr} {fd : FuncData} (G : FunD K "_law_kind" "_law_kind" (defArgs s__law_kind) (defBody s__law_kind) (defScope s__law_kind) [] [] f fd) (h_cls_InvalidOpacity : AtX P w K mg base fun X => GC X ca "InvalidOpacity" (.cls 25)) (h_no_isinstance : AtX P w K mg base fun X => X.mg "isinstance" = none) (h_isaE : AtX P w K mg base fun X => IsaEOk X.K ca (isaE cs)) (h_cls_InvalidColor : AtX P w K mg base fun X => GC X ca "InvalidColor" (.cls 24)) (h_cls_InvalidFraction : AtX P w K mg base fun X => GC X ca "InvalidFraction" (.cls 23)) (h_cls_InvalidSamples : AtX P w K mg base fun X => GC X ca "InvalidSamples" (.cls 28)) (h_cls_InvalidPoints : AtX P w K mg base fun X => GC X ca "InvalidPoints" (.cls 27)) (h_cls_InvalidLayers : AtX P w K mg base fun X => GC X ca "InvalidLayers" (.cls 26)) (h_cls_InvalidText : AtX P w K mg base fun X => GC X ca "InvalidText" (.cls 31)) (h_cls_InvalidIndex : AtX P w K mg base fun X => GC X ca "InvalidIndex" (.cls 30)) (h_cls_InvalidMode : AtX P w K mg base fun X => GC X ca "InvalidMode" (.cls 29)) (h_cls_NotALayer : AtX P w K mg base fun X => GC X ca "NotALayer" (.cls 34)) (h_cls_InvalidCommand : AtX P w K mg base fun X => GC X ca "InvalidCommand" (.cls 33)) (h_cls_InvalidAction : AtX P w K mg base fun X => GC X ca "InvalidAction" (.cls 32)) (h_cls_NotAFraction : AtX P w K mg base fun X => GC X ca "NotAFraction" (.cls 37)) (h_cls_NotACurve : AtX P w K mg base fun X => GC X ca "NotACurve" (.cls 36)) (h_cls_NotAStack : AtX P w K mg base fun X => GC X ca "NotAStack" (.cls 35)) (h_cls_NotAValue : AtX P w K mg base fun X => GC X ca "NotAValue" (.cls 38)) (h_cls_Busy : AtX P w K mg base fun X => GC X ca "Busy" (.cls 41)) (h_cls_NotSeen : AtX P w K mg base fun X => GC X ca "NotSeen" (.cls 40)) (h_cls_NotSettled : AtX P w K mg base fun X => GC X ca "NotSettled" (.cls 39)) (h_cls_TooManyLayers : AtX P w K mg base fun X => GC X ca "TooManyLayers" (.cls 44)) (h_cls_ZeroDivisor : AtX P w K mg base fun X => GC X ca "ZeroDivisor" (.cls 43)) (h_cls_NothingToUndo : AtX P w K mg base fun X => GC X ca "NothingToUndo" (.cls 42)) (h_cls_TooManyEntries : AtX P w K mg base fun X => GC X ca "TooManyEntries" (.cls 46)) (h_cls_TooManyCorners : AtX P w K mg base fun X => GC X ca "TooManyCorners" (.cls 45)) (h_cls_SizeError : AtX P w K mg base fun X => GC X ca "SizeError" (.cls 22)) (h_cls_StateError : AtX P w K mg base fun X => GC X ca "StateError" (.cls 21)) (h_cls_ToneError : AtX P w K mg base fun X => GC X ca "ToneError" (.cls 20)) (h_no_ArithmeticError : AtX P w K mg base fun X => X.mg "ArithmeticError" = none) (h_no_LookupError : AtX P w K mg base fun X => X.mg "LookupError" = none) (h_no_ValueError : AtX P w K mg base fun X => X.mg "ValueError" = none) : FnDH P w K mg base ca 1 f (sp_kindE cs) := by
  refine fnDH_by (k := 0) (t := t__law_kind cs) G sc__law_kind (G.bindsN (ps := ["_law_e"]) (fun _ _ _ _ _ _ us hl => match us, hl with | [_], _ => rfl)) len__law_kind (fun cdv A outer s H E p hr => ?_) (pure__law_kind hn)
  have C : CtxH (L2H.cxH (L2.CX P w) P w K mg base N__law_kind "_law_kind" (defScope s__law_kind) f cdv A outer s H E p) 0 (WB E) := ctxH_of hr
  have S := sc__law_kind
  exact (dss_cons (ds_set 1 S.nd (de_lst (da_cons (de_callB (call_isaE (h_isaE _ rfl rfl rfl rfl rfl)) (h_no_isinstance _ rfl rfl rfl rfl rfl) (by decide +kernel) (da_cons (de_var 0) (da_cons (de_glob (h_cls_InvalidFraction _ rfl rfl rfl rfl rfl)) da_nil))) (da_cons (de_callB (call_isaE (h_isaE _ rfl rfl rfl rfl rfl)) (h_no_isinstance _ rfl rfl rfl rfl rfl) (by decide +kernel) (da_cons (de_var 0) (da_cons (de_glob (h_cls_InvalidColor _ rfl rfl rfl rfl rfl)) da_nil))) (da_cons (de_callB (call_isaE (h_isaE _ rfl rfl rfl rfl rfl)) (h_no_isinstance _ rfl rfl rfl rfl rfl) (by decide +kernel) (da_cons (de_var 0) (da_cons (de_glob (h_cls_InvalidOpacity _ rfl rfl rfl rfl rfl)) da_nil))) da_nil)))))
    (dss_cons (ds_set 1 S.nd (de_bin op_addD (de_var 1) (de_lst (da_cons (de_callB (call_isaE (h_isaE _ rfl rfl rfl rfl rfl)) (h_no_isinstance _ rfl rfl rfl rfl rfl) (by decide +kernel) (da_cons (de_var 0) (da_cons (de_glob (h_cls_InvalidLayers _ rfl rfl rfl rfl rfl)) da_nil))) (da_cons (de_callB (call_isaE (h_isaE _ rfl rfl rfl rfl rfl)) (h_no_isinstance _ rfl rfl rfl rfl rfl) (by decide +kernel) (da_cons (de_var 0) (da_cons (de_glob (h_cls_InvalidPoints _ rfl rfl rfl rfl rfl)) da_nil))) (da_cons (de_callB (call_isaE (h_isaE _ rfl rfl rfl rfl rfl)) (h_no_isinstance _ rfl rfl rfl rfl rfl) (by decide +kernel) (da_cons (de_var 0) (da_cons (de_glob (h_cls_InvalidSamples _ rfl rfl rfl rfl rfl)) da_nil))) da_nil))))))
    (dss_cons (ds_set 1 S.nd (de_bin op_addD (de_var 1) (de_lst (da_cons (de_callB (call_isaE (h_isaE _ rfl rfl rfl rfl rfl)) (h_no_isinstance _ rfl rfl rfl rfl rfl) (by decide +kernel) (da_cons (de_var 0) (da_cons (de_glob (h_cls_InvalidMode _ rfl rfl rfl rfl rfl)) da_nil))) (da_cons (de_callB (call_isaE (h_isaE _ rfl rfl rfl rfl rfl)) (h_no_isinstance _ rfl rfl rfl rfl rfl) (by decide +kernel) (da_cons (de_var 0) (da_cons (de_glob (h_cls_InvalidIndex _ rfl rfl rfl rfl rfl)) da_nil))) (da_cons (de_callB (call_isaE (h_isaE _ rfl rfl rfl rfl rfl)) (h_no_isinstance _ rfl rfl rfl rfl rfl) (by decide +kernel) (da_cons (de_var 0) (da_cons (de_glob (h_cls_InvalidText _ rfl rfl rfl rfl rfl)) da_nil))) da_nil))))))
    (dss_cons (ds_set 1 S.nd (de_bin op_addD (de_var 1) (de_lst (da_cons (de_callB (call_isaE (h_isaE _ rfl rfl rfl rfl rfl)) (h_no_isinstance _ rfl rfl rfl rfl rfl) (by decide +kernel) (da_cons (de_var 0) (da_cons (de_glob (h_cls_InvalidAction _ rfl rfl rfl rfl rfl)) da_nil))) (da_cons (de_callB (call_isaE (h_isaE _ rfl rfl rfl rfl rfl)) (h_no_isinstance _ rfl rfl rfl rfl rfl) (by decide +kernel) (da_cons (de_var 0) (da_cons (de_glob (h_cls_InvalidCommand _ rfl rfl rfl rfl rfl)) da_nil))) (da_cons (de_callB (call_isaE (h_isaE _ rfl rfl rfl rfl rfl)) (h_no_isinstance _ rfl rfl rfl rfl rfl) (by decide +kernel) (da_cons (de_var 0) (da_cons (de_glob (h_cls_NotALayer _ rfl rfl rfl rfl rfl)) da_nil))) da_nil))))))
    (dss_cons (ds_set 1 S.nd (de_bin op_addM (de_var 1) (de_lst (da_cons (de_callB (call_isaE (h_isaE _ rfl rfl rfl rfl rfl)) (h_no_isinstance _ rfl rfl rfl rfl rfl) (by decide +kernel) (da_cons (de_var 0) (da_cons (de_glob (h_cls_NotAStack _ rfl rfl rfl rfl rfl)) da_nil))) (da_cons (de_callB (call_isaE (h_isaE _ rfl rfl rfl rfl rfl)) (h_no_isinstance _ rfl rfl rfl rfl rfl) (by decide +kernel) (da_cons (de_var 0) (da_cons (de_glob (h_cls_NotACurve _ rfl rfl rfl rfl rfl)) da_nil))) (da_cons (de_callB (call_isaE (h_isaE _ rfl rfl rfl rfl rfl)) (h_no_isinstance _ rfl rfl rfl rfl rfl) (by decide +kernel) (da_cons (de_var 0) (da_cons (de_glob (h_cls_NotAFraction _ rfl rfl rfl rfl rfl)) da_nil))) da_nil))))))
    (dss_cons (ds_expr (de_bm PySem.F.plainAttrs_list PySem.F.slot_list_append PySem.F.type_list_append mt_appendD (de_var 1) (da_cons (de_callB (call_isaE (h_isaE _ rfl rfl rfl rfl rfl)) (h_no_isinstance _ rfl rfl rfl rfl rfl) (by decide +kernel) (da_cons (de_var 0) (da_cons (de_glob (h_cls_NotAValue _ rfl rfl rfl rfl rfl)) da_nil))) da_nil)))
    (dss_still 1 (dss_cons (ds_set 1 S.nd (de_bin op_addD (de_var 1) (de_lst (da_cons (de_callB (call_isaE (h_isaE _ rfl rfl rfl rfl rfl)) (h_no_isinstance _ rfl rfl rfl rfl rfl) (by decide +kernel) (da_cons (de_var 0) (da_cons (de_glob (h_cls_NotSettled _ rfl rfl rfl rfl rfl)) da_nil))) (da_cons (de_callB (call_isaE (h_isaE _ rfl rfl rfl rfl rfl)) (h_no_isinstance _ rfl rfl rfl rfl rfl) (by decide +kernel) (da_cons (de_var 0) (da_cons (de_glob (h_cls_NotSeen _ rfl rfl rfl rfl rfl)) da_nil))) (da_cons (de_callB (call_isaE (h_isaE _ rfl rfl rfl rfl rfl)) (h_no_isinstance _ rfl rfl rfl rfl rfl) (by decide +kernel) (da_cons (de_var 0) (da_cons (de_glob (h_cls_Busy _ rfl rfl rfl rfl rfl)) da_nil))) da_nil))))))
    (dss_cons (ds_set 1 S.nd (de_bin op_addD (de_var 1) (de_lst (da_cons (de_callB (call_isaE (h_isaE _ rfl rfl rfl rfl rfl)) (h_no_isinstance _ rfl rfl rfl rfl rfl) (by decide +kernel) (da_cons (de_var 0) (da_cons (de_glob (h_cls_NothingToUndo _ rfl rfl rfl rfl rfl)) da_nil))) (da_cons (de_callB (call_isaE (h_isaE _ rfl rfl rfl rfl rfl)) (h_no_isinstance _ rfl rfl rfl rfl rfl) (by decide +kernel) (da_cons (de_var 0) (da_cons (de_glob (h_cls_ZeroDivisor _ rfl rfl rfl rfl rfl)) da_nil))) (da_cons (de_callB (call_isaE (h_isaE _ rfl rfl rfl rfl rfl)) (h_no_isinstance _ rfl rfl rfl rfl rfl) (by decide +kernel) (da_cons (de_var 0) (da_cons (de_glob (h_cls_TooManyLayers _ rfl rfl rfl rfl rfl)) da_nil))) da_nil))))))
    (dss_cons (ds_set 1 S.nd (de_bin op_addD (de_var 1) (de_lst (da_cons (de_callB (call_isaE (h_isaE _ rfl rfl rfl rfl rfl)) (h_no_isinstance _ rfl rfl rfl rfl rfl) (by decide +kernel) (da_cons (de_var 0) (da_cons (de_glob (h_cls_TooManyCorners _ rfl rfl rfl rfl rfl)) da_nil))) (da_cons (de_callB (call_isaE (h_isaE _ rfl rfl rfl rfl rfl)) (h_no_isinstance _ rfl rfl rfl rfl rfl) (by decide +kernel) (da_cons (de_var 0) (da_cons (de_glob (h_cls_TooManyEntries _ rfl rfl rfl rfl rfl)) da_nil))) da_nil)))))
    (dss_cons (ds_set 2 S.nd (de_lst (da_cons (de_callB (call_isaE (h_isaE _ rfl rfl rfl rfl rfl)) (h_no_isinstance _ rfl rfl rfl rfl rfl) (by decide +kernel) (da_cons (de_var 0) (da_cons (de_glob (h_cls_ToneError _ rfl rfl rfl rfl rfl)) da_nil))) (da_cons (de_callB (call_isaE (h_isaE _ rfl rfl rfl rfl rfl)) (h_no_isinstance _ rfl rfl rfl rfl rfl) (by decide +kernel) (da_cons (de_var 0) (da_cons (de_glob (h_cls_StateError _ rfl rfl rfl rfl rfl)) da_nil))) (da_cons (de_callB (call_isaE (h_isaE _ rfl rfl rfl rfl rfl)) (h_no_isinstance _ rfl rfl rfl rfl rfl) (by decide +kernel) (da_cons (de_var 0) (da_cons (de_glob (h_cls_SizeError _ rfl rfl rfl rfl rfl)) da_nil))) da_nil)))))
    (dss_cons (ds_set 3 S.nd (de_lst (da_cons (de_callB (call_isaE (h_isaE _ rfl rfl rfl rfl rfl)) (h_no_isinstance _ rfl rfl rfl rfl rfl) (by decide +kernel) (da_cons (de_var 0) (da_cons (de_ty (h_no_ValueError _ rfl rfl rfl rfl rfl) (by decide +kernel)) da_nil))) (da_cons (de_callB (call_isaE (h_isaE _ rfl rfl rfl rfl rfl)) (h_no_isinstance _ rfl rfl rfl rfl rfl) (by decide +kernel) (da_cons (de_var 0) (da_cons (de_ty (h_no_LookupError _ rfl rfl rfl rfl rfl) (by decide +kernel)) da_nil))) (da_cons (de_callB (call_isaE (h_isaE _ rfl rfl rfl rfl rfl)) (h_no_isinstance _ rfl rfl rfl rfl rfl) (by decide +kernel) (da_cons (de_var 0) (da_cons (de_ty (h_no_ArithmeticError _ rfl rfl rfl rfl rfl) (by decide +kernel)) da_nil))) da_nil)))))
    (dss_cons (ds_if (dt_cmp (op_nePH C) (de_bm PySem.F.plainAttrs_list PySem.F.slot_list_count PySem.F.type_list_count (mt_countD (by have := C.room.un; omega)) (de_var 1) (da_cons de_bl da_nil)) de_int) (dss_one (ds_ret de_str)) dss_nil)
    (dss_cons (ds_set 4 S.nd (de_bm PySem.F.plainAttrs_list PySem.F.slot_list_index PySem.F.type_list_index (mt_indexD' (by have := C.room.un; omega)) (de_var 1) (da_cons de_bl da_nil)))
    (dss_cons (ds_if (dt_w (dw_or (dt_cmp (op_nePH C) (de_var 2) (de_lst (da_cons (de_cmp op_ltD (de_var 4) de_int) (da_cons (de_chain op_ltD op_ltD de_int (de_var 4) de_int) (da_cons (de_cmp op_gtD (de_var 4) de_int) da_nil))))) (dw_or1 (dt_cmp (op_nePH C) (de_var 3) (de_var 2))))) (dss_one (ds_ret de_str)) dss_nil)
    (dss_cons (ds_set 5 S.nd de_str)
    (dss_cons (ds_set 5 S.nd (de_bin op_addD (de_var 5) de_str))
    (dss_cons (ds_set 5 S.nd (de_bin op_addD (de_var 5) de_str))
    (dss_one (ds_ret (de_ix (de_bm PySem.F.plainAttrs_str PySem.F.slot_str_split PySem.F.type_str_split mt_splitD (de_var 5) (da_cons de_str da_nil)) (de_var 4))))))))))))))))))))))
theorem sc__law_number : FnScope N__law_number ["_law_pool_here"] (defScope s__law_number) := ⟨rfl, rfl, rfl, by decide +kernel, rfl, by decide +kernel, by decide +kernel⟩
theorem ok__law_number {f : Addr} {fd : FuncData} (G : FunD K "_law_number" "_law_number" (defArgs s__law_number) (defBody s__law_number) (defScope s__law_number) [] [] f fd) (h__law_draw : AtX P w K mg base fun X => Fn X ca 1 "_law_draw" [] sp__law_draw) : FnD P w K mg base ca 2 f [] sp__law_number := by
  refine fnD_by (k := 1) (t := t__law_number) (dvs' := []) G sc__law_number ⟨[], .nil, G.bindsN (ps := ["_law_pool_here"]) (fun _ _ _ _ _ _ us hl => match us, hl with | [_], _ => rfl)⟩ rep_nil len__law_number (fun cdv A outer s H E hr => ?_) pure__law_number
  have C : Ctx (cxOf (L2.CX P w) P w K mg base N__law_number "_law_number" (defScope s__law_number) f cdv A outer s H E) 1 (WB E) := ctx_of hr
  have S := sc__law_number
  exact (dss_cons (ds_set 1 S.nd (de_call C (h__law_draw _ rfl rfl rfl rfl rfl) (da_cons (de_var 0) (da_cons de_int da_nil))))
    (dss_cons (ds_set 2 S.nd (de_ix (de_lst (da_cons de_int (da_cons de_int (da_cons (de_bin op_powD de_int de_int) (da_cons (de_bin op_powD de_int de_int) da_nil))))) (de_var 1)))
    (dss_cons (ds_set 3 S.nd (de_bin op_addD de_int (de_call C (h__law_draw _ rfl rfl rfl rfl rfl) (da_cons (de_var 0) (da_cons (de_var 2) da_nil)))))
    (dss_one (ds_ret (de_tup (da_cons (de_bin op_subD (de_call C (h__law_draw _ rfl rfl rfl rfl rfl) (da_cons (de_var 0) (da_cons (de_bin op_addD (de_bin op_mulD de_int (de_var 2)) de_int) da_nil))) (de_var 2)) (da_cons (de_if (dt_cmp (op_eqP (k := 0) C) (de_call C (h__law_draw _ rfl rfl rfl rfl rfl) (da_cons (de_var 0) (da_cons de_int da_nil))) de_int) (de_var 3) (de_un un_negD (de_var 3))) da_nil))))))))
theorem sc__law_pair_right : FnScope N__law_pair_right ["_law_first", "_law_second"] (defScope s__law_pair_right) := ⟨rfl, rfl, rfl, by decide +kernel, rfl, by decide +kernel, by decide +kernel⟩
theorem ok__law_pair_right {f lc lp : Addr} {fd : FuncData} (G : FunD K "_law_pair_right" "_law_pair_right" (defArgs s__law_pair_right) (defBody s__law_pair_right) (defScope s__law_pair_right) [] [] f fd) (hcode : codeAt K f = some (.ref lc)) (h__law_frac : AtX P w K mg base fun X => Fn X ca 5 "_law_frac" [] sp__law_frac) (h_no_repr : AtX P w K mg base fun X => X.mg "repr" = none) (h_Frac_repr : AtX P w K mg base fun X => MOk X ca 4 "__repr__" (tl [(0, sp_Frac_repr)])) (h_Frac_mul : AtX P w K mg base fun X => OwnOk X ca 5 (PySem.dunder (Operator.info .Mult).2) (tl [(0, sp_Frac_mul)])) (h__law_pair : AtX P w K mg base fun X => Fn X ca 3 "_law_pair" [] sp__law_pair) (h__law_times : AtX P w K mg base fun X => Fn X ca 2 "_law_times" [] sp__law_times) (h__law_share : AtX P w K mg base fun X => Fn X ca 2 "_law_share" [] sp__law_share) (h_Frac_quotient : AtX P w K mg base fun X => MtOk X ca 5 "quotient" (tl [(0, (sp_Frac_quotientX, []))])) (h_caught : AtX P w K mg base fun X => CaughtOk X ca [37, 43] 6) (h_lam__law_pair_right : AtX P w K mg base fun X => LamOk X ca lc lp (("_law_pair_right" : PySem.Str) ++ ".<locals>." ++ "<lambda>")) (h_mtk_Frac_quotient_divisor : AtX P w K mg base fun X => MtKw X ca 5 0 "quotient" ["divisor"] [0, 1] [] sp_Frac_quotientX) : FnD P w K mg base ca 9 f [] sp__law_pair_right := by
  refine fnD_byC (k := 8) (t := t__law_pair_right) (dvs' := []) G hcode sc__law_pair_right ⟨[], .nil, G.bindsN (ps := ["_law_first", "_law_second"]) (fun _ _ _ _ _ _ us hl => match us, hl with | [_, _], _ => rfl)⟩ rep_nil len__law_pair_right (fun A outer s H E hr => ?_) pure__law_pair_right
  have C : Ctx (cxOf (L2.CX P w) P w K mg base N__law_pair_right "_law_pair_right" (defScope s__law_pair_right) f (.ref lc) A outer s H E) 8 (WB E) := ctx_of hr
  have S := sc__law_pair_right
  exact (dss_cons (ds_asg (de_tup (da_cons (de_call C (h__law_frac _ rfl rfl rfl rfl rfl) (da_cons (de_var 0) da_nil)) (da_cons (de_call C (h__law_frac _ rfl rfl rfl rfl rfl) (da_cons (de_var 1) da_nil)) da_nil))) (dg_tup rfl (dgs_cons (dg_name 2 S.nd) (dgs_cons (dg_name 3 S.nd) dgs_nil))))
    (dss_cons (ds_set 4 S.nd (de_lst (da_cons (de_callB (call_reprOwn C (h_Frac_repr _ rfl rfl rfl rfl rfl)) (h_no_repr _ rfl rfl rfl rfl rfl) (by decide +kernel) (da_cons (de_var 2) da_nil)) (da_cons (de_callB (call_reprOwn C (h_Frac_repr _ rfl rfl rfl rfl rfl)) (h_no_repr _ rfl rfl rfl rfl rfl) (by decide +kernel) (da_cons (de_var 3) da_nil)) da_nil))))
    (dss_cons (ds_set 5 S.nd (de_lst (da_cons (de_bin (op_own C (h_Frac_mul _ rfl rfl rfl rfl rfl)) (de_var 2) (de_var 3)) (da_cons (de_bin (op_own C (h_Frac_mul _ rfl rfl rfl rfl rfl)) (de_var 3) (de_var 2)) (da_cons (de_bin (op_own C (h_Frac_mul _ rfl rfl rfl rfl rfl)) (de_var 2) (de_var 2)) da_nil)))))
    (dss_cons (ds_if (dt_cmp (op_neP C) (de_comp (own := [("_law_each", 9)]) rfl S.nd (di_seq (de_var 5)) (blkOk_by (N := N__law_pair_right) (sc := defScope s__law_pair_right) (by decide +kernel)) (bdOk_name (by decide)) (fun _ _ _ _ _ => pg_name (i := 9) S.nd rfl (.inl rfl)) (fun _ _ _ _ _ => dts_nil) (fun _ _ _ _ _ => have C := C.blk; (de_call C (h__law_pair _ rfl rfl rfl rfl rfl) (da_cons (de_var 9) da_nil)))) (de_bin op_addD (de_bin op_repM (de_lstM (da_cons (de_call C (h__law_times _ rfl rfl rfl rfl rfl) (da_cons (de_var 0) (da_cons (de_var 1) da_nil))) da_nil)) de_int) (de_lst (da_cons (de_call C (h__law_times _ rfl rfl rfl rfl rfl) (da_cons (de_var 0) (da_cons (de_var 0) da_nil))) da_nil)))) (dss_one (ds_ret de_bl)) dss_nil)
    (dss_cons (ds_set 6 S.nd (de_if (dt_cmp (op_neP C) (de_ix (de_var 1) de_int) de_int) (de_lst (da_cons de_str (da_cons (de_call C (h__law_share _ rfl rfl rfl rfl rfl) (da_cons (de_var 0) (da_cons (de_var 1) da_nil))) da_nil))) (de_lst (da_cons de_str da_nil))))
    (dss_cons (ds_set 7 S.nd (de_lstM (da_cons (de_caught (m := 5) C (h_caught _ rfl rfl rfl rfl rfl) (h_lam__law_pair_right _ rfl rfl rfl rfl rfl) (LamX.lamS_by (by kernel_rfl)) (fun A outer s H E f c hr => by
    have C := ctx_lam (outer := outer) (H := H) (E := E) hr
    exact (de_meth C (h_Frac_quotient _ rfl rfl rfl rfl rfl) (de_var 2) (da_cons (de_var 3) da_nil)))) da_nil)))
    (dss_cons (ds_expr (de_bm PySem.F.plainAttrs_list PySem.F.slot_list_append PySem.F.type_list_append mt_appendD (de_var 7) (da_cons (de_caught (m := 5) C (h_caught _ rfl rfl rfl rfl rfl) (h_lam__law_pair_right _ rfl rfl rfl rfl rfl) (LamX.lamS_by (by kernel_rfl)) (fun A outer s H E f c hr => by
    have C := ctx_lam (outer := outer) (H := H) (E := E) hr
    exact (de_methK C (h_mtk_Frac_quotient_divisor _ rfl rfl rfl rfl rfl) (de_var 2) (dk_cons (de_var 3) dk_nil)))) da_nil)))
    (dss_still 7 (dss_cons (ds_for (passes_of rfl) rfl (di_seq (de_var 7)) (dg_name 8 S.nd) (dss_one (ds_if (dt_cmp (op_neP C) (de_bin op_addD (de_lst (da_cons (de_ix (de_var 8) de_int) da_nil)) (de_comp (own := [("_law_each", 9)]) rfl S.nd (di_seq (de_slice (de_var 8) (do_some de_int) do_none)) (blkOk_by (N := N__law_pair_right) (sc := defScope s__law_pair_right) (by decide +kernel)) (bdOk_name (by decide)) (fun _ _ _ _ _ => pg_name (i := 9) S.nd rfl (.inl rfl)) (fun _ _ _ _ _ => dts_nil) (fun _ _ _ _ _ => have C := C.blk; (de_call C (h__law_pair _ rfl rfl rfl rfl rfl) (da_cons (de_var 9) da_nil))))) (de_var 6)) (dss_one (ds_ret de_bl)) dss_nil)))
    (dss_cons (ds_if (dt_w (dw_and (dt_cmp (op_neP C) (de_ix (de_var 1) de_int) de_int) (dw_and1 (dt_cmp (op_neP C) (de_call C (h__law_pair _ rfl rfl rfl rfl rfl) (da_cons (de_meth C (h_Frac_quotient _ rfl rfl rfl rfl rfl) (de_bin (op_own C (h_Frac_mul _ rfl rfl rfl rfl rfl)) (de_var 2) (de_var 3)) (da_cons (de_var 3) da_nil)) da_nil)) (de_var 0))))) (dss_one (ds_ret de_bl)) dss_nil)
    (dss_one (ds_ret (de_cmp (op_eqP (k := 0) C) (de_lst (da_cons (de_callB (call_reprOwn C (h_Frac_repr _ rfl rfl rfl rfl rfl)) (h_no_repr _ rfl rfl rfl rfl rfl) (by decide +kernel) (da_cons (de_var 2) da_nil)) (da_cons (de_callB (call_reprOwn C (h_Frac_repr _ rfl rfl rfl rfl rfl)) (h_no_repr _ rfl rfl rfl rfl rfl) (by decide +kernel) (da_cons (de_var 3) da_nil)) da_nil))) (de_var 4))))))))))))))
theorem sc__law_wrong_right : FnScope N__law_wrong_right ["_law_pair_here"] (defScope s__law_wrong_right) := ⟨rfl, rfl, rfl, by decide +kernel, rfl, by decide +kernel, by decide +kernel⟩
theorem ok__law_wrong_right {f lc lp : Addr} {fd : FuncData} (G : FunD K "_law_wrong_right" "_law_wrong_right" (defArgs s__law_wrong_right) (defBody s__law_wrong_right) (defScope s__law_wrong_right) [] [] f fd) (hcode : codeAt K f = some (.ref lc)) (h__law_frac : AtX P w K mg base fun X => Fn X ca 5 "_law_frac" [] sp__law_frac) (h_Frac_eq : AtX P w K mg base fun X => CmpOwnOk X ca 1 "__eq__" (tl [(0, sp_Frac_eq)]) tgs) (h_Frac_quotient : AtX P w K mg base fun X => MtOk X ca 5 "quotient" (tl [(0, (sp_Frac_quotientX, []))])) (h_caught : AtX P w K mg base fun X => CaughtOk X ca [37, 43] 6) (h_lam__law_wrong_right : AtX P w K mg base fun X => LamOk X ca lc lp (("_law_wrong_right" : PySem.Str) ++ ".<locals>." ++ "<lambda>")) (h_no_repr : AtX P w K mg base fun X => X.mg "repr" = none) (h_Frac_repr : AtX P w K mg base fun X => MOk X ca 4 "__repr__" (tl [(0, sp_Frac_repr)])) (h_sys : AtX P w K mg base fun X => SysOk X) (h_mk_Frac : AtX P w K mg base fun X => Mkr X ca 3 0 "Frac" spC_Frac) : FnD P w K mg base ca 31 f [] sp__law_wrong_right := by
  refine fnD_byC (k := 30) (t := t__law_wrong_right) (dvs' := []) G hcode sc__law_wrong_right ⟨[], .nil, G.bindsN (ps := ["_law_pair_here"]) (fun _ _ _ _ _ _ us hl => match us, hl with | [_], _ => rfl)⟩ rep_nil len__law_wrong_right (fun A outer s H E hr => ?_) pure__law_wrong_right
  have C : Ctx (cxOf (L2.CX P w) P w K mg base N__law_wrong_right "_law_wrong_right" (defScope s__law_wrong_right) f (.ref lc) A outer s H E) 30 (WB E) := ctx_of hr
  have S := sc__law_wrong_right
  exact (dss_cons (ds_set 1 S.nd (de_call C (h__law_frac _ rfl rfl rfl rfl rfl) (da_cons (de_var 0) da_nil)))
    (dss_cons (ds_for (passes_of rfl) rfl (di_seq (de_lst (da_cons de_non (da_cons de_int (da_cons de_int (da_cons de_bl (da_cons de_str (da_cons (de_tup da_nil) (da_cons (de_tup (da_cons de_int (da_cons de_int da_nil))) (da_cons (de_lst (da_cons (de_var 1) da_nil)) (da_cons de_dic0 (da_cons (de_var 0) (da_cons (de_lst da_nil) (da_cons (de_cmp (op_cmpOwn C (h_Frac_eq _ rfl rfl rfl rfl rfl) (fun _ _ => rfl)) (de_var 1) (de_var 1)) da_nil)))))))))))))) (dg_name 2 S.nd) (dss_one (ds_if (dt_cmp op_neS (de_callB (call_reprL C (h_sys _ rfl rfl rfl rfl rfl) (h_Frac_repr _ rfl rfl rfl rfl rfl)) (h_no_repr _ rfl rfl rfl rfl rfl) (by decide +kernel) (da_cons (de_caught (m := 5) C (h_caught _ rfl rfl rfl rfl rfl) (h_lam__law_wrong_right _ rfl rfl rfl rfl rfl) (LamX.lamS_by (by kernel_rfl)) (fun A outer s H E f c hr => by
    have C := ctx_lam (outer := outer) (H := H) (E := E) hr
    exact (de_meth C (h_Frac_quotient _ rfl rfl rfl rfl rfl) (de_var 1) (da_cons (de_var 2) da_nil)))) da_nil)) (de_callB (call_reprL C (h_sys _ rfl rfl rfl rfl rfl) (h_Frac_repr _ rfl rfl rfl rfl rfl)) (h_no_repr _ rfl rfl rfl rfl rfl) (by decide +kernel) (da_cons (de_lst (da_cons de_str (da_cons (de_var 2) da_nil))) da_nil))) (dss_one (ds_ret de_bl)) dss_nil)))
    (dss_one (ds_ret (de_cmp (op_eqP (k := 0) C) (de_caught (m := 5) C (h_caught _ rfl rfl rfl rfl rfl) (h_lam__law_wrong_right _ rfl rfl rfl rfl rfl) (LamX.lamS_by (by kernel_rfl)) (fun A outer s H E f c hr => by
    have C := ctx_lam (outer := outer) (H := H) (E := E) hr
    exact (de_meth C (h_Frac_quotient _ rfl rfl rfl rfl rfl) (de_var 1) (da_cons (de_make C (h_mk_Frac _ rfl rfl rfl rfl rfl) (da_cons de_int (da_cons de_int da_nil))) da_nil)))) (de_lst (da_cons de_str da_nil)))))))
theorem sc__law_right : FnScope N__law_right ["_law_pool_here"] (defScope s__law_right) := ⟨rfl, rfl, rfl, by decide +kernel, rfl, by decide +kernel, by decide +kernel⟩
theorem ok__law_right {f : Addr} {fd : FuncData} (G : FunD K "_law_right" "_law_right" (defArgs s__law_right) (defBody s__law_right) (defScope s__law_right) [] [] f fd) (h_no_range : AtX P w K mg base fun X => X.mg "range" = none) (h__law_number : AtX P w K mg base fun X => Fn X ca 2 "_law_number" [] sp__law_number) (h__law_low : AtX P w K mg base fun X => Fn X ca 1 "_law_low" [] sp__law_low) (h__law_wrong_right : AtX P w K mg base fun X => Fn X ca 31 "_law_wrong_right" [] sp__law_wrong_right) (h__law_pair_right : AtX P w K mg base fun X => Fn X ca 9 "_law_pair_right" [] sp__law_pair_right) (h_no_all : AtX P w K mg base fun X => X.mg "all" = none) : FnD P w K mg base ca 32 f [] sp__law_right := by
  refine fnD_by (k := 31) (t := t__law_right) (dvs' := []) G sc__law_right ⟨[], .nil, G.bindsN (ps := ["_law_pool_here"]) (fun _ _ _ _ _ _ us hl => match us, hl with | [_], _ => rfl)⟩ rep_nil len__law_right (fun cdv A outer s H E hr => ?_) pure__law_right
  have C : Ctx (cxOf (L2.CX P w) P w K mg base N__law_right "_law_right" (defScope s__law_right) f cdv A outer s H E) 31 (WB E) := ctx_of hr
  have S := sc__law_right
  exact (dss_cons (ds_set 1 S.nd (de_lstM (da_cons (de_tup (da_cons de_int (da_cons de_int da_nil))) (da_cons (de_tup (da_cons de_int (da_cons de_int da_nil))) da_nil))))
    (dss_cons (ds_for (passes_of rfl) rfl (di_range1 (h_no_range _ rfl rfl rfl rfl rfl) (da_cons de_int da_nil)) (dg_name 2 S.nd) (dss_cons (ds_set 3 S.nd (de_call C (h__law_number _ rfl rfl rfl rfl rfl) (da_cons (de_var 0) da_nil)))
    (dss_one (ds_expr (de_bm PySem.F.plainAttrs_list PySem.F.slot_list_append PySem.F.type_list_append mt_appendD (de_var 1) (da_cons (de_call C (h__law_low _ rfl rfl rfl rfl rfl) (da_cons (de_ix (de_var 3) de_int) (da_cons (de_ix (de_var 3) de_int) da_nil))) da_nil))))))
    (dss_still 1 (dss_cons (ds_for (passes_of rfl) rfl (di_seq (de_var 1)) (dg_name 4 S.nd) (dss_one (ds_if (dt_w (dw_or (dt_not (dt_val (de_call C (h__law_wrong_right _ rfl rfl rfl rfl rfl) (da_cons (de_var 4) da_nil)))) (dw_or1 (dt_not (dt_val (de_callB (call_allD rfl) (h_no_all _ rfl rfl rfl rfl rfl) (by decide +kernel) (da_cons (de_comp (own := [("_law_second", 5)]) rfl S.nd (di_seq (de_var 1)) (blkOk_by (N := N__law_right) (sc := defScope s__law_right) (by decide +kernel)) (bdOk_name (by decide)) (fun _ _ _ _ _ => pg_name (i := 5) S.nd rfl (.inl rfl)) (fun _ _ _ _ _ => dts_nil) (fun _ _ _ _ _ => have C := C.blk; (de_call C (h__law_pair_right _ rfl rfl rfl rfl rfl) (da_cons (de_var 4) (da_cons (de_var 5) da_nil))))) da_nil))))))) (dss_one (ds_ret de_bl)) dss_nil)))
    (dss_one (ds_ret de_bl))))))
theorem sc_law : FnScope N_law ["_law_script"] (defScope s_law) := ⟨rfl, rfl, rfl, by decide +kernel, rfl, by decide +kernel, by decide +kernel⟩
theorem ok_law {f : Addr} {fd : FuncData} (G : FunD K "law" "law" (defArgs s_law) (defBody s_law) (defScope s_law) [] [] f fd) (h_no_range : AtX P w K mg base fun X => X.mg "range" = none) (h_no_len : AtX P w K mg base fun X => X.mg "len" = none) (h_no_min : AtX P w K mg base fun X => X.mg "min" = none) (h_no_max : AtX P w K mg base fun X => X.mg "max" = none) (h__law_cell : AtX P w K mg base fun X => Fn X ca 1 "_law_cell" [] sp__law_cell) (h__law_pool : AtX P w K mg base fun X => Fn X ca 1 "_law_pool" [] sp__law_pool) (h__law_right : AtX P w K mg base fun X => Fn X ca 32 "_law_right" [] sp__law_right) (h_no_all : AtX P w K mg base fun X => X.mg "all" = none) : FnOk P w K mg base (L2.CX P w) 33 f fd ["_law_script"] (toSp K ca sp_law) := by
  refine fn_okX (k := 32) (t := t_law) G sc_law len_law (fun cdv A outer s H E hr => ?_) pure_law
  have C : Ctx (cxOf (L2.CX P w) P w K mg base N_law "law" (defScope s_law) f cdv A outer s H E) 32 (WB E) := ctx_of hr
  have S := sc_law
  exact (dss_one (ds_ret (de_callB (call_allD rfl) (h_no_all _ rfl rfl rfl rfl rfl) (by decide +kernel) (da_cons (de_comp (own := [("_law_k", 1)]) rfl S.nd (di_range1 (h_no_range _ rfl rfl rfl rfl rfl) (da_cons (de_callB (call_maxD rfl) (h_no_max _ rfl rfl rfl rfl rfl) (by decide +kernel) (da_cons de_int (da_cons (de_callB (call_minD rfl) (h_no_min _ rfl rfl rfl rfl rfl) (by decide +kernel) (da_cons (de_callB call_lenD (h_no_len _ rfl rfl rfl rfl rfl) (by decide +kernel) (da_cons (de_var 0) da_nil)) (da_cons de_int da_nil))) da_nil))) da_nil)) (blkOk_by (N := N_law) (sc := defScope s_law) (by decide +kernel)) (bdOk_name (by decide)) (fun _ _ _ _ _ => pg_name (i := 1) S.nd rfl (.inl rfl)) (fun _ _ _ _ _ => dts_nil) (fun _ _ _ _ _ => have C := C.blk; (de_call C (h__law_right _ rfl rfl rfl rfl rfl) (da_cons (de_call C (h__law_pool _ rfl rfl rfl rfl rfl) (da_cons (de_call C (h__law_cell _ rfl rfl rfl rfl rfl) (da_cons (de_var 0) (da_cons (de_var 1) da_nil))) da_nil)) da_nil)))) da_nil))))
end
end TS
namespace TS
open PySem PySem.Spec PyProof.Rows L2
theorem facts {P : Program} {w : World} {K Kt : Fg} {h : Heap} {mg : Str → Option Value} {f : Addr} (X : K.In h) (Y : Kt.In h) (hL : okLams lams K Kt = true) (G : h.Ns mainGlobals mg) (hfa : mg ("law" : Str) = some (.ref f)) (hP : (P.main.file == fileN) = true ∧ (P.main.scope.names.lookup ("super" : Str)).isSome = false) (c0 : SaysS fas gts sups fileN (ckAll cks) K) :
    ∃ fd : FuncData, (∀ (s : Shared) (v : Value), BindsTo s fd ⟨[v], []⟩ [("_law_script", v)]) ∧ ∀ base : Heap, K.In base → base.Ns mainGlobals mg → (∀ p ∈ lamCs lams K, LamX.TabB base mg p.1 p.2) → FnOk P w K mg base (L2.CX P w) 33 f fd ["_law_script"] (toSp K (caK K) sp_law) := by
  have c := c0.p
  obtain ⟨fd_is_whole, F_is_whole⟩ := c.df 0
  obtain ⟨fd_common, F_common⟩ := c.df 1
  obtain ⟨fd_lowest_terms, F_lowest_terms⟩ := c.df 2
  obtain ⟨fd_Frac_init, F_Frac_init⟩ := c.df 3
  obtain ⟨fd_Frac_top, F_Frac_top⟩ := c.df 4
  obtain ⟨fd_Frac_bottom, F_Frac_bottom⟩ := c.df 5
  obtain ⟨fd_Frac_eq, F_Frac_eq⟩ := c.df 6
  obtain ⟨fd_Frac_mul, F_Frac_mul⟩ := c.df 7
  obtain ⟨fd_Frac_str, F_Frac_str⟩ := c.df 8
  obtain ⟨fd_Frac_repr, F_Frac_repr⟩ := c.df 9
  obtain ⟨fd_Frac_quotientX, F_Frac_quotientX⟩ := c.df 10
  obtain ⟨fd__law_cell, F__law_cell⟩ := c.df 11
  obtain ⟨fd__law_pool, F__law_pool⟩ := c.df 12
  obtain ⟨fd__law_draw, F__law_draw⟩ := c.df 13
  obtain ⟨fd__law_low, F__law_low⟩ := c.df 14
  obtain ⟨fd__law_times, F__law_times⟩ := c.df 15
  obtain ⟨fd__law_share, F__law_share⟩ := c.df 16
  obtain ⟨fd__law_frac, F__law_frac⟩ := c.df 17
  obtain ⟨fd__law_pair, F__law_pair⟩ := c.df 18
  obtain ⟨fd__law_other_fields, F__law_other_fields⟩ := c.df 19
  obtain ⟨fd__law_fields, F__law_fields⟩ := c.df 20
  obtain ⟨fd__law_kind, F__law_kind⟩ := c.df 21
  obtain ⟨fd__law_number, F__law_number⟩ := c.df 22
  obtain ⟨fd__law_pair_right, F__law_pair_right⟩ := c.df 23
  obtain ⟨fd__law_wrong_right, F__law_wrong_right⟩ := c.df 24
  obtain ⟨fd__law_right, F__law_right⟩ := c.df 25
  obtain ⟨fd_law, F_law⟩ := c.df 26
  obtain ⟨fd_NotAFraction_init, F_NotAFraction_init⟩ := c.df 27
  obtain ⟨fd__law_caught, F__law_caught⟩ := c.df 28
  have e := hfa.symm.trans (He.glo_ok X G (c.fc 71))
  cases e
  have bA := FunD.bindsA (ps := ["_law_script"]) F_law fun _ _ _ _ _ _ us hl => match us, hl with | [_], _ => rfl
  refine ⟨fd_law, fun s v => bA s [v] rfl, fun base _ _ ht => ?_⟩
  have h_no_int : AtX P w K mg base fun X => X.mg "int" = none := at_free (He.free_ok X G (c.fc 0))
  have h_no_isinstance : AtX P w K mg base fun X => X.mg "isinstance" = none := at_free (He.free_ok X G (c.fc 1))
  have h_isa : AtX P w K mg base fun X => IsaOk X.K (caK K) (isaT isaL) := at_isa (ckIsa_ok (ckAll_at c.ck 0) (fun e he i hi => by
    have hi2 := isaOwn e he i hi
    rcases hi2 with rfl <;> first | exact ckOc_ok (He.cls_ok (c.fc 2)) (ckAll_at c.ck 1)))
  have h_no_bool : AtX P w K mg base fun X => X.mg "bool" = none := at_free (He.free_ok X G (c.fc 3))
  have o_is_whole : FnD P w K mg base (caK K) 1 (He.ga K "is_whole") [] sp_is_whole := ok_is_whole F_is_whole h_no_int h_no_isinstance h_isa h_no_bool
  have o_common : FnD P w K mg base (caK K) 1 (He.ga K "common") [] sp_common := ok_common F_common 
  have h_no_abs : AtX P w K mg base fun X => X.mg "abs" = none := at_free (He.free_ok X G (c.fc 4))
  have h_common : AtX P w K mg base fun X => Fn X (caK K) 1 "common" [] sp_common := at_fn (He.glo_ok X G (c.fc 5)) (keep_of F_common) o_common
  have o_lowest_terms : FnD P w K mg base (caK K) 2 (He.ga K "lowest_terms") [] sp_lowest_terms := ok_lowest_terms F_lowest_terms h_no_abs h_common
  have h_is_whole : AtX P w K mg base fun X => Fn X (caK K) 1 "is_whole" [] sp_is_whole := at_fn (He.glo_ok X G (c.fc 6)) (keep_of F_is_whole) o_is_whole
  have h_lowest_terms : AtX P w K mg base fun X => Fn X (caK K) 2 "lowest_terms" [] sp_lowest_terms := at_fn (He.glo_ok X G (c.fc 7)) (keep_of F_lowest_terms) o_lowest_terms
  have h_fld_under : AtX P w K mg base fun X => FldOk X (caK K) [0] "under" := at_fld (fun i hi => by
    simp only [List.mem_cons, List.not_mem_nil, or_false] at hi
    rcases hi with rfl <;> first | exact ⟨He.cls_ok (c.fc 2), He.noat_ok (c.fc 8)⟩)
  have h_fld_over : AtX P w K mg base fun X => FldOk X (caK K) [0] "over" := at_fld (fun i hi => by
    simp only [List.mem_cons, List.not_mem_nil, or_false] at hi
    rcases hi with rfl <;> first | exact ⟨He.cls_ok (c.fc 2), He.noat_ok (c.fc 9)⟩)
  have o_Frac_init : FnD P w K mg base (caK K) 3 (He.ma K (He.ga K "Frac") "__init__") [] sp_Frac_init := ok_Frac_init F_Frac_init h_is_whole h_lowest_terms h_fld_under h_fld_over
  have o_Frac_top : FnD P w K mg base (caK K) 1 (prG K (He.ga K "Frac") "top") [] sp_Frac_top := ok_Frac_top F_Frac_top h_fld_over
  have o_Frac_bottom : FnD P w K mg base (caK K) 1 (prG K (He.ga K "Frac") "bottom") [] sp_Frac_bottom := ok_Frac_bottom F_Frac_bottom h_fld_under
  have h_cls_Frac : AtX P w K mg base fun X => GC X (caK K) "Frac" (.cls 0) := at_cls (c := 0) (He.glo_ok X G (c.fc 10))
  have o_Frac_eq : FnD P w K mg base (caK K) 1 (He.ma K (He.ga K "Frac") "__eq__") [] sp_Frac_eq := ok_Frac_eq F_Frac_eq h_cls_Frac h_no_isinstance h_isa h_fld_over h_fld_under
  have h_mk_Frac : AtX P w K mg base fun X => Mkr X (caK K) 3 0 "Frac" spC_Frac := at_mkr (He.glo_ok X G (c.fc 10)) (He.mkr_ok (c.fc 11)) (o_Frac_init) (.inl mk_Frac)
  have o_Frac_mul : FnD P w K mg base (caK K) 5 (He.ma K (He.ga K "Frac") (PySem.dunder (Operator.info .Mult).2)) [] sp_Frac_mul := ok_Frac_mul F_Frac_mul h_fld_under h_fld_over h_mk_Frac
  have h_no_str : AtX P w K mg base fun X => X.mg "str" = none := at_free (He.free_ok X G (c.fc 12))
  have o_Frac_str : FnD P w K mg base (caK K) 1 (He.ma K (He.ga K "Frac") "__str__") [] sp_Frac_str := ok_Frac_str F_Frac_str h_fld_under h_fld_over h_no_str
  have h_Frac_str : AtX P w K mg base fun X => MOk X (caK K) 1 "__str__" (tl [(0, sp_Frac_str)]) := at_m (at_mt (He.cls_ok (c.fc 2)) (He.meth_ok (c.fc 13)) o_Frac_str)
  have o_Frac_repr : FnD P w K mg base (caK K) 4 (He.ma K (He.ga K "Frac") "__repr__") [] sp_Frac_repr := ok_Frac_repr F_Frac_repr h_no_str h_Frac_str
  have h_exc_NotAFraction : AtX P w K mg base fun X => Exc1 X (caK K) "NotAFraction" 37 "value" := at_exc1 (c := 37) (He.glo_ok X G (c.fc 14)) exB_V (ckAll_at c.ck 2) (in_NotAFraction F_NotAFraction_init)
  have h_exc_ZeroDivisor : AtX P w K mg base fun X => Exc0 X (caK K) "ZeroDivisor" 43 := at_exc0 (c := 43) (He.glo_ok X G (c.fc 15)) exB_A (ckAll_at c.ck 3)
  have oK_Frac_quotientX_1divisor : KwD P w K mg base (caK K) 5 (He.ma K (He.ga K "Frac") "quotient") 1 ["divisor"] [0, 1] [] sp_Frac_quotientX := okK_Frac_quotientX_1divisor F_Frac_quotientX h_cls_Frac h_no_isinstance h_isa h_exc_NotAFraction h_fld_over h_exc_ZeroDivisor h_fld_under h_mk_Frac
  have o_Frac_quotientX : FnD P w K mg base (caK K) 5 (He.ma K (He.ga K "Frac") "quotient") [] sp_Frac_quotientX := ok_Frac_quotientX F_Frac_quotientX h_cls_Frac h_no_isinstance h_isa h_exc_NotAFraction h_fld_over h_exc_ZeroDivisor h_fld_under h_mk_Frac
  have o_Frac_quotient := o_Frac_quotientX
  have h_no_len : AtX P w K mg base fun X => X.mg "len" = none := at_free (He.free_ok X G (c.fc 16))
  have o__law_cell : FnD P w K mg base (caK K) 1 (He.ga K "_law_cell") [] sp__law_cell := ok__law_cell F__law_cell h_no_len
  have o__law_pool : FnD P w K mg base (caK K) 1 (He.ga K "_law_pool") [] sp__law_pool := ok__law_pool F__law_pool h_no_abs
  have h_no_divmod : AtX P w K mg base fun X => X.mg "divmod" = none := at_free (He.free_ok X G (c.fc 17))
  have o__law_draw : FnD P w K mg base (caK K) 1 (He.ga K "_law_draw") [] sp__law_draw := ok__law_draw F__law_draw h_no_divmod
  have h_no_max : AtX P w K mg base fun X => X.mg "max" = none := at_free (He.free_ok X G (c.fc 18))
  have o__law_low : FnD P w K mg base (caK K) 1 (He.ga K "_law_low") [] sp__law_low := ok__law_low F__law_low h_no_abs h_no_max
  have h__law_low : AtX P w K mg base fun X => Fn X (caK K) 1 "_law_low" [] sp__law_low := at_fn (He.glo_ok X G (c.fc 19)) (keep_of F__law_low) o__law_low
  have o__law_times : FnD P w K mg base (caK K) 2 (He.ga K "_law_times") [] sp__law_times := ok__law_times F__law_times h__law_low
  have o__law_share : FnD P w K mg base (caK K) 2 (He.ga K "_law_share") [] sp__law_share := ok__law_share F__law_share h__law_low
  have o__law_frac : FnD P w K mg base (caK K) 5 (He.ga K "_law_frac") [] sp__law_frac := ok__law_frac F__law_frac h_mk_Frac
  have h_Frac_bottom : AtX P w K mg base fun X => PrOk X (caK K) 1 "bottom" (tl [(0, sp_Frac_bottom)]) := at_pr (He.cls_ok (c.fc 2)) (ckPr_ok (ckAll_at c.ck 4)) o_Frac_bottom
  have h_Frac_top : AtX P w K mg base fun X => PrOk X (caK K) 1 "top" (tl [(0, sp_Frac_top)]) := at_pr (He.cls_ok (c.fc 2)) (ckPr_ok (ckAll_at c.ck 5)) o_Frac_top
  have o__law_pair : FnD P w K mg base (caK K) 3 (He.ga K "_law_pair") [] sp__law_pair := ok__law_pair F__law_pair h_cls_Frac h_no_isinstance h_isa h_Frac_bottom h_Frac_top
  have h_cls_InvalidMode : AtX P w K mg base fun X => GC X (caK K) "InvalidMode" (.cls 29) := at_cls (c := 29) (He.glo_ok X G (c.fc 20))
  have h_isaE : AtX P w K mg base fun X => IsaEOk X.K (caK K) (isaE [37, 43]) := at_isaE (ckAll_at c.ck 6)
  have h_fldE_mode : AtX P w K mg base fun X => FldEOk X (caK K) (fldCs [37, 43] "mode") "mode" := at_fldE (ckAll_at c.ck 7)
  have h_cls_InvalidText : AtX P w K mg base fun X => GC X (caK K) "InvalidText" (.cls 31) := at_cls (c := 31) (He.glo_ok X G (c.fc 21))
  have h_fldE_text : AtX P w K mg base fun X => FldEOk X (caK K) (fldCs [37, 43] "text") "text" := at_fldE (ckAll_at c.ck 8)
  have h_cls_InvalidCommand : AtX P w K mg base fun X => GC X (caK K) "InvalidCommand" (.cls 33) := at_cls (c := 33) (He.glo_ok X G (c.fc 22))
  have h_fldE_command : AtX P w K mg base fun X => FldEOk X (caK K) (fldCs [37, 43] "command") "command" := at_fldE (ckAll_at c.ck 9)
  have o__law_other_fields : FnDH P w K mg base (caK K) 1 (He.ga K "_law_other_fields") (sp_otherE [37, 43]) := ok__law_other_fields (by unfold ExNums; decide) F__law_other_fields h_cls_InvalidMode h_no_isinstance h_isaE h_fldE_mode h_cls_InvalidText h_fldE_text h_cls_InvalidCommand h_fldE_command
  have h_cls_InvalidAction : AtX P w K mg base fun X => GC X (caK K) "InvalidAction" (.cls 32) := at_cls (c := 32) (He.glo_ok X G (c.fc 23))
  have h_cls_InvalidIndex : AtX P w K mg base fun X => GC X (caK K) "InvalidIndex" (.cls 30) := at_cls (c := 30) (He.glo_ok X G (c.fc 24))
  have h_cls_InvalidSamples : AtX P w K mg base fun X => GC X (caK K) "InvalidSamples" (.cls 28) := at_cls (c := 28) (He.glo_ok X G (c.fc 25))
  have h_cls_InvalidPoints : AtX P w K mg base fun X => GC X (caK K) "InvalidPoints" (.cls 27) := at_cls (c := 27) (He.glo_ok X G (c.fc 26))
  have h_cls_InvalidLayers : AtX P w K mg base fun X => GC X (caK K) "InvalidLayers" (.cls 26) := at_cls (c := 26) (He.glo_ok X G (c.fc 27))
  have h_fldE_index : AtX P w K mg base fun X => FldEOk X (caK K) (fldCs [37, 43] "index") "index" := at_fldE (ckAll_at c.ck 10)
  have h_cls_TooManyEntries : AtX P w K mg base fun X => GC X (caK K) "TooManyEntries" (.cls 46) := at_cls (c := 46) (He.glo_ok X G (c.fc 28))
  have h_cls_TooManyCorners : AtX P w K mg base fun X => GC X (caK K) "TooManyCorners" (.cls 45) := at_cls (c := 45) (He.glo_ok X G (c.fc 29))
  have h_cls_TooManyLayers : AtX P w K mg base fun X => GC X (caK K) "TooManyLayers" (.cls 44) := at_cls (c := 44) (He.glo_ok X G (c.fc 30))
  have h_fldE_found : AtX P w K mg base fun X => FldEOk X (caK K) (fldCs [37, 43] "found") "found" := at_fldE (ckAll_at c.ck 11)
  have h_cls_NotACurve : AtX P w K mg base fun X => GC X (caK K) "NotACurve" (.cls 36) := at_cls (c := 36) (He.glo_ok X G (c.fc 31))
  have h_cls_NotAStack : AtX P w K mg base fun X => GC X (caK K) "NotAStack" (.cls 35) := at_cls (c := 35) (He.glo_ok X G (c.fc 32))
  have h_cls_NotALayer : AtX P w K mg base fun X => GC X (caK K) "NotALayer" (.cls 34) := at_cls (c := 34) (He.glo_ok X G (c.fc 33))
  have h_cls_InvalidOpacity : AtX P w K mg base fun X => GC X (caK K) "InvalidOpacity" (.cls 25) := at_cls (c := 25) (He.glo_ok X G (c.fc 34))
  have h_cls_InvalidColor : AtX P w K mg base fun X => GC X (caK K) "InvalidColor" (.cls 24) := at_cls (c := 24) (He.glo_ok X G (c.fc 35))
  have h_cls_InvalidFraction : AtX P w K mg base fun X => GC X (caK K) "InvalidFraction" (.cls 23) := at_cls (c := 23) (He.glo_ok X G (c.fc 36))
  have h_fldE_value : AtX P w K mg base fun X => FldEOk X (caK K) (fldCs [37, 43] "value") "value" := at_fldE (ckAll_at c.ck 12)
  have h_cls_NotSeen : AtX P w K mg base fun X => GC X (caK K) "NotSeen" (.cls 40) := at_cls (c := 40) (He.glo_ok X G (c.fc 37))
  have h_cls_NotAValue : AtX P w K mg base fun X => GC X (caK K) "NotAValue" (.cls 38) := at_cls (c := 38) (He.glo_ok X G (c.fc 38))
  have h_cls_NotAFraction : AtX P w K mg base fun X => GC X (caK K) "NotAFraction" (.cls 37) := at_cls (c := 37) (He.glo_ok X G (c.fc 14))
  have h_hot__law_other_fields : AtX P w K mg base fun X => FnHn X (caK K) 1 "_law_other_fields" (sp_otherE [37, 43]) := at_fnH (He.glo_ok X G (c.fc 39)) (keep_of F__law_other_fields) o__law_other_fields (by decide)
  have o__law_fields : FnDH P w K mg base (caK K) 2 (He.ga K "_law_fields") (sp_fieldsE [37, 43]) := ok__law_fields (by unfold ExNums; decide) F__law_fields h_cls_InvalidAction h_cls_InvalidIndex h_cls_InvalidSamples h_cls_InvalidPoints h_cls_InvalidLayers h_no_isinstance h_isaE h_fldE_index h_cls_TooManyEntries h_cls_TooManyCorners h_cls_TooManyLayers h_fldE_found h_cls_NotACurve h_cls_NotAStack h_cls_NotALayer h_cls_InvalidOpacity h_cls_InvalidColor h_cls_InvalidFraction h_fldE_value h_cls_NotSeen h_cls_NotAValue h_cls_NotAFraction h_hot__law_other_fields
  have h_cls_Busy : AtX P w K mg base fun X => GC X (caK K) "Busy" (.cls 41) := at_cls (c := 41) (He.glo_ok X G (c.fc 40))
  have h_cls_NotSettled : AtX P w K mg base fun X => GC X (caK K) "NotSettled" (.cls 39) := at_cls (c := 39) (He.glo_ok X G (c.fc 41))
  have h_cls_ZeroDivisor : AtX P w K mg base fun X => GC X (caK K) "ZeroDivisor" (.cls 43) := at_cls (c := 43) (He.glo_ok X G (c.fc 15))
  have h_cls_NothingToUndo : AtX P w K mg base fun X => GC X (caK K) "NothingToUndo" (.cls 42) := at_cls (c := 42) (He.glo_ok X G (c.fc 42))
  have h_cls_SizeError : AtX P w K mg base fun X => GC X (caK K) "SizeError" (.cls 22) := at_cls (c := 22) (He.glo_ok X G (c.fc 43))
  have h_cls_StateError : AtX P w K mg base fun X => GC X (caK K) "StateError" (.cls 21) := at_cls (c := 21) (He.glo_ok X G (c.fc 44))
  have h_cls_ToneError : AtX P w K mg base fun X => GC X (caK K) "ToneError" (.cls 20) := at_cls (c := 20) (He.glo_ok X G (c.fc 45))
  have h_no_ArithmeticError : AtX P w K mg base fun X => X.mg "ArithmeticError" = none := at_free (He.free_ok X G (c.fc 46))
  have h_no_LookupError : AtX P w K mg base fun X => X.mg "LookupError" = none := at_free (He.free_ok X G (c.fc 47))
  have h_no_ValueError : AtX P w K mg base fun X => X.mg "ValueError" = none := at_free (He.free_ok X G (c.fc 48))
  have o__law_kind : FnDH P w K mg base (caK K) 1 (He.ga K "_law_kind") (sp_kindE [37, 43]) := ok__law_kind (by unfold ExNums; decide) F__law_kind h_cls_InvalidOpacity h_no_isinstance h_isaE h_cls_InvalidColor h_cls_InvalidFraction h_cls_InvalidSamples h_cls_InvalidPoints h_cls_InvalidLayers h_cls_InvalidText h_cls_InvalidIndex h_cls_InvalidMode h_cls_NotALayer h_cls_InvalidCommand h_cls_InvalidAction h_cls_NotAFraction h_cls_NotACurve h_cls_NotAStack h_cls_NotAValue h_cls_Busy h_cls_NotSeen h_cls_NotSettled h_cls_TooManyLayers h_cls_ZeroDivisor h_cls_NothingToUndo h_cls_TooManyEntries h_cls_TooManyCorners h_cls_SizeError h_cls_StateError h_cls_ToneError h_no_ArithmeticError h_no_LookupError h_no_ValueError
  have h__law_draw : AtX P w K mg base fun X => Fn X (caK K) 1 "_law_draw" [] sp__law_draw := at_fn (He.glo_ok X G (c.fc 49)) (keep_of F__law_draw) o__law_draw
  have o__law_number : FnD P w K mg base (caK K) 2 (He.ga K "_law_number") [] sp__law_number := ok__law_number F__law_number h__law_draw
  have h__law_frac : AtX P w K mg base fun X => Fn X (caK K) 5 "_law_frac" [] sp__law_frac := at_fn (He.glo_ok X G (c.fc 50)) (keep_of F__law_frac) o__law_frac
  have h_no_repr : AtX P w K mg base fun X => X.mg "repr" = none := at_free (He.free_ok X G (c.fc 51))
  have h_Frac_repr : AtX P w K mg base fun X => MOk X (caK K) 4 "__repr__" (tl [(0, sp_Frac_repr)]) := at_m (at_mt (He.cls_ok (c.fc 2)) (He.meth_ok (c.fc 52)) o_Frac_repr)
  have h_Frac_mul : AtX P w K mg base fun X => OwnOk X (caK K) 5 (PySem.dunder (Operator.info .Mult).2) (tl [(0, sp_Frac_mul)]) := at_own (at_mt (He.cls_ok (c.fc 2)) (He.meth_ok (c.fc 53)) o_Frac_mul) (ckAll_at c.ck 13)
  have h__law_pair : AtX P w K mg base fun X => Fn X (caK K) 3 "_law_pair" [] sp__law_pair := at_fn (He.glo_ok X G (c.fc 54)) (keep_of F__law_pair) o__law_pair
  have h__law_times : AtX P w K mg base fun X => Fn X (caK K) 2 "_law_times" [] sp__law_times := at_fn (He.glo_ok X G (c.fc 55)) (keep_of F__law_times) o__law_times
  have h__law_share : AtX P w K mg base fun X => Fn X (caK K) 2 "_law_share" [] sp__law_share := at_fn (He.glo_ok X G (c.fc 56)) (keep_of F__law_share) o__law_share
  have h_Frac_quotient : AtX P w K mg base fun X => MtOk X (caK K) 5 "quotient" (tl [(0, (sp_Frac_quotientX, []))]) := at_mtt (at_mt (He.cls_ok (c.fc 2)) (He.meth_ok (c.fc 57)) o_Frac_quotient)
  have hh_law_kind : AtX P w K mg base fun X => FnHn X (caK K) 6 "_law_kind" (sp_kindE [37, 43]) := at_fnH (He.glo_ok X G (c.fc 58)) (keep_of F__law_kind) o__law_kind (by decide)
  have hh_law_fields : AtX P w K mg base fun X => FnHn X (caK K) 6 "_law_fields" (sp_fieldsE [37, 43]) := at_fnH (He.glo_ok X G (c.fc 59)) (keep_of F__law_fields) o__law_fields (by decide)
  have h_caught : AtX P w K mg base fun X => CaughtOk X (caK K) [37, 43] 6 := ok__law_caught F__law_caught (He.glo_ok X G (c.fc 60)) hh_law_kind hh_law_fields (He.glo_ok X G (c.fc 45)) (He.glo_ok X G (c.fc 44)) (He.glo_ok X G (c.fc 43)) (hit_of (ca := caK K) (ckAll_at c.ck 14))
  have h_lam__law_pair_right : AtX P w K mg base fun X => LamOk X (caK K) (lamC K lamM0) (lamP K lamM0) (("_law_pair_right" : PySem.Str) ++ ".<locals>." ++ "<lambda>") := at_lam hL rfl ht 0
  have h_mtk_Frac_quotient_divisor : AtX P w K mg base fun X => MtKw X (caK K) 5 0 "quotient" ["divisor"] [0, 1] [] sp_Frac_quotientX := at_mtK (He.cls_ok (c.fc 2)) (He.meth_ok (c.fc 57)) oK_Frac_quotientX_1divisor
  have o__law_pair_right : FnD P w K mg base (caK K) 9 (He.ga K "_law_pair_right") [] sp__law_pair_right := ok__law_pair_right F__law_pair_right (lam_code hL X Y 0) h__law_frac h_no_repr h_Frac_repr h_Frac_mul h__law_pair h__law_times h__law_share h_Frac_quotient h_caught h_lam__law_pair_right h_mtk_Frac_quotient_divisor
  have h_Frac_eq : AtX P w K mg base fun X => CmpOwnOk X (caK K) 1 "__eq__" (tl [(0, sp_Frac_eq)]) tgs := at_cmp (at_mt (He.cls_ok (c.fc 2)) (He.meth_ok (c.fc 61)) o_Frac_eq) (ckNs_ok (ckAll_at c.ck 15))
  have h_lam__law_wrong_right : AtX P w K mg base fun X => LamOk X (caK K) (lamC K lamM1) (lamP K lamM1) (("_law_wrong_right" : PySem.Str) ++ ".<locals>." ++ "<lambda>") := at_lam hL rfl ht 1
  have h_sys : AtX P w K mg base fun X => SysOk X := at_sys (ckAll_at c.ck 16)
  have o__law_wrong_right : FnD P w K mg base (caK K) 31 (He.ga K "_law_wrong_right") [] sp__law_wrong_right := ok__law_wrong_right F__law_wrong_right (lam_code hL X Y 1) h__law_frac h_Frac_eq h_Frac_quotient h_caught h_lam__law_wrong_right h_no_repr h_Frac_repr h_sys h_mk_Frac
  have h_no_range : AtX P w K mg base fun X => X.mg "range" = none := at_free (He.free_ok X G (c.fc 62))
  have h__law_number : AtX P w K mg base fun X => Fn X (caK K) 2 "_law_number" [] sp__law_number := at_fn (He.glo_ok X G (c.fc 63)) (keep_of F__law_number) o__law_number
  have h__law_wrong_right : AtX P w K mg base fun X => Fn X (caK K) 31 "_law_wrong_right" [] sp__law_wrong_right := at_fn (He.glo_ok X G (c.fc 64)) (keep_of F__law_wrong_right) o__law_wrong_right
  have h__law_pair_right : AtX P w K mg base fun X => Fn X (caK K) 9 "_law_pair_right" [] sp__law_pair_right := at_fn (He.glo_ok X G (c.fc 65)) (keep_of F__law_pair_right) o__law_pair_right
  have h_no_all : AtX P w K mg base fun X => X.mg "all" = none := at_free (He.free_ok X G (c.fc 66))
  have o__law_right : FnD P w K mg base (caK K) 32 (He.ga K "_law_right") [] sp__law_right := ok__law_right F__law_right h_no_range h__law_number h__law_low h__law_wrong_right h__law_pair_right h_no_all
  have h_no_min : AtX P w K mg base fun X => X.mg "min" = none := at_free (He.free_ok X G (c.fc 67))
  have h__law_cell : AtX P w K mg base fun X => Fn X (caK K) 1 "_law_cell" [] sp__law_cell := at_fn (He.glo_ok X G (c.fc 68)) (keep_of F__law_cell) o__law_cell
  have h__law_pool : AtX P w K mg base fun X => Fn X (caK K) 1 "_law_pool" [] sp__law_pool := at_fn (He.glo_ok X G (c.fc 69)) (keep_of F__law_pool) o__law_pool
  have h__law_right : AtX P w K mg base fun X => Fn X (caK K) 32 "_law_right" [] sp__law_right := at_fn (He.glo_ok X G (c.fc 70)) (keep_of F__law_right) o__law_right
  exact ok_law F_law h_no_range h_no_len h_no_min h_no_max h__law_cell h__law_pool h__law_right h_no_all
end TS
open PySem PySem.W PySem.Calls PyProof.Rows
theorem PySem.Challenge.cw_tonestacks_k03_products_and_quotients_holds : PySem.Challenge.rw_tonestacks_k03_products_and_quotients.Holds := by
  w_on; o_law
  refine HandSHeadRun.head_any (r := OpenLaw.row PySem.Challenge.rw_tonestacks_k03_products_and_quotients) (q := view (OpenLaw.row PySem.Challenge.rw_tonestacks_k03_products_and_quotients).prog [55]) (H := TS.hk) (ob := TS.ob) (M := 20000) (loose := TS.names) (d := HandSHeadRun.topDef (OpenLaw.row PySem.Challenge.rw_tonestacks_k03_products_and_quotients).prog 55) (kwd := []) TS.ob_eq
    (by kernel_rfl) (fun s => by kernel_rfl) TS.run (by kernel_rfl) (by kernel_rfl) (by kernel_rfl) (by rfl) (by first | assumption | decide +kernel) (by decide +kernel) ⟨rfl, rfl, rfl, rfl, rfl, by decide +kernel⟩ ?hw ?hc
  case hw => w_witness2
  case hc =>
    refine TS.walk_ofT (l := PySem.Challenge.rw_tonestacks_k03_products_and_quotients) (n := 63) (k := 33) (x := "_law_script") rfl (by decide) (by kernel_rfl) ⟨⟨rfl, by decide, by decide⟩, fun _ => rfl⟩ ?F
    intro w mg fa h Y G hmg0
    obtain ⟨K, Kt, KX, KY, c, hL⟩ := Y
    have hmg : mg ("law" : PySem.Str) = some (.ref fa) := by
      have e : (HandSHeadRun.topDef (OpenLaw.row PySem.Challenge.rw_tonestacks_k03_products_and_quotients).prog 55).name = ("law" : PySem.Str) := by kernel_rfl
      rw [← e]
      exact hmg0
    obtain ⟨fd, hb, hF⟩ := TS.facts (P := (PySem.Challenge.rw_tonestacks_k03_products_and_quotients).prog) (w := w) KX KY hL G hmg ⟨by kernel_rfl, by kernel_rfl⟩ c
    exact ⟨K, fd, TS.lamCs TS.lams K, TS.toSp K (TS.caK K) TS.sp_law, KX, TS.codesAt_of hL KX KY, hb, fun H F a ns hl ht hF hR hS => TS.law_spT TS.law_end rfl H F a ns hl ht hF hR hS, hF⟩
