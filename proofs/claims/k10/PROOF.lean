import PyProof.Rows.All
import Wide.All
import OpenK.AllK
import Wide.FinOn
import HandS.ForMost
import HandS.Evl
import HandS.Deep
import HandS.IsInst
import HandS.Codes
import HandS.Flow
import HandS.Walk
import HandS.ForExc
import HandS.Wide
import KE.KDictKeyed
import KE.KDictDisplayH
import HandS.SortOrd
import PyProof.Rows.RuleB_bool
import HandS.ExcInit
import HandS.ExcIs
import HandS.ExcField
import HandS.SuiteRaise
import HandS.HotCalls
import KE.KExcIs
import HandS.ExcInitHot
import HandS.SetFor
import HandS.Comp
import HandS.Ends
import HandS.RaiseFrom
import HandS.Style
import PyProof.StrOps2
import KE.SortData
import HandS.Lambda
import HandS.EndTab
import HandS.EndOwn
import PySem.Challenge.RW_eitheror_k10_promises_by_hand
set_option Elab.async false
set_option linter.all false
set_option maxRecDepth 100000
set_option maxHeartbeats 4000000
namespace DL
open PySem L2

/-! ## data: what a value tells, without addresses -/
inductive D where
  | non
  | bl (b : Bool)
  | int (i : Int)
  | str (s : Str)
  | tup (xs : List D)
  | lst (xs : List D)
  | dki (kvs : List (Int × D))
  | dkw (kvs : List ((Int × Bool) × D))
  | ins (c : Nat) (fs : List D)
  /-- the script -/
  | scr (ns : List Int)
  /-- the exception that is handled, of class c -/
  | exc (c : Nat)
  /-- a function made while the program runs -/
  | fn (k : Nat)
/-- data that the running def owns, and may change in place -/
inductive O where
  | fz (d : D)
  | lst (os : List O)
  | dki (kvs : List (Int × D))
  | dkw (kvs : List ((Int × Bool) × D))
  | ins (c : Nat) (os : List O)
  /-- the instance at a while its __init__ runs -/
  | slf (a : Addr) (c : Nat) (os : List O)
  /-- the exception that is handled, its fields owned -/
  | exc (c : Nat) (os : List O)
mutual
def O.frz : O → D
  | .fz d => d
  | .lst os => .lst (O.frzL os)
  | .dki kvs => .dki kvs
  | .dkw kvs => .dkw kvs
  | .ins c os => .ins c (O.frzL os)
  | .slf _ c os => .ins c (O.frzL os)
  | .exc c _ => .exc c
def O.frzL : List O → List D
  | [] => []
  | o :: os => O.frz o :: O.frzL os
end
theorem O.frzL_eq (os : List O) : O.frzL os = os.map O.frz := by
  induction os with
  | nil => rfl
  | cons o os ih => simp [O.frzL, ih]

/-- an answer of an expression: frozen data, something owned by a slot, something new -/
inductive R where
  | fz (d : D)
  | bor (o : O)
  | new (o : O)
inductive Res (α : Type) where
  | ok (a : α)
  | ex (c : Nat) (ds : List O)
  | bad
def Res.bind {α β : Type} (r : Res α) (k : α → Res β) : Res β :=
  match r with
  | .ok a => k a
  | .ex c ds => .ex c ds
  | .bad => .bad
@[simp] theorem Res.bind_ok {α β : Type} (a : α) (k : α → Res β) : (Res.ok a).bind k = k a := rfl
@[simp] theorem Res.bind_ex {α β : Type} (c : Nat) (ds : List O) (k : α → Res β) : (Res.ex c ds : Res α).bind k = .ex c ds := rfl
@[simp] theorem Res.bind_bad {α β : Type} (k : α → Res β) : (Res.bad : Res α).bind k = .bad := rfl
def R.view : R → D
  | .fz d => d
  | .bor o => o.frz
  | .new o => o.frz
def R.toD : R → Option D
  | .fz d => some d
  | .new o => some o.frz
  | .bor _ => none
abbrev Env := List (Option O)

/-- the classes of the text: where each stands, its fields in the order of their first store -/
structure CT where
  C : Nat → Addr
  /-- at a stands the exception that is handled, of class c, its dict d -/
  x : Addr → Nat → Option Addr → Prop := fun _ _ _ => False
  /-- at a stands, in such a heap, the function k -/
  fn : Nat → Hp → Addr → Prop := fun _ _ _ => False
def fsOf : Nat → List Str
  | 0 => ["names", "rows"]
  | 1 => ["choice"]
  | 2 => ["there", "back"]
  | 3 => ["words", "links"]
  | 4 => ["torn"]
  | 5 => ["place"]
  | _ => []
abbrev CT.fs (_ : CT) : Nat → List Str := fsOf

def wkey (k : Int × Bool) : NestedKey := .tup [.num k.1, .num (if k.2 then 1 else 0)]
theorem wkey_inj {a b : Int × Bool} (h : wkey a = wkey b) : a = b := by
  obtain ⟨i, x⟩ := a
  obtain ⟨j, y⟩ := b
  unfold wkey at h
  injection h with h
  injection h with h1 h2
  injection h1 with h1
  injection h2 with h2 _
  injection h2 with h2
  simp only at h1 h2
  subst h1
  cases x <;> cases y <;> simp_all
/-- the object at p is o -/
abbrev exO (p : Addr) (o : Obj) : HO := .ext fun h => h.get? p = some o

structure Pw where
  K : PySem.W.Frag
  T : CT
  P : Program
  w : World

mutual
/-- v tells d, over the (frozen) heap G -/
inductive Is (p : Pw) (G : Hp) : V → D → Prop
  | non : Is p G .non .non
  | bl (b : Bool) : Is p G (.bl b) (.bl b)
  | int (i : Int) : Is p G (.int i) (.int i)
  | str (s : Str) : Is p G (.str s) (.str s)
  | tup {a : Addr} {vs : List V} {ds : List D} : SqT p.K G a vs → IsL p G vs ds → Is p G (.ref a) (.tup ds)
  | lst {a : Addr} {vs : List V} {ds : List D} : G a = some (.lst vs) → IsL p G vs ds → Is p G (.ref a) (.lst ds)
  | scr {a : Addr} {ns : List Int} : SqL p.K G a (ns.map V.int) → Is p G (.ref a) (.scr ns)
  | dki {a : Addr} {kvs : List (Key × V)} {ds : List (Int × D)} : G a = some (.dK kvs) → IsI p G kvs ds → Is p G (.ref a) (.dki ds)
  | dkw {a : Addr} {o : Obj} {es : Array DictEntry} {ep : Nat} {xs : List (NestedKey × Addr × Value)} {ds : List ((Int × Bool) × D)} : G a = some (exO a o) → (a == sysModules) = false → o.ExactDict → o.data = .dict es ep →
      es.toList = xs.map (entryOfKey (nestedKind p.P p.w)) → IsE p G xs ds → (ds.map (·.1)).Nodup → ds.length ≤ 1000000 → Is p G (.ref a) (.dkw ds)
  | ins {a dx : Addr} {c : Nat} {vs : List V} {ds : List D} : G a = some (.ins (p.T.C c) dx ((p.T.fs c).zip vs)) → vs.length = (p.T.fs c).length → IsL p G vs ds → Is p G (.ref a) (.ins c ds)
  | exc0 {a : Addr} {c : Nat} : p.T.x a c none → Is p G (.ref a) (.exc c)
  | exc1 {a dd : Addr} {c : Nat} {fs : List (Str × V)} : p.T.x a c (some dd) → G dd = some (.xd fs) → Is p G (.ref a) (.exc c)
  | fn {a : Addr} {k : Nat} : (∀ G', Evl.Ex G G' → p.T.fn k G' a) → Is p G (.ref a) (.fn k)
inductive IsL (p : Pw) (G : Hp) : List V → List D → Prop
  | nil : IsL p G [] []
  | cons {v : V} {vs : List V} {d : D} {ds : List D} : Is p G v d → IsL p G vs ds → IsL p G (v :: vs) (d :: ds)
inductive IsI (p : Pw) (G : Hp) : List (Key × V) → List (Int × D) → Prop
  | nil : IsI p G [] []
  | cons {i : Int} {v : V} {vs : List (Key × V)} {d : D} {ds : List (Int × D)} : Is p G v d → IsI p G vs ds → IsI p G ((.inl i, v) :: vs) ((i, d) :: ds)
inductive IsE (p : Pw) (G : Hp) : List (NestedKey × Addr × Value) → List ((Int × Bool) × D) → Prop
  | nil : IsE p G [] []
  | cons {k : Int × Bool} {a : Addr} {u : Value} {v : V} {xs : List (NestedKey × Addr × Value)} {d : D} {ds : List ((Int × Bool) × D)} : SqT p.K G a [.int k.1, .bl k.2] → RelV v u → Is p G v d → IsE p G xs ds → IsE p G ((wkey k, a, u) :: xs) ((k, d) :: ds)
end
abbrev Ex := Evl.Ex
/-- no tuple -/
def _root_.L2.HO.nt : HO → Bool
  | .tup _ => false
  | .frz _ _ => false
  | _ => true
theorem sqT_mono {K : PySem.W.Frag} {G G' : Hp} {a : Addr} {xs : List V} (e : Ex G G') (h : SqT K G a xs) : SqT K G' a xs := Evl.ex_t e h
theorem sqL_mono {K : PySem.W.Frag} {G G' : Hp} {a : Addr} {xs : List V} (e : Ex G G') (h : SqL K G a xs) : SqL K G' a xs := Evl.ex_l e h
mutual
theorem Is.mono {p : Pw} {G G' : Hp} (e : Ex G G') : ∀ {v : V} {d : D}, Is p G v d → Is p G' v d
  | _, _, .non => .non
  | _, _, .bl b => .bl b
  | _, _, .int i => .int i
  | _, _, .str s => .str s
  | _, _, .tup h r => .tup (sqT_mono e h) (IsL.mono e r)
  | _, _, .lst h r => .lst (e _ _ h) (IsL.mono e r)
  | _, _, .scr h => .scr (sqL_mono e h)
  | _, _, .dki h r => .dki (e _ _ h) (IsI.mono e r)
  | _, _, .dkw h a b c d r n z => .dkw (e _ _ h) a b c d (IsE.mono e r) n z
  | _, _, .ins h l r => .ins (e _ _ h) l (IsL.mono e r)
  | _, _, .fn h => .fn fun G2 e2 => h G2 (e.trans e2)
  | _, _, .exc0 h => .exc0 h
  | _, _, .exc1 h q => .exc1 h (e _ _ q)
theorem IsL.mono {p : Pw} {G G' : Hp} (e : Ex G G') : ∀ {vs : List V} {ds : List D}, IsL p G vs ds → IsL p G' vs ds
  | _, _, .nil => .nil
  | _, _, .cons h r => .cons (Is.mono e h) (IsL.mono e r)
theorem IsI.mono {p : Pw} {G G' : Hp} (e : Ex G G') : ∀ {vs : List (Key × V)} {ds : List (Int × D)}, IsI p G vs ds → IsI p G' vs ds
  | _, _, .nil => .nil
  | _, _, .cons h r => .cons (Is.mono e h) (IsI.mono e r)
theorem IsE.mono {p : Pw} {G G' : Hp} (e : Ex G G') : ∀ {vs : List (NestedKey × Addr × Value)} {ds : List ((Int × Bool) × D)}, IsE p G vs ds → IsE p G' vs ds
  | _, _, .nil => .nil
  | _, _, .cons h r i s => .cons (sqT_mono e h) r (Is.mono e i) (IsE.mono e s)
end
theorem IsL.length {p : Pw} {G : Hp} : ∀ {vs : List V} {ds : List D}, IsL p G vs ds → vs.length = ds.length
  | _, _, .nil => rfl
  | _, _, .cons _ r => congrArg (· + 1) (IsL.length r)
theorem IsL.get {p : Pw} {G : Hp} : ∀ {vs : List V} {ds : List D} {i : Nat} {d : D}, IsL p G vs ds → ds[i]? = some d → ∃ v, vs[i]? = some v ∧ Is p G v d
  | _, _, _, _, .nil, e => by simp at e
  | _, _, 0, _, .cons h _, e => by simp at e; subst e; exact ⟨_, rfl, h⟩
  | _, _, i + 1, d, .cons _ r, e => by
    obtain ⟨v, h1, h2⟩ := IsL.get (i := i) (d := d) r (by simpa using e)
    exact ⟨v, by simpa using h1, h2⟩
theorem IsL.getV {p : Pw} {G : Hp} : ∀ {vs : List V} {ds : List D} {i : Nat} {v : V}, IsL p G vs ds → vs[i]? = some v → ∃ d, ds[i]? = some d ∧ Is p G v d
  | _, _, _, _, .nil, e => by simp at e
  | _, _, 0, _, .cons h _, e => by simp at e; subst e; exact ⟨_, rfl, h⟩
  | _, _, i + 1, v, .cons _ r, e => by
    obtain ⟨d, h1, h2⟩ := IsL.getV (i := i) (v := v) r (by simpa using e)
    exact ⟨d, by simpa using h1, h2⟩
theorem IsL.append {p : Pw} {G : Hp} : ∀ {vs ws : List V} {ds es : List D}, IsL p G vs ds → IsL p G ws es → IsL p G (vs ++ ws) (ds ++ es)
  | _, _, _, _, .nil, s => s
  | _, _, _, _, .cons h r, s => .cons h (IsL.append r s)

mutual
/-- v tells o, what it owns stands in H at the addresses as, what is frozen in G -/
inductive Ow (p : Pw) (G H : Hp) : V → O → List Addr → Prop
  | fz {v : V} {d : D} : Is p G v d → Ow p G H v (.fz d) []
  | lst {a : Addr} {vs : List V} {os : List O} {as : List Addr} : H a = some (.lst vs) → G a = none → a ∉ as → OwL p G H vs os as → Ow p G H (.ref a) (.lst os) (a :: as)
  | dki {a : Addr} {kvs : List (Key × V)} {ds : List (Int × D)} : H a = some (.dK kvs) → G a = none → IsI p G kvs ds → Ow p G H (.ref a) (.dki ds) [a]
  | dkw {a : Addr} {o : Obj} {es : Array DictEntry} {ep : Nat} {xs : List (NestedKey × Addr × Value)} {ds : List ((Int × Bool) × D)} : H a = some (exO a o) → G a = none → (a == sysModules) = false → o.ExactDict → o.data = .dict es ep →
      es.toList = xs.map (entryOfKey (nestedKind p.P p.w)) → IsE p G xs ds → (ds.map (·.1)).Nodup → ds.length ≤ 1000000 → Ow p G H (.ref a) (.dkw ds) [a]
  | ins {a dx : Addr} {c : Nat} {vs : List V} {os : List O} {as : List Addr} : H a = some (.ins (p.T.C c) dx ((p.T.fs c).zip vs)) → G a = none → vs.length ≤ (p.T.fs c).length → a ∉ as → OwL p G H vs os as → Ow p G H (.ref a) (.ins c os) (a :: as)
  | slf {a dx : Addr} {c : Nat} {vs : List V} {os : List O} {as : List Addr} : H a = some (.ins (p.T.C c) dx ((p.T.fs c).zip vs)) → G a = none → vs.length ≤ (p.T.fs c).length → a ∉ as → OwL p G H vs os as → Ow p G H (.ref a) (.slf a c os) (a :: as)
  | exc {a dd : Addr} {c : Nat} {vs : List V} {os : List O} {as : List Addr} : p.T.x a c (some dd) → H dd = some (.xd ((p.T.fs c).zip vs)) → G dd = none → vs.length = (p.T.fs c).length → dd ∉ as → OwL p G H vs os as → Ow p G H (.ref a) (.exc c os) (dd :: as)
inductive OwL (p : Pw) (G H : Hp) : List V → List O → List Addr → Prop
  | nil : OwL p G H [] [] []
  | cons {v : V} {vs : List V} {o : O} {os : List O} {as bs : List Addr} : Ow p G H v o as → OwL p G H vs os bs → (∀ a ∈ as, a ∉ bs) → OwL p G H (v :: vs) (o :: os) (as ++ bs)
end
mutual
theorem Ow.at {p : Pw} {G H : Hp} : ∀ {v : V} {o : O} {as : List Addr}, Ow p G H v o as → ∀ a ∈ as, G a = none ∧ ∃ u, H a = some u ∧ u.nt = true
  | _, _, _, .fz _, a, h => by cases h
  | _, _, _, .lst h g _ r, a, m => by
    rcases List.mem_cons.mp m with e | m
    · subst e; exact ⟨g, _, h, rfl⟩
    · exact OwL.at r a m
  | _, _, _, .dki h g _, a, m => by
    rcases List.mem_cons.mp m with e | m
    · subst e; exact ⟨g, _, h, rfl⟩
    · cases m
  | _, _, _, .dkw h g _ _ _ _ _ _ _, a, m => by
    rcases List.mem_cons.mp m with e | m
    · subst e; exact ⟨g, _, h, rfl⟩
    · cases m
  | _, _, _, .ins h g _ _ r, a, m => by
    rcases List.mem_cons.mp m with e | m
    · subst e; exact ⟨g, _, h, rfl⟩
    · exact OwL.at r a m
  | _, _, _, .slf h g _ _ r, a, m => by
    rcases List.mem_cons.mp m with e | m
    · subst e; exact ⟨g, _, h, rfl⟩
    · exact OwL.at r a m
  | _, _, _, .exc _ h g _ _ r, a, m => by
    rcases List.mem_cons.mp m with e | m
    · subst e; exact ⟨g, _, h, rfl⟩
    · exact OwL.at r a m
theorem OwL.at {p : Pw} {G H : Hp} : ∀ {vs : List V} {os : List O} {as : List Addr}, OwL p G H vs os as → ∀ a ∈ as, G a = none ∧ ∃ u, H a = some u ∧ u.nt = true
  | _, _, _, .nil, a, h => by cases h
  | _, _, _, .cons h r _, a, m => by
    rcases List.mem_append.mp m with m | m
    · exact Ow.at h a m
    · exact OwL.at r a m
end
mutual
/-- the frozen heap grows, what is owned stays -/
theorem Ow.mono {p : Pw} {G H G' H' : Hp} (e : Ex G G') : ∀ {v : V} {o : O} {as : List Addr}, Ow p G H v o as → (∀ a ∈ as, G' a = none ∧ H' a = H a) → Ow p G' H' v o as
  | _, _, _, .fz h, _ => .fz (h.mono e)
  | _, _, _, .lst h g n r, k => .lst ((k _ List.mem_cons_self).2.trans h) (k _ List.mem_cons_self).1 n (OwL.mono e r fun a m => k a (List.mem_cons_of_mem _ m))
  | _, _, _, .dki h g r, k => .dki ((k _ List.mem_cons_self).2.trans h) (k _ List.mem_cons_self).1 (r.mono e)
  | _, _, _, .dkw h g a b c d r n z, k => .dkw ((k _ List.mem_cons_self).2.trans h) (k _ List.mem_cons_self).1 a b c d (r.mono e) n z
  | _, _, _, .ins h g l n r, k => .ins ((k _ List.mem_cons_self).2.trans h) (k _ List.mem_cons_self).1 l n (OwL.mono e r fun a m => k a (List.mem_cons_of_mem _ m))
  | _, _, _, .slf h g l n r, k => .slf ((k _ List.mem_cons_self).2.trans h) (k _ List.mem_cons_self).1 l n (OwL.mono e r fun a m => k a (List.mem_cons_of_mem _ m))
  | _, _, _, .exc q h g l n r, k => .exc q ((k _ List.mem_cons_self).2.trans h) (k _ List.mem_cons_self).1 l n (OwL.mono e r fun a m => k a (List.mem_cons_of_mem _ m))
theorem OwL.mono {p : Pw} {G H G' H' : Hp} (e : Ex G G') : ∀ {vs : List V} {os : List O} {as : List Addr}, OwL p G H vs os as → (∀ a ∈ as, G' a = none ∧ H' a = H a) → OwL p G' H' vs os as
  | _, _, _, .nil, _ => .nil
  | _, _, _, .cons h r d, k => .cons (Ow.mono e h fun a m => k a (List.mem_append_left _ m)) (OwL.mono e r fun a m => k a (List.mem_append_right _ m)) d
end
mutual
/-- every instance in o is whole -/
def O.whole : O → Bool
  | .fz _ => true
  | .lst os => O.wholeL os
  | .dki _ => true
  | .dkw _ => true
  | .ins c os => (os.length == (fsOf c).length) && O.wholeL os
  | .slf _ _ _ => false
  | .exc _ os => O.wholeL os
def O.wholeL : List O → Bool
  | [] => true
  | o :: os => O.whole o && O.wholeL os
end
theorem OwL.length {p : Pw} {G H : Hp} : ∀ {vs : List V} {os : List O} {as : List Addr}, OwL p G H vs os as → vs.length = os.length
  | _, _, _, .nil => rfl
  | _, _, _, .cons _ r _ => congrArg (· + 1) (OwL.length r)
mutual
/-- what is owned is frozen -/
theorem Ow.frz {p : Pw} {G H G' : Hp} (e : Ex G G') : ∀ {v : V} {o : O} {as : List Addr}, Ow p G H v o as → (∀ a ∈ as, G' a = H a) → O.whole o = true → Is p G' v o.frz
  | _, _, _, .fz h, _, _ => h.mono e
  | _, _, _, .lst h g n r, k, w => .lst ((k _ List.mem_cons_self).trans h) (OwL.frz e r (fun a m => k a (List.mem_cons_of_mem _ m)) (by simpa [O.whole] using w))
  | _, _, _, .dki h g r, k, _ => .dki ((k _ List.mem_cons_self).trans h) (r.mono e)
  | _, _, _, .dkw h g a b c d r n z, k, _ => .dkw ((k _ List.mem_cons_self).trans h) a b c d (r.mono e) n z
  | _, _, _, .ins h g l n r, k, w => by
    simp only [O.whole, Bool.and_eq_true, beq_iff_eq] at w
    exact .ins ((k _ List.mem_cons_self).trans h) (r.length.trans w.1) (OwL.frz e r (fun a m => k a (List.mem_cons_of_mem _ m)) w.2)
  | _, _, _, .slf .., k, w => by simp [O.whole] at w
  | _, _, _, .exc q h g l n r, k, w => .exc1 q ((k _ List.mem_cons_self).trans h)
theorem OwL.frz {p : Pw} {G H G' : Hp} (e : Ex G G') : ∀ {vs : List V} {os : List O} {as : List Addr}, OwL p G H vs os as → (∀ a ∈ as, G' a = H a) → O.wholeL os = true → IsL p G' vs (O.frzL os)
  | _, _, _, .nil, _, _ => .nil
  | _, _, _, .cons h r _, k, w => by
    simp only [O.wholeL, Bool.and_eq_true] at w
    exact .cons (Ow.frz e h (fun a m => k a (List.mem_append_left _ m)) w.1) (OwL.frz e r (fun a m => k a (List.mem_append_right _ m)) w.2)
end

/-! ## growth -/
/-- from (G, H) to (G', H'): all stands; nothing that was there is newly frozen -/
structure Grow (G H G' H' : Hp) : Prop where
  g : Ex G G'
  gh : Ex G' H'
  h : Ex H H'
  keep : ∀ a o, H a = some o → o.nt = true → G a = none → G' a = none
theorem Grow.refl {G H : Hp} (e : Ex G H) : Grow G H G H := ⟨Evl.Ex.refl _, e, Evl.Ex.refl _, fun _ _ _ _ h => h⟩
theorem Grow.trans {G H G1 H1 G2 H2 : Hp} (a : Grow G H G1 H1) (b : Grow G1 H1 G2 H2) : Grow G H G2 H2 :=
  ⟨a.g.trans b.g, b.gh, a.h.trans b.h, fun x o h t n => b.keep x o (a.h x o h) t (a.keep x o h t n)⟩
/-- H alone grows -/
theorem Grow.heap {G H G1 H1 H2 : Hp} (a : Grow G H G1 H1) (e : Ex H1 H2) : Grow G H G1 H2 := ⟨a.g, a.gh.trans e, a.h.trans e, a.keep⟩
/-- a new object, frozen -/
theorem Grow.new {G H : Hp} {a : Addr} {o : HO} (e : Ex G H) (n : H a = none) : Grow G H (upd G a o) (upd H a o) := by
  have ng : G a = none := Evl.fresh_back e n
  refine ⟨Evl.Ex.new ng, fun b u h => ?_, Evl.Ex.new n, fun b u h _ g => ?_⟩
  · by_cases q : b = a
    · subst q; rw [upd_same] at h ⊢; exact h
    · rw [upd_ne q] at h ⊢; exact e b u h
  · rw [upd_ne (ne_of_none h n)]; exact g
theorem Grow.own {G H G1 H1 : Hp} (a : Grow G H G1 H1) {v : V} {o : O} {as : List Addr} {p : Pw} (h : Ow p G H v o as) : Ow p G1 H1 v o as :=
  h.mono a.g fun x m => by
    obtain ⟨g, u, e, t⟩ := h.at x m
    exact ⟨a.keep x u e t g, (a.h x u e).trans e.symm⟩
/-- freezing addresses: G with H's objects at as -/
def frzAt (G H : Hp) (as : List Addr) : Hp := fun a => if a ∈ as then H a else G a
theorem frzAt_in {G H : Hp} {as : List Addr} {a : Addr} (h : a ∈ as) : frzAt G H as a = H a := by unfold frzAt; rw [if_pos h]
theorem frzAt_out {G H : Hp} {as : List Addr} {a : Addr} (h : a ∉ as) : frzAt G H as a = G a := by unfold frzAt; rw [if_neg h]
theorem frzAt_ex {G H : Hp} {as : List Addr} (n : ∀ a ∈ as, G a = none) : Ex G (frzAt G H as) := fun a o h => by
  by_cases m : a ∈ as
  · rw [n a m] at h; cases h
  · rw [frzAt_out m]; exact h
theorem frzAt_h {G H : Hp} {as : List Addr} (e : Ex G H) : Ex (frzAt G H as) H := fun a o h => by
  by_cases m : a ∈ as
  · rw [frzAt_in m] at h; exact h
  · rw [frzAt_out m] at h; exact e a o h
theorem Grow.frz {Gs Hs G H : Hp} {as : List Addr} (a : Grow Gs Hs G H) (n : ∀ x ∈ as, G x = none) (f : ∀ x ∈ as, Hs x = none) : Grow Gs Hs (frzAt G H as) H :=
  ⟨a.g.trans (frzAt_ex n), frzAt_h a.gh, a.h, fun x o h t g => by
    by_cases m : x ∈ as
    · rw [f x m] at h; cases h
    · rw [frzAt_out m]; exact a.keep x o h t g⟩

/-! ## slots -/
inductive EnvL (p : Pw) (G H : Hp) : L2.St → Env → List Addr → Prop
  | nil : EnvL p G H [] [] []
  | skip {x : Option V} {σ : L2.St} {env : Env} {as : List Addr} : EnvL p G H σ env as → EnvL p G H (x :: σ) (none :: env) as
  | cons {v : V} {o : O} {σ : L2.St} {env : Env} {as bs : List Addr} : Ow p G H v o as → EnvL p G H σ env bs → (∀ a ∈ as, a ∉ bs) → EnvL p G H (some v :: σ) (some o :: env) (as ++ bs)
theorem EnvL.at {p : Pw} {G H : Hp} : ∀ {σ : L2.St} {env : Env} {as : List Addr}, EnvL p G H σ env as → ∀ a ∈ as, G a = none ∧ ∃ u, H a = some u ∧ u.nt = true
  | _, _, _, .nil, a, h => by cases h
  | _, _, _, .skip r, a, m => EnvL.at r a m
  | _, _, _, .cons h r _, a, m => by
    rcases List.mem_append.mp m with m | m
    · exact Ow.at h a m
    · exact EnvL.at r a m
theorem EnvL.mono {p : Pw} {G H G' H' : Hp} (e : Ex G G') : ∀ {σ : L2.St} {env : Env} {as : List Addr}, EnvL p G H σ env as → (∀ a ∈ as, G' a = none ∧ H' a = H a) → EnvL p G' H' σ env as
  | _, _, _, .nil, _ => .nil
  | _, _, _, .skip r, k => .skip (EnvL.mono e r k)
  | _, _, _, .cons h r d, k => .cons (h.mono e fun a m => k a (List.mem_append_left _ m)) (EnvL.mono e r fun a m => k a (List.mem_append_right _ m)) d
theorem EnvL.grow {p : Pw} {G H G' H' : Hp} (g : Grow G H G' H') {σ : L2.St} {env : Env} {as : List Addr} (h : EnvL p G H σ env as) : EnvL p G' H' σ env as :=
  h.mono g.g fun x m => by
    obtain ⟨n, u, e, t⟩ := h.at x m
    exact ⟨g.keep x u e t n, (g.h x u e).trans e.symm⟩
theorem EnvL.get {p : Pw} {G H : Hp} : ∀ {σ : L2.St} {env : Env} {as : List Addr} {i : Nat} {o : O}, EnvL p G H σ env as → env[i]? = some (some o) → ∃ v bs, σ[i]? = some (some v) ∧ Ow p G H v o bs ∧ ∀ b ∈ bs, b ∈ as
  | _, _, _, _, _, .nil, e => by simp at e
  | _, _, _, 0, _, .skip _, e => by simp at e
  | _, _, _, i + 1, o, .skip r, e => by
    obtain ⟨v, bs, h1, h2, h3⟩ := EnvL.get (i := i) (o := o) r (by simpa using e)
    exact ⟨v, bs, by simpa using h1, h2, h3⟩
  | _, _, _, 0, _, .cons h r d, e => by
    simp at e; subst e
    exact ⟨_, _, rfl, h, fun b m => List.mem_append_left _ m⟩
  | _, _, _, i + 1, o, .cons h r d, e => by
    obtain ⟨v, bs, h1, h2, h3⟩ := EnvL.get (i := i) (o := o) r (by simpa using e)
    exact ⟨v, bs, by simpa using h1, h2, fun b m => List.mem_append_right _ (h3 b m)⟩
/-- a slot is stored -/
theorem EnvL.set {p : Pw} {G H : Hp} {v : V} {o : O} {cs : List Addr} (ho : Ow p G H v o cs) : ∀ {σ : L2.St} {env : Env} {as : List Addr} (i : Nat), EnvL p G H σ env as → (∀ c ∈ cs, c ∉ as) → ∃ as', EnvL p G H (σ.set i (some v)) (env.set i (some o)) as' ∧ ∀ a ∈ as', a ∈ as ∨ a ∈ cs
  | _, _, _, i, .nil, _ => ⟨[], .nil, fun _ m => nomatch m⟩
  | _, _, _, 0, .skip r, n => ⟨_, .cons ho r n, fun a m => (List.mem_append.mp m).symm⟩
  | _, _, _, i + 1, .skip r, n => by
    obtain ⟨as', h1, h2⟩ := EnvL.set ho i r n
    exact ⟨as', .skip h1, h2⟩
  | _, _, _, 0, .cons h r d, n => ⟨_, .cons ho r (fun a m q => n a m (List.mem_append_right _ q)), fun a m => (List.mem_append.mp m).elim .inr fun q => .inl (List.mem_append_right _ q)⟩
  | _, _, _, i + 1, .cons (as := as) (bs := bs) h r d, n => by
    obtain ⟨as', h1, h2⟩ := EnvL.set ho i r (fun c m q => n c m (List.mem_append_right _ q))
    refine ⟨_, .cons h h1 (fun a m q => ?_), fun a m => ?_⟩
    · rcases h2 a q with q | q
      · exact d a m q
      · exact n a q (List.mem_append_left _ m)
    · rcases List.mem_append.mp m with m | m
      · exact .inl (List.mem_append_left _ m)
      · exact (h2 a m).imp (fun q => List.mem_append_right _ q) id
/-- a slot is forgotten -/
theorem EnvL.drop {p : Pw} {G H : Hp} : ∀ {σ : L2.St} {env : Env} {as : List Addr} (i : Nat), EnvL p G H σ env as → ∃ as', EnvL p G H σ (env.set i none) as' ∧ ∀ a ∈ as', a ∈ as
  | _, _, _, i, .nil => ⟨[], .nil, fun _ m => nomatch m⟩
  | _, _, _, 0, .skip r => ⟨_, .skip r, fun _ m => m⟩
  | _, _, _, i + 1, .skip r => by
    obtain ⟨as', h1, h2⟩ := EnvL.drop i r
    exact ⟨as', .skip h1, h2⟩
  | _, _, _, 0, .cons h r d => ⟨_, .skip r, fun a m => List.mem_append_right _ m⟩
  | _, _, _, i + 1, .cons h r d => by
    obtain ⟨as', h1, h2⟩ := EnvL.drop i r
    refine ⟨_, .cons h h1 (fun a m q => d a m (h2 a q)), fun a m => ?_⟩
    rcases List.mem_append.mp m with m | m
    · exact List.mem_append_left _ m
    · exact List.mem_append_right _ (h2 a m)
/-- what stands in a slot, taken out: the rest owns none of it -/
theorem EnvL.take {p : Pw} {G H : Hp} : ∀ {σ : L2.St} {env : Env} {as : List Addr} {i : Nat} {o : O}, EnvL p G H σ env as → env[i]? = some (some o) → ∃ v bs as', σ[i]? = some (some v) ∧ Ow p G H v o bs ∧ EnvL p G H σ (env.set i none) as' ∧ (∀ b ∈ bs, b ∉ as') ∧ (∀ b ∈ bs, b ∈ as) ∧ ∀ a ∈ as', a ∈ as
  | _, _, _, _, _, .nil, e => by simp at e
  | _, _, _, 0, _, .skip _, e => by simp at e
  | _, _, _, i + 1, o, .skip r, e => by
    obtain ⟨v, bs, as', h1, h2, h3, h4, h5, h6⟩ := EnvL.take (i := i) (o := o) r (by simpa using e)
    exact ⟨v, bs, as', by simpa using h1, h2, .skip h3, h4, h5, h6⟩
  | _, _, _, 0, _, .cons h r d, e => by
    simp at e; subst e
    exact ⟨_, _, _, rfl, h, .skip r, d, fun b m => List.mem_append_left _ m, fun a m => List.mem_append_right _ m⟩
  | _, _, _, i + 1, o, .cons (as := as) h r d, e => by
    obtain ⟨v, bs, as', h1, h2, h3, h4, h5, h6⟩ := EnvL.take (i := i) (o := o) r (by simpa using e)
    refine ⟨v, bs, _, by simpa using h1, h2, .cons h h3 (fun a m q => d a m (h6 a q)), fun b m q => ?_, fun b m => List.mem_append_right _ (h5 b m), fun a m => ?_⟩
    · rcases List.mem_append.mp q with q | q
      · exact d b q (h5 b m)
      · exact h4 b m q
    · rcases List.mem_append.mp m with m | m
      · exact List.mem_append_left _ m
      · exact List.mem_append_right _ (h6 a m)
theorem EnvL.len {p : Pw} {G H : Hp} : ∀ {σ : L2.St} {env : Env} {as : List Addr}, EnvL p G H σ env as → σ.length = env.length
  | _, _, _, .nil => rfl
  | _, _, _, .skip r => congrArg (· + 1) (EnvL.len r)
  | _, _, _, .cons _ r _ => congrArg (· + 1) (EnvL.len r)

/-- a def runs: entered at (G0, H0), now (G, H) -/
structure SOk (p : Pw) (G0 H0 G H : Hp) (σ : L2.St) (env : Env) : Prop where
  gr : Grow G0 H0 G H
  sl : ∃ as, EnvL p G H σ env as ∧ ∀ a ∈ as, H0 a = none
theorem SOk.grow {p : Pw} {G0 H0 G H G' H' : Hp} {σ : L2.St} {env : Env} (s : SOk p G0 H0 G H σ env) (g : Grow G H G' H') : SOk p G0 H0 G' H' σ env :=
  ⟨s.gr.trans g, let ⟨as, h1, h2⟩ := s.sl; ⟨as, h1.grow g, h2⟩⟩

/-- v tells r; what is new was not in Hs -/
def RepR (p : Pw) (G H Hs : Hp) (v : V) : R → Prop
  | .fz d => Is p G v d
  | .bor o => ∃ as, Ow p G H v o as
  | .new o => ∃ as, Ow p G H v o as ∧ (∀ a ∈ as, Hs a = none) ∧ O.whole o = true
theorem RepR.grow {p : Pw} {G H Hs G' H' : Hp} {v : V} {r : R} (h : RepR p G H Hs v r) (g : Grow G H G' H') : RepR p G' H' Hs v r := by
  cases r with
  | fz d => exact Is.mono g.g h
  | bor o => obtain ⟨as, h⟩ := h; exact ⟨as, g.own h⟩
  | new o => obtain ⟨as, h, f⟩ := h; exact ⟨as, g.own h, f⟩
theorem RepR.back {p : Pw} {G H Hs Hs' : Hp} {v : V} {r : R} (h : RepR p G H Hs v r) (e : Ex Hs' Hs) : RepR p G H Hs' v r := by
  cases r with
  | fz d => exact h
  | bor o => exact h
  | new o => obtain ⟨as, h, f, w⟩ := h; exact ⟨as, h, fun a m => Evl.fresh_back e (f a m), w⟩
/-- may be seen as data -/
def R.sees : R → Bool
  | .fz _ => true
  | .bor o => O.whole o
  | .new _ => true
theorem RepR.view {p : Pw} {G H Hs : Hp} {v : V} {r : R} (h : RepR p G H Hs v r) (e : Ex G H) (w : r.sees = true) : Is p H v r.view := by
  cases r with
  | fz d => exact Is.mono e h
  | bor o => obtain ⟨as, h⟩ := h; exact h.frz e (fun _ _ => rfl) w
  | new o => obtain ⟨as, h, f, w⟩ := h; exact h.frz e (fun _ _ => rfl) w
/-- frozen at last -/
theorem RepR.frz {p : Pw} {Gs Hs G H : Hp} {v : V} {r : R} {d : D} (h : RepR p G H Hs v r) (g : Grow Gs Hs G H) (e : r.toD = some d) : ∃ G', Grow Gs Hs G' H ∧ Ex G G' ∧ Is p G' v d ∧ ∀ a o, G' a = some o → G a = some o ∨ (Hs a = none ∧ ∃ as, (∀ ro, r = .new ro → Ow p G H v ro as) ∧ a ∈ as) := by
  cases r with
  | fz d' =>
    cases e
    exact ⟨G, g, Evl.Ex.refl _, h, fun a o q => .inl q⟩
  | bor o => cases e
  | new o =>
    cases e
    obtain ⟨as, h, f, w⟩ := h
    have n : ∀ x ∈ as, G x = none := fun x m => (h.at x m).1
    refine ⟨frzAt G H as, g.frz n f, frzAt_ex n, h.frz (frzAt_ex n) (fun a m => frzAt_in m) w, fun a o q => ?_⟩
    by_cases m : a ∈ as
    · exact .inr ⟨f a m, as, fun ro q => by cases q; exact h, m⟩
    · rw [frzAt_out m] at q; exact .inl q
end DL
namespace DL
open PySem L2

/-! ## wishes -/
/-- an exception of the class c, its own fields os (none: no dict of its own); what they own was not in Hs -/
def IsX (p : Pw) (G H Hs : Hp) (cls : Value) (d : Option Addr) (c : Nat) (os : List O) : Prop :=
  cls = .ref (p.T.C c) ∧ ((os = [] ∧ d = none) ∨ ∃ dd vs as, d = some dd ∧ H dd = some (.xd ((p.T.fs c).zip vs)) ∧ G dd = none ∧ Hs dd = none ∧ vs.length = (p.T.fs c).length ∧ dd ∉ as ∧ OwL p G H vs os as ∧ ∀ a ∈ as, Hs a = none)
theorem IsX.back {p : Pw} {G H Hs Hs' : Hp} {cls : Value} {d : Option Addr} {c : Nat} {os : List O} (h : IsX p G H Hs cls d c os) (e : Ex Hs' Hs) : IsX p G H Hs' cls d c os := by
  obtain ⟨h1, h2 | ⟨dd, vs, as, q1, q2, q3, q4, q5, q6, q7, q8⟩⟩ := h
  · exact ⟨h1, .inl h2⟩
  · exact ⟨h1, .inr ⟨dd, vs, as, q1, q2, q3, Evl.fresh_back e q4, q5, q6, q7, fun a m => Evl.fresh_back e (q8 a m)⟩⟩
def WX' (p : Pw) (E : XK) (G H : Hp) (c : Nat) (ds : List O) : Prop := ∀ cls d G2 H2, Grow G H G2 H2 → IsX p G2 H2 H cls d c ds → E cls d H2
def WishG {α : Type} (p : Pw) (E : XK) (G H : Hp) (ok : α → Prop) : Res α → Prop
  | .ok a => ok a
  | .ex c ds => WX' p E G H c ds
  | .bad => False
def okR (p : Pw) (Q : VK) (G H : Hp) : R → Prop := fun r => ∀ v G2 H2, Grow G H G2 H2 → RepR p G2 H2 H v r → Q v H2
def okB (Q : Bool → Hp → Prop) (G H : Hp) : Bool → Prop := fun b => ∀ G2 H2, Grow G H G2 H2 → Q b H2
abbrev Wish (p : Pw) (Q : VK) (E : XK) (G H : Hp) : Res R → Prop := WishG p E G H (okR p Q G H)
abbrev WishB (p : Pw) (Q : Bool → Hp → Prop) (E : XK) (G H : Hp) : Res Bool → Prop := WishG p E G H (okB Q G H)
theorem WX'.grow {p : Pw} {E : XK} {G H G' H' : Hp} {c : Nat} {ds : List O} (h : WX' p E G H c ds) (g : Grow G H G' H') : WX' p E G' H' c ds :=
  fun cls d G2 H2 g2 x => h cls d G2 H2 (g.trans g2) (x.back g.h)
theorem okR.grow {p : Pw} {Q : VK} {G H G' H' : Hp} {r : R} (h : okR p Q G H r) (g : Grow G H G' H') : okR p Q G' H' r :=
  fun v G2 H2 g2 rep => h v G2 H2 (g.trans g2) (rep.back g.h)
theorem okB.grow {Q : Bool → Hp → Prop} {G H G' H' : Hp} {b : Bool} (h : okB Q G H b) (g : Grow G H G' H') : okB Q G' H' b :=
  fun G2 H2 g2 => h G2 H2 (g.trans g2)
theorem WishG.grow {α : Type} {p : Pw} {E : XK} {G H G' H' : Hp} {ok ok' : α → Prop} {r : Res α} (h : WishG p E G H ok r) (g : Grow G H G' H') (m : ∀ a, ok a → ok' a) : WishG p E G' H' ok' r := by
  cases r with
  | ok a => exact m a h
  | ex c ds => exact WX'.grow h g
  | bad => exact h

/-! ## settled answers: frozen data, or something that a slot owns -/
inductive S where
  | fz (d : D)
  | bor (o : O)
def R.st : R → S
  | .fz d => .fz d
  | .bor o => .bor o
  | .new o => .fz o.frz
def RepS (p : Pw) (G H : Hp) (v : V) : S → Prop
  | .fz d => Is p G v d
  | .bor o => ∃ as, Ow p G H v o as
theorem RepS.grow {p : Pw} {G H G' H' : Hp} {v : V} {r : S} (h : RepS p G H v r) (g : Grow G H G' H') : RepS p G' H' v r := by
  cases r with
  | fz d => exact Is.mono g.g h
  | bor o => obtain ⟨as, h⟩ := h; exact ⟨as, g.own h⟩
theorem RepR.settle {p : Pw} {Gs Hs G H : Hp} {v : V} {r : R} (h : RepR p G H Hs v r) (g : Grow Gs Hs G H) : ∃ G', Grow Gs Hs G' H ∧ RepS p G' H v r.st := by
  cases r with
  | fz d => exact ⟨G, g, h⟩
  | bor o => exact ⟨G, g, h⟩
  | new o =>
    obtain ⟨as, h, f, w⟩ := h
    have n : ∀ x ∈ as, G x = none := fun x m => (h.at x m).1
    exact ⟨frzAt G H as, g.frz n f, h.frz (frzAt_ex n) (fun a m => frzAt_in m) w⟩
def S.view : S → D
  | .fz d => d
  | .bor o => o.frz
def S.sees : S → Bool
  | .fz _ => true
  | .bor o => O.whole o
theorem RepS.see {p : Pw} {G H : Hp} {v : V} {r : S} (h : RepS p G H v r) (e : Ex G H) (w : r.sees = true) : Is p H v r.view := by
  cases r with
  | fz d => exact Is.mono e h
  | bor o => obtain ⟨as, h⟩ := h; exact h.frz e (fun _ _ => rfl) w
/-! ## expressions -/
def EvR (p : Pw) (E : L2.St → XK) (t : TE) (f : Env → Res R) : Prop :=
  ∀ G0 H0 G H σ env, SOk p G0 H0 G H σ env → ∀ Q, Wish p Q (E σ) G H (f env) → t σ H Q
def EvT (p : Pw) (E : L2.St → XK) (t : TT) (f : Env → Res Bool) : Prop :=
  ∀ G0 H0 G H σ env, SOk p G0 H0 G H σ env → ∀ Q, WishB p Q (E σ) G H (f env) → t σ H Q
abbrev E0 : L2.St → XK := fun _ _ _ _ => False
/-- an expression, then more -/
theorem EvR.to {p : Pw} {E : L2.St → XK} {t : TE} {f : Env → Res R} (h : EvR p E t f) {G0 H0 G H : Hp} {σ : L2.St} {env : Env} (s : SOk p G0 H0 G H σ env) {Q : VK} {β : Type} {k : R → Res β} {ok : Hp → Hp → β → Prop}
    (w : WishG p (E σ) G H (ok G H) ((f env).bind k)) (m : ∀ G' H', Grow G H G' H' → ∀ b, ok G H b → ok G' H' b)
    (hk : ∀ r v G1 H1, Grow G H G1 H1 → RepS p G1 H1 v r.st → WishG p (E σ) G1 H1 (ok G1 H1) (k r) → Q v H1) : t σ H Q := by
  refine h G0 H0 G H σ env s Q ?_
  cases e : f env with
  | ok r =>
    rw [e, Res.bind_ok] at w
    intro v G2 H2 g rep
    obtain ⟨G', g', rep'⟩ := rep.settle g
    exact hk r v G' H2 g' rep' (w.grow g' (m _ _ g'))
  | ex c ds => rw [e, Res.bind_ex] at w; exact w
  | bad => rw [e, Res.bind_bad] at w; exact w
theorem EvT.to {p : Pw} {E : L2.St → XK} {t : TT} {f : Env → Res Bool} (h : EvT p E t f) {G0 H0 G H : Hp} {σ : L2.St} {env : Env} (s : SOk p G0 H0 G H σ env) {Q : Bool → Hp → Prop} {β : Type} {k : Bool → Res β} {ok : Hp → Hp → β → Prop}
    (w : WishG p (E σ) G H (ok G H) ((f env).bind k)) (m : ∀ G' H', Grow G H G' H' → ∀ b, ok G H b → ok G' H' b)
    (hk : ∀ b G1 H1, Grow G H G1 H1 → WishG p (E σ) G1 H1 (ok G1 H1) (k b) → Q b H1) : t σ H Q := by
  refine h G0 H0 G H σ env s Q ?_
  cases e : f env with
  | ok r =>
    rw [e, Res.bind_ok] at w
    intro G2 H2 g
    exact hk r G2 H2 g (w.grow g (m _ _ g))
  | ex c ds => rw [e, Res.bind_ex] at w; exact w
  | bad => rw [e, Res.bind_bad] at w; exact w

abbrev pw (X : Cx) (T : CT) : Pw := ⟨X.K, T, X.prog, X.w⟩
structure DE (X : Cx) (T : CT) (E : L2.St → XK) (e : Expr) (t : TE) (f : Env → Res R) : Prop where
  pe : PE X e t
  ev : EvR (pw X T) E t f
structure DT (X : Cx) (T : CT) (E : L2.St → XK) (e : Expr) (t : TT) (f : Env → Res Bool) : Prop where
  pt : PT X e t
  ev : EvT (pw X T) E t f
structure DW (X : Cx) (T : CT) (E : L2.St → XK) (e : Expr) (t : TT) (f : Env → Res Bool) : Prop where
  pw' : PW X e t
  ev : EvT (pw X T) E t f
/-- settled values in a row -/
inductive RepL (p : Pw) (G H : Hp) : List V → List S → Prop
  | nil : RepL p G H [] []
  | cons {v : V} {vs : List V} {s : S} {ss : List S} : RepS p G H v s → RepL p G H vs ss → RepL p G H (v :: vs) (s :: ss)
theorem RepL.grow {p : Pw} {G H G' H' : Hp} (g : Grow G H G' H') : ∀ {vs : List V} {ss : List S}, RepL p G H vs ss → RepL p G' H' vs ss
  | _, _, .nil => .nil
  | _, _, .cons h r => .cons (h.grow g) (RepL.grow g r)
def okA (p : Pw) (Q : List V → Hp → Prop) (G H : Hp) : List S → Prop := fun ss => ∀ vs G2 H2, Grow G H G2 H2 → RepL p G2 H2 vs ss → Q vs H2
theorem okA.grow {p : Pw} {Q : List V → Hp → Prop} {G H G' H' : Hp} {r : List S} (h : okA p Q G H r) (g : Grow G H G' H') : okA p Q G' H' r :=
  fun v G2 H2 g2 rep => h v G2 H2 (g.trans g2) rep
def EvA (p : Pw) (E : L2.St → XK) (t : TA) (f : Env → Res (List S)) : Prop :=
  ∀ G0 H0 G H σ env, SOk p G0 H0 G H σ env → ∀ Q, WishG p (E σ) G H (okA p Q G H) (f env) → t σ H Q
structure DA (X : Cx) (T : CT) (E : L2.St → XK) (es : List Expr) (t : TA) (f : Env → Res (List S)) : Prop where
  pa : PA X es t
  ev : EvA (pw X T) E t f
theorem EvA.to {p : Pw} {E : L2.St → XK} {t : TA} {f : Env → Res (List S)} (h : EvA p E t f) {G0 H0 G H : Hp} {σ : L2.St} {env : Env} (s : SOk p G0 H0 G H σ env) {Q : List V → Hp → Prop} {β : Type} {k : List S → Res β} {ok : Hp → Hp → β → Prop}
    (w : WishG p (E σ) G H (ok G H) ((f env).bind k)) (m : ∀ G' H', Grow G H G' H' → ∀ b, ok G H b → ok G' H' b)
    (hk : ∀ ss vs G1 H1, Grow G H G1 H1 → RepL p G1 H1 vs ss → WishG p (E σ) G1 H1 (ok G1 H1) (k ss) → Q vs H1) : t σ H Q := by
  refine h G0 H0 G H σ env s Q ?_
  cases e : f env with
  | ok r =>
    rw [e, Res.bind_ok] at w
    intro vs G2 H2 g rep
    exact hk r vs G2 H2 g rep (w.grow g (m _ _ g))
  | ex c ds => rw [e, Res.bind_ex] at w; exact w
  | bad => rw [e, Res.bind_bad] at w; exact w

section
variable {X : Cx} {T : CT} {E : L2.St → XK}
/-! ### names, constants -/
def fVar (i : Nat) : Env → Res R := fun env =>
  match env[i]? with
  | some (some (.fz d)) => .ok (.fz d)
  | some (some o) => .ok (.bor o)
  | _ => .bad
theorem ev_var {p : Pw} (i : Nat) : EvR p E (tVar i) (fVar i) := by
  intro G0 H0 G H σ env s Q w
  unfold fVar at w
  obtain ⟨as, sl, _⟩ := s.sl
  have go : ∀ o, env[i]? = some (some o) → ∀ r, (∀ v bs, Ow p G H v o bs → RepR p G H H v r) → Wish p Q (E σ) G H (.ok r) → tVar i σ H Q := fun o e r hr w => by
    obtain ⟨v, bs, h1, h2, _⟩ := sl.get e
    exact ⟨v, h1, w v G H (Grow.refl s.gr.gh) (hr v bs h2)⟩
  cases e : env[i]? with
  | none => rw [e] at w; exact w.elim
  | some x =>
    cases x with
    | none => rw [e] at w; exact w.elim
    | some o =>
      rw [e] at w
      cases o with
      | fz d => exact go _ e (.fz d) (fun v bs h => by cases h with | fz h => exact h) w
      | _ => exact go _ e (.bor _) (fun v bs h => ⟨bs, h⟩) w
theorem de_var (i : Nat) {x : Str} {pos : Pos} (hN : X.N[i]? = some x := by rfl) (hv : Vis X.env.scope x := by first | exact Or.inl rfl | exact Or.inr (Or.inl rfl) | exact Or.inr (Or.inr rfl)) (hd : (x == ("__debug__" : Str)) = false := by decide)
    (hcd : (x == ("__classdict__" : Str)) = false := by decide) : DE X T E (.Name x pos) (tVar i) (fVar i) := ⟨pe_var hN hv hd hcd, ev_var i⟩
def fC (d : D) : Env → Res R := fun _ => .ok (.fz d)
theorem ev_c {p : Pw} {v : V} {d : D} (h : ∀ G, Is p G v d) : EvR p E (tC v) (fC d) := fun G0 H0 G H σ env s Q w => w v G H (Grow.refl s.gr.gh) (h G)
theorem de_int {i : Int} {j : Nat} {pos : Pos} : DE X T E (.Constant (.int i) j pos) (tC (.int i)) (fC (.int i)) := ⟨pe_int, ev_c fun _ => .int i⟩
theorem de_bl {b : Bool} {j : Nat} {pos : Pos} : DE X T E (.Constant (.bool b) j pos) (tC (.bl b)) (fC (.bl b)) := ⟨pe_bl, ev_c fun _ => .bl b⟩
theorem de_non {j : Nat} {pos : Pos} : DE X T E (.Constant .none j pos) (tC .non) (fC .non) := ⟨pe_non, ev_c fun _ => .non⟩
theorem de_str {x : Str} {j : Nat} {pos : Pos} : DE X T E (.Constant (.str x) j pos) (tC (.str x)) (fC (.str x)) := ⟨pe_str, ev_c fun _ => .str x⟩
/-- a module's int, text -/
theorem de_gint {x : Str} {i : Int} {pos : Pos} (hm : ∃ t, X.mg x = some (.int i t)) (hg : Gl X x := by rfl) (hd : (x == ("__debug__" : Str)) = false := by decide) : DE X T E (.Name x pos) (tC (.int i)) (fC (.int i)) := by
  obtain ⟨t, hm⟩ := hm
  exact ⟨pe_glob hg hm ⟨t, rfl⟩ hd, ev_c fun _ => .int i⟩
theorem de_gstr {x : Str} {i : Str} {pos : Pos} (hm : ∃ t, X.mg x = some (.str i t)) (hg : Gl X x := by rfl) (hd : (x == ("__debug__" : Str)) = false := by decide) : DE X T E (.Name x pos) (tC (.str i)) (fC (.str i)) := by
  obtain ⟨t, hm⟩ := hm
  exact ⟨pe_glob hg hm ⟨t, rfl⟩ hd, ev_c fun _ => .str i⟩

/-! ### operators by values -/
def OpV (p : Pw) (r : R2) (g : S → S → Res R) : Prop :=
  ∀ G H x y sx sy, Ex G H → RepS p G H x sx → RepS p G H y sy → ∀ Q E, Wish p Q E G H (g sx sy) → r x y H Q
def fOp (g : S → S → Res R) (fa fb : Env → Res R) : Env → Res R := fun env => (fa env).bind fun x => (fb env).bind fun y => g x.st y.st
theorem ev_op {p : Pw} {ta tb : TE} {fa fb : Env → Res R} {r : R2} {g : S → S → Res R} (ho : OpV p r g) (ha : EvR p E ta fa) (hb : EvR p E tb fb) : EvR p E (tOp r ta tb) (fOp g fa fb) := by
  intro G0 H0 G H σ env s Q w
  refine ha.to s (ok := okR p Q) w (fun _ _ g' _ h => h.grow g') fun rx x G1 H1 g1 rep1 w1 => ?_
  refine hb.to (s.grow g1) (ok := okR p Q) w1 (fun _ _ g' _ h => h.grow g') fun ry y G2 H2 g2 rep2 w2 => ?_
  exact ho G2 H2 x y rx.st ry.st g2.gh (rep1.grow g2) rep2 Q (E σ) w2
theorem OpV.or {p : Pw} {r r' : R2} {g g' : S → S → Res R} (h : OpV p r g) (h' : OpV p r' g') : OpV p (fun x y H Q => r x y H Q ∨ r' x y H Q) (fun x y => match g x y with | .bad => g' x y | z => z) := by
  intro G H x y sx sy e rx ry Q E w
  dsimp only at w
  cases q : g sx sy with
  | ok a => rw [q] at w; exact .inl (h G H x y sx sy e rx ry Q E (by rw [q]; exact w))
  | ex c ds => rw [q] at w; exact .inl (h G H x y sx sy e rx ry Q E (by rw [q]; exact w))
  | bad => rw [q] at w; exact .inr (h' G H x y sx sy e rx ry Q E w)
/-- an answer that is a value of its own -/
theorem wish_at {p : Pw} {Q : VK} {E : XK} {G H : Hp} {d : D} (e : Ex G H) (w : Wish p Q E G H (.ok (.fz d))) {v : V} (h : Is p G v d) : Q v H := w v G H (Grow.refl e) h
/-- a new list -/
theorem wish_new {p : Pw} {Q : VK} {E : XK} {G H : Hp} {os : List O} (e : Ex G H) (w : Wish p Q E G H (.ok (.new (.lst os)))) {vs : List V} (h : OwL p G H vs os []) (wh : O.wholeL os = true) {a : Addr} (n : H a = none) : Q (.ref a) (upd H a (.lst vs)) := by
  have ng : G a = none := Evl.fresh_back e n
  have ex : Ex G (upd H a (.lst vs)) := e.trans (Evl.Ex.new n)
  refine w (.ref a) G _ ⟨Evl.Ex.refl _, ex, Evl.Ex.new n, fun _ _ _ _ q => q⟩ ⟨[a], .lst upd_same ng (by simp) (h.mono (Evl.Ex.refl _) fun _ m => nomatch m), fun b m => ?_, by simpa [O.whole] using wh⟩
  rcases List.mem_cons.mp m with q | q
  · subst q; exact n
  · cases q
theorem owL_fz {p : Pw} {G H : Hp} : ∀ {vs : List V} {ds : List D}, IsL p G vs ds → OwL p G H vs (ds.map O.fz) []
  | _, _, .nil => .nil
  | _, _, .cons h r => by
    have := OwL.cons (Ow.fz h) (owL_fz (H := H) r) (fun _ m => nomatch m)
    simpa using this
theorem wholeL_fz : ∀ ds : List D, O.wholeL (ds.map O.fz) = true
  | [] => rfl
  | d :: ds => by simp [O.wholeL, O.whole, wholeL_fz ds]
/-- a new list of frozen things -/
def newL (ds : List D) : Res R := .ok (.new (.lst (ds.map O.fz)))
theorem wish_newL {p : Pw} {Q : VK} {E : XK} {G H : Hp} {ds : List D} (e : Ex G H) (w : Wish p Q E G H (newL ds)) {vs : List V} (h : IsL p G vs ds) {a : Addr} (n : H a = none) : Q (.ref a) (upd H a (.lst vs)) :=
  wish_new e w (owL_fz h) (wholeL_fz _) n
/-- a new tuple of frozen things -/
theorem wish_tup {p : Pw} {Q : VK} {E : XK} {G H : Hp} {ds : List D} (e : Ex G H) (w : Wish p Q E G H (.ok (.fz (.tup ds)))) {vs : List V} (h : IsL p G vs ds) {a : Addr} (n : H a = none) : Q (.ref a) (upd H a (.tup vs)) :=
  w (.ref a) (upd G a (.tup vs)) _ (Grow.new e n) (.tup (SqT.of upd_same) (h.mono (Evl.Ex.new (Evl.fresh_back e n))))

/-- the items of a list that may be read, all frozen -/
def itemsF : List O → Option (List D)
  | [] => some []
  | .fz d :: os => (itemsF os).map (d :: ·)
  | _ :: _ => none
def S.items : S → Option (List D)
  | .fz (.lst ds) => some ds
  | .bor (.lst os) => itemsF os
  | _ => none
theorem itemsF_is {p : Pw} {G H : Hp} : ∀ {vs : List V} {os : List O} {as : List Addr} {ds : List D}, OwL p G H vs os as → itemsF os = some ds → IsL p G vs ds
  | _, _, _, _, .nil, e => by cases e; exact .nil
  | _, _, _, _, .cons (o := .fz d) h r _, e => by
    simp only [itemsF, Option.map_eq_some_iff] at e
    obtain ⟨ds, e, rfl⟩ := e
    cases h with
    | fz h => exact .cons h (itemsF_is r e)
  | _, _, _, _, .cons (o := .lst _) h r _, e => by simp [itemsF] at e
  | _, _, _, _, .cons (o := .dki _) h r _, e => by simp [itemsF] at e
  | _, _, _, _, .cons (o := .dkw _) h r _, e => by simp [itemsF] at e
  | _, _, _, _, .cons (o := .ins _ _) h r _, e => by simp [itemsF] at e
  | _, _, _, _, .cons (o := .slf _ _ _) h r _, e => by simp [itemsF] at e
  | _, _, _, _, .cons (o := .exc _ _) h r _, e => by simp [itemsF] at e
theorem itemsF_map (ds : List D) : itemsF (ds.map O.fz) = some ds := by
  induction ds with
  | nil => rfl
  | cons d ds ih => simp [itemsF, ih]
@[simp] theorem items_fz (ds : List D) : (S.fz (.lst ds)).items = some ds := rfl
@[simp] theorem items_bor (ds : List D) : (S.bor (.lst (ds.map O.fz))).items = some ds := itemsF_map ds
theorem RepS.items {p : Pw} {G H : Hp} {v : V} {s : S} {ds : List D} (h : RepS p G H v s) (e : Ex G H) (q : s.items = some ds) : ∃ a vs, v = .ref a ∧ H a = some (.lst vs) ∧ IsL p G vs ds := by
  cases s with
  | fz d =>
    cases d with
    | lst ds' =>
      cases q
      cases h with
      | lst h r => exact ⟨_, _, rfl, e _ _ h, r⟩
    | _ => cases q
  | bor o =>
    cases o with
    | lst os =>
      obtain ⟨as, h⟩ := h
      cases h with
      | lst h g n r => exact ⟨_, _, rfl, h, itemsF_is r q⟩
    | _ => cases q

/-! ### arithmetic -/
def S.int? : S → Option Int
  | .fz (.int i) => some i
  | _ => none
def S.bl? : S → Option Bool
  | .fz (.bl b) => some b
  | _ => none
def S.str? : S → Option Str
  | .fz (.str b) => some b
  | _ => none
theorem RepS.int {p : Pw} {G H : Hp} {v : V} {s : S} {i : Int} (h : RepS p G H v s) (q : s.int? = some i) : v = .int i := by
  cases s with
  | fz d => cases d <;> first | cases q | skip
            cases h; rfl
  | bor o => cases q
theorem RepS.bl {p : Pw} {G H : Hp} {v : V} {s : S} {i : Bool} (h : RepS p G H v s) (q : s.bl? = some i) : v = .bl i := by
  cases s with
  | fz d => cases d <;> first | cases q | skip
            cases h; rfl
  | bor o => cases q
theorem RepS.str {p : Pw} {G H : Hp} {v : V} {s : S} {i : Str} (h : RepS p G H v s) (q : s.str? = some i) : v = .str i := by
  cases s with
  | fz d => cases d <;> first | cases q | skip
            cases h; rfl
  | bor o => cases q
/-- two ints -/
def gI (c : Int → Int → Bool) (g : Int → Int → D) : S → S → Res R := fun x y =>
  match x.int?, y.int? with
  | some i, some j => if c i j then .ok (.fz (g i j)) else .bad
  | _, _ => .bad
theorem opv_I {p : Pw} {C : Int → Int → Prop} {g : Int → Int → V} {c : Int → Int → Bool} {gd : Int → Int → D} (hc : ∀ i j, c i j = true → C i j) (hg : ∀ G i j, Is p G (g i j) (gd i j)) : OpV p (rI C g) (gI c gd) := by
  intro G H x y sx sy e rx ry Q E w
  unfold gI at w
  cases q1 : sx.int? with
  | none => rw [q1] at w; exact w.elim
  | some i =>
    cases q2 : sy.int? with
    | none => rw [q1, q2] at w; exact w.elim
    | some j =>
      rw [q1, q2] at w
      dsimp only at w
      by_cases h : c i j = true
      · rw [if_pos h] at w
        exact ⟨i, j, rx.int q1, ry.int q2, hc i j h, wish_at e w (hg G i j)⟩
      · rw [if_neg h] at w; exact w.elim
theorem opv_I0 {p : Pw} {g : Int → Int → V} {gd : Int → Int → D} (hg : ∀ G i j, Is p G (g i j) (gd i j)) : OpV p (rI0 g) (gI (fun _ _ => true) gd) := by
  intro G H x y sx sy e rx ry Q E w
  obtain ⟨i, j, a, b, _, q⟩ := opv_I (C := fun _ _ => True) (g := g) (fun _ _ _ => trivial) hg G H x y sx sy e rx ry Q E w
  exact ⟨i, j, a, b, q⟩
/-- two texts -/
def gS (c : Str → Str → Bool) (g : Str → Str → D) : S → S → Res R := fun x y =>
  match x.str?, y.str? with
  | some i, some j => if c i j then .ok (.fz (g i j)) else .bad
  | _, _ => .bad
theorem gS_inv {p : Pw} {c : Str → Str → Bool} {gd : Str → Str → D} {sx sy : S} {Q : VK} {E : XK} {G H : Hp} (w : Wish p Q E G H (gS c gd sx sy)) : ∃ i j, sx.str? = some i ∧ sy.str? = some j ∧ c i j = true ∧ Wish p Q E G H (.ok (.fz (gd i j))) := by
  unfold gS at w
  cases q1 : sx.str? with
  | none => rw [q1] at w; exact w.elim
  | some i =>
    cases q2 : sy.str? with
    | none => rw [q1, q2] at w; exact w.elim
    | some j =>
      rw [q1, q2] at w
      dsimp only at w
      by_cases h : c i j = true
      · rw [if_pos h] at w
        exact ⟨i, j, rfl, rfl, h, w⟩
      · rw [if_neg h] at w; exact w.elim
def LINE : Nat := 1000000
theorem line_ok {n : Nat} (h : n ≤ LINE) : n ≤ sizeLine := Nat.le_trans h (by decide)
theorem line_lt {n : Nat} (h : n ≤ LINE) : n < sizeLine := Nat.lt_of_le_of_lt h (by decide)
end
end DL
namespace DL
open PySem L2
section
variable {X : Cx} {T : CT} {E : L2.St → XK}
/-! ### operators -/
def gAdd : S → S → Res R := fun x y => match gI (fun _ _ => true) (fun i j => .int (i + j)) x y with
  | .bad => (match gS (fun i j => decide (i.length + j.length ≤ LINE)) (fun i j => .str (i ++ j)) x y with
    | .bad => (match x.items, y.items with | some a, some b => if a.length + b.length ≤ LINE then newL (a ++ b) else .bad | _, _ => .bad)
    | z => z)
  | z => z
def rAddA : R2 := fun x y H Q => rI0 (fun i j => .int (i + j)) x y H Q ∨ ((∃ i j, x = .str i ∧ y = .str j ∧ i.length + j.length ≤ sizeLine ∧ Q (.str (i ++ j)) H) ∨ rCat x y H Q)
theorem op_addA : OpR X (binaryOp .Add) rAddA := op_add.or (op_add_str.or op_cat)
theorem opv_add {p : Pw} : OpV p rAddA gAdd := by
  refine OpV.or (opv_I0 fun G i j => .int _) (OpV.or ?_ ?_)
  · intro G H x y sx sy e rx ry Q E w
    obtain ⟨i, j, q1, q2, c, w⟩ := gS_inv w
    exact ⟨i, j, rx.str q1, ry.str q2, line_ok (of_decide_eq_true c), wish_at e w (.str _)⟩
  · intro G H x y sx sy e rx ry Q E w
    dsimp only at w
    cases q1 : sx.items with
    | none => rw [q1] at w; exact w.elim
    | some a =>
      cases q2 : sy.items with
      | none => rw [q1, q2] at w; exact w.elim
      | some b =>
        rw [q1, q2] at w
        dsimp only at w
        by_cases h : a.length + b.length ≤ LINE
        · rw [if_pos h] at w
          obtain ⟨l, vs, rfl, h1, i1⟩ := rx.items e q1
          obtain ⟨m, ws, rfl, h2, i2⟩ := ry.items e q2
          exact ⟨l, m, vs, ws, rfl, rfl, h1, h2, by rw [i1.length, i2.length]; exact line_ok h, fun a n => wish_newL e w (i1.append i2) n⟩
        · rw [if_neg h] at w; exact w.elim
section
variable {a b : Expr} {ta tb : TE} {fa fb : Env → Res R} {pos : Pos}
theorem de_add (ha : DE X T E a ta fa) (hb : DE X T E b tb fb) : DE X T E (.BinOp a .Add b pos) (tOp rAddA ta tb) (fOp gAdd fa fb) := ⟨pe_op op_addA ha.pe hb.pe, ev_op opv_add ha.ev hb.ev⟩
theorem de_sub (ha : DE X T E a ta fa) (hb : DE X T E b tb fb) : DE X T E (.BinOp a .Sub b pos) (tOp (rI0 fun i j => .int (i - j)) ta tb) (fOp (gI (fun _ _ => true) (fun i j => .int (i - j))) fa fb) := ⟨pe_op op_sub ha.pe hb.pe, ev_op (opv_I0 fun G i j => .int _) ha.ev hb.ev⟩
end
/-- a product: one factor small; a list of frozen things, a text, so many times -/
def mulOk (i j : Int) : Bool := (decide (-(2 ^ 64) < i) && decide (i < 2 ^ 64)) || (decide (-(2 ^ 64) < j) && decide (j < 2 ^ 64))
theorem mulOk_c {i j : Int} (h : mulOk i j = true) : CMul i j := by
  unfold mulOk at h
  simp only [Bool.or_eq_true, Bool.and_eq_true, decide_eq_true_eq] at h
  exact h
def rMulA : R2 := fun x y H Q => rI CMul (fun i j => .int (i * j)) x y H Q ∨ rRep x y H Q
def gMul : S → S → Res R := fun x y => match gI mulOk (fun i j => .int (i * j)) x y with
  | .bad => (match x.items, y.int? with | some a, some k => if a.length * k.toNat ≤ LINE ∧ -(2 ^ 63) ≤ k ∧ k < 2 ^ 63 then newL (List.replicate k.toNat a).flatten else .bad | _, _ => .bad)
  | z => z
theorem IsL.rep {p : Pw} {G : Hp} {vs : List V} {ds : List D} (h : IsL p G vs ds) : ∀ k : Nat, IsL p G (List.replicate k vs).flatten (List.replicate k ds).flatten
  | 0 => .nil
  | k + 1 => by
    rw [List.replicate_succ, List.flatten_cons, List.replicate_succ, List.flatten_cons]
    exact h.append (h.rep k)
theorem opv_mul {p : Pw} : OpV p rMulA gMul := by
  refine OpV.or (opv_I (fun _ _ => mulOk_c) fun G i j => .int _) ?_
  intro G H x y sx sy e rx ry Q E w
  dsimp only at w
  cases q1 : sx.items with
  | none => rw [q1] at w; exact w.elim
  | some a =>
    cases q2 : sy.int? with
    | none => rw [q1, q2] at w; exact w.elim
    | some k =>
      rw [q1, q2] at w
      dsimp only at w
      by_cases h : a.length * k.toNat ≤ LINE ∧ -(2 ^ 63) ≤ k ∧ k < 2 ^ 63
      · rw [if_pos h] at w
        obtain ⟨l, vs, rfl, h1, i1⟩ := rx.items e q1
        exact ⟨l, k, vs, rfl, ry.int q2, h1, h.2.1, h.2.2, by rw [i1.length]; exact line_ok h.1, fun a n => wish_newL e w (i1.rep _) n⟩
      · rw [if_neg h] at w; exact w.elim
def divOk (_ j : Int) : Bool := decide (0 < j) && decide (j < 1073741824)
def modOk (_ j : Int) : Bool := decide (0 < j)
def powOk (i j : Int) : Bool := decide (0 ≤ j) && decide (j ≤ 1000000) && decide (i.natAbs < 2 ^ 64)
def shrOk (_ j : Int) : Bool := decide (0 ≤ j)
def andI (i j : Int) : Int := Builtin.bitAnd i j
section
variable {a b : Expr} {ta tb : TE} {fa fb : Env → Res R} {pos : Pos}
theorem de_mul (ha : DE X T E a ta fa) (hb : DE X T E b tb fb) : DE X T E (.BinOp a .Mult b pos) (tOp rMulA ta tb) (fOp gMul fa fb) := ⟨pe_op (op_mul.or op_rep) ha.pe hb.pe, ev_op opv_mul ha.ev hb.ev⟩
theorem de_fdiv (ha : DE X T E a ta fa) (hb : DE X T E b tb fb) : DE X T E (.BinOp a .FloorDiv b pos) (tOp (rI CDiv fun i j => .int (i / j)) ta tb) (fOp (gI divOk (fun i j => .int (i / j))) fa fb) :=
  ⟨pe_op op_fdiv ha.pe hb.pe, ev_op (opv_I (fun i j h => by simpa [divOk, CDiv] using h) fun G i j => .int _) ha.ev hb.ev⟩
theorem de_mod (ha : DE X T E a ta fa) (hb : DE X T E b tb fb) : DE X T E (.BinOp a .Mod b pos) (tOp (rI (fun _ j => 0 < j) fun i j => .int (i % j)) ta tb) (fOp (gI modOk (fun i j => .int (i % j))) fa fb) :=
  ⟨pe_op op_mod ha.pe hb.pe, ev_op (opv_I (fun i j h => by simpa [modOk] using h) fun G i j => .int _) ha.ev hb.ev⟩
theorem de_shl (ha : DE X T E a ta fa) (hb : DE X T E b tb fb) : DE X T E (.BinOp a .LShift b pos) (tOp (rI CPow fun i j => .int (i * 2 ^ j.toNat)) ta tb) (fOp (gI powOk (fun i j => .int (i * 2 ^ j.toNat))) fa fb) :=
  ⟨pe_op op_shl ha.pe hb.pe, ev_op (opv_I (fun i j h => by simpa [powOk, CPow, and_assoc] using h) fun G i j => .int _) ha.ev hb.ev⟩
theorem de_pow (ha : DE X T E a ta fa) (hb : DE X T E b tb fb) : DE X T E (.BinOp a .Pow b pos) (tOp (rI CPow fun i j => .int (i ^ j.toNat)) ta tb) (fOp (gI powOk (fun i j => .int (i ^ j.toNat))) fa fb) :=
  ⟨pe_op op_pow ha.pe hb.pe, ev_op (opv_I (fun i j h => by simpa [powOk, CPow, and_assoc] using h) fun G i j => .int _) ha.ev hb.ev⟩
theorem de_shr (ha : DE X T E a ta fa) (hb : DE X T E b tb fb) : DE X T E (.BinOp a .RShift b pos) (tOp (rI (fun _ j => 0 ≤ j) fun i j => .int (i / 2 ^ j.toNat)) ta tb) (fOp (gI shrOk (fun i j => .int (i / 2 ^ j.toNat))) fa fb) :=
  ⟨pe_op op_shr ha.pe hb.pe, ev_op (opv_I (fun i j h => by simpa [shrOk] using h) fun G i j => .int _) ha.ev hb.ev⟩
theorem de_band (ha : DE X T E a ta fa) (hb : DE X T E b tb fb) : DE X T E (.BinOp a .BitAnd b pos) (tOp (rI0 fun i j => .int (Builtin.bitAnd i j)) ta tb) (fOp (gI (fun _ _ => true) (fun i j => .int (andI i j))) fa fb) :=
  ⟨pe_op op_and ha.pe hb.pe, ev_op (opv_I0 fun G i j => .int _) ha.ev hb.ev⟩
end

/-! ### data as the library tells it, for == and in -/
mutual
def D.py : D → Option PyData
  | .non => some .none
  | .bl b => some (.bool b)
  | .int i => some (.int i)
  | .str s => some (.str s)
  | .tup xs => (D.pyL xs).map .tuple
  | .lst xs => (D.pyL xs).map .list
  | _ => none
def D.pyL : List D → Option (List PyData)
  | [] => some []
  | x :: xs => match D.py x, D.pyL xs with
    | some a, some b => some (a :: b)
    | _, _ => none
end
mutual
theorem Is.dp {p : Pw} {G : Hp} : ∀ {v : V} {d : D} {q : PyData}, Is p G v d → d.py = some q → Dp p.K G v q
  | _, _, _, .non, e => by cases e; exact .non
  | _, _, _, .bl b, e => by cases e; exact .bl b
  | _, _, _, .int i, e => by cases e; exact .int i
  | _, _, _, .str s, e => by cases e; exact .str s
  | _, _, _, .tup h r, e => by
    simp only [D.py, Option.map_eq_some_iff] at e
    obtain ⟨qs, e, rfl⟩ := e
    exact .tup h (IsL.dp r e)
  | _, _, _, .lst h r, e => by
    simp only [D.py, Option.map_eq_some_iff] at e
    obtain ⟨qs, e, rfl⟩ := e
    exact .lst (SqL.of h) (IsL.dp r e)
  | _, _, _, .scr h, e => by simp [D.py] at e
  | _, _, _, .dki h r, e => by simp [D.py] at e
  | _, _, _, .dkw .., e => by simp [D.py] at e
  | _, _, _, .ins .., e => by simp [D.py] at e
theorem IsL.dp {p : Pw} {G : Hp} : ∀ {vs : List V} {ds : List D} {qs : List PyData}, IsL p G vs ds → D.pyL ds = some qs → DpAll p.K G vs qs
  | _, _, _, .nil, e => by cases e; exact .nil
  | _, _, _, .cons (d := d) (ds := ds) h r, e => by
    simp only [D.pyL] at e
    cases q1 : d.py with
    | none => rw [q1] at e; cases e
    | some a =>
      cases q2 : D.pyL ds with
      | none => rw [q1, q2] at e; cases e
      | some b =>
        rw [q1, q2] at e
        cases e
        exact .cons (h.dp q1) (IsL.dp r q2)
end
mutual
/-- plain data, no instance within -/
def O.dat : O → Option D
  | .fz d => some d
  | .lst os => (O.datL os).map .lst
  | .dki k => some (.dki k)
  | .dkw k => some (.dkw k)
  | .ins c os => if os.length = (fsOf c).length then (O.datL os).map (.ins c) else none
  | .slf _ _ _ => none
  | .exc c _ => some (.exc c)
def O.datL : List O → Option (List D)
  | [] => some []
  | o :: os => match O.dat o, O.datL os with
    | some a, some b => some (a :: b)
    | _, _ => none
end
mutual
theorem Ow.dat {p : Pw} {G H : Hp} (ex : Ex G H) : ∀ {v : V} {o : O} {as : List Addr} {d : D}, Ow p G H v o as → o.dat = some d → Is p H v d
  | _, _, _, _, .fz h, e => by cases e; exact h.mono ex
  | _, _, _, _, .lst h g n r, e => by
    simp only [O.dat, Option.map_eq_some_iff] at e
    obtain ⟨qs, e, rfl⟩ := e
    exact .lst h (OwL.dat ex r e)
  | _, _, _, _, .dki h g r, e => by cases e; exact .dki h (r.mono ex)
  | _, _, _, _, .dkw h g a b c d r n z, e => by cases e; exact .dkw h a b c d (r.mono ex) n z
  | _, _, _, _, .ins (c := c) (os := os) h g l n r, e => by
    simp only [O.dat] at e
    by_cases hl : os.length = (fsOf c).length
    · rw [if_pos hl, Option.map_eq_some_iff] at e
      obtain ⟨qs, e, rfl⟩ := e
      exact .ins h (r.length.trans hl) (OwL.dat ex r e)
    · rw [if_neg hl] at e; cases e
  | _, _, _, _, .slf .., e => by cases e
  | _, _, _, _, .exc q h _ _ _ _, e => by cases e; exact .exc1 q h
theorem OwL.dat {p : Pw} {G H : Hp} (ex : Ex G H) : ∀ {vs : List V} {os : List O} {as : List Addr} {ds : List D}, OwL p G H vs os as → O.datL os = some ds → IsL p H vs ds
  | _, _, _, _, .nil, e => by cases e; exact .nil
  | _, _, _, _, .cons (o := o) (os := os) h r _, e => by
    simp only [O.datL] at e
    cases q1 : o.dat with
    | none => rw [q1] at e; cases e
    | some a =>
      cases q2 : O.datL os with
      | none => rw [q1, q2] at e; cases e
      | some b =>
        rw [q1, q2] at e
        cases e
        exact .cons (h.dat ex q1) (OwL.dat ex r q2)
end
def S.dat : S → Option D
  | .fz d => some d
  | .bor o => o.dat
theorem RepS.dat {p : Pw} {G H : Hp} {v : V} {s : S} {d : D} (h : RepS p G H v s) (e : Ex G H) (q : s.dat = some d) : Is p H v d := by
  cases s with
  | fz d' => cases q; exact Is.mono e h
  | bor o => obtain ⟨as, h⟩ := h; exact h.dat e q
@[simp] theorem dat_fz (d : D) : (S.fz d).dat = some d := rfl
theorem datL_fz (ds : List D) : O.datL (ds.map O.fz) = some ds := by
  induction ds with
  | nil => rfl
  | cons d ds ih => simp [O.datL, O.dat, ih]
@[simp] theorem dat_bor (ds : List D) : (S.bor (.lst (ds.map O.fz))).dat = some (.lst ds) := by
  simp [S.dat, O.dat, datL_fz]
/-- a == b of two data -/
def eqD (a b : D) : Option Bool :=
  match a, b with
  | .str x, .str y => some (decide (x = y))
  | a, b => match a.py, b.py with
    | some p, some q => if SeqAt.shaped p && SeqAt.shaped q then some (PyData.eqv p q) else none
    | _, _ => none
def gEq (f : Bool → Bool) : S → S → Res R := fun x y =>
  match x.dat, y.dat with
  | some a, some b => (match eqD a b with | some k => .ok (.fz (.bl (f k))) | none => .bad)
  | _, _ => .bad
def rEqA (K : PySem.W.Frag) : R2 := fun x y H Q => rEq x y H Q ∨ rEqD K x y H Q
def rNeA (K : PySem.W.Frag) : R2 := fun x y H Q => rNe x y H Q ∨ rNeD K x y H Q
theorem eqD_use {p : Pw} {G H : Hp} {x y : V} {sx sy : S} {f : Bool → Bool} {Q : VK} {E : XK} (e : Ex G H) (rx : RepS p G H x sx) (ry : RepS p G H y sy) (w : Wish p Q E G H (gEq f sx sy)) :
    (∃ a b, x = .str a ∧ y = .str b ∧ Q (.bl (f (decide (a = b)))) H) ∨ ∃ d q, Dp p.K H x d ∧ Dp p.K H y q ∧ SeqAt.shaped d = true ∧ SeqAt.shaped q = true ∧ Q (.bl (f (PyData.eqv d q))) H := by
  unfold gEq at w
  cases q1 : sx.dat with
  | none => rw [q1] at w; exact w.elim
  | some a =>
    cases q2 : sy.dat with
    | none => rw [q1, q2] at w; exact w.elim
    | some b =>
      rw [q1, q2] at w
      dsimp only at w
      have ia := rx.dat e q1
      have ib := ry.dat e q2
      cases q3 : eqD a b with
      | none => rw [q3] at w; exact w.elim
      | some k =>
        rw [q3] at w
        dsimp only at w
        unfold eqD at q3
        split at q3
        · cases ia; cases ib
          cases q3
          exact .inl ⟨_, _, rfl, rfl, wish_at e w (.bl _)⟩
        · split at q3
          · rename_i c d h1 h2
            by_cases hs : (SeqAt.shaped c && SeqAt.shaped d) = true
            · rw [if_pos hs] at q3
              cases q3
              simp only [Bool.and_eq_true] at hs
              exact .inr ⟨c, d, ia.dp h1, ib.dp h2, hs.1, hs.2, wish_at e w (.bl _)⟩
            · rw [if_neg hs] at q3; cases q3
          · cases q3
theorem opv_eq {p : Pw} : OpV p (rEqA p.K) (gEq id) := by
  intro G H x y sx sy e rx ry Q E w
  rcases eqD_use e rx ry w with ⟨a, b, rfl, rfl, q⟩ | ⟨d, q, h1, h2, h3, h4, hq⟩
  · refine .inl ⟨rfl, ?_⟩
    have : decide (V.str a = V.str b) = decide (a = b) := by simp
    rw [this]; exact q
  · exact .inr ⟨d, q, h1, h2, h3, h4, hq⟩
theorem opv_ne {p : Pw} : OpV p (rNeA p.K) (gEq not) := by
  intro G H x y sx sy e rx ry Q E w
  rcases eqD_use e rx ry w with ⟨a, b, rfl, rfl, q⟩ | ⟨d, q, h1, h2, h3, h4, hq⟩
  · refine .inl ⟨rfl, ?_⟩
    have : decide (V.str a = V.str b) = decide (a = b) := by simp
    rw [this]; exact q
  · exact .inr ⟨d, q, h1, h2, h3, h4, hq⟩
/-! ### is -/
def rIsA (neg : Bool) : R2 := fun x y H Q => y = .non ∧ Q (.bl (if neg then !decide (x = .non) else decide (x = .non))) H
def D.isN : D → Bool
  | .non => true
  | _ => false
theorem non_dec {p : Pw} {G : Hp} {v : V} {d : D} (h : Is p G v d) : decide (v = .non) = d.isN := by
  cases h <;> simp [D.isN]
def gIs (f : Bool → Bool) : S → S → Res R := fun x y =>
  match x, y with
  | .fz a, .fz .non => .ok (.fz (.bl (f a.isN)))
  | _, _ => .bad
theorem opv_isN {p : Pw} : OpV p (fun x y H Q => y = .non ∧ Q (.bl (decide (x = .non))) H) (gIs id) := by
  intro G H x y sx sy e rx ry Q E w
  unfold gIs at w
  split at w
  · rename_i a
    cases ry
    refine ⟨rfl, ?_⟩
    rw [non_dec rx]
    exact wish_at e w (.bl _)
  · exact w.elim
theorem opv_notN {p : Pw} : OpV p (fun x y H Q => y = .non ∧ Q (.bl (!decide (x = .non))) H) (gIs not) := by
  intro G H x y sx sy e rx ry Q E w
  unfold gIs at w
  split at w
  · rename_i a
    cases ry
    refine ⟨rfl, ?_⟩
    rw [non_dec rx]
    exact wish_at e w (.bl _)
  · exact w.elim

/-! ### in: a list of data, a sign of a text -/
def anyD (b : D) (a : D) : Option Bool :=
  match b.py, a.py with
  | some (.list ds), some d => if SeqAt.shaped d && SeqAt.shaped (.list ds) then some (ds.any fun z => PyData.eqv z d) else none
  | _, _ => none
def inD (a b : D) : Option Bool :=
  match a, b with
  | .str x, .str y => if x.cps.size = 1 then some (decide (x.cps.getD 0 0 ∈ y.cps.toList)) else none
  | a, b => anyD b a
def gIn (f : Bool → Bool) : S → S → Res R := fun x y =>
  match x.dat, y.dat with
  | some a, some b => (match inD a b with | some k => .ok (.fz (.bl (f k))) | none => .bad)
  | _, _ => .bad
theorem one_sign {x : Str} (h : x.cps.size = 1) : x = ⟨#[x.cps.getD 0 0]⟩ := by
  obtain ⟨l⟩ := x
  obtain ⟨l⟩ := l
  match l, h with
  | [c], _ => rfl
theorem inD_use {p : Pw} {G H : Hp} {x y : V} {sx sy : S} {f : Bool → Bool} {Q : VK} {E : XK} (e : Ex G H) (rx : RepS p G H x sx) (ry : RepS p G H y sy) (w : Wish p Q E G H (gIn f sx sy)) :
    (∃ c z, x = .str ⟨#[c]⟩ ∧ y = .str z ∧ Q (.bl (f (decide (c ∈ z.cps.toList)))) H) ∨ ∃ d ds, Dp p.K H x d ∧ Dp p.K H y (.list ds) ∧ SeqAt.shaped d = true ∧ SeqAt.shaped (.list ds) = true ∧ Q (.bl (f (ds.any fun z => PyData.eqv z d))) H := by
  unfold gIn at w
  cases q1 : sx.dat with
  | none => rw [q1] at w; exact w.elim
  | some a =>
    cases q2 : sy.dat with
    | none => rw [q1, q2] at w; exact w.elim
    | some b =>
      rw [q1, q2] at w
      dsimp only at w
      have ia := rx.dat e q1
      have ib := ry.dat e q2
      cases q3 : inD a b with
      | none => rw [q3] at w; exact w.elim
      | some k =>
        rw [q3] at w
        dsimp only at w
        unfold inD at q3
        split at q3
        · rename_i s z
          cases ia; cases ib
          by_cases hs : s.cps.size = 1
          · rw [if_pos hs] at q3
            cases q3
            exact .inl ⟨_, _, congrArg V.str (one_sign hs), rfl, wish_at e w (.bl _)⟩
          · rw [if_neg hs] at q3; cases q3
        · unfold anyD at q3
          split at q3
          · rename_i ds d h1 h2
            by_cases hs : (SeqAt.shaped d && SeqAt.shaped (.list ds)) = true
            · rw [if_pos hs] at q3
              cases q3
              simp only [Bool.and_eq_true] at hs
              exact .inr ⟨d, ds, ia.dp h2, ib.dp h1, hs.1, hs.2, wish_at e w (.bl _)⟩
            · rw [if_neg hs] at q3; cases q3
          · cases q3
def rInA (K : PySem.W.Frag) : R2 := fun x y H Q => (∃ c z, x = .str ⟨#[c]⟩ ∧ y = .str z ∧ Q (.bl (decide (c ∈ z.cps.toList))) H) ∨ rInD K x y H Q
def rNotInA (K : PySem.W.Frag) : R2 := fun x y H Q => (∃ c z, x = .str ⟨#[c]⟩ ∧ y = .str z ∧ Q (.bl (!decide (c ∈ z.cps.toList))) H) ∨ rNotInD K x y H Q
theorem opv_in {p : Pw} : OpV p (rInA p.K) (gIn id) := by
  intro G H x y sx sy e rx ry Q E w
  rcases inD_use e rx ry w with ⟨a, b, rfl, rfl, q⟩ | ⟨d, q, h1, h2, h3, h4, hq⟩
  · exact .inl ⟨a, b, rfl, rfl, q⟩
  · exact .inr ⟨d, q, h1, h2, h3, h4, hq⟩
theorem opv_notIn {p : Pw} : OpV p (rNotInA p.K) (gIn not) := by
  intro G H x y sx sy e rx ry Q E w
  rcases inD_use e rx ry w with ⟨a, b, rfl, rfl, q⟩ | ⟨d, q, h1, h2, h3, h4, hq⟩
  · exact .inl ⟨a, b, rfl, rfl, q⟩
  · exact .inr ⟨d, q, h1, h2, h3, h4, hq⟩

/-! ### comparisons as values, as tests -/
/-- a comparison by values: its rule, what it tells -/
structure CmpV (X : Cx) (T : CT) (op : CmpOp) (r : R2) (g : S → S → Res R) : Prop where
  op : OpR X (compareOp op) r
  v : OpV (pw X T) r g
theorem cv_eq {k : Nat} (hr : Room k X.A) : CmpV X T .Eq (rEqA X.K) (gEq id) := ⟨op_eq.or (op_eqD hr.units), opv_eq⟩
theorem cv_ne {k : Nat} (hr : Room k X.A) : CmpV X T .NotEq (rNeA X.K) (gEq not) := ⟨op_ne.or (op_neD hr.units), opv_ne⟩
theorem units65 {k : Nat} {A : Around} (hr : Room (k + 1) A) : A.units + 65 < cLine := by have := hr.un; omega
theorem cv_in {k : Nat} (hr : Room (k + 1) X.A) : CmpV X T .In (rInA X.K) (gIn id) := ⟨op_in_sign.or (op_inD (units65 hr)), opv_in⟩
theorem cv_notIn {k : Nat} (hr : Room (k + 1) X.A) : CmpV X T .NotIn (rNotInA X.K) (gIn not) := ⟨op_notIn_sign.or (op_notInD (units65 hr)), opv_notIn⟩
theorem cv_lt : CmpV X T .Lt (rI0 fun i j => .bl (decide (i < j))) (gI (fun _ _ => true) fun i j => .bl (decide (i < j))) := ⟨op_lt, opv_I0 fun G i j => .bl _⟩
theorem cv_le : CmpV X T .LtE (rI0 fun i j => .bl (decide (i ≤ j))) (gI (fun _ _ => true) fun i j => .bl (decide (i ≤ j))) := ⟨op_le, opv_I0 fun G i j => .bl _⟩
theorem cv_gt : CmpV X T .Gt (rI0 fun i j => .bl (decide (j < i))) (gI (fun _ _ => true) fun i j => .bl (decide (j < i))) := ⟨op_gt, opv_I0 fun G i j => .bl _⟩
theorem cv_ge : CmpV X T .GtE (rI0 fun i j => .bl (decide (j ≤ i))) (gI (fun _ _ => true) fun i j => .bl (decide (j ≤ i))) := ⟨op_ge, opv_I0 fun G i j => .bl _⟩
theorem cv_isN : CmpV X T .Is (fun x y H Q => y = .non ∧ Q (.bl (decide (x = .non))) H) (gIs id) := ⟨op_isN, opv_isN⟩
theorem cv_notN : CmpV X T .IsNot (fun x y H Q => y = .non ∧ Q (.bl (!decide (x = .non))) H) (gIs not) := ⟨op_notN, opv_notN⟩
section
variable {a b c : Expr} {ta tb tc : TE} {fa fb fc : Env → Res R} {pos : Pos} {op op' : CmpOp} {r r' : R2} {g g' : S → S → Res R}
theorem de_cmp (h : CmpV X T op r g) (ha : DE X T E a ta fa) (hb : DE X T E b tb fb) (hm : behindInMarks op b = false := by first | exact nomark _ | rfl) : DE X T E (.Compare a [op] [b] pos) (tOp r ta tb) (fOp g fa fb) :=
  ⟨pe_cmpR h.op ha.pe hb.pe hm, ev_op h.v ha.ev hb.ev⟩
/-- a truth value -/
def asB (r : R) : Res Bool := match r.st.bl? with | some b => .ok b | none => .bad
def fT (f : Env → Res R) : Env → Res Bool := fun env => (f env).bind asB
theorem ev_test {p : Pw} {t : TE} {f : Env → Res R} (h : EvR p E t f) : EvT p E (tTest t) (fT f) := by
  intro G0 H0 G H σ env s Q w
  refine h.to s (ok := okB Q) w (fun _ _ g' _ h => h.grow g') fun r v G1 H1 g1 rep w1 => ?_
  unfold asB at w1
  cases q : r.st.bl? with
  | none => rw [q] at w1; exact w1.elim
  | some b => rw [q] at w1; exact ⟨b, rep.bl q, w1 G1 H1 (Grow.refl g1.gh)⟩
theorem ev_testB {p : Pw} {t : TE} {f : Env → Res R} (h : EvR p E t f) : EvT p E (tB t) (fT f) := ev_test h
theorem dt_cmp (h : CmpV X T op r g) (ha : DE X T E a ta fa) (hb : DE X T E b tb fb) (hm : behindInMarks op b = false := by first | exact nomark _ | rfl) : DT X T E (.Compare a [op] [b] pos) (tTest (tOp r ta tb)) (fT (fOp g fa fb)) :=
  ⟨pt_cmpR h.op ha.pe hb.pe hm, ev_test (ev_op h.v ha.ev hb.ev)⟩
theorem dt_val {e : Expr} {t : TE} {f : Env → Res R} (h : DE X T E e t f) (he : ∀ whole, isTrue e X.env whole = (do let v ← whole; standAt e.pos; holding [v] (truthy v)) := by intro _; rfl) : DT X T E e (tB t) (fT f) :=
  ⟨pt_val h.pe he, ev_testB h.ev⟩
/-- a < b < c -/
def fChain (g g' : S → S → Res R) (fa fb fc : Env → Res R) : Env → Res R := fun env =>
  (fa env).bind fun x => (fb env).bind fun y => (g x.st y.st).bind fun z => match z.st.bl? with
    | some true => (fc env).bind fun u => g' y.st u.st
    | some false => .ok (.fz (.bl false))
    | none => .bad
theorem ev_chain {p : Pw} (h : OpV p r g) (h' : OpV p r' g') (ha : EvR p E ta fa) (hb : EvR p E tb fb) (hc : EvR p E tc fc) : EvR p E (tChain r r' ta tb tc) (fChain g g' fa fb fc) := by
  intro G0 H0 G H σ env s Q w
  refine ha.to s (ok := okR p Q) w (fun _ _ g' _ h => h.grow g') fun rx x G1 H1 g1 rep1 w1 => ?_
  refine hb.to (s.grow g1) (ok := okR p Q) w1 (fun _ _ g' _ h => h.grow g') fun ry y G2 H2 g2 rep2 w2 => ?_
  refine h G2 H2 x y rx.st ry.st g2.gh (rep1.grow g2) rep2 _ (E σ) ?_
  cases q : g rx.st ry.st with
  | bad => rw [q] at w2; exact w2
  | ex c ds => rw [q] at w2; exact w2
  | ok z =>
    rw [q, Res.bind_ok] at w2
    intro v G3 H3 g3 rep3
    obtain ⟨G3', g3', rep3'⟩ := rep3.settle g3
    cases qb : z.st.bl? with
    | none => rw [qb] at w2; exact w2.elim
    | some b =>
      rw [qb] at w2
      refine ⟨b, rep3'.bl qb, ?_⟩
      cases b with
      | false =>
        rw [if_neg Bool.false_ne_true]
        exact w2 (.bl false) G3' H3 g3' (.bl false)
      | true =>
        rw [if_pos rfl]
        have w3 := WishG.grow (ok' := okR p Q G3' H3) w2 g3' (fun b h => h.grow g3')
        refine hc.to ((s.grow (g1.trans g2)).grow g3') (ok := okR p Q) w3 (fun _ _ g' _ h => h.grow g') fun ru u G4 H4 g4 rep4 w4 => ?_
        exact h' G4 H4 y u ry.st ru.st g4.gh ((rep2.grow g3').grow g4) rep4 Q (E σ) w4
theorem de_chain (h : CmpV X T op r g) (h' : CmpV X T op' r' g') (ha : DE X T E a ta fa) (hb : DE X T E b tb fb) (hc : DE X T E c tc fc) (hm : lastMarks [op, op'] [b, c] = false := by with_unfolding_all rfl) :
    DE X T E (.Compare a [op, op'] [b, c] pos) (tChain r r' ta tb tc) (fChain g g' fa fb fc) := ⟨pe_chain h.op h'.op ha.pe hb.pe hc.pe hm, ev_chain h.v h'.v ha.ev hb.ev hc.ev⟩
theorem dt_chain (h : CmpV X T op r g) (h' : CmpV X T op' r' g') (ha : DE X T E a ta fa) (hb : DE X T E b tb fb) (hc : DE X T E c tc fc) (hm : lastMarks [op, op'] [b, c] = false := by with_unfolding_all rfl) :
    DT X T E (.Compare a [op, op'] [b, c] pos) (tTest (tChain r r' ta tb tc)) (fT (fChain g g' fa fb fc)) := ⟨pt_chain h.op h'.op ha.pe hb.pe hc.pe hm, ev_test (ev_chain h.v h'.v ha.ev hb.ev hc.ev)⟩
end
end
end DL
namespace DL
open PySem L2
section
variable {X : Cx} {T : CT} {E : L2.St → XK}
section
variable {a b c : Expr} {ta tb tc : TE} {fa fb fc : Env → Res R} {pos : Pos} {tt tu : TT} {ft fu : Env → Res Bool} {rest : List Expr}
/-! ### and, or, not, if-else -/
def fAnd (fa fb : Env → Res R) : Env → Res R := fun env => (fa env).bind fun x => match x.st.bl? with | some true => fb env | some false => .ok (.fz (.bl false)) | none => .bad
def fOr (fa fb : Env → Res R) : Env → Res R := fun env => (fa env).bind fun x => match x.st.bl? with | some true => .ok (.fz (.bl true)) | some false => fb env | none => .bad
def fNot (fa : Env → Res R) : Env → Res R := fun env => (fa env).bind fun x => match x.st.bl? with | some b => .ok (.fz (.bl (!b))) | none => .bad
theorem evr_go {p : Pw} {t : TE} {f : Env → Res R} (h : EvR p E t f) {G0 H0 G H G1 H1 : Hp} {σ : L2.St} {env : Env} (s : SOk p G0 H0 G H σ env) (g : Grow G H G1 H1) {Q : VK} (w : Wish p Q (E σ) G1 H1 (f env)) : t σ H1 Q :=
  h G0 H0 G1 H1 σ env (s.grow g) Q w
theorem ev_andV {p : Pw} (ha : EvR p E ta fa) (hb : EvR p E tb fb) : EvR p E (tAndV ta tb) (fAnd fa fb) := by
  intro G0 H0 G H σ env s Q w
  refine ha.to s (ok := okR p Q) w (fun _ _ g' _ h => h.grow g') fun rx x G1 H1 g1 rep1 w1 => ?_
  cases q : rx.st.bl? with
  | none => rw [q] at w1; exact w1.elim
  | some k =>
    rw [q] at w1
    refine ⟨k, rep1.bl q, ?_⟩
    cases k with
    | true => rw [if_pos rfl]; exact evr_go hb s g1 w1
    | false => rw [if_neg Bool.false_ne_true]; exact wish_at g1.gh w1 (.bl false)
theorem ev_orV {p : Pw} (ha : EvR p E ta fa) (hb : EvR p E tb fb) : EvR p E (tOrV ta tb) (fOr fa fb) := by
  intro G0 H0 G H σ env s Q w
  refine ha.to s (ok := okR p Q) w (fun _ _ g' _ h => h.grow g') fun rx x G1 H1 g1 rep1 w1 => ?_
  cases q : rx.st.bl? with
  | none => rw [q] at w1; exact w1.elim
  | some k =>
    rw [q] at w1
    refine ⟨k, rep1.bl q, ?_⟩
    cases k with
    | true => rw [if_pos rfl]; exact wish_at g1.gh w1 (.bl true)
    | false => rw [if_neg Bool.false_ne_true]; exact evr_go hb s g1 w1
theorem ev_notV {p : Pw} (ha : EvR p E ta fa) : EvR p E (tNotV ta) (fNot fa) := by
  intro G0 H0 G H σ env s Q w
  refine ha.to s (ok := okR p Q) w (fun _ _ g' _ h => h.grow g') fun rx x G1 H1 g1 rep1 w1 => ?_
  cases q : rx.st.bl? with
  | none => rw [q] at w1; exact w1.elim
  | some k =>
    rw [q] at w1
    exact ⟨k, rep1.bl q, wish_at g1.gh w1 (.bl _)⟩
theorem de_one {op} (ha : DE X T E a ta fa) : DE X T E (.BoolOp op [a] pos) ta fa := ⟨pe_one ha.pe, ha.ev⟩
theorem de_and (ha : DE X T E a ta fa) (hb : DE X T E (.BoolOp .And (b :: rest) pos) tb fb) : DE X T E (.BoolOp .And (a :: b :: rest) pos) (tAndV ta tb) (fAnd fa fb) := ⟨pe_and ha.pe hb.pe, ev_andV ha.ev hb.ev⟩
theorem de_or (ha : DE X T E a ta fa) (hb : DE X T E (.BoolOp .Or (b :: rest) pos) tb fb) : DE X T E (.BoolOp .Or (a :: b :: rest) pos) (tOrV ta tb) (fOr fa fb) := ⟨pe_or ha.pe hb.pe, ev_orV ha.ev hb.ev⟩
theorem de_not (ha : DE X T E a ta fa) : DE X T E (.UnaryOp .Not a pos) (tNotV ta) (fNot fa) := ⟨pe_not ha.pe, ev_notV ha.ev⟩
def fTAnd (ft fu : Env → Res Bool) : Env → Res Bool := fun env => (ft env).bind fun x => if x then fu env else .ok false
def fTOr (ft fu : Env → Res Bool) : Env → Res Bool := fun env => (ft env).bind fun x => if x then .ok true else fu env
def fTNot (ft : Env → Res Bool) : Env → Res Bool := fun env => (ft env).bind fun x => .ok (!x)
theorem evt_go {p : Pw} {t : TT} {f : Env → Res Bool} (h : EvT p E t f) {G0 H0 G H G1 H1 : Hp} {σ : L2.St} {env : Env} (s : SOk p G0 H0 G H σ env) (g : Grow G H G1 H1) {Q : Bool → Hp → Prop} (w : WishB p Q (E σ) G1 H1 (f env)) : t σ H1 Q :=
  h G0 H0 G1 H1 σ env (s.grow g) Q w
theorem ev_tand {p : Pw} (ha : EvT p E tt ft) (hb : EvT p E tu fu) : EvT p E (tAnd tt tu) (fTAnd ft fu) := by
  intro G0 H0 G H σ env s Q w
  refine ha.to s (ok := okB Q) w (fun _ _ g' _ h => h.grow g') fun k G1 H1 g1 w1 => ?_
  cases k with
  | true => rw [if_pos rfl] at w1 ⊢; exact evt_go hb s g1 w1
  | false => rw [if_neg Bool.false_ne_true] at w1 ⊢; exact w1 G1 H1 (Grow.refl g1.gh)
theorem ev_tor {p : Pw} (ha : EvT p E tt ft) (hb : EvT p E tu fu) : EvT p E (tOr tt tu) (fTOr ft fu) := by
  intro G0 H0 G H σ env s Q w
  refine ha.to s (ok := okB Q) w (fun _ _ g' _ h => h.grow g') fun k G1 H1 g1 w1 => ?_
  cases k with
  | true => rw [if_pos rfl] at w1 ⊢; exact w1 G1 H1 (Grow.refl g1.gh)
  | false => rw [if_neg Bool.false_ne_true] at w1 ⊢; exact evt_go hb s g1 w1
theorem ev_tnot {p : Pw} (ha : EvT p E tt ft) : EvT p E (tNot tt) (fTNot ft) := by
  intro G0 H0 G H σ env s Q w
  refine ha.to s (ok := okB Q) w (fun _ _ g' _ h => h.grow g') fun k G1 H1 g1 w1 => ?_
  exact w1 G1 H1 (Grow.refl g1.gh)
theorem dt_not (ha : DT X T E a tt ft) : DT X T E (.UnaryOp .Not a pos) (tNot tt) (fTNot ft) := ⟨pt_not ha.pt, ev_tnot ha.ev⟩
theorem dw_and1 (ha : DT X T E a tt ft) : DW X T E (.BoolOp .And [a] pos) tt ft := ⟨pw_and1 ha.pt, ha.ev⟩
theorem dw_or1 (ha : DT X T E a tt ft) : DW X T E (.BoolOp .Or [a] pos) tt ft := ⟨pw_or1 ha.pt, ha.ev⟩
theorem dw_and (ha : DT X T E a tt ft) (hb : DW X T E (.BoolOp .And (b :: rest) pos) tu fu) : DW X T E (.BoolOp .And (a :: b :: rest) pos) (tAnd tt tu) (fTAnd ft fu) := ⟨pw_and ha.pt hb.pw', ev_tand ha.ev hb.ev⟩
theorem dw_or (ha : DT X T E a tt ft) (hb : DW X T E (.BoolOp .Or (b :: rest) pos) tu fu) : DW X T E (.BoolOp .Or (a :: b :: rest) pos) (tOr tt tu) (fTOr ft fu) := ⟨pw_or ha.pt hb.pw', ev_tor ha.ev hb.ev⟩
theorem dt_w (h : DW X T E a tt ft) : DT X T E a tt ft := ⟨h.pw'.pt, h.ev⟩
def fIf (ft : Env → Res Bool) (fa fb : Env → Res R) : Env → Res R := fun env => (ft env).bind fun x => if x then fa env else fb env
theorem ev_if {p : Pw} (hc : EvT p E tt ft) (ha : EvR p E ta fa) (hb : EvR p E tb fb) : EvR p E (tIf tt ta tb) (fIf ft fa fb) := by
  intro G0 H0 G H σ env s Q w
  refine hc.to s (ok := okR p Q) w (fun _ _ g' _ h => h.grow g') fun k G1 H1 g1 w1 => ?_
  cases k with
  | true => rw [if_pos rfl] at w1 ⊢; exact evr_go ha s g1 w1
  | false => rw [if_neg Bool.false_ne_true] at w1 ⊢; exact evr_go hb s g1 w1
theorem de_if (hc : DT X T E c tt ft) (ha : DE X T E a ta fa) (hb : DE X T E b tb fb) : DE X T E (.IfExp c a b pos) (tIf tt ta tb) (fIf ft fa fb) := ⟨pe_ifExp hc.pt ha.pe hb.pe, ev_if hc.ev ha.ev hb.ev⟩
end

/-! ### subscripts -/
def gIx : S → S → Res R := fun x y => match y.int? with
  | none => .bad
  | some i => (match x with
    | .fz (.lst ds) => (match atI ds i with | some d => .ok (.fz d) | none => .bad)
    | .fz (.tup ds) => (match atI ds i with | some d => .ok (.fz d) | none => .bad)
    | .fz (.scr ns) => (match atI ns i with | some d => .ok (.fz (.int d)) | none => .bad)
    | .fz (.str z) => if z.length ≤ LINE then (match atI z.cps.toList i with | some c => .ok (.fz (.str ⟨#[c]⟩)) | none => .bad) else .bad
    | .bor (.lst os) => (match atI os i with | some (.fz d) => .ok (.fz d) | some o => .ok (.bor o) | none => .bad)
    | _ => .bad)
theorem atI_is {p : Pw} {G : Hp} {vs : List V} {ds : List D} {i : Int} {d : D} (h : IsL p G vs ds) (e : atI ds i = some d) : ∃ v, atI vs i = some v ∧ Is p G v d := by
  unfold atI at e ⊢
  rw [h.length]
  cases q : ixN ds.length i with
  | none => rw [q] at e; cases e
  | some j =>
    rw [q] at e
    obtain ⟨v, h1, h2⟩ := h.get (i := j) (d := d) e
    exact ⟨v, h1, h2⟩
theorem OwL.get {p : Pw} {G H : Hp} : ∀ {vs : List V} {os : List O} {as : List Addr} {i : Nat} {o : O}, OwL p G H vs os as → os[i]? = some o → ∃ v bs, vs[i]? = some v ∧ Ow p G H v o bs
  | _, _, _, _, _, .nil, e => by simp at e
  | _, _, _, 0, _, .cons h _ _, e => by simp at e; subst e; exact ⟨_, _, rfl, h⟩
  | _, _, _, i + 1, o, .cons _ r _, e => by
    obtain ⟨v, bs, h1, h2⟩ := OwL.get (i := i) (o := o) r (by simpa using e)
    exact ⟨v, bs, by simpa using h1, h2⟩
theorem atI_ow {p : Pw} {G H : Hp} {vs : List V} {os : List O} {as : List Addr} {i : Int} {o : O} (h : OwL p G H vs os as) (e : atI os i = some o) : ∃ v bs, atI vs i = some v ∧ Ow p G H v o bs := by
  unfold atI at e ⊢
  rw [h.length]
  cases q : ixN os.length i with
  | none => rw [q] at e; cases e
  | some j =>
    rw [q] at e
    exact h.get (i := j) (o := o) e
theorem opv_ix {p : Pw} : OpV p (rIx p.K) gIx := by
  intro G H x y sx sy e rx ry Q E w
  unfold gIx at w
  cases q1 : sy.int? with
  | none => rw [q1] at w; exact w.elim
  | some i =>
    rw [q1] at w
    dsimp only at w
    have ey := ry.int q1
    subst ey
    cases sx with
    | fz d =>
      cases d with
      | lst ds =>
        dsimp only at w
        cases q : atI ds i with
        | none => rw [q] at w; exact w.elim
        | some d =>
          rw [q] at w
          cases rx with
          | lst h r =>
            obtain ⟨v, h1, h2⟩ := atI_is r q
            exact .inl ⟨_, _, i, v, rfl, rfl, SqL.of (e _ _ h), h1, wish_at e w h2⟩
      | tup ds =>
        dsimp only at w
        cases q : atI ds i with
        | none => rw [q] at w; exact w.elim
        | some d =>
          rw [q] at w
          cases rx with
          | tup h r =>
            obtain ⟨v, h1, h2⟩ := atI_is r q
            exact .inr (.inl ⟨_, _, i, v, rfl, rfl, sqT_mono e h, h1, wish_at e w h2⟩)
      | scr ns =>
        dsimp only at w
        cases q : atI ns i with
        | none => rw [q] at w; exact w.elim
        | some d =>
          rw [q] at w
          cases rx with
          | scr h =>
            refine .inl ⟨_, _, i, .int d, rfl, rfl, sqL_mono e h, ?_, wish_at e w (.int d)⟩
            unfold atI at q ⊢
            rw [List.length_map]
            cases q' : ixN ns.length i with
            | none => rw [q'] at q; cases q
            | some j =>
              rw [q'] at q
              have q : ns[j]? = some d := q
              show (ns.map V.int)[j]? = some (.int d)
              rw [List.getElem?_map, q]; rfl
      | str z =>
        dsimp only at w
        by_cases hz : z.length ≤ LINE
        · rw [if_pos hz] at w
          cases q : atI z.cps.toList i with
          | none => rw [q] at w; exact w.elim
          | some c =>
            rw [q] at w
            cases rx
            exact .inr (.inr ⟨z, i, c, rfl, rfl, line_ok hz, q, wish_at e w (.str _)⟩)
        · rw [if_neg hz] at w; exact w.elim
      | _ => exact w.elim
    | bor o =>
      cases o with
      | lst os =>
        dsimp only at w
        obtain ⟨as, h⟩ := rx
        cases h with
        | lst h g n r =>
          cases q : atI os i with
          | none => rw [q] at w; exact w.elim
          | some o =>
            obtain ⟨v, bs, h1, h2⟩ := atI_ow r q
            rw [q] at w
            refine .inl ⟨_, _, i, v, rfl, rfl, SqL.of h, h1, ?_⟩
            cases o with
            | fz d => cases h2 with | fz h2 => exact wish_at e w h2
            | _ => exact w v G H (Grow.refl e) ⟨bs, h2⟩
      | _ => exact w.elim
theorem de_ix {a b : Expr} {ta tb : TE} {fa fb : Env → Res R} {pos : Pos} (ha : DE X T E a ta fa) (hb : DE X T E b tb fb) (hs : PlainIx b := by exact fun _ _ => rfl) : DE X T E (.Subscript a b pos) (tOp (rIx X.K) ta tb) (fOp gIx fa fb) :=
  ⟨pe_ix ix_seq ha.pe hb.pe hs, ev_op opv_ix ha.ev hb.ev⟩

/-! ### slices -/
def EvO (p : Pw) (E : L2.St → XK) (t : TO) (f : Env → Res (Option Int)) : Prop :=
  ∀ G0 H0 G H σ env, SOk p G0 H0 G H σ env → ∀ Q, WishG p (E σ) G H (fun o => ∀ G2 H2, Grow G H G2 H2 → Q o H2) (f env) → t σ H Q
structure DO (X : Cx) (T : CT) (E : L2.St → XK) (e : Option Expr) (t : TO) (f : Env → Res (Option Int)) : Prop where
  po : PO X e t
  ev : EvO (pw X T) E t f
def fPart (f : Env → Res R) : Env → Res (Option Int) := fun env => (f env).bind fun x => match x.st.int? with | some i => .ok (some i) | none => .bad
theorem do_none : DO X T E none tNoPart (fun _ => .ok none) := ⟨po_none, fun G0 H0 G H σ env s Q w => w G H (Grow.refl s.gr.gh)⟩
theorem do_some {e : Expr} {te : TE} {f : Env → Res R} (h : DE X T E e te f) : DO X T E (some e) (tPart te) (fPart f) := by
  refine ⟨po_some h.pe, fun G0 H0 G H σ env s Q w => ?_⟩
  refine h.ev.to s (ok := fun G H o => ∀ G2 H2, Grow G H G2 H2 → Q o H2) w (fun _ _ g' _ h _ _ g2 => h _ _ (g'.trans g2)) fun rx x G1 H1 g1 rep1 w1 => ?_
  cases q : rx.st.int? with
  | none => rw [q] at w1; exact w1.elim
  | some i => rw [q] at w1; exact ⟨i, rep1.int q, w1 G1 H1 (Grow.refl g1.gh)⟩
def cutD (xs : List D) (lo hi : Option Int) : List D := (xs.drop (HT.sIx xs.length 0 lo)).take (HT.sIx xs.length xs.length hi - HT.sIx xs.length 0 lo)
theorem IsL.drop {p : Pw} {G : Hp} : ∀ {vs : List V} {ds : List D} (n : Nat), IsL p G vs ds → IsL p G (vs.drop n) (ds.drop n)
  | _, _, 0, h => h
  | _, _, n + 1, .nil => .nil
  | _, _, n + 1, .cons _ r => IsL.drop n r
theorem IsL.take {p : Pw} {G : Hp} : ∀ {vs : List V} {ds : List D} (n : Nat), IsL p G vs ds → IsL p G (vs.take n) (ds.take n)
  | _, _, 0, h => .nil
  | _, _, n + 1, .nil => .nil
  | _, _, n + 1, .cons h r => .cons h (IsL.take n r)
theorem IsL.cut {p : Pw} {G : Hp} {vs : List V} {ds : List D} (h : IsL p G vs ds) (lo hi : Option Int) : IsL p G (cutV vs lo hi) (cutD ds lo hi) := by
  unfold cutV cutD
  rw [h.length]
  exact (h.drop _).take _
def gCut (x : S) (lo hi : Option Int) : Res R := match x.str? with
  | some z => if z.length ≤ LINE then .ok (.fz (.str (cutS z lo hi))) else .bad
  | none => (match x.items with | some ds => newL (cutD ds lo hi) | none => .bad)
def rCutA (K : PySem.W.Frag) : V → Option Int → Option Int → Hp → VK → Prop := fun x lo hi H Q => rSlS x lo hi H Q ∨ rSlL K x lo hi H Q
def fCut (fa : Env → Res R) (fl fu : Env → Res (Option Int)) : Env → Res R := fun env => (fa env).bind fun x => (fl env).bind fun l => (fu env).bind fun u => gCut x.st l u
theorem EvO.to {p : Pw} {t : TO} {f : Env → Res (Option Int)} (h : EvO p E t f) {G0 H0 G H : Hp} {σ : L2.St} {env : Env} (s : SOk p G0 H0 G H σ env) {Q : Option Int → Hp → Prop} {β : Type} {k : Option Int → Res β} {ok : Hp → Hp → β → Prop}
    (w : WishG p (E σ) G H (ok G H) ((f env).bind k)) (m : ∀ G' H', Grow G H G' H' → ∀ b, ok G H b → ok G' H' b)
    (hk : ∀ b G1 H1, Grow G H G1 H1 → WishG p (E σ) G1 H1 (ok G1 H1) (k b) → Q b H1) : t σ H Q := by
  refine h G0 H0 G H σ env s Q ?_
  cases e : f env with
  | ok r =>
    rw [e, Res.bind_ok] at w
    intro G2 H2 g
    exact hk r G2 H2 g (w.grow g (m _ _ g))
  | ex c ds => rw [e, Res.bind_ex] at w; exact w
  | bad => rw [e, Res.bind_bad] at w; exact w
theorem de_slice {a : Expr} {lo hi : Option Expr} {ta : TE} {tl th : TO} {fa : Env → Res R} {fl fu : Env → Res (Option Int)} {p2 pos : Pos} (ha : DE X T E a ta fa) (hl : DO X T E lo tl fl) (hu : DO X T E hi th fu) :
    DE X T E (.Subscript a (.Slice lo hi none p2) pos) (tSl (rCutA X.K) ta tl th) (fCut fa fl fu) := by
  refine ⟨pe_slice (sl_str.or sl_list) ha.pe hl.po hu.po, fun G0 H0 G H σ env s Q w => ?_⟩
  refine ha.ev.to s (ok := okR (pw X T) Q) w (fun _ _ g' _ h => h.grow g') fun rx x G1 H1 g1 rep1 w1 => ?_
  refine hl.ev.to (s.grow g1) (ok := okR (pw X T) Q) w1 (fun _ _ g' _ h => h.grow g') fun l G2 H2 g2 w2 => ?_
  refine hu.ev.to ((s.grow g1).grow g2) (ok := okR (pw X T) Q) w2 (fun _ _ g' _ h => h.grow g') fun u G3 H3 g3 w3 => ?_
  have rep := (rep1.grow g2).grow g3
  unfold gCut at w3
  cases q : rx.st.str? with
  | some z =>
    rw [q] at w3
    dsimp only at w3
    by_cases hz : z.length ≤ LINE
    · rw [if_pos hz] at w3
      exact .inl ⟨z, rep.str q, line_ok hz, wish_at g3.gh w3 (.str _)⟩
    · rw [if_neg hz] at w3; exact w3.elim
  | none =>
    rw [q] at w3
    dsimp only at w3
    cases q2 : rx.st.items with
    | none => rw [q2] at w3; exact w3.elim
    | some ds =>
      rw [q2] at w3
      obtain ⟨p, vs, rfl, h1, i1⟩ := rep.items g3.gh q2
      exact .inr ⟨p, vs, rfl, SqL.of h1, fun a n => wish_newL g3.gh w3 (i1.cut l u) n⟩

/-! ### arguments, displays -/
theorem da_nil : DA X T E [] tNil (fun _ => .ok []) := ⟨pa_nil, fun G0 H0 G H σ env s Q w => w [] G H (Grow.refl s.gr.gh) .nil⟩
def fCons (fa : Env → Res R) (fr : Env → Res (List S)) : Env → Res (List S) := fun env => (fa env).bind fun x => (fr env).bind fun xs => .ok (x.st :: xs)
theorem ev_cons {p : Pw} {ta : TE} {tr : TA} {fa : Env → Res R} {fr : Env → Res (List S)} (ha : EvR p E ta fa) (hr : EvA p E tr fr) : EvA p E (tCons ta tr) (fCons fa fr) := by
  intro G0 H0 G H σ env s Q w
  refine ha.to s (ok := okA p Q) w (fun _ _ g' _ h => h.grow g') fun rx x G1 H1 g1 rep1 w1 => ?_
  refine hr.to (s.grow g1) (ok := okA p Q) w1 (fun _ _ g' _ h => h.grow g') fun ss vs G2 H2 g2 rep2 w2 => ?_
  exact w2 _ G2 H2 (Grow.refl g2.gh) (.cons (rep1.grow g2) rep2)
theorem da_cons {e : Expr} {es : List Expr} {te : TE} {tr : TA} {fa : Env → Res R} {fr : Env → Res (List S)} (ha : DE X T E e te fa) (hr : DA X T E es tr fr) (hs : starEach (e :: es) X.env = (false, eval e X.env) :: starEach es X.env := by rfl) :
    DA X T E (e :: es) (tCons te tr) (fCons fa fr) := ⟨pa_cons ha.pe hr.pa hs, ev_cons ha.ev hr.ev⟩
def S.fzd : S → Option D
  | .fz d => some d
  | .bor _ => none
def fzAll : List S → Option (List D)
  | [] => some []
  | .fz d :: ss => (fzAll ss).map (d :: ·)
  | _ :: _ => none
@[simp] theorem fzAll_fz (ds : List D) : fzAll (ds.map S.fz) = some ds := by
  induction ds with
  | nil => rfl
  | cons d ds ih => simp [fzAll, ih]
theorem RepL.fz {p : Pw} {G H : Hp} : ∀ {vs : List V} {ss : List S} {ds : List D}, RepL p G H vs ss → fzAll ss = some ds → IsL p G vs ds
  | _, _, _, .nil, e => by cases e; exact .nil
  | _, _, _, .cons (s := .fz d) h r, e => by
    simp only [fzAll, Option.map_eq_some_iff] at e
    obtain ⟨ds, e, rfl⟩ := e
    exact .cons h (RepL.fz r e)
  | _, _, _, .cons (s := .bor o) h r, e => by simp [fzAll] at e
def fTup (fr : Env → Res (List S)) : Env → Res R := fun env => (fr env).bind fun ss => match fzAll ss with | some ds => if ds.length ≤ LINE then .ok (.fz (.tup ds)) else .bad | none => .bad
def fLst (fr : Env → Res (List S)) : Env → Res R := fun env => (fr env).bind fun ss => match fzAll ss with | some ds => if ds.length ≤ LINE then newL ds else .bad | none => .bad
theorem de_tup {es : List Expr} {t : TA} {fr : Env → Res (List S)} {x1 : Nat} {pos : Pos} (h : DA X T E es t fr) : DE X T E (.Tuple es x1 pos) (tTup t) (fTup fr) := by
  refine ⟨pe_tup h.pa, fun G0 H0 G H σ env s Q w => ?_⟩
  refine h.ev.to s (ok := okR (pw X T) Q) w (fun _ _ g' _ h => h.grow g') fun ss vs G1 H1 g1 rep w1 => ?_
  cases q : fzAll ss with
  | none => rw [q] at w1; exact w1.elim
  | some ds =>
    rw [q] at w1
    dsimp only at w1
    have i := rep.fz q
    by_cases hz : ds.length ≤ LINE
    · rw [if_pos hz] at w1
      exact ⟨by rw [i.length]; exact line_ok hz, fun a n => wish_tup g1.gh w1 i n⟩
    · rw [if_neg hz] at w1; exact w1.elim
theorem de_lst {es : List Expr} {t : TA} {fr : Env → Res (List S)} {pos : Pos} (h : DA X T E es t fr) : DE X T E (.List es pos) (tLst t) (fLst fr) := by
  refine ⟨pe_lst h.pa, fun G0 H0 G H σ env s Q w => ?_⟩
  refine h.ev.to s (ok := okR (pw X T) Q) w (fun _ _ g' _ h => h.grow g') fun ss vs G1 H1 g1 rep w1 => ?_
  cases q : fzAll ss with
  | none => rw [q] at w1; exact w1.elim
  | some ds =>
    rw [q] at w1
    dsimp only at w1
    have i := rep.fz q
    by_cases hz : ds.length ≤ LINE
    · rw [if_pos hz] at w1
      exact ⟨by rw [i.length]; exact line_ok hz, fun a n => wish_newL g1.gh w1 i n⟩
    · rw [if_neg hz] at w1; exact w1.elim

/-! ### built-in calls by values -/
def ArgV (p : Pw) (r : List V → Hp → VK → Prop) (g : List S → Res R) : Prop :=
  ∀ G H vs ss, Ex G H → RepL p G H vs ss → ∀ Q E, Wish p Q E G H (g ss) → r vs H Q
def fCB (g : List S → Res R) (fr : Env → Res (List S)) : Env → Res R := fun env => (fr env).bind g
theorem ev_cb {p : Pw} {r : List V → Hp → VK → Prop} {g : List S → Res R} {t : TA} {fr : Env → Res (List S)} (ho : ArgV p r g) (ha : EvA p E t fr) : EvR p E (tCB r t) (fCB g fr) := by
  intro G0 H0 G H σ env s Q w
  refine ha.to s (ok := okR p Q) w (fun _ _ g' _ h => h.grow g') fun ss vs G1 H1 g1 rep w1 => ?_
  exact ho G1 H1 vs ss g1.gh rep Q (E σ) w1
/-- a built-in by its rule -/
structure BiV (X : Cx) (T : CT) (f : Value) (r : List V → Hp → VK → Prop) (g : List S → Res R) : Prop where
  call : CallR X f r
  v : ArgV (pw X T) r g
section
variable {e : Expr} {es : List Expr} {t : TA} {fr : Env → Res (List S)} {x : Str} {p pos : Pos} {id : String} {r : List V → Hp → VK → Prop} {g : List S → Res R}
theorem de_callB (h : BiV X T (.builtin id) r g) (hm : X.mg x = none) (ha : DA X T E (e :: es) t fr) (hg : Gl X x := by rfl) (hv : bootBuiltins x = some (.builtin id) := by decide +kernel) (hn : x ≠ "__name__" := by decide) (hdb : (x == ("__debug__" : Str)) = false := by decide)
    (he : starEach (e :: es) X.env = (false, eval e X.env) :: starEach es X.env := by rfl) (hpl : (backTo pos (starEach es X.env)).any (·.1) = false := by rfl) : DE X T E (.Call (.Name x p) (e :: es) [] pos) (tCB r t) (fCB g fr) :=
  ⟨by first | exact pe_callB h.call hg hm hv ha.pa hn hdb he hpl | exact pe_callB h.call hg hm hv ha.pa, ev_cb h.v ha.ev⟩
theorem de_callTy (h : BiV X T (.type id) r g) (hm : X.mg x = none) (ha : DA X T E (e :: es) t fr) (hg : Gl X x := by rfl) (hv : bootBuiltins x = some (.type id) := by decide +kernel) (hn : x ≠ "__name__" := by decide) (hdb : (x == ("__debug__" : Str)) = false := by decide)
    (he : starEach (e :: es) X.env = (false, eval e X.env) :: starEach es X.env := by rfl) (hpl : (backTo pos (starEach es X.env)).any (·.1) = false := by rfl) : DE X T E (.Call (.Name x p) (e :: es) [] pos) (tCB r t) (fCB g fr) :=
  ⟨by first | exact pe_callTy h.call hg hm hv ha.pa hn hdb he hpl | exact pe_callTy h.call hg hm hv ha.pa, ev_cb h.v ha.ev⟩
end
def S.len? : S → Option Nat
  | .fz (.lst ds) => some ds.length
  | .fz (.tup ds) => some ds.length
  | .fz (.scr ns) => some ns.length
  | .fz (.str z) => if z.length ≤ LINE then some z.length else none
  | .bor (.lst os) => some os.length
  | _ => none
def gLen : List S → Res R
  | [x] => (match x.len? with | some n => .ok (.fz (.int (n : Int))) | none => .bad)
  | _ => .bad
theorem bi_len : BiV X T (.builtin "len") (fun xs H Q => ∃ x n, xs = [x] ∧ LenV X.K x H n ∧ Q (.int n) H) gLen := by
  refine ⟨call_len, fun G H vs ss e rep Q E w => ?_⟩
  unfold gLen at w
  split at w
  · rename_i x
    cases rep with
    | cons h r =>
      cases r
      rename_i v
      cases q : x.len? with
      | none => rw [q] at w; exact w.elim
      | some n =>
        rw [q] at w
        refine ⟨v, n, rfl, ?_, wish_at e w (.int _)⟩
        unfold S.len? at q
        split at q
        · cases q; cases h with | lst h r => exact .inl ⟨_, SqL.of (e _ _ h), r.length.symm⟩
        · cases q; cases h with | tup h r => exact .inr ⟨_, sqT_mono e h, r.length.symm⟩
        · cases q; cases h with | scr h => exact .inl ⟨_, sqL_mono e h, by simp⟩
        · rename_i z
          by_cases hz : z.length ≤ LINE
          · rw [if_pos hz] at q; cases q; cases h; exact ⟨line_ok hz, rfl⟩
          · rw [if_neg hz] at q; cases q
        · cases q
          obtain ⟨as, h⟩ := h
          cases h with | lst h g n r => exact .inl ⟨_, SqL.of h, r.length.symm⟩
        · cases q
  · exact w.elim
def gList : List S → Res R
  | [x] => (match x.items with | some ds => newL ds | none => .bad)
  | _ => .bad
theorem bi_list : BiV X T (.type "list") (fun xs H Q => ∃ p ys, xs = [.ref p] ∧ (SqL X.K H p ys ∨ SqT X.K H p ys) ∧ ∀ l, H l = none → Q (.ref l) (upd H l (.lst ys))) gList := by
  refine ⟨call_list_of, fun G H vs ss e rep Q E w => ?_⟩
  unfold gList at w
  split at w
  · rename_i x
    cases rep with
    | cons h r =>
      cases r
      cases q : x.items with
      | none => rw [q] at w; exact w.elim
      | some ds =>
        rw [q] at w
        obtain ⟨a, vs, rfl, h1, i1⟩ := h.items e q
        exact ⟨a, vs, rfl, .inl (SqL.of h1), fun l n => wish_newL e w i1 n⟩
  · exact w.elim
def gMin : List S → Res R
  | [x, y] => (match x.int?, y.int? with | some i, some j => .ok (.fz (.int (if j < i then j else i))) | _, _ => .bad)
  | _ => .bad
theorem bi_min (hc : X.calm = true) : BiV X T (.builtin "min") (fun xs H Q => ∃ i j, xs = [.int i, .int j] ∧ Q (.int (if j < i then j else i)) H) gMin := by
  refine ⟨call_min2 hc, fun G H vs ss e rep Q E w => ?_⟩
  unfold gMin at w
  split at w
  · rename_i x y
    cases rep with
    | cons h r =>
      cases r with
      | cons h' r =>
        cases r
        cases q1 : x.int? with
        | none => rw [q1] at w; exact w.elim
        | some i =>
          cases q2 : y.int? with
          | none => rw [q1, q2] at w; exact w.elim
          | some j =>
            rw [q1, q2] at w
            exact ⟨i, j, by rw [h.int q1, h'.int q2], wish_at e w (.int _)⟩
  · exact w.elim
def gAbs : List S → Res R
  | [x] => (match x.int? with | some i => .ok (.fz (.int (if i < 0 then -i else i))) | _ => .bad)
  | _ => .bad
theorem bi_abs : BiV X T (.builtin "abs") (fun xs H Q => ∃ i, xs = [.int i] ∧ Q (.int (if i < 0 then -i else i)) H) gAbs := by
  refine ⟨call_abs, fun G H vs ss e rep Q E w => ?_⟩
  unfold gAbs at w
  split at w
  · rename_i x
    cases rep with
    | cons h r =>
      cases r
      cases q1 : x.int? with
      | none => rw [q1] at w; exact w.elim
      | some i =>
        rw [q1] at w
        exact ⟨i, by rw [h.int q1], wish_at e w (.int _)⟩
  · exact w.elim
def gStr : List S → Res R
  | [x] => (match x.int? with | some i => if i.natAbs.log2 < 1920 then .ok (.fz (.str (toString i))) else .bad | _ => .bad)
  | _ => .bad
theorem bi_str : BiV X T (.type "str") (fun xs H Q => ∃ i, xs = [.int i] ∧ i.natAbs.log2 < 1920 ∧ Q (.str (toString i)) H) gStr := by
  refine ⟨call_str_int, fun G H vs ss e rep Q E w => ?_⟩
  unfold gStr at w
  split at w
  · rename_i x
    cases rep with
    | cons h r =>
      cases r
      cases q1 : x.int? with
      | none => rw [q1] at w; exact w.elim
      | some i =>
        rw [q1] at w
        dsimp only at w
        by_cases hz : i.natAbs.log2 < 1920
        · rw [if_pos hz] at w
          exact ⟨i, by rw [h.int q1], hz, wish_at e w (.str _)⟩
        · rw [if_neg hz] at w; exact w.elim
  · exact w.elim
def gInt : List S → Res R
  | [x] => (match x.str? with | some i => (match PySem.intText? i with | some n => if i.length ≤ 640 then .ok (.fz (.int n)) else .bad | none => .bad) | _ => .bad)
  | _ => .bad
theorem bi_int : BiV X T (.type "int") (fun xs H Q => ∃ a n, xs = [.str a] ∧ PySem.intText? a = some n ∧ a.length ≤ 640 ∧ Q (.int n) H) gInt := by
  refine ⟨call_int_str, fun G H vs ss e rep Q E w => ?_⟩
  unfold gInt at w
  split at w
  · rename_i x
    cases rep with
    | cons h r =>
      cases r
      cases q1 : x.str? with
      | none => rw [q1] at w; exact w.elim
      | some i =>
        rw [q1] at w
        dsimp only at w
        cases q2 : PySem.intText? i with
        | none => rw [q2] at w; exact w.elim
        | some n =>
          rw [q2] at w
          dsimp only at w
          by_cases hz : i.length ≤ 640
          · rw [if_pos hz] at w
            exact ⟨i, n, by rw [h.str q1], q2, hz, wish_at e w (.int _)⟩
          · rw [if_neg hz] at w; exact w.elim
  · exact w.elim
/-- all, any of a list of truths -/
def bools : List D → Option (List Bool)
  | [] => some []
  | .bl b :: ds => (bools ds).map (b :: ·)
  | _ :: _ => none
@[simp] theorem bools_map (bs : List Bool) : bools (bs.map D.bl) = some bs := by
  induction bs with
  | nil => rfl
  | cons d ds ih => simp [bools, ih]
theorem bools_is {p : Pw} {G : Hp} : ∀ {vs : List V} {ds : List D} {bs : List Bool}, IsL p G vs ds → bools ds = some bs → vs = bs.map V.bl
  | _, _, _, .nil, e => by cases e; rfl
  | _, _, _, .cons (d := d) h r, e => by
    cases d with
    | bl b =>
      simp only [bools, Option.map_eq_some_iff] at e
      obtain ⟨bs, e, rfl⟩ := e
      cases h
      rw [bools_is r e]; rfl
    | _ => simp [bools] at e
def gQuant (q : List Bool → Bool) : List S → Res R
  | [x] => (match x.items with | some ds => (match bools ds with | some bs => .ok (.fz (.bl (q bs))) | none => .bad) | none => .bad)
  | _ => .bad
theorem gQuant_use {p : Pw} {q : List Bool → Bool} {G H : Hp} {vs : List V} {ss : List S} {Q : VK} {E : XK} (e : Ex G H) (rep : RepL p G H vs ss) (w : Wish p Q E G H (gQuant q ss)) : ∃ (a : Addr) (bs : List Bool), vs = [V.ref a] ∧ SqL p.K H a (bs.map V.bl) ∧ Q (.bl (q bs)) H := by
  unfold gQuant at w
  split at w
  · rename_i x
    cases rep with
    | cons h r =>
      cases r
      cases q1 : x.items with
      | none => rw [q1] at w; exact w.elim
      | some ds =>
        rw [q1] at w
        dsimp only at w
        cases q2 : bools ds with
        | none => rw [q2] at w; exact w.elim
        | some bs =>
          rw [q2] at w
          obtain ⟨a, vs, rfl, h1, i1⟩ := h.items e q1
          have := bools_is i1 q2
          subst this
          exact ⟨a, bs, rfl, SqL.of h1, wish_at e w (.bl _)⟩
  · exact w.elim
theorem bi_all (hc : X.calm = true) : BiV X T (.builtin "all") (rAll X.K) (gQuant fun bs => bs.all id) := ⟨cr_all hc, fun G H vs ss e rep Q E w => gQuant_use e rep w⟩
theorem bi_any (hc : X.calm = true) : BiV X T (.builtin "any") (rAny X.K) (gQuant fun bs => bs.any id) := ⟨cr_any hc, fun G H vs ss e rep Q E w => gQuant_use e rep w⟩

/-! ### isinstance(x, a built-in class) -/
def D.tyN : D → Option String
  | .non => some "NoneType"
  | .bl _ => some "bool"
  | .int _ => some "int"
  | .str _ => some "str"
  | .tup _ => some "tuple"
  | .lst _ => some "list"
  | .dki _ => some "dict"
  | _ => none
def S.tyN : S → Option String
  | .fz d => d.tyN
  | .bor (.lst _) => some "list"
  | _ => none
theorem S.ty {p : Pw} {G H : Hp} {v : V} {s : S} {t : String} (h : RepS p G H v s) (e : Ex G H) (q : s.tyN = some t) : TyX p.K H v (.type t) := by
  cases s with
  | fz d =>
    cases d with
    | non => cases q; cases h; exact .base .non
    | bl b => cases q; cases h; exact .base (.bl b)
    | int b => cases q; cases h; exact .base (.int b)
    | str b => cases q; cases h; exact .base (.str b)
    | tup ds =>
      cases q
      cases h with
      | tup h r =>
        rcases sqT_mono e h with (h | ⟨o, h⟩) | ⟨o, its, n, hk, hc, _⟩
        · exact .base (.tup h)
        · exact .fTuple h
        · exact .kTuple hk hc
    | lst ds => cases q; cases h with | lst h r => exact .base (.lst (e _ _ h))
    | dki ds => cases q; cases h with | dki h r => exact .base (.dK (e _ _ h))
    | _ => cases q
  | bor o =>
    cases o with
    | lst os =>
      cases q
      obtain ⟨as, h⟩ := h
      cases h with
      | lst h _ _ _ => exact .base (.lst h)
    | _ => cases q
def fIsi (tn : String) (f : Env → Res R) : Env → Res R := fun env => (f env).bind fun x => match x.st.tyN with
  | some t => (match kitB t tn with | some b => .ok (.fz (.bl b)) | none => .bad)
  | none => .bad
theorem de_isi {e : Expr} {te : TE} {f : Env → Res R} {tx : Str} {tn : String} {p p2 pos : Pos} (hm : X.mg "isinstance" = none) (hmt : X.mg tx = none) (he : DE X T E e te f) (hv : bootBuiltins tx = some (.type tn) := by decide +kernel) (hgt : Gl X tx := by rfl) (hg : Gl X "isinstance" := by rfl)
    (hn : tx ≠ "__name__" := by decide) (hdb : (tx == ("__debug__" : Str)) = false := by decide)
    (hs : starEach [e, .Name tx p2] X.env = (false, eval e X.env) :: starEach [.Name tx p2] X.env := by rfl) (hs2 : starEach [.Name tx p2] X.env = (false, eval (.Name tx p2) X.env) :: starEach [] X.env := by rfl)
    (hpl : (backTo pos (starEach [.Name tx p2] X.env)).any (·.1) = false := by rfl) :
    DE X T E (.Call (.Name "isinstance" p) [e, .Name tx p2] [] pos) (tCB (rIsi X.K) (tCons te (tCons (tC (.ty tn)) tNil))) (fIsi tn f) := by
  refine ⟨by first | exact pe_callB call_isi hg hm (by decide +kernel) (pa_cons he.pe (pa_cons (pe_bltn (v := .ty tn) hgt hmt hv rfl hn hdb) pa_nil hs2) hs) (by decide) (by decide) hs hpl | exact pe_callB call_isi hg hm (by decide +kernel) (pa_cons he.pe (pa_cons (pe_bltn (v := .ty tn) hgt hmt hv rfl hn hdb) pa_nil hs2) hs), fun G0 H0 G H σ env s Q w => ?_⟩
  refine he.ev.to s (ok := okR (pw X T) Q) w (fun _ _ g' _ h => h.grow g') fun rx x G1 H1 g1 rep w1 => ?_
  cases q1 : rx.st.tyN with
  | none => rw [q1] at w1; exact w1.elim
  | some t =>
    rw [q1] at w1
    dsimp only at w1
    cases q2 : kitB t tn with
    | none => rw [q2] at w1; exact w1.elim
    | some b =>
      rw [q2] at w1
      exact ⟨x, .ty tn, .type t, .type tn, b, rfl, .ty tn, S.ty rep g1.gh q1, kit_ty q2, wish_at g1.gh w1 (.bl b)⟩

/-! ### texts -/
def textsD : List D → Option (List Str)
  | [] => some []
  | .str b :: ds => (textsD ds).map (b :: ·)
  | _ :: _ => none
@[simp] theorem texts_map (bs : List Str) : textsD (bs.map D.str) = some bs := by
  induction bs with
  | nil => rfl
  | cons d ds ih => simp [textsD, ih]
theorem texts_is {p : Pw} {G : Hp} : ∀ {vs : List V} {ds : List D} {bs : List Str}, IsL p G vs ds → textsD ds = some bs → vs = bs.map V.str
  | _, _, _, .nil, e => by cases e; rfl
  | _, _, _, .cons (d := d) h r, e => by
    cases d with
    | str b =>
      simp only [textsD, Option.map_eq_some_iff] at e
      obtain ⟨bs, e, rfl⟩ := e
      cases h
      rw [texts_is r e]; rfl
    | _ => simp [textsD] at e
theorem IsL.strs {p : Pw} {G : Hp} : ∀ ys : List Str, IsL p G (ys.map V.str) (ys.map D.str)
  | [] => .nil
  | y :: ys => .cons (.str y) (IsL.strs ys)
def gJoin (a : Str) (y : S) : Res R := match y.items with
  | some ds => (match textsD ds with | some ys => if (ys.map (·.length)).sum + ys.length * a.length ≤ 16777216 then .ok (.fz (.str (Txt.join a ys))) else .bad | none => .bad)
  | _ => .bad
def gSplit (a : Str) (y : S) : Res R := match y.str? with
  | some b => if (b.length == 0) = false ∧ a.length + 2 ≤ sizeLine then newL ((Txt.split a b).map D.str) else .bad
  | _ => .bad
def fM1 (g : Str → S → Res R) (fo fe : Env → Res R) : Env → Res R := fun env => (fo env).bind fun x => match x.st.str? with
  | some a => (fe env).bind fun y => g a y.st
  | none => .bad
section
variable {o e : Expr} {to te : TE} {fo fe : Env → Res R} {apos pos : Pos}
theorem ev_m1 {p : Pw} {r : V → List V → Hp → VK → Prop} {g : Str → S → Res R} (ho : EvR p E to fo) (he : EvR p E te fe) (hr : ∀ G H a y sy, Ex G H → RepS p G H y sy → ∀ Q E, Wish p Q E G H (g a sy) → r (.str a) [y] H Q) : EvR p E (tM1 r to te) (fM1 g fo fe) := by
  intro G0 H0 G H σ env s Q w
  refine ho.to s (ok := okR p Q) w (fun _ _ g' _ h => h.grow g') fun rx x G1 H1 g1 rep1 w1 => ?_
  cases q : rx.st.str? with
  | none => rw [q] at w1; exact w1.elim
  | some a =>
    rw [q] at w1
    refine ⟨⟨a, rep1.str q⟩, ?_⟩
    refine he.to (s.grow g1) (ok := okR p Q) w1 (fun _ _ g' _ h => h.grow g') fun ry y G2 H2 g2 rep2 w2 => ?_
    have := rep1.str q
    subst this
    exact hr G2 H2 a y ry.st g2.gh rep2 Q (E σ) w2
theorem de_join (ho : DE X T E o to fo) (he : DE X T E e te fe) (hs : starEach [e] X.env = [(false, eval e X.env)] := by rfl) (hbase : attributeBase o "join" X.env (eval o X.env) = eval o X.env := by rfl) (hline : (apos.endLine == pos.line) = true := by rfl) :
    DE X T E (.Call (.Attribute o "join" apos) [e] [] pos) (tM1 (fun x xs H Q => ∃ a p, ∃ ys : List Str, x = .str a ∧ xs = [.ref p] ∧ (SqL X.K H p (ys.map V.str) ∨ SqT X.K H p (ys.map V.str)) ∧
      (ys.map (·.length)).sum + ys.length * a.length ≤ 16777216 ∧ Q (.str (Txt.join a ys)) H) to te) (fM1 gJoin fo fe) := by
  refine ⟨pe_join ho.pe he.pe hs hbase hline, ev_m1 ho.ev he.ev fun G H a y sy ex ry Q E w => ?_⟩
  unfold gJoin at w
  cases q1 : sy.items with
  | none => rw [q1] at w; exact w.elim
  | some ds =>
    rw [q1] at w
    dsimp only at w
    cases q2 : textsD ds with
    | none => rw [q2] at w; exact w.elim
    | some ys =>
      rw [q2] at w
      dsimp only at w
      by_cases hz : (ys.map (·.length)).sum + ys.length * a.length ≤ 16777216
      · rw [if_pos hz] at w
        obtain ⟨b, vs, rfl, h1, i1⟩ := ry.items ex q1
        have := texts_is i1 q2
        subst this
        exact ⟨a, b, ys, rfl, rfl, .inl (SqL.of h1), hz, wish_at ex w (.str _)⟩
      · rw [if_neg hz] at w; exact w.elim
theorem de_split (ho : DE X T E o to fo) (he : DE X T E e te fe) (hs : starEach [e] X.env = [(false, eval e X.env)] := by rfl) (hbase : attributeBase o "split" X.env (eval o X.env) = eval o X.env := by rfl) (hline : (apos.endLine == pos.line) = true := by rfl) :
    DE X T E (.Call (.Attribute o "split" apos) [e] [] pos) (tM1 (fun x xs H Q => ∃ a b, x = .str a ∧ xs = [.str b] ∧ (b.length == 0) = false ∧ a.length + 2 ≤ sizeLine ∧ rNewStrs (Txt.split a b) H Q) to te) (fM1 gSplit fo fe) := by
  refine ⟨pe_split ho.pe he.pe hs hbase hline, ev_m1 ho.ev he.ev fun G H a y sy ex ry Q E w => ?_⟩
  unfold gSplit at w
  cases q1 : sy.str? with
  | none => rw [q1] at w; exact w.elim
  | some b =>
    rw [q1] at w
    dsimp only at w
    by_cases hz : (b.length == 0) = false ∧ a.length + 2 ≤ sizeLine
    · rw [if_pos hz] at w
      exact ⟨a, b, rfl, by rw [ry.str q1], hz.1, hz.2, fun p n => wish_newL ex w (IsL.strs _) n⟩
    · rw [if_neg hz] at w; exact w.elim
end

/-! ### fields -/
structure FldOk (K : PySem.W.Frag) (T : CT) (c : Nat) : Prop where
  cl : Cls K (T.C c)
  no : ∀ f ∈ fsOf c, NoAttr K (T.C c) f
theorem zip_lookup : ∀ {fs : List Str} {vs : List V} {j : Nat} {f : Str} {v : V}, fs.Nodup → fs[j]? = some f → vs[j]? = some v → (fs.zip vs).lookup f = some v
  | [], _, _, _, _, _, e, _ => by simp at e
  | _ :: _, [], _, _, _, _, _, e => by simp at e
  | g :: fs, u :: vs, 0, f, v, n, e1, e2 => by
    simp at e1 e2
    subst e1 e2
    simp [List.lookup]
  | g :: fs, u :: vs, j + 1, f, v, n, e1, e2 => by
    have e1 : fs[j]? = some f := by simpa using e1
    have e2 : vs[j]? = some v := by simpa using e2
    have n' := List.nodup_cons.mp n
    have ne : (f == g) = false := by
      simp only [beq_eq_false_iff_ne]
      intro q
      subst q
      exact n'.1 (List.mem_of_getElem? e1)
    rw [List.zip_cons_cons, List.lookup_cons, ne]
    exact zip_lookup n'.2 e1 e2
def gFld (c j : Nat) : S → Res R
  | .fz (.ins c' ds) => if c' = c then (match ds[j]? with | some d => .ok (.fz d) | none => .bad) else .bad
  | .bor (.ins c' os) => if c' = c then (match os[j]? with | some (.fz d) => .ok (.fz d) | some o => .ok (.bor o) | none => .bad) else .bad
  | _ => .bad
def f1 (g : S → Res R) (f : Env → Res R) : Env → Res R := fun env => (f env).bind fun x => g x.st
theorem de_fld {e : Expr} {te : TE} {f : Env → Res R} {x : Str} {pos : Pos} (c j : Nat) (hf : FldOk X.K T c) (he : DE X T E e te f) (hj : (fsOf c)[j]? = some x := by rfl) (hnd : (fsOf c).Nodup := by decide) (hb : attributeBase e x X.env (eval e X.env) = eval e X.env := by rfl) :
    DE X T E (.Attribute e x pos) (tFld X.K te x) (f1 (gFld c j) f) := by
  refine ⟨pe_fld he.pe hb, fun G0 H0 G H σ env s Q w => ?_⟩
  refine he.ev.to s (ok := okR (pw X T) Q) w (fun _ _ g' _ h => h.grow g') fun rx v G1 H1 g1 rep w1 => ?_
  unfold gFld at w1
  have hno : NoAttr X.K (T.C c) x := hf.no x (List.mem_of_getElem? hj)
  split at w1
  · rename_i c' ds q
    by_cases hc : c' = c
    · subst hc
      rw [if_pos rfl] at w1
      rw [q] at rep
      cases rep with
      | ins h l r =>
        cases qd : ds[j]? with
        | none => rw [qd] at w1; exact w1.elim
        | some d =>
          rw [qd] at w1
          obtain ⟨u, hu, iu⟩ := r.get qd
          exact ⟨_, T.C c', _, _, u, rfl, g1.gh _ _ h, hf.cl, hno, zip_lookup hnd hj hu, wish_at g1.gh w1 iu⟩
    · rw [if_neg hc] at w1; exact w1.elim
  · rename_i c' os q
    by_cases hc : c' = c
    · subst hc
      rw [if_pos rfl] at w1
      rw [q] at rep
      obtain ⟨as, rep⟩ := rep
      cases rep with
      | ins h g l n r =>
        cases qd : os[j]? with
        | none => rw [qd] at w1; exact w1.elim
        | some o =>
          obtain ⟨u, bs, hu, iu⟩ := r.get qd
          rw [qd] at w1
          refine ⟨_, T.C c', _, _, u, rfl, h, hf.cl, hno, zip_lookup hnd hj hu, ?_⟩
          cases o with
          | fz d => cases iu with | fz iu => exact wish_at g1.gh w1 iu
          | _ => exact w1 u G1 H1 (Grow.refl g1.gh) ⟨bs, iu⟩
    · rw [if_neg hc] at w1; exact w1.elim
  · exact w1.elim
end
end DL
namespace DL
open PySem L2

/-! ## statements -/
inductive Fl where
  | nx (env : Env)
  | rt (r : R)
  | bk (env : Env)
  | ct (env : Env)
  | ex (c : Nat) (ds : List O)
  | bad
def bindF {α : Type} (r : Res α) (k : α → Fl) : Fl :=
  match r with
  | .ok a => k a
  | .ex c ds => .ex c ds
  | .bad => .bad
@[simp] theorem bindF_ok {α : Type} (a : α) (k : α → Fl) : bindF (.ok a) k = k a := rfl
@[simp] theorem bindF_bad {α : Type} (k : α → Fl) : bindF (.bad : Res α) k = .bad := rfl
@[simp] theorem bindF_ex {α : Type} (c : Nat) (ds : List O) (k : α → Fl) : bindF (.ex c ds : Res α) k = .ex c ds := rfl
def SWish (p : Pw) (G0 H0 : Hp) (Dn : Ends) (E : XK) : Fl → Prop
  | .nx env => ∀ G H σ, SOk p G0 H0 G H σ env → Dn.nx σ H
  | .bk env => ∀ G H σ, SOk p G0 H0 G H σ env → Dn.bk σ H
  | .ct env => ∀ G H σ, SOk p G0 H0 G H σ env → Dn.ct σ H
  | .rt r => ∀ v G H, Grow G0 H0 G H → RepR p G H H0 v r → Dn.rt v H
  | .ex c ds => WX' p E G0 H0 c ds
  | .bad => False
def StR (p : Pw) (E : XK) (t : TS) (F : Env → Fl) : Prop :=
  ∀ G0 H0 G H σ env, SOk p G0 H0 G H σ env → ∀ Dn, SWish p G0 H0 Dn E (F env) → t Dn σ H
structure DS (X : Cx) (T : CT) (E : XK) (st : Stmt) (t : TS) (F : Env → Fl) : Prop where
  ps : PS X st t
  ev : StR (pw X T) E t F
structure DSs (X : Cx) (T : CT) (E : XK) (st : List Stmt) (t : TS) (F : Env → Fl) : Prop where
  ps : PSs X st t
  ev : StR (pw X T) E t F
abbrev kx (E : XK) : L2.St → XK := fun _ => E
theorem EvR.toS {p : Pw} {E : XK} {t : TE} {f : Env → Res R} (h : EvR p (kx E) t f) {G0 H0 G H : Hp} {σ : L2.St} {env : Env} (s : SOk p G0 H0 G H σ env) {Q : VK} {k : R → Fl} {Dn : Ends}
    (w : SWish p G0 H0 Dn E (bindF (f env) k)) (hk : ∀ r v G1 H1, Grow G H G1 H1 → RepR p G1 H1 H v r → SWish p G0 H0 Dn E (k r) → Q v H1) : t σ H Q := by
  refine h G0 H0 G H σ env s Q ?_
  cases e : f env with
  | ok r => rw [e] at w; exact fun v G1 H1 g rep => hk r v G1 H1 g rep w
  | ex c ds => rw [e] at w; exact WX'.grow w s.gr
  | bad => rw [e] at w; exact w
theorem EvT.toS {p : Pw} {E : XK} {t : TT} {f : Env → Res Bool} (h : EvT p (kx E) t f) {G0 H0 G H : Hp} {σ : L2.St} {env : Env} (s : SOk p G0 H0 G H σ env) {Q : Bool → Hp → Prop} {k : Bool → Fl} {Dn : Ends}
    (w : SWish p G0 H0 Dn E (bindF (f env) k)) (hk : ∀ b G1 H1, Grow G H G1 H1 → SWish p G0 H0 Dn E (k b) → Q b H1) : t σ H Q := by
  refine h G0 H0 G H σ env s Q ?_
  cases e : f env with
  | ok r => rw [e] at w; exact fun G1 H1 g => hk r G1 H1 g w
  | ex c ds => rw [e] at w; exact WX'.grow w s.gr
  | bad => rw [e] at w; exact w
/-- what a slot keeps of an answer: all frozen (m = false), or owned where it is new -/
def store (m : Bool) : R → Option O
  | .fz d => some (.fz d)
  | .new o => if m then some o else some (.fz o.frz)
  | .bor _ => none
theorem store_rep {p : Pw} {Gs Hs G H : Hp} {v : V} {r : R} {m : Bool} {o : O} (h : RepR p G H Hs v r) (g : Grow Gs Hs G H) (e : store m r = some o) : ∃ G' cs, Grow Gs Hs G' H ∧ Ex G G' ∧ Ow p G' H v o cs ∧ ∀ c ∈ cs, Hs c = none := by
  cases r with
  | fz d => cases e; exact ⟨G, [], g, Evl.Ex.refl _, .fz h, fun _ m => nomatch m⟩
  | bor o' => cases e
  | new o' =>
    cases m with
    | true =>
      cases e
      obtain ⟨as, h, f, w⟩ := h
      exact ⟨G, as, g, Evl.Ex.refl _, h, f⟩
    | false =>
      cases e
      obtain ⟨as, h, f, w⟩ := h
      have n : ∀ x ∈ as, G x = none := fun x m => (h.at x m).1
      exact ⟨frzAt G H as, [], g.frz n f, frzAt_ex n, .fz (h.frz (frzAt_ex n) (fun a m => frzAt_in m) w), fun _ m => nomatch m⟩
theorem SOk.set {p : Pw} {G0 H0 G H G1 H1 : Hp} {σ : L2.St} {env : Env} (s : SOk p G0 H0 G H σ env) (g : Grow G H G1 H1) {v : V} {o : O} {cs : List Addr} (h : Ow p G1 H1 v o cs) (f : ∀ c ∈ cs, H c = none) (i : Nat) :
    SOk p G0 H0 G1 H1 (σ.set i (some v)) (env.set i (some o)) := by
  obtain ⟨as, h1, h2⟩ := s.sl
  obtain ⟨as', h3, h4⟩ := EnvL.set h i (h1.grow g) fun c m q => by
    obtain ⟨_, u, e, _⟩ := h1.at c q
    rw [f c m] at e; cases e
  refine ⟨s.gr.trans g, as', h3, fun a m => ?_⟩
  rcases h4 a m with q | q
  · exact h2 a q
  · exact Evl.fresh_back s.gr.h (f a q)
section
variable {X : Cx} {T : CT} {E : XK}
/-! ### blocks -/
def seqF (F1 F2 : Env → Fl) : Env → Fl := fun env => match F1 env with
  | .nx env' => F2 env'
  | z => z
theorem st_seq {p : Pw} {t1 t2 : TS} {F1 F2 : Env → Fl} (h1 : StR p E t1 F1) (h2 : StR p E t2 F2) : StR p E (tSeq t1 t2) (seqF F1 F2) := by
  intro G0 H0 G H σ env s Dn w
  refine h1 G0 H0 G H σ env s _ ?_
  unfold seqF at w
  cases e : F1 env with
  | nx env' => rw [e] at w; exact fun G1 H1 σ1 s1 => h2 G0 H0 G1 H1 σ1 env' s1 Dn w
  | rt r => rw [e] at w; exact w
  | bk r => rw [e] at w; exact w
  | ct r => rw [e] at w; exact w
  | ex c ds => rw [e] at w; exact w
  | bad => rw [e] at w; exact w
section
variable {st : Stmt} {rest : List Stmt} {t u : TS} {F F2 : Env → Fl} {pos : Pos}
def nextF : Env → Fl := fun env => .nx env
theorem dss_nil : DSs X T E [] tNext nextF := ⟨pss_nil, fun G0 H0 G H σ env s Dn w => w G H σ s⟩
theorem dss_cons (h1 : DS X T E st t F) (h2 : DSs X T E rest u F2) : DSs X T E (st :: rest) (tSeq t u) (seqF F F2) := ⟨pss_cons h1.ps h2.ps, st_seq h1.ev h2.ev⟩
theorem dss_one (h1 : DS X T E st t F) : DSs X T E [st] t F := ⟨pss_one h1.ps, h1.ev⟩
theorem ds_pass : DS X T E (.Pass pos) tNext nextF := ⟨ps_pass, fun G0 H0 G H σ env s Dn w => w G H σ s⟩
theorem ds_break : DS X T E (.Break pos) tBreak (fun env => .bk env) := ⟨ps_break, fun G0 H0 G H σ env s Dn w => w G H σ s⟩
theorem ds_continue : DS X T E (.Continue pos) tCont (fun env => .ct env) := ⟨ps_continue, fun G0 H0 G H σ env s Dn w => w G H σ s⟩
theorem ds_never : DS X T E st tNever (fun _ => .bad) := ⟨ps_never, fun G0 H0 G H σ env s Dn w => w.elim⟩
/-- what a slot owns is frozen ahead of a statement -/
def frzF (i : Nat) (F : Env → Fl) : Env → Fl := fun env => match env[i]? with
  | some (some o) => F (env.set i (some (.fz o.frz)))
  | _ => F env
end
theorem set_self {σ : L2.St} {i : Nat} {v : V} (h : σ[i]? = some (some v)) : σ.set i (some v) = σ := by
  obtain ⟨hl, e⟩ := List.getElem?_eq_some_iff.mp h
  rw [← e]
  exact List.set_getElem_self hl
theorem SOk.frz {p : Pw} {G0 H0 G H : Hp} {σ : L2.St} {env : Env} (s : SOk p G0 H0 G H σ env) {i : Nat} {o : O} (e : env[i]? = some (some o)) (wh : O.whole o = true) : ∃ G', SOk p G0 H0 G' H σ (env.set i (some (.fz o.frz))) := by
  obtain ⟨as, h1, h2⟩ := s.sl
  obtain ⟨v, bs, as', hv, ho, hr, hd, hb, ha⟩ := h1.take e
  have n : ∀ x ∈ bs, G x = none := fun x m => (ho.at x m).1
  have g' : Grow G0 H0 (frzAt G H bs) H := s.gr.frz n fun x m => h2 x (hb x m)
  refine ⟨frzAt G H bs, g', ?_⟩
  have hr' : EnvL p (frzAt G H bs) H σ (env.set i none) as' := hr.mono (frzAt_ex n) fun a m => ⟨by rw [frzAt_out (fun q => hd a q m)]; exact (hr.at a m).1, rfl⟩
  obtain ⟨as2, h3, h4⟩ := EnvL.set (o := .fz o.frz) (v := v) (.fz (ho.frz (frzAt_ex n) (fun a m => frzAt_in m) wh)) i hr' (fun c m => nomatch m)
  rw [set_self hv, List.set_set] at h3
  refine ⟨as2, h3, fun a m => ?_⟩
  rcases h4 a m with q | q
  · exact h2 a (ha a q)
  · cases q
/-- ahead of a block slot i is frozen (a word of the proof alone) -/
def frzK (i : Nat) (F : Env → Fl) : Env → Fl := fun env => match env[i]? with
  | some (some o) => if O.whole o then F (env.set i (some (.fz o.frz))) else .bad
  | _ => .bad
theorem st_frz {p : Pw} {t : TS} {F : Env → Fl} (i : Nat) (h : StR p E t F) : StR p E t (frzK i F) := by
  intro G0 H0 G H σ env s Dn w
  unfold frzK at w
  split at w
  · rename_i o e
    by_cases hw : O.whole o = true
    · rw [if_pos hw] at w
      obtain ⟨G', s'⟩ := s.frz e hw
      exact h G0 H0 G' H σ _ s' Dn w
    · rw [if_neg hw] at w; exact w.elim
  · exact w.elim
theorem dss_frz {sts : List Stmt} {t : TS} {F : Env → Fl} (i : Nat) (h : DSs X T E sts t F) : DSs X T E sts t (frzK i F) := ⟨h.ps, st_frz i h.ev⟩
theorem ds_frz {sts : Stmt} {t : TS} {F : Env → Fl} (i : Nat) (h : DS X T E sts t F) : DS X T E sts t (frzK i F) := ⟨h.ps, st_frz i h.ev⟩

/-! ### name = e; return e; e alone; if -/
section
variable {e : Expr} {te : TE} {f : Env → Res R} {pos pos' : Pos}
def setF (m : Bool) (i : Nat) (f : Env → Res R) : Env → Fl := fun env => bindF (f env) fun r => match store m r with | some o => .nx (env.set i (some o)) | none => .bad
theorem st_set {p : Pw} (m : Bool) (i : Nat) (h : EvR p (kx E) te f) : StR p E (tAsg te (gName i)) (setF m i f) := by
  intro G0 H0 G H σ env s Dn w
  refine h.toS s w fun r v G1 H1 g rep w1 => ?_
  cases q : store m r with
  | none => rw [q] at w1; exact w1.elim
  | some o =>
    rw [q] at w1
    obtain ⟨G', cs, g', ex, ho, fr⟩ := store_rep rep g q
    exact w1 G' H1 _ (s.set g' ho fr i)
theorem ds_set (m : Bool) (i : Nat) {x : Str} (hN : X.N.Nodup) (he : DE X T (kx E) e te f) (hi : X.N[i]? = some x := by rfl) (hx : Loc X.env.scope x := by first | exact Or.inl rfl | exact Or.inr rfl) (hs : swapsWith e (some (.Name x pos')) pos.line X.env = pure false := by rfl)
    (hf : X.fn x = true ∨ X.env.scope.names.lookup x = some .local := by first | exact .inl rfl | exact .inr rfl) :
    DS X T E (.Assign [.Name x pos'] e pos) (tAsg te (gName i)) (setF m i f) := ⟨ps_set hN hi hx he.pe hs hf, st_set m i he.ev⟩
def retF (f : Env → Res R) : Env → Fl := fun env => bindF (f env) fun r => match r with
  | .bor _ => .bad
  | r => .rt r
theorem st_ret {p : Pw} (h : EvR p (kx E) te f) : StR p E (tRet te) (retF f) := by
  intro G0 H0 G H σ env s Dn w
  refine h.toS s w fun r v G1 H1 g rep w1 => ?_
  cases r with
  | fz d => exact w1 v G1 H1 (s.gr.trans g) rep
  | new o => exact w1 v G1 H1 (s.gr.trans g) (rep.back s.gr.h)
  | bor o => exact w1.elim
/-- return x: what the slot owns goes out as new -/
def retVF (i : Nat) : Env → Fl := fun env => match env[i]? with
  | some (some (.fz d)) => .rt (.fz d)
  | some (some o) => if O.whole o then .rt (.new o) else .bad
  | _ => .bad
theorem st_retV {p : Pw} (i : Nat) : StR p E (tRet (tVar i)) (retVF i) := by
  intro G0 H0 G H σ env s Dn w
  unfold retVF at w
  obtain ⟨as, sl, fr⟩ := s.sl
  split at w
  · rename_i d e
    obtain ⟨v, bs, h1, h2, _⟩ := sl.get e
    cases h2 with | fz h2 => exact ⟨v, h1, w v G H s.gr h2⟩
  · rename_i o _ e
    by_cases hw : O.whole o = true
    · rw [if_pos hw] at w
      obtain ⟨v, bs, h1, h2, hb⟩ := sl.get e
      exact ⟨v, h1, w v G H s.gr ⟨bs, h2, fun a m => fr a (hb a m), hw⟩⟩
    · rw [if_neg hw] at w; exact w.elim
  · exact w.elim
theorem ds_retV (i : Nat) {x : Str} {pos2 : Pos} (hN : X.N[i]? = some x := by rfl) (hv : Vis X.env.scope x := by first | exact Or.inl rfl | exact Or.inr (Or.inl rfl) | exact Or.inr (Or.inr rfl)) (hd : (x == ("__debug__" : Str)) = false := by decide)
    (hcd : (x == ("__classdict__" : Str)) = false := by decide) : DS X T E (.Return (some (.Name x pos2)) pos) (tRet (tVar i)) (retVF i) := ⟨ps_ret (pe_var hN hv hd hcd), st_retV i⟩
theorem ds_ret (he : DE X T (kx E) e te f) : DS X T E (.Return (some e) pos) (tRet te) (retF f) := ⟨ps_ret he.pe, st_ret he.ev⟩
theorem ds_retN : DS X T E (.Return none pos) tRetN (fun _ => .rt (.fz .non)) := ⟨ps_retN, fun G0 H0 G H σ env s Dn w => w .non G H s.gr .non⟩
def dropF (f : Env → Res R) : Env → Fl := fun env => bindF (f env) fun _ => .nx env
theorem st_drop {p : Pw} {e : Expr} {te : TE} {f : Env → Res R} (h : EvR p (kx E) te f) : StR p E (tDrop te) (dropF f) := by
  intro G0 H0 G H σ env s Dn w
  refine h.toS s w fun r v G1 H1 g rep w1 => ?_
  exact w1 G1 H1 σ (s.grow g)
theorem ds_drop (he : DE X T (kx E) e te f) (hs : swapsWith e none pos.line X.env = pure false := by rfl) : DS X T E (.Expr e pos) (tDrop te) (dropF f) := ⟨ps_expr he.pe hs, st_drop (e := e) he.ev⟩
end
section
variable {c : Expr} {a b : List Stmt} {tc : TT} {t u : TS} {fc : Env → Res Bool} {F F2 : Env → Fl} {pos : Pos}
def ifF (fc : Env → Res Bool) (F F2 : Env → Fl) : Env → Fl := fun env => bindF (fc env) fun k => if k then F env else F2 env
theorem st_if {p : Pw} (hc : EvT p (kx E) tc fc) (ha : StR p E t F) (hb : StR p E u F2) : StR p E (tIfS tc t u) (ifF fc F F2) := by
  intro G0 H0 G H σ env s Dn w
  refine hc.toS s w fun k G1 H1 g w1 => ?_
  cases k with
  | true => rw [if_pos rfl] at w1 ⊢; exact ha G0 H0 G1 H1 σ env (s.grow g) Dn w1
  | false => rw [if_neg Bool.false_ne_true] at w1 ⊢; exact hb G0 H0 G1 H1 σ env (s.grow g) Dn w1
theorem ds_if (hc : DT X T (kx E) c tc fc) (ha : DSs X T E a t F) (hb : DSs X T E b u F2) : DS X T E (.If c a b pos) (tIfS tc t u) (ifF fc F F2) := ⟨ps_if hc.pt ha.ps hb.ps, st_if hc.ev ha.ev hb.ev⟩
end

/-! ### targets -/
/-- storing d changes the slots ks alone -/
def GtR (p : Pw) (g : TG) (ks : List Nat) (gf : D → Env → Option Env) : Prop :=
  ∀ G0 H0 G H σ env v d env', SOk p G0 H0 G H σ env → Is p G v d → gf d env = some env' → ∀ Q, (∀ σ', SOk p G0 H0 G H σ' env' → (∀ vs, (∀ k ∈ ks, k ∈ vs) → wipe σ' vs = wipe σ vs) → Q σ' H) → g v σ H Q
structure DG (X : Cx) (T : CT) (tg : Expr) (g : TG) (ks : List Nat) (gf : D → Env → Option Env) : Prop where
  pg : PG X tg g
  ev : GtR (pw X T) g ks gf
theorem wipe_in {σ : L2.St} {i : Nat} {x : Option V} : ∀ {vs : List Nat}, i ∈ vs → wipe (σ.set i x) vs = wipe σ vs
  | v :: vs, h => by
    show (wipe (σ.set i x) vs).set v none = (wipe σ vs).set v none
    by_cases q : i ∈ vs
    · rw [wipe_in q]
    · have e : i = v := by rcases List.mem_cons.mp h with r | r; exact r; exact absurd r q
      subst e
      have : ∀ ws : List Nat, wipe (σ.set i x) ws = (wipe σ ws).set i x ∨ i ∈ ws := by
        intro ws
        induction ws with
        | nil => exact .inl rfl
        | cons w ws ih =>
          by_cases r : i = w
          · exact .inr (by rw [r]; exact List.mem_cons_self)
          · rcases ih with ih | ih
            · left
              show (wipe (σ.set i x) ws).set w none = ((wipe σ ws).set w none).set i x
              rw [ih, List.set_comm _ _ r]
            · exact .inr (List.mem_cons_of_mem _ ih)
      rcases this vs with r | r
      · rw [r, List.set_set]
      · exact absurd r q
def gfName (i : Nat) : D → Env → Option Env := fun d env => some (env.set i (some (.fz d)))
theorem gt_name {p : Pw} (i : Nat) : GtR p (gName i) [i] (gfName i) := by
  intro G0 H0 G H σ env v d env' s h e Q k
  cases e
  exact k _ (s.set (Grow.refl s.gr.gh) (.fz h) (fun _ m => nomatch m) i) fun vs m => wipe_in (m i List.mem_cons_self)
theorem dg_name (i : Nat) {x : Str} {pos : Pos} (hN : X.N.Nodup) (hi : X.N[i]? = some x := by rfl) (hx : Loc X.env.scope x := by first | exact Or.inl rfl | exact Or.inr rfl)
    (hf : X.fn x = true ∨ X.env.scope.names.lookup x = some .local := by first | exact .inl rfl | exact .inr rfl) : DG X T (.Name x pos) (gName i) [i] (gfName i) := ⟨pg_name hN hi hx hf, gt_name i⟩
/-- several targets -/
def GtsR (p : Pw) (g : TGs) (ks : List Nat) (gf : List D → Env → Option Env) : Prop :=
  ∀ G0 H0 G H σ env vs ds env', SOk p G0 H0 G H σ env → IsL p G vs ds → gf ds env = some env' → ∀ Q, (∀ σ', SOk p G0 H0 G H σ' env' → (∀ vs, (∀ k ∈ ks, k ∈ vs) → wipe σ' vs = wipe σ vs) → Q σ' H) → g vs σ H Q
structure DGs (X : Cx) (T : CT) (tg : List Expr) (g : TGs) (ks : List Nat) (gf : List D → Env → Option Env) : Prop where
  pg : PGs X tg g
  ev : GtsR (pw X T) g ks gf
def gfNil : List D → Env → Option Env
  | [], env => some env
  | _, _ => none
def gfCons (g : D → Env → Option Env) (gs : List D → Env → Option Env) : List D → Env → Option Env
  | d :: ds, env => (g d env).bind (gs ds)
  | [], _ => none
theorem dgs_nil : DGs X T [] gNil [] gfNil := ⟨pgs_nil, fun G0 H0 G H σ env vs ds env' s h e Q k => by
  cases h with
  | nil => cases e; exact ⟨rfl, k σ s fun _ _ => rfl⟩
  | cons _ _ => cases e⟩
theorem dgs_cons {e : Expr} {es : List Expr} {t : TG} {u : TGs} {k1 k2 : List Nat} {g1 : D → Env → Option Env} {g2 : List D → Env → Option Env} (h1 : DG X T e t k1 g1) (h2 : DGs X T es u k2 g2)
    (hs : (assignEach (e :: es) X.env).map (·.2) = assign e X.env :: (assignEach es X.env).map (·.2) := by rfl) : DGs X T (e :: es) (gCons t u) (k1 ++ k2) (gfCons g1 g2) := by
  refine ⟨pgs_cons h1.pg h2.pg hs, fun G0 H0 G H σ env vs ds env' s h e Q k => ?_⟩
  cases h with
  | nil => cases e
  | cons hv hr =>
    rename_i v vs d ds
    simp only [gfCons, Option.bind_eq_some_iff] at e
    obtain ⟨env1, e1, e2⟩ := e
    refine ⟨v, vs, rfl, h1.ev G0 H0 G H σ env v d env1 s hv e1 _ fun σ1 s1 w1 => ?_⟩
    refine h2.ev G0 H0 G H σ1 env1 vs ds env' s1 hr e2 Q fun σ2 s2 w2 => ?_
    exact k σ2 s2 fun ws m => (w2 ws fun x q => m x (List.mem_append_right _ q)).trans (w1 ws fun x q => m x (List.mem_append_left _ q))
def gfTup (n : Nat) (g : List D → Env → Option Env) : D → Env → Option Env
  | .tup ds, env => if ds.length = n then g ds env else none
  | _, _ => none
theorem dg_tup {es : List Expr} {k : Nat} {t : TGs} {n : Nat} {ks : List Nat} {gf : List D → Env → Option Env} {pos : Pos} (hc : X.calm = true) (h : DGs X T es t ks gf)
    (hn : (assignEach es X.env).length = n := by rfl) (hst : (assignEach es X.env).findIdx? (·.1) = none := by rfl) : DG X T (.Tuple es k pos) (gTup X.K n t) ks (gfTup n gf) := by
  refine ⟨pg_tup hc h.pg hn hst, fun G0 H0 G H σ env v d env' s hd e Q k => ?_⟩
  unfold gfTup at e
  split at e
  · rename_i ds
    by_cases q : ds.length = n
    · rw [if_pos q] at e
      cases hd with
      | tup hq hr => exact ⟨_, _, rfl, sqT_mono s.gr.gh hq, hr.length.trans q, h.ev G0 H0 G H σ env _ ds env' s hr e Q k⟩
    · rw [if_neg q] at e; cases e
  · cases e

/-! ### what is walked -/
/-- x tells the i-th of ds; it may be new, then it is frozen -/
def YD (p : Pw) (G : Hp) (ds : List D) (i : Nat) (H : Hp) (x : V) (H' : Hp) : Prop := ∃ d, ds[i]? = some d ∧ ∀ Gc, Ex G Gc → Ex Gc H → ∃ Gd, Grow Gc H Gd H' ∧ Is p Gd x d
theorem yd_same {p : Pw} {G : Hp} {ds : List D} {i : Nat} {H : Hp} {x : V} {H' : Hp} (y : H' = H ∧ ∃ d, ds[i]? = some d ∧ Is p G x d) : YD p G ds i H x H' := by
  obtain ⟨rfl, d, e, h⟩ := y
  exact ⟨d, e, fun Gc e1 e2 => ⟨Gc, Grow.refl e2, h.mono e1⟩⟩
def WalkD (p : Pw) (J : It) (Gw G : Hp) (ds : List D) : Prop := L2.Walk J ds.length (fun H => Ex Gw H) (YD p G ds)
def okI (p : Pw) (R : It → Hp → Prop) (n : Bool) (G H : Hp) : List D → Prop := fun ds => ∀ J G2 H2, Grow G H G2 H2 → WalkD p J (if n then G2 else H2) G2 ds → R J H2
theorem okI.grow {p : Pw} {R : It → Hp → Prop} {n : Bool} {G H G' H' : Hp} {r : List D} (h : okI p R n G H r) (g : Grow G H G' H') : okI p R n G' H' r :=
  fun J G2 H2 g2 => h J G2 H2 (g.trans g2)
/-- n = true: what is walked is frozen -/
def EvI (p : Pw) (E : L2.St → XK) (n : Bool) (wi : TI) (fi : Env → Res (List D)) : Prop :=
  ∀ G0 H0 G H σ env, SOk p G0 H0 G H σ env → ∀ R, WishG p (E σ) G H (okI p R n G H) (fi env) → wi σ H R
structure DI (X : Cx) (T : CT) (E : L2.St → XK) (n : Bool) (tg iter : Expr) (wi : TI) (fi : Env → Res (List D)) : Prop where
  pi : PI X tg iter wi
  ev : EvI (pw X T) E n wi fi
def itemsI (n : Bool) (r : R) : Res (List D) := match r.st with
  | .fz (.lst ds) => .ok ds
  | .fz (.scr ns) => .ok (ns.map D.int)
  | .bor (.lst os) => if n then .bad else (match itemsF os with | some ds => .ok ds | none => .bad)
  | _ => .bad
theorem walk_isL {p : Pw} {K : PySem.W.Frag} {G Gw : Hp} {a : Addr} {vs : List V} {ds : List D} (h : ∀ H, Ex Gw H → SqL K H a vs) (r : IsL p G vs ds) : WalkD p (Itl K a) Gw G ds := by
  have w := (walk_list (K := K) (a := a) (xs := vs)).mono (G' := fun H => Ex Gw H) (Y' := YD p G ds) h fun i H x H' _ _ y => yd_same ⟨y.1, r.getV y.2⟩
  rw [r.length] at w
  exact w
theorem ints_isL {p : Pw} {G : Hp} : ∀ ns : List Int, IsL p G (ns.map V.int) (ns.map D.int)
  | [] => .nil
  | n :: ns => .cons (.int n) (ints_isL ns)
theorem di_list {E : L2.St → XK} {n : Bool} {tg l : Expr} {tl : TE} {f : Env → Res R} (h : DE X T E l tl f) : DI X T E n tg l (iList X.K tl) (fun env => (f env).bind (itemsI n)) := by
  refine ⟨pi_list h.pe, fun G0 H0 G H σ env s R w => ?_⟩
  refine h.ev.to s (ok := okI (pw X T) R n) w (fun _ _ g' _ h => h.grow g') fun r v G1 H1 g rep w1 => ?_
  unfold itemsI at w1
  have sub : ∀ {H}, Ex (if n then G1 else H1) H → Ex G1 H := fun {H} e => by
    cases n with
    | true => exact e
    | false => exact g.gh.trans e
  split at w1
  · rename_i ds q
    rw [q] at rep
    cases rep with
    | lst ha hr => exact ⟨_, rfl, ⟨_, SqL.of (g.gh _ _ ha)⟩, w1 _ G1 H1 (Grow.refl g.gh) (walk_isL (fun H e => SqL.of (sub e _ _ ha)) hr)⟩
  · rename_i ns q
    rw [q] at rep
    cases rep with
    | scr ha => exact ⟨_, rfl, ⟨_, sqL_mono g.gh ha⟩, w1 _ G1 H1 (Grow.refl g.gh) (walk_isL (fun H e => sqL_mono (sub e) ha) (ints_isL ns))⟩
  · rename_i os q
    rw [q] at rep
    cases n with
    | true => rw [if_pos rfl] at w1; exact w1.elim
    | false =>
      rw [if_neg Bool.false_ne_true] at w1
      obtain ⟨as, ho⟩ := rep
      cases ho with
      | lst ha hg hn hr =>
        cases q2 : itemsF os with
        | none => rw [q2] at w1; exact w1.elim
        | some ds =>
          rw [q2] at w1
          exact ⟨_, rfl, ⟨_, SqL.of ha⟩, w1 _ G1 H1 (Grow.refl g.gh) (walk_isL (fun H e => SqL.of (e _ _ ha)) (itemsF_is hr q2))⟩
  · exact w1.elim
/-- for over a tuple -/
def itemsT (r : R) : Res (List D) := match r.st with
  | .fz (.tup ds) => .ok ds
  | _ => .bad
theorem di_tup {E : L2.St → XK} {n : Bool} {tg l : Expr} {tl : TE} {f : Env → Res R} (h : DE X T E l tl f) : DI X T E n tg l (iTup X.K tl) (fun env => (f env).bind itemsT) := by
  refine ⟨pi_tup h.pe, fun G0 H0 G H σ env s R w => ?_⟩
  refine h.ev.to s (ok := okI (pw X T) R n) w (fun _ _ g' _ h => h.grow g') fun r v G1 H1 g rep w1 => ?_
  unfold itemsT at w1
  have sub : ∀ {H}, Ex (if n then G1 else H1) H → Ex G1 H := fun {H} e => by
    cases n with
    | true => exact e
    | false => exact g.gh.trans e
  split at w1
  · rename_i ds q
    rw [q] at rep
    cases rep with
    | tup ha hr =>
      refine ⟨_, rfl, ⟨_, sqT_mono g.gh ha⟩, w1 _ G1 H1 (Grow.refl g.gh) ?_⟩
      have w := (walk_tup (K := X.K)).mono (G' := fun H => Ex (if n then G1 else H1) H) (Y' := YD (pw X T) G1 ds) (fun H e => sqT_mono (sub e) ha) fun i H x H' _ _ y => yd_same ⟨y.1, hr.getV y.2⟩
      rw [hr.length] at w
      exact w
  · exact w1.elim
def rangeD (lo : Int) (n : Nat) : List D := (List.range n).map fun i => D.int (lo + (i : Nat))
theorem walk_rangeD {p : Pw} {Gw G : Hp} (lo : Int) (n : Nat) : WalkD p (Itr lo n) Gw G (rangeD lo n) := by
  have w := (walk_range (lo := lo) (n := n)).mono (G' := fun H => Ex Gw H) (Y' := YD p G (rangeD lo n)) (fun _ _ => trivial) fun i H x H' hi _ y => yd_same ⟨y.1, by
    refine ⟨.int (lo + (i : Nat)), ?_, by rw [y.2]; exact .int _⟩
    simp [rangeD, hi]⟩
  have e : (rangeD lo n).length = n := by simp [rangeD]
  unfold WalkD
  rw [e]
  exact w
def rng1 : List S → Res (List D)
  | [x] => (match x.int? with | some j => if -(2 ^ 62) ≤ j ∧ j < 2 ^ 62 then .ok (rangeD 0 j.toNat) else .bad | none => .bad)
  | _ => .bad
def rng2 : List S → Res (List D)
  | [x, y] => (match x.int?, y.int? with | some i, some j => if -(2 ^ 62) ≤ i ∧ i < 2 ^ 62 ∧ -(2 ^ 62) ≤ j ∧ j < 2 ^ 62 then .ok (rangeD i (j - i).toNat) else .bad | _, _ => .bad)
  | _ => .bad
theorem di_range1 {E : L2.St → XK} {n : Bool} {tg a : Expr} {ta : TA} {fr : Env → Res (List S)} {p pos : Pos} (hm : X.mg "range" = none) (h : DA X T E [a] ta fr) (hg : Gl X "range" := by rfl) (hs : starEach [a] X.env = [(false, eval a X.env)] := by rfl) :
    DI X T E n tg (.Call (.Name "range" p) [a] [] pos) (iRng1 ta) (fun env => (fr env).bind rng1) := by
  refine ⟨pi_range1 hg hm h.pa hs, fun G0 H0 G H σ env s R w => ?_⟩
  refine h.ev.to s (ok := okI (pw X T) R n) w (fun _ _ g' _ h => h.grow g') fun ss vs G1 H1 g rep w1 => ?_
  unfold rng1 at w1
  split at w1
  · rename_i x
    cases rep with
    | cons hx hr =>
      cases hr
      cases q : x.int? with
      | none => rw [q] at w1; exact w1.elim
      | some j =>
        rw [q] at w1
        dsimp only at w1
        by_cases c : -(2 ^ 62) ≤ j ∧ j < 2 ^ 62
        · rw [if_pos c] at w1
          exact ⟨j, by rw [hx.int q], c.1, c.2, w1 _ G1 H1 (Grow.refl g.gh) (walk_rangeD 0 _)⟩
        · rw [if_neg c] at w1; exact w1.elim
  · exact w1.elim
theorem di_range2 {E : L2.St → XK} {n : Bool} {tg a b : Expr} {ta : TA} {fr : Env → Res (List S)} {p pos : Pos} (hm : X.mg "range" = none) (h : DA X T E [a, b] ta fr) (hg : Gl X "range" := by rfl) (hs : starEach [a, b] X.env = [(false, eval a X.env), (false, eval b X.env)] := by rfl) (hs2 : starEach [b] X.env = [(false, eval b X.env)] := by rfl) :
    DI X T E n tg (.Call (.Name "range" p) [a, b] [] pos) (iRng2 ta) (fun env => (fr env).bind rng2) := by
  refine ⟨pi_range2 hg hm h.pa hs hs2, fun G0 H0 G H σ env s R w => ?_⟩
  refine h.ev.to s (ok := okI (pw X T) R n) w (fun _ _ g' _ h => h.grow g') fun ss vs G1 H1 g rep w1 => ?_
  unfold rng2 at w1
  split at w1
  · rename_i x y
    cases rep with
    | cons hx hr =>
      cases hr with
      | cons hy hr =>
        cases hr
        cases q : x.int? with
        | none => rw [q] at w1; exact w1.elim
        | some i =>
          cases q2 : y.int? with
          | none => rw [q, q2] at w1; exact w1.elim
          | some j =>
            rw [q, q2] at w1
            dsimp only at w1
            by_cases c : -(2 ^ 62) ≤ i ∧ i < 2 ^ 62 ∧ -(2 ^ 62) ≤ j ∧ j < 2 ^ 62
            · rw [if_pos c] at w1
              exact ⟨i, j, by rw [hx.int q, hy.int q2], c, w1 _ G1 H1 (Grow.refl g.gh) (walk_rangeD i _)⟩
            · rw [if_neg c] at w1; exact w1.elim
  · exact w1.elim

/-! ### for -/
def loopF (gf : D → Env → Option Env) (F : Env → Fl) : List D → Env → Fl
  | [], env => .nx env
  | d :: ds, env => (match gf d env with
    | none => .bad
    | some env1 => (match F env1 with
      | .nx env2 => loopF gf F ds env2
      | .ct env2 => loopF gf F ds env2
      | .bk env2 => .nx env2
      | z => z))
def forF (fi : Env → Res (List D)) (gf : D → Env → Option Env) (F : Env → Fl) : Env → Fl := fun env => bindF (fi env) fun ds => loopF gf F ds env
/-- another base: what stood, and what is frozen by now -/
def uni (H G : Hp) : Hp := fun a => match H a with | some o => some o | none => G a
theorem SOk.rebase {p : Pw} {G0 H0 G H : Hp} {σ : L2.St} {env : Env} (s : SOk p G0 H0 G H σ env) : SOk p G (uni H0 G) G H σ env ∧ Grow G0 H0 G (uni H0 G) := by
  have exu : Ex (uni H0 G) H := fun a o h => by
    unfold uni at h
    cases q : H0 a with
    | some u => rw [q] at h; cases h; exact s.gr.h a _ q
    | none => rw [q] at h; exact s.gr.gh a o h
  have gu : Ex G (uni H0 G) := fun a o h => by
    unfold uni
    cases q : H0 a with
    | some u =>
      have e1 := s.gr.h a u q
      have e2 := s.gr.gh a o h
      rw [e1] at e2; exact e2
    | none => exact h
  have hu : Ex H0 (uni H0 G) := fun a o h => by unfold uni; rw [h]
  refine ⟨⟨⟨Evl.Ex.refl _, s.gr.gh, exu, fun a o h _ n => n⟩, ?_⟩, ⟨s.gr.g, gu, hu, s.gr.keep⟩⟩
  obtain ⟨as, h1, h2⟩ := s.sl
  refine ⟨as, h1, fun a m => ?_⟩
  unfold uni
  rw [h2 a m]
  exact (h1.at a m).1
theorem SOk.base {p : Pw} {G0 H0 G1 H1 G H : Hp} {σ : L2.St} {env : Env} (s : SOk p G1 H1 G H σ env) (g : Grow G0 H0 G1 H1) : SOk p G0 H0 G H σ env :=
  ⟨g.trans s.gr, let ⟨as, h1, h2⟩ := s.sl; ⟨as, h1, fun a m => Evl.fresh_back g.h (h2 a m)⟩⟩
theorem SWish.grow {p : Pw} {G0 H0 G1 H1 : Hp} {Dn : Ends} {E : XK} {fl : Fl} (w : SWish p G0 H0 Dn E fl) (g : Grow G0 H0 G1 H1) : SWish p G1 H1 Dn E fl := by
  cases fl with
  | nx env => exact fun G H σ s => w G H σ (s.base g)
  | bk env => exact fun G H σ s => w G H σ (s.base g)
  | ct env => exact fun G H σ s => w G H σ (s.base g)
  | rt r => exact fun v G H g2 rep => w v G H (g.trans g2) (rep.back g.h)
  | ex c ds => exact WX'.grow w g
  | bad => exact w
theorem st_for {p : Pw} {wi : TI} {fi : Env → Res (List D)} {g : TG} {ks : List Nat} {gf : D → Env → Option Env} {t : TS} {F : Env → Fl} (hi : EvI p (kx E) true wi fi) (hg : GtR p g ks gf) (hb : StR p E t F) : StR p E (tFor wi g t) (forF fi gf F) := by
  intro G0 H0 G H σ env s Dn w
  refine hi G0 H0 G H σ env s _ ?_
  unfold forF at w
  cases q : fi env with
  | bad => rw [q] at w; exact w
  | ex c ds => rw [q] at w; exact WX'.grow w s.gr
  | ok ds =>
    rw [q] at w
    intro J G2 H2 g2 wk
    rw [if_pos rfl] at wk
    obtain ⟨s2, gb⟩ := (s.grow g2).rebase
    have w2 : SWish p G2 (uni H0 G2) Dn E (loopF gf F ds env) := SWish.grow w gb
    refine for_it wk (fun i σ' H' => ∃ G' env', SOk p G2 (uni H0 G2) G' H' σ' env' ∧ SWish p G2 (uni H0 G2) Dn E (loopF gf F (ds.drop i) env')) ⟨G2, env, s2, w2⟩ ?_ ?_ ?_
    · rintro i σ' H' hi' ⟨G', env', s', _⟩
      exact s'.gr.g.trans s'.gr.gh
    · rintro i x σ' H' H'' hi' ⟨G', env', s0, w'⟩ ⟨d, hd, id⟩
      obtain ⟨G', g3, id⟩ := id G' s0.gr.g s0.gr.gh
      have s' := s0.grow g3
      have ed : ds.drop i = d :: ds.drop (i + 1) := by
        obtain ⟨hl, e⟩ := List.getElem?_eq_some_iff.mp hd
        rw [List.drop_eq_getElem_cons hl, e]
      rw [ed] at w'
      cases qg : gf d env' with
      | none => simp only [loopF, qg] at w'; exact w'.elim
      | some env1 =>
        simp only [loopF, qg] at w'
        refine hg G2 _ G' H'' σ' env' x d env1 s' id qg _ fun σ1 s1 _ => ?_
        refine hb G2 _ G' H'' σ1 env1 s1 _ ?_
        cases qF : F env1 with
        | bad => rw [qF] at w'; exact w'
        | ex c ds' => rw [qF] at w'; exact w'
        | rt r => rw [qF] at w'; exact w'
        | bk env2 => rw [qF] at w'; exact w'
        | nx env2 => rw [qF] at w'; exact fun G3 H3 σ3 s3 => ⟨G3, env2, s3, w'⟩
        | ct env2 => rw [qF] at w'; exact fun G3 H3 σ3 s3 => ⟨G3, env2, s3, w'⟩
    · rintro σ' H' ⟨G', env', s', w'⟩
      rw [List.drop_length] at w'
      exact w' G' H' σ' s'
theorem ds_for {tg iter : Expr} {body : List Stmt} {wi : TI} {fi : Env → Res (List D)} {g : TG} {ks : List Nat} {gf : D → Env → Option Env} {t : TS} {F : Env → Fl} {pos : Pos} (hp : PassesOwn (model X.prog X.w) X.A X.env X.xe) (hc : X.calm = true)
    (hi : DI X T (kx E) true tg iter wi fi) (hg : DG X T tg g ks gf) (hb : DSs X T E body t F) (hs : ∀ x, foldedSetIterable iter X.env x = pure x := by intro _; rfl) : DS X T E (.For tg iter body [] pos) (tFor wi g t) (forF fi gf F) :=
  ⟨ps_for hp hc hi.pi hg.pg hb.ps hs, st_for hi.ev hg.ev hb.ev⟩

/-! ### while, by fuel -/
def whileF (ft : Env → Res Bool) (F : Env → Fl) : Nat → Env → Fl
  | 0, _ => .bad
  | n + 1, env => bindF (ft env) fun k => if k then (match F env with
      | .nx env2 => whileF ft F n env2
      | .ct env2 => whileF ft F n env2
      | .bk env2 => .nx env2
      | z => z) else .nx env
theorem st_while {p : Pw} {tc : TT} {ft : Env → Res Bool} {t : TS} {F : Env → Fl} (n : Nat) (hc : EvT p (kx E) tc ft) (hb : StR p E t F) : StR p E (tWhile tc t) (whileF ft F n) := by
  intro G0 H0 G H σ env s Dn w
  refine ⟨fun m σ' H' => ∃ G' env', SOk p G0 H0 G' H' σ' env' ∧ SWish p G0 H0 Dn E (whileF ft F m env'), ⟨n, G, env, s, w⟩, ?_⟩
  rintro m σ' H' ⟨G', env', s', w'⟩
  cases m with
  | zero => exact w'.elim
  | succ m =>
    unfold whileF at w'
    refine hc.toS s' w' fun k G1 H1 g w1 => ?_
    cases k with
    | false => rw [if_neg Bool.false_ne_true] at w1 ⊢; exact w1 G1 H1 σ' (s'.grow g)
    | true =>
      rw [if_pos rfl] at w1 ⊢
      refine ⟨fun σ2 H2 => ∃ G2 env2, SOk p G0 H0 G2 H2 σ2 env2 ∧ SWish p G0 H0 Dn E (whileF ft F m env2), fun σ2 H2 h2 => ⟨m, Nat.lt_succ_self m, h2⟩, ?_⟩
      refine hb G0 H0 G1 H1 σ' env' (s'.grow g) _ ?_
      cases qF : F env' with
      | bad => rw [qF] at w1; exact w1
      | ex c ds' => rw [qF] at w1; exact w1
      | rt r => rw [qF] at w1; exact w1
      | bk env2 => rw [qF] at w1; exact w1
      | nx env2 => rw [qF] at w1; exact fun G3 H3 σ3 s3 => ⟨G3, env2, s3, w1⟩
      | ct env2 => rw [qF] at w1; exact fun G3 H3 σ3 s3 => ⟨G3, env2, s3, w1⟩
theorem ds_while {c : Expr} {body : List Stmt} {tc : TT} {ft : Env → Res Bool} {t : TS} {F : Env → Fl} {pos : Pos} (n : Nat) (hp : PassesOwn (model X.prog X.w) X.A X.env X.xe) (hc : DT X T (kx E) c tc ft) (hb : DSs X T E body t F) :
    DS X T E (.While c body [] pos) (tWhile tc t) (whileF ft F n) := ⟨ps_while hp hc.pt hb.ps, st_while n hc.ev hb.ev⟩
end
end DL
namespace DL
open PySem L2

/-! ## a slot's own thing, changed in place -/
theorem Grow.updO {G0 H0 G H : Hp} {a : Addr} {o : HO} (g : Grow G0 H0 G H) (h0 : H0 a = none) (hg : G a = none) : Grow G0 H0 G (upd H a o) :=
  ⟨g.g, fun b u h => by rw [upd_ne (ne_of_none h hg)]; exact g.gh b u h, fun b u h => by rw [upd_ne (ne_of_none h h0)]; exact g.h b u h, g.keep⟩
theorem SOk.reown {p : Pw} {G0 H0 G H : Hp} {σ : L2.St} {env : Env} (s : SOk p G0 H0 G H σ env) {i : Nat} {o : O} (e : env[i]? = some (some o)) :
    ∃ (v : V) (bs as' : List Addr), σ[i]? = some (some v) ∧ Ow p G H v o bs ∧ (∀ b ∈ bs, H0 b = none) ∧ (∀ b ∈ bs, b ∉ as') ∧ (∀ a ∈ as', G a = none ∧ ∃ u, H a = some u ∧ u.nt = true) ∧
      (∀ G' H' o' bs', Grow G0 H0 G' H' → Ex G G' → (∀ a ∈ as', G' a = none ∧ H' a = H a) → Ow p G' H' v o' bs' → (∀ b ∈ bs', b ∈ bs ∨ H b = none) → SOk p G0 H0 G' H' σ (env.set i (some o'))) ∧
      (∀ G' H', Grow G0 H0 G' H' → Ex G G' → (∀ a ∈ as', G' a = none ∧ H' a = H a) → SOk p G0 H0 G' H' σ (env.set i none)) := by
  obtain ⟨as, h1, h2⟩ := s.sl
  obtain ⟨v, bs, as', hv, ho, hr, hd, hb, ha⟩ := h1.take e
  refine ⟨v, bs, as', hv, ho, fun b m => h2 b (hb b m), hd, fun a m => hr.at a m, fun G' H' o' bs' g ex k ho' hf => ?_, fun G' H' g ex k => ⟨g, as', hr.mono ex k, fun a m => h2 a (ha a m)⟩⟩
  have hr' : EnvL p G' H' σ (env.set i none) as' := hr.mono ex k
  obtain ⟨as2, h3, h4⟩ := EnvL.set ho' i hr' fun c m q => by
    rcases hf c m with z | z
    · exact hd c z q
    · obtain ⟨_, u, e, _⟩ := hr.at c q
      rw [z] at e; cases e
  rw [set_self hv, List.set_set] at h3
  refine ⟨g, as2, h3, fun a m => ?_⟩
  rcases h4 a m with q | q
  · exact h2 a (ha a q)
  · rcases hf a q with z | z
    · exact h2 a (hb a z)
    · exact Evl.fresh_back s.gr.h z
theorem OwL.snoc {p : Pw} {G H : Hp} {y : V} {o : O} {cs : List Addr} (h : Ow p G H y o cs) : ∀ {vs : List V} {os : List O} {as : List Addr}, OwL p G H vs os as → (∀ c ∈ cs, c ∉ as) → ∃ as', OwL p G H (vs ++ [y]) (os ++ [o]) as' ∧ ∀ a ∈ as', a ∈ as ∨ a ∈ cs
  | _, _, _, .nil, _ => ⟨cs ++ [], .cons h .nil (fun _ _ => by simp), fun a m => by simpa using m⟩
  | _, _, _, .cons (as := as) (bs := bs) h1 r d, n => by
    obtain ⟨as', h2, h3⟩ := OwL.snoc h r fun c m q => n c m (List.mem_append_right _ q)
    refine ⟨as ++ as', .cons h1 h2 fun a m q => ?_, fun a m => ?_⟩
    · rcases h3 a q with z | z
      · exact d a m z
      · exact n a z (List.mem_append_left _ m)
    · rcases List.mem_append.mp m with m | m
      · exact .inl (List.mem_append_left _ m)
      · exact (h3 a m).imp (fun z => List.mem_append_right _ z) id
theorem owL_of {p : Pw} {G H : Hp} {vs ws : List V} {os : List O} {as : List Addr} {ds : List D} (h : OwL p G H vs os as) (r : IsL p G ws ds) : OwL p G H (vs ++ ws) (os ++ ds.map O.fz) as := by
  induction vs generalizing os as with
  | nil =>
    cases h
    exact owL_fz r
  | cons v vs ih =>
    cases h with
    | cons h1 h2 d => exact .cons h1 (ih h2) d
section
variable {X : Cx} {T : CT} {E : XK}
section
variable {e : Expr} {te : TE} {f : Env → Res R} {apos cpos pos pos2 : Pos}
/-! ### x.append(e) -/
def appF (m : Bool) (i : Nat) (f : Env → Res R) : Env → Fl := fun env => match env[i]? with
  | some (some (.lst os)) => if os.length < LINE then bindF (f env) fun r => (match store m r with
    | some o => .nx (env.set i (some (.lst (os ++ [o]))))
    | none => .bad) else .bad
  | _ => .bad
theorem st_app {p : Pw} (m : Bool) (i : Nat) (h : EvR p (kx E) te f) : StR p E (tDrop (tBM p.K "list" rAppend (tVar i) (tCons te tNil))) (appF m i f) := by
  intro G0 H0 G H σ env s Dn w
  unfold appF at w
  split at w
  · rename_i os e
    by_cases hl : os.length < LINE
    · rw [if_pos hl] at w
      obtain ⟨v, bs, as', hv, ho, hf, hd, ha, upd', _⟩ := s.reown e
      cases ho with
      | lst hp gp np hr =>
        rename_i a vs as1
        refine ⟨.ref a, hv, .inl ⟨rfl, _, SqL.of hp⟩, ?_⟩
        refine h.toS s w fun r y G1 H1 g rep w1 => ?_
        cases q : store m r with
        | none => rw [q] at w1; exact w1.elim
        | some o =>
          rw [q] at w1
          obtain ⟨G', cs, g', ex, ho', fr⟩ := store_rep rep g q
          have h1a : H1 a = some (.lst vs) := g'.h a _ hp
          have na : G' a = none := g'.keep a _ hp rfl gp
          have nc : ∀ c ∈ cs, c ≠ a := fun c m z => by have := fr c m; rw [z, hp] at this; cases this
          refine ⟨a, vs, y, rfl, rfl, h1a, by rw [hr.length]; exact line_lt (Nat.le_of_lt hl), ?_⟩
          refine w1 G' (upd H1 a (.lst (vs ++ [y]))) σ ?_
          have hr' : OwL p G' (upd H1 a (.lst (vs ++ [y]))) vs os as1 := hr.mono g'.g fun x m => by
            have nx : x ≠ a := fun z => np (z ▸ m)
            obtain ⟨n, u, eu, tu⟩ := hr.at x m
            exact ⟨g'.keep x u eu tu n, by rw [upd_ne nx, g'.h x u eu, eu]⟩
          have ho2 : Ow p G' (upd H1 a (.lst (vs ++ [y]))) y o cs := ho'.mono (Evl.Ex.refl _) fun x m => ⟨(ho'.at x m).1, upd_ne (nc x m)⟩
          obtain ⟨as2, k1, k2⟩ := OwL.snoc ho2 hr' fun c m z => by
            obtain ⟨_, u, eu, _⟩ := hr.at c z
            rw [fr c m] at eu; cases eu
          refine upd' G' _ _ (a :: as2) ((s.gr.trans g').updO (hf a List.mem_cons_self) na) g'.g (fun x m => ?_) (.lst upd_same na (fun z => ?_) k1) (fun b m => ?_)
          · have nx : x ≠ a := fun z => hd a List.mem_cons_self (z ▸ m)
            obtain ⟨n, u, eu, tu⟩ := ha x m
            exact ⟨g'.keep x u eu tu n, by rw [upd_ne nx, g'.h x u eu, eu]⟩
          · rcases k2 a z with q | q
            · exact np q
            · exact nc a q rfl
          · rcases List.mem_cons.mp m with z | z
            · exact .inl (z ▸ List.mem_cons_self)
            · rcases k2 b z with q | q
              · exact .inl (List.mem_cons_of_mem _ q)
              · exact .inr (fr b q)
    · rw [if_neg hl] at w; exact w.elim
  · exact w.elim
theorem ds_app (m : Bool) (i : Nat) {x : Str} (he : DE X T (kx E) e te f) (hN : X.N[i]? = some x := by rfl) (hv : Vis X.env.scope x := by first | exact Or.inl rfl | exact Or.inr (Or.inl rfl) | exact Or.inr (Or.inr rfl)) (hd : (x == ("__debug__" : Str)) = false := by decide)
    (hcd : (x == ("__classdict__" : Str)) = false := by decide) (hs : starEach [e] X.env = (false, eval e X.env) :: starEach [] X.env := by rfl) (hfew : ((backTo cpos (starEach [e] X.env)).all (fun x => !x.1) && (backToKw cpos (keywordEach [] X.env)).all (fun x => x.1.isSome)
      && decide ([e].length + ([] : List Keyword).length + (if ([] : List Keyword).isEmpty then 0 else 1) < 30)) = true := by rfl) (hline : (apos.endLine == cpos.line) = true := by rfl) :
    DS X T E (.Expr (.Call (.Attribute (.Name x pos2) "append" apos) [e] [] cpos) pos) (tDrop (tBM X.K "list" rAppend (tVar i) (tCons te tNil))) (appF m i f) :=
  ⟨ps_expr (pe_bm PySem.F.plainAttrs_list PySem.F.slot_list_append PySem.F.type_list_append mt_append (pe_var hN hv hd hcd) (pa_cons he.pe pa_nil hs) rfl hfew hline hs), st_app (p := pw X T) m i he.ev⟩
/-! ### x.append(y), y's own thing moves -/
def appMvF (i j : Nat) : Env → Fl := fun env => match env[i]?, env[j]? with
  | some (some (.lst os)), some (some o) => if os.length < LINE ∧ i ≠ j then .nx ((env.set j none).set i (some (.lst (os ++ [o])))) else .bad
  | _, _ => .bad
theorem st_appMv {p : Pw} (i j : Nat) : StR p E (tDrop (tBM p.K "list" rAppend (tVar i) (tCons (tVar j) tNil))) (appMvF i j) := by
  intro G0 H0 G H σ env s Dn w
  unfold appMvF at w
  split at w
  · rename_i os o e ej
    by_cases hl : os.length < LINE ∧ i ≠ j
    · rw [if_pos hl] at w
      obtain ⟨as, h1, h2⟩ := s.sl
      obtain ⟨y, cs, asj, hvj, hoj, hrj, hdj, hbj, haj⟩ := h1.take ej
      have e1 : (env.set j none)[i]? = some (some (.lst os)) := by rw [List.getElem?_set_ne (Ne.symm hl.2)]; exact e
      obtain ⟨v, bs, as', hv, ho, hr0, hd, hb, ha⟩ := hrj.take e1
      cases ho with
      | lst hp gp np hr =>
        rename_i a vs as1
        have ab : a ∈ as := haj a (hb a List.mem_cons_self)
        have nc : ∀ c ∈ cs, c ≠ a := fun c m z => hdj c m (z ▸ hb a List.mem_cons_self)
        refine ⟨.ref a, hv, .inl ⟨rfl, _, SqL.of hp⟩, y, hvj, a, vs, y, rfl, rfl, hp, by rw [hr.length]; exact line_lt (Nat.le_of_lt hl.1), ?_⟩
        generalize hH2 : upd H a (.lst (vs ++ [y])) = H2
        have e2 : ∀ x, x ≠ a → H2 x = H x := fun x nx => by rw [← hH2]; exact upd_ne nx
        have e2a : H2 a = some (.lst (vs ++ [y])) := by rw [← hH2]; exact upd_same
        have gr : Grow G0 H0 G H2 := by rw [← hH2]; exact s.gr.updO (h2 a ab) gp
        have hr' : OwL p G H2 vs os as1 := hr.mono (Evl.Ex.refl _) fun x m => ⟨(hr.at x m).1, e2 x fun z => np (z ▸ m)⟩
        have ho2 : Ow p G H2 y o cs := hoj.mono (Evl.Ex.refl _) fun x m => ⟨(hoj.at x m).1, e2 x (nc x m)⟩
        obtain ⟨as2, k1, k2⟩ := OwL.snoc ho2 hr' fun c m z => hdj c m (hb c (List.mem_cons_of_mem _ z))
        have na : a ∉ as2 := fun z => by
          rcases k2 a z with q | q
          · exact np q
          · exact nc a q rfl
        have hr2 : EnvL p G H2 σ ((env.set j none).set i none) as' := hr0.mono (Evl.Ex.refl _) fun x m => ⟨(hr0.at x m).1, e2 x fun z => hd a List.mem_cons_self (z ▸ m)⟩
        have inb : ∀ b ∈ a :: as2, b ∈ a :: as1 ∨ b ∈ cs := fun b m => by
          rcases List.mem_cons.mp m with z | z
          · exact .inl (z ▸ List.mem_cons_self)
          · exact (k2 b z).imp (fun q => List.mem_cons_of_mem _ q) id
        obtain ⟨as3, h3, h4⟩ := EnvL.set (Ow.lst e2a gp na k1) i hr2 fun b m q => by
          rcases inb b m with z | z
          · exact hd b z q
          · exact hdj b z (ha b q)
        rw [set_self hv, List.set_set] at h3
        refine w G H2 σ ⟨gr, as3, h3, fun b m => ?_⟩
        rcases h4 b m with q | q
        · exact h2 b (haj b (ha b q))
        · rcases inb b q with z | z
          · exact h2 b (haj b (hb b z))
          · exact h2 b (hbj b z)
    · rw [if_neg hl] at w; exact w.elim
  · exact w.elim
theorem ds_appMv (i j : Nat) {x y : Str} {pos3 : Pos} (hN : X.N[i]? = some x := by rfl) (hv : Vis X.env.scope x := by first | exact Or.inl rfl | exact Or.inr (Or.inl rfl) | exact Or.inr (Or.inr rfl)) (hd : (x == ("__debug__" : Str)) = false := by decide)
    (hcd : (x == ("__classdict__" : Str)) = false := by decide) (hN2 : X.N[j]? = some y := by rfl) (hv2 : Vis X.env.scope y := by first | exact Or.inl rfl | exact Or.inr (Or.inl rfl) | exact Or.inr (Or.inr rfl)) (hd2 : (y == ("__debug__" : Str)) = false := by decide)
    (hcd2 : (y == ("__classdict__" : Str)) = false := by decide) (hline : (apos.endLine == cpos.line) = true := by rfl) :
    DS X T E (.Expr (.Call (.Attribute (.Name x pos2) "append" apos) [.Name y pos3] [] cpos) pos) (tDrop (tBM X.K "list" rAppend (tVar i) (tCons (tVar j) tNil))) (appMvF i j) :=
  ⟨ps_expr (pe_bm PySem.F.plainAttrs_list PySem.F.slot_list_append PySem.F.type_list_append mt_append (pe_var hN hv hd hcd) (pa_cons (pe_var hN2 hv2 hd2 hcd2) pa_nil) rfl rfl hline), st_appMv (p := pw X T) i j⟩
/-! ### x.extend(e) -/
def extF (i : Nat) (f : Env → Res R) : Env → Fl := fun env => match env[i]? with
  | some (some (.lst os)) => bindF (f env) fun r => (match r.st.items with
    | some ds => if os.length + ds.length ≤ LINE then .nx (env.set i (some (.lst (os ++ ds.map O.fz)))) else .bad
    | none => .bad)
  | _ => .bad
theorem st_ext {p : Pw} (i : Nat) (h : EvR p (kx E) te f) : StR p E (tDrop (tBM p.K "list" rExtend (tVar i) (tCons te tNil))) (extF i f) := by
  intro G0 H0 G H σ env s Dn w
  unfold extF at w
  split at w
  · rename_i os e
    obtain ⟨v, bs, as', hv, ho, hf, hd, ha, upd', _⟩ := s.reown e
    cases ho with
    | lst hp gp np hr =>
      rename_i a vs as1
      refine ⟨.ref a, hv, .inl ⟨rfl, _, SqL.of hp⟩, ?_⟩
      refine h.toS s w fun r y G1 H1 g rep0 w1 => ?_
      obtain ⟨G', g', rep⟩ := rep0.settle g
      cases q : r.st.items with
      | none => rw [q] at w1; exact w1.elim
      | some ds =>
        rw [q] at w1
        dsimp only at w1
        by_cases hl : os.length + ds.length ≤ LINE
        · rw [if_pos hl] at w1
          obtain ⟨b, ws, rfl, hb, ib⟩ := rep.items g'.gh q
          have h1a : H1 a = some (.lst vs) := g'.h a _ hp
          have na : G' a = none := g'.keep a _ hp rfl gp
          refine ⟨a, b, vs, ws, rfl, rfl, h1a, hb, by rw [hr.length, ib.length]; exact line_ok hl, ?_⟩
          refine w1 G' (upd H1 a (.lst (vs ++ ws))) σ ?_
          have hr' : OwL p G' (upd H1 a (.lst (vs ++ ws))) vs os as1 := hr.mono g'.g fun x m => by
            have nx : x ≠ a := fun z => np (z ▸ m)
            obtain ⟨n, u, eu, tu⟩ := hr.at x m
            exact ⟨g'.keep x u eu tu n, by rw [upd_ne nx, g'.h x u eu, eu]⟩
          refine upd' G' _ _ (a :: as1) ((s.gr.trans g').updO (hf a List.mem_cons_self) na) g'.g (fun x m => ?_) (.lst upd_same na np (owL_of hr' ib)) (fun b m => .inl m)
          have nx : x ≠ a := fun z => hd a List.mem_cons_self (z ▸ m)
          obtain ⟨n, u, eu, tu⟩ := ha x m
          exact ⟨g'.keep x u eu tu n, by rw [upd_ne nx, g'.h x u eu, eu]⟩
        · rw [if_neg hl] at w1; exact w1.elim
  · exact w.elim
theorem ds_ext (i : Nat) {x : Str} (he : DE X T (kx E) e te f) (hN : X.N[i]? = some x := by rfl) (hv : Vis X.env.scope x := by first | exact Or.inl rfl | exact Or.inr (Or.inl rfl) | exact Or.inr (Or.inr rfl)) (hd : (x == ("__debug__" : Str)) = false := by decide)
    (hcd : (x == ("__classdict__" : Str)) = false := by decide) (hs : starEach [e] X.env = (false, eval e X.env) :: starEach [] X.env := by rfl) (hfew : ((backTo cpos (starEach [e] X.env)).all (fun x => !x.1) && (backToKw cpos (keywordEach [] X.env)).all (fun x => x.1.isSome)
      && decide ([e].length + ([] : List Keyword).length + (if ([] : List Keyword).isEmpty then 0 else 1) < 30)) = true := by rfl) (hline : (apos.endLine == cpos.line) = true := by rfl) :
    DS X T E (.Expr (.Call (.Attribute (.Name x pos2) "extend" apos) [e] [] cpos) pos) (tDrop (tBM X.K "list" rExtend (tVar i) (tCons te tNil))) (extF i f) :=
  ⟨ps_expr (pe_bm PySem.F.plainAttrs_list PySem.F.slot_list_extend PySem.F.type_list_extend mt_extend (pe_var hN hv hd hcd) (pa_cons he.pe pa_nil hs) rfl hfew hline hs), st_ext (p := pw X T) i he.ev⟩
/-! ### y = x.pop(0) -/
def pop0F (i j : Nat) : Env → Fl := fun env => match env[i]? with
  | some (some (.lst (.fz d :: os))) => if i ≠ j then .nx ((env.set i (some (.lst os))).set j (some (.fz d))) else .bad
  | _ => .bad
theorem st_pop0 {p : Pw} (i j : Nat) : StR p E (tAsg (tBM p.K "list" rPopAt (tVar i) (tCons (tC (.int 0)) tNil)) (gName j)) (pop0F i j) := by
  intro G0 H0 G H σ env s Dn w
  unfold pop0F at w
  split at w
  · rename_i d os e
    by_cases hij : i ≠ j
    · rw [if_pos hij] at w
      obtain ⟨v, bs, as', hv, ho, hf, hd, ha, upd', _⟩ := s.reown e
      cases ho with
      | lst hp gp np hr =>
        rename_i a vs as1
        cases hr with
        | cons hy hr hdis =>
          rename_i y vs bs2 bs3
          cases hy with
          | fz hy =>
            refine ⟨.ref a, hv, .inl ⟨rfl, _, SqL.of hp⟩, ?_⟩
            refine ⟨a, y :: vs, 0, 0, y, rfl, rfl, hp, by decide, by decide, by simp [seqIndex?], rfl, ?_⟩
            have nb : a ∉ bs3 := fun z => np (by simpa using z)
            have hr' : OwL p G (upd H a (.lst vs)) vs os bs3 := hr.mono (Evl.Ex.refl _) fun x m => ⟨(hr.at x m).1, upd_ne (fun z => nb (z ▸ m))⟩
            have s1 : SOk p G0 H0 G (upd H a (.lst vs)) σ (env.set i (some (.lst os))) := upd' G _ _ (a :: bs3) (s.gr.updO (hf a List.mem_cons_self) gp) (Evl.Ex.refl _)
              (fun x m => ⟨(ha x m).1, upd_ne (fun z => hd a List.mem_cons_self (z ▸ m))⟩) (.lst upd_same gp nb hr') (fun b m => .inl (by simpa using m))
            exact w G _ _ (s1.set (Grow.refl s1.gr.gh) (.fz hy) (fun _ m => nomatch m) j)
    · rw [if_neg hij] at w; exact w.elim
  · exact w.elim
theorem ds_pop0 (i j : Nat) {x y : Str} {k : Nat} {pos3 pos4 : Pos} (hnd : X.N.Nodup) (hN : X.N[i]? = some x := by rfl) (hv : Vis X.env.scope x := by first | exact Or.inl rfl | exact Or.inr (Or.inl rfl) | exact Or.inr (Or.inr rfl)) (hd : (x == ("__debug__" : Str)) = false := by decide)
    (hcd : (x == ("__classdict__" : Str)) = false := by decide) (hj : X.N[j]? = some y := by rfl) (hx : Loc X.env.scope y := by first | exact Or.inl rfl | exact Or.inr rfl)
    (hs : swapsWith (.Call (.Attribute (.Name x pos2) "pop" apos) [.Constant (.int 0) k pos3] [] cpos) (some (.Name y pos4)) pos.line X.env = pure false := by rfl)
    (hf : X.fn y = true ∨ X.env.scope.names.lookup y = some .local := by first | exact .inl rfl | exact .inr rfl)
    (hline : (apos.endLine == cpos.line) = true := by rfl) : DS X T E (.Assign [.Name y pos4] (.Call (.Attribute (.Name x pos2) "pop" apos) [.Constant (.int 0) k pos3] [] cpos) pos) (tAsg (tBM X.K "list" rPopAt (tVar i) (tCons (tC (.int 0)) tNil)) (gName j)) (pop0F i j) :=
  ⟨ps_set hnd hj hx (pe_bm PySem.F.plainAttrs_list PySem.F.slot_list_pop PySem.F.type_list_pop mt_popAt (pe_var hN hv hd hcd) (pa_cons pe_int pa_nil) rfl rfl hline) hs hf, st_pop0 (p := pw X T) i j⟩
/-! ### self.f = e, in __init__ -/
def fldF (m : Bool) (i c n : Nat) (f : Env → Res R) : Env → Fl := fun env => bindF (f env) fun r => match store m r with
  | some o => (match env[i]? with
    | some (some (.slf a c' os)) => if c' = c ∧ os.length = n then .nx (env.set i (some (.slf a c (os ++ [o])))) else .bad
    | _ => .bad)
  | none => .bad
theorem putF_zip : ∀ {fs : List Str} {vs : List V} {x : Str} {v : V}, fs.Nodup → fs[vs.length]? = some x → putF x v (fs.zip vs) = fs.zip (vs ++ [v])
  | [], vs, x, v, n, e => by simp at e
  | g :: fs, [], x, v, n, e => by
    simp at e
    subst e
    simp [putF]
  | g :: fs, u :: vs, x, v, n, e => by
    have e : fs[vs.length]? = some x := by simpa using e
    have n' := List.nodup_cons.mp n
    have ne : g ≠ x := fun q => n'.1 (q ▸ List.mem_of_getElem? e)
    rw [List.zip_cons_cons, List.cons_append, List.zip_cons_cons]
    show (if g = x then _ else _) = _
    rw [if_neg ne, putF_zip n'.2 e]
theorem st_fld {p : Pw} (m : Bool) (i c n : Nat) {x : Str} (hK : FldOk p.K p.T c) (hx : (fsOf c)[n]? = some x) (hnd : (fsOf c).Nodup) (h : EvR p (kx E) te f) : StR p E (sFld p.K (tVar i) te x) (fldF m i c n f) := by
  intro G0 H0 G H σ env s Dn w
  unfold fldF at w
  refine h.toS s w fun r y G1 H1 g rep w1 => ?_
  cases q : store m r with
  | none => rw [q] at w1; exact w1.elim
  | some o =>
    rw [q] at w1
    dsimp only at w1
    split at w1
    · rename_i a c' os e
      by_cases hc : c' = c ∧ os.length = n
      · rw [if_pos hc] at w1
        obtain ⟨rfl, rfl⟩ := hc
        obtain ⟨G', cs, g', ex, ho', fr⟩ := store_rep rep g q
        obtain ⟨v, bs, as', hv, ho, hf, hd, ha, upd', _⟩ := s.reown e
        cases ho with
        | slf hp gp hl np hr =>
          rename_i dx vs as1
          have h1a := g'.h a _ hp
          have na : G' a = none := g'.keep a _ hp rfl gp
          have nc : ∀ c ∈ cs, c ≠ a := fun c m z => by have := fr c m; rw [z, hp] at this; cases this
          have hlt : vs.length < (fsOf c').length := by rw [hr.length]; exact (List.getElem?_eq_some_iff.mp hx).1
          refine ⟨.ref a, hv, a, p.T.C c', dx, _, rfl, h1a, hK.cl, hK.no x (List.mem_of_getElem? hx), ?_, ?_⟩
          · rw [List.length_zip]
            have : (fsOf c').length ≤ 2 := by
              match c' with
              | 0 => decide
              | 1 => decide
              | 2 => decide
              | 3 => decide
              | 4 => decide
              | 5 => decide
              | _ + 6 => exact Nat.zero_le _
            omega
          · rw [putF_zip hnd (by rw [hr.length]; exact hx)]
            generalize hH2 : upd H1 a (.ins (p.T.C c') dx ((fsOf c').zip (vs ++ [y]))) = H2
            have e2 : ∀ x, x ≠ a → H2 x = H1 x := fun x nx => by rw [← hH2]; exact upd_ne nx
            have e2a : H2 a = some (.ins (p.T.C c') dx ((p.T.fs c').zip (vs ++ [y]))) := by rw [← hH2]; exact upd_same
            refine w1 G' H2 σ ?_
            have hr' : OwL p G' H2 vs os as1 := hr.mono g'.g fun x m => by
              have nx : x ≠ a := fun z => np (z ▸ m)
              obtain ⟨n, u, eu, tu⟩ := hr.at x m
              exact ⟨g'.keep x u eu tu n, by rw [e2 x nx, g'.h x u eu, eu]⟩
            have ho2 : Ow p G' H2 y o cs := ho'.mono (Evl.Ex.refl _) fun x m => ⟨(ho'.at x m).1, e2 x (nc x m)⟩
            obtain ⟨as2, k1, k2⟩ := OwL.snoc ho2 hr' fun c m z => by
              obtain ⟨_, u, eu, _⟩ := hr.at c z
              rw [fr c m] at eu; cases eu
            refine upd' G' H2 _ (a :: as2) (by rw [← hH2]; exact (s.gr.trans g').updO (hf a List.mem_cons_self) na) g'.g (fun x m => ?_) (.slf e2a na (by rw [List.length_append]; exact hlt) (fun z => ?_) k1) (fun b m => ?_)
            · have nx : x ≠ a := fun z => hd a List.mem_cons_self (z ▸ m)
              obtain ⟨n, u, eu, tu⟩ := ha x m
              exact ⟨g'.keep x u eu tu n, by rw [e2 x nx, g'.h x u eu, eu]⟩
            · rcases k2 a z with q | q
              · exact np q
              · exact nc a q rfl
            · rcases List.mem_cons.mp m with z | z
              · exact .inl (z ▸ List.mem_cons_self)
              · rcases k2 b z with q | q
                · exact .inl (List.mem_cons_of_mem _ q)
                · exact .inr (fr b q)
      · rw [if_neg hc] at w1; exact w1.elim
    · exact w1.elim
theorem ds_fld (m : Bool) (i c n : Nat) {x y : Str} {pos' pos3 : Pos} (hK : FldOk X.K T c) (he : DE X T (kx E) e te f) (hx : (fsOf c)[n]? = some x := by rfl) (hnd : (fsOf c).Nodup := by decide) (hN : X.N[i]? = some y := by rfl) (hv : Vis X.env.scope y := by first | exact Or.inl rfl | exact Or.inr (Or.inl rfl) | exact Or.inr (Or.inr rfl)) (hd : (y == ("__debug__" : Str)) = false := by decide)
    (hcd : (y == ("__classdict__" : Str)) = false := by decide) (hs : swapsWith e (some (.Attribute (.Name y pos3) x pos')) pos.line X.env = pure false := by rfl) :
    DS X T E (.Assign [.Attribute (.Name y pos3) x pos'] e pos) (sFld X.K (tVar i) te x) (fldF m i c n f) := ⟨ps_fld (pe_var hN hv hd hcd) he.pe hs, st_fld (p := pw X T) m i c n hK hx hnd he.ev⟩
end
end
end DL
namespace DL
open PySem L2

/-! ## comprehensions -/
def wipeE (env : Env) : List Nat → Env
  | [] => env
  | v :: vs => (wipeE env vs).set v none
theorem EnvL.forget {p : Pw} {G H : Hp} : ∀ {σ : L2.St} {env : Env} {as : List Addr} (i : Nat), EnvL p G H σ env as → ∃ as', EnvL p G H (σ.set i none) (env.set i none) as' ∧ ∀ a ∈ as', a ∈ as
  | _, _, _, i, .nil => ⟨[], .nil, fun _ m => nomatch m⟩
  | _, _, _, 0, .skip r => ⟨_, .skip r, fun _ m => m⟩
  | _, _, _, i + 1, .skip r => by
    obtain ⟨as', h1, h2⟩ := EnvL.forget i r
    exact ⟨as', .skip h1, h2⟩
  | _, _, _, 0, .cons h r d => ⟨_, .skip r, fun a m => List.mem_append_right _ m⟩
  | _, _, _, i + 1, .cons h r d => by
    obtain ⟨as', h1, h2⟩ := EnvL.forget i r
    refine ⟨_, .cons h h1 (fun a m q => d a m (h2 a q)), fun a m => ?_⟩
    rcases List.mem_append.mp m with m | m
    · exact List.mem_append_left _ m
    · exact List.mem_append_right _ (h2 a m)
theorem SOk.wipe {p : Pw} {G0 H0 G H : Hp} {σ : L2.St} {env : Env} (s : SOk p G0 H0 G H σ env) : ∀ vs : List Nat, SOk p G0 H0 G H (L2.wipe σ vs) (wipeE env vs)
  | [] => s
  | v :: vs => by
    have s' := s.wipe vs
    obtain ⟨as, h1, h2⟩ := s'.sl
    obtain ⟨as', h3, h4⟩ := EnvL.forget v h1
    exact ⟨s'.gr, as', h3, fun a m => h2 a (h4 a m)⟩
theorem wipe_set_none {σ : L2.St} {v w : Nat} : ∀ vs : List Nat, L2.wipe (σ.set v none) vs = (L2.wipe σ vs).set v none
  | [] => rfl
  | u :: vs => by
    show (L2.wipe (σ.set v none) vs).set u none = ((L2.wipe σ vs).set u none).set v none
    rw [wipe_set_none (w := w) vs]
    by_cases h : v = u
    · subst h; rfl
    · rw [List.set_comm _ _ h]
theorem wipe_twice {σ : L2.St} : ∀ vs : List Nat, L2.wipe (L2.wipe σ vs) vs = L2.wipe σ vs
  | [] => rfl
  | v :: vs => by
    show (L2.wipe ((L2.wipe σ vs).set v none) vs).set v none = (L2.wipe σ vs).set v none
    rw [wipe_set_none (w := v) vs, wipe_twice vs, List.set_set]

def noEx {α : Type} : Res α → Res α
  | .ok a => .ok a
  | _ => .bad
/-- the items that a comprehension tells -/
def lcF (gf : D → Env → Option Env) (ft : Env → Res Bool) (fe : Env → Res R) (env : Env) : List D → Res (List D)
  | [] => .ok []
  | d :: ds => (match gf d env with
    | none => .bad
    | some env1 => (noEx (ft env1)).bind fun b => if b then (noEx (fe env1)).bind fun r => (match r.st with
        | .fz x => (lcF gf ft fe env ds).bind fun xs => .ok (x :: xs)
        | .bor _ => .bad) else lcF gf ft fe env ds)
def fLc (fi : Env → Res (List D)) (gf : D → Env → Option Env) (ft : Env → Res Bool) (fe : Env → Res R) (vs : List Nat) : Env → Res R := fun env => (fi env).bind fun ds => if ds.length ≤ LINE then (lcF gf ft fe (wipeE env vs) ds).bind fun xs => newL xs else .bad
theorem lcF_len (gf : D → Env → Option Env) (ft : Env → Res Bool) (fe : Env → Res R) (env : Env) : ∀ (ds : List D) (xs : List D), lcF gf ft fe env ds = .ok xs → xs.length ≤ ds.length
  | [], xs, e => by simp only [lcF] at e; cases e; exact Nat.le_refl _
  | d :: ds, xs, e => by
    simp only [lcF] at e
    split at e
    · cases e
    · rename_i env1 _
      cases q : noEx (ft env1) with
      | ok b =>
        rw [q, Res.bind_ok] at e
        cases b with
        | false => rw [if_neg Bool.false_ne_true] at e; exact Nat.le_succ_of_le (lcF_len gf ft fe env ds xs e)
        | true =>
          rw [if_pos rfl] at e
          cases q2 : noEx (fe env1) with
          | ok r =>
            rw [q2, Res.bind_ok] at e
            split at e
            · cases q3 : lcF gf ft fe env ds with
              | ok ys =>
                rw [q3, Res.bind_ok] at e
                cases e
                exact Nat.succ_le_succ (lcF_len gf ft fe env ds ys q3)
              | ex c z => rw [q3] at e; cases e
              | bad => rw [q3] at e; cases e
            · cases e
          | ex c z => rw [q2] at e; cases e
          | bad => rw [q2] at e; cases e
      | ex c z => rw [q] at e; cases e
      | bad => rw [q] at e; cases e
section
variable {X : Cx} {T : CT} {E : L2.St → XK}
structure DTs (X : Cx) (T : CT) (E : L2.St → XK) (es : List Expr) (t : TT) (f : Env → Res Bool) : Prop where
  pts : PTs X es t
  ev : EvT (pw X T) E t f
theorem dts_nil : DTs X T E [] tYes (fun _ => .ok true) := ⟨pts_nil, fun G0 H0 G H σ env s Q w => w G H (Grow.refl s.gr.gh)⟩
theorem dts_one {c : Expr} {t : TT} {f : Env → Res Bool} (h : DT X T E c t f) : DTs X T E [c] t f := ⟨pts_one h.pt, h.ev⟩
theorem ev_lc {p : Pw} {wi : TI} {fi : Env → Res (List D)} {g : TG} {ks vs : List Nat} {gf : D → Env → Option Env} {tt : TT} {ft : Env → Res Bool} {te : TE} {fe : Env → Res R} (hi : EvI p E false wi fi) (hg : GtR p g ks gf) (ht : EvT p (kx fun _ _ _ => False) tt ft) (he : EvR p (kx fun _ _ _ => False) te fe) (hk : ∀ k ∈ ks, k ∈ vs) :
    EvR p E (tLc wi g tt te vs) (fLc fi gf ft fe vs) := by
  intro G0 H0 G H σ env s Q w
  refine hi G0 H0 G H σ env s _ ?_
  unfold fLc at w
  cases q : fi env with
  | bad => rw [q] at w; exact w
  | ex c ds => rw [q] at w; exact w
  | ok ds =>
    rw [q, Res.bind_ok] at w
    by_cases hz : ds.length ≤ LINE
    · rw [if_pos hz] at w
      cases ql : lcF gf ft fe (wipeE env vs) ds with
      | bad => rw [ql] at w; exact w.elim
      | ex c z =>
        exfalso
        have : ∀ (ds : List D) c z, lcF gf ft fe (wipeE env vs) ds ≠ .ex c z := by
          intro ds
          induction ds with
          | nil => intro c z e; cases e
          | cons d ds ih =>
            intro c z e
            simp only [lcF] at e
            split at e
            · cases e
            · rename_i env1 _
              cases q1 : ft env1 with
              | ok b =>
                simp only [q1, noEx, Res.bind_ok] at e
                cases b with
                | false => rw [if_neg Bool.false_ne_true] at e; exact ih c z e
                | true =>
                  rw [if_pos rfl] at e
                  cases q2 : fe env1 with
                  | ok r =>
                    simp only [q2, noEx, Res.bind_ok] at e
                    split at e
                    · cases q3 : lcF gf ft fe (wipeE env vs) ds with
                      | ok ys => rw [q3] at e; cases e
                      | ex c' z' => exact ih c' z' q3
                      | bad => rw [q3] at e; cases e
                    · cases e
                  | ex c z => simp only [q2, noEx, Res.bind_bad] at e; cases e
                  | bad => simp only [q2, noEx, Res.bind_bad] at e; cases e
              | ex c z => simp only [q1, noEx, Res.bind_bad] at e; cases e
              | bad => simp only [q1, noEx, Res.bind_bad] at e; cases e
        exact this ds c z ql
      | ok xs =>
        rw [ql, Res.bind_ok] at w
        intro J G2 H2 g2 wk
        rw [if_neg Bool.false_ne_true] at wk
        intro Dl nD
        have sb : SOk p G0 H0 G2 H2 σ env := s.grow g2
        have sw := sb.wipe vs
        have nG : G2 Dl = none := Evl.fresh_back g2.gh nD
        have zx := lcF_len _ _ _ _ ds xs ql
        -- the list at Dl is no one's yet
        refine lc_it wk (fun i H' => ∃ (G' : Hp) (acc : List V) (ys : List D) (rest : List D), H' Dl = some (.lst acc) ∧ G' Dl = none ∧ Grow G2 H2 G' H' ∧ IsL p G' acc ys ∧ lcF gf ft fe (wipeE env vs) (ds.drop i) = .ok rest ∧ ys ++ rest = xs)
          ⟨G2, [], [], xs, upd_same, nG, ?_, .nil, by simpa using ql, rfl⟩ ?_ ?_ ?_
        · exact ⟨Evl.Ex.refl _, fun a o h => by rw [upd_ne (ne_of_none h nG)]; exact sb.gr.gh a o h, Evl.Ex.new nD, fun _ _ _ _ n => n⟩
        · rintro i H' hi' ⟨G', acc, ys, rest, _, _, gr, _⟩
          exact gr.h
        · rintro i x H' H'' hi' ⟨G', acc, ys, rest, hD, nG', gr, il, er, ea⟩ ⟨d, hd, id⟩
          obtain ⟨G', g0, id, hD, nG', gr, il⟩ : ∃ Gd, Grow G' H' Gd H'' ∧ Is p Gd x d ∧ H'' Dl = some (.lst acc) ∧ Gd Dl = none ∧ Grow G2 H2 Gd H'' ∧ IsL p Gd acc ys := by
            obtain ⟨Gd, g0, id⟩ := id G' gr.g gr.gh
            exact ⟨Gd, g0, id, g0.h Dl _ hD, g0.keep Dl _ hD rfl nG', gr.trans g0, il.mono g0.g⟩
          have ed : ds.drop i = d :: ds.drop (i + 1) := by
            obtain ⟨hl, e⟩ := List.getElem?_eq_some_iff.mp hd
            rw [List.drop_eq_getElem_cons hl, e]
          rw [ed] at er
          simp only [lcF] at er
          cases qg : gf d (wipeE env vs) with
          | none => rw [qg] at er; cases er
          | some env1 =>
            rw [qg] at er
            dsimp only at er
            have s' : SOk p G0 H0 G' H'' (L2.wipe σ vs) (wipeE env vs) := sw.grow gr
            refine hg G0 H0 G' H'' _ _ x d env1 s' id qg _ fun σ1 s1 w1 => ⟨?_, ?_⟩
            · rw [w1 vs hk, wipe_twice]
            · have fin : ∀ {G3 H3 : Hp}, Grow G' H'' G3 H3 → H3 Dl = some (.lst acc) ∧ G3 Dl = none ∧ Grow G2 H2 G3 H3 ∧ IsL p G3 acc ys := fun {G3 H3} g3 => ⟨g3.h Dl _ hD, g3.keep Dl _ hD rfl nG', gr.trans g3, il.mono g3.g⟩
              refine ht G0 H0 G' H'' σ1 env1 s1 _ ?_
              cases q1 : ft env1 with
              | ex c z => simp only [q1, noEx, Res.bind_bad] at er; cases er
              | bad => simp only [q1, noEx, Res.bind_bad] at er; cases er
              | ok b =>
                simp only [q1, noEx, Res.bind_ok] at er
                intro G3 H3 g3
                cases b with
                | false =>
                  rw [if_neg Bool.false_ne_true] at er ⊢
                  obtain ⟨a1, a2, a3, a4⟩ := fin g3
                  exact ⟨G3, acc, ys, rest, a1, a2, a3, a4, er, ea⟩
                | true =>
                  rw [if_pos rfl] at er ⊢
                  refine he G0 H0 G3 H3 σ1 env1 (s1.grow g3) _ ?_
                  cases q2 : fe env1 with
                  | ex c z => simp only [q2, noEx, Res.bind_bad] at er; cases er
                  | bad => simp only [q2, noEx, Res.bind_bad] at er; cases er
                  | ok r =>
                    simp only [q2, noEx, Res.bind_ok] at er
                    intro y G4 H4 g4 rep0
                    obtain ⟨G5, g5, rep⟩ := rep0.settle g4
                    cases qs : r.st with
                    | bor o => rw [qs] at er; cases er
                    | fz xd =>
                      rw [qs] at er rep
                      dsimp only at er
                      cases q3 : lcF gf ft fe (wipeE env vs) (ds.drop (i + 1)) with
                      | ex c z => rw [q3] at er; cases er
                      | bad => rw [q3] at er; cases er
                      | ok rest' =>
                        rw [q3, Res.bind_ok] at er
                        cases er
                        obtain ⟨a1, a2, a3, a4⟩ := fin (g3.trans g5)
                        have hacc : acc.length ≤ LINE := by
                          rw [a4.length]
                          have : ys.length ≤ xs.length := by rw [← ea, List.length_append]; exact Nat.le_add_right _ _
                          omega
                        have hlt : acc.length < sizeLine := line_lt hacc
                        refine ⟨acc, a1, hlt, G5, acc ++ [y], ys ++ [xd], rest', upd_same, a2, ?_, a4.append (.cons rep .nil), rfl, by rw [List.append_assoc]; exact ea⟩
                        exact ⟨a3.g, fun a o h => by rw [upd_ne (ne_of_none h a2)]; exact a3.gh a o h, fun a o h => by rw [upd_ne (ne_of_none h nD)]; exact a3.h a o h, a3.keep⟩
        · rintro H' ⟨G', acc, ys, rest, hD, nG', gr, il, er, ea⟩
          rw [List.drop_length] at er
          simp only [lcF] at er
          cases er
          rw [List.append_nil] at ea
          subst ea
          refine w (.ref Dl) G' H' (g2.trans gr) ⟨[Dl], .lst hD nG' (by simp) ((owL_fz il)), fun b m => ?_, by simpa [O.whole] using wholeL_fz ys⟩
          rcases List.mem_cons.mp m with z | z
          · rw [z]; exact Evl.fresh_back g2.h nD
          · cases z
    · rw [if_neg hz] at w; exact w.elim
/-- the reading of a thing told: whatever makes it so -/
def tOf (p : Pw) (E : L2.St → XK) (f : Env → Res R) : TE := fun σ H Q => ∃ G0 H0 G env, SOk p G0 H0 G H σ env ∧ Wish p Q (E σ) G H (f env)
def ttOf (p : Pw) (E : L2.St → XK) (f : Env → Res Bool) : TT := fun σ H Q => ∃ G0 H0 G env, SOk p G0 H0 G H σ env ∧ WishB p Q (E σ) G H (f env)
def tgOf (p : Pw) (ks : List Nat) (gf : D → Env → Option Env) : TG := fun v σ H Q => ∃ G0 H0 G env d env', SOk p G0 H0 G H σ env ∧ Is p G v d ∧ gf d env = some env' ∧ ∀ σ', SOk p G0 H0 G H σ' env' → (∀ vs, (∀ k ∈ ks, k ∈ vs) → wipe σ' vs = wipe σ vs) → Q σ' H
theorem tOf_ev {p : Pw} {E : L2.St → XK} {f : Env → Res R} : EvR p E (tOf p E f) f := fun G0 H0 G H σ env s Q w => ⟨G0, H0, G, env, s, w⟩
theorem ttOf_ev {p : Pw} {E : L2.St → XK} {f : Env → Res Bool} : EvT p E (ttOf p E f) f := fun G0 H0 G H σ env s Q w => ⟨G0, H0, G, env, s, w⟩
theorem tgOf_ev {p : Pw} {ks : List Nat} {gf : D → Env → Option Env} : GtR p (tgOf p ks gf) ks gf := fun G0 H0 G H σ env v d env' s h e Q k => ⟨G0, H0, G, env, d, env', s, h, e, k⟩
theorem tOf_pe {X : Cx} {T : CT} {E : L2.St → XK} {e : Expr} {f : Env → Res R} (h : ∃ t, DE X T E e t f) : PE X e (tOf (pw X T) E f) := by
  obtain ⟨t, h⟩ := h
  exact ⟨fun pins s σ H Q I ⟨G0, H0, G, env, so, w⟩ => h.pe.run pins s σ H Q I (h.ev G0 H0 G H σ env so Q w)⟩
theorem ttOf_pt {X : Cx} {T : CT} {E : L2.St → XK} {e : List Expr} {f : Env → Res Bool} (h : ∃ t, DTs X T E e t f) : PTs X e (ttOf (pw X T) E f) := by
  obtain ⟨t, h⟩ := h
  exact ⟨fun pins s σ H Q I ⟨G0, H0, G, env, so, w⟩ => h.pts.run pins s σ H Q I (h.ev G0 H0 G H σ env so Q w)⟩
theorem tgOf_pg {X : Cx} {T : CT} {tg : Expr} {ks : List Nat} {gf : D → Env → Option Env} (h : ∃ g, DG X T tg g ks gf) : PG X tg (tgOf (pw X T) ks gf) := by
  obtain ⟨g, h⟩ := h
  exact ⟨fun pins s σ H v u Q I r ⟨G0, H0, G, env, d, env', so, hd, e, k⟩ => h.pg.run pins s σ H v u Q I r (h.ev G0 H0 G H σ env v d env' so hd e Q k)⟩
section
variable {elt tg iter : Expr} {ifs : List Expr} {scope : Scope} {vs : List Nat} {pos spos : Pos} {wi : TI} {fi : Env → Res (List D)} {ks : List Nat} {gf : D → Env → Option Env} {ft : Env → Res Bool} {fe : Env → Res R}
abbrev tLcD (X : Cx) (T : CT) (wi : TI) (ks : List Nat) (gf : D → Env → Option Env) (ft : Env → Res Bool) (fe : Env → Res R) (vs : List Nat) : TE :=
  tLc wi (tgOf (pw X T) ks gf) (ttOf (pw X T) (kx fun _ _ _ => False) ft) (tOf (pw X T) (kx fun _ _ _ => False) fe) vs
theorem de_lc (own : List (Str × Nat)) (ks : List Nat) (hc : X.calm = true) (hN : X.N.Nodup)
    (hi : DI X T E false tg iter wi fi) (ok : BlkOk X.N X.env.scope scope own)
    (hg : ∀ (s : Shared) (H : Hp) (C : Addr) (cl : List (Str × Addr)) (fp : List Addr), ∃ g, DG (X.blk s H scope (compEnvC scope cl C X.env) fp) T tg g ks gf)
    (ht : ∀ (s : Shared) (H : Hp) (C : Addr) (cl : List (Str × Addr)) (fp : List Addr), ∃ t, DTs (X.blk s H scope (compEnvC scope cl C X.env) fp) T (kx fun _ _ _ => False) ifs t ft)
    (he : ∀ (s : Shared) (H : Hp) (C : Addr) (cl : List (Str × Addr)) (fp : List Addr), ∃ t, DE (X.blk s H scope (compEnvC scope cl C X.env) fp) T (kx fun _ _ _ => False) elt t fe)
    (hk : ∀ k ∈ ks, k ∈ vs := by decide) (hvs : own.map (·.2) = vs := by rfl) (hs : ∀ x, foldedSetIterable iter X.env x = pure x := by intro _; rfl) :
    DE X T E (.ListComp elt [⟨tg, iter, ifs, 0⟩] scope pos) (tLcD X T wi ks gf ft fe vs) (fLc fi gf ft fe vs) := by
  subst hvs
  exact ⟨pe_lc hc hN hi.pi ok (fun s H C cl fp => tgOf_pg (hg s H C cl fp)) (fun s H C cl fp => ttOf_pt (ht s H C cl fp)) (fun s H C cl fp => tOf_pe (he s H C cl fp)) hs,
    ev_lc hi.ev tgOf_ev ttOf_ev tOf_ev hk⟩
/-- name = [..] on one line -/
theorem ds_setLc {Ek : XK} (m : Bool) (i : Nat) (own : List (Str × Nat)) (ks : List Nat) {y : Str} {py : Pos} (hc : X.calm = true) (hN : X.N.Nodup)
    (hsw : swapsWith (.ListComp elt [⟨tg, iter, ifs, 0⟩] scope pos) (some (.Name y py)) spos.line X.env = pure true)
    (hi : DI X T (kx Ek) false tg iter wi fi) (ok : BlkOk X.N X.env.scope scope own)
    (hg : ∀ (s : Shared) (H : Hp) (C : Addr) (cl : List (Str × Addr)) (fp : List Addr), ∃ g, DG (X.blk s H scope (compEnvC scope cl C X.env) fp) T tg g ks gf)
    (ht : ∀ (s : Shared) (H : Hp) (C : Addr) (cl : List (Str × Addr)) (fp : List Addr), ∃ t, DTs (X.blk s H scope (compEnvC scope cl C X.env) fp) T (kx fun _ _ _ => False) ifs t ft)
    (he : ∀ (s : Shared) (H : Hp) (C : Addr) (cl : List (Str × Addr)) (fp : List Addr), ∃ t, DE (X.blk s H scope (compEnvC scope cl C X.env) fp) T (kx fun _ _ _ => False) elt t fe)
    (hy : X.N[i]? = some y := by rfl) (hyl : X.env.scope.names.lookup y = some .local := by rfl) (hk : ∀ k ∈ ks, k ∈ vs := by decide) (hvs : own.map (·.2) = vs := by rfl) (hs : ∀ x, foldedSetIterable iter X.env x = pure x := by intro _; rfl) :
    DS X T Ek (.Assign [.Name y py] (.ListComp elt [⟨tg, iter, ifs, 0⟩] scope pos) spos) (tAsg (tLcD X T wi ks gf ft fe vs) (gName i)) (setF m i (fLc fi gf ft fe vs)) := by
  subst hvs
  exact ⟨ps_setLc hc hN hy hyl hsw hi.pi ok (fun s H C cl fp => tgOf_pg (hg s H C cl fp)) (fun s H C cl fp => ttOf_pt (ht s H C cl fp)) (fun s H C cl fp => tOf_pe (he s H C cl fp)) hs,
    st_set m i (ev_lc hi.ev tgOf_ev ttOf_ev tOf_ev hk)⟩
end
end

/-! ## defs -/
/-- what a def promises: on such data it answers F of them -/
def spD (p : Pw) (F : List D → Res R) : Sp := fun vs H Q E => ∃ G ds, Ex G H ∧ IsL p G vs ds ∧ Wish p Q E G H (F ds)
def runFl : Fl → Res R
  | .rt r => .ok r
  | .nx _ => .ok (.fz .non)
  | .ex c ds => .ex c ds
  | _ => .bad
def startE (n : Nat) (ds : List D) : Env := ds.map (fun d => some (.fz d)) ++ List.replicate (n - ds.length) none
/-- n slots, np parameters -/
def defF (n np : Nat) (F : Env → Fl) : List D → Res R := fun ds => if ds.length = np then runFl (F (startE n ds)) else .bad
def defF0 (n np : Nat) (F : Env → Fl) : List D → Res R := fun ds => noEx (defF n np F ds)
theorem envL_start {p : Pw} {G H : Hp} {k : Nat} : ∀ {vs : List V} {ds : List D}, IsL p G vs ds → EnvL p G H (vs.map some ++ List.replicate k none) (ds.map (fun d => some (O.fz d)) ++ List.replicate k none) []
  | _, _, .nil => by
    show EnvL p G H (List.replicate k none) (List.replicate k none) []
    induction k with
    | zero => exact .nil
    | succ k ih => exact .skip ih
  | _, _, .cons h r => by
    have := EnvL.cons (Ow.fz h) (envL_start (H := H) (k := k) r) (fun _ m => nomatch m)
    exact this
theorem sOk_start {p : Pw} {G H : Hp} {vs : List V} {ds : List D} (e : Ex G H) (h : IsL p G vs ds) (N : List Str) : SOk p G H G H (L2.start N vs) (startE N.length ds) := by
  refine ⟨Grow.refl e, [], ?_, fun _ m => nomatch m⟩
  unfold L2.start startE
  rw [h.length]
  exact envL_start h
section
variable {P : Program} {w : World} {K : PySem.W.Frag} {T : CT} {mg : Str → Option Value} {base : Heap}
theorem wish_run {p : Pw} {Q : VK} {E : XK} {G H : Hp} {fl : Fl} (h : Wish p Q E G H (runFl fl)) : SWish p G H { nx := fun _ H' => Q .non H', rt := Q } E fl := by
  cases fl with
  | nx env => exact fun G2 H2 σ s => h .non G2 H2 s.gr .non
  | rt r => exact fun v G2 H2 g rep => h v G2 H2 g rep
  | bk env => exact h.elim
  | ct env => exact h.elim
  | ex c ds => exact h
  | bad => exact h
/-- a def that raises nothing -/
theorem fn_def {x qual : Str} {st : Stmt} {f : Addr} {fd : FuncData} {N ps : List Str} {k n np : Nat} {Fb : Env → Fl} (F : Fun K x qual st f fd) (S : FnScope N ps (defScope st)) (hn : N.length = n) (hnp : ps.length = np)
    (hbody : ∀ (cdv : Value) (A : Around) (outer : List PySem.Env) (s : Shared) (H : Hp), Room k (A.deeper (PyProof.Rows.envOfC qual (defScope st) s.heap.objs.size f cdv)) →
      ∃ t, DSs (cxOf CX0 P w K mg base N qual (defScope st) f cdv A outer s H (fun _ _ _ => False)).nox T (fun _ _ _ => False) (defBody st) t Fb) : FnOk P w K mg base CX0 (k + 1) f fd ps (spD ⟨K, T, P, w⟩ (defF0 n np Fb)) := by
  subst hn hnp
  refine F.ok S (fun vs H Q E h => ?_) fun cdv A outer s H vs Q E hr h => ?_
  · obtain ⟨G, ds, e, hl, wi⟩ := h
    unfold defF0 defF at wi
    by_cases q : ds.length = ps.length
    · rw [hl.length]; exact q
    · rw [if_neg q] at wi; exact wi.elim
  · obtain ⟨G, ds, e, hl, wi⟩ := h
    obtain ⟨t, hd⟩ := hbody cdv A outer s H hr
    refine ⟨t, ⟨hd.ps.run⟩, ?_⟩
    unfold defF0 defF at wi
    by_cases q : ds.length = ps.length
    · rw [if_pos q] at wi
      refine hd.ev G H G H _ _ (sOk_start e hl N) _ ?_
      cases qf : Fb (startE N.length ds) with
      | nx env => rw [qf] at wi; exact wish_run (fl := .nx env) wi
      | rt r => rw [qf] at wi; exact wish_run (fl := .rt r) wi
      | bk env => rw [qf] at wi; exact wi.elim
      | ct env => rw [qf] at wi; exact wi.elim
      | ex c z => rw [qf] at wi; exact wi.elim
      | bad => rw [qf] at wi; exact wi.elim
    · rw [if_neg q] at wi; exact wi.elim
end
/-- a def of the module, to be called -/
structure FnD (P : Program) (w : World) (K : PySem.W.Frag) (T : CT) (mg : Str → Option Value) (base : Heap) (CX : CXT) (x : Str) (k : Nat) (F : List D → Res R) : Prop where
  ex : ∃ f fd ps, FnOk P w K mg base CX k f fd ps (spD ⟨K, T, P, w⟩ F) ∧ mg x = some (.ref f) ∧ PySem.W.keepIn K (.ref f) = true ∧ Binds K fd ps []
def D.atom : D → Bool
  | .non => true
  | .bl _ => true
  | .int _ => true
  | .str _ => true
  | _ => false
def datAll : List S → Option (List D)
  | [] => some []
  | s :: ss => match s.dat, datAll ss with
    | some d, some ds => some (d :: ds)
    | _, _ => none
theorem RepL.dats {p : Pw} {G H : Hp} (e : Ex G H) : ∀ {vs : List V} {ss : List S} {ds : List D}, RepL p G H vs ss → datAll ss = some ds → IsL p H vs ds
  | _, _, _, .nil, q => by cases q; exact .nil
  | _, _, _, .cons (s := s) (ss := ss) h r, q => by
    simp only [datAll] at q
    cases q1 : s.dat with
    | none => rw [q1] at q; cases q
    | some a =>
      cases q2 : datAll ss with
      | none => rw [q1, q2] at q; cases q
      | some b =>
        rw [q1, q2] at q
        cases q
        exact .cons (h.dat e q1) (r.dats e q2)
theorem Is.atom {p : Pw} {G G' : Hp} {v : V} {d : D} (h : Is p G v d) (a : d.atom = true) : Is p G' v d := by
  cases h with
  | non => exact .non
  | bl b => exact .bl b
  | int b => exact .int b
  | str b => exact .str b
  | _ => cases a
mutual
/-- atoms and tuples of such -/
def D.flat : D → Bool
  | .tup ds => D.flatL ds
  | .non => true
  | .bl _ => true
  | .int _ => true
  | .str _ => true
  | _ => false
def D.flatL : List D → Bool
  | [] => true
  | d :: ds => D.flat d && D.flatL ds
end
/-- G2, but of what stood in H the frozen part and the tuples alone -/
def cutG (G H G2 : Hp) : Hp := fun a => match H a with
  | none => G2 a
  | some (.tup xs) => some (.tup xs)
  | some (.frz o u) => some (.frz o u)
  | some _ => G a
theorem cutG_tup {G H G2 H2 : Hp} (e : Ex G H) (g : Grow H H G2 H2) {a : Addr} {u : HO} (h : G2 a = some u) (ht : u.nt = false) : cutG G H G2 a = some u := by
  unfold cutG
  cases q : H a with
  | none => exact h
  | some o =>
    have := g.h a o q
    rw [g.gh a _ h] at this
    cases this
    cases u <;> first | rfl | cases ht
theorem cutG_grow {G H G2 H2 : Hp} (e : Ex G H) (g : Grow H H G2 H2) : Grow G H (cutG G H G2) H2 := by
  refine ⟨fun a u h => ?_, fun a u h => ?_, g.h, fun a o h t n => ?_⟩
  · have q := e a u h
    unfold cutG
    rw [q]
    cases u <;> first | exact h | rfl
  · unfold cutG at h
    cases q : H a with
    | none => rw [q] at h; exact g.gh a u h
    | some o =>
      rw [q] at h
      have q2 := g.h a o q
      cases o <;> first | (cases h; exact q2) | (have := e a u h; rw [q] at this; cases this; exact q2)
  · unfold cutG
    rw [h]
    cases o <;> first | exact n | cases t
mutual
theorem Is.cutH {p : Pw} {G H G2 H2 : Hp} (e : Ex G H) (g : Grow H H G2 H2) : ∀ {v : V} {d : D}, Is p G2 v d → d.flat = true → Is p (cutG G H G2) v d
  | _, _, .non, _ => .non
  | _, _, .bl b, _ => .bl b
  | _, _, .int i, _ => .int i
  | _, _, .str s, _ => .str s
  | _, _, .tup (a := a) h r, f => by
    refine .tup ?_ (IsL.cutH e g r (by simpa [D.flat] using f))
    rcases h with (h | ⟨o, h⟩) | h
    · exact .inl (.inl (cutG_tup e g h rfl))
    · exact .inl (.inr ⟨o, cutG_tup e g h rfl⟩)
    · exact .inr h
  | _, _, .lst .., f => by simp [D.flat] at f
  | _, _, .scr .., f => by simp [D.flat] at f
  | _, _, .dki .., f => by simp [D.flat] at f
  | _, _, .dkw .., f => by simp [D.flat] at f
  | _, _, .ins .., f => by simp [D.flat] at f
  | _, _, .fn .., f => by simp [D.flat] at f
  | _, _, .exc0 .., f => by simp [D.flat] at f
  | _, _, .exc1 .., f => by simp [D.flat] at f
theorem IsL.cutH {p : Pw} {G H G2 H2 : Hp} (e : Ex G H) (g : Grow H H G2 H2) : ∀ {vs : List V} {ds : List D}, IsL p G2 vs ds → D.flatL ds = true → IsL p (cutG G H G2) vs ds
  | _, _, .nil, _ => .nil
  | _, _, .cons h r, f => by
    simp only [D.flatL, Bool.and_eq_true] at f
    exact .cons (Is.cutH e g h f.1) (IsL.cutH e g r f.2)
end
mutual
def O.flat : O → Bool
  | .fz d => d.flat
  | .lst os => O.flatL os
  | .ins _ os => O.flatL os
  | _ => false
def O.flatL : List O → Bool
  | [] => true
  | o :: os => O.flat o && O.flatL os
end
mutual
theorem Ow.cut {p : Pw} {G H G2 H2 : Hp} (e : Ex G H) (g : Grow H H G2 H2) : ∀ {v : V} {o : O} {as : List Addr}, Ow p G2 H2 v o as → (∀ a ∈ as, H a = none) → o.flat = true → Ow p (cutG G H G2) H2 v o as
  | _, _, _, .fz h, _, f => .fz (h.cutH e g f)
  | _, _, _, .lst h gn n r, k, f => .lst h (by unfold cutG; rw [k _ List.mem_cons_self]; exact gn) n (OwL.cut e g r (fun a m => k a (List.mem_cons_of_mem _ m)) (by simpa [O.flat] using f))
  | _, _, _, .dki .., _, f => by simp [O.flat] at f
  | _, _, _, .dkw .., _, f => by simp [O.flat] at f
  | _, _, _, .ins h gn l n r, k, f => .ins h (by unfold cutG; rw [k _ List.mem_cons_self]; exact gn) l n (OwL.cut e g r (fun a m => k a (List.mem_cons_of_mem _ m)) (by simpa [O.flat] using f))
  | _, _, _, .slf .., _, f => by simp [O.flat] at f
  | _, _, _, .exc .., _, f => by simp [O.flat] at f
theorem OwL.cut {p : Pw} {G H G2 H2 : Hp} (e : Ex G H) (g : Grow H H G2 H2) : ∀ {vs : List V} {os : List O} {as : List Addr}, OwL p G2 H2 vs os as → (∀ a ∈ as, H a = none) → O.flatL os = true → OwL p (cutG G H G2) H2 vs os as
  | _, _, _, .nil, _, _ => .nil
  | _, _, _, .cons h r d, k, f => by
    simp only [O.flatL, Bool.and_eq_true] at f
    exact .cons (Ow.cut e g h (fun a m => k a (List.mem_append_left _ m)) f.1) (OwL.cut e g r (fun a m => k a (List.mem_append_right _ m)) f.2) d
end
/-- frozen arguments; or any that can be read, where the answer holds nothing of theirs but atoms and tuples -/
def R.flat : R → Bool
  | .fz d => d.flat
  | .new o => o.flat
  | .bor _ => false
def callS (F : List D → Res R) (ss : List S) : Res R :=
  match fzAll ss with
  | some ds => F ds
  | none => (match datAll ss with
    | some ds => (match F ds with
      | .ok r => if r.flat then .ok r else .bad
      | _ => .bad)
    | none => .bad)
theorem callS_use {p : Pw} {F : List D → Res R} {G H : Hp} {vs : List V} {ss : List S} {Q : VK} {E : XK} (e : Ex G H) (rep : RepL p G H vs ss) (w : Wish p Q E G H (callS F ss)) : spD p F vs H Q E := by
  unfold callS at w
  cases q : fzAll ss with
  | some ds => rw [q] at w; exact ⟨G, ds, e, rep.fz q, w⟩
  | none =>
    rw [q] at w
    dsimp only at w
    cases q2 : datAll ss with
    | none => rw [q2] at w; exact w.elim
    | some ds =>
      rw [q2] at w
      dsimp only at w
      refine ⟨H, ds, Evl.Ex.refl _, rep.dats e q2, ?_⟩
      cases q3 : F ds with
      | bad => rw [q3] at w; exact w
      | ex c z => rw [q3] at w; exact w.elim
      | ok r =>
        rw [q3] at w
        dsimp only at w
        by_cases hf : r.flat = true
        · rw [if_pos hf] at w
          intro v G2 H2 g rep2
          refine w v (cutG G H G2) H2 (cutG_grow e g) ?_
          cases r with
          | fz d => exact Is.cutH e g rep2 hf
          | new o =>
            obtain ⟨as, h1, h2, h3⟩ := rep2
            exact ⟨as, h1.cut e g h2 hf, h2, h3⟩
          | bor o => cases hf
        · rw [if_neg hf] at w; exact w.elim
def fCall (F : List D → Res R) (fr : Env → Res (List S)) : Env → Res R := fun env => (fr env).bind (callS F)
section
variable {X : Cx} {T : CT} {E : L2.St → XK}
theorem noEx_wish {p : Pw} {Q : VK} {E E' : XK} {G H : Hp} {r : Res R} (h : Wish p Q E G H r) (hn : ∀ c ds, r ≠ .ex c ds) : Wish p Q E' G H r := by
  cases r with
  | ok a => exact h
  | ex c ds => exact absurd rfl (hn c ds)
  | bad => exact h
theorem callS_noex {F : List D → Res R} (hF : ∀ ds c z, F ds ≠ .ex c z) (ss : List S) : ∀ c z, callS F ss ≠ .ex c z := by
  intro c z e
  unfold callS at e
  cases q : fzAll ss with
  | some ds => rw [q] at e; exact hF ds c z e
  | none =>
    rw [q] at e
    dsimp only at e
    cases q2 : datAll ss with
    | none => rw [q2] at e; cases e
    | some ds =>
      rw [q2] at e
      dsimp only at e
      cases q3 : F ds with
      | bad => rw [q3] at e; cases e
      | ex c z => rw [q3] at e; cases e
      | ok r =>
        rw [q3] at e
        dsimp only at e
        by_cases ha : r.flat = true
        · rw [if_pos ha] at e; cases e
        · rw [if_neg ha] at e; cases e
theorem defF0_noex {n np : Nat} {F : Env → Fl} (ds : List D) (c : Nat) (z : List O) : defF0 n np F ds ≠ .ex c z := by
  unfold defF0 noEx
  split <;> simp
/-- f(e, ..), f a def that raises nothing -/
theorem de_call {e : Expr} {es : List Expr} {t : TA} {fr : Env → Res (List S)} {x : Str} {p pos : Pos} {k : Nat} {n np : Nat} {Fb : Env → Fl} (h : FnD X.prog X.w X.K T X.mg X.base CX0 x k (defF0 n np Fb)) (hr : Room k X.A) (ha : DA X T E (e :: es) t fr) (hg : Gl X x := by rfl)
    (hd : (x == ("__debug__" : Str)) = false := by decide) (he : starEach (e :: es) X.env = (false, eval e X.env) :: starEach es X.env := by rfl) (hpl : (backTo pos (starEach es X.env)).any (·.1) = false := by rfl) :
    DE X T E (.Call (.Name x p) (e :: es) [] pos) (tCall (spD (pw X T) (defF0 n np Fb)) [] L2.E0 t) (fCall (defF0 n np Fb) fr) := by
  obtain ⟨f, fd, ps, F, hm, hk, hb⟩ := h.ex
  refine ⟨pe_call F hr hg hm hk hb .nil pass0 ha.pa hd he hpl, fun G0 H0 G H σ env s Q w => ?_⟩
  refine ha.ev.to s (ok := okR (pw X T) Q) w (fun _ _ g' _ h => h.grow g') fun ss vs G1 H1 g1 rep w1 => ?_
  rw [List.append_nil]
  exact callS_use (p := pw X T) g1.gh rep (noEx_wish w1 (callS_noex defF0_noex ss))
end
end DL
namespace DL
open PySem L2

/-! ## instances made -/
def butX (H : Hp) (x : Addr) : Hp := fun a => if a = x then none else H a
theorem butX_ex (H : Hp) (x : Addr) : Ex (butX H x) H := fun a o h => by
  unfold butX at h
  by_cases q : a = x
  · rw [if_pos q] at h; cases h
  · rw [if_neg q] at h; exact h
def WishI (p : Pw) (c : Nat) (x : Addr) (Q : VK) (E : XK) (G H : Hp) : Res (List O) → Prop
  | .ok os => ∀ G2 H2 as, Grow G (butX H x) G2 H2 → Ow p G2 H2 (.ref x) (.ins c os) as → (∀ a ∈ as, a = x ∨ H a = none) → O.whole (.ins c os) = true → Q .non H2
  | .ex c' es => ∀ cls d G2 H2, Grow G (butX H x) G2 H2 → IsX p G2 H2 (butX H x) cls d c' es → E cls d H2
  | .bad => False
/-- what an __init__ promises: of such arguments it fills the instance with such fields -/
def spI (p : Pw) (c : Nat) (F : List D → Res (List O)) : Sp := fun vs H Q E => ∃ G x dx ws ds, vs = .ref x :: ws ∧ H x = some (.ins (p.T.C c) dx []) ∧ G x = none ∧ Ex G H ∧ IsL p G ws ds ∧ WishI p c x Q E G H (F ds)
def runI (c : Nat) (a : Addr) : Fl → Res (List O)
  | .nx env => (match env[0]? with
    | some (some (O.slf a' c' os)) => if a' = a ∧ c' = c ∧ O.whole (.ins c os) = true then .ok os else .bad
    | _ => .bad)
  | .ex c ds => .ex c ds
  | _ => .bad
def initF (c n np : Nat) (Fb : Env → Fl) (a : Addr) (ds : List D) : Res (List O) :=
  if ds.length + 1 = np then runI c a (Fb (some (.slf a c []) :: (ds.map (fun d => some (.fz d)) ++ List.replicate (n - (ds.length + 1)) none))) else .bad
section
variable {P : Program} {w : World} {K : PySem.W.Frag} {T : CT} {mg : Str → Option Value} {base : Heap}
theorem sOk_init {p : Pw} {G H : Hp} {x dx : Addr} {c : Nat} {vs : List V} {ds : List D} (hx : H x = some (.ins (p.T.C c) dx [])) (gx : G x = none) (e : Ex G H) (h : IsL p G vs ds) (N : List Str) :
    SOk p G (butX H x) G H (L2.start N (.ref x :: vs)) (some (.slf x c []) :: (ds.map (fun d => some (.fz d)) ++ List.replicate (N.length - (ds.length + 1)) none)) := by
  refine ⟨⟨Evl.Ex.refl _, e, butX_ex H x, fun a o h _ n => n⟩, [x], ?_, fun a m => ?_⟩
  · have hl : vs.length + 1 = ds.length + 1 := by rw [h.length]
    unfold L2.start
    rw [List.length_cons, hl]
    show EnvL p G H (some (V.ref x) :: (vs.map some ++ List.replicate _ none)) _ ([x] ++ [])
    exact .cons (.slf (vs := []) (by rw [List.zip_nil_right]; exact hx) gx (Nat.zero_le _) (by simp) .nil) (envL_start h) (fun _ _ => by simp)
  · rcases List.mem_cons.mp m with q | q
    · subst q; unfold butX; rw [if_pos rfl]
    · cases q
/-- an __init__; E = none: it raises nothing -/
theorem fn_init {x qual : Str} {st : Stmt} {f : Addr} {fd : FuncData} {N ps : List Str} {k c n np : Nat} {Fb : Env → Fl} {mkF : List D → Res (List O)} (F : Fun K x qual st f fd) (S : FnScope N ps (defScope st)) (hn : N.length = n) (hnp : ps.length = np)
    (hbody : ∀ (cdv : Value) (A : Around) (outer : List PySem.Env) (s : Shared) (H : Hp), Room k (A.deeper (PyProof.Rows.envOfC qual (defScope st) s.heap.objs.size f cdv)) →
      ∃ t, DSs (cxOf CX0 P w K mg base N qual (defScope st) f cdv A outer s H (fun _ _ _ => False)).nox T (fun _ _ _ => False) (defBody st) t Fb)
    (hF : ∀ a ds, mkF ds = .bad ∨ noEx (initF c n np Fb a ds) = mkF ds) : FnOk P w K mg base CX0 (k + 1) f fd ps (spI ⟨K, T, P, w⟩ c mkF) := by
  subst hn hnp
  refine F.ok S (fun vs H Q E h => ?_) fun cdv A outer s H vs Q E hr h => ?_
  · obtain ⟨G, x, dx, ws, ds, rfl, hx, gx, e, hl, wi⟩ := h
    rcases hF x ds with q0 | q0
    · rw [q0] at wi; exact wi.elim
    rw [← q0] at wi
    unfold initF at wi
    by_cases q : ds.length + 1 = ps.length
    · rw [List.length_cons, hl.length]; exact q
    · rw [if_neg q] at wi; exact wi.elim
  · obtain ⟨G, x, dx, ws, ds, rfl, hx, gx, e, hl, wi⟩ := h
    obtain ⟨t, hd⟩ := hbody cdv A outer s H hr
    refine ⟨t, ⟨hd.ps.run⟩, ?_⟩
    rcases hF x ds with q0 | q0
    · rw [q0] at wi; exact wi.elim
    rw [← q0] at wi
    unfold initF at wi
    by_cases q : ds.length + 1 = ps.length
    · rw [if_pos q] at wi
      refine hd.ev G (butX H x) G H _ _ (sOk_init (p := ⟨K, T, P, w⟩) hx gx e hl N) _ ?_
      cases qf : Fb (some (.slf x c []) :: (ds.map (fun d => some (.fz d)) ++ List.replicate (N.length - (ds.length + 1)) none)) with
      | nx env =>
        rw [qf] at wi
        intro G2 H2 σ2 s2
        unfold runI at wi
        dsimp only at wi
        split at wi
        · rename_i a' c' os e0
          by_cases ha : a' = x ∧ c' = c ∧ O.whole (.ins c os) = true
          · rw [if_pos ha] at wi
            obtain ⟨rfl, rfl, hw⟩ := ha
            obtain ⟨as, h1, h2⟩ := s2.sl
            obtain ⟨v, bs, h3, h4, h5⟩ := h1.get e0
            cases h4 with
            | slf hp gp hl2 np hr2 =>
              refine wi G2 H2 _ s2.gr (.ins hp gp hl2 np hr2) (fun a m => ?_) hw
              have := h2 a (h5 a m)
              unfold butX at this
              by_cases z : a = a'
              · exact .inl z
              · rw [if_neg z] at this; exact .inr this
          · rw [if_neg ha] at wi; exact wi.elim
        · exact wi.elim
      | rt r => rw [qf] at wi; exact wi.elim
      | bk env => rw [qf] at wi; exact wi.elim
      | ct env => rw [qf] at wi; exact wi.elim
      | ex c z => rw [qf] at wi; exact wi.elim
      | bad => rw [qf] at wi; exact wi.elim
    · rw [if_neg q] at wi; exact wi.elim
end
/-- a class of the module -/
structure ClD (P : Program) (w : World) (K : PySem.W.Frag) (T : CT) (mg : Str → Option Value) (base : Heap) (CX : CXT) (x : Str) (c k : Nat) (F : List D → Res (List O)) : Prop where
  ex : ∃ f fd ps, FnOk P w K mg base CX k f fd ps (spI ⟨K, T, P, w⟩ c F) ∧ Mk K (T.C c) f ∧ mg x = some (.ref (T.C c)) ∧ Binds K fd ps []
def mkR (c : Nat) (F : List D → Res (List O)) : List D → Res R := fun ds => (noEx (F ds)).bind fun os => .ok (.new (.ins c os))
section
variable {X : Cx} {T : CT} {E : L2.St → XK}
theorem mkR_noex {c : Nat} {F : List D → Res (List O)} (ds : List D) (c' : Nat) (z : List O) : mkR c F ds ≠ .ex c' z := by
  unfold mkR
  cases F ds <;> simp [noEx]
theorem make_use {p : Pw} {c : Nat} {F : List D → Res (List O)} {vs : List V} {H : Hp} {Q : VK} {E : XK} (h : spD p (mkR c F) vs H Q E) {x dx : Addr} (hx : H x = none) (hdx : H dx = none) (ne : dx ≠ x) {E' : XK} :
    spI p c F (.ref x :: vs) (upd (upd H dx (.own x)) x (.ins (p.T.C c) dx [])) (fun v H2 => v = .non ∧ Q (.ref x) H2) E' := by
  obtain ⟨G, ds, e, hl, w⟩ := h
  have e1 : Ex H (upd (upd H dx (.own x)) x (.ins (p.T.C c) dx [])) := fun a o h => by
    rw [upd_ne (ne_of_none h hx), upd_ne (ne_of_none h hdx)]; exact h
  have gx : G x = none := Evl.fresh_back e hx
  refine ⟨G, x, dx, vs, ds, rfl, upd_same, gx, e.trans e1, hl, ?_⟩
  unfold mkR at w
  cases q : F ds with
  | bad => rw [q] at w; exact w
  | ex c z => rw [q] at w; exact w.elim
  | ok os =>
    rw [q] at w
    intro G2 H2 as g ho hf hw
    refine ⟨rfl, w (.ref x) G2 H2 ⟨g.g, g.gh, fun a o h => ?_, fun a o h t n => ?_⟩ ⟨as, ho, fun a m => ?_, hw⟩⟩
    · refine g.h a o ?_
      unfold butX
      rw [if_neg (ne_of_none h hx)]
      exact e1 a o h
    · refine g.keep a o ?_ t n
      unfold butX
      rw [if_neg (ne_of_none h hx)]
      exact e1 a o h
    · rcases hf a m with z | z
      · rw [z]; exact hx
      · exact Evl.fresh_back e1 z
theorem de_make {e : Expr} {es : List Expr} {t : TA} {fr : Env → Res (List S)} {x : Str} {p pos : Pos} {c k : Nat} {F : List D → Res (List O)} (h : ClD X.prog X.w X.K T X.mg X.base CX0 x c k F) (hr : Room (k + 1) X.A) (ha : DA X T E (e :: es) t fr) (hg : Gl X x := by rfl)
    (hd : (x == ("__debug__" : Str)) = false := by decide) (he : starEach (e :: es) X.env = (false, eval e X.env) :: starEach es X.env := by rfl) (hpl : (backTo pos (starEach es X.env)).any (·.1) = false := by rfl) :
    DE X T E (.Call (.Name x p) (e :: es) [] pos) (tMake (T.C c) (spI (pw X T) c F) [] L2.E0 t) (fCall (mkR c F) fr) := by
  obtain ⟨f, fd, ps, F', M, hm, hb⟩ := h.ex
  refine ⟨pe_make M F' hr hg hm hb .nil pass0 ha.pa hd he hpl, fun G0 H0 G H σ env s Q w => ?_⟩
  refine ha.ev.to s (ok := okR (pw X T) Q) w (fun _ _ g' _ h => h.grow g') fun ss vs G1 H1 g1 rep w1 => ?_
  intro x' dx hx hdx ne
  rw [List.append_nil]
  exact make_use (p := pw X T) (callS_use g1.gh rep w1) hx hdx ne
end

/-! ## methods -/
structure MtD (P : Program) (w : World) (K : PySem.W.Frag) (T : CT) (mg : Str → Option Value) (base : Heap) (CX : CXT) (c : Nat) (m : Str) (k : Nat) (F : List D → Res R) : Prop where
  ex : ∃ f fd ps, FnOk P w K mg base CX k f fd ps (spD ⟨K, T, P, w⟩ F) ∧ Meth K (T.C c) m f ∧ Binds K fd ps []
  cl : Cls K (T.C c)
  no : m ∉ fsOf c
def S.isC (c : Nat) : S → Bool
  | .fz (.ins c' _) => c' == c
  | .bor (.ins c' _) => c' == c
  | _ => false
theorem S.isC_ins {p : Pw} {G H : Hp} {v : V} {s : S} {c : Nat} (h : RepS p G H v s) (e : Ex G H) (q : s.isC c = true) : ∃ a dx vs, v = .ref a ∧ H a = some (.ins (p.T.C c) dx ((fsOf c).zip vs)) := by
  unfold S.isC at q
  split at q
  · simp only [beq_iff_eq] at q; subst q
    cases h with | ins h l r => exact ⟨_, _, _, rfl, e _ _ h⟩
  · simp only [beq_iff_eq] at q; subst q
    obtain ⟨as, h⟩ := h
    cases h with | ins h _ _ _ _ => exact ⟨_, _, _, rfl, h⟩
  · cases q
theorem zip_no : ∀ {fs : List Str} {vs : List V} {m : Str}, m ∉ fs → (fs.zip vs).lookup m = none
  | [], _, _, _ => rfl
  | _ :: _, [], _, _ => rfl
  | g :: fs, u :: vs, m, n => by
    have ne : (m == g) = false := by
      simp only [beq_eq_false_iff_ne]
      intro q
      exact n (q ▸ List.mem_cons_self)
    rw [List.zip_cons_cons, List.lookup_cons, ne]
    exact zip_no fun q => n (List.mem_cons_of_mem _ q)
def fMeth (c : Nat) (F : List D → Res R) (fo : Env → Res R) (fr : Env → Res (List S)) : Env → Res R := fun env => (fo env).bind fun x => if x.st.isC c then (fr env).bind fun ss => callS F (x.st :: ss) else .bad
section
variable {X : Cx} {T : CT} {E : L2.St → XK}
theorem de_meth0 {o : Expr} {to : TE} {fo : Env → Res R} {m : Str} {apos pos : Pos} {c k n np : Nat} {Fb : Env → Fl} {pl : Sem Bool} (h : MtD X.prog X.w X.K T X.mg X.base CX0 c m k (defF0 n np Fb)) (hr : Room k X.A) (ho : DE X T E o to fo)
    (ht : eval (.Call (.Attribute o m apos) [] [] pos) X.env = (do
      let ov ← eval o X.env
      standAt apos.atName
      let (f, first) ← holding [ov] (getMethod ov m pl)
      callWith pos f first (backTo pos (starEach [] X.env)) (backToKw pos (keywordEach [] X.env))) := by rfl) :
    DE X T E (.Call (.Attribute o m apos) [] [] pos) (tMeth (T.C c) m (spD (pw X T) (defF0 n np Fb)) [] L2.E0 to tNil) (fMeth c (defF0 n np Fb) fo (fun _ => .ok [])) := by
  obtain ⟨f, fd, ps, F, hm, hb⟩ := h.ex
  refine ⟨pe_meth0 ho.pe h.cl hm F hr hb .nil pass0 ht, fun G0 H0 G H σ env s Q w => ?_⟩
  refine ho.ev.to s (ok := okR (pw X T) Q) w (fun _ _ g' _ h => h.grow g') fun rx x G1 H1 g1 rep w1 => ?_
  by_cases hc : rx.st.isC c = true
  · rw [if_pos hc, Res.bind_ok] at w1
    obtain ⟨a, dx, vs, rfl, ha⟩ := S.isC_ins rep g1.gh hc
    exact ⟨a, dx, _, rfl, ha, zip_no h.no, callS_use (p := pw X T) g1.gh (.cons rep .nil) (noEx_wish w1 (callS_noex defF0_noex _))⟩
  · rw [if_neg hc] at w1; exact w1.elim
theorem de_meth {o e : Expr} {es : List Expr} {to : TE} {fo : Env → Res R} {t : TA} {fr : Env → Res (List S)} {m : Str} {apos pos : Pos} {c k n np : Nat} {Fb : Env → Fl} {pl : Sem Bool} (h : MtD X.prog X.w X.K T X.mg X.base CX0 c m k (defF0 n np Fb)) (hr : Room k X.A) (ho : DE X T E o to fo) (ha : DA X T E (e :: es) t fr)
    (hst : starEach (e :: es) X.env = (false, eval e X.env) :: starEach es X.env := by rfl) (hpl : (backTo pos (starEach es X.env)).any (·.1) = false := by rfl)
    (ht : eval (.Call (.Attribute o m apos) (e :: es) [] pos) X.env = (do
      let ov ← eval o X.env
      standAt apos.atName
      let (f, first) ← holding [ov] (getMethod ov m pl)
      callWith pos f first (backTo pos (starEach (e :: es) X.env)) (backToKw pos (keywordEach [] X.env))) := by rfl) :
    DE X T E (.Call (.Attribute o m apos) (e :: es) [] pos) (tMeth (T.C c) m (spD (pw X T) (defF0 n np Fb)) [] L2.E0 to t) (fMeth c (defF0 n np Fb) fo fr) := by
  obtain ⟨f, fd, ps, F, hm, hb⟩ := h.ex
  refine ⟨pe_meth ho.pe h.cl hm F hr hb .nil pass0 ha.pa hst hpl ht, fun G0 H0 G H σ env s Q w => ?_⟩
  refine ho.ev.to s (ok := okR (pw X T) Q) w (fun _ _ g' _ h => h.grow g') fun rx x G1 H1 g1 rep w1 => ?_
  by_cases hc : rx.st.isC c = true
  · rw [if_pos hc] at w1
    obtain ⟨a, dx, vs, rfl, hx⟩ := S.isC_ins rep g1.gh hc
    refine ⟨a, dx, _, rfl, hx, zip_no h.no, ?_⟩
    refine ha.ev.to (s.grow g1) (ok := okR (pw X T) Q) w1 (fun _ _ g' _ h => h.grow g') fun ss vs2 G2 H2 g2 rep2 w2 => ?_
    rw [List.append_nil]
    exact callS_use (p := pw X T) g2.gh (.cons (rep.grow g2) rep2) (noEx_wish w2 (callS_noex defF0_noex _))
  · rw [if_neg hc] at w1; exact w1.elim
/-- one of two ways -/
theorem PE.orr {X : Cx} {e : Expr} {t u : TE} (h : PE X e t) (h' : PE X e u) : PE X e (fun σ H Q => t σ H Q ∨ u σ H Q) :=
  ⟨fun pins s σ H Q I q => q.elim (fun q => h.run pins s σ H Q I q) fun q => h'.run pins s σ H Q I q⟩
def fOr2 (f g : Env → Res R) : Env → Res R := fun env => match f env with | .bad => g env | z => z
theorem de_orr {e : Expr} {t u : TE} {f g : Env → Res R} (h : DE X T E e t f) (h' : DE X T E e u g) : DE X T E e (fun σ H Q => t σ H Q ∨ u σ H Q) (fOr2 f g) := by
  refine ⟨PE.orr h.pe h'.pe, fun G0 H0 G H σ env s Q w => ?_⟩
  unfold fOr2 at w
  cases q : f env with
  | ok r => rw [q] at w; exact .inl (h.ev G0 H0 G H σ env s Q (by rw [q]; exact w))
  | ex c z => rw [q] at w; exact .inl (h.ev G0 H0 G H σ env s Q (by rw [q]; exact w))
  | bad => rw [q] at w; exact .inr (h'.ev G0 H0 G H σ env s Q w)
end
end DL
namespace DL
open PySem L2
section
variable {X : Cx} {T : CT} {E : L2.St → XK}
abbrev gSub : S → S → Res R := gI (fun _ _ => true) (fun i j => .int (i - j))
abbrev gDiv : S → S → Res R := gI divOk (fun i j => .int (i / j))
abbrev gMod : S → S → Res R := gI modOk (fun i j => .int (i % j))
abbrev gShl : S → S → Res R := gI powOk (fun i j => .int (i * 2 ^ j.toNat))
abbrev gPow : S → S → Res R := gI powOk (fun i j => .int (i ^ j.toNat))
abbrev gShr : S → S → Res R := gI shrOk (fun i j => .int (i / 2 ^ j.toNat))
abbrev gBand : S → S → Res R := gI (fun _ _ => true) (fun i j => .int (andI i j))
abbrev gLt : S → S → Res R := gI (fun _ _ => true) fun i j => .bl (decide (i < j))
abbrev gLe : S → S → Res R := gI (fun _ _ => true) fun i j => .bl (decide (i ≤ j))
abbrev gGt : S → S → Res R := gI (fun _ _ => true) fun i j => .bl (decide (j < i))
abbrev gGe : S → S → Res R := gI (fun _ _ => true) fun i j => .bl (decide (j ≤ i))
@[simp] abbrev fNoP : Env → Res (Option Int) := fun _ => .ok none
@[simp] abbrev fNil : Env → Res (List S) := fun _ => .ok []
@[simp] abbrev fYes : Env → Res Bool := fun _ => .ok true
@[simp] abbrev fItems (n : Bool) (f : Env → Res R) : Env → Res (List D) := fun env => (f env).bind (itemsI n)
@[simp] abbrev fItemsT (f : Env → Res R) : Env → Res (List D) := fun env => (f env).bind itemsT
@[simp] abbrev fRng1 (f : Env → Res (List S)) : Env → Res (List D) := fun env => (f env).bind rng1
@[simp] abbrev fRng2 (f : Env → Res (List S)) : Env → Res (List D) := fun env => (f env).bind rng2
/-- -a -/
def gNeg : S → Res R := fun x => match x.int? with | some i => .ok (.fz (.int (-i))) | none => .bad
theorem de_neg {a : Expr} {ta : TE} {fa : Env → Res R} {pos : Pos} (ha : DE X T E a ta fa) : DE X T E (.UnaryOp .USub a pos) (tUn (rU fun i => .int (-i)) ta) (f1 gNeg fa) := by
  refine ⟨pe_un un_neg ha.pe, fun G0 H0 G H σ env s Q w => ?_⟩
  refine ha.ev.to s (ok := okR (pw X T) Q) w (fun _ _ g' _ h => h.grow g') fun rx x G1 H1 g1 rep1 w1 => ?_
  unfold gNeg at w1
  cases q : rx.st.int? with
  | none => rw [q] at w1; exact w1.elim
  | some i => rw [q] at w1; exact ⟨i, rep1.int q, wish_at g1.gh w1 (.int _)⟩
/-- x += e, ints -/
def augF (i : Nat) (f : Env → Res R) : Env → Fl := fun env => match env[i]? with
  | some (some (.fz (.int a))) => bindF (f env) fun r => (match r.st.int? with
    | some b => .nx (env.set i (some (.fz (.int (a + b)))))
    | none => .bad)
  | _ => .bad
theorem ds_aug {Ek : XK} (i : Nat) {x : Str} {e : Expr} {te : TE} {f : Env → Res R} {pos' pos : Pos} (hN : X.N.Nodup) (he : DE X T (kx Ek) e te f) (hi : X.N[i]? = some x := by rfl) (hx : Loc X.env.scope x := by first | exact Or.inl rfl | exact Or.inr rfl)
    (hf : X.fn x = true ∨ X.env.scope.names.lookup x = some .local := by first | exact .inl rfl | exact .inr rfl) : DS X T Ek (.AugAssign (.Name x pos') .Add e pos) (tAug i te (ipI fun i j => i + j)) (augF i f) := by
  refine ⟨ps_aug hN hi hx he.pe ip_add hf, fun G0 H0 G H σ env s Dn w => ?_⟩
  unfold augF at w
  split at w
  · rename_i a e
    obtain ⟨as, sl, fr⟩ := s.sl
    obtain ⟨v, bs, h1, h2, _⟩ := sl.get e
    cases h2 with
    | fz h2 =>
      cases h2
      refine ⟨.int a, h1, ?_⟩
      refine he.ev.toS s w fun r y G1 H1 g rep w1 => ?_
      obtain ⟨G', g', rep'⟩ := rep.settle g
      cases q : r.st.int? with
      | none => rw [q] at w1; exact w1.elim
      | some b =>
        rw [q] at w1
        exact ⟨a, b, rfl, rep'.int q, w1 G' H1 _ (s.set g' (.fz (.int _)) (fun _ m => nomatch m) i)⟩
  · exact w.elim
/-- try: .. else: .., where nothing is raised -/
@[simp] abbrev tryF (F F2 : Env → Fl) : Env → Fl := seqF F F2
theorem ds_thru {E : XK} {body orelse : List Stmt} {h0 : ExceptHandler} {hs : List ExceptHandler} {t u : TS} {F F2 : Env → Fl} {pos : Pos} (hb : DSs X.nox T E body t F) (ho : DSs X T E orelse u F2) : DS X T E (.Try body (h0 :: hs) orelse [] pos) (tThru t u) (tryF F F2) :=
  ⟨ps_try_thru hb.ps ho.ps, st_seq hb.ev ho.ev⟩
end
end DL
namespace DL
open PySem L2
theorem IsL.setAt {p : Pw} {G : Hp} : ∀ {vs : List V} {ds : List D} {v : V} {d : D} (j : Nat), IsL p G vs ds → Is p G v d → IsL p G (vs.set j v) (ds.set j d)
  | _, _, _, _, _, .nil, _ => .nil
  | _, _, _, _, 0, .cons _ r, h => .cons h r
  | _, _, _, _, j + 1, .cons k r, h => .cons k (IsL.setAt j r h)
theorem OwL.get2 {p : Pw} {G H : Hp} : ∀ {vs : List V} {os : List O} {as : List Addr} {i : Nat} {o : O}, OwL p G H vs os as → os[i]? = some o → O.wholeL os = true → ∃ v bs, vs[i]? = some v ∧ Ow p G H v o bs ∧ (∀ b ∈ bs, b ∈ as) ∧ O.whole o = true
  | _, _, _, _, _, .nil, e, _ => by simp at e
  | _, _, _, 0, _, .cons h _ _, e, w => by
    simp at e; subst e
    simp only [O.wholeL, Bool.and_eq_true] at w
    exact ⟨_, _, rfl, h, fun b m => List.mem_append_left _ m, w.1⟩
  | _, _, _, i + 1, o, .cons _ r _, e, w => by
    simp only [O.wholeL, Bool.and_eq_true] at w
    obtain ⟨v, bs, h1, h2, h3, h4⟩ := OwL.get2 (i := i) (o := o) r (by simpa using e) w.2
    exact ⟨v, bs, by simpa using h1, h2, fun b m => List.mem_append_right _ (h3 b m), h4⟩
/-! ### things made one after another, each its maker's own -/
def EvAO (p : Pw) (E : L2.St → XK) (t : TA) (f : Env → Res (List O)) : Prop :=
  ∀ G0 H0 G H σ env, SOk p G0 H0 G H σ env → ∀ Q, WishG p (E σ) G H (fun os => ∀ vs as G2 H2, Grow G H G2 H2 → OwL p G2 H2 vs os as → (∀ a ∈ as, H a = none) → Q vs H2) (f env) → t σ H Q
structure DAO (X : Cx) (T : CT) (E : L2.St → XK) (es : List Expr) (t : TA) (f : Env → Res (List O)) : Prop where
  pa : PA X es t
  ev : EvAO (pw X T) E t f
section
variable {X : Cx} {T : CT} {E : L2.St → XK}
abbrev fNilO : Env → Res (List O) := fun _ => .ok []
def fConsO (f : Env → Res R) (fr : Env → Res (List O)) : Env → Res (List O) := fun env => (f env).bind fun r => match store true r with
  | some o => (fr env).bind fun os => .ok (o :: os)
  | none => .bad
theorem dao_nil : DAO X T E [] tNil fNilO := ⟨pa_nil, fun G0 H0 G H σ env s Q w => w [] [] G H (Grow.refl s.gr.gh) .nil (fun _ m => nomatch m)⟩
theorem dao_cons {e : Expr} {es : List Expr} {te : TE} {tr : TA} {fa : Env → Res R} {fr : Env → Res (List O)} (ha : DE X T E e te fa) (hr : DAO X T E es tr fr) (hs : starEach (e :: es) X.env = (false, eval e X.env) :: starEach es X.env := by rfl) :
    DAO X T E (e :: es) (tCons te tr) (fConsO fa fr) := by
  refine ⟨pa_cons ha.pe hr.pa hs, fun G0 H0 G H σ env s Q w => ?_⟩
  unfold fConsO at w
  refine ha.ev G0 H0 G H σ env s _ ?_
  cases e : fa env with
  | bad => rw [e] at w; exact w
  | ex c ds => rw [e] at w; exact w
  | ok r =>
    rw [e, Res.bind_ok] at w
    intro v G1 H1 g1 rep
    cases q : store true r with
    | none => rw [q] at w; exact w.elim
    | some o =>
      rw [q] at w
      obtain ⟨G', cs, g', ex, ho, fr0⟩ := store_rep rep g1 q
      refine hr.ev G0 H0 G' H1 σ env (s.grow g') _ ?_
      dsimp only at w
      cases e2 : fr env with
      | bad => rw [e2] at w; exact w
      | ex c ds => rw [e2] at w; exact WX'.grow w g'
      | ok os =>
        rw [e2, Res.bind_ok] at w
        intro vs as G2 H2 g2 hl hf
        refine w (v :: vs) (cs ++ as) G2 H2 (g'.trans g2) (.cons (g2.own ho) hl fun a m z => ?_) fun a m => ?_
        · obtain ⟨_, u, eu, _⟩ := ho.at a m
          rw [hf a z] at eu; cases eu
        · rcases List.mem_append.mp m with z | z
          · exact fr0 a z
          · exact Evl.fresh_back g'.h (hf a z)
def fLstO (fr : Env → Res (List O)) : Env → Res R := fun env => (fr env).bind fun os => if os.length ≤ LINE ∧ O.wholeL os = true then .ok (.new (.lst os)) else .bad
theorem de_lstO {es : List Expr} {t : TA} {fr : Env → Res (List O)} {pos : Pos} (h : DAO X T E es t fr) : DE X T E (.List es pos) (tLst t) (fLstO fr) := by
  refine ⟨pe_lst h.pa, fun G0 H0 G H σ env s Q w => ?_⟩
  unfold fLstO at w
  refine h.ev G0 H0 G H σ env s _ ?_
  cases e : fr env with
  | bad => rw [e] at w; exact w
  | ex c ds => rw [e] at w; exact w
  | ok os =>
    rw [e, Res.bind_ok] at w
    intro vs as G1 H1 g1 hl hf
    by_cases hz : os.length ≤ LINE ∧ O.wholeL os = true
    · rw [if_pos hz] at w
      refine ⟨by rw [hl.length]; exact line_ok hz.1, fun a n => ?_⟩
      have ng : G1 a = none := Evl.fresh_back g1.gh n
      have na : a ∉ as := fun m => by
        obtain ⟨_, u, eu, _⟩ := hl.at a m
        rw [n] at eu; cases eu
      refine w (.ref a) G1 _ (g1.heap (Evl.Ex.new n)) ⟨a :: as, .lst upd_same ng na (hl.mono (Evl.Ex.refl _) fun x m => ⟨(hl.at x m).1, upd_ne fun z => na (z ▸ m)⟩), fun b m => ?_, by simpa [O.whole] using hz.2⟩
      rcases List.mem_cons.mp m with q | q
      · subst q; exact Evl.fresh_back g1.h n
      · exact hf b q
    · rw [if_neg hz] at w; exact w.elim
/-- x[i] of a new list: the item is new, too -/
def fIxO (fa fb : Env → Res R) : Env → Res R := fun env => (fa env).bind fun x => (fb env).bind fun y => match x, y.st.int? with
  | .new (.lst os), some i => (match atI os i with | some (.fz d) => .ok (.fz d) | some o => .ok (.new o) | none => .bad)
  | _, _ => .bad
theorem de_ixO {a b : Expr} {ta tb : TE} {fa fb : Env → Res R} {pos : Pos} (ha : DE X T E a ta fa) (hb : DE X T E b tb fb) (hs : PlainIx b := by exact fun _ _ => rfl) : DE X T E (.Subscript a b pos) (tOp (rIx X.K) ta tb) (fIxO fa fb) := by
  refine ⟨pe_ix ix_seq ha.pe hb.pe hs, fun G0 H0 G H σ env s Q w => ?_⟩
  unfold fIxO at w
  refine ha.ev G0 H0 G H σ env s _ ?_
  cases e : fa env with
  | bad => rw [e] at w; exact w
  | ex c ds => rw [e] at w; exact w
  | ok x =>
    rw [e, Res.bind_ok] at w
    intro v G1 H1 g1 rep
    refine hb.ev G0 H0 G1 H1 σ env (s.grow g1) _ ?_
    cases e2 : fb env with
    | bad => rw [e2] at w; exact w
    | ex c ds => rw [e2] at w; exact WX'.grow w g1
    | ok y =>
      rw [e2, Res.bind_ok] at w
      intro u G2 H2 g2 rep2
      obtain ⟨G3, g3, rep3⟩ := rep2.settle g2
      split at w
      · rename_i os i hi
        have eu := rep3.int hi
        subst eu
        obtain ⟨as, ho, hf, hw⟩ := rep
        have ho := g3.own ho
        cases ho with
        | lst hp gp np hr =>
          rename_i a vs as1
          have hw : O.wholeL os = true := by simpa [O.whole] using hw
          cases q : atI os i with
          | none => rw [q] at w; exact w.elim
          | some o =>
            rw [q] at w
            have : ∃ v bs, atI vs i = some v ∧ Ow (pw X T) G3 H2 v o bs ∧ (∀ b ∈ bs, b ∈ as1) ∧ O.whole o = true := by
              unfold atI at q ⊢
              rw [hr.length]
              cases q2 : ixN os.length i with
              | none => rw [q2] at q; cases q
              | some j => rw [q2] at q; exact hr.get2 (i := j) (o := o) q hw
            obtain ⟨v, bs, h1, h2, h3, h4⟩ := this
            refine .inl ⟨a, vs, i, v, rfl, rfl, SqL.of hp, h1, ?_⟩
            cases o with
            | fz d => cases h2 with | fz h2 => exact w v G3 H2 (g1.trans g3) h2
            | _ => exact w v G3 H2 (g1.trans g3) ⟨bs, h2, fun b m => hf b (List.mem_cons_of_mem _ (h3 b m)), h4⟩
      · exact w.elim
end
section
variable {X : Cx} {T : CT} {E : XK}
/-! ### x.clear() -/
def clrF (i : Nat) : Env → Fl := fun env => match env[i]? with
  | some (some (.lst _)) => .nx (env.set i (some (.lst [])))
  | _ => .bad
theorem st_clr {p : Pw} (i : Nat) : StR p E (tDrop (tBM0 p.K "list" rClear (tVar i))) (clrF i) := by
  intro G0 H0 G H σ env s Dn w
  unfold clrF at w
  split at w
  · rename_i os e
    obtain ⟨v, bs, as', hv, ho, hf, hd, ha, upd', _⟩ := s.reown e
    cases ho with
    | lst hp gp np hr =>
      rename_i a vs as1
      refine ⟨.ref a, hv, .inl ⟨rfl, _, SqL.of hp⟩, a, vs, rfl, rfl, hp, ?_⟩
      exact w G _ σ (upd' G _ _ [a] (s.gr.updO (hf a List.mem_cons_self) gp) (Evl.Ex.refl _) (fun x m => ⟨(ha x m).1, upd_ne (fun z => hd a List.mem_cons_self (z ▸ m))⟩) (.lst upd_same gp (by simp) .nil) (fun b m => .inl (by
        rcases List.mem_cons.mp m with z | z
        · exact z ▸ List.mem_cons_self
        · cases z)))
  · exact w.elim
theorem ds_clr (i : Nat) {x : Str} {apos cpos pos pos2 : Pos} (hN : X.N[i]? = some x := by rfl) (hv : Vis X.env.scope x := by first | exact Or.inl rfl | exact Or.inr (Or.inl rfl) | exact Or.inr (Or.inr rfl)) (hd : (x == ("__debug__" : Str)) = false := by decide)
    (hcd : (x == ("__classdict__" : Str)) = false := by decide) (hline : (apos.endLine == cpos.line) = true := by rfl) :
    DS X T E (.Expr (.Call (.Attribute (.Name x pos2) "clear" apos) [] [] cpos) pos) (tDrop (tBM0 X.K "list" rClear (tVar i))) (clrF i) :=
  ⟨ps_expr (pe_bm0 PySem.F.plainAttrs_list PySem.F.slot_list_clear PySem.F.type_list_clear mt_clear (pe_var hN hv hd hcd) rfl hline), st_clr (p := pw X T) i⟩
/-! ### x[k] = e -/
def setIxF (i : Nat) (fk f : Env → Res R) : Env → Fl := fun env => match env[i]? with
  | some (some (.lst os)) => bindF (f env) fun r => (match store false r with
    | some (.fz d) => bindF (fk env) fun y => (match y.st.int?, itemsF os with
      | some k, some ds => (match ixN ds.length k with
        | some j => .nx (env.set i (some (.lst ((ds.set j d).map O.fz))))
        | none => .bad)
      | _, _ => .bad)
    | _ => .bad)
  | _ => .bad
theorem st_setIx {p : Pw} {te tk : TE} {f fk : Env → Res R} (i : Nat) (hk : EvR p (kx E) tk fk) (h : EvR p (kx E) te f) : StR p E (tAsg te (L2.gSub (tVar i) tk rSetL)) (setIxF i fk f) := by
  intro G0 H0 G H σ env s Dn w
  unfold setIxF at w
  split at w
  · rename_i os e
    obtain ⟨v, bs, as', hv, ho, hf, hd, ha, upd', _⟩ := s.reown e
    cases ho with
    | lst hp gp np hr =>
      rename_i a vs as1
      refine h.toS s w fun r y G1 H1 g rep w1 => ?_
      cases q : store false r with
      | none => rw [q] at w1; exact w1.elim
      | some o =>
        rw [q] at w1
        obtain ⟨G', cs, g', ex, ho', fr⟩ := store_rep rep g q
        cases o with
        | fz d =>
          cases ho' with
          | fz isd =>
            refine ⟨.ref a, hv, ?_⟩
            have s1 := s.grow g'
            refine hk.toS s1 w1 fun rk z G2 H2 g2 rep2 w2 => ?_
            obtain ⟨G3, g3, rep3⟩ := rep2.settle g2
            split at w2
            · rename_i k ds hi hit
              have ez := rep3.int hi
              subst ez
              have g13 := g'.trans g3
              have h2a : H2 a = some (.lst vs) := g13.h a _ hp
              have na : G3 a = none := g13.keep a _ hp rfl gp
              have isv : IsL p G3 vs ds := (itemsF_is hr hit).mono g13.g
              cases q2 : ixN ds.length k with
              | none => rw [q2] at w2; exact w2.elim
              | some j =>
                rw [q2] at w2
                refine ⟨a, vs, k, j, rfl, rfl, h2a, by rw [isv.length]; exact q2, ?_⟩
                refine w2 G3 _ σ (upd' G3 _ _ [a] ((s.gr.trans g13).updO (hf a List.mem_cons_self) na) g13.g (fun x m => ?_) (.lst upd_same na (by simp) (owL_fz (isv.setAt j (isd.mono g3.g)))) fun b m => .inl ?_)
                · have nx : x ≠ a := fun z => hd a List.mem_cons_self (z ▸ m)
                  obtain ⟨n, u, eu, tu⟩ := ha x m
                  exact ⟨g13.keep x u eu tu n, by rw [upd_ne nx, g13.h x u eu, eu]⟩
                · rcases List.mem_cons.mp m with z | z
                  · exact z ▸ List.mem_cons_self
                  · cases z
            · exact w2.elim
        | _ => exact w1.elim
  · exact w.elim
theorem ds_setIx (i : Nat) {x : Str} {b e : Expr} {te tk : TE} {f fk : Env → Res R} {pos pos2 tpos : Pos} (he : DE X T (kx E) e te f) (hb : DE X T (kx E) b tk fk) (hN : X.N[i]? = some x := by rfl) (hv : Vis X.env.scope x := by first | exact Or.inl rfl | exact Or.inr (Or.inl rfl) | exact Or.inr (Or.inr rfl)) (hd : (x == ("__debug__" : Str)) = false := by decide)
    (hcd : (x == ("__classdict__" : Str)) = false := by decide) (ha : ∀ v, assign (.Subscript (.Name x pos2) b tpos) X.env v = (do
      let ov ← holding [v] (eval (.Name x pos2) X.env)
      let iv ← holding [v, ov] (eval b X.env)
      standAt tpos
      holding [v, ov, iv] (setItem ov iv v)
      release [v, ov, iv] []) := by intro _; rfl) (hs : swapsWithSole [.Subscript (.Name x pos2) b tpos] e pos.line X.env = pure false := by rfl) (hw : swappedStores [.Subscript (.Name x pos2) b tpos] e X.env = pure none := by rfl)
    (h1 : (assignEach [.Subscript (.Name x pos2) b tpos] X.env).map (·.2) = [assign (.Subscript (.Name x pos2) b tpos) X.env] := by rfl) :
    DS X T E (.Assign [.Subscript (.Name x pos2) b tpos] e pos) (tAsg te (L2.gSub (tVar i) tk rSetL)) (setIxF i fk f) :=
  ⟨ps_asg he.pe (pg_sub (pe_var hN hv hd hcd) hb.pe set_list ha) hs hw h1, st_setIx (p := pw X T) i hb.ev he.ev⟩
end
end DL
namespace DL
open PySem L2 PyProof.Rows
/-! ## dicts by words -/
abbrev WK := Int × Bool
def lkW (ds : List (WK × D)) (k : WK) : Option D := (ds.find? fun e => decide (e.1 = k)).map (·.2)
def putW : List (WK × D) → WK → D → List (WK × D)
  | [], k, d => [(k, d)]
  | e :: ds, k, d => if e.1 = k then (k, d) :: ds else e :: putW ds k d
section
variable {X : Cx} {T : CT} {pins : List (Addr × Obj)} {s : Shared} {σ : L2.St} {H : Hp}
theorem key_is (I : L2.Inv X pins σ H s) {b : Addr} {k : WK} (h : SqT X.K H b [.int k.1, .bl k.2]) : (nestedKind X.prog X.w).is s.heap (wkey k) b := by
  obtain ⟨its, rv, ⟨o, e, c, n, d⟩, hz⟩ := I.tuple h
  cases rv with
  | cons r1 rv =>
    cases rv with
    | cons r2 rv =>
      cases rv
      obtain ⟨t, rfl⟩ := r1
      cases r2
      exact ⟨.tup e c d (.cons (.int _ _) (.cons (.bool rfl) .nil)), Nat.le_of_ble_eq_true rfl⟩
theorem isE_is (I : L2.Inv X pins σ H s) : ∀ {xs : List (NestedKey × Addr × Value)} {ds : List (WK × D)}, IsE (pw X T) H xs ds → ∀ x ∈ xs, (nestedKind X.prog X.w).is s.heap x.1 x.2.1
  | _, _, .nil, x, m => nomatch m
  | _, _, .cons h _ _ r, x, m => by
    rcases List.mem_cons.mp m with z | z
    · subst z; exact key_is I h
    · exact isE_is I r x z
theorem isE_keys {p : Pw} {G : Hp} : ∀ {xs : List (NestedKey × Addr × Value)} {ds : List (WK × D)}, IsE p G xs ds → xs.map (·.1) = ds.map fun e => wkey e.1
  | _, _, .nil => rfl
  | _, _, .cons _ _ _ r => by rw [List.map_cons, List.map_cons, isE_keys r]
theorem isE_len {p : Pw} {G : Hp} {xs : List (NestedKey × Addr × Value)} {ds : List (WK × D)} (h : IsE p G xs ds) : xs.length = ds.length := by
  have := congrArg List.length (isE_keys h)
  simpa using this
theorem nodup_keys {ds : List (WK × D)} (h : (ds.map (·.1)).Nodup) : (ds.map fun e => wkey e.1).Nodup := by
  have : ((ds.map (·.1)).map wkey).Nodup := List.Pairwise.map wkey (fun a b e z => e (wkey_inj z)) h
  rw [List.map_map] at this
  exact this
def DWAt (p : Pw) (G H : Hp) (a : Addr) (ds : List (WK × D)) : Prop := ∃ o es ep xs, H a = some (exO a o) ∧ (a == sysModules) = false ∧ o.ExactDict ∧ o.data = .dict es ep ∧ es.toList = xs.map (entryOfKey (nestedKind p.P p.w)) ∧ IsE p G xs ds ∧ (ds.map (·.1)).Nodup ∧ ds.length ≤ 1000000
theorem DWAt.of_is {p : Pw} {G H : Hp} (e : Ex G H) {a : Addr} {ds : List (WK × D)} (h : Is p G (.ref a) (.dkw ds)) : DWAt p G H a ds := by
  cases h with
  | dkw hp hs he hd ht hx hn hl => exact ⟨_, _, _, _, e _ _ hp, hs, he, hd, ht, hx, hn, hl⟩
theorem DWAt.of_ow {p : Pw} {G H : Hp} {v : V} {ds : List (WK × D)} {as : List Addr} (h : Ow p G H v (.dkw ds) as) : ∃ a, v = .ref a ∧ as = [a] ∧ G a = none ∧ DWAt p G H a ds := by
  cases h with
  | dkw hp hg hs he hd ht hx hn hl => exact ⟨_, rfl, rfl, hg, _, _, _, _, hp, hs, he, hd, ht, hx, hn, hl⟩
theorem dw_of (I : L2.Inv X pins σ H s) {G : Hp} (e : Ex G H) {a : Addr} {ds : List (WK × D)} (h : DWAt (pw X T) G H a ds) : ∃ xs, s.heap.DictOfH (nestedKind X.prog X.w) a xs ∧ IsE (pw X T) G xs ds ∧ (a == sysModules) = false ∧ ds.length ≤ 1000000 ∧ (ds.map (·.1)).Nodup ∧ ∃ o, H a = some (exO a o) := by
  obtain ⟨o, es, ep, xs, hp, hs, he, hd, ht, hx, hn, hl⟩ := h
  have z := (I.hok a _ hp).1
  exact ⟨xs, ⟨o, es, ep, z, he, hd, ht, isE_is I (hx.mono e), by rw [isE_keys hx]; exact nodup_keys hn⟩, hx, hs, hl, hn, o, hp⟩
theorem atKey_none {p : Pw} {G : Hp} {k : WK} : ∀ {xs : List (NestedKey × Addr × Value)} {ds : List (WK × D)}, IsE p G xs ds → lkW ds k = none → atKey xs (wkey k) = none
  | _, _, .nil, _ => rfl
  | _, _, .cons (k := j) h1 h2 h3 r, e => by
    unfold lkW atKey at *
    rw [List.find?_cons] at e ⊢
    by_cases c : j = k
    · subst c; simp at e
    · have c2 : ¬ wkey j = wkey k := fun z => c (wkey_inj z)
      simp only [decide_eq_false c, decide_eq_false c2] at e ⊢
      exact atKey_none (k := k) r e
theorem atKey_some {p : Pw} {G : Hp} {k : WK} {d : D} : ∀ {xs : List (NestedKey × Addr × Value)} {ds : List (WK × D)}, IsE p G xs ds → lkW ds k = some d → ∃ b u v, atKey xs (wkey k) = some (b, u) ∧ RelV v u ∧ Is p G v d
  | _, _, .nil, e => by simp [lkW] at e
  | _, _, .cons (k := j) (a := b) (u := u) (v := v) h1 h2 h3 r, e => by
    unfold lkW at e
    rw [List.find?_cons] at e
    by_cases c : j = k
    · subst c
      simp at e
      subst e
      exact ⟨b, u, v, by simp [atKey], h2, h3⟩
    · have c2 : ¬ wkey j = wkey k := fun z => c (wkey_inj z)
      simp only [decide_eq_false c] at e
      obtain ⟨b', u', v', q1, q2⟩ := atKey_some (k := k) (d := d) r e
      refine ⟨b', u', v', ?_, q2⟩
      unfold atKey at q1 ⊢
      rw [List.find?_cons]
      simp only [decide_eq_false c2]
      exact q1
/-- a word's tuple -/
def WdV (K : PySem.W.Frag) (H : Hp) (x : V) (k : WK) : Prop := ∃ b, x = .ref b ∧ SqT K H b [.int k.1, .bl k.2]
theorem wd_of {p : Pw} {H : Hp} {x : V} {k : WK} (h : Is p H x (.tup [.int k.1, .bl k.2])) : WdV p.K H x k := by
  cases h with
  | tup h r =>
    cases r with
    | cons a r =>
      cases r with
      | cons b r =>
        cases r
        cases a
        cases b
        exact ⟨_, rfl, h⟩
def rInW (p : Pw) (neg : Bool) : R2 := fun x y H Q => ∃ G k a ds, Ex G H ∧ WdV p.K H x k ∧ y = .ref a ∧ DWAt p G H a ds ∧ Q (.bl (if neg then !(lkW ds k).isSome else (lkW ds k).isSome)) H
theorem isSome_at {p : Pw} {G : Hp} {k : WK} {xs : List (NestedKey × Addr × Value)} {ds : List (WK × D)} (h : IsE p G xs ds) : (atKey xs (wkey k)).isSome = (lkW ds k).isSome := by
  cases q : lkW ds k with
  | none => rw [atKey_none h q]; rfl
  | some d => obtain ⟨b, u, v, e, _⟩ := atKey_some h q; rw [e]; rfl
theorem op_inW (hu : X.A.units + 65 < cLine) : OpR X (compareOp .In) (rInW (pw X T) false) := by
  intro pins s σ H x y v u Q I rx ry h
  obtain ⟨G, k, a, ds, ex, ⟨b, rfl, hb⟩, rfl, hd, q⟩ := h
  cases rx
  cases ry
  obtain ⟨xs, hx, he, hs, _⟩ := dw_of I ex hd
  refine wpAny_in_heap (show _ from ?_) (key_is I hb) hs hx ⟨.bl _, H, I.tok _, rfl, ?_⟩
  · show X.A.in1.units + 8 < cLine
    have : X.A.in1.units = X.A.units + 1 := rfl
    omega
  · rw [isSome_at he]
    exact q
theorem op_notInW (hu : X.A.units + 65 < cLine) : OpR X (compareOp .NotIn) (rInW (pw X T) true) := by
  intro pins s σ H x y v u Q I rx ry h
  obtain ⟨G, k, a, ds, ex, ⟨b, rfl, hb⟩, rfl, hd, q⟩ := h
  cases rx
  cases ry
  obtain ⟨xs, hx, he, hs, _⟩ := dw_of I ex hd
  show wpAny _ _ (do return Value.bool (!(← contains (.ref a) (.ref b)))) _ _ s
  refine wpAny_bind (wpAny_contains_heap (show _ from ?_) (key_is I hb) hs hx (wpAny_pure ⟨.bl _, H, I.tok _, rfl, ?_⟩))
  · show X.A.in1.units + 8 < cLine
    have : X.A.in1.units = X.A.units + 1 := rfl
    omega
  · rw [isSome_at he]
    exact q
/-- d[k] -/
def rIxW (p : Pw) : R2 := fun x y H Q => ∃ G k a ds d, Ex G H ∧ WdV p.K H y k ∧ x = .ref a ∧ DWAt p G H a ds ∧ lkW ds k = some d ∧ ∀ v, Is p G v d → Q v H
theorem ix_W (hu : X.A.units + 65 < cLine) : IxR X (rIxW (pw X T)) := by
  intro value slice pins s σ H x y v u Q I rx ry h hs
  obtain ⟨G, k, a, ds, d, ex, ⟨b, rfl, hb⟩, rfl, hd, e, q⟩ := h
  cases rx
  cases ry
  obtain ⟨xs, hx, he, hsys, _⟩ := dw_of I ex hd
  obtain ⟨b', u', v', e1, r, i⟩ := atKey_some he e
  have go : wpAny (model X.prog X.w) X.A (getItem (.ref a) (.ref b)) (EP X pins σ Q) X.xe s := by
    refine wpAny_getItem_heap (show _ from ?_) (key_is I hb) hx e1 ⟨v', H, I.tok _, r, q v' i⟩
    show X.A.in1.units + 8 < cLine
    have : X.A.in1.units = X.A.units + 1 := rfl
    omega
  exact tail_any hx.typeIs slot_dict_getitem.lookup go hs
/-! d[k] = v -/
theorem putW_len (ds : List (WK × D)) (k : WK) (d : D) : (putW ds k d).length ≤ ds.length + 1 := by
  induction ds with
  | nil => exact Nat.le_refl _
  | cons e ds ih =>
    unfold putW
    split
    · simp
    · simpa using ih
theorem putW_mem {ds : List (WK × D)} {k : WK} {d : D} : ∀ j, j ∈ (putW ds k d).map (·.1) → j ∈ ds.map (·.1) ∨ j = k := by
  induction ds with
  | nil => intro j h; exact .inr (by simpa [putW] using h)
  | cons e ds ih =>
    intro j h
    unfold putW at h
    split at h
    · rename_i c
      rcases List.mem_cons.mp h with z | z
      · exact .inr z
      · exact .inl (List.mem_cons_of_mem _ z)
    · rcases List.mem_cons.mp h with z | z
      · exact .inl (z ▸ List.mem_cons_self)
      · rcases ih j z with y | y
        · exact .inl (List.mem_cons_of_mem _ y)
        · exact .inr y
theorem putW_nodup {ds : List (WK × D)} {k : WK} {d : D} (h : (ds.map (·.1)).Nodup) : ((putW ds k d).map (·.1)).Nodup := by
  induction ds with
  | nil => simp [putW]
  | cons e ds ih =>
    rw [List.map_cons, List.nodup_cons] at h
    unfold putW
    split
    · rename_i c
      rw [List.map_cons, List.nodup_cons]
      exact ⟨by rw [← c]; exact h.1, h.2⟩
    · rename_i c
      rw [List.map_cons, List.nodup_cons]
      refine ⟨fun m => ?_, ih h.2⟩
      rcases putW_mem _ m with z | z
      · exact h.1 z
      · exact c z
theorem putAt_other {x : NestedKey × Addr × Value} {k : NestedKey} {v : Value} (h : ¬ x.1 = k) : putAt k v x = x := by unfold putAt; rw [if_neg h]
theorem map_putAt_none {k : NestedKey} {v : Value} : ∀ {xs : List (NestedKey × Addr × Value)}, (∀ x ∈ xs, ¬ x.1 = k) → xs.map (putAt k v) = xs
  | [], _ => rfl
  | x :: xs, h => by rw [List.map_cons, putAt_other (h x List.mem_cons_self), map_putAt_none fun y m => h y (List.mem_cons_of_mem _ m)]
theorem isE_put {p : Pw} {G : Hp} {k : WK} {d : D} {b : Addr} {u : Value} {v : V} (hb : SqT p.K G b [.int k.1, .bl k.2]) (hr : RelV v u) (hd : Is p G v d) : ∀ {xs : List (NestedKey × Addr × Value)} {ds : List (WK × D)}, IsE p G xs ds → (ds.map (·.1)).Nodup → IsE p G (storedH xs (wkey k) b u) (putW ds k d)
  | _, _, .nil, _ => by
    have : storedH ([] : List (NestedKey × Addr × Value)) (wkey k) b u = [(wkey k, b, u)] := rfl
    rw [this]
    exact .cons hb hr hd .nil
  | _, _, .cons (k := j) (a := a') (u := u') (v := v') (xs := xs) (d := d') (ds := ds) h1 h2 h3 r, n => by
    rw [List.map_cons, List.nodup_cons] at n
    by_cases c : j = k
    · subst c
      have e : storedH ((wkey j, a', u') :: xs) (wkey j) b u = (wkey j, a', u) :: xs := by
        have : atKey ((wkey j, a', u') :: xs) (wkey j) = some (a', u') := by simp [atKey]
        rw [storedH_old this, List.map_cons]
        have : putAt (wkey j) u (wkey j, a', u') = (wkey j, a', u) := by unfold putAt; rw [if_pos rfl]
        rw [this, map_putAt_none]
        intro x m z
        have : x.1 ∈ xs.map (·.1) := List.mem_map_of_mem m
        rw [isE_keys r, z] at this
        obtain ⟨e', m', z'⟩ := List.mem_map.mp this
        have y : e'.1 ∈ ds.map (·.1) := List.mem_map_of_mem (f := fun e : WK × D => e.1) m'
        rw [wkey_inj z'] at y
        exact n.1 y
      rw [e]
      unfold putW
      rw [if_pos rfl]
      exact .cons h1 hr hd r
    · have c2 : ¬ wkey j = wkey k := fun z => c (wkey_inj z)
      have e : storedH ((wkey j, a', u') :: xs) (wkey k) b u = (wkey j, a', u') :: storedH xs (wkey k) b u := by
        have q : atKey ((wkey j, a', u') :: xs) (wkey k) = atKey xs (wkey k) := by
          unfold atKey
          rw [List.find?_cons]
          simp only [decide_eq_false c2]
        unfold storedH
        rw [q]
        split
        · rw [List.map_cons, putAt_other c2]
        · rfl
      rw [e]
      unfold putW
      rw [if_neg c]
      exact .cons h1 h2 h3 (isE_put hb hr hd r n.2)
def rSetW (p : Pw) : TSet := fun x y v H Q => ∃ G k a ds d, Ex G H ∧ WdV p.K G y k ∧ x = .ref a ∧ DWAt p G H a ds ∧ Is p G v d ∧ ds.length < 1000000 ∧ ∀ o es ep xs, (a == sysModules) = false → o.ExactDict → o.data = .dict es ep → es.toList = xs.map (entryOfKey (nestedKind p.P p.w)) → IsE p G xs (putW ds k d) → Q (upd H a (exO a o))
theorem set_W (hu : X.A.units + 65 < cLine) : PSet X (rSetW (pw X T)) := by
  intro pins s σ H x y v xv yv u Q I rx ry rv h
  obtain ⟨G, k, a, ds, d, ex, ⟨b, rfl, hb⟩, rfl, hd, iv, hl, q⟩ := h
  cases rx
  cases ry
  obtain ⟨xs, hx, he, hsys, hl2, hn, o0, hp⟩ := dw_of I ex hd
  refine wpAny_setItem_heap (show _ from ?_) (key_is I (sqT_mono ex hb)) hx (fun h' dd' hs => ?_) (by rw [isE_len he]; show _ ≤ 16777216; omega)
  · show X.A.in1.units + 8 < cLine
    have : X.A.in1.units = X.A.units + 1 := rfl
    omega
  · obtain ⟨o, es, ep, ho, hex, hda, hes, _, _⟩ := dd'
    refine ⟨_, d_write (ob := exO a o) I (by rw [hp]; exact True.intro) hs ⟨o, ho⟩ (show h'.get? a = some o ∧ (∃ o, h'.get? a = some o) ∧ ∀ h1 h2 : Heap, h1.get? a = some o → (∀ o, h1.get? a = some o → h2.get? a = some o) → h2.get? a = some o from ⟨ho, ⟨o, ho⟩, fun h1 h2 e k => k o e⟩), q o es ep _ hsys hex hda hes (isE_put hb rv iv he hn)⟩
end
end DL
namespace DL
open PySem L2 PyProof.Rows
def S.wds? : S → Option (List (WK × D))
  | .fz (.dkw ds) => some ds
  | .bor (.dkw ds) => some ds
  | _ => none
theorem RepS.wds {p : Pw} {G H : Hp} {v : V} {s : S} {ds : List (WK × D)} (h : RepS p G H v s) (e : Ex G H) (q : s.wds? = some ds) : ∃ a, v = .ref a ∧ DWAt p G H a ds := by
  unfold S.wds? at q
  split at q
  · cases q
    have h : Is p G v _ := h
    cases h with
    | dkw hp hs he hd ht hx hn hl => exact ⟨_, rfl, _, _, _, _, e _ _ hp, hs, he, hd, ht, hx, hn, hl⟩
  · cases q
    obtain ⟨as, h⟩ := h
    obtain ⟨a, rfl, _, _, h⟩ := DWAt.of_ow h
    exact ⟨a, rfl, h⟩
  · cases q
def S.wk? : S → Option WK
  | .fz (.tup [.int i, .bl b]) => some (i, b)
  | _ => none
theorem RepS.wk {p : Pw} {G H : Hp} {v : V} {s : S} {k : WK} (h : RepS p G H v s) (q : s.wk? = some k) : WdV p.K G v k := by
  unfold S.wk? at q
  split at q
  · cases q; exact wd_of (k := (_, _)) h
  · cases q
theorem WdV.mono {K : PySem.W.Frag} {G H : Hp} (e : Ex G H) {x : V} {k : WK} (h : WdV K G x k) : WdV K H x k := by
  obtain ⟨b, rfl, h⟩ := h
  exact ⟨b, rfl, sqT_mono e h⟩
def gInW (f : Bool → Bool) : S → S → Res R := fun x y => match x.wk?, y.wds? with
  | some k, some ds => .ok (.fz (.bl (f (lkW ds k).isSome)))
  | _, _ => .bad
def gIxW : S → S → Res R := fun x y => match x.wds?, y.wk? with
  | some ds, some k => (match lkW ds k with | some d => .ok (.fz d) | none => .bad)
  | _, _ => .bad
theorem opv_inW {p : Pw} : OpV p (rInW p false) (gInW id) := by
  intro G H x y sx sy e rx ry Q E w
  unfold gInW at w
  split at w
  · rename_i k ds q1 q2
    obtain ⟨a, rfl, hd⟩ := ry.wds e q2
    exact ⟨G, k, a, ds, e, (rx.wk q1).mono e, rfl, hd, wish_at e w (.bl _)⟩
  · exact w.elim
theorem opv_notInW {p : Pw} : OpV p (rInW p true) (gInW not) := by
  intro G H x y sx sy e rx ry Q E w
  unfold gInW at w
  split at w
  · rename_i k ds q1 q2
    obtain ⟨a, rfl, hd⟩ := ry.wds e q2
    exact ⟨G, k, a, ds, e, (rx.wk q1).mono e, rfl, hd, wish_at e w (.bl _)⟩
  · exact w.elim
theorem opv_ixW {p : Pw} : OpV p (rIxW p) gIxW := by
  intro G H x y sx sy e rx ry Q E w
  unfold gIxW at w
  split at w
  · rename_i ds k q1 q2
    obtain ⟨a, rfl, hd⟩ := rx.wds e q1
    cases q : lkW ds k with
    | none => rw [q] at w; exact w.elim
    | some d =>
      rw [q] at w
      exact ⟨G, k, a, ds, d, e, (ry.wk q2).mono e, rfl, hd, q, fun v h => wish_at e w h⟩
  · exact w.elim
def gInA (f : Bool → Bool) : S → S → Res R := fun x y => match gIn f x y with | .bad => gInW f x y | z => z
def gIxA : S → S → Res R := fun x y => match gIx x y with | .bad => gIxW x y | z => z
section
variable {X : Cx} {T : CT} {E : L2.St → XK}
theorem cv_inA {k : Nat} (hr : Room (k + 1) X.A) : CmpV X T .In (fun x y H Q => rInA X.K x y H Q ∨ rInW (pw X T) false x y H Q) (gInA id) :=
  ⟨(cv_in (T := T) hr).op.or (op_inW (units65 hr)), (opv_in (p := pw X T)).or opv_inW⟩
theorem cv_notInA {k : Nat} (hr : Room (k + 1) X.A) : CmpV X T .NotIn (fun x y H Q => rNotInA X.K x y H Q ∨ rInW (pw X T) true x y H Q) (gInA not) :=
  ⟨(cv_notIn (T := T) hr).op.or (op_notInW (units65 hr)), (opv_notIn (p := pw X T)).or opv_notInW⟩
theorem de_ixA {k : Nat} (hr : Room (k + 1) X.A) {a b : Expr} {ta tb : TE} {fa fb : Env → Res R} {pos : Pos} (ha : DE X T E a ta fa) (hb : DE X T E b tb fb) (hs : PlainIx b := by exact fun _ _ => rfl) :
    DE X T E (.Subscript a b pos) (tOp (fun x y H Q => rIx X.K x y H Q ∨ rIxW (pw X T) x y H Q) ta tb) (fOp gIxA fa fb) :=
  ⟨pe_ix (ix_seq.or (ix_W (units65 hr))) ha.pe hb.pe hs, ev_op ((opv_ix (p := pw X T)).or opv_ixW) ha.ev hb.ev⟩
end
section
variable {X : Cx} {T : CT} {E : XK}
/-! ### x[k] = e, x a dict by words -/
def setWF (i : Nat) (fk f : Env → Res R) : Env → Fl := fun env => match env[i]? with
  | some (some (.dkw ds)) => bindF (f env) fun r => (match store false r with
    | some (.fz d) => bindF (fk env) fun y => (match y.st.wk? with
      | some k => if ds.length < 1000000 then .nx (env.set i (some (.dkw (putW ds k d)))) else .bad
      | none => .bad)
    | _ => .bad)
  | _ => .bad
theorem st_setW {p : Pw} {te tk : TE} {f fk : Env → Res R} (i : Nat) (hk : EvR p (kx E) tk fk) (h : EvR p (kx E) te f) : StR p E (tAsg te (L2.gSub (tVar i) tk (rSetW p))) (setWF i fk f) := by
  intro G0 H0 G H σ env s Dn w
  unfold setWF at w
  split at w
  · rename_i ds e
    obtain ⟨v, bs, as', hv, ho, hf, hd, ha, upd', _⟩ := s.reown e
    obtain ⟨a, rfl, rfl, ga, hdw⟩ := DWAt.of_ow ho
    refine h.toS s w fun r y G1 H1 g rep w1 => ?_
    cases q : store false r with
    | none => rw [q] at w1; exact w1.elim
    | some o =>
      rw [q] at w1
      obtain ⟨G', cs, g', ex, ho', fr⟩ := store_rep rep g q
      cases o with
      | fz d =>
        cases ho' with
        | fz isd =>
          refine ⟨.ref a, hv, ?_⟩
          have s1 := s.grow g'
          refine hk.toS s1 w1 fun rk z G2 H2 g2 rep2 w2 => ?_
          obtain ⟨G3, g3, rep3⟩ := rep2.settle g2
          split at w2
          · rename_i k hk'
            by_cases hl : ds.length < 1000000
            · rw [if_pos hl] at w2
              have g13 := g'.trans g3
              have na : G3 a = none := by
                obtain ⟨o, _, _, _, hp, _⟩ := hdw
                exact g13.keep a _ hp rfl ga
              have hdw3 : DWAt p G3 H2 a ds := by
                obtain ⟨o, es, ep, xs, hp, c1, c2, c3, c4, c5, c6, c7⟩ := hdw
                exact ⟨o, es, ep, xs, g13.h a _ hp, c1, c2, c3, c4, c5.mono g13.g, c6, c7⟩
              have hn := hdw3
              obtain ⟨_, _, _, _, _, _, _, _, _, _, nd, _⟩ := hn
              refine ⟨G3, k, a, ds, d, g13.gh, rep3.wk hk', rfl, hdw3, isd.mono g3.g, hl, fun o es ep xs c1 c2 c3 c4 c5 => ?_⟩
              refine w2 G3 _ σ (upd' G3 _ _ [a] ((s.gr.trans g13).updO (hf a List.mem_cons_self) na) g13.g (fun x m => ?_) (.dkw upd_same na c1 c2 c3 c4 c5 (putW_nodup nd) (by have := putW_len ds k d; omega)) fun b m => .inl m)
              have nx : x ≠ a := fun z => hd a List.mem_cons_self (z ▸ m)
              obtain ⟨n, u, eu, tu⟩ := ha x m
              exact ⟨g13.keep x u eu tu n, by rw [upd_ne nx, g13.h x u eu, eu]⟩
            · rw [if_neg hl] at w2; exact w2.elim
          · exact w2.elim
      | _ => exact w1.elim
  · exact w.elim
theorem ds_setW {k : Nat} (hr : Room (k + 1) X.A) (i : Nat) {x : Str} {b e : Expr} {te tk : TE} {f fk : Env → Res R} {pos pos2 tpos : Pos} (he : DE X T (kx E) e te f) (hb : DE X T (kx E) b tk fk) (hN : X.N[i]? = some x := by rfl) (hv : Vis X.env.scope x := by first | exact Or.inl rfl | exact Or.inr (Or.inl rfl) | exact Or.inr (Or.inr rfl)) (hd : (x == ("__debug__" : Str)) = false := by decide)
    (hcd : (x == ("__classdict__" : Str)) = false := by decide) (ha : ∀ v, assign (.Subscript (.Name x pos2) b tpos) X.env v = (do
      let ov ← holding [v] (eval (.Name x pos2) X.env)
      let iv ← holding [v, ov] (eval b X.env)
      standAt tpos
      holding [v, ov, iv] (setItem ov iv v)
      release [v, ov, iv] []) := by intro _; rfl) (hs : swapsWithSole [.Subscript (.Name x pos2) b tpos] e pos.line X.env = pure false := by rfl) (hw : swappedStores [.Subscript (.Name x pos2) b tpos] e X.env = pure none := by rfl)
    (h1 : (assignEach [.Subscript (.Name x pos2) b tpos] X.env).map (·.2) = [assign (.Subscript (.Name x pos2) b tpos) X.env] := by rfl) :
    DS X T E (.Assign [.Subscript (.Name x pos2) b tpos] e pos) (tAsg te (L2.gSub (tVar i) tk (rSetW (pw X T)))) (setWF i fk f) :=
  ⟨ps_asg he.pe (pg_sub (pe_var hN hv hd hcd) hb.pe (set_W (units65 hr)) ha) hs hw h1, st_setW (p := pw X T) i hb.ev he.ev⟩
end
end DL
namespace DL
open PySem L2 PyProof.Rows
/-! ### for k in d, d a dict by words -/
def ItW (d : Addr) (o : Obj) (qs : List Addr) : It :=
  ⟨fun i H => H d = some (exO d o) ∧ i < qs.length, fun i H x H' => H' = H ∧ ∃ q, qs[i]? = some q ∧ x = .ref q, fun i H => H d = some (exO d o) ∧ qs.length ≤ i⟩
theorem key_at {es : Array DictEntry} {qs : List Addr} {i : Nat} (h : es.toList.map (·.key) = qs.map Value.ref) (hi : i < qs.length) : ∃ en, es[i]? = some en ∧ en.key = .ref qs[i] := by
  have hl : es.size = qs.length := by have := congrArg List.length h; simpa using this
  refine ⟨es[i]'(by omega), Array.getElem?_eq_getElem (by omega), ?_⟩
  have e := congrArg (fun l => l[i]?) h
  simp only [List.getElem?_map] at e
  rw [List.getElem?_eq_getElem (by simpa using (by omega : i < es.size)), List.getElem?_eq_getElem hi] at e
  simpa using e
theorem turn_W {P : Program} {w : World} {K : PySem.W.Frag} {tg : Expr} {d : Addr} {o : Obj} {es : Array DictEntry} {ep : Nat} {qs : List Addr} (it : Addr) (hod : o.data = .dict es ep) (hq : es.toList.map (·.key) = qs.map Value.ref) :
    Turn P w K tg (ItW d o qs) [it] it (fun i h => h.IsKeyIter it d i qs.length ep) where
  mem := List.mem_cons_self
  obj := fun i h st b hb => by
    rcases List.mem_cons.mp hb with z | z
    · subst z
      obtain ⟨oi, e1, c1, d1⟩ := st
      exact ⟨oi, e1, fun v y => by rw [d1] at y; cases y⟩
    · cases z
  keep := fun i h h' st k => by
    obtain ⟨oi, e1, c1, d1⟩ := st
    exact ⟨oi, k it List.mem_cons_self oi e1, c1, d1⟩
  item := by
    intro X hP hw hK hc i pins s σ H E I hf st hg
    subst hP hw hK
    obtain ⟨hd, hi⟩ := hg
    obtain ⟨f0, f1, f2, f3, f4, f5⟩ := hf it List.mem_cons_self
    have hgd := (I.hok d _ hd).1
    have hsz : es.size = qs.length := by have := congrArg List.length hq; simpa using this
    obtain ⟨en, hen, hkey⟩ := key_at hq hi
    refine next_key_item st hgd hod hsz hen fun h' st' sb => ?_
    have J : L2.Inv X pins σ H { s with heap := h' } := I.turned (t' := s.toks) (fun b ob hb e => (sb.2 b hb).trans e) f0 f1 f3 f4 f5
    obtain ⟨oi, e1, c1, d1⟩ := id st'
    refine ⟨en.key, rfl, go_of (s := { s with heap := h' }) e1 c1 d1 (by decide) ⟨.ref qs[i], H, J, hkey, ⟨rfl, qs[i], List.getElem?_eq_getElem hi, rfl⟩, st', fun b hb => (hf b hb).1⟩⟩
  done := by
    intro X hP hw hK hc i pins s σ H E I hf st hg
    subst hP hw hK
    obtain ⟨hd, hi⟩ := hg
    obtain ⟨f0, f1, f2, f3, f4, f5⟩ := hf it List.mem_cons_self
    have hgd := (I.hok d _ hd).1
    have hsz : es.size = qs.length := by have := congrArg List.length hq; simpa using this
    exact next_key_end (I.ok.hd hc) st hgd hod hsz hi fun h' eb => ⟨rfl, I.turned (t' := s.toks) (fun b ob hb e => eb b ob hb e) f0 f1 f3 f4 f5⟩
  self := fun A i s Q E st h => by
    refine wpAny_pyIter_slot st.typeIs F.slot_dict_keyiterator_iter (wpAny_call_entry F.slot_dict_keyiterator_iter st.typeIs F.entry_dict_keyiterator_iter ?_ (F.args_dict_keyiterator_iter_1 _))
    exact wpAny_pure ⟨_, rfl, "dict_keyiterator", _, st.typeIs, F.slot_dict_keyiterator_next.lookup, h⟩
def iW (tl : TE) : TI := fun σ H R => tl σ H fun x H1 => ∃ d o es ep qs, x = .ref d ∧ H1 d = some (exO d o) ∧ (d == sysModules) = false ∧ o.ExactDict ∧ o.data = .dict es ep ∧ es.toList.map (·.key) = qs.map Value.ref ∧ R (ItW d o qs) H1
theorem pi_W {X : Cx} {tg e : Expr} {td : TE} (he : PE X e td) : PI X tg e (iW td) := by
  refine ⟨fun pins s σ H R I h => ?_⟩
  refine thn (he.run pins s σ H _ I h) fun u s1 ⟨x, H1, I1, rx, d, o, es, ep, qs, ex, hd, hs, hx, hdt, hq, q⟩ => ?_
  subst ex
  obtain rfl : u = Value.ref d := rx
  have hgd := (I1.hok d _ hd).1
  have hsz : es.size = qs.length := by have := congrArg List.length hq; simpa using this
  refine iter_keys hs hgd hx hdt (pi_one (tk := s1.toks) I1 _ (turn_W _ hdt hq) ⟨_, Heap.get?_push_size _ rfl, rfl, ?_⟩ q)
  rw [hsz]
  rfl
def wdD (k : WK) : D := .tup [.int k.1, .bl k.2]
def itemsW (n : Bool) (r : R) : Res (List D) := match r.st with
  | .fz (.dkw ds) => .ok (ds.map fun e => wdD e.1)
  | .bor (.dkw ds) => if n then .bad else .ok (ds.map fun e => wdD e.1)
  | _ => .bad
theorem isE_refs {p : Pw} {G : Hp} : ∀ {xs : List (NestedKey × Addr × Value)} {ds : List (WK × D)}, IsE p G xs ds → IsL p G (xs.map fun x => V.ref x.2.1) (ds.map fun e => wdD e.1)
  | _, _, .nil => .nil
  | _, _, .cons h _ _ r => .cons (.tup h (.cons (.int _) (.cons (.bl _) .nil))) (isE_refs r)
theorem walk_W {p : Pw} {G Gw : Hp} {d : Addr} {o : Obj} {xs : List (NestedKey × Addr × Value)} {ds : List (WK × D)} (h : ∀ H, Ex Gw H → H d = some (exO d o)) (r : IsE p G xs ds) : WalkD p (ItW d o (xs.map fun x => x.2.1)) Gw G (ds.map fun e => wdD e.1) := by
  have hl : (xs.map fun x => x.2.1).length = (ds.map fun e => wdD e.1).length := by simp [isE_len r]
  refine ⟨fun i H hi e => ⟨h H e, by omega⟩, fun H e => ⟨h H e, by omega⟩, fun i H x H' hi e y => ?_⟩
  obtain ⟨rfl, q, hq, rfl⟩ := y
  have := (isE_refs r).getV (i := i) (v := .ref q) (by
    rw [List.getElem?_map] at hq ⊢
    cases z : xs[i]? with
    | none => rw [z] at hq; cases hq
    | some x => rw [z] at hq; cases hq; rfl)
  exact yd_same ⟨rfl, this⟩
theorem keys_refs {p : Pw} {es : Array DictEntry} {xs : List (NestedKey × Addr × Value)} (h : es.toList = xs.map (entryOfKey (nestedKind p.P p.w))) : es.toList.map (·.key) = (xs.map fun x => x.2.1).map Value.ref := by
  rw [h, List.map_map, List.map_map]
  rfl
section
variable {X : Cx} {T : CT} {E : L2.St → XK}
theorem di_W {n : Bool} {tg l : Expr} {tl : TE} {f : Env → Res R} (h : DE X T E l tl f) : DI X T E n tg l (iW tl) (fun env => (f env).bind (itemsW n)) := by
  refine ⟨pi_W h.pe, fun G0 H0 G H σ env s R w => ?_⟩
  refine h.ev.to s (ok := okI (pw X T) R n) w (fun _ _ g' _ h => h.grow g') fun r v G1 H1 g rep w1 => ?_
  unfold itemsW at w1
  have sub : ∀ {H}, Ex (if n then G1 else H1) H → Ex G1 H := fun {H} e => by
    cases n with
    | true => exact e
    | false => exact g.gh.trans e
  split at w1
  · rename_i ds q
    rw [q] at rep
    have rep : Is (pw X T) G1 v _ := rep
    cases rep with
    | dkw hp hs he hd ht hx hn hl => exact ⟨_, _, _, _, _, rfl, g.gh _ _ hp, hs, he, hd, keys_refs (p := pw X T) ht, w1 _ G1 H1 (Grow.refl g.gh) (walk_W (fun H e => sub e _ _ hp) hx)⟩
  · rename_i ds q
    rw [q] at rep
    cases n with
    | true => rw [if_pos rfl] at w1; exact w1.elim
    | false =>
      rw [if_neg Bool.false_ne_true] at w1
      obtain ⟨as, ho⟩ := rep
      obtain ⟨a, rfl, _, _, o, es, ep, xs, hp, hs, he, hd, ht, hx, hn, hl⟩ := DWAt.of_ow ho
      exact ⟨_, _, _, _, _, rfl, hp, hs, he, hd, keys_refs (p := pw X T) ht, w1 _ G1 H1 (Grow.refl g.gh) (walk_W (fun H e => e _ _ hp) hx)⟩
  · exact w1.elim
end
end DL
namespace DL
open PySem L2 PyProof.Rows
/-! ### {}, {w: x}: new dicts by words -/
abbrev dict0 : Obj := { cls := .type "dict", data := .dict #[] }
theorem dict0_exact : dict0.ExactDict := ⟨rfl, rfl, rfl⟩
theorem exO_ok {P : Program} {w : World} {H : Hp} {h : Heap} {a : Addr} {o : Obj} (e : h.get? a = some o) : ObjOk P w H h a (exO a o) :=
  show h.get? a = some o ∧ (∃ u, h.get? a = some u) ∧ ∀ h1 h2 : Heap, h1.get? a = some o → (∀ u, h1.get? a = some u → h2.get? a = some u) → h2.get? a = some o from ⟨e, ⟨o, e⟩, fun _ _ q k => k o q⟩
def tDNewW : TE := fun _ H Q => ∀ p, H p = none → (p == sysModules) = false → Q (.ref p) (upd H p (exO p dict0))
theorem new_sys {X : Cx} {pins : List (Addr × Obj)} {σ : L2.St} {H : Hp} {s : Shared} (I : L2.Inv X pins σ H s) : (s.heap.objs.size == sysModules) = false :=
  beq_eq_false_iff_ne.mpr (Ne.symm (Nat.ne_of_lt I.big))
section
variable {X : Cx} {T : CT} {E : L2.St → XK} {pos : Pos}
theorem pe_dnewW : PE X (.Dict [] [] pos) tDNewW := ⟨fun pins s σ H Q I h =>
  wpAny_Dict_empty ⟨.ref s.heap.objs.size, _, I.laid (o := exO s.heap.objs.size dict0) (t' := s.toks) (fun _ _ q => Heap.get?_push_of_some _ q) (Nat.le_refl _) (exO_ok (Heap.get?_push_size _ rfl)), rfl, h _ (I.hok.fresh (Nat.le_refl _)) (new_sys I)⟩⟩
def fNewW : Env → Res R := fun _ => .ok (.new (.dkw []))
theorem de_dnewW : DE X T E (.Dict [] [] pos) tDNewW fNewW := by
  refine ⟨pe_dnewW, fun G0 H0 G H σ env s Q w => ?_⟩
  intro p hn hs
  have ng : G p = none := Evl.fresh_back s.gr.gh hn
  refine w (.ref p) G _ ((Grow.refl s.gr.gh).heap (Evl.Ex.new hn)) ⟨[p], .dkw upd_same ng hs dict0_exact rfl (xs := []) rfl .nil List.nodup_nil (Nat.zero_le _), fun b m => ?_, rfl⟩
  rcases List.mem_cons.mp m with z | z
  · exact z ▸ hn
  · cases z
/-- {w: x} -/
def tDispW (p : Pw) (tk tv : TE) : TE := fun σ H Q => ∀ a, H a = none → (a == sysModules) = false → tk σ (upd H a (exO a dict0)) fun x H1 => tv σ H1 fun y H2 => H2 a = some (exO a dict0) ∧
  ∃ k b, x = .ref b ∧ SqT p.K H2 b [.int k.1, .bl k.2] ∧ ∀ o es ep u, o.ExactDict → o.data = .dict es ep → es.toList = [(wkey k, b, u)].map (entryOfKey (nestedKind p.P p.w)) → RelV y u → Q (.ref a) (upd H2 a (exO a o))
theorem pe_dispW {k v : Expr} {tk tv : TE} (hu : X.A.units + 65 < cLine) (hk : PE X k tk) (hv : PE X v tv) : PE X (.Dict [some k] [v] pos) (tDispW (pw X T) tk tv) := by
  refine ⟨fun pins s σ H Q I q => ?_⟩
  have hn := I.hok.fresh (Nat.le_refl s.heap.objs.size)
  have I1 := I.laid (o := exO s.heap.objs.size dict0) (h' := s.heap.push dict0) (t' := s.toks) (fun _ _ q => Heap.get?_push_of_some _ q) (Nat.le_refl _) (exO_ok (Heap.get?_push_size _ rfl))
  have room : (nestedKind X.prog X.w).room X.A := by show X.A.units + 8 < cLine; omega
  rw [arm_eval_Dict, zip_pairTrees [some k] [v] X.env pos rfl rfl, dictDisplay_pairs (pairTrees [some k] [v] X.env pos) (by simp [pairTrees]) (by simp [pairTrees])]
  refine wpAny_bind (wpAny_standAt (wpAny_bind (wpAny_subDictH (knd := nestedKind X.prog X.w) room (by simp [pairTrees]) ?_)))
  refine pairTrees_cons_walk (thn (hk.run pins _ σ _ _ I1 (q _ hn (new_sys I))) fun u s1 ⟨x, H1, J1, rx, q1⟩ => thn (hv.run pins s1 σ H1 _ J1 q1) fun z s2 ⟨y, H2, J2, ry, he, kk, b, ex, hb, q2⟩ => pairTrees_nil_walk ?_)
  subst ex
  cases rx
  have hg := (J2.hok _ _ he).1
  refine ⟨[(wkey kk, b, z)], ⟨rfl, rfl, key_is J2 hb, True.intro⟩, ⟨dict0, #[], 0, hg, dict0_exact, rfl, rfl, (fun _ m => nomatch m), List.nodup_nil⟩, fun h' tk hm hs => wpAny_pure ?_⟩
  obtain ⟨o, es, ep, ho, hx, hd, ht, _, _⟩ := hm
  refine ⟨.ref s.heap.objs.size, _, d_write (ob := exO s.heap.objs.size o) J2 (by rw [he]; exact True.intro) hs ⟨o, ho⟩ (exO_ok ho), rfl, q2 o es ep z hx hd ht ry⟩
def fDispW (fk fv : Env → Res R) : Env → Res R := fun env => (fk env).bind fun x => (fv env).bind fun y => match x.st.wk?, y.st with
  | some k, .fz d => .ok (.new (.dkw [(k, d)]))
  | _, _ => .bad
theorem de_dispW {n : Nat} (hr : Room (n + 1) X.A) {k v : Expr} {tk tv : TE} {fk fv : Env → Res R} (hk : DE X T E k tk fk) (hv : DE X T E v tv fv) : DE X T E (.Dict [some k] [v] pos) (tDispW (pw X T) tk tv) (fDispW fk fv) := by
  refine ⟨pe_dispW (units65 hr) hk.pe hv.pe, fun G0 H0 G H σ env s Q w => ?_⟩
  intro a hn hs
  have ng : G a = none := Evl.fresh_back s.gr.gh hn
  have g0 : Grow G H G (upd H a (exO a dict0)) := (Grow.refl s.gr.gh).heap (Evl.Ex.new hn)
  unfold fDispW at w
  refine hk.ev G0 H0 G _ σ env (s.grow g0) _ ?_
  cases e1 : fk env with
  | bad => rw [e1] at w; exact w
  | ex c ds => rw [e1] at w; exact WX'.grow w g0
  | ok x =>
    rw [e1, Res.bind_ok] at w
    intro vx G1 H1 g1 rep1
    obtain ⟨G1', g1', rep1'⟩ := rep1.settle g1
    refine hv.ev G0 H0 G1' H1 σ env ((s.grow g0).grow g1') _ ?_
    cases e2 : fv env with
    | bad => rw [e2] at w; exact w
    | ex c ds => rw [e2] at w; exact WX'.grow w (g0.trans g1')
    | ok y =>
      rw [e2, Res.bind_ok] at w
      intro vy G2 H2 g2 rep2
      obtain ⟨G2', g2', rep2'⟩ := rep2.settle g2
      have g12 := g1'.trans g2'
      split at w
      · rename_i kk d q1 q2
        have ha : H2 a = some (exO a dict0) := g12.h a _ upd_same
        have na : G2' a = none := g12.keep a _ upd_same rfl ng
        obtain ⟨b, rfl, hb⟩ := (rep1'.grow g2').wk q1
        rw [q2] at rep2'
        refine ⟨ha, kk, b, rfl, sqT_mono g2'.gh hb, fun o es ep u hx hd ht ru => ?_⟩
        refine w (.ref a) G2' _ ((g0.trans g12).updO hn na) ⟨[a], .dkw upd_same na hs hx hd ht (.cons hb ru rep2' .nil) (by simp) (by simp), fun c m => ?_, rfl⟩
        rcases List.mem_cons.mp m with z | z
        · exact z ▸ hn
        · cases z
      · exact w.elim
/-! ### d.get(k, x) -/
def tGetW (p : Pw) (td ty tx : TE) : TE := fun σ H Q => td σ H fun x H1 => ∃ a, x = .ref a ∧ (∃ o, H1 a = some (exO a o) ∧ o.ExactDict) ∧ ty σ H1 fun y H2 => tx σ H2 fun z H3 =>
  ∃ G k ds, Ex G H3 ∧ WdV p.K H3 y k ∧ DWAt p G H3 a ds ∧ (∀ d, lkW ds k = some d → ∀ v, Is p G v d → Q v H3) ∧ (lkW ds k = none → Q z H3)
theorem pe_getW {o e f : Expr} {apos cpos : Pos} {td ty tx : TE} (hu : X.A.units + 65 < cLine) (ho : PE X o td) (he : PE X e ty) (hf : PE X f tx) (m : M2 X o "get" apos e f cpos) : PE X (.Call (.Attribute o "get" apos) [e, f] [] cpos) (tGetW (pw X T) td ty tx) := by
  refine ⟨fun pins s σ H Q I h => ?_⟩
  refine wpAny_Call_method m.base m.few m.line PySem.F.plainAttrs_dict PySem.F.slot_dict_get PySem.F.type_dict_get (thn (ho.run pins s σ H _ I h) fun u s1 ⟨x, H1, I1, rx, a, ex, ⟨ob, hob, hex⟩, q1⟩ => ?_)
  subst ex
  obtain rfl : u = Value.ref a := rx
  have hg := (I1.hok a _ hob).1
  refine ⟨⟨ob, hg, hex.1⟩, ?_, ?_⟩
  · exact fun c z => by cases z; exact ⟨ob, hg, hex.2.1⟩
  rw [m.trees]
  refine Calls.callWith_builtin rfl (Calls.evalArgs_plain (Calls.spliced_cons (thn (he.run pins s1 σ H1 _ I1 q1) fun iv s2 ⟨y, H2, I2, ry, q2⟩ =>
    Calls.spliced_cons (thn (hf.run pins s2 σ H2 _ I2 q2) fun fv s3 ⟨z, H3, I3, rz, G, k, ds, eG, ⟨b, eb, hb⟩, hd, c1, c2⟩ => Calls.spliced_nil ?_))))
  subst eb
  cases ry
  obtain ⟨xs, hx, hE, hsys, _⟩ := dw_of I3 eG hd
  refine getOr_keyed (knd := nestedKind X.prog X.w) (show _ from ?_) (key_is I3 hb) hsys ⟨xs, hx, rfl⟩ ?_
  · show X.A.in1.units + 8 < cLine
    have : X.A.in1.units = X.A.units + 1 := rfl
    omega
  · rw [valueAt_pairsH]
    cases q : lkW ds k with
    | none => rw [atKey_none hE q]; exact ⟨z, H3, I3.tok _, rz, c2 q⟩
    | some d =>
      obtain ⟨b', u', v', e1, r, i⟩ := atKey_some hE q
      rw [e1]
      exact ⟨v', H3, I3.tok _, r, c1 d q v' i⟩
def fGetW (fo fk fd : Env → Res R) : Env → Res R := fun env => (fo env).bind fun x => match x.st.wds? with
  | none => .bad
  | some ds => (fk env).bind fun y => (match y.st.wk? with
    | none => .bad
    | some k => (fd env).bind fun z => (match z.st with
      | .fz dd => .ok (.fz ((lkW ds k).getD dd))
      | .bor _ => .bad))
theorem DWAt.grow {p : Pw} {G H G' H' : Hp} {a : Addr} {ds : List (WK × D)} (h : DWAt p G H a ds) (g : Grow G H G' H') : DWAt p G' H' a ds := by
  obtain ⟨o, es, ep, xs, hp, c1, c2, c3, c4, c5, c6, c7⟩ := h
  exact ⟨o, es, ep, xs, g.h a _ hp, c1, c2, c3, c4, c5.mono g.g, c6, c7⟩
theorem de_getW {n : Nat} (hr : Room (n + 1) X.A) {o e f : Expr} {apos cpos : Pos} {td ty tx : TE} {fo fk fd : Env → Res R} (ho : DE X T E o td fo) (he : DE X T E e ty fk) (hf : DE X T E f tx fd) (m : M2 X o "get" apos e f cpos := by exact ⟨rfl, rfl, rfl, rfl⟩) :
    DE X T E (.Call (.Attribute o "get" apos) [e, f] [] cpos) (tGetW (pw X T) td ty tx) (fGetW fo fk fd) := by
  refine ⟨pe_getW (units65 hr) ho.pe he.pe hf.pe m, fun G0 H0 G H σ env s Q w => ?_⟩
  unfold fGetW at w
  refine ho.ev.to s (ok := okR (pw X T) Q) w (fun _ _ g' _ h => h.grow g') fun rx x G1 H1 g1 rep1 w1 => ?_
  cases q1 : rx.st.wds? with
  | none => rw [q1] at w1; exact w1.elim
  | some ds =>
    rw [q1] at w1
    obtain ⟨a, rfl, hd⟩ := rep1.wds g1.gh q1
    obtain ⟨ob, _, _, _, hp, _, hx, _⟩ := id hd
    refine ⟨a, rfl, ⟨ob, hp, hx⟩, ?_⟩
    refine he.ev.to (s.grow g1) (ok := okR (pw X T) Q) w1 (fun _ _ g' _ h => h.grow g') fun ry y G2 H2 g2 rep2 w2 => ?_
    cases q2 : ry.st.wk? with
    | none => rw [q2] at w2; exact w2.elim
    | some k =>
      rw [q2] at w2
      refine hf.ev.to ((s.grow g1).grow g2) (ok := okR (pw X T) Q) w2 (fun _ _ g' _ h => h.grow g') fun rz z G3 H3 g3 rep3 w3 => ?_
      cases q3 : rz.st with
      | bor _ => rw [q3] at w3; exact w3.elim
      | fz dd =>
        rw [q3] at w3 rep3
        refine ⟨G3, k, ds, g3.gh, ((rep2.grow g3).wk q2).mono g3.gh, (hd.grow g2).grow g3, fun d q v i => ?_, fun q => ?_⟩
        · rw [q] at w3; exact wish_at g3.gh w3 i
        · rw [q] at w3; exact wish_at g3.gh w3 rep3
end
end DL
namespace DL
open PySem L2 PyProof.Rows
/-! ### sorted(d), d a dict by words -/
def b01 (b : Bool) : Int := if b then 1 else 0
def IsWd (h : Heap) (v : Value) (k : WK) : Prop := ∃ a o t n, v = .ref a ∧ h.get? a = some o ∧ o.cls = .type "tuple" ∧ o.data = .seq #[.int k.1 t, .bool k.2] n
theorem IsWd.keeps {h h' : Heap} {v : Value} {k : WK} (p : IsWd h v k) (q : ∀ b o, h.get? b = some o → o.cls = .type "tuple" → h'.get? b = some o) : IsWd h' v k := by
  obtain ⟨a, o, t, n, e, ho, hc, hd⟩ := p
  exact ⟨a, o, t, n, e, q _ _ ho hc, hc, hd⟩
theorem IsWd.inj {h : Heap} {v : Value} {k j : WK} (p : IsWd h v k) (q : IsWd h v j) : k = j := by
  obtain ⟨a, o, t, n, e, ho, hc, hd⟩ := p
  obtain ⟨a', o', t', n', e', ho', hc', hd'⟩ := q
  rw [e] at e'
  cases e'
  rw [ho] at ho'
  cases ho'
  rw [hd] at hd'
  obtain ⟨i, x⟩ := k
  obtain ⟨j, y⟩ := j
  injection hd' with e1 e2
  have e3 := congrArg Array.toList e1
  simp at e3
  obtain ⟨⟨h1, _⟩, h2⟩ := e3
  rw [h1, h2]
def ltW (p q : WK) : Bool := if p.1 = q.1 then decide (b01 p.2 < b01 q.2) else decide (p.1 < q.1)
theorem ltW_iff {p q : WK} : ltW p q = true ↔ p.1 < q.1 ∨ (p.1 = q.1 ∧ b01 p.2 < b01 q.2) := by
  unfold ltW
  by_cases e : p.1 = q.1
  · rw [if_pos e, decide_eq_true_eq]
    omega
  · rw [if_neg e, decide_eq_true_eq]
    omega
theorem ltW_no {p q : WK} : ltW p q = false ↔ ¬ (p.1 < q.1 ∨ (p.1 = q.1 ∧ b01 p.2 < b01 q.2)) := by
  rw [← ltW_iff]
  cases ltW p q <;> simp
theorem swoW (k : Value → WK) : SrtO.Swo fun v u => ltW (k v) (k u) :=
  ⟨fun x y h => by have := ltW_iff.mp h; rw [ltW_no]; omega, fun x y z h1 h2 => by have := ltW_no.mp h1; have := ltW_no.mp h2; rw [ltW_no]; omega⟩
section
variable {prog : Program} {w : World} {A : Around} {E : Value → Shared → Prop} {s : Shared}
theorem wd_cmp {vs : List Value} {k : Value → WK} (hp : ∀ v ∈ vs, IsWd s.heap v (k v)) : SrtO.Cmp prog w A s (tuples' true) (fun p => p.1 ∈ vs) (SrtO.lt2 fun v u => ltW (k v) (k u)) := by
  intro p q hm hm'
  obtain ⟨a, o, t, n, e, ho, hc, hd⟩ := hp _ hm
  obtain ⟨a', o', t', n', e', ho', hc', hd'⟩ := hp _ hm'
  show wpAny (model prog w) A (keyLt' (tuples' true) p.1 q.1) (fun r s' => s' = s ∧ r = ltW (k p.1) (k q.1)) (fun _ _ => False) s
  unfold ltW
  generalize k p.1 = x at hd ⊢
  generalize k q.1 = y at hd' ⊢
  obtain ⟨x1, x2⟩ := x
  obtain ⟨y1, y2⟩ := y
  rw [e, e']
  refine PySem.W.kat_lt ho hd ho' hd' (PySem.W.kat_cons (SeqAt.EqAt.int_int x1 t y1 t' prog w _ _ ?_))
  refine PySem.W.kat_go (fun e1 => ?_) (fun e1 => ?_)
  · have ex : x1 = y1 := by simpa using e1
    subst ex
    rw [if_pos rfl]
    refine PySem.W.kat_yes (PySem.W.kat_cons (SeqAt.EqAt.bool_bool x2 y2 prog w _ _ ?_))
    refine PySem.W.kat_go (fun e2 => ?_) (fun e2 => ?_)
    · have ey : x2 = y2 := by simpa using e2
      subst ey
      exact PySem.W.kat_yes (PySem.W.kat_nil ⟨rfl, (decide_eq_false (Int.lt_irrefl _)).symm⟩)
    · refine PySem.W.kat_no (PySem.W.kat_one _ _ (lt_bool ?_))
      exact (show s = s ∧ decide (b2i x2 < b2i y2) = decide (b01 x2 < b01 y2) from ⟨rfl, rfl⟩)
  · have ex : ¬ x1 = y1 := by simpa using e1
    rw [if_neg ex]
    exact PySem.W.kat_no (oneLt_int ⟨rfl, rfl⟩)
end
end DL
namespace DL
open PySem L2 PyProof.Rows
/-! sorted words -/
def insW (k : WK) : List WK → List WK
  | [] => [k]
  | j :: l => if ltW k j = true then k :: j :: l else j :: insW k l
def sortW : List WK → List WK
  | [] => []
  | k :: l => insW k (sortW l)
theorem insW_perm (k : WK) : ∀ l, (insW k l).Perm (k :: l)
  | [] => List.Perm.refl _
  | j :: l => by
    unfold insW
    split
    · exact List.Perm.refl _
    · exact ((insW_perm k l).cons j).trans (List.Perm.swap k j l)
theorem sortW_perm : ∀ l, (sortW l).Perm l
  | [] => List.Perm.refl _
  | k :: l => (insW_perm k _).trans ((sortW_perm l).cons k)
abbrev SrW (l : List WK) : Prop := l.Pairwise fun x y => ltW y x = false
theorem ltW_asym {a b : WK} (h : ltW a b = true) : ltW b a = false := by
  have := ltW_iff.mp h
  rw [ltW_no]
  omega
theorem ltW_tr {a b c : WK} (h1 : ltW b a = false) (h2 : ltW c b = false) : ltW c a = false := by
  have := ltW_no.mp h1
  have := ltW_no.mp h2
  rw [ltW_no]
  omega
theorem ltW_anti {a b : WK} (h1 : ltW a b = false) (h2 : ltW b a = false) : a = b := by
  have h1 := ltW_no.mp h1
  have h2 := ltW_no.mp h2
  obtain ⟨i, x⟩ := a
  obtain ⟨j, y⟩ := b
  simp only at h1 h2
  have e : i = j := by omega
  subst e
  cases x <;> cases y <;> simp [b01] at h1 h2 ⊢
theorem insW_sr (k : WK) : ∀ l, SrW l → SrW (insW k l)
  | [], _ => List.pairwise_singleton _ _
  | j :: l, h => by
    unfold insW
    have h' := List.pairwise_cons.mp h
    split
    · rename_i c
      refine List.pairwise_cons.mpr ⟨fun y m => ?_, h⟩
      rcases List.mem_cons.mp m with z | z
      · subst z; exact ltW_asym c
      · exact ltW_tr (ltW_asym c) (h'.1 y z)
    · rename_i c
      refine List.pairwise_cons.mpr ⟨fun y m => ?_, insW_sr k l h'.2⟩
      rcases List.mem_cons.mp ((insW_perm k l).subset m) with z | z
      · subst z; exact Bool.eq_false_iff.mpr c
      · exact h'.1 y z
theorem sortW_sr : ∀ l, SrW (sortW l)
  | [] => List.Pairwise.nil
  | k :: l => insW_sr k _ (sortW_sr l)
theorem sr_unique : ∀ {l m : List WK}, SrW l → SrW m → l.Perm m → l = m
  | [], m, _, _, p => (List.perm_nil.mp p.symm).symm
  | a :: l, [], _, _, p => by have := p.length_eq; simp at this
  | a :: l, b :: m, h1, h2, p => by
    have q1 := List.pairwise_cons.mp h1
    have q2 := List.pairwise_cons.mp h2
    have e : a = b := by
      rcases List.mem_cons.mp (p.subset List.mem_cons_self) with z | z
      · exact z
      · rcases List.mem_cons.mp (p.symm.subset List.mem_cons_self) with y | y
        · exact y.symm
        · exact ltW_anti (q2.1 a z) (q1.1 b y)
    subst e
    rw [sr_unique q1.2 q2.2 ((List.perm_cons a).mp p)]
theorem firstsW {h : Heap} : ∀ {vs : List Value}, (∀ v ∈ vs, ∃ k, IsWd h v k) → ∃ fs : List Value, PySem.W.KatTups h vs fs ∧ fs.length = vs.length ∧ ∀ f ∈ fs, ∃ x t, f = Value.int x t
  | [], _ => ⟨[], .nil, rfl, fun _ m => nomatch m⟩
  | v :: vs, hp => by
    obtain ⟨fs, h1, h2, h3⟩ := firstsW (vs := vs) fun y m => hp y (List.mem_cons_of_mem _ m)
    obtain ⟨k, a, o, t, n, e, ho, hc, hd⟩ := hp v List.mem_cons_self
    subst e
    refine ⟨.int k.1 t :: fs, .cons ho hc hd rfl h1, by simp [h2], fun f m => ?_⟩
    rcases List.mem_cons.mp m with z | z
    · exact ⟨_, _, z⟩
    · exact h3 f z
section
variable {prog : Program} {w : World} {A : Around} {E : Value → Shared → Prop} {s : Shared}
theorem wd_sortable {a : Addr} {vs : List Value} {k : Value → WK} (h0 : 0 < vs.length) (hp : ∀ v ∈ vs, IsWd s.heap v (k v)) (ha : ∀ o, s.heap.get? a = some o → o.cls ≠ .type "tuple") : SrtO.SortableO prog w A s a vs fun v u => ltW (k v) (k u) := by
  intro h' keep
  have hp' : ∀ v ∈ vs, IsWd h' v (k v) := fun v m => (hp v m).keeps fun b o e c => keep b o (fun z => ha o (z ▸ e) c) e
  obtain ⟨fs, h1, h2, h3⟩ := firstsW fun v m => ⟨_, hp' v m⟩
  refine ⟨tuples' true, fun Q E hq => PySem.W.kat_kind (T := .type "int") h1 (by omega) (fun f m => ?_) (by rfl) ?_, wd_cmp hp'⟩
  · obtain ⟨x, t, rfl⟩ := h3 f m
    exact PySem.W.Looks.now
  · rw [show (Value.type "int" != Value.type "tuple") = true by decide +kernel]
    exact hq
theorem kdl_rawW {d : Addr} {es : Array DictEntry} {ep : Nat} (lo : (d == sysModules) = false) : PySem.W.KdlSrc prog w "dict" d d es.size (fun i v => ∃ hi : i < es.size, v = es[i].key) (fun h => h.DictRaw d es ep) where
  type := fun _ hm => hm.typeIs
  there := fun h hm => by obtain ⟨o, ho, _⟩ := hm; exact ⟨Heap.lt_size ho, Heap.lt_size ho⟩
  keep := fun _ _ hm hk => hm.at fun o e => hk d (.inl rfl) o e
  notList := by decide
  notTuple := by decide
  hint := fun _ _ _ _ hm hq => PySem.W.kdl_hint_dict hm.typeIs hq
  iter := fun _ s hh hm => ⟨_, _, fun _ _ hq => wpAny_pyIter_dict_raw lo hm hq, Walks.rawKeys hh _ d (by obtain ⟨o, ho, _⟩ := hm; exact Nat.ne_of_lt (Heap.lt_size ho)) es ep, ⟨⟨_, Heap.get?_push_size _ rfl, rfl, rfl⟩, hm.at fun o e => Heap.get?_push_of_some _ e⟩⟩
end
end DL
namespace DL
open PySem L2 PyProof.Rows
noncomputable def kfW (h : Heap) (v : Value) : WK := by
  classical
  exact if e : ∃ k, IsWd h v k then e.choose else (0, false)
theorem kfW_is {h : Heap} {v : Value} {k : WK} (p : IsWd h v k) : kfW h v = k := by
  have e : ∃ k, IsWd h v k := ⟨k, p⟩
  unfold kfW
  rw [dif_pos e]
  exact e.choose_spec.inj p
def refV : Value → V
  | .ref b => .ref b
  | _ => .non
def rSortedW (p : Pw) : List V → Hp → VK → Prop := fun xs H Q => ∃ G a ds, Ex G H ∧ xs = [.ref a] ∧ DWAt p G H a ds ∧ ∀ (qs : List V) l, IsL p G qs ((sortW (ds.map (·.1))).map wdD) → H l = none → Q (.ref l) (upd H l (.lst qs))
section
variable {X : Cx} {T : CT}
theorem isWd_of {pins : List (Addr × Obj)} {s : Shared} {σ : L2.St} {H : Hp} (I : L2.Inv X pins σ H s) {b : Addr} {k : WK} (h : SqT X.K H b [.int k.1, .bl k.2]) : IsWd s.heap (.ref b) k := by
  obtain ⟨its, rv, ⟨o, e, c, n, d⟩, hz⟩ := I.tuple h
  cases rv with
  | cons r1 rv =>
    cases rv with
    | cons r2 rv =>
      cases rv
      obtain ⟨t, rfl⟩ := r1
      cases r2
      exact ⟨b, o, t, n, rfl, e, c, d⟩
theorem isL_words {p : Pw} {G : Hp} {kf : Value → WK} : ∀ {out : List Value}, (∀ v ∈ out, ∃ b, v = .ref b ∧ SqT p.K G b [.int (kf v).1, .bl (kf v).2]) → IsL p G (out.map refV) ((out.map kf).map wdD) ∧ Vals (out.map refV) out
  | [], _ => ⟨.nil, .nil⟩
  | v :: out, h => by
    obtain ⟨i1, i2⟩ := isL_words (out := out) fun y m => h y (List.mem_cons_of_mem _ m)
    obtain ⟨b, e, hb⟩ := h v List.mem_cons_self
    refine ⟨.cons ?_ i1, .cons ?_ i2⟩
    · rw [e]
      exact .tup (by rw [e] at hb; exact hb) (.cons (.int _) (.cons (.bl _) .nil))
    · rw [e]
      rfl
theorem cr_sortedW (hc : X.calm = true) : CallR X (.builtin "sorted") (rSortedW (pw X T)) := by
  intro pins s σ H xs us Q I r q
  obtain ⟨G, a, ds, eG, ex, ⟨o, es, ep, xs0, hp, hs, he, hd, ht, hx, hn, hl⟩, q⟩ := q
  subst ex
  obtain ⟨u, eu, rx⟩ := vals1 r
  subst eu
  cases rx
  have hg := (I.hok a _ hp).1
  have hraw : s.heap.DictRaw a es ep := ⟨o, hg, he, hd⟩
  have hsz : es.size = xs0.length := by have := congrArg List.length ht; simpa using this
  have hlen : xs0.length = ds.length := isE_len hx
  have h16 : es.size ≤ sizeLine := by rw [hsz, hlen, sizeLine_eq]; omega
  refine Calls.call_function_entry PyProof.Rows.kind_sorted PyProof.Rows.plain_sorted PyProof.Rows.entry_sorted (PyProof.Rows.args_sorted1 _) ?_
  unfold Builtin.«sorted»
  refine wpAny_bind (m := checkCount "sorted" 1 1 _) (wpAny_pure ?_)
  refine wpAny_bind (PySem.W.kdu_collect (A := X.A.in1) (kdl_rawW (es := es) (ep := ep) hs) (I.ok.hd hc) hraw h16 fun h' tk acc hk hacc => ?_)
  have hvs : acc.toList = xs0.map fun x => Value.ref x.2.1 := by
    have e1 := keys_refs (p := pw X T) ht
    rw [List.map_map] at e1
    refine Eq.trans (List.ext_getElem? fun j => ?_) e1
    rw [List.getElem?_map, Array.getElem?_toList, Array.getElem?_toList]
    by_cases hj : j < es.size
    · have : j < acc.size := by rw [hacc.1]; exact hj
      obtain ⟨hi, hv⟩ := hacc.2 j acc[j] (Array.getElem?_eq_getElem this)
      rw [Array.getElem?_eq_getElem this, Array.getElem?_eq_getElem hj, hv]
      rfl
    · rw [Array.getElem?_eq_none (by rw [hacc.1]; omega), Array.getElem?_eq_none (by omega)]
      rfl
  have I1 : L2.Inv X pins σ H { s with heap := h', toks := tk } := I.kept hk
  generalize hL : acc.toList = vs at hvs
  have hvl : vs.length = ds.length := by rw [hvs, List.length_map, hlen]
  -- each is a word
  have hwd : ∀ v ∈ vs, ∃ b, v = Value.ref b ∧ SqT X.K G b [.int (kfW h' v).1, .bl (kfW h' v).2] ∧ IsWd h' v (kfW h' v) := by
    intro v hm
    rw [hvs] at hm
    obtain ⟨x, mx, rfl⟩ := List.mem_map.mp hm
    have : ∀ {xs : List (NestedKey × Addr × Value)} {ds : List (WK × D)}, IsE (pw X T) G xs ds → ∀ x ∈ xs, ∃ k : WK, SqT X.K G x.2.1 [.int k.1, .bl k.2] := by
      intro xs ds h
      induction ds generalizing xs with
      | nil => cases h; intro x m; cases m
      | cons d ds ih =>
        cases h with
        | cons a b c r =>
          intro x m
          rcases List.mem_cons.mp m with z | z
          · subst z; exact ⟨_, a⟩
          · exact ih r x z
    obtain ⟨k, hq⟩ := this hx x mx
    have w := isWd_of I1 (sqT_mono eG hq)
    rw [kfW_is w]
    exact ⟨_, rfl, hq, w⟩
  have hkeys : vs.map (kfW h') = ds.map (·.1) := by
    have : ∀ {xs : List (NestedKey × Addr × Value)} {ds : List (WK × D)}, IsE (pw X T) G xs ds → (xs.map fun x => Value.ref x.2.1).map (kfW h') = ds.map (·.1) := by
      intro xs ds h
      induction ds generalizing xs with
      | nil => cases h; rfl
      | cons d ds ih =>
        cases h with
        | cons a b c r =>
          rw [List.map_cons, List.map_cons, List.map_cons, ih r, kfW_is (isWd_of I1 (sqT_mono eG a))]
    rw [hvs]
    exact this hx
  refine wpAny_bind (wpAny_newList ?_ (by rw [hvl, sizeLine_eq]; omega))
  have hoL : (h'.push (seqObj "list" vs.toArray 0)).get? h'.objs.size = some (seqObj "list" vs.toArray 0) := Heap.get?_push_size _ rfl
  show wpAny _ _ _ _ _ { s with heap := h'.push (seqObj "list" vs.toArray 0), toks := tk }
  refine wpAny_bind (wpAny_holding (wpAny_call_entry PyProof.Rows.slot_list_sort ⟨_, hoL, rfl⟩ PyProof.Rows.entry_list_sort
    (SrtO.list_sort_ord (s := { s with heap := h'.push (seqObj "list" vs.toArray 0), toks := tk }) (swoW (kfW h')) hoL (by rw [hvl, sizeLine_eq]; omega) (fun h2 => wd_sortable (by omega) (fun v m => (hwd v m).elim fun b z => z.2.2.keeps fun c oc e _ => Heap.get?_push_of_some _ e) (fun oc e c => by rw [show h'.push (seqObj "list" vs.toArray 0) = _ from rfl] at e; rw [hoL] at e; cases e; exact absurd (Value.type.inj c) (by decide))) fun out g1 g2 => ⟨_, rfl, ?_⟩) (PyProof.Rows.args_list_sort _)))
  obtain ⟨e', he'⟩ := PyProof.Rows.sortedHeap_at (vs := vs) (out := out.toArray) hoL
  have hperm := g2.perm
  have hw2 := isL_words (p := pw X T) (G := G) (kf := kfW h') (out := out) fun v m => by
    obtain ⟨b, e, z, _⟩ := hwd v (hperm.subset m)
    exact ⟨b, e, z⟩
  have hsort : out.map (kfW h') = sortW (ds.map (·.1)) := by
    refine sr_unique ?_ (sortW_sr _) (((hperm.map _).trans (by rw [hkeys])).trans (sortW_perm _).symm)
    exact List.pairwise_map.mpr g1
  have hol : out.length = ds.length := by rw [hperm.length_eq, hvl]
  rw [hsort] at hw2
  refine wpAny_pure ⟨_, rfl, .ref h'.objs.size, upd H h'.objs.size (.lst (out.map refV)), I1.laid (t' := tk) (fun b u e => ?_) (Nat.le_refl _)
    (show (out.map refV).length ≤ sizeLine ∧ _ from ⟨by rw [List.length_map, hol, sizeLine_eq]; omega, out, e', hw2.2, he'⟩), rfl, q _ _ hw2.1 (I1.hok.fresh (Nat.le_refl _))⟩
  have hb : b < h'.objs.size := Heap.lt_size e
  rw [PyProof.Rows.sortedHeap_old (Nat.ne_of_lt hb) (by rw [size_push']; exact Nat.lt_succ_of_lt hb)]
  exact Heap.get?_push_of_some _ e
end
end DL
namespace DL
open PySem L2 PyProof.Rows
section
variable {X : Cx} {T : CT}
def gSortW : List S → Res R
  | [x] => (match x.wds? with | some ds => newL ((sortW (ds.map (·.1))).map wdD) | none => .bad)
  | _ => .bad
theorem bi_sortW (hc : X.calm = true) : BiV X T (.builtin "sorted") (rSortedW (pw X T)) gSortW := by
  refine ⟨cr_sortedW hc, fun G H vs ss e rep Q E w => ?_⟩
  unfold gSortW at w
  split at w
  · rename_i x
    cases rep with
    | cons h r =>
      cases r
      cases q : x.wds? with
      | none => rw [q] at w; exact w.elim
      | some ds =>
        rw [q] at w
        obtain ⟨a, rfl, hd⟩ := h.wds e q
        exact ⟨G, a, ds, e, rfl, hd, fun qs l hq n => wish_newL e w hq n⟩
  · exact w.elim
end
/-! ### slot i, seen as frozen while an expression is evaluated; its answer holds nothing of it -/
def fView (i : Nat) (f : Env → Res R) : Env → Res R := fun env => match env[i]? with
  | some (some o) => if O.whole o then (match f (env.set i (some (.fz o.frz))) with
    | .ok r => if r.flat then .ok r else .bad
    | _ => .bad) else .bad
  | _ => .bad
def overG (H G : Hp) : Hp := fun a => match H a with
  | some o => some o
  | none => G a
theorem over_ex {G' H G2 H2 : Hp} (g : Grow G' H G2 H2) : Ex G2 (overG H G2) := fun a u h => by
  unfold overG
  cases q : H a with
  | none => exact h
  | some o =>
    have e1 := g.h a o q
    have e2 := g.gh a u h
    rw [e1] at e2
    exact e2
theorem over_grow {G' H G2 H2 : Hp} (g : Grow G' H G2 H2) : Grow H H (overG H G2) H2 := by
  refine ⟨fun a u h => ?_, fun a u h => ?_, g.h, fun a o h t n => ?_⟩
  · unfold overG; rw [h]
  · unfold overG at h
    cases q : H a with
    | none => rw [q] at h; exact g.gh a u h
    | some o => rw [q] at h; cases h; exact g.h a _ q
  · rw [h] at n; cases n
theorem ev_view {p : Pw} {E : L2.St → XK} {t : TE} {f : Env → Res R} (i : Nat) (h : EvR p E t f) : EvR p E t (fView i f) := by
  intro G0 H0 G H σ env s Q w
  unfold fView at w
  split at w
  · rename_i o e
    by_cases wh : O.whole o = true
    · rw [if_pos wh] at w
      obtain ⟨G', s'⟩ := s.frz e wh
      refine h G0 H0 G' H σ _ s' Q ?_
      cases q : f (env.set i (some (.fz o.frz))) with
      | bad => rw [q] at w; exact w
      | ex c z => rw [q] at w; exact w.elim
      | ok r =>
        rw [q] at w
        dsimp only at w
        by_cases hf : r.flat = true
        · rw [if_pos hf] at w
          intro v G2 H2 g rep
          have gu := over_grow g
          have ex2 := over_ex g
          refine w v (cutG G H (overG H G2)) H2 (cutG_grow s.gr.gh gu) ?_
          cases r with
          | fz d => exact Is.cutH s.gr.gh gu (Is.mono ex2 rep) hf
          | new o =>
            obtain ⟨as, h1, h2, h3⟩ := rep
            have h1' : Ow p (overG H G2) H2 v o as := h1.mono ex2 fun a m => ⟨by unfold overG; rw [h2 a m]; exact (h1.at a m).1, rfl⟩
            exact ⟨as, h1'.cut s.gr.gh gu h2 hf, h2, h3⟩
          | bor o => cases hf
        · rw [if_neg hf] at w; exact w.elim
    · rw [if_neg wh] at w; exact w.elim
  · exact w.elim
theorem de_view {X : Cx} {T : CT} {E : L2.St → XK} {e : Expr} {t : TE} {f : Env → Res R} (i : Nat) (h : DE X T E e t f) : DE X T E e t (fView i f) := ⟨h.pe, ev_view i h.ev⟩
end DL
namespace DL
open PySem L2 PyProof.Rows
/-! ### x[0].append(e), x a list of lists of its own -/
def app0F (i : Nat) (f : Env → Res R) : Env → Fl := fun env => match env[i]? with
  | some (some (.lst (.lst os :: rest))) => if os.length < LINE then bindF (f env) fun r => (match store false r with
    | some (.fz d) => .nx (env.set i (some (.lst (.lst (os ++ [.fz d]) :: rest))))
    | _ => .bad) else .bad
  | _ => .bad
section
variable {X : Cx} {T : CT} {E : XK} {e : Expr} {te : TE} {f : Env → Res R}
theorem st_app0 {p : Pw} (i : Nat) (h : EvR p (kx E) te f) : StR p E (tDrop (tBM p.K "list" rAppend (tOp (rIx p.K) (tVar i) (tC (.int 0))) (tCons te tNil))) (app0F i f) := by
  intro G0 H0 G H σ env s Dn w
  unfold app0F at w
  split at w
  · rename_i os rest ee
    by_cases hl : os.length < LINE
    · rw [if_pos hl] at w
      obtain ⟨v, bs, as', hv, ho, hf, hd, ha, upd', _⟩ := s.reown ee
      cases ho with
      | lst hp gp np hr =>
        rename_i a vs as1
        cases hr with
        | cons h0 hr dis =>
          rename_i v0 vs' as0 as2
          cases h0 with
          | lst hp0 gp0 np0 hr0 =>
            rename_i a0 vs0 as00
            refine ⟨.ref a, hv, ?_⟩
            refine .inl ⟨a, _, 0, .ref a0, rfl, rfl, SqL.of hp, atI_nat (j := 0) rfl, .inl ⟨rfl, _, SqL.of hp0⟩, ?_⟩
            refine h.toS s w fun r y G1 H1 g rep w1 => ?_
            cases q : store false r with
            | none => rw [q] at w1; exact w1.elim
            | some o =>
              rw [q] at w1
              obtain ⟨G', cs, g', ex, ho', fr⟩ := store_rep rep g q
              cases o with
              | fz d =>
                cases ho' with
                | fz isd =>
                  have ne : a0 ≠ a := fun z => np (by rw [← z]; exact List.mem_append_left _ List.mem_cons_self)
                  have h1a : H1 a0 = some (.lst vs0) := g'.h a0 _ hp0
                  have na0 : G' a0 = none := g'.keep a0 _ hp0 rfl gp0
                  have na : G' a = none := g'.keep a _ hp rfl gp
                  refine ⟨a0, vs0, y, rfl, rfl, h1a, by rw [hr0.length]; exact line_lt (Nat.le_of_lt hl), ?_⟩
                  generalize hH2 : upd H1 a0 (.lst (vs0 ++ [y])) = H2
                  have e2 : ∀ x, x ≠ a0 → H2 x = H1 x := fun x nx => by rw [← hH2]; exact upd_ne nx
                  have e2a : H2 a0 = some (.lst (vs0 ++ [y])) := by rw [← hH2]; exact upd_same
                  have mv : ∀ x u, H x = some u → x ≠ a0 → G x = none → u.nt = true → G' x = none ∧ H2 x = H x := fun x u eu nx n tu => ⟨g'.keep x u eu tu n, by rw [e2 x nx, g'.h x u eu, eu]⟩
                  have m0 : a0 ∈ a :: (a0 :: as00 ++ as2) := List.mem_cons_of_mem _ (List.mem_append_left _ List.mem_cons_self)
                  have hr0' : OwL p G' H2 vs0 os as00 := hr0.mono g'.g fun x m => by
                    obtain ⟨n, u, eu, tu⟩ := hr0.at x m
                    exact mv x u eu (fun z => np0 (z ▸ m)) n tu
                  have hr' : OwL p G' H2 vs' rest as2 := hr.mono g'.g fun x m => by
                    obtain ⟨n, u, eu, tu⟩ := hr.at x m
                    exact mv x u eu (fun z => dis a0 List.mem_cons_self (z ▸ m)) n tu
                  obtain ⟨as3, k1, k2⟩ := OwL.snoc (.fz isd) hr0' (cs := []) (fun _ m => nomatch m)
                  have in3 : ∀ x ∈ as3, x ∈ as00 := fun x m => (k2 x m).elim id fun z => nomatch z
                  refine w1 G' H2 σ (upd' G' H2 _ (a :: (a0 :: as3 ++ as2)) ?_ g'.g (fun x m => ?_) (.lst (by rw [e2 a (Ne.symm ne), g'.h a _ hp]) na (fun z => ?_) (.cons (.lst e2a na0 (fun z => np0 (in3 _ z)) k1) hr' fun x m z => ?_)) fun b m => .inl ?_)
                  · rw [← hH2]; exact (s.gr.trans g').updO (hf a0 m0) na0
                  · obtain ⟨n, u, eu, tu⟩ := ha x m
                    exact mv x u eu (fun z => hd a0 m0 (z ▸ m)) n tu
                  · rcases List.mem_append.mp z with y | y
                    · rcases List.mem_cons.mp y with y | y
                      · exact ne y.symm
                      · exact np (List.mem_append_left _ (List.mem_cons_of_mem _ (in3 _ y)))
                    · exact np (List.mem_append_right _ y)
                  · rcases List.mem_cons.mp m with y | y
                    · exact dis x (y ▸ List.mem_cons_self) z
                    · exact dis x (List.mem_cons_of_mem _ (in3 _ y)) z
                  · rcases List.mem_cons.mp m with y | y
                    · exact y ▸ List.mem_cons_self
                    · refine List.mem_cons_of_mem _ ?_
                      rcases List.mem_append.mp y with y | y
                      · rcases List.mem_cons.mp y with y | y
                        · exact List.mem_append_left _ (y ▸ List.mem_cons_self)
                        · exact List.mem_append_left _ (List.mem_cons_of_mem _ (in3 _ y))
                      · exact List.mem_append_right _ y
              | _ => exact w1.elim
    · rw [if_neg hl] at w; exact w.elim
  · exact w.elim
theorem ds_app0 (i : Nat) {x : Str} {j : Nat} {apos cpos pos pos2 pos3 pos4 : Pos} (he : DE X T (kx E) e te f) (hN : X.N[i]? = some x := by rfl) (hv : Vis X.env.scope x := by first | exact Or.inl rfl | exact Or.inr (Or.inl rfl) | exact Or.inr (Or.inr rfl)) (hd : (x == ("__debug__" : Str)) = false := by decide)
    (hcd : (x == ("__classdict__" : Str)) = false := by decide) (hs : starEach [e] X.env = (false, eval e X.env) :: starEach [] X.env := by rfl) (hfew : ((backTo cpos (starEach [e] X.env)).all (fun x => !x.1) && (backToKw cpos (keywordEach [] X.env)).all (fun x => x.1.isSome)
      && decide ([e].length + ([] : List Keyword).length + (if ([] : List Keyword).isEmpty then 0 else 1) < 30)) = true := by rfl) (hline : (apos.endLine == cpos.line) = true := by rfl) :
    DS X T E (.Expr (.Call (.Attribute (.Subscript (.Name x pos2) (.Constant (.int 0) j pos3) pos4) "append" apos) [e] [] cpos) pos) (tDrop (tBM X.K "list" rAppend (tOp (rIx X.K) (tVar i) (tC (.int 0))) (tCons te tNil))) (app0F i f) :=
  ⟨ps_expr (pe_bm PySem.F.plainAttrs_list PySem.F.slot_list_append PySem.F.type_list_append mt_append (pe_ix ix_seq (pe_var hN hv hd hcd) pe_int (fun _ _ => rfl)) (pa_cons he.pe pa_nil hs) rfl hfew hline hs), st_app0 (p := pw X T) i he.ev⟩
end
end DL
namespace DL
open PySem L2 PyProof.Rows
/-! ## isinstance(x, an own class) -/
structure InsF (K : PySem.W.Frag) (C : Addr) : Prop where
  cl : Cls K C
  ha : PySem.W.findIn K (.ref C) "__class__" = some (some (.builtin "object.__class__"))
  hn : PySem.W.specialIn K (.builtin "object.__class__") "__get__" = some (some (.builtin "getset_descriptor.__get__"))
  htk : PySem.W.takesIn K (.builtin "object.__class__") = some true
  hm : PySem.W.mroIn K C (.type "object") = some true
def lkB : List (Nat × Bool) → Nat → Option Bool
  | [], _ => none
  | (k, b) :: l, c => if k = c then some b else lkB l c
/-- x is a class of the module; of an instance of class c, isinstance says lkB l c -/
structure IsD (mg : Str → Option Value) (K : PySem.W.Frag) (T : CT) (x : Str) (l : List (Nat × Bool)) : Prop where
  ex : ∃ C, mg x = some (.ref C) ∧ ∀ c b, lkB l c = some b → InsF K (T.C c) ∧ PySem.W.kitOne K (.ref (T.C c)) (.ref C) = some b
def S.cls? : S → Option Nat
  | .fz (.ins c _) => some c
  | .bor (.ins c _) => some c
  | _ => none
theorem S.cls_ins {p : Pw} {G H : Hp} {v : V} {s : S} {c : Nat} (h : RepS p G H v s) (e : Ex G H) (q : s.cls? = some c) : ∃ a dx vs, v = .ref a ∧ H a = some (.ins (p.T.C c) dx ((fsOf c).zip vs)) := by
  refine S.isC_ins h e (c := c) ?_
  unfold S.cls? at q
  split at q
  · cases q; simp [S.isC]
  · cases q; simp [S.isC]
  · cases q
def fIsO (l : List (Nat × Bool)) (f : Env → Res R) : Env → Res R := fun env => (f env).bind fun x => match x.st.cls? with
  | some c => (match lkB l c with | some b => .ok (.fz (.bl b)) | none => .bad)
  | none => .bad
section
variable {X : Cx} {T : CT} {E : L2.St → XK}
noncomputable def IsD.C {mg : Str → Option Value} {K : PySem.W.Frag} {T : CT} {x : Str} {l : List (Nat × Bool)} (h : IsD mg K T x l) : Addr := h.ex.choose
theorem de_isO {e : Expr} {te : TE} {f : Env → Res R} {tx : Str} {l : List (Nat × Bool)} {p p2 pos : Pos} (hm : X.mg "isinstance" = none) (hc : IsD X.mg X.K T tx l) (he : DE X T E e te f) (hgt : Gl X tx := by rfl) (hg : Gl X "isinstance" := by rfl)
    (hdb : (tx == ("__debug__" : Str)) = false := by decide)
    (hs : starEach [e, .Name tx p2] X.env = (false, eval e X.env) :: starEach [.Name tx p2] X.env := by rfl) (hs2 : starEach [.Name tx p2] X.env = (false, eval (.Name tx p2) X.env) :: starEach [] X.env := by rfl)
    (hpl : (backTo pos (starEach [.Name tx p2] X.env)).any (·.1) = false := by rfl) :
    DE X T E (.Call (.Name "isinstance" p) [e, .Name tx p2] [] pos) (tCB (rIsi X.K) (tCons te (tCons (tC (.ref hc.C)) tNil))) (fIsO l f) := by
  obtain ⟨hmC, hk⟩ := hc.ex.choose_spec
  refine ⟨by first | exact pe_callB call_isi hg hm (by decide +kernel) (pa_cons he.pe (pa_cons (pe_glob hgt hmC rfl hdb) pa_nil hs2) hs) (by decide) (by decide) hs hpl | exact pe_callB call_isi hg hm (by decide +kernel) (pa_cons he.pe (pa_cons (pe_glob hgt hmC rfl hdb) pa_nil hs2) hs), fun G0 H0 G H σ env s Q w => ?_⟩
  refine he.ev.to s (ok := okR (pw X T) Q) w (fun _ _ g' _ h => h.grow g') fun rx x G1 H1 g1 rep w1 => ?_
  cases q1 : rx.st.cls? with
  | none => rw [q1] at w1; exact w1.elim
  | some c =>
    rw [q1] at w1
    dsimp only at w1
    cases q2 : lkB l c with
    | none => rw [q2] at w1; exact w1.elim
    | some b =>
      rw [q2] at w1
      obtain ⟨a, dx, vs, rfl, ha⟩ := S.cls_ins rep g1.gh q1
      obtain ⟨F, hk1⟩ := hk c b q2
      exact ⟨.ref a, .ref hc.C, .ref (T.C c), .ref hc.C, b, rfl, .own _, .base (TyOf.ins ha F.cl F.ha F.hn F.htk F.hm), hk1, wish_at g1.gh w1 (.bl b)⟩
end
theorem isD_of {mg : Str → Option Value} {K : PySem.W.Frag} {T : CT} {x : Str} {C : Addr} (hm : mg x = some (.ref C)) : ∀ {l : List (Nat × Bool)}, (∀ e ∈ l, InsF K (T.C e.1) ∧ PySem.W.kitOne K (.ref (T.C e.1)) (.ref C) = some e.2) → IsD mg K T x l := by
  intro l h
  refine ⟨C, hm, ?_⟩
  induction l with
  | nil => intro c b e; cases e
  | cons a l ih =>
    intro c b e
    unfold lkB at e
    by_cases q : a.1 = c
    · rw [if_pos q] at e
      cases e
      rw [← q]
      exact h a List.mem_cons_self
    · rw [if_neg q] at e
      exact ih (fun x m => h x (List.mem_cons_of_mem _ m)) c b e
theorem kit_own {K : PySem.W.Frag} {C C' : Addr} {b : Bool} (h1 : PySem.W.isClsIn K C' = true) (h2 : PySem.W.typeIn K (.ref C') = some (.type "type")) (h3 : PySem.W.subIn K (.ref C) (.ref C') = some b) (h4 : (C == C') = true → b = true) : PySem.W.kitOne K (.ref C) (.ref C') = some b := by
  unfold PySem.W.kitOne
  split
  · rename_i q
    have : C = C' := by simpa using q
    rw [h4 (by rw [this]; simp)]
  · unfold PySem.W.kitCls
    have h1 : (PySem.W.clsIn K C').isSome = true := h1
    simp only [h1, h2]
    exact h3
/-! ## is None, of things owned, too -/
def gIsO (f : Bool → Bool) : S → S → Res R := fun x y =>
  match x, y with
  | .fz a, .fz .non => .ok (.fz (.bl (f a.isN)))
  | .bor (.ins _ _), .fz .non => .ok (.fz (.bl (f false)))
  | _, _ => .bad
theorem gIsO_dec {p : Pw} {G H : Hp} {x y : V} {sx sy : S} {f : Bool → Bool} {Q : VK} {E : XK} (e : Ex G H) (rx : RepS p G H x sx) (ry : RepS p G H y sy) (w : Wish p Q E G H (gIsO f sx sy)) : y = .non ∧ Q (.bl (f (decide (x = .non)))) H := by
  unfold gIsO at w
  split at w
  · rename_i a
    cases ry
    refine ⟨rfl, ?_⟩
    rw [non_dec rx]
    exact wish_at e w (.bl _)
  · cases ry
    obtain ⟨as, ho⟩ := rx
    cases ho with
    | ins h _ _ _ _ =>
      refine ⟨rfl, ?_⟩
      have e2 : ∀ a, decide (V.ref a = V.non) = false := fun a => by simp
      rw [e2]
      exact wish_at e w (.bl _)
  · exact w.elim
theorem cv_isO {X : Cx} {T : CT} : CmpV X T .Is (fun x y H Q => y = .non ∧ Q (.bl (decide (x = .non))) H) (gIsO id) := ⟨op_isN, fun G H x y sx sy e rx ry Q E w => gIsO_dec e rx ry w⟩
theorem cv_notO {X : Cx} {T : CT} : CmpV X T .IsNot (fun x y H Q => y = .non ∧ Q (.bl (!decide (x = .non))) H) (gIsO not) := ⟨op_notN, fun G H x y sx sy e rx ry Q E w => gIsO_dec e rx ry w⟩
/-! ## a list that is a field of an owned instance, changed in place -/
theorem OwL.refield {p : Pw} {G H : Hp} : ∀ {vs : List V} {os : List O} {as : List Addr} {j : Nat} {os' : List O} {ds : List D}, OwL p G H vs os as → os[j]? = some (.lst os') → itemsF os' = some ds →
    ∃ a' vs', vs[j]? = some (.ref a') ∧ H a' = some (.lst vs') ∧ a' ∈ as ∧ G a' = none ∧ IsL p G vs' ds ∧ ∀ G' H2 vs'' ds'', Ex G G' → (∀ x ∈ as, x ≠ a' → G' x = none ∧ H2 x = H x) → G' a' = none → H2 a' = some (.lst vs'') → IsL p G' vs'' ds'' →
      ∃ as2, OwL p G' H2 vs (os.set j (.lst (ds''.map O.fz))) as2 ∧ ∀ x ∈ as2, x ∈ as
  | _, _, _, _, _, _, .nil, e, _ => by simp at e
  | _, _, _, 0, os', ds, .cons h r d, e, hi => by
    simp at e; subst e
    cases h with
    | lst hp gp np hr =>
      refine ⟨_, _, rfl, hp, List.mem_append_left _ List.mem_cons_self, gp, itemsF_is hr hi, fun G' H2 vs'' ds'' ex k g2 h2 il => ?_⟩
      refine ⟨_, .cons (.lst h2 g2 (by simp) (owL_fz il)) (r.mono ex fun x m => k x (List.mem_append_right _ m) fun z => d _ List.mem_cons_self (z ▸ m)) (fun a m q => ?_), fun x m => ?_⟩
      · rcases List.mem_cons.mp m with z | z
        · subst z; exact d _ List.mem_cons_self q
        · cases z
      · rcases List.mem_append.mp m with z | z
        · rcases List.mem_cons.mp z with y | y
          · subst y; exact List.mem_append_left _ List.mem_cons_self
          · cases y
        · exact List.mem_append_right _ z
  | _, _, _, j + 1, os', ds, .cons h r d, e, hi => by
    obtain ⟨a', vs', h1, h2, h3, h4, h5, h6⟩ := OwL.refield (j := j) r (by simpa using e) hi
    refine ⟨a', vs', by simpa using h1, h2, List.mem_append_right _ h3, h4, h5, fun G' H2 vs'' ds'' ex k g2 hh il => ?_⟩
    obtain ⟨as2, k1, k2⟩ := h6 G' H2 vs'' ds'' ex (fun x m => k x (List.mem_append_right _ m)) g2 hh il
    refine ⟨_, .cons (h.mono ex fun x m => k x (List.mem_append_left _ m) fun z => d x m (z ▸ h3)) k1 (fun a m q => d a m (k2 a q)), fun x m => ?_⟩
    rcases List.mem_append.mp m with z | z
    · exact List.mem_append_left _ z
    · exact List.mem_append_right _ (k2 x z)
theorem SOk.refield {p : Pw} {G0 H0 G H : Hp} {σ : L2.St} {env : Env} (s : SOk p G0 H0 G H σ env) {i c j : Nat} {os os' : List O} {ds : List D} (e : env[i]? = some (some (.ins c os))) (ej : os[j]? = some (.lst os')) (hi : itemsF os' = some ds) :
    ∃ a dx vs a' vs', σ[i]? = some (some (.ref a)) ∧ H a = some (.ins (p.T.C c) dx ((p.T.fs c).zip vs)) ∧ vs[j]? = some (.ref a') ∧ H a' = some (.lst vs') ∧ IsL p G vs' ds ∧
      ∀ G' H1 vs'' ds'', Grow G H G' H1 → IsL p G' vs'' ds'' → SOk p G0 H0 G' (upd H1 a' (.lst vs'')) σ (env.set i (some (.ins c (os.set j (.lst (ds''.map O.fz)))))) := by
  obtain ⟨v, bs, as', hv, ho, hf, hd, ha, upd', _⟩ := s.reown e
  cases ho with
  | ins hp gp hl np hr =>
    rename_i a dx vs as1
    obtain ⟨a', vs', h1, h2, h3, h4, h5, h6⟩ := hr.refield ej hi
    have ne : a' ≠ a := fun z => np (z ▸ h3)
    refine ⟨a, dx, vs, a', vs', hv, hp, h1, h2, h5, fun G' H1 vs'' ds'' g il => ?_⟩
    have mv : ∀ x u, H x = some u → x ≠ a' → G x = none → u.nt = true → G' x = none ∧ upd H1 a' (.lst vs'') x = H x := fun x u eu nx n tu => ⟨g.keep x u eu tu n, by rw [upd_ne nx, g.h x u eu, eu]⟩
    have n1 : G' a' = none := g.keep a' _ h2 rfl h4
    obtain ⟨as2, k1, k2⟩ := h6 G' (upd H1 a' (.lst vs'')) vs'' ds'' g.g (fun x m nx => by
      obtain ⟨n, u, eu, tu⟩ := hr.at x m
      exact mv x u eu nx n tu) n1 upd_same il
    refine upd' G' _ _ (a :: as2) ((s.gr.trans g).updO (hf a' (List.mem_cons_of_mem _ h3)) n1) g.g (fun x m => ?_) (.ins (by rw [upd_ne (Ne.symm ne)]; exact g.h a _ hp) (g.keep a _ hp rfl gp) hl (fun z => np (k2 a z)) k1) fun b m => .inl ?_
    · obtain ⟨n, u, eu, tu⟩ := ha x m
      exact mv x u eu (fun z => hd a' (List.mem_cons_of_mem _ h3) (z ▸ m)) n tu
    · rcases List.mem_cons.mp m with z | z
      · exact z ▸ List.mem_cons_self
      · exact List.mem_cons_of_mem _ (k2 b z)
theorem IsL.dropLast {p : Pw} {G : Hp} {vs : List V} {ds : List D} (h : IsL p G vs ds) : IsL p G vs.dropLast ds.dropLast := by
  rw [List.dropLast_eq_take, List.dropLast_eq_take, h.length]
  exact h.take _
section
variable {X : Cx} {T : CT} {E : XK} {apos cpos pos pos2 : Pos}
/-- x.f.clear() -/
def clrFF (i c j : Nat) : Env → Fl := fun env => match env[i]? with
  | some (some (.ins c' os)) => if c' = c then (match os[j]? with
    | some (.lst os') => (match itemsF os' with
      | some _ => .nx (env.set i (some (.ins c (os.set j (.lst [])))))
      | none => .bad)
    | _ => .bad) else .bad
  | _ => .bad
theorem st_clrF {p : Pw} (i c j : Nat) {x : Str} (hf : FldOk p.K p.T c) (hj : (fsOf c)[j]? = some x) (hnd : (fsOf c).Nodup) : StR p E (tDrop (tBM0 p.K "list" rClear (tFld p.K (tVar i) x))) (clrFF i c j) := by
  intro G0 H0 G H σ env s Dn w
  unfold clrFF at w
  split at w
  · rename_i c' os e
    by_cases hc : c' = c
    · subst hc
      rw [if_pos rfl] at w
      split at w
      · rename_i os' ej
        split at w
        · rename_i ds hi
          obtain ⟨a, dx, vs, a', vs', hv, hp, h1, h2, il, up⟩ := s.refield e ej hi
          have hno : NoAttr p.K (p.T.C c') x := hf.no x (List.mem_of_getElem? hj)
          refine ⟨.ref a, hv, a, p.T.C c', dx, _, .ref a', rfl, hp, hf.cl, hno, zip_lookup hnd hj h1, .inl ⟨rfl, _, SqL.of h2⟩, a', vs', rfl, rfl, h2, ?_⟩
          exact w G _ σ (up G H [] [] (Grow.refl s.gr.gh) .nil)
        · exact w.elim
      · exact w.elim
    · rw [if_neg hc] at w; exact w.elim
  · exact w.elim
theorem ds_clrF (i c j : Nat) {x f : Str} {pos3 : Pos} (hf : FldOk X.K T c) (hj : (fsOf c)[j]? = some f := by rfl) (hnd : (fsOf c).Nodup := by decide) (hN : X.N[i]? = some x := by rfl) (hv : Vis X.env.scope x := by first | exact Or.inl rfl | exact Or.inr (Or.inl rfl) | exact Or.inr (Or.inr rfl)) (hd : (x == ("__debug__" : Str)) = false := by decide)
    (hcd : (x == ("__classdict__" : Str)) = false := by decide) (hb : attributeBase (.Name x pos2) f X.env (eval (.Name x pos2) X.env) = eval (.Name x pos2) X.env := by rfl) (hline : (apos.endLine == cpos.line) = true := by rfl)
    (hbase : attributeBase (.Attribute (.Name x pos2) f pos3) "clear" X.env (eval (.Attribute (.Name x pos2) f pos3) X.env) = eval (.Attribute (.Name x pos2) f pos3) X.env := by rfl) :
    DS X T E (.Expr (.Call (.Attribute (.Attribute (.Name x pos2) f pos3) "clear" apos) [] [] cpos) pos) (tDrop (tBM0 X.K "list" rClear (tFld X.K (tVar i) f))) (clrFF i c j) :=
  ⟨ps_expr (pe_bm0 PySem.F.plainAttrs_list PySem.F.slot_list_clear PySem.F.type_list_clear mt_clear (pe_fld (pe_var hN hv hd hcd) hb) hbase hline), st_clrF (p := pw X T) i c j hf hj hnd⟩
/-- x.f.pop() -/
def popFF (i c j : Nat) : Env → Fl := fun env => match env[i]? with
  | some (some (.ins c' os)) => if c' = c then (match os[j]? with
    | some (.lst os') => (match itemsF os' with
      | some ds => if ds = [] then .bad else .nx (env.set i (some (.ins c (os.set j (.lst (ds.dropLast.map O.fz))))))
      | none => .bad)
    | _ => .bad) else .bad
  | _ => .bad
theorem st_popF {p : Pw} (i c j : Nat) {x : Str} (hf : FldOk p.K p.T c) (hj : (fsOf c)[j]? = some x) (hnd : (fsOf c).Nodup) : StR p E (tDrop (tBM0 p.K "list" rPop (tFld p.K (tVar i) x))) (popFF i c j) := by
  intro G0 H0 G H σ env s Dn w
  unfold popFF at w
  split at w
  · rename_i c' os e
    by_cases hc : c' = c
    · subst hc
      rw [if_pos rfl] at w
      split at w
      · rename_i os' ej
        split at w
        · rename_i ds hi
          by_cases hz : ds = []
          · rw [if_pos hz] at w; exact w.elim
          · rw [if_neg hz] at w
            obtain ⟨a, dx, vs, a', vs', hv, hp, h1, h2, il, up⟩ := s.refield e ej hi
            have hno : NoAttr p.K (p.T.C c') x := hf.no x (List.mem_of_getElem? hj)
            have hlen : vs'.length - 1 < vs'.length := by
              have := List.length_pos_iff.mpr hz
              rw [il.length]
              omega
            refine ⟨.ref a, hv, a, p.T.C c', dx, _, .ref a', rfl, hp, hf.cl, hno, zip_lookup hnd hj h1, .inl ⟨rfl, _, SqL.of h2⟩, a', vs', vs'[vs'.length - 1], rfl, rfl, h2, List.getElem?_eq_getElem hlen, ?_⟩
            exact w G _ σ (up G H _ _ (Grow.refl s.gr.gh) il.dropLast)
        · exact w.elim
      · exact w.elim
    · rw [if_neg hc] at w; exact w.elim
  · exact w.elim
theorem ds_popF (i c j : Nat) {x f : Str} {pos3 : Pos} (hf : FldOk X.K T c) (hj : (fsOf c)[j]? = some f := by rfl) (hnd : (fsOf c).Nodup := by decide) (hN : X.N[i]? = some x := by rfl) (hv : Vis X.env.scope x := by first | exact Or.inl rfl | exact Or.inr (Or.inl rfl) | exact Or.inr (Or.inr rfl)) (hd : (x == ("__debug__" : Str)) = false := by decide)
    (hcd : (x == ("__classdict__" : Str)) = false := by decide) (hb : attributeBase (.Name x pos2) f X.env (eval (.Name x pos2) X.env) = eval (.Name x pos2) X.env := by rfl) (hline : (apos.endLine == cpos.line) = true := by rfl)
    (hbase : attributeBase (.Attribute (.Name x pos2) f pos3) "pop" X.env (eval (.Attribute (.Name x pos2) f pos3) X.env) = eval (.Attribute (.Name x pos2) f pos3) X.env := by rfl) :
    DS X T E (.Expr (.Call (.Attribute (.Attribute (.Name x pos2) f pos3) "pop" apos) [] [] cpos) pos) (tDrop (tBM0 X.K "list" rPop (tFld X.K (tVar i) f))) (popFF i c j) :=
  ⟨ps_expr (pe_bm0 PySem.F.plainAttrs_list PySem.F.slot_list_pop PySem.F.type_list_pop mt_pop (pe_fld (pe_var hN hv hd hcd) hb) hbase hline), st_popF (p := pw X T) i c j hf hj hnd⟩
/-- x.f[k] = e -/
def setIxFF (i c j : Nat) (fk f : Env → Res R) : Env → Fl := fun env => match env[i]? with
  | some (some (.ins c' os)) => if c' = c then (match os[j]? with
    | some (.lst os') => (match itemsF os' with
      | some ds => bindF (f env) fun r => (match store false r with
        | some (.fz d) => bindF (fk env) fun y => (match y.st.int? with
          | some k => (match ixN ds.length k with
            | some m => .nx (env.set i (some (.ins c (os.set j (.lst ((ds.set m d).map O.fz))))))
            | none => .bad)
          | none => .bad)
        | _ => .bad)
      | none => .bad)
    | _ => .bad) else .bad
  | _ => .bad
theorem st_setIxF {p : Pw} {te tk : TE} {f fk : Env → Res R} (i c j : Nat) {x : Str} (hf : FldOk p.K p.T c) (hj : (fsOf c)[j]? = some x) (hnd : (fsOf c).Nodup) (hk : EvR p (kx E) tk fk) (h : EvR p (kx E) te f) : StR p E (tAsg te (L2.gSub (tFld p.K (tVar i) x) tk rSetL)) (setIxFF i c j fk f) := by
  intro G0 H0 G H σ env s Dn w
  unfold setIxFF at w
  split at w
  · rename_i c' os e
    by_cases hc : c' = c
    · subst hc
      rw [if_pos rfl] at w
      split at w
      · rename_i os' ej
        split at w
        · rename_i ds hi
          refine h.toS s w fun r y G1 H1 g rep w1 => ?_
          cases q : store false r with
          | none => rw [q] at w1; exact w1.elim
          | some o =>
            rw [q] at w1
            obtain ⟨G', cs, g', ex, ho', fr⟩ := store_rep rep g q
            cases o with
            | fz d =>
              cases ho' with
              | fz isd =>
                have s1 := s.grow g'
                obtain ⟨a, dx, vs, a', vs', hv, hp, h1, h2, il, up⟩ := s1.refield e ej hi
                have hno : NoAttr p.K (p.T.C c') x := hf.no x (List.mem_of_getElem? hj)
                refine ⟨.ref a, hv, a, p.T.C c', dx, _, .ref a', rfl, hp, hf.cl, hno, zip_lookup hnd hj h1, ?_⟩
                refine hk.toS s1 w1 fun rk z G2 H2 g2 rep2 w2 => ?_
                obtain ⟨G3, g3, rep3⟩ := rep2.settle g2
                split at w2
                · rename_i k hi'
                  have ez := rep3.int hi'
                  subst ez
                  cases q2 : ixN ds.length k with
                  | none => rw [q2] at w2; exact w2.elim
                  | some m =>
                    rw [q2] at w2
                    refine ⟨a', vs', k, m, rfl, rfl, g3.h a' _ h2, by rw [il.length]; exact q2, ?_⟩
                    exact w2 G3 _ σ (up G3 H2 _ _ g3 ((il.mono g3.g).setAt m (isd.mono g3.g)))
                · exact w2.elim
            | _ => exact w1.elim
        · exact w.elim
      · exact w.elim
    · rw [if_neg hc] at w; exact w.elim
  · exact w.elim
theorem ds_setIxF (i c j : Nat) {x f : Str} {b e : Expr} {te tk : TE} {fe fk : Env → Res R} {pos3 tpos : Pos} (hf : FldOk X.K T c) (he : DE X T (kx E) e te fe) (hbk : DE X T (kx E) b tk fk) (hj : (fsOf c)[j]? = some f := by rfl) (hnd : (fsOf c).Nodup := by decide) (hN : X.N[i]? = some x := by rfl) (hv : Vis X.env.scope x := by first | exact Or.inl rfl | exact Or.inr (Or.inl rfl) | exact Or.inr (Or.inr rfl)) (hd : (x == ("__debug__" : Str)) = false := by decide)
    (hcd : (x == ("__classdict__" : Str)) = false := by decide) (hb : attributeBase (.Name x pos2) f X.env (eval (.Name x pos2) X.env) = eval (.Name x pos2) X.env := by rfl)
    (ha : ∀ v, assign (.Subscript (.Attribute (.Name x pos2) f pos3) b tpos) X.env v = (do
      let ov ← holding [v] (eval (.Attribute (.Name x pos2) f pos3) X.env)
      let iv ← holding [v, ov] (eval b X.env)
      standAt tpos
      holding [v, ov, iv] (setItem ov iv v)
      release [v, ov, iv] []) := by intro _; rfl) (hs : swapsWithSole [.Subscript (.Attribute (.Name x pos2) f pos3) b tpos] e pos.line X.env = pure false := by rfl) (hw : swappedStores [.Subscript (.Attribute (.Name x pos2) f pos3) b tpos] e X.env = pure none := by rfl)
    (h1 : (assignEach [.Subscript (.Attribute (.Name x pos2) f pos3) b tpos] X.env).map (·.2) = [assign (.Subscript (.Attribute (.Name x pos2) f pos3) b tpos) X.env] := by rfl) :
    DS X T E (.Assign [.Subscript (.Attribute (.Name x pos2) f pos3) b tpos] e pos) (tAsg te (L2.gSub (tFld X.K (tVar i) f) tk rSetL)) (setIxFF i c j fk fe) :=
  ⟨ps_asg he.pe (pg_sub (pe_fld (pe_var hN hv hd hcd) hb) hbk.pe set_list ha) hs hw h1, st_setIxF (p := pw X T) i c j hf hj hnd hbk.ev he.ev⟩
end
end DL
namespace DL
open PySem L2 PyProof.Rows
/-! ## dicts by ints -/
def lkI (ds : List (Int × D)) (k : Int) : Option D := (ds.find? fun e => decide (e.1 = k)).map (·.2)
def putI : List (Int × D) → Int → D → List (Int × D)
  | [], k, d => [(k, d)]
  | e :: ds, k, d => if e.1 = k then (k, d) :: ds else e :: putI ds k d
theorem isI_none {p : Pw} {G : Hp} {k : Int} : ∀ {kvs : List (Key × V)} {ds : List (Int × D)}, IsI p G kvs ds → lkI ds k = none → valV kvs (Sum.inl k : Key) = none
  | _, _, .nil, _ => rfl
  | _, _, .cons (i := j) h r, e => by
    unfold lkI at e
    rw [List.find?_cons] at e
    by_cases c : j = k
    · subst c; simp at e
    · simp only [decide_eq_false c] at e
      rw [valV_neg (fun z => c (Sum.inl.inj z))]
      exact isI_none r e
theorem isI_some {p : Pw} {G : Hp} {k : Int} {d : D} : ∀ {kvs : List (Key × V)} {ds : List (Int × D)}, IsI p G kvs ds → lkI ds k = some d → ∃ v, valV kvs (Sum.inl k : Key) = some v ∧ Is p G v d
  | _, _, .nil, e => by simp [lkI] at e
  | _, _, .cons (i := j) h r, e => by
    unfold lkI at e
    rw [List.find?_cons] at e
    by_cases c : j = k
    · subst c
      simp at e
      subst e
      exact ⟨_, valV_pos rfl, h⟩
    · simp only [decide_eq_false c] at e
      rw [valV_neg (fun z => c (Sum.inl.inj z))]
      exact isI_some r e
theorem isI_len {p : Pw} {G : Hp} : ∀ {kvs : List (Key × V)} {ds : List (Int × D)}, IsI p G kvs ds → kvs.length = ds.length
  | _, _, .nil => rfl
  | _, _, .cons _ r => congrArg (· + 1) (isI_len r)
theorem isI_keys {p : Pw} {G : Hp} : ∀ {kvs : List (Key × V)} {ds : List (Int × D)}, IsI p G kvs ds → kvs.map (·.1) = ds.map fun e => (Sum.inl e.1 : Key)
  | _, _, .nil => rfl
  | _, _, .cons _ r => by rw [List.map_cons, List.map_cons, isI_keys r]
theorem isI_snoc {p : Pw} {G : Hp} {k : Int} {v : V} {d : D} (hv : Is p G v d) : ∀ {kvs : List (Key × V)} {ds : List (Int × D)}, IsI p G kvs ds → IsI p G (kvs ++ [(.inl k, v)]) (ds ++ [(k, d)])
  | _, _, .nil => .cons hv .nil
  | _, _, .cons h r => .cons h (isI_snoc hv r)
theorem map_no {k : Key} {v : V} : ∀ {kvs : List (Key × V)}, (∀ e ∈ kvs, ¬ e.1 = k) → kvs.map (fun kv => if kv.1 = k then (kv.1, v) else kv) = kvs
  | [], _ => rfl
  | e :: kvs, h => by
    rw [List.map_cons, if_neg (h e List.mem_cons_self), map_no fun x m => h x (List.mem_cons_of_mem _ m)]
/-- keys no two alike -/
theorem isI_put {p : Pw} {G : Hp} {k : Int} {v : V} {d : D} (hv : Is p G v d) : ∀ {kvs : List (Key × V)} {ds : List (Int × D)}, IsI p G kvs ds → (ds.map (·.1)).Nodup → IsI p G (putK kvs (.inl k : Key) v) (putI ds k d)
  | _, _, .nil, _ => .cons hv .nil
  | _, _, .cons (i := j) (v := v') (vs := kvs) (d := d') (ds := ds) h r, n => by
    rw [List.map_cons, List.nodup_cons] at n
    by_cases c : j = k
    · subst c
      have hno : ∀ e ∈ kvs, ¬ e.1 = (Sum.inl j : Key) := fun e m z => by
        have : e.1 ∈ kvs.map (·.1) := List.mem_map_of_mem m
        rw [isI_keys r, z] at this
        obtain ⟨x, mx, ex⟩ := List.mem_map.mp this
        have : x.1 ∈ ds.map (·.1) := List.mem_map_of_mem (f := fun e : Int × D => e.1) mx
        rw [Sum.inl.inj ex] at this
        exact n.1 this
      have e : putK ((.inl j, v') :: kvs) (.inl j : Key) v = (.inl j, v) :: kvs := by
        unfold putK
        rw [if_pos (by simp), List.map_cons, if_pos rfl, map_no hno]
      rw [e]
      unfold putI
      rw [if_pos rfl]
      exact .cons hv r
    · have c2 : ¬ (Sum.inl j : Key) = .inl k := fun z => c (Sum.inl.inj z)
      have e : putK ((.inl j, v') :: kvs) (.inl k : Key) v = (.inl j, v') :: putK kvs (.inl k : Key) v := by
        unfold putK
        rw [List.any_cons, decide_eq_false c2, Bool.false_or]
        split
        · rw [List.map_cons, if_neg c2]
        · rfl
      rw [e]
      unfold putI
      rw [if_neg c]
      exact .cons h (isI_put hv r n.2)
theorem putI_len (ds : List (Int × D)) (k : Int) (d : D) : (putI ds k d).length ≤ ds.length + 1 := by
  induction ds with
  | nil => exact Nat.le_refl _
  | cons e ds ih =>
    unfold putI
    split
    · simp
    · simpa using ih
def S.dks? : S → Option (List (Int × D))
  | .fz (.dki ds) => some ds
  | .bor (.dki ds) => some ds
  | _ => none
theorem RepS.dks {p : Pw} {G H : Hp} {v : V} {s : S} {ds : List (Int × D)} (h : RepS p G H v s) (e : Ex G H) (q : s.dks? = some ds) : ∃ a kvs, v = .ref a ∧ H a = some (.dK kvs) ∧ IsI p G kvs ds := by
  unfold S.dks? at q
  split at q
  · cases q
    have h : Is p G v _ := h
    cases h with
    | dki hp hx => exact ⟨_, _, rfl, e _ _ hp, hx⟩
  · cases q
    obtain ⟨as, h⟩ := h
    cases h with
    | dki hp hg hx => exact ⟨_, _, rfl, hp, hx⟩
  · cases q
def rInI (neg : Bool) : R2 := fun x y H Q => ∃ a k o, y = .ref a ∧ x = .int k ∧ DGet H a x o ∧ Q (.bl (if neg then !o.isSome else o.isSome)) H
section
variable {X : Cx} {T : CT}
theorem op_inI (hu : X.A.units + 65 < cLine) : OpR X (compareOp .In) (rInI false) := by
  intro pins s σ H x y v u Q I rx ry h
  obtain ⟨a, k, o, rfl, rfl, g, q⟩ := h
  cases ry
  exact d_in (by omega) I g rx fun s3 I3 => ⟨.bl o.isSome, H, I3, rfl, q⟩
theorem op_notInI (hu : X.A.units + 65 < cLine) : OpR X (compareOp .NotIn) (rInI true) := by
  intro pins s σ H x y v u Q I rx ry h
  obtain ⟨a, k, o, rfl, rfl, g, q⟩ := h
  cases ry
  exact d_notIn (by omega) I g rx fun s3 I3 => ⟨.bl (!o.isSome), H, I3, rfl, q⟩
def rIxI : R2 := fun x y H Q => ∃ a v, x = .ref a ∧ DGet H a y (some v) ∧ Q v H
theorem ix_I (hu : X.A.units + 65 < cLine) : IxR X rIxI := by
  intro value slice pins s σ H x y v u Q I rx ry h hs
  obtain ⟨a, w, rfl, g, q⟩ := h
  cases rx
  exact tail_any (dict_typeIs I g) PySem.F.slot_dict_getitem.lookup (d_getItem (by omega) I g ry fun w' s3 I3 rw' => ⟨w, H, I3, rw', q⟩) hs
def rSetI : TSet := fun x y v H Q => ∃ a H', x = .ref a ∧ DPut H a y v H' ∧ Q H'
theorem set_I (hu : X.A.units + 65 < cLine) : PSet X rSetI := by
  intro pins s σ H x y v xv yv u Q I rx ry rv h
  obtain ⟨a, H', rfl, g, q⟩ := h
  cases rx
  exact d_setItem (by omega) I g ry rv fun s4 I4 => ⟨H', I4, q⟩
end
def gInI (f : Bool → Bool) : S → S → Res R := fun x y => match x.int?, y.dks? with
  | some k, some ds => .ok (.fz (.bl (f (lkI ds k).isSome)))
  | _, _ => .bad
def gIxI : S → S → Res R := fun x y => match x.dks?, y.int? with
  | some ds, some k => (match lkI ds k with | some d => .ok (.fz d) | none => .bad)
  | _, _ => .bad
theorem isI_isSome {p : Pw} {G : Hp} {k : Int} {kvs : List (Key × V)} {ds : List (Int × D)} (h : IsI p G kvs ds) : (valV kvs (Sum.inl k : Key)).isSome = (lkI ds k).isSome := by
  cases q : lkI ds k with
  | none => rw [isI_none h q]; rfl
  | some d => obtain ⟨v, e, _⟩ := isI_some h q; rw [e]; rfl
theorem opv_inI {p : Pw} : OpV p (rInI false) (gInI id) := by
  intro G H x y sx sy e rx ry Q E w
  unfold gInI at w
  split at w
  · rename_i k ds q1 q2
    obtain ⟨a, kvs, rfl, hp, hx⟩ := ry.dks e q2
    have ex := rx.int q1
    subst ex
    refine ⟨a, k, valV kvs (Sum.inl k : Key), rfl, rfl, DGet.k (k := Sum.inl k) hp, ?_⟩
    rw [isI_isSome hx]
    exact wish_at e w (.bl _)
  · exact w.elim
theorem opv_notInI {p : Pw} : OpV p (rInI true) (gInI not) := by
  intro G H x y sx sy e rx ry Q E w
  unfold gInI at w
  split at w
  · rename_i k ds q1 q2
    obtain ⟨a, kvs, rfl, hp, hx⟩ := ry.dks e q2
    have ex := rx.int q1
    subst ex
    refine ⟨a, k, valV kvs (Sum.inl k : Key), rfl, rfl, DGet.k (k := Sum.inl k) hp, ?_⟩
    rw [isI_isSome hx]
    exact wish_at e w (.bl _)
  · exact w.elim
theorem opv_ixI {p : Pw} : OpV p rIxI gIxI := by
  intro G H x y sx sy e rx ry Q E w
  unfold gIxI at w
  split at w
  · rename_i ds k q1 q2
    obtain ⟨a, kvs, rfl, hp, hx⟩ := rx.dks e q1
    have ey := ry.int q2
    subst ey
    cases q : lkI ds k with
    | none => rw [q] at w; exact w.elim
    | some d =>
      rw [q] at w
      obtain ⟨v, e1, i⟩ := isI_some hx q
      exact ⟨a, v, rfl, by rw [← e1]; exact DGet.k (k := Sum.inl k) hp, wish_at e w i⟩
  · exact w.elim
def gInB (f : Bool → Bool) : S → S → Res R := fun x y => match gInA f x y with | .bad => gInI f x y | z => z
def gIxB : S → S → Res R := fun x y => match gIxA x y with | .bad => gIxI x y | z => z
section
variable {X : Cx} {T : CT} {E : L2.St → XK}
theorem cv_inB {k : Nat} (hr : Room (k + 1) X.A) : CmpV X T .In (fun x y H Q => (rInA X.K x y H Q ∨ rInW (pw X T) false x y H Q) ∨ rInI false x y H Q) (gInB id) :=
  ⟨(cv_inA (T := T) hr).op.or (op_inI (units65 hr)), (cv_inA (T := T) hr).v.or opv_inI⟩
theorem cv_notInB {k : Nat} (hr : Room (k + 1) X.A) : CmpV X T .NotIn (fun x y H Q => (rNotInA X.K x y H Q ∨ rInW (pw X T) true x y H Q) ∨ rInI true x y H Q) (gInB not) :=
  ⟨(cv_notInA (T := T) hr).op.or (op_notInI (units65 hr)), (cv_notInA (T := T) hr).v.or opv_notInI⟩
theorem de_ixB {k : Nat} (hr : Room (k + 1) X.A) {a b : Expr} {ta tb : TE} {fa fb : Env → Res R} {pos : Pos} (ha : DE X T E a ta fa) (hb : DE X T E b tb fb) (hs : PlainIx b := by exact fun _ _ => rfl) :
    DE X T E (.Subscript a b pos) (tOp (fun x y H Q => (rIx X.K x y H Q ∨ rIxW (pw X T) x y H Q) ∨ rIxI x y H Q) ta tb) (fOp gIxB fa fb) :=
  ⟨pe_ix ((ix_seq.or (ix_W (units65 hr))).or (ix_I (units65 hr))) ha.pe hb.pe hs, ev_op (((opv_ix (p := pw X T)).or opv_ixW).or opv_ixI) ha.ev hb.ev⟩
/-! {} -/
def fNewI : Env → Res R := fun _ => .ok (.new (.dki []))
theorem de_dnewI {pos : Pos} : DE X T E (.Dict [] [] pos) tDNewK fNewI := by
  refine ⟨pe_dnewK, fun G0 H0 G H σ env s Q w => ?_⟩
  intro p hn
  have ng : G p = none := Evl.fresh_back s.gr.gh hn
  refine w (.ref p) G _ ((Grow.refl s.gr.gh).heap (Evl.Ex.new hn)) ⟨[p], .dki upd_same ng .nil, fun b m => ?_, rfl⟩
  rcases List.mem_cons.mp m with z | z
  · exact z ▸ hn
  · cases z
end
@[simp] abbrev fItemsW (n : Bool) (f : Env → Res R) : Env → Res (List D) := fun env => (f env).bind (itemsW n)
section
variable {X : Cx} {T : CT} {E : XK}
/-! ### x[k] = e, x a dict by ints (its keys no two alike) -/
def setIF (i : Nat) (fk f : Env → Res R) : Env → Fl := fun env => match env[i]? with
  | some (some (.dki ds)) => bindF (f env) fun r => (match store false r with
    | some (.fz d) => bindF (fk env) fun y => (match y.st.int? with
      | some k => if ds.length < 1000000 ∧ (ds.map (·.1)).Nodup then .nx (env.set i (some (.dki (putI ds k d)))) else .bad
      | none => .bad)
    | _ => .bad)
  | _ => .bad
theorem st_setI {p : Pw} {te tk : TE} {f fk : Env → Res R} (i : Nat) (hk : EvR p (kx E) tk fk) (h : EvR p (kx E) te f) : StR p E (tAsg te (L2.gSub (tVar i) tk rSetI)) (setIF i fk f) := by
  intro G0 H0 G H σ env s Dn w
  unfold setIF at w
  split at w
  · rename_i ds e
    obtain ⟨v, bs, as', hv, ho, hf, hd, ha, upd', _⟩ := s.reown e
    cases ho with
    | dki hp ga hx =>
      rename_i a kvs
      refine h.toS s w fun r y G1 H1 g rep w1 => ?_
      cases q : store false r with
      | none => rw [q] at w1; exact w1.elim
      | some o =>
        rw [q] at w1
        obtain ⟨G', cs, g', ex, ho', fr⟩ := store_rep rep g q
        cases o with
        | fz d =>
          cases ho' with
          | fz isd =>
            refine ⟨.ref a, hv, ?_⟩
            have s1 := s.grow g'
            refine hk.toS s1 w1 fun rk z G2 H2 g2 rep2 w2 => ?_
            obtain ⟨G3, g3, rep3⟩ := rep2.settle g2
            split at w2
            · rename_i k hk'
              have ez := rep3.int hk'
              subst ez
              by_cases hl : ds.length < 1000000 ∧ (ds.map (·.1)).Nodup
              · rw [if_pos hl] at w2
                have g13 := g'.trans g3
                have na : G3 a = none := g13.keep a _ hp rfl ga
                have hp3 := g13.h a _ hp
                have hsz : kvs.length < sizeLine := by rw [isI_len hx]; exact line_lt (Nat.le_of_lt hl.1)
                refine ⟨a, _, rfl, DPut.k (k := Sum.inl k) hp3 hsz, ?_⟩
                refine w2 G3 _ σ (upd' G3 _ _ [a] ((s.gr.trans g13).updO (hf a List.mem_cons_self) na) g13.g (fun x m => ?_) (.dki upd_same na (isI_put (isd.mono g3.g) (hx.mono g13.g) hl.2)) fun b m => .inl m)
                have nx : x ≠ a := fun z => hd a List.mem_cons_self (z ▸ m)
                obtain ⟨n, u, eu, tu⟩ := ha x m
                exact ⟨g13.keep x u eu tu n, by rw [upd_ne nx, g13.h x u eu, eu]⟩
              · rw [if_neg hl] at w2; exact w2.elim
            · exact w2.elim
        | _ => exact w1.elim
  · exact w.elim
theorem ds_setI {k : Nat} (hr : Room (k + 1) X.A) (i : Nat) {x : Str} {b e : Expr} {te tk : TE} {f fk : Env → Res R} {pos pos2 tpos : Pos} (he : DE X T (kx E) e te f) (hb : DE X T (kx E) b tk fk) (hN : X.N[i]? = some x := by rfl) (hv : Vis X.env.scope x := by first | exact Or.inl rfl | exact Or.inr (Or.inl rfl) | exact Or.inr (Or.inr rfl)) (hd : (x == ("__debug__" : Str)) = false := by decide)
    (hcd : (x == ("__classdict__" : Str)) = false := by decide) (ha : ∀ v, assign (.Subscript (.Name x pos2) b tpos) X.env v = (do
      let ov ← holding [v] (eval (.Name x pos2) X.env)
      let iv ← holding [v, ov] (eval b X.env)
      standAt tpos
      holding [v, ov, iv] (setItem ov iv v)
      release [v, ov, iv] []) := by intro _; rfl) (hs : swapsWithSole [.Subscript (.Name x pos2) b tpos] e pos.line X.env = pure false := by rfl) (hw : swappedStores [.Subscript (.Name x pos2) b tpos] e X.env = pure none := by rfl)
    (h1 : (assignEach [.Subscript (.Name x pos2) b tpos] X.env).map (·.2) = [assign (.Subscript (.Name x pos2) b tpos) X.env] := by rfl) :
    DS X T E (.Assign [.Subscript (.Name x pos2) b tpos] e pos) (tAsg te (L2.gSub (tVar i) tk rSetI)) (setIF i fk f) :=
  ⟨ps_asg he.pe (pg_sub (pe_var hN hv hd hcd) hb.pe (set_I (units65 hr)) ha) hs hw h1, st_setI (p := pw X T) i hb.ev he.ev⟩
end
end DL
namespace DL
open PySem L2 PyProof.Rows
/-! ## defs that may raise -/
/-- a wish that looks at no slots -/
abbrev wxE (E : XK) : WX := fun cls d _ H => E cls d H
section
variable {P : Program} {w : World} {K : PySem.W.Frag} {T : CT} {mg : Str → Option Value} {base : Heap}
theorem fn_defX {x qual : Str} {st : Stmt} {f : Addr} {fd : FuncData} {N ps : List Str} {k n np : Nat} {Fb : Env → Fl} (F : Fun K x qual st f fd) (S : FnScope N ps (defScope st)) (hn : N.length = n) (hnp : ps.length = np)
    (hbody : ∀ (cdv : Value) (A : Around) (outer : List PySem.Env) (s : Shared) (H : Hp) (E : XK), Room k (A.deeper (PyProof.Rows.envOfC qual (defScope st) s.heap.objs.size f cdv)) →
      L2N.Takes (cxOf (L2N.CX P w) P w K mg base N qual (defScope st) f cdv A outer s H E) (wxE E) →
      ∃ t, DSs (cxOf (L2N.CX P w) P w K mg base N qual (defScope st) f cdv A outer s H E) T E (defBody st) t Fb) : FnOk P w K mg base (L2N.CX P w) (k + 1) f fd ps (spD ⟨K, T, P, w⟩ (defF n np Fb)) := by
  subst hn hnp
  obtain ⟨oc, od, kV, doc, pm, an, cdv, ct, osl, rfl, lk, hcd⟩ := F.ex
  refine fn_of lk hcd S (fun vs H Q E h => ?_) fun A outer s H vs Q E hr h => ?_
  · obtain ⟨G, ds, e, hl, wi⟩ := h
    unfold defF at wi
    by_cases q : ds.length = ps.length
    · rw [hl.length]; exact q
    · rw [if_neg q] at wi; exact wi.elim
  · obtain ⟨G, ds, e, hl, wi⟩ := h
    obtain ⟨t, hd⟩ := hbody cdv A outer s H E hr (L2N.takes_of rfl rfl rfl rfl)
    refine ⟨t, ⟨hd.ps.run⟩, ?_⟩
    unfold defF at wi
    by_cases q : ds.length = ps.length
    · rw [if_pos q] at wi
      exact hd.ev G H G H _ _ (sOk_start e hl N) _ (wish_run wi)
    · rw [if_neg q] at wi; exact wi.elim
/-- an __init__ that may raise -/
theorem fn_initX {x qual : Str} {st : Stmt} {f : Addr} {fd : FuncData} {N ps : List Str} {k c n np : Nat} {Fb : Env → Fl} {mkF : List D → Res (List O)} (F : Fun K x qual st f fd) (S : FnScope N ps (defScope st)) (hn : N.length = n) (hnp : ps.length = np)
    (hbody : ∀ (cdv : Value) (A : Around) (outer : List PySem.Env) (s : Shared) (H : Hp) (E : XK), Room k (A.deeper (PyProof.Rows.envOfC qual (defScope st) s.heap.objs.size f cdv)) →
      L2N.Takes (cxOf (L2N.CX P w) P w K mg base N qual (defScope st) f cdv A outer s H E) (wxE E) →
      ∃ t, DSs (cxOf (L2N.CX P w) P w K mg base N qual (defScope st) f cdv A outer s H E) T E (defBody st) t Fb)
    (hF : ∀ a ds, mkF ds = .bad ∨ initF c n np Fb a ds = mkF ds) : FnOk P w K mg base (L2N.CX P w) (k + 1) f fd ps (spI ⟨K, T, P, w⟩ c mkF) := by
  subst hn hnp
  obtain ⟨oc, od, kV, doc, pm, an, cdv, ct, osl, rfl, lk, hcd⟩ := F.ex
  refine fn_of lk hcd S (fun vs H Q E h => ?_) fun A outer s H vs Q E hr h => ?_
  · obtain ⟨G, x, dx, ws, ds, rfl, hx, gx, e, hl, wi⟩ := h
    rcases hF x ds with q0 | q0
    · rw [q0] at wi; exact wi.elim
    rw [← q0] at wi
    unfold initF at wi
    by_cases q : ds.length + 1 = ps.length
    · rw [List.length_cons, hl.length]; exact q
    · rw [if_neg q] at wi; exact wi.elim
  · obtain ⟨G, x, dx, ws, ds, rfl, hx, gx, e, hl, wi⟩ := h
    obtain ⟨t, hd⟩ := hbody cdv A outer s H E hr (L2N.takes_of rfl rfl rfl rfl)
    refine ⟨t, ⟨hd.ps.run⟩, ?_⟩
    rcases hF x ds with q0 | q0
    · rw [q0] at wi; exact wi.elim
    rw [← q0] at wi
    unfold initF at wi
    by_cases q : ds.length + 1 = ps.length
    · rw [if_pos q] at wi
      refine hd.ev G (butX H x) G H _ _ (sOk_init (p := ⟨K, T, P, w⟩) hx gx e hl N) _ ?_
      cases qf : Fb (some (.slf x c []) :: (ds.map (fun d => some (.fz d)) ++ List.replicate (N.length - (ds.length + 1)) none)) with
      | nx env =>
        rw [qf] at wi
        intro G2 H2 σ2 s2
        unfold runI at wi
        dsimp only at wi
        split at wi
        · rename_i a' c' os e0
          by_cases ha : a' = x ∧ c' = c ∧ O.whole (.ins c os) = true
          · rw [if_pos ha] at wi
            obtain ⟨rfl, rfl, hw⟩ := ha
            obtain ⟨as, h1, h2⟩ := s2.sl
            obtain ⟨v, bs, h3, h4, h5⟩ := h1.get e0
            cases h4 with
            | slf hp gp hl2 np hr2 =>
              refine wi G2 H2 _ s2.gr (.ins hp gp hl2 np hr2) (fun a m => ?_) hw
              have := h2 a (h5 a m)
              unfold butX at this
              by_cases z : a = a'
              · exact .inl z
              · rw [if_neg z] at this; exact .inr this
          · rw [if_neg ha] at wi; exact wi.elim
        · exact wi.elim
      | ex c' z => rw [qf] at wi; exact wi
      | rt r => rw [qf] at wi; exact wi.elim
      | bk env => rw [qf] at wi; exact wi.elim
      | ct env => rw [qf] at wi; exact wi.elim
      | bad => rw [qf] at wi; exact wi.elim
    · rw [if_neg q] at wi; exact wi.elim
end
def mkRX (c : Nat) (F : List D → Res (List O)) : List D → Res R := fun ds => (F ds).bind fun os => .ok (.new (.ins c os))
section
variable {X : Cx} {T : CT}
/-- f(e, ..), f a def that may raise -/
theorem de_callW {W : WX} {e : Expr} {es : List Expr} {t : TA} {fr : Env → Res (List S)} {x : Str} {p pos : Pos} {k : Nat} {F : List D → Res R} (h : FnD X.prog X.w X.K T X.mg X.base (L2N.CX X.prog X.w) x k F) (hr : Room k X.A) (tk : L2N.Takes X W) (ha : DA X T (WE W) (e :: es) t fr) (hg : Gl X x := by rfl)
    (hd : (x == ("__debug__" : Str)) = false := by decide) (he : starEach (e :: es) X.env = (false, eval e X.env) :: starEach es X.env := by rfl) (hpl : (backTo pos (starEach es X.env)).any (·.1) = false := by rfl) :
    DE X T (WE W) (.Call (.Name x p) (e :: es) [] pos) (tCallS (spD (pw X T) F) (WE W) t) (fCall F fr) := by
  obtain ⟨f, fd, ps, F', hm, hk, hb⟩ := h.ex
  refine ⟨pe_callS F' hr hg hm hk hb (fun σ => L2N.passAt tk σ) ha.pa hd he hpl, fun G0 H0 G H σ env s Q w => ?_⟩
  refine ha.ev.to s (ok := okR (pw X T) Q) w (fun _ _ g' _ h => h.grow g') fun ss vs G1 H1 g1 rep w1 => ?_
  exact callS_use (p := pw X T) g1.gh rep w1
theorem de_callX {E : XK} {e : Expr} {es : List Expr} {t : TA} {fr : Env → Res (List S)} {x : Str} {p pos : Pos} {k : Nat} {F : List D → Res R} (h : FnD X.prog X.w X.K T X.mg X.base (L2N.CX X.prog X.w) x k F) (hr : Room k X.A) (tk : L2N.Takes X (wxE E)) (ha : DA X T (kx E) (e :: es) t fr) (hg : Gl X x := by rfl)
    (hd : (x == ("__debug__" : Str)) = false := by decide) (he : starEach (e :: es) X.env = (false, eval e X.env) :: starEach es X.env := by rfl) (hpl : (backTo pos (starEach es X.env)).any (·.1) = false := by rfl) :
    DE X T (kx E) (.Call (.Name x p) (e :: es) [] pos) (tCallS (spD (pw X T) F) (kx E) t) (fCall F fr) := de_callW (W := wxE E) h hr tk ha hg hd he hpl
theorem make_useX {p : Pw} {c : Nat} {F : List D → Res (List O)} {vs : List V} {H : Hp} {Q : VK} {E : XK} (h : spD p (mkRX c F) vs H Q E) {x dx : Addr} (hx : H x = none) (hdx : H dx = none) (ne : dx ≠ x) :
    spI p c F (.ref x :: vs) (upd (upd H dx (.own x)) x (.ins (p.T.C c) dx [])) (fun v H2 => v = .non ∧ Q (.ref x) H2) E := by
  obtain ⟨G, ds, e, hl, w⟩ := h
  have e1 : Ex H (upd (upd H dx (.own x)) x (.ins (p.T.C c) dx [])) := fun a o h => by
    rw [upd_ne (ne_of_none h hx), upd_ne (ne_of_none h hdx)]; exact h
  have e2 : Ex H (butX (upd (upd H dx (.own x)) x (.ins (p.T.C c) dx [])) x) := fun a o h => by
    unfold butX
    rw [if_neg (ne_of_none h hx)]
    exact e1 a o h
  have gx : G x = none := Evl.fresh_back e hx
  have gr : ∀ {G2 H2 : Hp}, Grow G (butX (upd (upd H dx (.own x)) x (.ins (p.T.C c) dx [])) x) G2 H2 → Grow G H G2 H2 := fun {G2 H2} g => ⟨g.g, g.gh, e2.trans g.h, fun a o h t n => g.keep a o (e2 a o h) t n⟩
  refine ⟨G, x, dx, vs, ds, rfl, upd_same, gx, e.trans e1, hl, ?_⟩
  unfold mkRX at w
  cases q : F ds with
  | bad => rw [q] at w; exact w
  | ex c' z =>
    rw [q] at w
    intro cls d G2 H2 g hX
    exact w cls d G2 H2 (gr g) (hX.back e2)
  | ok os =>
    rw [q] at w
    intro G2 H2 as g ho hf hw
    refine ⟨rfl, w (.ref x) G2 H2 (gr g) ⟨as, ho, fun a m => ?_, hw⟩⟩
    rcases hf a m with z | z
    · rw [z]; exact hx
    · exact Evl.fresh_back e1 z
theorem de_makeX {E : XK} {e : Expr} {es : List Expr} {t : TA} {fr : Env → Res (List S)} {x : Str} {p pos : Pos} {c k : Nat} {F : List D → Res (List O)} (h : ClD X.prog X.w X.K T X.mg X.base (L2N.CX X.prog X.w) x c k F) (hr : Room (k + 1) X.A) (tk : L2N.Takes X (wxE E)) (ha : DA X T (kx E) (e :: es) t fr) (hg : Gl X x := by rfl)
    (hd : (x == ("__debug__" : Str)) = false := by decide) (he : starEach (e :: es) X.env = (false, eval e X.env) :: starEach es X.env := by rfl) (hpl : (backTo pos (starEach es X.env)).any (·.1) = false := by rfl) :
    DE X T (kx E) (.Call (.Name x p) (e :: es) [] pos) (tMake (T.C c) (spI (pw X T) c F) [] E t) (fCall (mkRX c F) fr) := by
  obtain ⟨f, fd, ps, F', M, hm, hb⟩ := h.ex
  refine ⟨pe_make M F' hr hg hm hb .nil (L2N.passes_call tk fun _ _ _ _ z => z) ha.pa hd he hpl, fun G0 H0 G H σ env s Q w => ?_⟩
  refine ha.ev.to s (ok := okR (pw X T) Q) w (fun _ _ g' _ h => h.grow g') fun ss vs G1 H1 g1 rep w1 => ?_
  intro x' dx hx hdx ne
  rw [List.append_nil]
  exact make_useX (p := pw X T) (callS_use g1.gh rep w1) hx hdx ne
theorem de_methX {E : XK} {o e : Expr} {es : List Expr} {to : TE} {fo : Env → Res R} {t : TA} {fr : Env → Res (List S)} {m : Str} {apos pos : Pos} {c k : Nat} {F : List D → Res R} {pl : Sem Bool} (h : MtD X.prog X.w X.K T X.mg X.base (L2N.CX X.prog X.w) c m k F) (hr : Room k X.A) (tk : L2N.Takes X (wxE E)) (ho : DE X T (kx E) o to fo) (ha : DA X T (kx E) (e :: es) t fr)
    (hst : starEach (e :: es) X.env = (false, eval e X.env) :: starEach es X.env := by rfl) (hpl : (backTo pos (starEach es X.env)).any (·.1) = false := by rfl)
    (ht : eval (.Call (.Attribute o m apos) (e :: es) [] pos) X.env = (do
      let ov ← eval o X.env
      standAt apos.atName
      let (f, first) ← holding [ov] (getMethod ov m pl)
      callWith pos f first (backTo pos (starEach (e :: es) X.env)) (backToKw pos (keywordEach [] X.env))) := by rfl) :
    DE X T (kx E) (.Call (.Attribute o m apos) (e :: es) [] pos) (tMeth (T.C c) m (spD (pw X T) F) [] E to t) (fMeth c F fo fr) := by
  obtain ⟨f, fd, ps, F', hm, hb⟩ := h.ex
  refine ⟨pe_meth ho.pe h.cl hm F' hr hb .nil (L2N.passes_call tk fun _ _ _ _ z => z) ha.pa hst hpl ht, fun G0 H0 G H σ env s Q w => ?_⟩
  refine ho.ev.to s (ok := okR (pw X T) Q) w (fun _ _ g' _ h => h.grow g') fun rx x G1 H1 g1 rep w1 => ?_
  by_cases hc : rx.st.isC c = true
  · rw [if_pos hc] at w1
    obtain ⟨a, dx, vs, rfl, hx⟩ := S.isC_ins rep g1.gh hc
    refine ⟨a, dx, _, rfl, hx, zip_no h.no, ?_⟩
    refine ha.ev.to (s.grow g1) (ok := okR (pw X T) Q) w1 (fun _ _ g' _ h => h.grow g') fun ss vs2 G2 H2 g2 rep2 w2 => ?_
    rw [List.append_nil]
    exact callS_use (p := pw X T) g2.gh (.cons (rep.grow g2) rep2) w2
  · rw [if_neg hc] at w1; exact w1.elim
/-! ### raise C("..") -/
structure ExT (mg : Str → Option Value) (K : PySem.W.Frag) (T : CT) (x : Str) (c : Nat) : Prop where
  gC : mg x = some (.ref (T.C c))
  xP : PySem.W.excIn K (T.C c) [.type "ValueError", .type "Exception", .type "BaseException", .type "object"] "ValueError.__new__" = true
  kP : PySem.W.keepIn K (.ref (T.C c)) = true
  bP : PySem.W.subIn K (.ref (T.C c)) (.type "BaseException") = some true
  tP : PySem.W.typeIn K (.ref (T.C c)) = some (.type "type")
theorem ds_raiseT {E : XK} {x m : Str} {c j : Nat} {p p2 pos pos2 : Pos} (hc : X.calm = true) (tk : L2N.Takes X (wxE E)) (F : ExT X.mg X.K T x c) (hg : Gl X x := by rfl) (hdb : (x == ("__debug__" : Str)) = false := by decide) :
    DS X T E (.Raise (some (.Call (.Name x p) [.Constant (.str m) j p2] [] pos)) none pos2) (fun _ σ H => E (.ref (T.C c)) none H) (fun _ => .ex c []) :=
  ⟨L2N.ps_raise hc tk (L2N.pmk_own PySem.F.excBase_ValueError F.xP F.gC F.kP (raises_own F.bP F.tP) hg hdb), fun G0 H0 G H σ env s Dn w => w _ none G H s.gr ⟨rfl, .inl ⟨rfl, rfl⟩⟩⟩
end
end DL
namespace DL
open PySem L2 PyProof.Rows
/-! ## exceptions with an __init__ that names its base's -/
/-- what the base class of such an exception says of its __init__ -/
structure BsI (mg : Str → Option Value) (K : PySem.W.Frag) (b : Str) : Prop where
  ex : ∃ W, mg b = some (.ref W) ∧ PySem.W.readsIn K W (.type "type") = true ∧ PySem.W.specialIn K (.ref W) "__getattribute__" = some (some (.builtin "type.__getattribute__")) ∧
    PySem.W.findCls K (.ref W) (.type "type") "__init__" = some (.val (.builtin "ValueError.__init__"))
section
variable {X : Cx}
/-- Base.__init__(self, ..) -/
theorem pe_baseInit {b : Str} {e : Expr} {es : List Expr} {ta : TA} {p1 p2 pos : Pos} {pl : Sem Bool} (B : BsI X.mg X.K b) (ha : PA X (e :: es) ta) (hg : Gl X b := by rfl) (hdb : (b == ("__debug__" : Str)) = false := by decide)
    (hc : eval (.Call (.Attribute (.Name b p1) "__init__" p2) (e :: es) [] pos) X.env = (do
      let ov ← eval (.Name b p1) X.env
      standAt p2.atName
      let (f, first) ← holding [ov] (getMethod ov "__init__" pl)
      callWith pos f first (backTo pos (starEach (e :: es) X.env)) (backToKw pos (keywordEach [] X.env))) := by rfl)
    (hst : starEach (e :: es) X.env = (false, eval e X.env) :: starEach es X.env := by rfl) (hpl : (backTo pos (starEach es X.env)).any (·.1) = false := by rfl) :
    PE X (.Call (.Attribute (.Name b p1) "__init__" p2) (e :: es) [] pos) (tVeI X.K ta) := by
  obtain ⟨W, hm, rd, ga, fc⟩ := B.ex
  refine ⟨fun pins s σ H Q I wish => ?_⟩
  refine PySem.W.methodCall_KW (ld_glob I hg hm (PySem.W.method_cls I.kIn ga (PySem.W.cls_value I.kIn rd fc (by decide +kernel) ?_)) hdb) hc
  refine PyProof.Rows.callWith_method1 (thn (ha.run pos pins _ σ H _ (I.tok _) wish) fun args s2 got => ?_) hst hpl
  obtain ⟨vs, H2, I2, rel, a, C, ws, hvs, hle, T, hat, q⟩ := got
  subst hvs
  cases rel with
  | @cons _ w0 _ wr r0 rr =>
    obtain rfl : w0 = Value.ref a := r0
    have few : wr.length ≤ sizeLine := by
      have := Paired.length rr
      rw [sizeLine_eq]
      omega
    exact oinit_ok T I2 hat few fun s3 J => ⟨.non, H2, J, rfl, q⟩
end
/-- such an __init__: of the new exception and a value it makes the field -/
def spXI (C : Addr) (fl : Str) : Sp := fun vs H Q _ => ∃ a v, vs = [.ref a, v] ∧ H a = some (exo a C none) ∧ ∀ dx, H dx = none → dx ≠ a → Q .non (upd (upd H dx (exd dx [(fl, v)])) a (exo a C (some dx)))
section
variable {P : Program} {w : World} {K : PySem.W.Frag} {mg : Str → Option Value} {base : Heap}
theorem spXI_read {K : PySem.W.Frag} {C : Addr} {fl m : Str} {vs : List V} {H : Hp} {Q : VK} {E : XK} {N : List Str} (T : OexC K C) (hno : PySem.W.findIn K (.ref C) fl = some none) (hN : N.length = 2) (h : spXI C fl vs H Q E) :
    tSeq (tDrop (tVeI K (tCons (tVar 0) (tCons (tC (.str m)) tNil)))) (tOst K fl (tVar 0) (tVar 1)) { nx := fun _ H' => Q .non H', rt := Q } (L2.start N vs) H := by
  obtain ⟨a, v, rfl, hat, q⟩ := h
  have s0 : (L2.start N [V.ref a, v])[0]? = some (some (.ref a)) := rfl
  have s1 : (L2.start N [V.ref a, v])[1]? = some (some v) := rfl
  exact ⟨.ref a, s0, a, C, [.str m], rfl, by simp, T, hat, v, s1, .ref a, s0, a, C, rfl, T, hno, .inl ⟨hat, fun dx n ne => q dx n ne⟩⟩
/-- for a body that says Base.__init__(self, ".."); self.f = x -/
theorem fn_xinit {x qual : Str} {st : Stmt} {f : Addr} {fd : FuncData} {N ps : List Str} {k : Nat} {C : Addr} {fl m : Str} (F : Fun K x qual st f fd) (S : FnScope N ps (defScope st)) (hN : N.length = 2) (hps : ps.length = 2) (T : OexC K C) (hno : PySem.W.findIn K (.ref C) fl = some none)
    (hb : ∀ (cdv : Value) (A : Around) (outer : List PySem.Env) (s : Shared) (H : Hp), PSs (cxOf CX0 P w K mg base N qual (defScope st) f cdv A outer s H (fun _ _ _ => False)).nox (defBody st) (tSeq (tDrop (tVeI K (tCons (tVar 0) (tCons (tC (.str m)) tNil)))) (tOst K fl (tVar 0) (tVar 1)))) :
    FnOk P w K mg base CX0 (k + 1) f fd ps (spXI C fl) := by
  refine F.ok S (fun vs H Q E h => ?_) fun cdv A outer s H vs Q E hr h => ?_
  · obtain ⟨a, v, rfl, _⟩ := h
    exact hps.symm
  · exact ⟨_, ⟨(hb cdv A outer s H).run⟩, spXI_read T hno hN h⟩
end
section
variable {X : Cx}
/-- C(e): such an exception, its context None -/
theorem pmk_init {CX : CXT} {x : Str} {e : Expr} {es : List Expr} {ta : TA} {p pos : Pos} {C fI : Addr} {k : Nat} {fd : FuncData} {ps : List Str} {sp : Sp} (T : OexC X.K C) (iC : PySem.W.findIn X.K (.ref C) "__init__" = some (some (.ref fI))) (tI : PySem.W.typeIn X.K (.ref fI) = some (.type "function"))
    (Fi : FnOk X.prog X.w X.K X.mg X.base CX k fI fd ps sp) (room : Room (k + 1) X.A) (bi : Binds X.K fd ps []) (no : Passes CX X (fun _ _ _ => False)) (hm : X.mg x = some (.ref C)) (ha : PA X (e :: es) ta) (hg : Gl X x := by rfl)
    (hdb : (x == ("__debug__" : Str)) = false := by decide) (hst : starEach (e :: es) X.env = (false, eval e X.env) :: starEach es X.env := by rfl) (hpl : (backTo pos (starEach es X.env)).any (·.1) = false := by rfl) :
    L2N.PMk X (.Call (.Name x p) (e :: es) [] pos) (tMkO C sp [] ta) := by
  intro pins s σ H Q I wish
  obtain ⟨c1, c2, c3, c4, c5, c6, c7, c8, c9, e1, e2, e3, e4, e5, e6, look, mro⟩ := T.cls
  refine wpAny_Call_Name_kw (ld_glob I hg hm ?_ hdb)
  refine PySem.W.callWith_K (h₀ := X.base) I.ok.mod.kin T.kC (thn (ha.run pos pins s σ H _ I wish) fun args sB got => ?_) hst hpl
  obtain ⟨vs, HB, IB, rel, few, want⟩ := got
  refine ⟨IB.kIn, ?_⟩
  show wpAny _ _ (call (.ref C) args) _ _ _
  obtain ⟨hB, gB, dB, tB, oB⟩ := sB
  have le1 : hB.objs.size ≤ hB.objs.size + 1 := Nat.le_add_right _ 1
  have fresh1 : HB (hB.objs.size + 1) = none := IB.hok.fresh le1
  have wantI := want (hB.objs.size + 1) fresh1
  rw [List.append_nil] at wantI
  let hN := (hB.push (PySem.W.kdv_tup args)).push (PySem.HandSPX.excO C hB.objs.size)
  have keepN : ∀ b o, hB.get? b = some o → hN.get? b = some o := fun b o z => Heap.get?_push_of_some _ (Heap.get?_push_of_some _ z)
  have atN : hN.get? (hB.objs.size + 1) = some (PySem.HandSPX.excO C hB.objs.size) := by heap_get
  have IN : L2.Inv X pins σ (upd HB (hB.objs.size + 1) (exo (hB.objs.size + 1) C none)) ⟨hN, gB, dB, tB, oB⟩ := IB.laid (t' := tB) keepN le1 (exo_ok atN)
  have relN : Vals (V.ref (hB.objs.size + 1) :: vs) (Value.ref (hB.objs.size + 1) :: args) := .cons rfl rel
  have lenN : (Value.ref (hB.objs.size + 1) :: args ++ []).length = ps.length := by
    have z := relN.length
    rw [Fi.len _ _ _ _ wantI] at z
    rw [List.append_nil]
    exact z.symm
  have fewN : args.length ≤ sizeLine := by
    have := Paired.length rel
    rw [sizeLine_eq]
    omega
  have bindN := bi ⟨hN, gB, dB, tB, oB⟩ (Value.ref (hB.objs.size + 1) :: args) IN.kIn lenN
  rw [List.append_nil] at bindN
  refine wpAny_call (PySem.HandSPX.call_own PySem.F.excBase_ValueError (fun Y => PySem.HandSPX.refsVE_contains Y c5 mro) (IB.kIn _ _ look) (PySem.W.looks_findIn IB.kIn iC) (fun self => PySem.W.bind_fn IB.kIn self tI) fewN (codeAny_mono (Fi.run _ X.stack _ _ _ _ _ _ (fun _ _ _ => False) (room.make C args []) (IN.env0.make C args []) bindN relN wantI) fun r sE done => ?_))
  cases r with
  | error er => exact no pins σ _ _ er sE IN done
  | ok fl =>
    cases fl with
    | ret u =>
      obtain ⟨v, HE, osE, bareE, unE, hokE, relE, rfl, d, fs, atE, atD, freshD, go⟩ := done
      obtain ⟨hE, gE, dE, tE, oE⟩ := sE
      obtain ⟨t0, G, J, keepG, gone, objE, noneE⟩ := mk_end0 (d2 := dE) (t2 := tE) IB le1 keepN unE hokE osE bareE atE atD freshD
      exact ⟨relE, _, _, _, _, _, _, _, rfl, J, keepG, gone, objE, ⟨rfl, rfl, fun zs hz => by cases hz; rfl⟩, rfl, rfl, noneE, rfl, bareE, raises_own T.exC T.tyC, go⟩
    | next => exact done.elim
    | brk => exact done.elim
    | cont => exact done.elim
end
/-- a class of such exceptions -/
structure ExI (P : Program) (w : World) (mg : Str → Option Value) (K : PySem.W.Frag) (T : CT) (base : Heap) (x : Str) (c : Nat) (fl : Str) : Prop where
  ex : ∃ fI fd ps, FnOk P w K mg base CX0 1 fI fd ps (spXI (T.C c) fl) ∧ Binds K fd ps [] ∧ PySem.W.findIn K (.ref (T.C c)) "__init__" = some (some (.ref fI)) ∧ PySem.W.typeIn K (.ref fI) = some (.type "function")
  oe : OexC K (T.C c)
  gC : mg x = some (.ref (T.C c))
  fs : fsOf c = [fl]
section
variable {X : Cx} {T : CT} {E : XK}
/-- raise C(e): what e tells goes along, owned where it is new -/
def raiseF (c : Nat) (f : Env → Res R) : Env → Fl := fun env => bindF (f env) fun r => match store true r with
  | some o => .ex c [o]
  | none => .bad
/-- raise C(x): what slot i owns goes along -/
def raiseVF (c i : Nat) : Env → Fl := fun env => match env[i]? with
  | some (some o) => .ex c [o]
  | _ => .bad
theorem xd_wish {p : Pw} {Gs Hs G H : Hp} {c : Nat} {fl : Str} {o : O} {v : V} {as : List Addr} (w : WX' p E Gs Hs c [o]) (g : Grow Gs Hs G H) (ho : Ow p G H v o as) (fr : ∀ a ∈ as, Hs a = none) (hf : fsOf c = [fl]) {d : Addr} (n : H d = none) : E (.ref (p.T.C c)) (some d) (upd H d (.xd [(fl, v)])) := by
  have ng : G d = none := Evl.fresh_back g.gh n
  have nd : d ∉ as := fun m => by
    obtain ⟨_, u, eu, _⟩ := ho.at d m
    rw [n] at eu; cases eu
  have ho2 : Ow p G (upd H d (.xd [(fl, v)])) v o as := ho.mono (Evl.Ex.refl _) fun x m => ⟨(ho.at x m).1, upd_ne fun z => nd (z ▸ m)⟩
  have hl : OwL p G (upd H d (.xd [(fl, v)])) [v] [o] (as ++ []) := .cons ho2 .nil fun _ _ => by simp
  rw [List.append_nil] at hl
  have zf : (p.T.fs c).zip [v] = [(fl, v)] := by
    show (fsOf c).zip [v] = _
    rw [hf]; rfl
  refine w _ _ G _ (g.heap (Evl.Ex.new n)) ⟨rfl, .inr ⟨d, [v], as, rfl, ?_, ng, Evl.fresh_back g.h n, ?_, nd, hl, fr⟩⟩
  · rw [upd_same, zf]
  · show _ = (fsOf c).length
    rw [hf]; rfl
theorem mk_w {C : Addr} {fl : Str} {H1 : Hp} {v : V} {Q : XK} (q : ∀ d, H1 d = none → Q (.ref C) (some d) (upd H1 d (.xd [(fl, v)]))) : [v].length ≤ 1000 ∧ ∀ a, H1 a = none → spXI C fl (.ref a :: ([v] ++ [])) (upd H1 a (exo a C none))
    (fun v H2 => v = .non ∧ ∃ (d : Addr) (fs : List (Str × V)), H2 a = some (exo a C (some d)) ∧ H2 d = some (exd d fs) ∧ H1 d = none ∧ Q (.ref C) (some d) (upd (L2.del H2 a) d (.xd fs))) (fun _ _ _ => False) := by
  refine ⟨by simp, fun a na => ⟨a, v, rfl, upd_same, fun dx nx ne => ⟨rfl, dx, [(fl, v)], upd_same, ?_, ?_, ?_⟩⟩⟩
  · rw [upd_ne ne, upd_same]
  · rw [upd_ne ne] at nx; exact nx
  · rw [upd_ne ne] at nx
    have : upd (L2.del (upd (upd (upd H1 a (exo a C none)) dx (exd dx [(fl, v)])) a (exo a C (some dx))) a) dx (.xd [(fl, v)]) = upd H1 dx (.xd [(fl, v)]) := by
      funext b
      by_cases hb : b = dx
      · subst hb; rw [upd_same, upd_same]
      · rw [upd_ne hb, upd_ne hb]
        by_cases ha : b = a
        · subst ha; rw [del_same, na]
        · rw [del_ne ha, upd_ne ha, upd_ne hb, upd_ne ha]
    rw [this]
    exact q dx nx
theorem ds_raiseI {x : Str} {c : Nat} {fl : Str} {e : Expr} {te : TE} {f : Env → Res R} {p pos pos2 : Pos} (hc : X.calm = true) (tk : L2N.Takes X (wxE E)) (h : ExI X.prog X.w X.mg X.K T X.base x c fl) (hr : Room 2 X.A) (he : DE X T (kx E) e te f) (hg : Gl X x := by rfl)
    (hdb : (x == ("__debug__" : Str)) = false := by decide) (hst : starEach [e] X.env = (false, eval e X.env) :: starEach [] X.env := by rfl) :
    DS X T E (.Raise (some (.Call (.Name x p) [e] [] pos)) none pos2) (fun _ σ H => tMkO (T.C c) (spXI (T.C c) fl) [] (tCons te tNil) σ H fun cls d H' => E cls d H') (raiseF c f) := by
  obtain ⟨fI, fd, ps, F, hb, iC, tI⟩ := h.ex
  refine ⟨L2N.ps_raise hc tk (pmk_init h.oe iC tI F hr hb pass0 h.gC (pa_cons he.pe pa_nil hst) hg hdb hst), fun G0 H0 G H σ env s Dn w => ?_⟩
  unfold raiseF at w
  refine he.ev.toS s w fun r v G1 H1 g rep w1 => ?_
  cases q : store true r with
  | none => rw [q] at w1; exact w1.elim
  | some o =>
    rw [q] at w1
    obtain ⟨G', cs, g', ex, ho, fr⟩ := store_rep rep g q
    exact mk_w fun d n => xd_wish (p := pw X T) w1 (s.gr.trans g') ho (fun a m => Evl.fresh_back s.gr.h (fr a m)) h.fs n
theorem ds_raiseVI {x y : Str} {c i : Nat} {fl : Str} {p pos pos2 pos3 : Pos} (hc : X.calm = true) (tk : L2N.Takes X (wxE E)) (h : ExI X.prog X.w X.mg X.K T X.base x c fl) (hr : Room 2 X.A) (hN : X.N[i]? = some y := by rfl) (hv : Vis X.env.scope y := by first | exact Or.inl rfl | exact Or.inr (Or.inl rfl) | exact Or.inr (Or.inr rfl)) (hd : (y == ("__debug__" : Str)) = false := by decide)
    (hcd : (y == ("__classdict__" : Str)) = false := by decide) (hg : Gl X x := by rfl) (hdb : (x == ("__debug__" : Str)) = false := by decide) :
    DS X T E (.Raise (some (.Call (.Name x p) [.Name y pos3] [] pos)) none pos2) (fun _ σ H => tMkO (T.C c) (spXI (T.C c) fl) [] (tCons (tVar i) tNil) σ H fun cls d H' => E cls d H') (raiseVF c i) := by
  obtain ⟨fI, fd, ps, F, hb, iC, tI⟩ := h.ex
  refine ⟨L2N.ps_raise hc tk (pmk_init h.oe iC tI F hr hb pass0 h.gC (pa_cons (pe_var hN hv hd hcd) pa_nil) hg hdb), fun G0 H0 G H σ env s Dn w => ?_⟩
  unfold raiseVF at w
  split at w
  · rename_i o e
    obtain ⟨as, sl, fr⟩ := s.sl
    obtain ⟨v, bs, h1, h2, h3⟩ := sl.get e
    exact ⟨v, h1, mk_w fun d n => xd_wish (p := pw X T) w s.gr h2 (fun a m => fr a (h3 a m)) h.fs n⟩
  · exact w.elim
end
end DL
namespace DL
open PySem L2 PyProof.Rows
/-! ## an except suite -/
/-- .. at a stands the exception that is handled -/
def CT.at (T : CT) (a : Addr) (c : Nat) (d : Option Addr) : CT := { C := T.C, fn := T.fn, x := fun a' c' d' => a' = a ∧ c' = c ∧ d' = d }
def Pw.at (p : Pw) (a : Addr) (c : Nat) (d : Option Addr) : Pw := ⟨p.K, p.T.at a c d, p.P, p.w⟩
/-- nothing is handled -/
def CT.cold (T : CT) : Prop := ∀ a c d, ¬ T.x a c d
section
variable {p : Pw} {a0 : Addr} {c0 : Nat} {d0 : Option Addr}
mutual
theorem Is.up (hx : p.T.cold) {G : Hp} : ∀ {v : V} {d : D}, Is p G v d → Is (p.at a0 c0 d0) G v d
  | _, _, .non => .non
  | _, _, .bl b => .bl b
  | _, _, .int i => .int i
  | _, _, .str s => .str s
  | _, _, .tup h r => .tup h (IsL.up hx r)
  | _, _, .lst h r => .lst h (IsL.up hx r)
  | _, _, .scr h => .scr h
  | _, _, .dki h r => .dki h (IsI.up hx r)
  | _, _, .dkw h a b c d r n z => .dkw h a b c d (IsE.up hx r) n z
  | _, _, .ins h l r => .ins h l (IsL.up hx r)
  | _, _, .fn h => .fn h
  | _, _, .exc0 h => absurd h (hx _ _ _)
  | _, _, .exc1 h _ => absurd h (hx _ _ _)
theorem IsL.up (hx : p.T.cold) {G : Hp} : ∀ {vs : List V} {ds : List D}, IsL p G vs ds → IsL (p.at a0 c0 d0) G vs ds
  | _, _, .nil => .nil
  | _, _, .cons h r => .cons (Is.up hx h) (IsL.up hx r)
theorem IsI.up (hx : p.T.cold) {G : Hp} : ∀ {vs : List (Key × V)} {ds : List (Int × D)}, IsI p G vs ds → IsI (p.at a0 c0 d0) G vs ds
  | _, _, .nil => .nil
  | _, _, .cons h r => .cons (Is.up hx h) (IsI.up hx r)
theorem IsE.up (hx : p.T.cold) {G : Hp} : ∀ {vs : List (NestedKey × Addr × Value)} {ds : List ((Int × Bool) × D)}, IsE p G vs ds → IsE (p.at a0 c0 d0) G vs ds
  | _, _, .nil => .nil
  | _, _, .cons h r i s => .cons h r (Is.up hx i) (IsE.up hx s)
end
mutual
theorem Ow.up (hx : p.T.cold) {G H : Hp} : ∀ {v : V} {o : O} {as : List Addr}, Ow p G H v o as → Ow (p.at a0 c0 d0) G H v o as
  | _, _, _, .fz h => .fz (h.up hx)
  | _, _, _, .lst h g n r => .lst h g n (OwL.up hx r)
  | _, _, _, .dki h g r => .dki h g (r.up hx)
  | _, _, _, .dkw h g a b c d r n z => .dkw h g a b c d (r.up hx) n z
  | _, _, _, .ins h g l n r => .ins h g l n (OwL.up hx r)
  | _, _, _, .slf h g l n r => .slf h g l n (OwL.up hx r)
  | _, _, _, .exc q _ _ _ _ _ => absurd q (hx _ _ _)
theorem OwL.up (hx : p.T.cold) {G H : Hp} : ∀ {vs : List V} {os : List O} {as : List Addr}, OwL p G H vs os as → OwL (p.at a0 c0 d0) G H vs os as
  | _, _, _, .nil => .nil
  | _, _, _, .cons h r d => .cons (Ow.up hx h) (OwL.up hx r) d
end
theorem EnvL.up (hx : p.T.cold) {G H : Hp} : ∀ {σ : L2.St} {env : Env} {as : List Addr}, EnvL p G H σ env as → EnvL (p.at a0 c0 d0) G H σ env as
  | _, _, _, .nil => .nil
  | _, _, _, .skip r => .skip (EnvL.up hx r)
  | _, _, _, .cons h r d => .cons (h.up hx) (EnvL.up hx r) d
theorem SOk.up (hx : p.T.cold) {G0 H0 G H : Hp} {σ : L2.St} {env : Env} (s : SOk p G0 H0 G H σ env) : SOk (p.at a0 c0 d0) G0 H0 G H σ env :=
  ⟨s.gr, let ⟨as, h1, h2⟩ := s.sl; ⟨as, h1.up hx, h2⟩⟩
mutual
theorem Is.down {G : Hp} : ∀ {v : V} {d : D}, Is (p.at a0 c0 d0) G v d → d.flat = true → Is p G v d
  | _, _, .non, _ => .non
  | _, _, .bl b, _ => .bl b
  | _, _, .int i, _ => .int i
  | _, _, .str s, _ => .str s
  | _, _, .tup h r, f => .tup h (IsL.down r (by simpa [D.flat] using f))
  | _, _, .lst .., f => by simp [D.flat] at f
  | _, _, .scr .., f => by simp [D.flat] at f
  | _, _, .dki .., f => by simp [D.flat] at f
  | _, _, .dkw .., f => by simp [D.flat] at f
  | _, _, .ins .., f => by simp [D.flat] at f
  | _, _, .fn .., f => by simp [D.flat] at f
  | _, _, .exc0 .., f => by simp [D.flat] at f
  | _, _, .exc1 .., f => by simp [D.flat] at f
theorem IsL.down {G : Hp} : ∀ {vs : List V} {ds : List D}, IsL (p.at a0 c0 d0) G vs ds → D.flatL ds = true → IsL p G vs ds
  | _, _, .nil, _ => .nil
  | _, _, .cons h r, f => by
    simp only [D.flatL, Bool.and_eq_true] at f
    exact .cons (Is.down h f.1) (IsL.down r f.2)
end
mutual
theorem Ow.down {G H : Hp} : ∀ {v : V} {o : O} {as : List Addr}, Ow (p.at a0 c0 d0) G H v o as → o.flat = true → Ow p G H v o as
  | _, _, _, .fz h, f => .fz (h.down (by simpa [O.flat] using f))
  | _, _, _, .lst h g n r, f => .lst h g n (OwL.down r (by simpa [O.flat] using f))
  | _, _, _, .dki .., f => by simp [O.flat] at f
  | _, _, _, .dkw .., f => by simp [O.flat] at f
  | _, _, _, .ins h g l n r, f => .ins h g l n (OwL.down r (by simpa [O.flat] using f))
  | _, _, _, .slf .., f => by simp [O.flat] at f
  | _, _, _, .exc .., f => by simp [O.flat] at f
theorem OwL.down {G H : Hp} : ∀ {vs : List V} {os : List O} {as : List Addr}, OwL (p.at a0 c0 d0) G H vs os as → O.flatL os = true → OwL p G H vs os as
  | _, _, _, .nil, _ => .nil
  | _, _, _, .cons h r d, f => by
    simp only [O.flatL, Bool.and_eq_true] at f
    exact .cons (Ow.down h f.1) (OwL.down r f.2) d
end
theorem RepR.down {G H Hs : Hp} {v : V} {r : R} (h : RepR (p.at a0 c0 d0) G H Hs v r) (f : r.flat = true) : RepR p G H Hs v r := by
  cases r with
  | fz d => exact Is.down h f
  | new o => obtain ⟨as, h1, h2, h3⟩ := h; exact ⟨as, h1.down f, h2, h3⟩
  | bor o => cases f
end
/-! ### isinstance(e, X), e the exception -/
/-- what stands in T.x stands pinned -/
def ExcIn (X : Cx) (T : CT) : Prop := ∀ a c d, T.x a c d → ∃ oe, (a, oe) ∈ X.pn ∧ Zc (.ref (T.C c)) d oe ∧ ∃ vs, oe.data = .fields vs
structure XcF (K : PySem.W.Frag) (C : Addr) : Prop where
  cl : PySem.W.isClsIn K C = true
  ga : PySem.W.findIn K (.ref C) "__getattribute__" = some (some (.builtin "BaseException.__getattribute__"))
  gt : PySem.W.findIn K (.ref C) "__getattr__" = some none
  sb : PySem.W.subIn K (.ref C) (.type "BaseException") = some true
  ha : PySem.W.findIn K (.ref C) "__class__" = some (some (.builtin "object.__class__"))
  hn : PySem.W.specialIn K (.builtin "object.__class__") "__get__" = some (some (.builtin "getset_descriptor.__get__"))
  htk : PySem.W.takesIn K (.builtin "object.__class__") = some true
  hm : PySem.W.mroIn K C (.type "object") = some true
def rIsX (K : PySem.W.Frag) (T : CT) : List V → Hp → VK → Prop := fun xs H Q => ∃ (a : Addr) (c : Nat) (k : V) (cv : Value) (b : Bool), xs = [.ref a, k] ∧ ClsV k cv ∧ (T.x a c none ∨ ∃ dd fs, T.x a c (some dd) ∧ H dd = some (.xd fs)) ∧ XcF K (T.C c) ∧ PySem.W.kitOne K (.ref (T.C c)) cv = some b ∧ Q (.bl b) H
theorem call_isX {X : Cx} {T : CT} (hx : ExcIn X T) : CallR X (.builtin "isinstance") (rIsX X.K T) := by
  intro pins s σ H xs us Q I r h
  obtain ⟨a, c, k, cv, b, rfl, hk, hd, F, e, q⟩ := h
  obtain ⟨u1, u2, rfl, r1, r2⟩ := vals2 r
  obtain rfl : u1 = Value.ref a := r1
  have e2 := hk.eq r2
  subst e2
  have go : ∀ {d : Option Addr} {od : Option Obj} {oe : Obj}, PySem.W.InstAt s.heap a oe (T.C c) od → wpAny (model X.prog X.w) X.A (call (.builtin "isinstance") [.ref a, u2]) (EP X pins σ Q) X.xe s := fun {d od oe} J =>
    PySem.W.kia_one (PySem.W.kitx_exc F.cl F.ga F.gt F.sb F.ha F.hn F.htk F.hm) I.kIn J e (fun z => nomatch z) fun tk => ⟨.bl b, H, I.tok tk, rfl, q⟩
  rcases hd with hd | ⟨dd, fs, hd, hf⟩
  · obtain ⟨oe, mp, hz, vs, hv⟩ := hx a c none hd
    obtain ⟨hget, _⟩ := I.pin (a, oe) (List.mem_append_left _ mp)
    exact go (d := none) (od := none) ⟨hget, hz.1, by unfold PySem.W.notCls; rw [hv] <;> rfl, by rw [hz.2]; exact True.intro⟩
  · obtain ⟨oe, mp, hz, vs, hv⟩ := hx a c (some dd) hd
    obtain ⟨hget, _⟩ := I.pin (a, oe) (List.mem_append_left _ mp)
    obtain ⟨mA, hns, hr⟩ := (show ObjOk X.prog X.w H s.heap dd (.xd fs) from I.hok dd _ hf)
    obtain ⟨od, ho, hl⟩ := lookIn_ns hns
    exact go (d := some dd) (od := some od) ⟨hget, hz.1, by unfold PySem.W.notCls; rw [hv] <;> rfl, by rw [hz.2]; exact ho⟩
def S.exc? : S → Option Nat
  | .fz (.exc c) => some c
  | .bor (.exc c _) => some c
  | _ => none
theorem S.exc_at {p : Pw} {G H : Hp} {v : V} {s : S} {c : Nat} (h : RepS p G H v s) (e : Ex G H) (q : s.exc? = some c) : ∃ a, v = .ref a ∧ (p.T.x a c none ∨ ∃ dd fs, p.T.x a c (some dd) ∧ H dd = some (.xd fs)) := by
  unfold S.exc? at q
  split at q
  · cases q
    have h : Is p G v _ := h
    cases h with
    | exc0 h => exact ⟨_, rfl, .inl h⟩
    | exc1 h g => exact ⟨_, rfl, .inr ⟨_, _, h, e _ _ g⟩⟩
  · cases q
    obtain ⟨as, h⟩ := h
    cases h with
    | exc h g _ _ _ _ => exact ⟨_, rfl, .inr ⟨_, _, h, g⟩⟩
  · cases q
def fIsE (l : List (Nat × Bool)) (f : Env → Res R) : Env → Res R := fun env => (f env).bind fun x => match x.st.exc? with
  | some c => (match lkB l c with | some b => .ok (.fz (.bl b)) | none => .bad)
  | none => .bad
/-- x is a class of the module (or a built-in one: IsEB); of an exception of class c, isinstance says lkB l c -/
structure IsEx (mg : Str → Option Value) (K : PySem.W.Frag) (T : Nat → Addr) (x : Str) (l : List (Nat × Bool)) : Prop where
  ex : ∃ C, mg x = some (.ref C) ∧ ∀ c b, lkB l c = some b → XcF K (T c) ∧ PySem.W.kitOne K (.ref (T c)) (.ref C) = some b
noncomputable def IsEx.C {mg : Str → Option Value} {K : PySem.W.Frag} {T : Nat → Addr} {x : Str} {l : List (Nat × Bool)} (h : IsEx mg K T x l) : Addr := h.ex.choose
structure IsEB (K : PySem.W.Frag) (T : Nat → Addr) (x : String) (l : List (Nat × Bool)) : Prop where
  ex : ∀ c b, lkB l c = some b → XcF K (T c) ∧ PySem.W.kitOne K (.ref (T c)) (.type x) = some b
section
variable {X : Cx} {T : CT} {E : L2.St → XK}
theorem ev_isE {t : TE} {f : Env → Res R} {l : List (Nat × Bool)} {k : V} {cv : Value} (hk : ClsV k cv) (hl : ∀ c b, lkB l c = some b → XcF X.K (T.C c) ∧ PySem.W.kitOne X.K (.ref (T.C c)) cv = some b) (he : EvR (pw X T) E t f) : EvR (pw X T) E (tCB (rIsX X.K T) (tCons t (tCons (tC k) tNil))) (fIsE l f) := by
  intro G0 H0 G H σ env s Q w
  refine he.to s (ok := okR (pw X T) Q) w (fun _ _ g' _ h => h.grow g') fun rx x G1 H1 g1 rep w1 => ?_
  cases q1 : rx.st.exc? with
  | none => rw [q1] at w1; exact w1.elim
  | some c =>
    rw [q1] at w1
    dsimp only at w1
    cases q2 : lkB l c with
    | none => rw [q2] at w1; exact w1.elim
    | some b =>
      rw [q2] at w1
      obtain ⟨a, rfl, ha⟩ := S.exc_at rep g1.gh q1
      obtain ⟨F, hk1⟩ := hl c b q2
      exact ⟨a, c, k, cv, b, rfl, hk, ha, F, hk1, wish_at g1.gh w1 (.bl b)⟩
theorem de_isE {e : Expr} {te : TE} {f : Env → Res R} {tx : Str} {l : List (Nat × Bool)} {p p2 pos : Pos} (hx : ExcIn X T) (hm : X.mg "isinstance" = none) (hc : IsEx X.mg X.K T.C tx l) (he : DE X T E e te f) (hgt : Gl X tx := by rfl) (hg : Gl X "isinstance" := by rfl)
    (hdb : (tx == ("__debug__" : Str)) = false := by decide)
    (hs : starEach [e, .Name tx p2] X.env = (false, eval e X.env) :: starEach [.Name tx p2] X.env := by rfl) (hs2 : starEach [.Name tx p2] X.env = (false, eval (.Name tx p2) X.env) :: starEach [] X.env := by rfl)
    (hpl : (backTo pos (starEach [.Name tx p2] X.env)).any (·.1) = false := by rfl) :
    DE X T E (.Call (.Name "isinstance" p) [e, .Name tx p2] [] pos) (tCB (rIsX X.K T) (tCons te (tCons (tC (.ref hc.C)) tNil))) (fIsE l f) := by
  obtain ⟨hmC, hk⟩ := hc.ex.choose_spec
  exact ⟨by first | exact pe_callB (call_isX hx) hg hm (by decide +kernel) (pa_cons he.pe (pa_cons (pe_glob hgt hmC rfl hdb) pa_nil hs2) hs) (by decide) (by decide) hs hpl | exact pe_callB (call_isX hx) hg hm (by decide +kernel) (pa_cons he.pe (pa_cons (pe_glob hgt hmC rfl hdb) pa_nil hs2) hs), ev_isE (.own _) hk he.ev⟩
theorem de_isEB {e : Expr} {te : TE} {f : Env → Res R} {tx : Str} {tn : String} {l : List (Nat × Bool)} {p p2 pos : Pos} (hx : ExcIn X T) (hm : X.mg "isinstance" = none) (hmt : X.mg tx = none) (hc : IsEB X.K T.C tn l) (he : DE X T E e te f) (hv : bootBuiltins tx = some (.type tn) := by decide +kernel) (hgt : Gl X tx := by rfl) (hg : Gl X "isinstance" := by rfl)
    (hn : tx ≠ "__name__" := by decide) (hdb : (tx == ("__debug__" : Str)) = false := by decide)
    (hs : starEach [e, .Name tx p2] X.env = (false, eval e X.env) :: starEach [.Name tx p2] X.env := by rfl) (hs2 : starEach [.Name tx p2] X.env = (false, eval (.Name tx p2) X.env) :: starEach [] X.env := by rfl)
    (hpl : (backTo pos (starEach [.Name tx p2] X.env)).any (·.1) = false := by rfl) :
    DE X T E (.Call (.Name "isinstance" p) [e, .Name tx p2] [] pos) (tCB (rIsX X.K T) (tCons te (tCons (tC (.ty tn)) tNil))) (fIsE l f) :=
  ⟨by first | exact pe_callB (call_isX hx) hg hm (by decide +kernel) (pa_cons he.pe (pa_cons (pe_bltn (v := .ty tn) hgt hmt hv rfl hn hdb) pa_nil hs2) hs) (by decide) (by decide) hs hpl | exact pe_callB (call_isX hx) hg hm (by decide +kernel) (pa_cons he.pe (pa_cons (pe_bltn (v := .ty tn) hgt hmt hv rfl hn hdb) pa_nil hs2) hs), ev_isE (.ty tn) hc.ex he.ev⟩
end
end DL
namespace DL
open PySem L2 PyProof.Rows
/-! ## no exception within -/
mutual
def D.cold : D → Bool
  | .tup ds => D.coldL ds
  | .lst ds => D.coldL ds
  | .dki l => D.coldI l
  | .dkw l => D.coldW l
  | .ins _ ds => D.coldL ds
  | .exc _ => false
  | _ => true
def D.coldL : List D → Bool
  | [] => true
  | d :: ds => D.cold d && D.coldL ds
def D.coldI : List (Int × D) → Bool
  | [] => true
  | (_, d) :: l => D.cold d && D.coldI l
def D.coldW : List ((Int × Bool) × D) → Bool
  | [] => true
  | (_, d) :: l => D.cold d && D.coldW l
end
mutual
def O.cold : O → Bool
  | .fz d => d.cold
  | .lst os => O.coldL os
  | .dki l => D.coldI l
  | .dkw l => D.coldW l
  | .ins _ os => O.coldL os
  | .slf _ _ os => O.coldL os
  | .exc _ _ => false
def O.coldL : List O → Bool
  | [] => true
  | o :: os => O.cold o && O.coldL os
end
def R.cold : R → Bool
  | .fz d => d.cold
  | .new o => o.cold
  | .bor _ => false
def coldE : Env → Bool
  | [] => true
  | none :: r => coldE r
  | some o :: r => o.cold && coldE r
section
variable {p : Pw} {a0 : Addr} {c0 : Nat} {d0 : Option Addr}
mutual
theorem Is.off {G : Hp} : ∀ {v : V} {d : D}, Is (p.at a0 c0 d0) G v d → d.cold = true → Is p G v d
  | _, _, .non, _ => .non
  | _, _, .bl b, _ => .bl b
  | _, _, .int i, _ => .int i
  | _, _, .str s, _ => .str s
  | _, _, .tup h r, f => .tup h (IsL.off r (by simpa [D.cold] using f))
  | _, _, .lst h r, f => .lst h (IsL.off r (by simpa [D.cold] using f))
  | _, _, .scr h, _ => .scr h
  | _, _, .dki h r, f => .dki h (IsI.off r (by simpa [D.cold] using f))
  | _, _, .dkw h a b c d r n z, f => .dkw h a b c d (IsE.off r (by simpa [D.cold] using f)) n z
  | _, _, .ins h l r, f => .ins h l (IsL.off r (by simpa [D.cold] using f))
  | _, _, .fn h, _ => .fn h
  | _, _, .exc0 .., f => by simp [D.cold] at f
  | _, _, .exc1 .., f => by simp [D.cold] at f
theorem IsL.off {G : Hp} : ∀ {vs : List V} {ds : List D}, IsL (p.at a0 c0 d0) G vs ds → D.coldL ds = true → IsL p G vs ds
  | _, _, .nil, _ => .nil
  | _, _, .cons h r, f => by
    rw [D.coldL, Bool.and_eq_true] at f
    exact .cons (Is.off h f.1) (IsL.off r f.2)
theorem IsI.off {G : Hp} : ∀ {vs : List (Key × V)} {ds : List (Int × D)}, IsI (p.at a0 c0 d0) G vs ds → D.coldI ds = true → IsI p G vs ds
  | _, _, .nil, _ => .nil
  | _, _, .cons h r, f => by
    rw [D.coldI, Bool.and_eq_true] at f
    exact .cons (Is.off h f.1) (IsI.off r f.2)
theorem IsE.off {G : Hp} : ∀ {vs : List (NestedKey × Addr × Value)} {ds : List ((Int × Bool) × D)}, IsE (p.at a0 c0 d0) G vs ds → D.coldW ds = true → IsE p G vs ds
  | _, _, .nil, _ => .nil
  | _, _, .cons h r i s, f => by
    rw [D.coldW, Bool.and_eq_true] at f
    exact .cons h r (Is.off i f.1) (IsE.off s f.2)
end
mutual
theorem Ow.off {G H : Hp} : ∀ {v : V} {o : O} {as : List Addr}, Ow (p.at a0 c0 d0) G H v o as → o.cold = true → Ow p G H v o as
  | _, _, _, .fz h, f => .fz (h.off (by simpa [O.cold] using f))
  | _, _, _, .lst h g n r, f => .lst h g n (OwL.off r (by simpa [O.cold] using f))
  | _, _, _, .dki h g r, f => .dki h g (r.off (by simpa [O.cold] using f))
  | _, _, _, .dkw h g a b c d r n z, f => .dkw h g a b c d (r.off (by simpa [O.cold] using f)) n z
  | _, _, _, .ins h g l n r, f => .ins h g l n (OwL.off r (by simpa [O.cold] using f))
  | _, _, _, .slf h g l n r, f => .slf h g l n (OwL.off r (by simpa [O.cold] using f))
  | _, _, _, .exc .., f => by simp [O.cold] at f
theorem OwL.off {G H : Hp} : ∀ {vs : List V} {os : List O} {as : List Addr}, OwL (p.at a0 c0 d0) G H vs os as → O.coldL os = true → OwL p G H vs os as
  | _, _, _, .nil, _ => .nil
  | _, _, _, .cons h r d, f => by
    rw [O.coldL, Bool.and_eq_true] at f
    exact .cons (Ow.off h f.1) (OwL.off r f.2) d
end
theorem EnvL.off {G H : Hp} : ∀ {σ : L2.St} {env : Env} {as : List Addr}, EnvL (p.at a0 c0 d0) G H σ env as → coldE env = true → EnvL p G H σ env as
  | _, _, _, .nil, _ => .nil
  | _, _, _, .skip r, f => .skip (EnvL.off r (by simpa [coldE] using f))
  | _, _, _, .cons h r d, f => by
    rw [coldE, Bool.and_eq_true] at f
    exact .cons (h.off f.1) (EnvL.off r f.2) d
theorem RepR.off {G H Hs : Hp} {v : V} {r : R} (h : RepR (p.at a0 c0 d0) G H Hs v r) (f : r.cold = true) : RepR p G H Hs v r := by
  cases r with
  | fz d => exact Is.off h f
  | new o => obtain ⟨as, h1, h2, h3⟩ := h; exact ⟨as, h1.off f, h2, h3⟩
  | bor o => cases f
end
/-- a name goes -/
theorem EnvL.gone {p : Pw} {G H : Hp} : ∀ {σ : L2.St} {env : Env} {as : List Addr} (i : Nat), EnvL p G H σ env as → ∃ as', EnvL p G H (σ.set i none) (env.set i none) as' ∧ ∀ a ∈ as', a ∈ as
  | _, _, _, i, .nil => ⟨[], .nil, fun _ m => nomatch m⟩
  | _, _, _, 0, .skip r => ⟨_, .skip r, fun _ m => m⟩
  | _, _, _, i + 1, .skip r => by
    obtain ⟨as', h1, h2⟩ := EnvL.gone i r
    exact ⟨as', .skip h1, h2⟩
  | _, _, _, 0, .cons h r d => ⟨_, .skip r, fun a m => List.mem_append_right _ m⟩
  | _, _, _, i + 1, .cons h r d => by
    obtain ⟨as', h1, h2⟩ := EnvL.gone i r
    refine ⟨_, .cons h h1 (fun a m q => d a m (h2 a q)), fun a m => ?_⟩
    rcases List.mem_append.mp m with m | m
    · exact List.mem_append_left _ m
    · exact List.mem_append_right _ (h2 a m)
theorem SOk.off {p : Pw} {a0 : Addr} {c0 : Nat} {d0 : Option Addr} {G0 H0 G H : Hp} {σ : L2.St} {env : Env} (s : SOk (p.at a0 c0 d0) G0 H0 G H σ env) (i : Nat) (f : coldE (env.set i none) = true) : SOk p G0 H0 G H (σ.set i none) (env.set i none) := by
  obtain ⟨as, h1, h2⟩ := s.sl
  obtain ⟨as', h3, h4⟩ := h1.gone i
  exact ⟨s.gr, as', h3.off f, fun a m => h2 a (h4 a m)⟩
/-! ## try: one statement; except C as n: a suite -/
def excO (c : Nat) (os : List O) : O := if os = [] then .fz (.exc c) else .exc c os
/-- what a suite leaves -/
def suiteK (i : Nat) : Fl → Fl
  | .rt r => if r.cold then .rt r else .bad
  | .nx env => if coldE (env.set i none) then .nx (env.set i none) else .bad
  | _ => .bad
/-- what a try does with its body's end -/
def catchF (i : Nat) (l : List (Nat × Bool)) (FS : Env → Fl) (env : Env) (c : Nat) (os : List O) : Fl := match lkB l c with
  | some true => suiteK i (FS (env.set i (some (excO c os))))
  | some false => .ex c os
  | none => .bad
def tryXF (i : Nat) (l : List (Nat × Bool)) (f : Env → Res R) (FS : Env → Fl) : Env → Fl := fun env => match f env with
  | .ok _ => .nx env
  | .ex c os => catchF i l FS env c os
  | .bad => .bad
/-- try: return e -/
def tryRXF (i : Nat) (l : List (Nat × Bool)) (f : Env → Res R) (FS : Env → Fl) : Env → Fl := fun env => match f env with
  | .ok (.bor _) => .bad
  | .ok r => .rt r
  | .ex c os => catchF i l FS env c os
  | .bad => .bad
/-- which of the classes the clause takes -/
structure ExM (K : PySem.W.Frag) (T : CT) (cv : Value) (l : List (Nat × Bool)) : Prop where
  ex : ∀ c b, lkB l c = some b → PySem.W.exmOne K (.ref (T.C c)) cv = some b
/-- a suite, whatever is handled -/
def tSuite (p : Pw) (l : List (Nat × Bool)) (FS : Env → Fl) : Addr → Value → Option Addr → TS := fun a cls d D σ H =>
  ∃ c G0 H0 G env, cls = .ref (p.T.C c) ∧ lkB l c = some true ∧ SOk (p.at a c d) G0 H0 G H σ env ∧ SWish (p.at a c d) G0 H0 D (fun _ _ _ => False) (FS env)
theorem exc_ow {p : Pw} {G H Hs : Hp} {cls : Value} {d : Option Addr} {c : Nat} {os : List O} {Gs : Hp} (h : IsX p G H Hs cls d c os) (hx : p.T.cold) (g : Grow Gs Hs G H) (a : Addr) :
    ∃ G' cs, Grow Gs Hs G' H ∧ Ow (p.at a c d) G' H (.ref a) (excO c os) cs ∧ ∀ z ∈ cs, Hs z = none := by
  obtain ⟨rfl, ⟨rfl, rfl⟩ | ⟨dd, vs, as, rfl, hH, hG, hs, hl, nd, ho, fr⟩⟩ := h
  · refine ⟨G, [], g, ?_, fun _ m => nomatch m⟩
    unfold excO
    rw [if_pos rfl]
    exact .fz (.exc0 ⟨rfl, rfl, rfl⟩)
  · by_cases q : os = []
    · subst q
      refine ⟨frzAt G H [dd], [], g.frz (fun x m => ?_) (fun x m => ?_), ?_, fun _ m => nomatch m⟩
      · rw [List.mem_singleton.mp m]; exact hG
      · rw [List.mem_singleton.mp m]; exact hs
      · unfold excO
        rw [if_pos rfl]
        exact .fz (.exc1 ⟨rfl, rfl, rfl⟩ ((frzAt_in (List.mem_singleton.mpr rfl)).trans hH))
    · refine ⟨G, dd :: as, g, ?_, fun x m => ?_⟩
      · unfold excO
        rw [if_neg q]
        exact .exc ⟨rfl, rfl, rfl⟩ hH hG hl nd (ho.up hx)
      · rcases List.mem_cons.mp m with z | z
        · rw [z]; exact hs
        · exact fr x z
theorem catch_ok {p : Pw} {i : Nat} {l : List (Nat × Bool)} {FS : Env → Fl} {E : XK} {cv : Value} {Dn : Ends} {G0 H0 G H : Hp} {σ : L2.St} {env : Env} {c : Nat} {os : List O} (hx : p.T.cold) (m : ExM p.K p.T cv l) (s : SOk p G0 H0 G H σ env) (w : SWish p G0 H0 Dn E (catchF i l FS env c os)) :
    WX' p ((WE (wAs p.K cv i (tSuite p l FS) (wxE E) Dn)) σ) G H c os := by
  intro cls d G2 H2 g X2
  unfold catchF at w
  cases q : lkB l c with
  | none => rw [q] at w; exact w.elim
  | some b =>
    rw [q] at w
    refine ⟨b, ?_, fun hb a na => ?_, fun hb => ?_⟩
    · rw [X2.1]; exact m.ex c b q
    · subst hb
      obtain ⟨G3, cs, g3, ho, fr⟩ := exc_ow X2 hx g a
      refine ⟨c, G0, H0, G3, _, X2.1, q, (s.up hx).set g3 ho fr i, ?_⟩
      generalize FS (env.set i (some (excO c os))) = fl at w ⊢
      cases fl with
      | nx e2 =>
        intro G4 H4 σ4 s4
        simp only [suiteK] at w
        by_cases hc : coldE (e2.set i none) = true
        · rw [if_pos hc] at w
          exact w G4 H4 _ (s4.off i hc)
        · rw [if_neg hc] at w; exact w.elim
      | rt r =>
        intro v G4 H4 g4 rep
        simp only [suiteK] at w
        by_cases hc : r.cold = true
        · rw [if_pos hc] at w
          exact w v G4 H4 g4 (rep.off hc)
        · rw [if_neg hc] at w; exact w.elim
      | bk e2 => exact w.elim
      | ct e2 => exact w.elim
      | ex c2 z => exact w.elim
      | bad => exact w.elim
    · subst hb
      exact w cls d G2 H2 (s.gr.trans g) (X2.back s.gr.h)
section
variable {X : Cx} {T : CT} {E : XK}
theorem tSuite_ps {a : Addr} {oe : Obj} {cls : Value} {d : Option Addr} {pn : List (Addr × Obj)} {l : List (Nat × Bool)} {FS : Env → Fl} {sts : List Stmt}
    (hS : ∀ c, cls = .ref (T.C c) → lkB l c = some true → ∃ t, DSs (X.suite a ((a, oe) :: pn)) (T.at a c d) (fun _ _ _ => False) sts t FS) : PSs (X.suite a ((a, oe) :: pn)) sts (tSuite (pw X T) l FS a cls d) := by
  refine ⟨fun pins s σ H D I h => ?_⟩
  obtain ⟨c, G0, H0, G, env, e, q, so, w⟩ := h
  obtain ⟨t, hd⟩ := hS c e q
  exact hd.ps.run pins s σ H D I (hd.ev G0 H0 G H σ env so D w)
theorem takes0 {X : Cx} : L2N.Takes X (wxE fun _ _ _ => False) := fun u s' ⟨_, _, _, _, _, _, _, _, _, _, _, _, _, _, _, _, z⟩ => z.elim
/-- try: e; except C as n: .. -/
theorem ds_try {x n : Str} {cv : Value} {i : Nat} {l : List (Nat × Bool)} {e : Expr} {suite : List Stmt} {b₀ : Stmt} {f : Env → Res R} {FS : Env → Fl} {np pos pos' pos2 : Pos} (hx : T.cold) (m : ExM X.K T cv l) (hN : X.N.Nodup) (hc : Names X x cv) (tk : L2N.Takes X (wxE E))
    (hb : ∀ (W : WX) (pn : List (Addr × Obj)) (xe : Value → Shared → Prop), L2N.Takes (X.tr pn xe) W → ∃ t, DE (X.tr pn xe) T (WE W) e t f)
    (hS : ∀ (a : Addr) (oe : Obj) (c : Nat) (d : Option Addr) (pn : List (Addr × Obj)), L2N.Zn (.ref (T.C c)) d oe → (∃ vs, oe.data = .fields vs) → lkB l c = some true → ∃ t, DSs (X.suite a ((a, oe) :: pn)) (T.at a c d) (fun _ _ _ => False) (b₀ :: suite) t FS)
    (hs : X.stack = X.env :: X.outer := by rfl) (hf : X.env.frame = some X.env.locals := by rfl) (hi : X.N[i]? = some n := by rfl) (hln : X.env.kindOf n = some .local := by rfl) (hsw : swapsWith e none pos2.line X.env = pure false := by rfl) :
    DS X T E (.Try [.Expr e pos2] [.ExceptHandler (some (.Name x np)) (some n) (b₀ :: suite) pos'] [] [] pos) (fun D σ H => tDrop (tOf (pw X T) (WE (wAs X.K cv i (tSuite (pw X T) l FS) (wxE E) D)) f) D σ H) (tryXF i l f FS) := by
  refine ⟨L2N.ps_try_as (ts := tSuite (pw X T) l FS) (tb := fun W => tDrop (tOf (pw X T) (WE W) f)) (Wout := wxE E) hs hf hN hi hln hc tk (fun W pn xe tW _ => pss_one (ps_expr (X := X.tr pn xe) (tOf_pe (X := X.tr pn xe) (hb W pn xe tW)) hsw)) (fun a oe cls d pn hz hd => tSuite_ps fun c ec q => hS a oe c d pn (ec ▸ hz) hd q), fun G0 H0 G H σ env s Dn w => ?_⟩
  refine ⟨G0, H0, G, env, s, ?_⟩
  unfold tryXF at w
  cases q : f env with
  | ok r => rw [q] at w; exact fun v G1 H1 g rep => w G1 H1 σ (s.grow g)
  | bad => rw [q] at w; exact w
  | ex c os => rw [q] at w; exact catch_ok hx m s w
/-- try: return e; except C as n: .. -/
theorem ds_tryR {x n : Str} {cv : Value} {i : Nat} {l : List (Nat × Bool)} {e : Expr} {suite : List Stmt} {b₀ : Stmt} {f : Env → Res R} {FS : Env → Fl} {np pos pos' pos2 : Pos} (hx : T.cold) (m : ExM X.K T cv l) (hN : X.N.Nodup) (hc : Names X x cv) (tk : L2N.Takes X (wxE E))
    (hb : ∀ (W : WX) (pn : List (Addr × Obj)) (xe : Value → Shared → Prop), L2N.Takes (X.tr pn xe) W → ∃ t, DE (X.tr pn xe) T (WE W) e t f)
    (hS : ∀ (a : Addr) (oe : Obj) (c : Nat) (d : Option Addr) (pn : List (Addr × Obj)), L2N.Zn (.ref (T.C c)) d oe → (∃ vs, oe.data = .fields vs) → lkB l c = some true → ∃ t, DSs (X.suite a ((a, oe) :: pn)) (T.at a c d) (fun _ _ _ => False) (b₀ :: suite) t FS)
    (hs : X.stack = X.env :: X.outer := by rfl) (hf : X.env.frame = some X.env.locals := by rfl) (hi : X.N[i]? = some n := by rfl) (hln : X.env.kindOf n = some .local := by rfl) :
    DS X T E (.Try [.Return (some e) pos2] [.ExceptHandler (some (.Name x np)) (some n) (b₀ :: suite) pos'] [] [] pos) (fun D σ H => tRet (tOf (pw X T) (WE (wAs X.K cv i (tSuite (pw X T) l FS) (wxE E) D)) f) D σ H) (tryRXF i l f FS) := by
  refine ⟨L2N.ps_try_as (ts := tSuite (pw X T) l FS) (tb := fun W => tRet (tOf (pw X T) (WE W) f)) (Wout := wxE E) hs hf hN hi hln hc tk (fun W pn xe tW _ => pss_one (ps_ret (X := X.tr pn xe) (tOf_pe (X := X.tr pn xe) (hb W pn xe tW)))) (fun a oe cls d pn hz hd => tSuite_ps fun c ec q => hS a oe c d pn (ec ▸ hz) hd q), fun G0 H0 G H σ env s Dn w => ?_⟩
  refine ⟨G0, H0, G, env, s, ?_⟩
  unfold tryRXF at w
  split at w
  · exact w.elim
  · rename_i r hr q
    rw [q]
    cases r with
    | fz d => exact fun v G1 H1 g rep => w v G1 H1 (s.gr.trans g) rep
    | new o => exact fun v G1 H1 g rep => w v G1 H1 (s.gr.trans g) (rep.back s.gr.h)
    | bor o => exact (hr o rfl).elim
  · rename_i c os q
    rw [q]
    exact catch_ok hx m s w
  · exact w.elim
end
end DL
namespace DL
open PySem L2 PyProof.Rows
/-! ## calls within an except suite: what is handled is p -/
/-- p stands for an exception of class c, its dict d -/
structure PinX (T : CT) (p : Addr × Obj) (c : Nat) (d : Option Addr) : Prop where
  z : L2N.Zn (.ref (T.C c)) d p.2
  f : ∃ vs : Array Value, p.2.data = .fields vs
theorem PinX.in {X : Cx} {T : CT} {p : Addr × Obj} {c : Nat} {d : Option Addr} (h : PinX T p c d) (m : p ∈ X.pn) : ExcIn X (T.at p.1 c d) := by
  rintro a c' d' ⟨rfl, rfl, rfl⟩
  exact ⟨p.2, m, h.z.zc, h.f⟩
structure FnAt (P : Program) (w : World) (K : PySem.W.Frag) (mg : Str → Option Value) (base : Heap) (k : Nat) (f : Addr) (fd : FuncData) (ps : List Str) (p : Addr × Obj) (sp : Sp) : Prop where
  cnt : ∀ {xs : List V} {H Q E}, sp xs H Q E → xs.length = ps.length
  go : ∀ {A : Around} {outer : List PySem.Env} {s : Shared} {H : Hp} {given : Args} {us : List Value} {xs : List V} {Q : VK} {E : XK}, L2H.RoomH k A → L2H.Hot1 A p → L2H.PinOk outer H s p → Env0 P w K mg base A outer s H → BindsTo s fd given (ps.zip us) →
    Vals xs us → sp xs H Q E → codeAny (model P w) A (.call (.ref f) given) (CR CX0 outer P w H s Q E) s
/-- the context of such a def's body -/
abbrev cxP (P : Program) (w : World) (K : PySem.W.Frag) (mg : Str → Option Value) (base : Heap) (N : List Str) (qual : Str) (scope : Scope) (f : Addr) (cd : Value) (A : Around) (outer : List PySem.Env) (s : Shared) (H : Hp) (p : Addr × Obj) : Cx :=
  L2H.cxH CX0 P w K mg base N qual scope f cd A outer s H (fun _ _ _ => False) p
section
variable {P : Program} {w : World} {K : PySem.W.Frag} {T : CT} {mg : Str → Option Value} {base : Heap}
theorem run_at {f : Addr} {name qual : Str} {params : Arguments} {body : List Stmt} {scope : Scope} {dV kV doc pm cdv ct oc : Value} {an od : Option Addr} {osl : Array (Option Value)} {N ps : List Str} {k : Nat} {p : Addr × Obj}
    {A : Around} {outer : List PySem.Env} {s : Shared} {H : Hp} {given : Args} {us : List Value} {xs : List V} {Q : VK} {E : XK} {t : TS}
    (at_f : K.lookup f = some ⟨oc, od, .func (PySem.W.fnOf name qual params body scope dV kV doc pm an cdv ct), osl⟩) (code_f : PySem.W.codeIn K cdv qual = true) (S : FnScope N ps scope)
    (hr : L2H.RoomH (k + 1) A) (pinned : L2H.PinOk outer H s p) (e0 : Env0 P w K mg base A outer s H) (bound : BindsTo s (PySem.W.fnOf name qual params body scope dV kV doc pm an cdv ct) given (ps.zip us)) (rel : Vals xs us) (hl : xs.length = ps.length)
    (ht : PSs (L2H.cxH CX0 P w K mg base N qual scope f cdv A outer s H E p) body t) (hq : t { nx := fun _ H' => Q .non H', rt := Q } (L2.start N xs) H) :
    codeAny (model P w) A (.call (.ref f) given) (CR CX0 outer P w H s Q E) s := by
  have inS : K.In s.heap := e0.mod.kin.keeps fun b o e => (e0.bs b o e).1
  have noLim : s.heap.NoLimit := e0.mod.nolimit.keeps fun b o e => (e0.bs b o e).1
  refine codeAny_call_function hr.depth (inS _ _ at_f) rfl S.co S.gen rfl (PySem.W.codeRec_of inS code_f) (bound _ _ _ _ ?_)
  refine wpAny_newFunctionEnv_cells S.kind ?_ ?_
  · rintro ⟨n, v⟩ hy
    cases S.par n (List.of_mem_zip hy).1 with
    | inl q => exact .inl q
    | inr q => exact .inr ⟨q, PySem.W.cellsFrom_some _ _ _ (.inl q)⟩
  · rintro env rfl s1 x
    refine ⟨noLim.keeps x.toInCall.keep, codeAny_func ?_⟩
    have I1 := L2H.inv_startH (CX := CX0) (E := E) S pinned e0 hl rel x
    refine thn (ht.run [] s1 (L2.start N xs) H _ I1 hq) ?_
    intro fl s2 end_
    cases fl with
    | next =>
      obtain ⟨σ2, H2, J, done⟩ := end_
      exact ⟨.non, H2, J.os, J.bare, J.base, J.hok, rfl, done⟩
    | ret u =>
      obtain ⟨v2, σ2, H2, J, same, done⟩ := end_
      exact ⟨v2, H2, J.os, J.bare, J.base, J.hok, same, done⟩
    | brk => exact end_.elim fun _ z => z.elim fun _ z => z.2.elim
    | cont => exact end_.elim fun _ z => z.elim fun _ z => z.2.elim
/-- a def that is called there, whatever is handled -/
structure FnP (P : Program) (w : World) (K : PySem.W.Frag) (T : CT) (mg : Str → Option Value) (base : Heap) (x : Str) (k : Nat) (F : List D → Res R) : Prop where
  ex : ∃ f fd ps, mg x = some (.ref f) ∧ PySem.W.keepIn K (.ref f) = true ∧ Binds K fd ps [] ∧ ∀ p c d, PinX T p c d → FnAt P w K mg base k f fd ps p (spD ⟨K, T.at p.1 c d, P, w⟩ F)
theorem fn_at {x qual : Str} {st : Stmt} {f : Addr} {fd : FuncData} {N ps : List Str} {k n np : Nat} {Fb : Env → Fl} (F : Fun K x qual st f fd) (S : FnScope N ps (defScope st)) (hn : N.length = n) (hnp : ps.length = np)
    (hbody : ∀ (cdv : Value) (A : Around) (outer : List PySem.Env) (s : Shared) (H : Hp) (E : XK) (p : Addr × Obj) (c : Nat) (d : Option Addr), PinX T p c d → L2H.Hot1 A p → L2H.RoomH k (A.deeper (PyProof.Rows.envOfC qual (defScope st) s.heap.objs.size f cdv)) →
      ∃ t, DSs (L2H.cxH CX0 P w K mg base N qual (defScope st) f cdv A outer s H E p) (T.at p.1 c d) (fun _ _ _ => False) (defBody st) t Fb) :
    ∀ p c d, PinX T p c d → FnAt P w K mg base (k + 1) f fd ps p (spD ⟨K, T.at p.1 c d, P, w⟩ (defF0 n np Fb)) := by
  subst hn hnp
  intro p c d px
  obtain ⟨oc, od, kV, doc, pm, an, cdv, ct, osl, rfl, lk, hcd⟩ := F.ex
  have long : ∀ {ds : List D}, defF0 N.length ps.length Fb ds ≠ .bad → ds.length = ps.length := fun {ds} h => by
    unfold defF0 defF at h
    by_cases q : ds.length = ps.length
    · exact q
    · rw [if_neg q] at h; exact absurd rfl h
  have nb : ∀ {ds : List D} {G H : Hp} {Q : VK} {E : XK}, Wish ⟨K, T.at p.1 c d, P, w⟩ Q E G H (defF0 N.length ps.length Fb ds) → ds.length = ps.length := fun {ds G H Q E} wi => long fun z => by rw [z] at wi; exact wi
  refine ⟨fun {xs H Q E} h => ?_, fun {A outer s H given us xs Q E} hr hot pinned e0 bound rel h => ?_⟩
  · obtain ⟨G, ds, e, hl, wi⟩ := h
    exact hl.length.trans (nb wi)
  · obtain ⟨G, ds, e, hl, wi⟩ := h
    have q := nb wi
    obtain ⟨t, hd⟩ := hbody cdv A outer s H E p c d px hot (hr.deeper _)
    refine run_at lk hcd S hr pinned e0 bound rel (hl.length.trans q) hd.ps ?_
    unfold defF0 defF at wi
    rw [if_pos q] at wi
    refine hd.ev G H G H _ _ (sOk_start e hl N) _ ?_
    generalize Fb (startE N.length ds) = fl at wi
    cases fl with
    | nx env => exact wish_run (fl := .nx env) wi
    | rt r => exact wish_run (fl := .rt r) wi
    | bk env => exact wi.elim
    | ct env => exact wi.elim
    | ex c z => exact wi.elim
    | bad => exact wi.elim
end
section
variable {X : Cx} {T : CT}
theorem run_fnAt {k : Nat} {f : Addr} {fd : FuncData} {ps : List Str} {p : Addr × Obj} {sp : Sp} {pins : List (Addr × Obj)} {σ : L2.St} {H : Hp} {s : Shared} {Q : VK} {E : XK} {us : List Value} {xs : List V} (F : FnAt X.prog X.w X.K X.mg X.base k f fd ps p sp)
    (hr : L2H.RoomH k X.A) (hot : L2H.Hot1 X.A p) (m : p ∈ X.pn) (hb : Binds X.K fd ps []) (I : L2.Inv X pins σ H s) (rel : Vals xs us) (h : sp xs H Q E) : wpAny (model X.prog X.w) X.A (call (.ref f) us) (EP X pins σ Q) X.xe s := by
  have many : us.length = ps.length := rel.length.symm.trans (F.cnt h)
  have bound := hb s us I.kIn (by rw [List.append_nil]; exact many)
  rw [List.append_nil] at bound
  obtain ⟨g1, g2, g3, g4, g5⟩ := I.pin p (List.mem_append_left _ m)
  have pinned : L2H.PinOk X.stack H s p := ⟨g1, g2, fun z => (List.mem_cons.mp (I.stkSub p.1 z)).elim g3 g4, g5⟩
  refine wpAny_call (codeAny_mono (F.go (given := ⟨us, []⟩) hr hot pinned I.env0 bound rel h) ?_)
  rintro (er | fl) s2 done
  · exact done.elim
  · cases fl with
    | ret u => exact I.after done
    | next => exact done.elim
    | brk => exact done.elim
    | cont => exact done.elim
variable {E : L2.St → XK}
/-- f(e, ..) within an except suite -/
theorem de_callP {p : Addr × Obj} {c : Nat} {d : Option Addr} {e : Expr} {es : List Expr} {t : TA} {fr : Env → Res (List S)} {x : Str} {q pos : Pos} {k : Nat} {F : List D → Res R} (h : FnP X.prog X.w X.K T X.mg X.base x k F) (px : PinX T p c d) (hot : L2H.Hot1 X.A p) (m : p ∈ X.pn) (hr : L2H.RoomH k X.A)
    (ha : DA X (T.at p.1 c d) E (e :: es) t fr) (hg : Gl X x := by rfl) (hdb : (x == ("__debug__" : Str)) = false := by decide) (he : starEach (e :: es) X.env = (false, eval e X.env) :: starEach es X.env := by rfl) (hpl : (backTo pos (starEach es X.env)).any (·.1) = false := by rfl) :
    DE X (T.at p.1 c d) E (.Call (.Name x q) (e :: es) [] pos) (tCallS (spD (pw X (T.at p.1 c d)) F) E t) (fCall F fr) := by
  obtain ⟨f, fd, ps, hm, hk, hb, F'⟩ := h.ex
  refine ⟨⟨fun pins s σ H Q I w => ?_⟩, fun G0 H0 G H σ env s Q w => ?_⟩
  · refine wpAny_Call_Name_kw (ld_glob I hg hm ?_ hdb)
    refine PySem.W.callWith_K (h₀ := X.base) I.ok.mod.kin hk (thn (ha.pa.run pos pins s σ H _ I w) fun us s1 got => ?_) he hpl
    obtain ⟨xs, H1, I1, rel, want⟩ := got
    exact ⟨I1.kIn, run_fnAt (F' p c d px) hr hot m hb I1 rel want⟩
  · refine ha.ev.to s (ok := okR (pw X (T.at p.1 c d)) Q) w (fun _ _ g' _ h => h.grow g') fun ss vs G1 H1 g1 rep w1 => ?_
    exact callS_use (p := pw X (T.at p.1 c d)) g1.gh rep w1
/-! ### comparisons there -/
theorem cv_eqH {k : Nat} (hr : L2H.RoomH k X.A) : CmpV X T .Eq (rEqA X.K) (gEq id) := ⟨op_eq.or (op_eqD (by have := hr.un; omega)), opv_eq⟩
theorem cv_neH {k : Nat} (hr : L2H.RoomH k X.A) : CmpV X T .NotEq (rNeA X.K) (gEq not) := ⟨op_ne.or (op_neD (by have := hr.un; omega)), opv_ne⟩
theorem cv_inH {k : Nat} (hr : L2H.RoomH k X.A) : CmpV X T .In (rInA X.K) (gIn id) := ⟨op_in_sign.or (op_inD (by have := hr.un; omega)), opv_in⟩
theorem cv_notInH {k : Nat} (hr : L2H.RoomH k X.A) : CmpV X T .NotIn (rNotInA X.K) (gIn not) := ⟨op_notIn_sign.or (op_notInD (by have := hr.un; omega)), opv_notIn⟩
end
end DL
namespace DL
open PySem L2 PyProof.Rows
/-! ## list.count, list.index of truths -/
def isB (k : Bool) (v : Value) : Bool := match v with
  | .bool b => b == k
  | _ => false
theorem isB_count {k : Bool} : ∀ {bs : List Bool} {us : List Value}, Vals (bs.map V.bl) us → us.countP (isB k) = bs.count k
  | [], us, r => by cases r; rfl
  | b :: bs, us, r => by
    cases r with
    | cons r0 r1 =>
      cases r0
      rw [List.countP_cons, List.count_cons, isB_count r1] <;> rfl
theorem isB_at {k : Bool} {A : Around} {s : Shared} : ∀ {bs : List Bool} {us : List Value}, Vals (bs.map V.bl) us → ∀ y ∈ us, SeqAt.EqAt A s y (.bool k) (isB k y)
  | [], us, r => by cases r; exact fun y hy => nomatch hy
  | b :: bs, us, r => by
    cases r with
    | cons r0 r1 =>
      intro y hy
      rcases List.mem_cons.mp hy with e | e
      · subst e
        cases r0
        exact eqAt_V (y := .bl b) (x := .bl k) rfl rfl rfl rfl
      · exact isB_at r1 y e
def rCntB (K : PySem.W.Frag) : V → List V → Hp → VK → Prop := fun x xs H Q => ∃ (p : Addr) (bs : List Bool) (k : Bool), x = .ref p ∧ xs = [.bl k] ∧ SqL K H p (bs.map V.bl) ∧ Q (.int (bs.count k : Nat)) H
theorem mt_bcount {X : Cx} : MtR X "list.count" (rCntB X.K) := by
  intro pins s σ H x xs v us Q I rx rxs h
  obtain ⟨p, bs, k, rfl, rfl, at_p, q⟩ := h
  cases rx
  obtain ⟨u, rfl, ru⟩ := rxs.one
  cases ru
  obtain ⟨its, rv, ⟨⟨cls, dd, data, sl⟩, n, ho, hc, hdn, hd⟩, few⟩ := I.list at_p
  cases hc
  cases hd
  refine call_meets PySem.F.slot_list_count ⟨_, ho, rfl⟩ PySem.F.entry_list_count (PySem.F.args_list_count_2 _ _) (SeqAt.list_countAt p its.toArray n dd sl (.bool k) (isB k)) ?_
  refine ⟨ho, fun y hy => isB_at rv y (by simpa using hy), ?_⟩
  have same : its.toArray.toList.countP (isB k) = bs.count k := isB_count rv
  rw [same]
  exact ⟨.int (bs.count k : Nat), H, I.tok _, ⟨s.toks, rfl⟩, q⟩
/-- a truth asked of a list of truths: o.m(e) -/
def fLB (g : List Bool → Bool → Option Int) (fo fe : Env → Res R) : Env → Res R := fun env => (fo env).bind fun x => match (x.st.items).bind bools with
  | none => .bad
  | some bs => (fe env).bind fun y => match y.st.bl? with
    | none => .bad
    | some k => (match g bs k with | some i => .ok (.fz (.int i)) | none => .bad)
def gCntB (bs : List Bool) (k : Bool) : Option Int := some (bs.count k : Nat)
def gIdxB (bs : List Bool) (k : Bool) : Option Int := if k ∈ bs then some (bs.idxOf k : Nat) else none
section
variable {X : Cx} {T : CT} {E : L2.St → XK}
theorem ev_LB {to te : TE} {fo fe : Env → Res R} {r : V → List V → Hp → VK → Prop} {g : List Bool → Bool → Option Int} (hr : ∀ (a : Addr) (bs : List Bool) (k : Bool) (i : Int) (H : Hp) (Q : VK), SqL X.K H a (bs.map V.bl) → g bs k = some i → Q (.int i) H → r (.ref a) [.bl k] H Q)
    (ho : EvR (pw X T) E to fo) (he : EvR (pw X T) E te fe) : EvR (pw X T) E (tBM X.K "list" r to (tCons te tNil)) (fLB g fo fe) := by
  intro G0 H0 G H σ env s Q w
  refine ho.to s (ok := okR (pw X T) Q) w (fun _ _ g' _ h => h.grow g') fun rx x G1 H1 g1 rep1 w1 => ?_
  cases q1 : rx.st.items with
  | none => rw [q1] at w1; exact w1.elim
  | some ds =>
    rw [q1] at w1
    dsimp only [Option.bind] at w1
    cases q2 : bools ds with
    | none => rw [q2] at w1; exact w1.elim
    | some bs =>
      rw [q2] at w1
      dsimp only at w1
      obtain ⟨a, vs, rfl, h1, i1⟩ := rep1.items g1.gh q1
      have ev := bools_is i1 q2
      subst ev
      refine ⟨.inl ⟨rfl, _, SqL.of h1⟩, ?_⟩
      refine he.to (s.grow g1) (ok := okR (pw X T) Q) w1 (fun _ _ g' _ h => h.grow g') fun ry y G2 H2 g2 rep2 w2 => ?_
      cases q3 : ry.st.bl? with
      | none => rw [q3] at w2; exact w2.elim
      | some k =>
        rw [q3] at w2
        dsimp only at w2
        have ey := rep2.bl q3
        subst ey
        cases q4 : g bs k with
        | none => rw [q4] at w2; exact w2.elim
        | some i =>
          rw [q4] at w2
          obtain ⟨a', vs', ea, h2, i2⟩ := (rep1.grow g2).items g2.gh q1
          cases ea
          have ev2 := bools_is i2 q2
          subst ev2
          exact hr a bs k i H2 Q (SqL.of h2) q4 (wish_at g2.gh w2 (.int i))
variable {o e : Expr} {to te : TE} {fo fe : Env → Res R} {apos cpos : Pos}
theorem de_count (ho : DE X T E o to fo) (he : DE X T E e te fe) (hbase : attributeBase o "count" X.env (eval o X.env) = eval o X.env := by rfl) (hs : starEach [e] X.env = (false, eval e X.env) :: starEach [] X.env := by rfl)
    (hfew : ((backTo cpos (starEach [e] X.env)).all (fun x => !x.1) && (backToKw cpos (keywordEach [] X.env)).all (fun x => x.1.isSome) && decide ([e].length + ([] : List Keyword).length + (if ([] : List Keyword).isEmpty then 0 else 1) < 30)) = true := by rfl)
    (hline : (apos.endLine == cpos.line) = true := by rfl) (hpl : (backTo cpos (starEach [] X.env)).any (·.1) = false := by rfl) :
    DE X T E (.Call (.Attribute o "count" apos) [e] [] cpos) (tBM X.K "list" (rCntB X.K) to (tCons te tNil)) (fLB gCntB fo fe) :=
  ⟨pe_bm PySem.F.plainAttrs_list PySem.F.slot_list_count PySem.F.type_list_count mt_bcount ho.pe (pa_cons he.pe pa_nil hs) hbase hfew hline hs hpl, ev_LB (fun a bs k i H Q h1 h2 q => by
    cases h2
    exact ⟨a, bs, k, rfl, rfl, h1, q⟩) ho.ev he.ev⟩
theorem de_index (ho : DE X T E o to fo) (he : DE X T E e te fe) (hbase : attributeBase o "index" X.env (eval o X.env) = eval o X.env := by rfl) (hs : starEach [e] X.env = (false, eval e X.env) :: starEach [] X.env := by rfl)
    (hfew : ((backTo cpos (starEach [e] X.env)).all (fun x => !x.1) && (backToKw cpos (keywordEach [] X.env)).all (fun x => x.1.isSome) && decide ([e].length + ([] : List Keyword).length + (if ([] : List Keyword).isEmpty then 0 else 1) < 30)) = true := by rfl)
    (hline : (apos.endLine == cpos.line) = true := by rfl) (hpl : (backTo cpos (starEach [] X.env)).any (·.1) = false := by rfl) :
    DE X T E (.Call (.Attribute o "index" apos) [e] [] cpos) (tBM X.K "list" (rIndex X.K) to (tCons te tNil)) (fLB gIdxB fo fe) :=
  ⟨pe_bm PySem.F.plainAttrs_list PySem.F.slot_list_index PySem.F.type_list_index mt_index ho.pe (pa_cons he.pe pa_nil hs) hbase hfew hline hs hpl, ev_LB (fun a bs k i H Q h1 h2 q => by
    unfold gIdxB at h2
    by_cases m : k ∈ bs
    · rw [if_pos m] at h2
      cases h2
      have lt : bs.idxOf k < bs.length := List.idxOf_lt_length_iff.mpr m
      refine ⟨a, _, .bl k, bs.idxOf k, .bl k, rfl, rfl, h1, rfl, ?_, ?_, ?_, ?_, q⟩
      · simp [flatV]
      · rw [List.getElem?_map, List.getElem?_eq_getElem lt, List.getElem_idxOf lt]; rfl
      · cases k <;> rfl
      · intro j z hj hz
        rw [List.getElem?_map] at hz
        obtain ⟨b, hb, rfl⟩ := Option.map_eq_some_iff.mp hz
        obtain ⟨hl, hb⟩ := List.getElem?_eq_some_iff.mp hb
        have ne : b ≠ k := fun z => by
          have := List.not_of_lt_findIdx (p := (· == k)) (xs := bs) (i := j) hj
          rw [hb, z] at this
          simp at this
        show (b == k) = false
        simp [ne]
    · rw [if_neg m] at h2; cases h2) ho.ev he.ev⟩
/-! ## what claims less -/
theorem EvR.weak {p : Pw} {t : TE} {f f' : Env → Res R} (h : EvR p E t f) (q : ∀ env, f' env = .bad ∨ f' env = f env) : EvR p E t f' := by
  intro G0 H0 G H σ env s Q w
  rcases q env with z | z
  · rw [z] at w; exact w.elim
  · rw [z] at w; exact h G0 H0 G H σ env s Q w
theorem DE.weak {e : Expr} {t : TE} {f f' : Env → Res R} (h : DE X T E e t f) (q : ∀ env, f' env = .bad ∨ f' env = f env) : DE X T E e t f' := ⟨h.pe, h.ev.weak q⟩
end
section
variable {P : Program} {w : World} {K : PySem.W.Frag} {T : CT} {mg : Str → Option Value} {base : Heap}
theorem noEx_or {α : Type} (r : Res α) : noEx r = .bad ∨ noEx r = r := by cases r <;> simp [noEx]
theorem spD_less {p : Pw} {F F' : List D → Res R} (q : ∀ ds, F' ds = .bad ∨ F' ds = F ds) {vs : List V} {H : Hp} {Q : VK} {E : XK} (h : spD p F' vs H Q E) : spD p F vs H Q E := by
  obtain ⟨G, ds, e, i, wi⟩ := h
  rcases q ds with z | z
  · rw [z] at wi; exact wi.elim
  · rw [z] at wi; exact ⟨G, ds, e, i, wi⟩
theorem fn_defX0 {x qual : Str} {st : Stmt} {f : Addr} {fd : FuncData} {N ps : List Str} {k n np : Nat} {Fb : Env → Fl} (F : Fun K x qual st f fd) (S : FnScope N ps (defScope st)) (hn : N.length = n) (hnp : ps.length = np)
    (hbody : ∀ (cdv : Value) (A : Around) (outer : List PySem.Env) (s : Shared) (H : Hp) (E : XK), Room k (A.deeper (PyProof.Rows.envOfC qual (defScope st) s.heap.objs.size f cdv)) →
      L2N.Takes (cxOf (L2N.CX P w) P w K mg base N qual (defScope st) f cdv A outer s H E) (wxE E) →
      ∃ t, DSs (cxOf (L2N.CX P w) P w K mg base N qual (defScope st) f cdv A outer s H E) T E (defBody st) t Fb) : FnOk P w K mg base (L2N.CX P w) (k + 1) f fd ps (spD ⟨K, T, P, w⟩ (defF0 n np Fb)) :=
  (fn_defX F S hn hnp hbody).imp fun vs H Q E h => spD_less (fun ds => noEx_or _) h
end
section
variable {X : Cx} {T : CT} {E : XK}
theorem mkR_less {c : Nat} {F : List D → Res (List O)} (ds : List D) : mkR c F ds = .bad ∨ mkR c F ds = mkRX c F ds := by
  unfold mkR mkRX
  cases F ds with
  | ok os => exact .inr rfl
  | ex c' z => exact .inl rfl
  | bad => exact .inl rfl
theorem callS_less {F F' : List D → Res R} (q : ∀ ds, F' ds = .bad ∨ F' ds = F ds) (ss : List S) : callS F' ss = .bad ∨ callS F' ss = callS F ss := by
  unfold callS
  cases fzAll ss with
  | some ds => exact q ds
  | none =>
    cases datAll ss with
    | none => exact .inl rfl
    | some ds =>
      dsimp only
      rcases q ds with z | z
      · rw [z]; exact .inl rfl
      · rw [z]; exact .inr rfl
theorem fCall_less {F F' : List D → Res R} {fr : Env → Res (List S)} (q : ∀ ds, F' ds = .bad ∨ F' ds = F ds) (env : Env) : fCall F' fr env = .bad ∨ fCall F' fr env = fCall F fr env := by
  unfold fCall
  cases fr env with
  | ok ss => exact callS_less q ss
  | ex c z => exact .inr rfl
  | bad => exact .inl rfl
theorem de_makeX0 {e : Expr} {es : List Expr} {t : TA} {fr : Env → Res (List S)} {x : Str} {p pos : Pos} {c k : Nat} {F : List D → Res (List O)} (h : ClD X.prog X.w X.K T X.mg X.base (L2N.CX X.prog X.w) x c k F) (hr : Room (k + 1) X.A) (tk : L2N.Takes X (wxE E)) (ha : DA X T (kx E) (e :: es) t fr) (hg : Gl X x := by rfl)
    (hd : (x == ("__debug__" : Str)) = false := by decide) (he : starEach (e :: es) X.env = (false, eval e X.env) :: starEach es X.env := by rfl) (hpl : (backTo pos (starEach es X.env)).any (·.1) = false := by rfl) :
    DE X T (kx E) (.Call (.Name x p) (e :: es) [] pos) (tMake (T.C c) (spI (pw X T) c F) [] E t) (fCall (mkR c F) fr) := (de_makeX h hr tk ha hg hd he hpl).weak (fCall_less mkR_less)
/-- o.m() -/
theorem de_methX0 {o : Expr} {to : TE} {fo : Env → Res R} {m : Str} {apos pos : Pos} {c k : Nat} {F : List D → Res R} {pl : Sem Bool} (h : MtD X.prog X.w X.K T X.mg X.base (L2N.CX X.prog X.w) c m k F) (hr : Room k X.A) (tk : L2N.Takes X (wxE E)) (ho : DE X T (kx E) o to fo)
    (ht : eval (.Call (.Attribute o m apos) [] [] pos) X.env = (do
      let ov ← eval o X.env
      standAt apos.atName
      let (f, first) ← holding [ov] (getMethod ov m pl)
      callWith pos f first (backTo pos (starEach [] X.env)) (backToKw pos (keywordEach [] X.env))) := by rfl) :
    DE X T (kx E) (.Call (.Attribute o m apos) [] [] pos) (tMeth (T.C c) m (spD (pw X T) F) [] E to tNil) (fMeth c F fo (fun _ => .ok [])) := by
  obtain ⟨f, fd, ps, F', hm, hb⟩ := h.ex
  refine ⟨pe_meth0 ho.pe h.cl hm F' hr hb .nil (L2N.passes_call tk fun _ _ _ _ z => z) ht, fun G0 H0 G H σ env s Q w => ?_⟩
  refine ho.ev.to s (ok := okR (pw X T) Q) w (fun _ _ g' _ h => h.grow g') fun rx x G1 H1 g1 rep w1 => ?_
  by_cases hc : rx.st.isC c = true
  · rw [if_pos hc] at w1
    obtain ⟨a, dx, vs, rfl, hx⟩ := S.isC_ins rep g1.gh hc
    exact ⟨a, dx, _, rfl, hx, zip_no h.no, callS_use (p := pw X T) g1.gh (.cons rep .nil) w1⟩
  · rw [if_neg hc] at w1; exact w1.elim
end
end DL
namespace DL
open PySem L2 PyProof.Rows
/-! ## helpers for the text printed -/
theorem hot_suite {T : CT} {A : Around} {a : Addr} {oe : Obj} {c : Nat} {d : Option Addr} (px : PinX T (a, oe) c d) : L2H.Hot1 (A.mark (some (.ref a))) (a, oe) :=
  ⟨rfl, px.f.elim fun vs e => ⟨vs, e, px.z.2.2 vs e⟩⟩
theorem room_suite {k : Nat} {A : Around} {v : Option Value} (r : Room k A) : L2H.RoomH k (A.mark v) := ⟨r.dp, r.un⟩
theorem IsD.pin {mg : Str → Option Value} {K : PySem.W.Frag} {T : CT} {x : Str} {l : List (Nat × Bool)} {a : Addr} {c : Nat} {d : Option Addr} (h : IsD mg K T x l) : IsD mg K (T.at a c d) x l := ⟨h.ex⟩
theorem FldOk.pin {K : PySem.W.Frag} {T : CT} {c : Nat} {a : Addr} {c' : Nat} {d : Option Addr} (h : FldOk K T c) : FldOk K (T.at a c' d) c := ⟨h.1, h.2⟩
/-- the class that a clause names -/
structure CatchD (mg : Str → Option Value) (K : PySem.W.Frag) (T : CT) (x : Str) (l : List (Nat × Bool)) : Prop where
  ex : ∃ C, mg x = some (.ref C) ∧ ExM K T (.ref C) l
section
variable {mg : Str → Option Value} {K : PySem.W.Frag} {T : CT} {x : Str} {l : List (Nat × Bool)}
noncomputable def CatchD.C (h : CatchD mg K T x l) : Addr := h.ex.choose
theorem CatchD.m (h : CatchD mg K T x l) : ExM K T (.ref h.C) l := h.ex.choose_spec.2
theorem CatchD.nm {X : Cx} (h : CatchD X.mg X.K T x l) (hg : Gl X x) (hd : (x == ("__debug__" : Str)) = false) : Names X x (.ref h.C) := ⟨hg, hd, .inl h.ex.choose_spec.1⟩
theorem lk_all {P : Nat → Bool → Prop} : ∀ {l : List (Nat × Bool)}, (∀ e ∈ l, P e.1 e.2) → ∀ c b, lkB l c = some b → P c b
  | [], h, c, b, e => by cases e
  | a :: l, h, c, b, e => by
    unfold lkB at e
    by_cases q : a.1 = c
    · rw [if_pos q] at e
      cases e
      rw [← q]
      exact h a List.mem_cons_self
    · rw [if_neg q] at e
      exact lk_all (fun x m => h x (List.mem_cons_of_mem _ m)) c b e
theorem catch_of {C : Addr} (hm : mg x = some (.ref C)) (h1 : PySem.W.subIn K (.ref C) (.type "BaseException") = some true) (h2 : PySem.W.hasDictIn K C = true) (h3 : PySem.W.typeIn K (.ref C) = some (.type "type"))
    (h : ∀ e ∈ l, PySem.W.subIn K (.ref (T.C e.1)) (.ref C) = some e.2) : CatchD mg K T x l := ⟨C, hm, ⟨lk_all fun e m => PySem.W.exm_ref h1 h2 h3 (h e m)⟩⟩
theorem isE_of {t : Nat → Addr} {C : Addr} (hm : mg x = some (.ref C)) (h : ∀ e ∈ l, XcF K (t e.1) ∧ PySem.W.kitOne K (.ref (t e.1)) (.ref C) = some e.2) : IsEx mg K t x l := ⟨C, hm, lk_all h⟩
theorem isEB_of {t : Nat → Addr} {y : String} (h : ∀ e ∈ l, XcF K (t e.1) ∧ PySem.W.kitOne K (.ref (t e.1)) (.type y) = some e.2) : IsEB K t y l := ⟨lk_all h⟩
theorem kit_bt {C : Addr} {y : String} {b : Bool} (h1 : PySem.W.kitMeta y = true) (h2 : PySem.W.subIn K (.ref C) (.type y) = some b) : PySem.W.kitOne K (.ref C) (.type y) = some b := by
  unfold PySem.W.kitOne
  split
  · rename_i q
    have q : (Value.ref C = Value.type y) := by simpa using q
    cases q
  · unfold PySem.W.kitCls
    simp only [h1]
    exact h2
theorem refs_of : ∀ l : List Value, PySem.W.excTail PySem.HandSPX.veTail l = true → PySem.HandSPX.refsVE l = true := fun l => by
  induction l with
  | nil => exact id
  | cons v r ih =>
    cases v with
    | ref a => exact fun q => ih q
    | _ => exact id
theorem oexC_of {C : Addr} (q : PySem.W.excInitIn K C [.type "ValueError", .type "Exception", .type "BaseException", .type "object"] "ValueError.__new__" = true) (hd : PySem.W.hasDictIn K C = true) (sa : PySem.W.findIn K (.ref C) "__setattr__" = some (some (.builtin "object.__setattr__")))
    (h1 : PySem.W.subIn K (.ref C) (.type "BaseException") = some true) (h2 : PySem.W.typeIn K (.ref C) = some (.type "type")) (h3 : PySem.W.keepIn K (.ref C) = true) : OexC K C := by
  refine ⟨?_, sa, h1, h2, h3⟩
  unfold PySem.W.excInitIn at q
  unfold PySem.W.hasDictIn PySem.W.clsIn at hd
  split at q
  · rename_i dd cd sl at_C
    rw [at_C] at hd
    split at q
    · rename_i C' bm k0 k1 k2 k3 n k5 e1 e2
      simp only [Bool.and_eq_true, beq_iff_eq, Bool.not_eq_true'] at q
      obtain ⟨⟨⟨rfl, rfl⟩, noDel⟩, tl⟩ := q
      obtain ⟨nm, bs, mro, ns, qn, hdct, sn, sub, ab, col, del⟩ := cd
      dsimp only at e1 noDel
      subst e1 noDel
      have dc : hdct = true := by simpa using hd
      subst dc
      obtain ⟨sl⟩ := sl
      dsimp only at e2
      subst e2
      exact ⟨nm, qn, ns, bs, bm, sn, sub, ab, col, dd, k0, k1, k2, k3, k5, at_C, refs_of _ tl⟩
    · cases q
  · cases q
end
section
variable {X : Cx} {T : CT} {E : L2.St → XK}
theorem unitsH {k : Nat} {A : Around} (hr : L2H.RoomH k A) : A.units + 65 < cLine := by have := hr.un; omega
theorem cv_inAH {k : Nat} (hr : L2H.RoomH k X.A) : CmpV X T .In (fun x y H Q => rInA X.K x y H Q ∨ rInW (pw X T) false x y H Q) (gInA id) :=
  ⟨(cv_inH (T := T) hr).op.or (op_inW (unitsH hr)), (cv_inH (T := T) hr).v.or opv_inW⟩
theorem cv_notInAH {k : Nat} (hr : L2H.RoomH k X.A) : CmpV X T .NotIn (fun x y H Q => rNotInA X.K x y H Q ∨ rInW (pw X T) true x y H Q) (gInA not) :=
  ⟨(cv_notInH (T := T) hr).op.or (op_notInW (unitsH hr)), (cv_notInH (T := T) hr).v.or opv_notInW⟩
theorem de_ixAH {k : Nat} (hr : L2H.RoomH k X.A) {a b : Expr} {ta tb : TE} {fa fb : Env → Res R} {pos : Pos} (ha : DE X T E a ta fa) (hb : DE X T E b tb fb) (hs : PlainIx b := by exact fun _ _ => rfl) :
    DE X T E (.Subscript a b pos) (tOp (fun x y H Q => rIx X.K x y H Q ∨ rIxW (pw X T) x y H Q) ta tb) (fOp gIxA fa fb) :=
  ⟨pe_ix (ix_seq.or (ix_W (unitsH hr))) ha.pe hb.pe hs, ev_op ((opv_ix (p := pw X T)).or opv_ixW) ha.ev hb.ev⟩
end
/-- a class of exceptions with such an __init__ -/
theorem xI_of {P : Program} {w : World} {mg : Str → Option Value} {K : PySem.W.Frag} {T : CT} {base : Heap} {x fl : Str} {c : Nat} {fI : Addr} {fd : FuncData} {ps : List Str} (O : OexC K (T.C c)) (F : FnOk P w K mg base CX0 1 fI fd ps (spXI (T.C c) fl)) (hb : Binds K fd ps [])
    (h1 : PySem.W.findIn K (.ref (T.C c)) "__init__" = some (some (.ref fI))) (h2 : PySem.W.typeIn K (.ref fI) = some (.type "function")) (hm : mg x = some (.ref (T.C c))) (hf : fsOf c = [fl]) : ExI P w mg K T base x c fl :=
  ⟨⟨fI, fd, ps, F, hb, h1, h2⟩, O, hm, hf⟩
/-! ### a list or what stands behind it -/
def fOrL (fa fb : Env → Res R) : Env → Res R := fun env => (fa env).bind fun x => match x with
  | .fz (.lst ds) => if ds.isEmpty then fb env else .ok (.fz (.lst ds))
  | _ => .bad
theorem de_orL {X : Cx} {T : CT} {E : L2.St → XK} {a b : Expr} {rest : List Expr} {pos : Pos} {ta tb : TE} {fa fb : Env → Res R} (ha : DE X T E a ta fa) (hb : DE X T E (.BoolOp .Or (b :: rest) pos) tb fb) : DE X T E (.BoolOp .Or (a :: b :: rest) pos) (tOrT X.K ta tb) (fOrL fa fb) := by
  refine ⟨pe_orT ha.pe hb.pe, fun G0 H0 G H σ env s Q w => ?_⟩
  refine ha.ev.to s (ok := okR (pw X T) Q) w (fun _ _ g' _ h => h.grow g') fun rx x G1 H1 g1 rep w1 => ?_
  split at w1
  · rename_i ds
    have i : Is (pw X T) G1 x (.lst ds) := rep
    cases i with
    | @lst l vs _ hl r =>
      have e : vs.isEmpty = ds.isEmpty := by cases r <;> rfl
      refine ⟨!vs.isEmpty, .inl ⟨vs, SqL.of (g1.gh _ _ hl), rfl⟩, ?_⟩
      cases q : ds.isEmpty with
      | true =>
        rw [q] at w1 e
        rw [e, if_neg (by decide)]
        exact hb.ev G0 H0 G1 H1 σ env (s.grow g1) Q w1
      | false =>
        rw [q] at w1 e
        rw [e, if_pos (by decide)]
        exact wish_at g1.gh w1 (.lst hl r)
  · exact w1.elim
end DL
namespace DL
open PySem L2 PyProof.Rows
/-! ## lists walked while an exception is handled -/
section
variable {prog : Program} {w : World} {A : Around} {E : Value → Shared → Prop} {s : Shared}
/-- the end of a list's iterator, an exception x1 handled -/
theorem next_end_hot {it l x1 : Addr} {i : Nat} {items : Array Value} {Q : Option Value → Shared → Prop} (hot : HotX.HotAt A x1 s.heap) (ne : x1 ≠ it) (at_it : s.heap.IsListIter it l i) (at_l : s.heap.IsList l items) (out : items[i]? = none)
    (hQ : ∀ h', (∀ b o, b ≠ it → s.heap.get? b = some o → h'.get? b = some o) → Q none { s with heap := h' }) : wpAny (model prog w) A (pyNext (.ref it)) Q E s := by
  have ti := at_it.typeIs
  obtain ⟨hh, o1, fs1, e1, d1, c1⟩ := hot
  obtain ⟨oi, ei, ki, di⟩ := id at_it
  obtain ⟨ol, el, _, nl, dl⟩ := at_l
  unfold pyNext
  refine wpAny_bind (wpAny_attempt (wpAny_callSpecial?_slot (name := Str.ofString "__next__") ti slot_listiter_next (wpAny_call_entry slot_listiter_next ti entry_listiter_next (?_ : wpAny _ _ (field (.ref it) 0 >>= _) _ _ s) (args_listiter_next _))))
  refine wpAny_bind (wpAny_field ei di (x := .ref l) rfl (?_ : wpAny _ _ (if (Value.ref l == Value.none) = true then _ else _) _ _ s))
  have nn : ¬ ((Value.ref l == Value.none) = true) := Bool.false_ne_true
  rw [if_neg nn]
  refine wpAny_bind (m := field (.ref it) 1) (wpAny_field ei di (x := .int i 0) rfl (?_ : wpAny _ _ (seqItems? (.ref l) >>= _) _ _ s))
  refine wpAny_bind (wpAny_seqItems el dl ?_)
  simp only [Int.toNat_natCast, out]
  refine wpAny_bind (wpAny_rule (wpAny_bind (wpAny_setField ei di (by simp) (?_ : wpAny _ _ (newExc (.type "StopIteration") [] >>= _) _ _ _))))
  refine wpAny_bind ?_
  simp only [newTuple, newExc]
  refine wpAny_bind (wpAny_newObj_type (wpAny_bind (m := firstArgMember _ _) (wpAny_of_eq (a := Value.none) (by first | rfl | (simp only [firstArgMember]; rfl)) (wpAny_newObj_type ?_ (by size_fits)))) (by size_fits))
  have k0 : ∀ b o, b ≠ it → s.heap.get? b = some o → (s.heap.update it (Obj.mapFields (·.setIfInBounds 0 .none))).get? b = some o := fun b o n e => by
    rw [Heap.get?_update_other _ _ (Ne.symm n)]
    exact e
  have at_x : ∀ {u v : Obj}, (((s.heap.update it (Obj.mapFields (·.setIfInBounds 0 .none))).push u).push v).get? x1 = some o1 := fun {u v} => Heap.get?_push_of_some _ (Heap.get?_push_of_some _ (k0 _ _ ne e1))
  refine HotX.raiseNew_hot ⟨hh, o1, fs1, at_x, d1, c1⟩ (Nat.ne_of_lt (Heap.lt_size (Heap.get?_push_of_some _ (k0 _ _ ne e1)))) (Heap.get?_push_size _ rfl) rfl (by first | (simp; done) | (simp; omega) | (simp only [Array.size_append]; simp; omega)) ?_
  refine wpAny_bind (wpAny_isInstance (b := true) (T := "StopIteration") ⟨_, Heap.get?_update_self _ (Heap.get?_push_size _ rfl) rfl, rfl⟩ isSubtype_stop (wpAny_pure (hQ _ fun b o n e => ?_)))
  rw [Heap.get?_update_other _ _ (Nat.ne_of_gt (Heap.lt_size (Heap.get?_push_of_some _ (k0 b o n e))))]
  exact Heap.get?_push_of_some _ (Heap.get?_push_of_some _ (k0 b o n e))
/-- such a walk, by what it keeps -/
theorem walks_hot {x1 I ax : Addr} (hh : A.handled = some (.ref x1)) (n1 : x1 ≠ I) (n2 : ax ≠ I) (items : Array Value) :
    Walks prog w A I [I, ax, x1] [I] items.size (fun i v => items[i]? = some v) (fun i h => (h.IsListIter I ax i ∧ h.IsList ax items) ∧ HotX.HotAt A x1 h) where
  sub := fun b hb => by
    rw [List.mem_singleton.mp hb]
    exact List.mem_cons_self
  frame := fun i h h' st k => by
    obtain ⟨⟨s1, s2⟩, _, o1, fs1, e1, r1⟩ := st
    exact ⟨⟨s1.at fun o e => k I (by simp) o e, s2.at fun o e => k ax (by simp) o e⟩, hh, o1, fs1, k x1 (by simp) o1 e1, r1⟩
  item := fun i s Q E lt st q => by
    obtain ⟨⟨s1, s2⟩, _, o1, fs1, e1, r1⟩ := st
    refine wpAny_pyNext_list_item s1 s2 (x := items[i]) (by simp [lt]) fun h2 s3 sb => q _ h2 s.toks (by simp [lt]) ⟨⟨s3, s2.extBut sb.extBut n2⟩, hh, o1, fs1, sb.extBut x1 o1 n1 e1, r1⟩ fun b o nb e => sb.extBut b o (fun z => nb (by simp [z])) e
  done := fun s Q E st q => next_end_hot st.2 n1 st.1.1 st.1.2 (by simp) fun h2 k => q h2 s.toks fun b o nb e => k b o (fun z => nb (by simp [z])) e
  self := fun i s Q E st q => wpAny_pyIter_listiter st.1.1 q
end
section
variable {X : Cx} {T : CT}
/-- what is handled stands in the state -/
theorem hot_obj {p : Addr × Obj} {pins : List (Addr × Obj)} {σ : L2.St} {H : Hp} {s : Shared} (hot : L2H.Hot1 X.A p) (m : p ∈ X.pn) (I : L2.Inv X pins σ H s) : HotX.HotAt X.A p.1 s.heap := by
  obtain ⟨hh, fs1, d1, c1⟩ := hot
  exact ⟨hh, p.2, fs1, (I.pin p (List.mem_append_left _ m)).1, d1, c1⟩
theorem call_anyH {p : Addr × Obj} (hot : L2H.Hot1 X.A p) (m : p ∈ X.pn) : CallR X (.builtin "any") (rAny X.K) := by
  rintro pins s σ H xs us Q I rel ⟨a, bs, rfl, at_a, q⟩
  obtain ⟨its, rv, il, _⟩ := I.list at_a
  have hb := rv.bls
  have h0 := hot_obj hot m I
  obtain ⟨_, o1, fs1, e1, _⟩ := id h0
  rw [Vals.ref1 rel]
  refine call_any_walk (iter_any il.isList fun s2 es st ne => ?_)
  subst es
  have n1 : p.1 ≠ s.heap.objs.size := Nat.ne_of_lt (Heap.lt_size e1)
  refine ⟨_, _, _, _, _, _, _, rfl, walks_hot (A := X.A.in1) h0.1 n1 ne its.toArray, ⟨st, h0.1, ?_⟩, truth_bools hb, fun h2 tk k => ⟨.bl _, H, I.kept fun b o eb => k b o (fun z => ?_) (Heap.get?_push_of_some _ eb), ?_, q⟩⟩
  · obtain ⟨_, o, fs, e, r⟩ := h0
    exact ⟨o, fs, Heap.get?_push_of_some _ e, r⟩
  · rw [List.mem_singleton] at z
    exact absurd (z ▸ Heap.lt_size eb) (Nat.lt_irrefl _)
  · show Value.bool _ = Value.bool _
    rw [← L2.any_range, hb, List.size_toArray, List.length_map]
theorem call_allH {p : Addr × Obj} (hot : L2H.Hot1 X.A p) (m : p ∈ X.pn) : CallR X (.builtin "all") (rAll X.K) := by
  rintro pins s σ H xs us Q I rel ⟨a, bs, rfl, at_a, q⟩
  obtain ⟨its, rv, il, _⟩ := I.list at_a
  have hb := rv.bls
  have h0 := hot_obj hot m I
  obtain ⟨_, o1, fs1, e1, _⟩ := id h0
  rw [Vals.ref1 rel]
  refine call_all_walk (iter_any il.isList fun s2 es st ne => ?_)
  subst es
  have n1 : p.1 ≠ s.heap.objs.size := Nat.ne_of_lt (Heap.lt_size e1)
  refine ⟨_, _, _, _, _, _, _, rfl, walks_hot (A := X.A.in1) h0.1 n1 ne its.toArray, ⟨st, h0.1, ?_⟩, truth_bools hb, fun h2 tk k => ⟨.bl _, H, I.kept fun b o eb => k b o (fun z => ?_) (Heap.get?_push_of_some _ eb), ?_, q⟩⟩
  · obtain ⟨_, o, fs, e, r⟩ := h0
    exact ⟨o, fs, Heap.get?_push_of_some _ e, r⟩
  · rw [List.mem_singleton] at z
    exact absurd (z ▸ Heap.lt_size eb) (Nat.lt_irrefl _)
  · show Value.bool _ = Value.bool _
    rw [← L2.all_range, hb, List.size_toArray, List.length_map]
theorem bi_anyH {p : Addr × Obj} (hot : L2H.Hot1 X.A p) (m : p ∈ X.pn) : BiV X T (.builtin "any") (rAny X.K) (gQuant fun bs => bs.any id) := ⟨call_anyH hot m, fun G H vs ss e rep Q E w => gQuant_use e rep w⟩
theorem bi_allH {p : Addr × Obj} (hot : L2H.Hot1 X.A p) (m : p ∈ X.pn) : BiV X T (.builtin "all") (rAll X.K) (gQuant fun bs => bs.all id) := ⟨call_allH hot m, fun G H vs ss e rep Q E w => gQuant_use e rep w⟩
end
end DL
namespace DL
open PySem L2 PyProof.Rows
/-! ## the field of the exception that is handled -/
structure XfD (K : PySem.W.Frag) (T : CT) (c : Nat) (fl : Str) : Prop where
  F : XfC K (T.C c)
  no : PySem.W.findIn K (.ref (T.C c)) fl = some none
  fs : fsOf c = [fl]
def fXf (c : Nat) (f : Env → Res R) : Env → Res R := fun env => (f env).bind fun x => match x with
  | .bor (.exc c' [.fz d]) => if c' = c then .ok (.fz d) else .bad
  | .bor (.exc c' [o]) => if c' = c then .ok (.bor o) else .bad
  | _ => .bad
section
variable {X : Cx} {T : CT} {a : Addr} {oe : Obj} {c0 : Nat} {d : Option Addr} {pn : List (Addr × Obj)}
theorem OwL.one {p : Pw} {G H : Hp} {vs : List V} {o : O} {as : List Addr} (h : OwL p G H vs [o] as) : ∃ v, vs = [v] ∧ Ow p G H v o as := by
  cases h with
  | cons h r _ =>
    cases r
    rw [List.append_nil]
    exact ⟨_, rfl, h⟩
theorem exc_read {p : Pw} {G H : Hp} {v : V} {c : Nat} {o : O} {fl : Str} {as : List Addr} (h : Ow (p.at a c0 d) G H v (.exc c [o]) as) (hf : fsOf c = [fl]) : v = .ref a ∧ c = c0 ∧ ∃ dd u bs, as = dd :: bs ∧ d = some dd ∧ H dd = some (.xd [(fl, u)]) ∧ G dd = none ∧ dd ∉ bs ∧ Ow (p.at a c0 d) G H u o bs := by
  cases h with
  | exc q hH hG hl nd r =>
    obtain ⟨rfl, rfl, e⟩ := q
    obtain ⟨u, rfl, ho⟩ := r.one
    refine ⟨rfl, rfl, _, u, _, rfl, e.symm, ?_, hG, nd, ho⟩
    rw [hH]
    show some (HO.xd ((fsOf c).zip [u])) = _
    rw [hf]; rfl
theorem de_xf {E : L2.St → XK} {e : Expr} {te : TE} {f : Env → Res R} {c : Nat} {fl : Str} {pos : Pos} (F : XfD X.K T c fl) (hz : L2N.Zn (.ref (T.C c0)) d oe) (hd : ∃ vs, oe.data = .fields vs) (he : DE (X.suite a ((a, oe) :: pn)) (T.at a c0 d) E e te f)
    (hb : attributeBase e fl X.env (eval e X.env) = eval e X.env := by rfl) : DE (X.suite a ((a, oe) :: pn)) (T.at a c0 d) E (.Attribute e fl pos) (tXf a (.ref (T.C c0)) d (T.C c) fl te) (fXf c f) := by
  refine ⟨pe_xf F.F F.no hz.zc hd he.pe hb, fun G0 H0 G H σ env s Q w => ?_⟩
  refine he.ev.to s (ok := okR (pw (X.suite a ((a, oe) :: pn)) (T.at a c0 d)) Q) w (fun _ _ g' _ h => h.grow g') fun rx x G1 H1 g1 rep w1 => ?_
  split at w1
  · rename_i c' z
    by_cases hc : c' = c
    · subst hc
      rw [if_pos rfl] at w1
      obtain ⟨as, rep⟩ := rep
      obtain ⟨rfl, rfl, dd, u, bs, _, rfl, hH, _, _, ho⟩ := exc_read (p := pw X T) rep F.fs
      cases ho with
      | fz iu => exact ⟨rfl, rfl, dd, _, u, rfl, hH, by simp, wish_at g1.gh w1 iu⟩
    · rw [if_neg hc] at w1; exact w1.elim
  · rename_i c' o _
    by_cases hc : c' = c
    · subst hc
      rw [if_pos rfl] at w1
      obtain ⟨as, rep⟩ := rep
      obtain ⟨rfl, rfl, dd, u, bs, _, rfl, hH, _, _, ho⟩ := exc_read (p := pw X T) rep F.fs
      exact ⟨rfl, rfl, dd, _, u, rfl, hH, by simp, w1 u G1 H1 (Grow.refl g1.gh) ⟨bs, ho⟩⟩
    · rw [if_neg hc] at w1; exact w1.elim
  · exact w1.elim
/-- y = x.f: what the exception owns goes to y -/
def movXF (j i c : Nat) : Env → Fl := fun env => match env[j]? with
  | some (some (.exc c' [o])) => if c' = c ∧ j ≠ i then .nx ((env.set j (some (.fz (.exc c)))).set i (some o)) else .bad
  | _ => .bad
theorem ds_movX {E : XK} {c : Nat} {fl x y : Str} {pos p1 p2 p3 : Pos} (j i : Nat) (F : XfD X.K T c fl) (hz : L2N.Zn (.ref (T.C c0)) d oe) (hd : ∃ vs, oe.data = .fields vs) (hN : X.N.Nodup)
    (hj : X.N[j]? = some x := by rfl) (hv : Vis X.env.scope x := by first | exact Or.inl rfl | exact Or.inr (Or.inl rfl) | exact Or.inr (Or.inr rfl)) (hdb : (x == ("__debug__" : Str)) = false := by decide) (hcd : (x == ("__classdict__" : Str)) = false := by decide)
    (hi : X.N[i]? = some y := by rfl) (hy : Loc X.env.scope y := by first | exact Or.inl rfl | exact Or.inr rfl) (hb : attributeBase (.Name x p2) fl X.env (eval (.Name x p2) X.env) = eval (.Name x p2) X.env := by rfl)
    (hs : swapsWith (.Attribute (.Name x p2) fl p1) (some (.Name y p3)) pos.line X.env = pure false := by rfl) (hf : X.fn y = true ∨ X.env.scope.names.lookup y = some .local := by first | exact .inl rfl | exact .inr rfl) :
    DS (X.suite a ((a, oe) :: pn)) (T.at a c0 d) E (.Assign [.Name y p3] (.Attribute (.Name x p2) fl p1) pos) (tAsg (tXf a (.ref (T.C c0)) d (T.C c) fl (tVar j)) (gName i)) (movXF j i c) := by
  refine ⟨ps_set (X := X.suite a ((a, oe) :: pn)) hN hi hy (pe_xf F.F F.no hz.zc hd (pe_var (X := X.suite a ((a, oe) :: pn)) hj hv hdb hcd) hb) hs hf, fun G0 H0 G H σ env s Dn w => ?_⟩
  unfold movXF at w
  split at w
  · rename_i c' o e
    by_cases hc : c' = c ∧ j ≠ i
    · rw [if_pos hc] at w
      obtain ⟨rfl, ne⟩ := hc
      obtain ⟨as, sl, fr⟩ := s.sl
      obtain ⟨v, bs, as', hv1, ho, hr, hdis, hbs, has⟩ := sl.take e
      obtain ⟨rfl, rfl, dd, u, bs1, rfl, rfl, hH, hG, nd, hu⟩ := exc_read (p := pw X T) ho F.fs
      have n1 : ∀ z ∈ [dd], G z = none := fun z m => by rw [List.mem_singleton.mp m]; exact hG
      have g' : Grow G0 H0 (frzAt G H [dd]) H := s.gr.frz n1 fun z m => by rw [List.mem_singleton.mp m]; exact fr dd (hbs dd List.mem_cons_self)
      have out : ∀ z, z ∉ [dd] → frzAt G H [dd] z = G z := fun z m => frzAt_out m
      have hr' : EnvL (pw (X.suite a ((a, oe) :: pn)) (T.at a c' (some dd))) (frzAt G H [dd]) H σ (env.set j none) as' := hr.mono (frzAt_ex n1) fun z m =>
        ⟨by rw [out z fun q => hdis z (by rw [List.mem_singleton.mp q]; exact List.mem_cons_self) m]; exact (hr.at z m).1, rfl⟩
      have ie : Ow (pw (X.suite a ((a, oe) :: pn)) (T.at a c' (some dd))) (frzAt G H [dd]) H (.ref a) (.fz (.exc c')) [] := .fz (.exc1 ⟨rfl, rfl, rfl⟩ ((frzAt_in (List.mem_singleton.mpr rfl)).trans hH))
      obtain ⟨as2, h3, h4⟩ := EnvL.set ie j hr' fun _ m => nomatch m
      rw [set_self hv1, List.set_set] at h3
      have hu' : Ow (pw (X.suite a ((a, oe) :: pn)) (T.at a c' (some dd))) (frzAt G H [dd]) H u o bs1 := hu.mono (frzAt_ex n1) fun z m => ⟨by rw [out z fun q => nd (by rw [← List.mem_singleton.mp q]; exact m)]; exact (hu.at z m).1, rfl⟩
      obtain ⟨as3, h5, h6⟩ := EnvL.set hu' i h3 fun z m q => by
        rcases h4 z q with q | q
        · exact hdis z (List.mem_cons_of_mem _ m) q
        · cases q
      refine ⟨.ref a, hv1, rfl, rfl, dd, _, u, rfl, hH, by simp, w _ _ _ ⟨g', as3, h5, fun z m => ?_⟩⟩
      rcases h6 z m with q | q
      · rcases h4 z q with q | q
        · exact fr z (has z q)
        · cases q
      · exact fr z (hbs z (List.mem_cons_of_mem _ q))
    · rw [if_neg hc] at w; exact w.elim
  · exact w.elim
end
end DL
namespace DL
open PySem L2 PyProof.Rows
/-! ## walks while an exception is handled -/
theorem hotC_of {X : Cx} {p : Addr × Obj} (hot : L2H.Hot1 X.A p) (m : p ∈ X.pn) : L2H.HotC X := ⟨p, hot, m⟩
/-- a list's items -/
theorem turnH_list {P : Program} {w : World} {K : PySem.W.Frag} {tg : Expr} (l it : Addr) : L2H.TurnH P w K tg (Itl K l) [it] it (fun i h => h.IsListIter it l i) where
  mem := List.mem_singleton.mpr rfl
  obj := fun i h st b m => by
    obtain ⟨o, e, _, dd⟩ := st
    rw [List.mem_singleton.mp m]
    exact ⟨o, e, fun v z => by rw [dd] at z; cases z⟩
  keep := fun i h h' st k => st.at fun o e => k it (List.mem_singleton.mpr rfl) o e
  item := by
    rintro X rfl rfl rfl _ i pins s σ H E I free st ⟨xs, x, at_l, at_i⟩
    obtain ⟨g0, g1, g2, g3, g4, g5⟩ := free it (List.mem_singleton.mpr rfl)
    obtain ⟨its, rv, pl, _⟩ := I.list at_l
    obtain ⟨u, eu, ru⟩ := rv.get at_i
    refine wpAny_pyNext_list_item st pl.isList (x := u) (by simpa using eu) fun h2 st2 sb => ?_
    have I2 : L2.Inv X pins σ H { s with heap := h2 } := I.turned (t' := s.toks) (fun b o n e => (sb.2 b n).trans e) g0 g1 g3 g4 g5
    obtain ⟨o, e, ko, dd⟩ := id st2
    refine ⟨u, rfl, go_of (s := { s with heap := h2 }) e ko dd (by decide) ⟨x, H, I2, ru, ⟨rfl, fun ys hy => ?_⟩, st2, fun b m => (free b m).1⟩⟩
    rw [I.list_inj hy at_l]
    exact at_i
  done := by
    rintro X rfl rfl rfl hc i pins s σ H E I free st ⟨xs, at_l, over⟩
    obtain ⟨g0, g1, g2, g3, g4, g5⟩ := free it (List.mem_singleton.mpr rfl)
    obtain ⟨its, rv, pl, _⟩ := I.list at_l
    obtain ⟨p, hot, mp⟩ := hc
    have len := rv.length
    refine next_end_hot (hot_obj hot mp I) (g5 p (List.mem_append_left _ mp)) st pl.isList (by simp; omega) fun h2 k => ⟨rfl, ?_⟩
    exact I.turned (t' := s.toks) (fun b o n e => k b o n e) g0 g1 g3 g4 g5
  self := fun A i s Q E st q => wpAny_pyIter_listiter st q
section
variable {X : Cx} {tg : Expr}
theorem piH_list {l : Expr} {tl : TE} (hl : PE X l tl) : L2H.PIH X tg l (iList X.K tl) := by
  refine ⟨fun pins s σ H R I h => thn (hl.run pins s σ H _ I h) ?_⟩
  rintro v s1 ⟨x, H1, I1, rx, a, rfl, ⟨xs, at_a⟩, q⟩
  obtain rfl : v = Value.ref a := rx
  obtain ⟨its, rv, pl, _⟩ := I1.list at_a
  refine wpAny_pyIter_list pl.isList ⟨s1.heap.objs.size, [s1.heap.objs.size], _, _, H1, rfl, I1.kept (t' := s1.toks) fun b o e => Heap.get?_push_of_some _ e, turnH_list a _, ⟨_, Heap.get?_push_size _ rfl, rfl, rfl⟩, fun b m => ?_, q⟩
  rw [List.mem_singleton.mp m]
  exact I1.fpOk (Nat.le_refl _) (I1.hok.fresh (Nat.le_refl _))
end
structure DIH (X : Cx) (T : CT) (E : L2.St → XK) (n : Bool) (tg iter : Expr) (wi : TI) (fi : Env → Res (List D)) : Prop where
  pi : L2H.PIH X tg iter wi
  ev : EvI (pw X T) E n wi fi
section
variable {X : Cx} {T : CT}
theorem diH_list {E : L2.St → XK} {n : Bool} {tg l : Expr} {tl : TE} {f : Env → Res R} (h : DE X T E l tl f) : DIH X T E n tg l (iList X.K tl) (fun env => (f env).bind (itemsI n)) := ⟨piH_list h.pe, (di_list (tg := tg) h).ev⟩
theorem diH_range1 {E : L2.St → XK} {n : Bool} {tg a : Expr} {ta : TA} {fr : Env → Res (List S)} {p pos : Pos} (hm : X.mg "range" = none) (h : DA X T E [a] ta fr) (hg : Gl X "range" := by rfl) (hs : starEach [a] X.env = [(false, eval a X.env)] := by rfl) :
    DIH X T E n tg (.Call (.Name "range" p) [a] [] pos) (iRng1 ta) (fun env => (fr env).bind rng1) := ⟨L2H.pi_range1H hg hm h.pa hs, (di_range1 (tg := tg) (p := p) (pos := pos) hm h hg hs).ev⟩
theorem ds_forH {E : XK} {p : Addr × Obj} {tg iter : Expr} {body : List Stmt} {wi : TI} {fi : Env → Res (List D)} {g : TG} {ks : List Nat} {gf : D → Env → Option Env} {t : TS} {F : Env → Fl} {pos : Pos} (hp : PassesOwn (model X.prog X.w) X.A X.env X.xe) (hot : L2H.Hot1 X.A p) (m : p ∈ X.pn)
    (hi : DIH X T (kx E) true tg iter wi fi) (hg : DG X T tg g ks gf) (hb : DSs X T E body t F) (hs : ∀ x, foldedSetIterable iter X.env x = pure x := by intro _; rfl) : DS X T E (.For tg iter body [] pos) (tFor wi g t) (forF fi gf F) :=
  ⟨L2H.ps_forH hp (hotC_of hot m) hi.pi hg.pg hb.ps hs, st_for hi.ev hg.ev hb.ev⟩
end
end DL
namespace DL
open PySem L2 PyProof.Rows
/-! ## list comprehensions while an exception is handled -/
section
variable {X : Cx} {tg : Expr}
theorem piH_range2 {a b : Expr} {ta : TA} {p pos : Pos} (hm : X.mg "range" = none) (ha : PA X [a, b] ta) (hg : Gl X "range") (hs : starEach [a, b] X.env = [(false, eval a X.env), (false, eval b X.env)]) (hs2 : starEach [b] X.env = [(false, eval b X.env)]) :
    L2H.PIH X tg (.Call (.Name "range" p) [a, b] [] pos) (iRng2 ta) := by
  refine ⟨fun pins s σ H R I h => Call_ (ld_blt I hg hm boot_range (PyProof.Rows.callWith_type1 (thn (ha.run pos pins s σ H _ I h) ?_) (hs.trans (by rw [hs2])) (by rw [hs2] <;> rfl)))⟩
  rintro us s1 ⟨vs, H1, I1, rel, lo, hi, rfl, ⟨l1, l2, l3, l4⟩, q⟩
  cases rel with
  | cons r0 rest =>
    cases rest with
    | cons r1 rest2 =>
      cases rest2
      obtain ⟨t0, rfl⟩ := r0
      obtain ⟨t1, rfl⟩ := r1
      exact call_range_2 (L2H.range_itH I1 l1 l2 l3 l4 q)
/-- the block's context, what is handled pinned -/
abbrev blkP (X : Cx) (s : Shared) (H : Hp) (scope : Scope) (cenv : PySem.Env) (fp : List Addr) (p : Addr × Obj) : Cx := { X.blk s H scope cenv fp with pn := [p] }
theorem inv_blkP {s0 : Shared} {H0 : Hp} {scope : Scope} {cenv : PySem.Env} {fp : List Addr} {p : Addr × Obj} {σ : L2.St} {H : Hp} {s : Shared} (I : L2.Inv (X.blk s0 H0 scope cenv fp) [] σ H s) (k : s.heap.get? p.1 = some p.2 ∧ H p.1 = none ∧ p.1 ≠ cenv.locals ∧ p.1 ∉ frs X.stack ∧ ∀ v, p.2.data ≠ .cell v) :
    L2.Inv (blkP X s0 H0 scope cenv fp p) [] σ H s :=
  ⟨⟨I.ok.mod, I.ok.kind, I.ok.glob, I.ok.blt, I.ok.above, I.ok.inj, I.ok.has, I.ok.cab, I.ok.hd, I.ok.frames, I.ok.stk, I.ok.exf, I.ok.bs, I.ok.bsz, I.ok.noex, I.ok.exfs, I.ok.funs, I.ok.frf⟩, I.os, I.bare, I.base, I.loc, I.cell, I.free, I.freeC, fun q m => by
    have e : q = p := by simpa using (show q ∈ [p] ++ ([] : List (Addr × Obj)) from m)
    rw [e]; exact k, I.hok, I.len⟩
theorem inv_blk {s0 : Shared} {H0 : Hp} {scope : Scope} {cenv : PySem.Env} {fp : List Addr} {p : Addr × Obj} {σ : L2.St} {H : Hp} {s : Shared} (I : L2.Inv (blkP X s0 H0 scope cenv fp p) [] σ H s) : L2.Inv (X.blk s0 H0 scope cenv fp) [] σ H s :=
  ⟨⟨I.ok.mod, I.ok.kind, I.ok.glob, I.ok.blt, I.ok.above, I.ok.inj, I.ok.has, I.ok.cab, I.ok.hd, I.ok.frames, I.ok.stk, I.ok.exf, I.ok.bs, I.ok.bsz, I.ok.noex, I.ok.exfs, I.ok.funs, I.ok.frf⟩, I.os, I.bare, I.base, I.loc, I.cell, I.free, I.freeC, fun q m => absurd (show q ∈ ([] : List (Addr × Obj)) ++ [] from m) (by simp), I.hok, I.len⟩
theorem pe_lcH {elt iter : Expr} {ifs : List Expr} {scope : Scope} {own : List (Str × Nat)} {pos : Pos} {wi : TI} {g : TG} {tt : TT} {te : TE} {p : Addr × Obj} (hot : L2H.Hot1 X.A p) (mp : p ∈ X.pn) (nd : X.N.Nodup) (walk : L2H.PIH X tg iter wi) (bo : BlkOk X.N X.env.scope scope own)
    (tgs : ∀ (s : Shared) (H : Hp) (C : Addr) (cl : List (Str × Addr)) (fp : List Addr), PG (blkP X s H scope (compEnvC scope cl C X.env) fp p) tg g) (tsts : ∀ (s : Shared) (H : Hp) (C : Addr) (cl : List (Str × Addr)) (fp : List Addr), PTs (blkP X s H scope (compEnvC scope cl C X.env) fp p) ifs tt)
    (els : ∀ (s : Shared) (H : Hp) (C : Addr) (cl : List (Str × Addr)) (fp : List Addr), PE (blkP X s H scope (compEnvC scope cl C X.env) fp p) elt te) (plain : ∀ x, foldedSetIterable iter X.env x = pure x) :
    PE X (.ListComp elt [⟨tg, iter, ifs, 0⟩] scope pos) (tLc wi g tt te (own.map (·.2))) := by
  refine ⟨fun pins s σ H Q I want => ?_⟩
  rw [eval_ListComp]
  have clos : ∀ y ∈ scope.names, y.2 = .free → ∃ c, X.env.cells.lookup y.1 = some c := fun y m e => (bo.free y m e).elim (fun k => I.ok.has _ (.inl k)) fun k => I.ok.has _ (.inr k)
  refine wpAny_comprehension_free (use := none) rfl plain (closure_ok clos) bo.kind (fun y m e => (bo.uniq y m).trans (congrArg some e)) (thn (walk.run pins s σ H _ I want) fun xv s1 got => thn got ?_)
  rintro itv s2 ⟨it, fp, tn, J, H2, rfl, I2, T, start, free2, goal⟩
  refine wpAny_newObj_type (newEnv_comp ?_) (Nat.zero_le _)
  -- the new list stands at L
  obtain ⟨L, eL⟩ : ∃ L, s2.heap.objs.size = L := ⟨_, rfl⟩
  rw [eL]
  obtain ⟨W, ⟨m0, w0⟩, turn⟩ := goal L (I2.hok.fresh (Nat.le_of_eq eL))
  have big : ∀ {b o}, s2.heap.get? b = some o → b ≠ L := fun {b o} e => by
    have lt := Heap.lt_size e
    rw [eL] at lt
    exact Nat.ne_of_lt lt
  let s3 : Shared := { s2 with heap := s2.heap.push { cls := .type "list", data := .seq ([] : List Value).toArray } }
  have keep3 : ∀ b o, s2.heap.get? b = some o → s3.heap.get? b = some o := fun b o e => Heap.get?_push_of_some _ e
  have I3 : L2.Inv X pins σ (upd H2 L (.lst [])) s3 := by
    refine I2.laid (t' := s2.toks) keep3 (Nat.le_of_eq eL) ⟨Nat.zero_le _, [], 0, .nil, ?_⟩
    rw [← eL]
    exact Heap.get?_push_size _ rfl
  have inFp : ∀ b ∈ fp, ∃ o, s2.heap.get? b = some o := fun b m => (T.obj _ _ start b m).elim fun o z => ⟨o, z.1⟩
  have free3 : ∀ b ∈ fp, FpOk X pins (upd H2 L (.lst [])) b ∧ b < s3.heap.objs.size := fun b m => by
    obtain ⟨o, e⟩ := inFp b m
    obtain ⟨q1, q2⟩ := free2 b m
    exact ⟨⟨(upd_ne (big e)).trans q1, q2⟩, Heap.lt_size (keep3 b o e)⟩
  have start3 : tn 0 s3.heap := T.keep _ _ _ start fun b _ o e => keep3 b o e
  have J4 := block_start I3 bo nd free3
  obtain ⟨cells, ec⟩ : ∃ c, cellsFrom (s3.heap.objs.size + 1) scope.names (cloFrom X.env.cells scope.names []) = c := ⟨_, rfl⟩
  have tg3 := tgs s3 (upd H2 L (.lst [])) s3.heap.objs.size cells fp
  have ts3 := tsts s3 (upd H2 L (.lst [])) s3.heap.objs.size cells fp
  have el3 := els s3 (upd H2 L (.lst [])) s3.heap.objs.size cells fp
  show codeAny _ _ (.compStart (.ListComp elt [⟨tg, iter, ifs, 0⟩] scope pos) 0 (.ref it) (.ref L) (compEnvC scope (cellsFrom (s3.heap.objs.size + 1) scope.names (cloFrom X.env.cells scope.names [])) s3.heap.objs.size X.env)) (compPost _ _ _ none _ (.ref L) s3.heap.objs.size)
    { s3 with heap := pushCells (s3.heap.push { cls := .type "dict", data := .dict #[] }) scope.names }
  rw [ec] at J4 ⊢
  let ce : PySem.Env := compEnvC scope cells s3.heap.objs.size X.env
  let s4 : Shared := { s3 with heap := pushCells (s3.heap.push { cls := .type "dict", data := .dict #[] }) scope.names }
  have keep4 : ∀ b o, s3.heap.get? b = some o → s4.heap.get? b = some o := fun b o e => pushCells_keeps _ _ _ _ (Heap.get?_push_of_some _ e)
  obtain ⟨p1, p2, p3, p4, p5⟩ := I3.pin p (List.mem_append_left _ mp)
  have pOut : p.1 ∉ frs X.stack := fun z => (List.mem_cons.mp (I3.stkSub p.1 z)).elim p3 p4
  have I4 : L2.Inv (blkP X s3 (upd H2 L (.lst [])) scope ce fp p) [] (wipe σ (own.map (·.2))) (upd H2 L (.lst [])) s4 := inv_blkP J4 ⟨keep4 _ _ p1, p2, Nat.ne_of_lt (Heap.lt_size p1), pOut, p5⟩
  have start4 : tn 0 s4.heap := T.keep _ _ _ start3 fun b _ o e => keep4 b o e
  have pFp : ∀ b ∈ fp, p.1 ≠ b := fun b m => (free2 b m).2.2.2.2.2 p (List.mem_append_left _ mp)
  have stat : ∀ {σ' : L2.St} {H' : Hp} {s' : Shared}, L2.Inv (blkP X s3 (upd H2 L (.lst [])) scope ce fp p) [] σ' H' s' → (∀ b ∈ fp, H' b = none) → ∀ b ∈ fp, FpOk (blkP X s3 (upd H2 L (.lst [])) scope ce fp p) [] H' b := fun {σ' H' s'} I' none' b m =>
    ⟨none' b m, (I'.ok.exf b m).1, I'.ok.exfs b m, .inl m, fun x c e => (I'.ok.exf b m).2 x c e, fun q mq => by
      have e : q = p := by simpa using (show q ∈ [p] ++ ([] : List (Addr × Obj)) from mq)
      rw [e]; exact pFp b m⟩
  have hc : L2H.HotC (blkP X s3 (upd H2 L (.lst [])) scope ce fp p) := ⟨p, hot, List.mem_cons_self⟩
  have loop : codeAny (model X.prog X.w) X.A (.compLoop (.ListComp elt [⟨tg, iter, ifs, 0⟩] scope pos) 0 (.ref it) (.ref L) ce) (compPost (model X.prog X.w) X.A X.xe none (EP X pins σ Q) (.ref L) s3.heap.objs.size) s4 := by
    refine compLoop_any (fun n s' => ∃ i H', L2.Inv (blkP X s3 (upd H2 L (.lst [])) scope ce fp p) [] (wipe σ (own.map (·.2))) H' s' ∧ tn i s'.heap ∧ (∀ b ∈ fp, H' b = none) ∧ W i n H') ?_ m0 ⟨0, _, I4, start4, fun b m => (free3 b m).1.1, w0⟩
    rintro n s5 ⟨i, H5, I5, st5, none5, w5⟩
    rcases turn i n H5 w5 with ⟨stop, last⟩ | ⟨more, Nx, less, step⟩
    · refine thnF (T.done (blkP X s3 (upd H2 L (.lst [])) scope ce fp p) rfl rfl rfl hc i [] s5 _ H5 (fun _ _ => False) I5 (stat I5 none5) st5 stop) ?_
      rintro r s6 ⟨rfl, I6⟩
      have I7 : L2.Inv X pins σ H5 s6 := I3.call' (ch := fp) I6.os I6.base I6.hok I6.bare fun b m => by
        obtain ⟨_, y1, _, y3, y4, y5⟩ := (free3 b m).1
        exact ⟨y3, y1, y4, y5⟩
      obtain ⟨mm, ns6, _⟩ := I6.loc
      have gone : H5 s3.heap.objs.size = none := I6.free
      obtain ⟨_, y1, y2, y3, y4, y5⟩ := I3.fpOk (H' := H5) (Nat.le_refl _) gone
      exact ⟨mm, ns6, fun h2 sb => ⟨.ref L, H5, I7.turned (t' := s6.toks) (fun b o nb e => (sb.2 b nb).trans e) gone y1 y3 y4 y5, rfl, last⟩⟩
    · refine thnF (T.item (blkP X s3 (upd H2 L (.lst [])) scope ce fp p) rfl rfl rfl hc i [] s5 _ H5 (fun _ _ => False) I5 (stat I5 none5) st5 more) ?_
      rintro r s6 ⟨u, rfl, got6⟩
      refine thnF got6 ?_
      rintro _ s7 ⟨x, H7, I7, rx, y7, st7, none7⟩
      have obj7 := T.obj _ _ st7
      refine thnF (tg3.run _ s7 _ H7 x u _ (I7.pinned (stat I7 none7) obj7) rx (step x H7 y7)) ?_
      rintro _ s8 ⟨σ8, H8, I8, wiped, q8⟩
      refine thnF (ts3.run _ s8 σ8 H8 _ I8 q8) ?_
      rintro b s9 ⟨H9, I9, q9⟩
      have again : ∀ {s' : Shared} {H' : Hp}, L2.Inv (blkP X s3 (upd H2 L (.lst [])) scope ce fp p) ([] ++ pinsAt fp s7.heap) σ8 H' s' → Nx H' → ∃ m, m < n ∧ ∃ i H', L2.Inv (blkP X s3 (upd H2 L (.lst [])) scope ce fp p) [] (wipe σ (own.map (·.2))) H' s' ∧ tn i s'.heap ∧ (∀ b ∈ fp, H' b = none) ∧ W i m H' := by
        intro s' H' I' nx
        obtain ⟨m', lt, w'⟩ := less H' nx
        have still : ∀ b ∈ fp, ∀ o, s7.heap.get? b = some o → s'.heap.get? b = some o ∧ H' b = none := fun b m o e => by
          obtain ⟨z1, z2, _⟩ := I'.pin (b, o) (List.mem_append_right _ (List.mem_append_right _ (mem_pinsAt m e)))
          exact ⟨z1, z2⟩
        have long : (wipe σ (own.map (·.2))).length = σ8.length := (congrArg List.length wiped).symm.trans (wipe_length _ _)
        refine ⟨m', lt, i + 1, H', (I'.unpinned (pins := [])).weak long (fun j v e => (wipe_some (by rw [wiped]; exact e)).1), T.keep _ _ _ st7 fun b m o e => (still b m o e).1, fun b m => ?_, w'⟩
        obtain ⟨o, e, _⟩ := obj7 b m
        exact (still b m o e).2
      cases b with
      | false =>
        rw [if_neg Bool.false_ne_true] at q9 ⊢
        exact again I9 q9
      | true =>
        rw [if_pos rfl] at q9 ⊢
        refine thnF (el3.run _ s9 σ8 H9 _ I9 q9) ?_
        rintro z s10 ⟨yv, H10, I10, ry, acc, atL, room, nx⟩
        exact app_ok (X := blkP X s3 (upd H2 L (.lst [])) scope ce fp p) I10 atL room ry fun s11 I11 => again I11 nx
  exact codeAny_compStart_list loop (T.self X.A 0 _ _ _ start4 loop)
end
end DL
namespace DL
open PySem L2 PyProof.Rows
section
variable {X : Cx} {T : CT}
theorem diH_range2 {E : L2.St → XK} {n : Bool} {tg a b : Expr} {ta : TA} {fr : Env → Res (List S)} {p pos : Pos} (hm : X.mg "range" = none) (h : DA X T E [a, b] ta fr) (hg : Gl X "range" := by rfl) (hs : starEach [a, b] X.env = [(false, eval a X.env), (false, eval b X.env)] := by rfl) (hs2 : starEach [b] X.env = [(false, eval b X.env)] := by rfl) :
    DIH X T E n tg (.Call (.Name "range" p) [a, b] [] pos) (iRng2 ta) (fun env => (fr env).bind rng2) := ⟨piH_range2 hm h.pa hg hs hs2, (di_range2 (tg := tg) (p := p) (pos := pos) hm h hg hs hs2).ev⟩
theorem de_lcH {E : L2.St → XK} {elt tg iter : Expr} {ifs : List Expr} {scope : Scope} {vs : List Nat} {pos : Pos} {wi : TI} {fi : Env → Res (List D)} {gf : D → Env → Option Env} {ft : Env → Res Bool} {fe : Env → Res R} {p : Addr × Obj} (own : List (Str × Nat)) (ks : List Nat) (hot : L2H.Hot1 X.A p) (mp : p ∈ X.pn) (nd : X.N.Nodup)
    (hi : DIH X T E false tg iter wi fi) (bo : BlkOk X.N X.env.scope scope own)
    (hg : ∀ (s : Shared) (H : Hp) (C : Addr) (cl : List (Str × Addr)) (fp : List Addr), ∃ g, DG (blkP X s H scope (compEnvC scope cl C X.env) fp p) T tg g ks gf)
    (ht : ∀ (s : Shared) (H : Hp) (C : Addr) (cl : List (Str × Addr)) (fp : List Addr), ∃ t, DTs (blkP X s H scope (compEnvC scope cl C X.env) fp p) T (kx fun _ _ _ => False) ifs t ft)
    (he : ∀ (s : Shared) (H : Hp) (C : Addr) (cl : List (Str × Addr)) (fp : List Addr), ∃ t, DE (blkP X s H scope (compEnvC scope cl C X.env) fp p) T (kx fun _ _ _ => False) elt t fe)
    (hk : ∀ k ∈ ks, k ∈ vs := by decide) (hvs : own.map (·.2) = vs := by rfl) (hs : ∀ x, foldedSetIterable iter X.env x = pure x := by intro _; rfl) :
    DE X T E (.ListComp elt [⟨tg, iter, ifs, 0⟩] scope pos) (tLcD X T wi ks gf ft fe vs) (fLc fi gf ft fe vs) := by
  subst hvs
  exact ⟨pe_lcH hot mp nd hi.pi bo (fun s H C cl fp => tgOf_pg (hg s H C cl fp)) (fun s H C cl fp => ttOf_pt (ht s H C cl fp)) (fun s H C cl fp => tOf_pe (he s H C cl fp)) hs,
    ev_lc hi.ev tgOf_ev ttOf_ev tOf_ev hk⟩
end
end DL
namespace DL
open PySem L2 PyProof.Rows
/-! ### x.append(y or e): y's own list moves, or what e tells, where it is empty -/
def appOrF (i j : Nat) (f : Env → Res R) : Env → Fl := fun env => match env[j]? with
  | some (some (.lst os)) => if os.isEmpty then appF true i f env else appMvF i j env
  | _ => .bad
section
variable {X : Cx} {T : CT} {E : XK} {e : Expr} {te : TE} {f : Env → Res R} {apos cpos pos pos2 pos3 pos4 : Pos}
theorem st_appOr {p : Pw} (i j : Nat) (h : EvR p (kx E) te f) : StR p E (tDrop (tBM p.K "list" rAppend (tVar i) (tCons (tOrT p.K (tVar j) te) tNil))) (appOrF i j f) := by
  intro G0 H0 G H σ env s Dn w
  unfold appOrF at w
  split at w
  · rename_i os ej
    obtain ⟨as, sl, fr⟩ := s.sl
    obtain ⟨v, bs, hv, ho, sub⟩ := sl.get ej
    cases ho with
    | lst hp gp np hr =>
      rename_i a vs as1
      have same : vs.isEmpty = os.isEmpty := by cases hr <;> rfl
      cases q : os.isEmpty with
      | true =>
        rw [q] at w same
        rw [if_pos rfl] at w
        obtain ⟨x, hx, ty, rest⟩ := st_app (p := p) true i h G0 H0 G H σ env s Dn w
        exact ⟨x, hx, ty, .ref a, hv, false, .inl ⟨vs, SqL.of hp, by rw [same]; rfl⟩, by rw [if_neg Bool.false_ne_true]; exact rest⟩
      | false =>
        rw [q] at w same
        rw [if_neg Bool.false_ne_true] at w
        obtain ⟨x, hx, ty, y, hy, rest⟩ := st_appMv (p := p) (E := E) i j G0 H0 G H σ env s Dn w
        rw [hv] at hy
        cases hy
        exact ⟨x, hx, ty, .ref a, hv, true, .inl ⟨vs, SqL.of hp, by rw [same]; rfl⟩, by rw [if_pos rfl]; exact rest⟩
  · exact w.elim
theorem ds_appOr (i j : Nat) {x y : Str} (he : DE X T (kx E) e te f) (hN : X.N[i]? = some x := by rfl) (hv : Vis X.env.scope x := by first | exact Or.inl rfl | exact Or.inr (Or.inl rfl) | exact Or.inr (Or.inr rfl)) (hd : (x == ("__debug__" : Str)) = false := by decide)
    (hcd : (x == ("__classdict__" : Str)) = false := by decide) (hN2 : X.N[j]? = some y := by rfl) (hv2 : Vis X.env.scope y := by first | exact Or.inl rfl | exact Or.inr (Or.inl rfl) | exact Or.inr (Or.inr rfl)) (hd2 : (y == ("__debug__" : Str)) = false := by decide)
    (hcd2 : (y == ("__classdict__" : Str)) = false := by decide) (hs : starEach [.BoolOp .Or [.Name y pos3, e] pos4] X.env = (false, eval (.BoolOp .Or [.Name y pos3, e] pos4) X.env) :: starEach [] X.env := by rfl) (hline : (apos.endLine == cpos.line) = true := by rfl) :
    DS X T E (.Expr (.Call (.Attribute (.Name x pos2) "append" apos) [.BoolOp .Or [.Name y pos3, e] pos4] [] cpos) pos) (tDrop (tBM X.K "list" rAppend (tVar i) (tCons (tOrT X.K (tVar j) te) tNil))) (appOrF i j f) :=
  ⟨ps_expr (pe_bm PySem.F.plainAttrs_list PySem.F.slot_list_append PySem.F.type_list_append mt_append (pe_var hN hv hd hcd) (pa_cons (pe_orT (pe_var hN2 hv2 hd2 hcd2) (pe_one he.pe)) pa_nil hs) rfl rfl hline hs), st_appOr (p := pw X T) i j he.ev⟩
end
end DL
namespace DL
open PySem L2 PyProof.Rows
/-! ### is, of two truths -/
def rIsB (f : Bool → Bool) : R2 := fun x y H Q => ∃ a b, x = .bl a ∧ y = .bl b ∧ Q (.bl (f (a == b))) H
def gIsB (f : Bool → Bool) : S → S → Res R := fun x y => match x.bl?, y.bl? with
  | some a, some b => .ok (.fz (.bl (f (a == b))))
  | _, _ => .bad
theorem bool_beq (a b : Bool) : (Value.bool a == Value.bool b) = (a == b) := by cases a <;> cases b <;> rfl
section
variable {X : Cx} {T : CT}
theorem opv_isB {p : Pw} {f : Bool → Bool} : OpV p (rIsB f) (gIsB f) := by
  intro G H x y sx sy e rx ry Q E w
  unfold gIsB at w
  split at w
  · rename_i a b q1 q2
    exact ⟨a, b, rx.bl q1, ry.bl q2, wish_at e w (.bl _)⟩
  · exact w.elim
theorem op_isB : OpR X (compareOp .Is) (rIsB id) := by
  rintro pins s σ H x y v u Q I rx ry ⟨a, b, rfl, rfl, q⟩
  cases (show v = Value.bool a from rx)
  cases (show u = Value.bool b from ry)
  exact wpAny_is_plain rfl (fin_bl I q (bool_beq a b).symm)
theorem op_notB : OpR X (compareOp .IsNot) (rIsB not) := by
  rintro pins s σ H x y v u Q I rx ry ⟨a, b, rfl, rfl, q⟩
  cases (show v = Value.bool a from rx)
  cases (show u = Value.bool b from ry)
  exact wpAny_isNot_plain rfl (fin_bl I q (congrArg not (bool_beq a b).symm))
theorem cv_isB : CmpV X T .Is (rIsB id) (gIsB id) := ⟨op_isB, opv_isB⟩
theorem cv_notB : CmpV X T .IsNot (rIsB not) (gIsB not) := ⟨op_notB, opv_isB⟩
end
end DL
namespace DL
open PySem L2 PyProof.Rows
/-! ## str of a list, where no repr runs -/
def rStrD (K : PySem.W.Frag) : List V → Hp → VK → Prop := fun xs H Q => ∃ (a : Addr) (d : PyData), xs = [.ref a] ∧ Dp K H (.ref a) d ∧ d.showable = true ∧ d.hasDict = false ∧ d.depth ≤ 16 ∧ d.shown.length ≤ sizeLine ∧ Q (.str d.shown) H
theorem call_strD {X : Cx} (hg : X.A.guards = some []) (hu : X.A.units + 100 < cLine) : CallR X (.type "str") (rStrD X.K) := by
  rintro pins s σ H xs us Q I rel ⟨a, d, rfl, at_a, h1, h2, h3, h4, q⟩
  obtain ⟨u, rfl, ru⟩ := vals1 rel
  obtain rfl : u = Value.ref a := ru
  obtain ⟨as, rd⟩ := Dp.reads I d (.ref a) (.ref a) at_a rfl
  exact str_of_reads rd h1 (fun z => by rw [h2] at z; cases z) hg (by omega) (fun b o e => e) (fun h' u' tk k => ⟨.str d.shown, H, I.kept k, ⟨u', rfl⟩, q⟩) h4
def gStrL : List S → Res R
  | [x] => (match x.dat with
    | some (.lst ds) => (match (D.lst ds).py with
      | some d => if d.showable = true ∧ d.hasDict = false ∧ d.depth ≤ 16 ∧ d.shown.length ≤ LINE then .ok (.fz (.str d.shown)) else .bad
      | none => .bad)
    | _ => .bad)
  | _ => .bad
theorem bi_strL {X : Cx} {T : CT} {k : Nat} (hg : X.A.guards = some []) (hr : Room k X.A) : BiV X T (.type "str") (rStrD X.K) gStrL := by
  refine ⟨call_strD hg (by have := hr.un; omega), fun G H vs ss e rep Q E w => ?_⟩
  unfold gStrL at w
  split at w
  · rename_i x
    cases rep with
    | cons h r =>
      cases r
      split at w
      · rename_i ds q1
        have i := h.dat e q1
        cases q2 : (D.lst ds).py with
        | none => rw [q2] at w; exact w.elim
        | some d =>
          rw [q2] at w
          dsimp only at w
          by_cases c : d.showable = true ∧ d.hasDict = false ∧ d.depth ≤ 16 ∧ d.shown.length ≤ LINE
          · rw [if_pos c] at w
            have dp := i.dp q2
            cases i with
            | lst hl _ => exact ⟨_, d, rfl, dp, c.1, c.2.1, c.2.2.1, line_ok c.2.2.2, wish_at e w (.str _)⟩
          · rw [if_neg c] at w; exact w.elim
      · exact w.elim
  · exact w.elim
/-! ## a law that is promised where the claim calls it -/
theorem guards_law (env : PySem.Env) : (callerA.deeper env).guards = some [] := rfl
/-- the promise of the law's def, called by the claim -/
structure FnA (P : Program) (w : World) (K : PySem.W.Frag) (mg : Str → Option Value) (base : Heap) (f : Addr) (fd : FuncData) (ps : List Str) (sp : Sp) : Prop where
  go : ∀ {s : Shared} {H : Hp} {given : Args} {us : List Value} {xs : List V} {Q : VK} {E : XK}, Env0 P w K mg base callerA [] s H → BindsTo s fd given (ps.zip us) → Vals xs us → sp xs H Q E → codeAny (model P w) callerA (.call (.ref f) given) (CR CX0 [] P w H s Q E) s
section
variable {P : Program} {w : World} {K : PySem.W.Frag} {T : CT} {mg : Str → Option Value} {base : Heap}
theorem fn_law {x qual : Str} {st : Stmt} {f : Addr} {fd : FuncData} {N ps : List Str} {k n np : Nat} {Fb : Env → Fl} (F : Fun K x qual st f fd) (S : FnScope N ps (defScope st)) (hn : N.length = n) (hnp : ps.length = np) (room : Room (k + 1) callerA)
    (hbody : ∀ (cdv : Value) (s : Shared) (H : Hp), Room k (callerA.deeper (PyProof.Rows.envOfC qual (defScope st) s.heap.objs.size f cdv)) →
      ∃ t, DSs (cxOf CX0 P w K mg base N qual (defScope st) f cdv callerA [] s H (fun _ _ _ => False)).nox T (fun _ _ _ => False) (defBody st) t Fb) : FnA P w K mg base f fd ps (spD ⟨K, T, P, w⟩ (defF0 n np Fb)) := by
  subst hn hnp
  obtain ⟨oc, od, kV, doc, pm, an, cdv, ct, osl, rfl, lk, hcd⟩ := F.ex
  refine ⟨fun {s H given us xs Q E} e0 bound rel wish => ?_⟩
  obtain ⟨G, ds, e, hl, wi⟩ := wish
  have inS : K.In s.heap := e0.mod.kin.keeps fun b o z => (e0.bs b o z).1
  have noLim : s.heap.NoLimit := e0.mod.nolimit.keeps fun b o z => (e0.bs b o z).1
  have many : ds.length = ps.length := by
    unfold defF0 defF at wi
    by_cases q : ds.length = ps.length
    · exact q
    · rw [if_neg q] at wi; exact wi.elim
  refine codeAny_call_function room.depth (inS _ _ lk) rfl S.co S.gen rfl (PySem.W.codeRec_of inS hcd) (bound _ _ _ _ (wpAny_newFunctionEnv_cells S.kind ?_ ?_))
  · rintro ⟨y, v⟩ m
    cases S.par y (List.of_mem_zip m).1 with
    | inl q => exact .inl q
    | inr q => exact .inr ⟨q, PySem.W.cellsFrom_some _ _ _ (.inl q)⟩
  · rintro env rfl s1 z
    refine ⟨noLim.keeps z.toInCall.keep, codeAny_func ?_⟩
    obtain ⟨t, hd⟩ := hbody cdv s H (room.deeper _)
    have I1 := inv_start (CX := CX0) (E := fun _ _ _ => False) S room.hd e0 (hl.length.trans many) rel z
    unfold defF0 defF at wi
    rw [if_pos many] at wi
    refine wpAny_mono (hd.ps.run [] s1 (L2.start N xs) H { nx := fun _ H' => Q .non H', rt := Q } (I1.wish _) (hd.ev G H G H _ _ (sOk_start e hl N) _ ?_)) ?_ (fun _ _ q => q.elim)
    · generalize Fb (startE N.length ds) = fl at wi
      cases fl with
      | nx env => exact wish_run (fl := .nx env) wi
      | rt r => exact wish_run (fl := .rt r) wi
      | bk env => exact wi.elim
      | ct env => exact wi.elim
      | ex c z => exact wi.elim
      | bad => exact wi.elim
    · intro fl s2 done
      cases fl with
      | next =>
        obtain ⟨σ2, H2, J, q⟩ := done
        exact ⟨.non, H2, J.os, J.bare, J.base, J.hok, rfl, q⟩
      | ret u =>
        obtain ⟨v2, σ2, H2, J, same, q⟩ := done
        exact ⟨v2, H2, J.os, J.bare, J.base, J.hok, same, q⟩
      | brk => exact done.elim fun _ y => y.elim fun _ y => y.2.elim
      | cont => exact done.elim fun _ y => y.elim fun _ y => y.2.elim
end
end DL
namespace DL
open PySem L2 PyProof.Rows
/-! ## from the promise at the caller to the claim -/
theorem law_atA {P : Program} {w : World} {K : PySem.W.Frag} {mg mb : Str → Option Value} {fa a : Addr} {fd : FuncData} {x : Str} {sp : Sp} {sc : Shared} {cells : List Value} {ns : List Int}
    (inK : K.In sc.heap) (top : sc.heap.Ns mainGlobals mg) (bns : sc.heap.Ns builtinsNs mb) (bare : ∀ x : Str, x ≠ "__name__" → mb x = bootBuiltins x) (free : sc.heap.NoLimit) (quiet : sc.gens = #[])
    (at_a : sc.heap.get? a = some { cls := .type "list", data := .seq cells.toArray }) (nums : IntsAre cells ns) (few : ns.length ≤ sizeLine)
    (F : ∀ base : Heap, K.In base → base.Ns mainGlobals mg → FnA P w K mg base fa fd [x] sp) (bound : ∀ (s : Shared) (u : Value), BindsTo s fd ⟨[u], []⟩ [(x, u)])
    (wish : ∀ H : Hp, Only H → SqL K H a (ns.map V.int) → sp [.ref a] H (fun v _ => v = .bl true) fun _ _ _ => False) :
    codeAny (model P w) callerA (.call (.ref fa) ⟨[.ref a], []⟩) (fun r s' => r = .ok (.ret (.bool true)) ∧ OldK sc.heap s'.heap ∧ s'.os = sc.os ∧ AllBare s'.gens) sc := by
  have rel := vals_ints nums
  have same := nums.length
  have main : ∀ H : Hp, Only H → SqL K H a (ns.map V.int) → HOk P w H sc.heap → (∀ b, H b ≠ none → b = a) → (H a ≠ none → K.lookup a = none) →
      codeAny (model P w) callerA (.call (.ref fa) ⟨[.ref a], []⟩) (fun r s' => r = .ok (.ret (.bool true)) ∧ OldK sc.heap s'.heap ∧ s'.os = sc.os ∧ AllBare s'.gens) sc := by
    intro H only at_H okH one apart
    have kept : ∀ {b : Addr} {o : Obj}, sc.heap.get? b = some o → H b = none → (hidT sc.heap H).get? b = some o := fun e n => hidT_get e n
    have noDict : ∀ {b : Addr} {o : Obj} {es : Array DictEntry} {ep : Nat}, sc.heap.get? b = some o → o.data = .dict es ep → H b = none := fun {b o es ep} e d => by
      by_cases q : H b = none
      · exact q
      · have z := one b q
        subst z
        rw [at_a] at e
        cases e
        cases (show Data.seq cells.toArray _ = Data.dict es ep from d)
    have nsIn : ∀ {b : Addr} {m : Str → Option Value}, sc.heap.Ns b m → (hidT sc.heap H).Ns b m := fun {b m} z => by
      obtain ⟨o, es, ep, e, d, r⟩ := z
      exact ⟨o, es, ep, kept e (noDict e d), d, r⟩
    have kIn : K.In (hidT sc.heap H) := fun b o e => kept (inK b o e) (by
      by_cases q : H b = none
      · exact q
      · have z := one b q
        subst z
        rw [apart q] at e
        cases e)
    have mod : Mod K mg (hidT sc.heap H) := ⟨kIn, nsIn top, ⟨mb, nsIn bns, bare⟩, free.elim fun mc z => ⟨mc, nsIn z.1, z.2⟩⟩
    have start : Env0 P w K mg (hidT sc.heap H) callerA [] sc H := ⟨rfl, mod, fun b o e => of_hidT e, Nat.le_of_eq (hidT_size _ _), trivial, fun b m => absurd (show b ∈ ([] : List Addr) from m) (by simp), okH, .of_eq quiet⟩
    refine codeAny_mono ((F _ kIn (nsIn top)).go (given := ⟨[.ref a], []⟩) (us := [.ref a]) (xs := [.ref a]) start (bound sc (.ref a)) (.cons rfl .nil) (wish H only at_H)) ?_
    rintro (er | fl) s' done
    · exact done.elim
    · cases fl with
      | next => exact done.elim
      | brk => exact done.elim
      | cont => exact done.elim
      | ret u =>
        obtain ⟨v, H2, os2, bare2, un, ok2, ru, rfl⟩ := done
        obtain rfl : u = Value.bool true := ru
        refine ⟨rfl, OldK.of_keep fun b o e => ?_, os2, bare2⟩
        by_cases q : H b = none
        · exact un.keep b o e q (fun z => absurd (show b ∈ ([] : List Addr) from z) (by simp)) (by simp)
        · rcases only b with z | ⟨ob, ys, z⟩
          · exact absurd z q
          · obtain ⟨e1, _⟩ := okH b _ z
            obtain ⟨e2, _⟩ := ok2 b _ (un.frzs b ob _ z)
            rw [e] at e1
            cases e1
            exact e2
  by_cases hk : K.lookup a = none
  · refine main (fun b => if b = a then some (.frz { cls := .type "list", data := .seq cells.toArray } (.lst (ns.map V.int))) else none) (fun b => ?_) (.inl (.inr ⟨_, if_pos rfl⟩)) (fun b u z => ?_) (fun b z => ?_) fun _ => hk
    · by_cases e : b = a
      · exact .inr ⟨_, _, if_pos e⟩
      · exact .inl (if_neg e)
    · by_cases e : b = a
      · cases (if_pos e).symm.trans z
        subst e
        exact ⟨at_a, by rw [List.length_map]; exact few, cells, _, rel, at_a⟩
      · cases (if_neg e).symm.trans z
    · by_cases e : b = a
      · exact e
      · exact absurd (if_neg e) z
  · obtain ⟨o, hk⟩ := Option.ne_none_iff_exists'.mp hk
    have e := inK a o hk
    rw [at_a] at e
    cases e
    exact main (fun _ => none) (fun _ => .inl rfl) (.inr ⟨_, cells.toArray, _, hk, rfl, rfl, rfl, by rw [List.size_toArray, same]; exact few, by simpa using rel⟩) (fun b u z => nomatch z) (fun b z => absurd rfl z) fun z => absurd rfl z
theorem walk_atA {l : PySem.W.OpenLaw} {n : Nat} {q : Program} {loose : List Str} {XP : (Str → Option Value) → Heap → Prop} {YP : World → Heap → Prop} {d : DefRec} {K : Params → PySem.W.Frag} {sp : World → Sp} {x : Str}
    (most : l.most = some n) (small : n ≤ sizeLine) (noDef : d.params.defaults = []) (hY : ∀ (w : World) (h : Heap), YP w h → (K w.params).In h)
    (F : ∀ (w : World) (mg : Str → Option Value) (fa : Addr) (h : Heap), (K w.params).In h → h.Ns mainGlobals mg → mg d.name = some (.ref fa) →
      ∃ fd : FuncData, (∀ (s : Shared) (u : Value), BindsTo s fd ⟨[u], []⟩ [(x, u)]) ∧ ∀ base : Heap, (K w.params).In base → base.Ns mainGlobals mg → FnA l.prog w (K w.params) mg base fa fd [x] (sp w))
    (wish : ∀ (w : World) (H : Hp) (a : Addr) (ns : List Int), ns.length ≤ n → Only H → SqL (K w.params) H a (ns.map V.int) → sp w [.ref a] H (fun v _ => v = .bl true) fun _ _ _ => False) :
    PySem.W.WalkO q loose XP YP l.row.toRowW d [] (fun f vs => PySem.call f vs) := by
  refine Att.attach_call most noDef ?_
  intro w s0 sc mg mb fa o pm cd doc a cells ns G Y ho hd hcd hmg at_a nums len quiet
  have inK := hY w _ Y
  obtain ⟨fd, bound, prom⟩ := F w mg fa _ inK G.T.g hmg
  exact law_atA inK G.T.g G.T.b G.T.builtins G.T.nolimit quiet at_a nums (Nat.le_trans len small) prom bound fun H only at_H => wish w H a ns len only at_H
theorem FnA.imp {P : Program} {w : World} {K : PySem.W.Frag} {mg : Str → Option Value} {base : Heap} {f : Addr} {fd : FuncData} {ps : List Str} {sp sp' : Sp} (F : FnA P w K mg base f fd ps sp) (h : ∀ vs H Q E, sp' vs H Q E → sp vs H Q E) : FnA P w K mg base f fd ps sp' :=
  ⟨fun e b r q => F.go e b r (h _ _ _ _ q)⟩
end DL
namespace DL
open PySem L2 PyProof.Rows
/-! ## exceptions raised where another one is handled: a chain of contexts of two at most -/
/-- the context of o is v -/
def CtxIs (v : Value) (o : Obj) : Prop := ∀ vs : Array Value, o.data = .fields vs → vs[2]? = some v
theorem CtxIs.steady {v : Value} : PXN.Steady1 (CtxIs v) := by
  intro o u h vs e
  cases hd : o.data with
  | fields ws =>
    rw [Obj.data_mapFields hd] at e
    cases e
    have : (ws.setIfInBounds 1 u)[2]? = ws[2]? := by simp [Array.getElem?_setIfInBounds]
    rw [this]
    exact h ws hd
  | _ =>
    obtain ⟨c, d, dt, sl⟩ := o
    cases hd
    cases e
/-- x bears an exception without a context -/
structure Root (B : Heap) (H : Hp) (x : Addr) (u : Obj) : Prop where
  get : B.get? x = some u
  fld : ∃ ws : Array Value, u.data = .fields ws ∧ ws[2]? = some .none
  free : H x = none
/-- its context is None, or an exception of the ground without one -/
def Chn (B : Heap) (H : Hp) (o : Obj) : Prop := CtxIs .none o ∨ ∃ x u, CtxIs (.ref x) o ∧ Root B H x u
/-- what is told of the object of an exception -/
def Zl (B : Heap) (H : Hp) (cls : Value) (d : Option Addr) (o : Obj) : Prop := Zc cls d o ∧ Chn B H o
theorem Zl.steady {B : Heap} {H : Hp} {cls : Value} {d : Option Addr} : PXN.Steady1 (Zl B H cls d) := fun o v z =>
  ⟨L2.Zc.steady o _ z.1, z.2.imp (CtxIs.steady o v) fun ⟨x, u, h, r⟩ => ⟨x, u, CtxIs.steady o v h, r⟩⟩
theorem sky_imp {B : Heap} {l : List PySem.Env} {a L : Addr} {Z Z' : Obj → Prop} {h : Heap} (z : ∀ o, Z o → Z' o) (s : Sky B l a Z L h) : Sky B l a Z' L h := by
  rcases s with ⟨k1, k2, k3, o, vs, e, zo, r⟩ | f | ⟨k1, k2, k3, t⟩
  · exact .inl ⟨k1, k2, k3, o, vs, e, z o zo, r⟩
  · exact .inr (.inl (L2H.flyingZ_imp z f))
  · exact .inr (.inr ⟨k1, k2, k3, L2H.tracedZ_imp z t⟩)
/-- an exception at a, over the ground B; S is the state without it -/
structure Aloft (X : Cx) (W : WX) (s' : Shared) (a : Addr) (B : Heap) (S : Shared) (pins : List (Addr × Obj)) (σ : L2.St) (H : Hp) (cls : Value) (d : Option Addr) : Prop where
  inv : L2.Inv X pins σ H S
  gnd : ∀ b o, S.heap.get? b = some o → b ∉ frs X.stack → B.get? b = some o
  up : S.heap.UpToSlots s'.heap
  sky : Sky B X.stack a (Zl B H cls d) X.env.locals s'.heap
  na : H a = none
  os : s'.os = S.os
  bare : AllBare s'.gens
  w : W cls d σ H
def XL (X : Cx) (W : WX) (u : Value) (s' : Shared) : Prop := ∃ a B S pins σ H cls d, u = .ref a ∧ Aloft X W s' a B S pins σ H cls d
/-- such exceptions may leave -/
def TkL (X : Cx) (W : WX) : Prop := ∀ u s', XL X W u s' → X.xe u s'
theorem TkL.n {X : Cx} {W : WX} (t : TkL X W) : L2N.Takes X W := fun u s' h => by
  obtain ⟨a, B, S, pins, σ, H, cls, d, e, i, g, up, sky, na, os, ag, w⟩ := h
  exact t u s' ⟨a, B, S, pins, σ, H, cls, d, e, i, g, up, sky_imp (fun o z => ⟨z.zc, .inl z.2.2⟩) sky, na, os, ag, w⟩
theorem tkl0 {X : Cx} : TkL X (wxE fun _ _ _ => False) := fun u s' ⟨_, _, _, _, _, _, _, _, _, h⟩ => h.w.elim
/-- what left a call -/
structure Fled (P : Program) (w : World) (outer : List PySem.Env) (H : Hp) (s : Shared) (E : XK) (s' : Shared) (a : Addr) (B : Heap) (H' : Hp) (cls : Value) (d : Option Addr) : Prop where
  fly : HandSPX.FlyingZ B outer a (Zl B H' cls d) s'.heap
  hok : HOk P w H' B
  ub : UB (frs outer) H H' s.heap B s'.heap
  na : H' a = none
  os : s'.os = s.os
  bare : AllBare s'.gens
  e : E cls d H'
def CXL (P : Program) (w : World) : CXT := fun outer H s E u s' => ∃ a B H' cls d, u = .ref a ∧ Fled P w outer H s E s' a B H' cls d
section
variable {X : Cx} {pins : List (Addr × Obj)} {σ : L2.St} {H : Hp} {S s s' : Shared} {B : Heap} {W : WX} {E : XK}
theorem XL.call (I : L2.Inv X pins σ H s) (hW : ∀ cls d H', E cls d H' → W cls d σ H') {u : Value} (c : CXL X.prog X.w X.stack H s E u s') : XL X W u s' := by
  obtain ⟨a, B, H', cls, d, rfl, F⟩ := c
  have st := F.fly.1
  obtain ⟨G, inn, out⟩ := restrict s'.heap fun b => decide (b ∈ frs X.stack) || (B.get? b).isSome
  have hF : ∀ b, b ∈ frs X.stack → G.get? b = s'.heap.get? b := fun b m => inn b (by simp [m])
  have hB : ∀ b o, B.get? b = some o → G.get? b = some o := fun b o e => (inn b (by simp [e])).trans (st b o e)
  have low : ∀ b o, G.get? b = some o → s'.heap.get? b = some o ∧ (b ∈ frs X.stack ∨ B.get? b = some o) := fun b o e => by
    by_cases m : (decide (b ∈ frs X.stack) || (B.get? b).isSome) = true
    · rw [inn b m] at e
      refine ⟨e, ?_⟩
      rw [Bool.or_eq_true, decide_eq_true_eq, Option.isSome_iff_exists] at m
      rcases m with m | ⟨o', m⟩
      · exact .inl m
      · rw [st b o' m] at e
        cases e
        exact .inr m
    · rw [out b (by simpa using m)] at e
      cases e
  have un : Un (frs X.stack) [] H H' s.heap G := by
    refine ⟨fun b o e n hb _ => hB b o (F.ub.keep b o e n hb), fun b o e n hb _ => ?_, fun b o e n _ => F.ub.free b o e n, fun b o e _ => ?_, F.ub.tups, F.ub.frzs, F.ub.tbls⟩
    · obtain ⟨sl, q⟩ := F.ub.slot b o e hb
      exact ⟨sl, (hF b hb).trans q⟩
    · by_cases hb : b ∈ frs X.stack
      · obtain ⟨sl, q⟩ := F.ub.slot b o e hb
        exact ⟨_, (hF b hb).trans q⟩
      · obtain ⟨o', q⟩ := F.ub.there b o e hb
        exact ⟨o', hB b o' q⟩
  refine ⟨a, B, { s with heap := G, gens := s'.gens, drawn := s'.drawn, toks := s'.toks }, pins, σ, H', cls, d, rfl, ?_⟩
  exact ⟨I.call un (F.hok.kept hB) F.bare (fun _ z => nomatch z), fun b o e hb => ((low b o e).2.resolve_left hb), Heap.UpToSlots.of_keeps fun b o e => (low b o e).1, .inr (.inl F.fly), F.na, F.os, F.bare, hW _ _ _ F.e⟩
theorem passAtL (tk : TkL X W) (σ : L2.St) : PassesAt (CXL X.prog X.w) X σ (WE W σ) := fun _ _ _ u t I c => tk u t (XL.call I (fun _ _ _ z => z) c)
theorem XL.leave (hs : X.stack = X.env :: X.outer) (hf : X.env.frame = some X.env.locals) (hex : X.ex = []) {E₁ : Value → Shared → Prop} (hW : ∀ cls d σ H, W cls d σ H → E cls d H) {u : Value} (x : XL X W u s') :
    wpAny (model X.prog X.w) X.A (leaving X.env u) (fun _ t => CXL X.prog X.w X.outer X.H_0 X.s_0 E u t) E₁ s' := by
  obtain ⟨a, B, S, pins, σ, H, cls, d, rfl, F⟩ := x
  have I := F.inv
  have fr : X.A.frames = some (X.env :: X.outer) := I.ok.frames.trans (congrArg some hs)
  have old : ∀ b o, X.s_0.heap.get? b = some o → b ∉ X.fs → b ∉ frs X.stack := fun b o e hb m => by
    rcases List.mem_cons.mp (I.stkSub b m) with z | z
    · have := Nat.lt_of_lt_of_le (Heap.lt_size e) I.ok.above
      exact Nat.lt_irrefl _ (z ▸ this)
    · exact hb z
  have nex : ∀ b, b ∉ X.ex := fun b m => by rw [hex] at m; exact nomatch m
  have go : ∀ h', HandSPX.FlyingZ B X.outer a (Zl B H cls d) h' → s'.heap.UpToSlots h' → CXL X.prog X.w X.outer X.H_0 X.s_0 E (.ref a) { s' with heap := h' } := fun h' fl up2 => by
    refine ⟨a, B, H, cls, d, rfl, fl, I.inGround F.gnd, ⟨fun b o e n hb => F.gnd b o (I.base.keep b o e n hb (nex b)) (old b o e hb), fun b o e hb => ?_, fun b o e n => I.base.free b o e n (nex b), fun b o e hb => ?_, I.base.tups, I.base.frzs, I.base.tbls⟩,
      F.na, F.os.trans I.os, F.bare, hW _ _ _ _ F.w⟩
    · obtain ⟨_, o0, e0, nofld⟩ := I.ok.funs.mem hb
      obtain rfl : o = o0 := Option.some.inj (e.symm.trans e0)
      obtain ⟨sl, e1⟩ := I.base.slot b o e (I.ok.frf b hb) hb (nex b)
      obtain ⟨sl2, e2⟩ := F.up b _ e1 nofld
      obtain ⟨sl3, e3⟩ := up2 b _ e2 nofld
      exact ⟨sl3, e3⟩
    · obtain ⟨o', e1⟩ := I.base.there b o e (nex b)
      exact ⟨o', F.gnd b o' e1 (old b o e hb)⟩
  have sky := F.sky
  rw [hs] at sky
  rcases sky with ⟨k1, k2, k3, oe, vs, e1, z1, d1, t1⟩ | fl | held
  · exact PXN.leaving_firstZ Zl.steady fr k3 hf e1 k1 k2 d1 t1 z1 go
  · exact PXN.leaves_onZ Zl.steady fr hf fl go
  · exact HandSPX.leaves_heldZ hf held go
theorem tkl_of (hs : X.stack = X.env :: X.outer) (hf : X.env.frame = some X.env.locals) (hex : X.ex = []) {E₁ : Value → Shared → Prop}
    (hx : X.xe = fun e t => wpAny (model X.prog X.w) X.A (leaving X.env e) (fun _ t' => CXL X.prog X.w X.outer X.H_0 X.s_0 E e t') E₁ t) : TkL X (wxE E) := fun u t x => by
  rw [hx]
  exact XL.leave (W := wxE E) (E := E) hs hf hex (fun _ _ _ _ z => z) x
end
/-! ### such an exception is handled -/
/-- p is handled; its context is None, or a pinned exception without one -/
structure Hot2 (A : Around) (pn : List (Addr × Obj)) (p : Addr × Obj) : Prop where
  hd : A.handled = some (.ref p.1)
  fl : ∃ vs : Array Value, p.2.data = .fields vs ∧ (vs[2]? = some .none ∨ ∃ q : Addr × Obj, q ∈ pn ∧ q.1 ≠ p.1 ∧ vs[2]? = some (.ref q.1) ∧ ∃ ws : Array Value, q.2.data = .fields ws ∧ ws[2]? = some .none)
/-- the same, in a heap -/
def HotIn (A : Around) (x1 : Addr) (h : Heap) : Prop := A.handled = some (.ref x1) ∧ ∃ (o : Obj) (vs : Array Value), h.get? x1 = some o ∧ o.data = .fields vs ∧
  (vs[2]? = some .none ∨ ∃ (x2 : Addr) (u : Obj) (ws : Array Value), x2 ≠ x1 ∧ vs[2]? = some (.ref x2) ∧ h.get? x2 = some u ∧ u.data = .fields ws ∧ ws[2]? = some .none)
theorem HotIn.keep {A : Around} {x1 : Addr} {h h' : Heap} (t : HotIn A x1 h) (k : ∀ b o vs, o.data = .fields vs → h.get? b = some o → h'.get? b = some o) : HotIn A x1 h' := by
  obtain ⟨hh, o, vs, e, d, c | ⟨x2, u, ws, ne, c, e2, d2, c2⟩⟩ := t
  · exact ⟨hh, o, vs, k _ _ _ d e, d, .inl c⟩
  · exact ⟨hh, o, vs, k _ _ _ d e, d, .inr ⟨x2, u, ws, ne, c, k _ _ _ d2 e2, d2, c2⟩⟩
section
variable {prog : Program} {w : World} {A : Around} {E : Value → Shared → Prop} {s : Shared}
theorem unchained2 {x1 a : Addr} {Q : Value → Shared → Prop} (t : HotIn A x1 s.heap) (ha : ∀ x2 o vs, s.heap.get? x1 = some o → o.data = .fields vs → vs[2]? = some (.ref x2) → x2 ≠ a) (q : Q .none s) :
    wpAny (model prog w) A (holding [Value.ref a] (runValue (.builtin "proto.unchain" ⟨[.ref a, .ref x1, .ref x1, .bool false], []⟩))) Q E s := by
  obtain ⟨hh, o, vs, e, d, c | ⟨x2, u, ws, ne, c, e2, d2, c2⟩⟩ := t
  · exact HotX.unchained e d c q
  · have n1 : ¬ ((Value.ref x2 == Value.none) = true) := Bool.false_ne_true
    have n2 : ¬ ((Value.ref x2 == Value.ref a) = true) := fun z => ha x2 o vs e d c (Value.ref.inj (eq_of_beq z))
    have n3 : ¬ ((Value.ref x2 == Value.ref x1) = true) := fun z => ne (Value.ref.inj (eq_of_beq z))
    refine wpAny_holding (wpAny_runValue (codeAny_builtin HotX.entry_unchain ?_))
    show wpAny _ _ (field (.ref x1) 2 >>= _) _ _ s
    refine wpAny_bind (wpAny_field e d c ?_)
    rw [if_neg n1, if_neg n2, if_neg n3]
    refine wpAny_bind (wpAny_pure ?_)
    refine wpAny_of_eq rfl ⟨Code.quiet_builtin _ (by decide +kernel), codeAny_builtin HotX.entry_unchain ?_⟩
    show wpAny _ _ (field (.ref x2) 2 >>= _) _ _ s
    refine wpAny_bind (wpAny_field e2 d2 c2 ?_)
    rw [if_pos (show (Value.none == Value.none) = true from rfl)]
    first
    | exact wpAny_bind (wpAny_pure (wpAny_pure q))
    | exact wpAny_pure q
end
end DL
namespace DL
open PySem L2 PyProof.Rows
/-! ## raising, walking, catching under such chains -/
section
variable {prog : Program} {w : World} {A : Around} {E : Value → Shared → Prop} {s : Shared}
theorem raiseNew_in {α : Type} {h0 : Heap} {a x1 : Addr} {oe : Obj} {vs : Array Value} {Q : α → Shared → Prop} (t : HotIn A x1 h0) (k : ∀ b o ws, o.data = .fields ws → h0.get? b = some o → s.heap.get? b = some o) (n0 : h0.get? a = none)
    (at_a : s.heap.get? a = some oe) (da : oe.data = .fields vs) (hi : 2 < vs.size) (hE : E (.ref a) { s with heap := s.heap.update a (Obj.mapFields (·.setIfInBounds 2 (.ref x1))) }) : wpAny (model prog w) A (raiseNew (.ref a) : Sem α) Q E s := by
  have t2 := t.keep k
  obtain ⟨hh, o, ws, e, d, c⟩ := t
  have ne : x1 ≠ a := fun z => by rw [z, n0] at e; cases e
  have n2 : ∀ x2 o' us, s.heap.get? x1 = some o' → o'.data = .fields us → us[2]? = some (.ref x2) → x2 ≠ a := fun x2 o' us e' d' c' z => by
    rw [k _ _ _ d e] at e'
    cases e'
    rw [d] at d'
    cases d'
    rcases c with c | ⟨x3, u, _, _, c, e3, _⟩
    · rw [c] at c'; cases c'
    · rw [c] at c'
      cases c'
      rw [z, n0] at e3
      cases e3
  have fin := unchained2 (prog := prog) (w := w) (E := E) (Q := fun _ r => wpAny (model prog w) A (updateField a 2 (.ref x1)) (fun _ r' => wpAny (model prog w) A (throw (.ref a) : Sem α) Q E r') E r) t2 n2 (HotX.chained at_a da hi (wpAny_throw hE))
  unfold raiseNew
  refine wpAny_bind (wpAny_handled ?_)
  rw [hh]
  show wpAny _ _ (if (Value.ref x1 != Value.ref a) = true then _ else _) _ _ _
  rw [if_pos (HotX.ref_bne ne)]
  first
  | exact wpAny_bind (wpAny_mono fin (fun _ r q => wpAny_bind q) fun _ _ z => z)
  | exact wpAny_bind (wpAny_bind (wpAny_mono fin (fun _ r q => q) fun _ _ z => z))
/-- the end of a list's iterator -/
theorem next_end_in {it l x1 : Addr} {i : Nat} {items : Array Value} {Q : Option Value → Shared → Prop} (hot : HotIn A x1 s.heap) (nit : ∀ b o ws, o.data = .fields ws → s.heap.get? b = some o → (b = x1 ∨ ∃ o1 ws1, s.heap.get? x1 = some o1 ∧ o1.data = .fields ws1 ∧ ws1[2]? = some (.ref b)) → b ≠ it)
    (at_it : s.heap.IsListIter it l i) (at_l : s.heap.IsList l items) (out : items[i]? = none)
    (hQ : ∀ h', (∀ b o, b ≠ it → s.heap.get? b = some o → h'.get? b = some o) → Q none { s with heap := h' }) : wpAny (model prog w) A (pyNext (.ref it)) Q E s := by
  have ti := at_it.typeIs
  obtain ⟨oi, ei, ki, di⟩ := id at_it
  obtain ⟨ol, el, _, nl, dl⟩ := at_l
  have hot0 : HotIn A x1 (s.heap.update it (Obj.mapFields (·.setIfInBounds 0 .none))) := by
    obtain ⟨hh, o, vs, e, d, c⟩ := hot
    have up : ∀ b o, b ≠ it → s.heap.get? b = some o → (s.heap.update it (Obj.mapFields (·.setIfInBounds 0 .none))).get? b = some o := fun b o n e => (Heap.get?_update_other _ _ (Ne.symm n)).trans e
    refine ⟨hh, o, vs, up _ _ (nit _ _ _ d e (.inl rfl)) e, d, c.imp id fun ⟨x2, u, ws, ne, c, e2, d2, c2⟩ => ⟨x2, u, ws, ne, c, up _ _ (nit _ _ _ d2 e2 (.inr ⟨o, vs, e, d, c⟩)) e2, d2, c2⟩⟩
  unfold pyNext
  refine wpAny_bind (wpAny_attempt (wpAny_callSpecial?_slot (name := Str.ofString "__next__") ti slot_listiter_next (wpAny_call_entry slot_listiter_next ti entry_listiter_next (?_ : wpAny _ _ (field (.ref it) 0 >>= _) _ _ s) (args_listiter_next _))))
  refine wpAny_bind (wpAny_field ei di (x := .ref l) rfl (?_ : wpAny _ _ (if (Value.ref l == Value.none) = true then _ else _) _ _ s))
  have nn : ¬ ((Value.ref l == Value.none) = true) := Bool.false_ne_true
  rw [if_neg nn]
  refine wpAny_bind (m := field (.ref it) 1) (wpAny_field ei di (x := .int i 0) rfl (?_ : wpAny _ _ (seqItems? (.ref l) >>= _) _ _ s))
  refine wpAny_bind (wpAny_seqItems el dl ?_)
  simp only [Int.toNat_natCast, out]
  refine wpAny_bind (wpAny_rule (wpAny_bind (wpAny_setField ei di (by simp) (?_ : wpAny _ _ (newExc (.type "StopIteration") [] >>= _) _ _ _))))
  refine wpAny_bind ?_
  simp only [newTuple, newExc]
  refine wpAny_bind (wpAny_newObj_type (wpAny_bind (m := firstArgMember _ _) (wpAny_of_eq (a := Value.none) (by first | rfl | (simp only [firstArgMember]; rfl)) (wpAny_newObj_type ?_ (by size_fits)))) (by size_fits))
  have k0 : ∀ b o, b ≠ it → s.heap.get? b = some o → (s.heap.update it (Obj.mapFields (·.setIfInBounds 0 .none))).get? b = some o := fun b o n e => by
    rw [Heap.get?_update_other _ _ (Ne.symm n)]
    exact e
  refine raiseNew_in hot0 (fun b o ws _ e => Heap.get?_push_of_some _ (Heap.get?_push_of_some _ e)) ?_ (Heap.get?_push_size _ rfl) rfl (by first | (simp; done) | (simp; omega) | (simp only [Array.size_append]; simp; omega)) ?_
  · cases z : (s.heap.update it (Obj.mapFields (·.setIfInBounds 0 .none))).get? _ with
    | none => rfl
    | some o =>
      exact absurd (Heap.lt_size (Heap.get?_push_of_some { cls := Value.type "tuple", data := Data.seq #[] } z)) (Nat.lt_irrefl _)
  refine wpAny_bind (wpAny_isInstance (b := true) (T := "StopIteration") ⟨_, Heap.get?_update_self _ (Heap.get?_push_size _ rfl) rfl, rfl⟩ isSubtype_stop (wpAny_pure (hQ _ fun b o n e => ?_)))
  rw [Heap.get?_update_other _ _ (Nat.ne_of_gt (Heap.lt_size (Heap.get?_push_of_some _ (k0 b o n e))))]
  exact Heap.get?_push_of_some _ (Heap.get?_push_of_some _ (k0 b o n e))
end
/-- two exceptions, at addresses of their own, the second None or what is handled by -/
structure Kept (A : Around) (x1 x2 : Addr) (I : Addr) (h : Heap) : Prop where
  hot : HotIn A x1 h
  two : ∀ o ws b, h.get? x1 = some o → o.data = .fields ws → ws[2]? = some (.ref b) → b = x2
  n1 : x1 ≠ I
  n2 : x2 ≠ I
theorem Kept.go {A : Around} {x1 x2 I : Addr} {h h' : Heap} (t : Kept A x1 x2 I h) (k : ∀ b, b ∈ [x1, x2] → ∀ o, h.get? b = some o → h'.get? b = some o) : Kept A x1 x2 I h' := by
  obtain ⟨⟨hh, o, vs, e, d, c⟩, two, n1, n2⟩ := t
  have e' := k x1 (by simp) o e
  refine ⟨⟨hh, o, vs, e', d, ?_⟩, fun o' ws b q d' c' => ?_, n1, n2⟩
  · rcases c with c | ⟨y, u, ws, ne, c, e2, d2, c2⟩
    · exact .inl c
    · have := two o vs y e d c
      exact .inr ⟨y, u, ws, ne, c, k y (by simp [this]) u e2, d2, c2⟩
  · rw [e'] at q
    cases q
    exact two o ws b e d' c'
theorem Kept.not {A : Around} {x1 x2 I : Addr} {h : Heap} (t : Kept A x1 x2 I h) : ∀ b o ws, o.data = .fields ws → h.get? b = some o → (b = x1 ∨ ∃ o1 ws1, h.get? x1 = some o1 ∧ o1.data = .fields ws1 ∧ ws1[2]? = some (.ref b)) → b ≠ I := by
  rintro b o ws d e (z | ⟨o1, ws1, e1, d1, c1⟩)
  · rw [z]; exact t.n1
  · rw [t.two o1 ws1 b e1 d1 c1]; exact t.n2
section
variable {prog : Program} {w : World} {A : Around}
/-- such a walk of a list, by what it keeps -/
theorem walks_in {x1 x2 I ax : Addr} (n2 : ax ≠ I) (items : Array Value) :
    Walks prog w A I [I, ax, x1, x2] [I] items.size (fun i v => items[i]? = some v) (fun i h => (h.IsListIter I ax i ∧ h.IsList ax items) ∧ Kept A x1 x2 I h) where
  sub := fun b hb => by
    rw [List.mem_singleton.mp hb]
    exact List.mem_cons_self
  frame := fun i h h' st k => ⟨⟨st.1.1.at fun o e => k I (by simp) o e, st.1.2.at fun o e => k ax (by simp) o e⟩, st.2.go fun b m o e => k b (by rcases List.mem_cons.mp m with z | z <;> simp_all) o e⟩
  item := fun i s Q E lt st q => by
    obtain ⟨⟨s1, s2⟩, kp⟩ := st
    refine wpAny_pyNext_list_item s1 s2 (x := items[i]) (by simp [lt]) fun h2 s3 sb => q _ h2 s.toks (by simp [lt]) ⟨⟨s3, s2.extBut sb.extBut n2⟩, kp.go fun b m o e => sb.extBut b o ?_ e⟩ fun b o nb e => sb.extBut b o (fun z => nb (by simp [z])) e
    rcases List.mem_cons.mp m with z | z
    · rw [z]; exact kp.n1
    · rw [List.mem_singleton.mp z]; exact kp.n2
  done := fun s Q E st q => next_end_in st.2.hot st.2.not st.1.1 st.1.2 (by simp) fun h2 k => q h2 s.toks fun b o nb e => k b o (fun z => nb (by simp [z])) e
  self := fun i s Q E st q => wpAny_pyIter_listiter st.1.1 q
end
section
variable {X : Cx} {T : CT}
/-- what is handled, in the state -/
theorem hot2_obj {p : Addr × Obj} {pins : List (Addr × Obj)} {σ : L2.St} {H : Hp} {s : Shared} (hot : Hot2 X.A X.pn p) (m : p ∈ X.pn) (I : L2.Inv X pins σ H s) : ∃ x2, (∃ o, s.heap.get? x2 = some o) ∧ HotIn X.A p.1 s.heap ∧ ∀ o ws b, s.heap.get? p.1 = some o → o.data = .fields ws → ws[2]? = some (.ref b) → b = x2 := by
  obtain ⟨hh, vs, d, c⟩ := hot
  have e1 := (I.pin p (List.mem_append_left _ m)).1
  rcases c with c | ⟨q, mq, ne, c, ws, d2, c2⟩
  · refine ⟨p.1, ⟨_, e1⟩, ⟨hh, p.2, vs, e1, d, .inl c⟩, fun o ws b e d' c' => ?_⟩
    rw [e1] at e; cases e
    rw [d] at d'; cases d'
    rw [c] at c'; cases c'
  · have e2 := (I.pin q (List.mem_append_left _ mq)).1
    refine ⟨q.1, ⟨_, e2⟩, ⟨hh, p.2, vs, e1, d, .inr ⟨q.1, q.2, ws, ne, c, e2, d2, c2⟩⟩, fun o ws' b e d' c' => ?_⟩
    rw [e1] at e; cases e
    rw [d] at d'; cases d'
    rw [c] at c'; cases c'
    rfl
theorem call_anyL {p : Addr × Obj} (hot : Hot2 X.A X.pn p) (m : p ∈ X.pn) : CallR X (.builtin "any") (rAny X.K) := by
  rintro pins s σ H xs us Q I rel ⟨a, bs, rfl, at_a, q⟩
  obtain ⟨its, rv, il, _⟩ := I.list at_a
  have hb := rv.bls
  obtain ⟨x2, ⟨u2, g2⟩, h0, two⟩ := hot2_obj hot m I
  obtain ⟨hh, o1, fs1, e1, d1, c1⟩ := id h0
  rw [Vals.ref1 rel]
  refine call_any_walk (iter_any il.isList fun s2 es st ne => ?_)
  subst es
  have n1 : p.1 ≠ s.heap.objs.size := Nat.ne_of_lt (Heap.lt_size e1)
  have n2 : x2 ≠ s.heap.objs.size := Nat.ne_of_lt (Heap.lt_size g2)
  refine ⟨_, _, _, _, _, _, _, rfl, walks_in (A := X.A.in1) (x1 := p.1) (x2 := x2) ne its.toArray, ⟨st, ?_, ?_, n1, n2⟩, truth_bools hb, fun h2 tk k => ⟨.bl _, H, I.kept fun b o eb => k b o (fun z => ?_) (Heap.get?_push_of_some _ eb), ?_, q⟩⟩
  · exact HotIn.keep (A := X.A.in1) (h := s.heap) ⟨hh, o1, fs1, e1, d1, c1⟩ fun b o ws _ e => Heap.get?_push_of_some _ e
  · intro o ws b e d c
    rw [Heap.get?_push_of_some _ e1] at e
    cases e
    exact two o1 ws b e1 d c
  · rw [List.mem_singleton] at z
    exact absurd (z ▸ Heap.lt_size eb) (Nat.lt_irrefl _)
  · show Value.bool _ = Value.bool _
    rw [← L2.any_range, hb, List.size_toArray, List.length_map]
theorem bi_anyL {p : Addr × Obj} (hot : Hot2 X.A X.pn p) (m : p ∈ X.pn) : BiV X T (.builtin "any") (rAny X.K) (gQuant fun bs => bs.any id) := ⟨call_anyL hot m, fun G H vs ss e rep Q E w => gQuant_use e rep w⟩
end
end DL
namespace DL
open PySem L2 PyProof.Rows
/-! ## raise and try under such chains -/
section
variable {X : Cx} {pins : List (Addr × Obj)} {σ : L2.St} {H : Hp} {S s s' : Shared} {W : WX}
theorem XL.new {a : Addr} {oe : Obj} {vs : Array Value} {cls : Value} {d : Option Addr} (I : L2.Inv X pins σ H S) (k : ∀ b o, S.heap.get? b = some o → s'.heap.get? b = some o) (n0 : S.heap.get? a = none) (at_a : s'.heap.get? a = some oe) (z : Zc cls d oe)
    (c : CtxIs .none oe ∨ ∃ x u, CtxIs (.ref x) oe ∧ x ∉ frs X.stack ∧ S.heap.get? x = some u ∧ (∃ ws : Array Value, u.data = .fields ws ∧ ws[2]? = some .none) ∧ H x = none) (da : oe.data = .fields vs) (t1 : vs[1]? = some .none) (na : H a = none) (os : s'.os = S.os) (bare : AllBare s'.gens) (w : W cls d σ H) : XL X W (.ref a) s' := by
  have gnd : ∀ b o, S.heap.get? b = some o → b ∉ frs X.stack → (PySem.W.hideAll S.heap (frs X.stack)).get? b = some o := fun b o e m => PySem.W.hideAll_get _ e m
  have own : ∀ b o, (PySem.W.hideAll S.heap (frs X.stack)).get? b = some o → S.heap.get? b = some o := fun b o e => PySem.W.of_hideAll _ e
  have ga : (PySem.W.hideAll S.heap (frs X.stack)).get? a = none := by
    cases q : (PySem.W.hideAll S.heap (frs X.stack)).get? a with
    | none => rfl
    | some o => rw [own a o q] at n0; cases n0
  have ff : s'.heap.FunFrames (PySem.W.hideAll S.heap (frs X.stack)) X.stack := Heap.FunFrames.of_keeps (fun b o e _ => ⟨o, k b o e, rfl⟩) (funFrames_none I.stack fun b m => PySem.W.hideAll_none _ m)
  refine ⟨a, _, S, pins, σ, H, cls, d, rfl, I, gnd, Heap.UpToSlots.of_keeps k, .inl ⟨fun b o e => k b o (own b o e), ga, ff, oe, vs, at_a, ⟨z, ?_⟩, da, t1⟩, na, os, bare, w⟩
  exact c.imp id fun ⟨x, u, cx, nf, e, f, hx⟩ => ⟨x, u, cx, gnd x u e nf, f, hx⟩
/-- raise e, while p is handled -/
theorem ps_raiseL {e : Expr} {t : L2.St → Hp → XK → Prop} {pos : Pos} {p : Addr × Obj} (hot : L2H.Hot1 X.A p) (m : p ∈ X.pn) (tk : TkL X W) (he : L2N.PMk X e t) : PS X (.Raise (some e) none pos) (fun _ σ H => t σ H fun cls d H' => W cls d σ H') := by
  refine ⟨fun pins s σ H D I h => ?_⟩
  obtain ⟨hh, v1, e1, c1⟩ := hot
  show wpAny _ _ (do standAt pos; raiseStmt X.env (some (do let v ← eval e X.env; standAt pos; pure v)) none) _ _ _
  refine wpAny_bind (wpAny_standAt (HotX.raise_made_hot (x1 := p.1) (wpAny_bind (wpAny_mono (he pins s σ H _ I h) (fun u s1 got => wpAny_bind (wpAny_standAt (wpAny_pure ?_))) fun _ _ z => z))))
  obtain ⟨a, oe, vs, S, H', cls, d, rfl, J, k, n0, at_a, z, da, t1, na, os, bare, r, q⟩ := got
  obtain ⟨r1, r2⟩ := r (model X.prog X.w) s1.heap (J.kIn.keeps k)
  obtain ⟨g1, g2, g3, g4, _⟩ := J.pin p (List.mem_append_left _ m)
  have ne : p.1 ≠ a := fun y => by rw [y, n0] at g1; cases g1
  have hi : 2 < vs.size := (Array.getElem?_eq_some_iff.mp (z.2.2 vs da)).1
  have d2 : (oe.mapFields (·.setIfInBounds 2 (.ref p.1))).data = .fields (vs.setIfInBounds 2 (.ref p.1)) := Obj.data_mapFields da _
  have t2 : (vs.setIfInBounds 2 (Value.ref p.1))[1]? = some Value.none := by
    have : (vs.setIfInBounds 2 (Value.ref p.1))[1]? = vs[1]? := by simp [Array.getElem?_setIfInBounds]
    rw [this]; exact t1
  have c2 : CtxIs (.ref p.1) (oe.mapFields (·.setIfInBounds 2 (.ref p.1))) := fun us y => by
    rw [d2] at y
    cases y
    simp [Array.getElem?_setIfInBounds, hi]
  refine ⟨a, oe, vs, cls, rfl, at_a, z.1, da, t1, hi, ne, ⟨hh, p.2, v1, k _ _ g1, e1, c1⟩, r1, r2, tk _ _ (XL.new J (fun b u y => ?_) n0 (Heap.get?_update_self _ at_a (Obj.isFreed_of_fields d2)) ⟨(Obj.cls_mapFields ..).trans z.1, (HandSPX.dict_mapFields ..).trans z.2.1⟩
    (.inr ⟨p.1, p.2, c2, fun y => (List.mem_cons.mp (J.stkSub p.1 y)).elim g3 g4, g1, ⟨v1, e1, c1⟩, g2⟩) d2 t2 na os bare q)⟩
  have nb : a ≠ b := fun x => by rw [← x, n0] at y; cases y
  show (s1.heap.update a (Obj.mapFields (·.setIfInBounds 2 (.ref p.1)))).get? b = some u
  rw [Heap.get?_update_other _ _ nb]
  exact k b u y
/-- a pin more -/
theorem Inv.pin1 (I : L2.Inv X pins σ H s) {q : Addr × Obj} (g : s.heap.get? q.1 = some q.2) (n : H q.1 = none) (nf : q.1 ∉ frs (X.env :: X.outer)) (hs : X.stack = X.env :: X.outer) (hf : X.env.frame = some X.env.locals) (d : ∃ ws : Array Value, q.2.data = .fields ws) (fs : ∀ b, b ∈ X.fs → b ∈ frs X.outer) : L2.Inv X (q :: pins) σ H s :=
  ⟨I.ok, I.os, I.bare, I.base, I.loc, I.cell, I.free, I.freeC, fun p m => by
    have m : p = q ∨ p ∈ X.pn ++ pins := by
      rcases List.mem_append.mp m with m | m
      · exact .inr (List.mem_append_left _ m)
      · rcases List.mem_cons.mp m with m | m
        · exact .inl m
        · exact .inr (List.mem_append_right _ m)
    rcases m with z | m
    · subst z
      refine ⟨g, n, fun z => nf (List.mem_filterMap.mpr ⟨X.env, List.mem_cons_self, by rw [hf, z]⟩), fun z => ?_, fun v z => ?_⟩
      · obtain ⟨e, me, y⟩ := List.mem_filterMap.mp (fs _ z)
        exact nf (List.mem_filterMap.mpr ⟨e, List.mem_cons_of_mem _ me, y⟩)
      · obtain ⟨ws, d⟩ := d
        rw [d] at z; cases z
    · exact I.pin p m, I.hok, I.len⟩
theorem Inv.pin0 {q : Addr × Obj} (I : L2.Inv X (q :: pins) σ H s) : L2.Inv X pins σ H s :=
  ⟨I.ok, I.os, I.bare, I.base, I.loc, I.cell, I.free, I.freeC, fun p m => I.pin p (by
    rcases List.mem_append.mp m with m | m
    · exact List.mem_append_left _ m
    · exact List.mem_append_right _ (List.mem_cons_of_mem _ m)), I.hok, I.len⟩
/-- what stands among the frames is no record -/
theorem notFrame {B h : Heap} {l : List PySem.Env} {a : Addr} {o : Obj} {vs : Array Value} (f : h.FunFrames B l) (e : h.get? a = some o) (d : o.data = .fields vs) : a ∉ frs l := fun m => by
  obtain ⟨_, o', e', nf⟩ := f.mem m
  rw [e] at e'
  cases e'
  exact nf _ d
end
section
variable {X : Cx} {x : Str} {c : Value} {body suite orelse : List Stmt} {b₀ : Stmt} {np pos pos' : Pos} {tb : WX → TS} {ts : Addr → Value → Option Addr → TS} {u : TS} {Wout : WX}
/-- try: body; except x: a suite that raises; else: .. (the body's exceptions have no context) -/
theorem ps_tryE (ho : PSs X orelse u) (hs : X.stack = X.env :: X.outer) (hf : X.env.frame = some X.env.locals) (hc : Names X x c) (hp : ∀ hd : Option Value, PassesOwnAt (model X.prog X.w) (X.A.mark hd) X.A X.env X.xe) (tk : TkL X Wout)
    (hb : ∀ (W : WX) (pn : List (Addr × Obj)) (xe : Value → Shared → Prop), L2N.Takes (X.tr pn xe) W → PSs (X.tr pn xe) body (tb W))
    (hS : ∀ (a : Addr) (oe : Obj) (cls : Value) (d : Option Addr) (pn : List (Addr × Obj)), L2N.Zn cls d oe → (∃ vs, oe.data = .fields vs) → TkL (L2H.suiteX X a ((a, oe) :: pn)) Wout → PSs (L2H.suiteX X a ((a, oe) :: pn)) (b₀ :: suite) (ts a cls d)) :
    PS X (.Try body [.ExceptHandler (some (.Name x np)) none (b₀ :: suite) pos'] orelse [] pos) (fun D σ H => tb (wOnly X.K c ts Wout D) { D with nx := u D } σ H) := by
  refine ⟨fun pins s σ H D I wish => ?_⟩
  have ok := I.ok
  have fr : X.A.frames = some (X.env :: X.outer) := ok.frames.trans (congrArg some hs)
  refine wpAny_Try_except (wpAny_mono ((hb (wOnly X.K c ts Wout D) (X.pn ++ pins) (fun e s1 => wpAny (model X.prog X.w) X.A (noteFrame e X.env) (fun _ s2 => wpAny (model X.prog X.w) X.A (setFlight e none) (fun _ s3 =>
    wpAny (model X.prog X.w) X.A (handleBy e X.env [.ExceptHandler (some (.Name x np)) none (b₀ :: suite) pos']) (SP X pins D) X.xe s3) X.xe s2) X.xe s1) ?_).run [] s σ H { D with nx := u D } (I.toTry _) wish) (fun f s1 out => ?_) fun _ _ z => z)
  · intro v s1 air
    obtain ⟨a, B, S, pins2, σ1, H1, cls, d, rfl, J0, gnd, up, sky, na, os, bare, b, hb1, yes, no⟩ := air
    have J : L2.Inv X pins σ1 H1 S := J0.ofTry ok
    have sky1 : Sky B (X.env :: X.outer) a (L2N.Zn cls d) X.env.locals s1.heap := hs ▸ sky
    show wpAny (model X.prog X.w) X.A (noteFrame (.ref a) X.env) _ _ _
    refine L2N.Sky.land L2N.Zn.steady fr hf sky1 fun h3 fl up3 => ?_
    have J3 : L2.Inv X pins σ1 H1 { s1 with heap := h3 } := J.landed gnd fl.1 (up.trans up3) os bare
    obtain ⟨o3, v3, e3, z3, d3⟩ := fl.there
    have nfr := notFrame fl.2.2.1 e3 d3
    have nL : a ≠ X.env.locals := fun z => nfr (List.mem_filterMap.mpr ⟨X.env, List.mem_cons_self, by rw [hf, z]⟩)
    have nF : a ∉ X.fs := fun m => by
      obtain ⟨e, me, q⟩ := List.mem_filterMap.mp m
      exact nfr (List.mem_filterMap.mpr ⟨e, List.mem_cons_of_mem _ me, q⟩)
    have S3 := J3.suite e3 d3 na nL nF
    refine wpAny_handleBy_cons (codeAny_handlers_test ?_) (by intro q; cases q)
    have cl : PySem.W.Looks (model X.prog X.w) h3 (typeOf (.ref a)) cls := fun A Q E t k q => wpAny_typeOf_ref (k _ _ e3) (by rw [z3.1]; exact q)
    have isit := PySem.W.exm_one (M := model X.prog X.w) (J3.kIn) cl hb1
    have named : ∀ {Q E : Value → Shared → Prop}, Q c { s1 with heap := h3 } → wpAny (model X.prog X.w) (X.A.mark (some (.ref a))) (eval (.Name x np) X.env) Q E { s1 with heap := h3 } := fun {Q E} q => by
      obtain ⟨hg, hdb, hm | ⟨hm, hv, hn⟩⟩ := hc
      · exact ld_glob (X := X.suite a ((a, o3) :: (X.pn ++ pins))) S3 hg hm q hdb
      · exact ld_blt (X := X.suite a ((a, o3) :: (X.pn ++ pins))) S3 hg hm hv q hn hdb
    refine named (isit.here ?_)
    cases b with
    | true =>
      refine codeAny_handlers_suite (HandSPX.lands_againZ fl fun h4 fl4 up4 => ?_)
      have J4 : L2.Inv X pins σ1 H1 { s1 with heap := h4 } := J.landed gnd fl4.1 ((up.trans up3).trans up4) os bare
      obtain ⟨o4, v4, e4, z4, d4⟩ := fl4.there
      have S4 := J4.suite e4 d4 na nL nF
      have tkS : TkL (L2H.suiteX X a ((a, o4) :: (X.pn ++ pins))) Wout := fun v2 s2 ⟨a2, B2, S2, p2, σ2, H2, cls2, d2, e2, F⟩ =>
        tk v2 s2 ⟨a2, B2, S2, pins, σ2, H2, cls2, d2, e2, L2H.unsuiteX F.inv ok, F.gnd, F.up, F.sky, F.na, F.os, F.bare, F.w⟩
      refine wpAny_mono ((hS a o4 cls d (X.pn ++ pins) z4 ⟨_, d4⟩ tkS).run [] _ _ H1 _ (L2H.suiteX_of S4) (yes rfl a na)) (fun f s6 out => ?_) (fun v6 s6 z => hp (some (.ref a)) v6 s6 z)
      cases f with
      | ret _ =>
        obtain ⟨v6, σ6, H6, S6, r6, q6⟩ := out
        exact ⟨_, _, _, L2H.unsuiteX S6 ok, r6, q6⟩
      | _ =>
        obtain ⟨σ6, H6, S6, q6⟩ := out
        exact ⟨_, _, L2H.unsuiteX S6 ok, q6⟩
    | false =>
      show wpAny _ X.A (handleBy (.ref a) X.env []) _ _ _
      refine wpAny_handleBy_nil ?_
      obtain ⟨_, _, _, oe, vs, T, _, _, he, _, hd, h1, _⟩ := id fl
      unfold PySem.passOn
      refine wpAny_bind (wpAny_field he hd h1 ?_)
      rw [if_neg (show ¬ ((Value.ref T == Value.none) = true) from Bool.false_ne_true)]
      have on : wpAny (model X.prog X.w) X.A (setFlight (.ref a) X.env.frame) (fun _ t => wpAny (model X.prog X.w) X.A (throw (.ref a) : Sem Flow) (SP X pins D) X.xe t) X.xe { s1 with heap := h3 } := by
        rw [hf]
        refine HandSPX.setFlight_upZ fl fun h4 held up4 => wpAny_throw (tk.n _ _ ⟨a, B, S, pins, σ1, H1, cls, d, rfl, J, gnd, (up.trans up3).trans up4, .inr (.inr (by rw [hs]; exact held)), na, os, bare, no rfl⟩)
      first
        | exact wpAny_bind (wpAny_pure (wpAny_bind on))
        | exact wpAny_bind on
  · cases f with
    | next =>
      obtain ⟨σ1, H1, J, q⟩ := out
      exact ho.run pins s1 σ1 H1 D (J.ofTry ok) q
    | ret _ =>
      obtain ⟨v, σ1, H1, J, r, q⟩ := out
      exact ⟨v, σ1, H1, J.ofTry ok, r, q⟩
    | _ =>
      obtain ⟨σ1, H1, J, q⟩ := out
      exact ⟨σ1, H1, J.ofTry ok, q⟩
end
end DL
namespace DL
open PySem L2 PyProof.Rows
/-! ## try: .. except x as n, such chains caught -/
section
variable {X : Cx} {x n : Str} {c : Value} {i : Nat} {body suite : List Stmt} {b₀ : Stmt} {np pos pos' : Pos} {tb : WX → TS} {ts : Addr → Value → Option Addr → TS} {Wout : WX}
theorem ps_try_asL (hs : X.stack = X.env :: X.outer) (hf : X.env.frame = some X.env.locals) (hN : X.N.Nodup) (hi : X.N[i]? = some n) (hln : X.env.kindOf n = some .local) (hc : Names X x c) (tk : TkL X Wout)
    (hb : ∀ (W : WX) (pn : List (Addr × Obj)) (xe : Value → Shared → Prop), TkL (X.tr pn xe) W → PSs (X.tr pn xe) body (tb W))
    (hS : ∀ (a : Addr) (oe : Obj) (cls : Value) (d : Option Addr) (pn : List (Addr × Obj)), Zc cls d oe → Hot2 (X.A.mark (some (.ref a))) ((a, oe) :: pn) (a, oe) → PSs (X.suite a ((a, oe) :: pn)) (b₀ :: suite) (ts a cls d)) :
    PS X (.Try body [.ExceptHandler (some (.Name x np)) (some n) (b₀ :: suite) pos'] [] [] pos) (fun D σ H => tb (wAs X.K c i ts Wout D) D σ H) := by
  refine ⟨fun pins s σ H D I wish => ?_⟩
  have ok := I.ok
  have fr : X.A.frames = some (X.env :: X.outer) := ok.frames.trans (congrArg some hs)
  refine wpAny_Try_except (wpAny_mono ((hb (wAs X.K c i ts Wout D) (X.pn ++ pins) (fun e s1 => wpAny (model X.prog X.w) X.A (noteFrame e X.env) (fun _ s2 => wpAny (model X.prog X.w) X.A (setFlight e none) (fun _ s3 =>
    wpAny (model X.prog X.w) X.A (handleBy e X.env [.ExceptHandler (some (.Name x np)) (some n) (b₀ :: suite) pos']) (SP X pins D) X.xe s3) X.xe s2) X.xe s1) ?_).run [] s σ H D (I.toTry _) wish) (fun f s1 out => ?_) fun _ _ z => z)
  · intro v s1 air
    obtain ⟨a, B, S, pins2, σ1, H1, cls, d, rfl, F⟩ := air
    obtain ⟨b, hb1, yes, no⟩ := F.w
    have J : L2.Inv X pins σ1 H1 S := F.inv.ofTry ok
    have sky1 : Sky B (X.env :: X.outer) a (Zl B H1 cls d) X.env.locals s1.heap := hs ▸ F.sky
    show wpAny (model X.prog X.w) X.A (noteFrame (.ref a) X.env) _ _ _
    refine L2N.Sky.land Zl.steady fr hf sky1 fun h3 fl up3 => ?_
    have J3 : L2.Inv X pins σ1 H1 { s1 with heap := h3 } := J.landed F.gnd fl.1 (F.up.trans up3) F.os F.bare
    obtain ⟨o3, v3, e3, z3, d3⟩ := fl.there
    have nfr := notFrame fl.2.2.1 e3 d3
    have nL : a ≠ X.env.locals := fun z => nfr (List.mem_filterMap.mpr ⟨X.env, List.mem_cons_self, by rw [hf, z]⟩)
    have nF : a ∉ X.fs := fun m => by
      obtain ⟨e, me, q⟩ := List.mem_filterMap.mp m
      exact nfr (List.mem_filterMap.mpr ⟨e, List.mem_cons_of_mem _ me, q⟩)
    have S3 := J3.suite e3 d3 F.na nL nF
    refine wpAny_handleBy_cons (codeAny_handlers_test ?_) (by intro q; cases q)
    have cl : PySem.W.Looks (model X.prog X.w) h3 (typeOf (.ref a)) cls := fun A Q E t k q => wpAny_typeOf_ref (k _ _ e3) (by rw [z3.1.1]; exact q)
    have isit := PySem.W.exm_one (M := model X.prog X.w) (J3.kIn) cl hb1
    have named : ∀ {Q E : Value → Shared → Prop}, Q c { s1 with heap := h3 } → wpAny (model X.prog X.w) (X.A.mark (some (.ref a))) (eval (.Name x np) X.env) Q E { s1 with heap := h3 } := fun {Q E} q => by
      obtain ⟨hg, hdb, hm | ⟨hm, hv, hn⟩⟩ := hc
      · exact ld_glob (X := X.suite a ((a, o3) :: (X.pn ++ pins))) S3 hg hm q hdb
      · exact ld_blt (X := X.suite a ((a, o3) :: (X.pn ++ pins))) S3 hg hm hv q hn hdb
    refine named (isit.here ?_)
    cases b with
    | true =>
      refine codeAny_handlers_suite_as (HandSPX.lands_againZ fl fun h4 fl4 up4 => ?_)
      have J4 : L2.Inv X pins σ1 H1 { s1 with heap := h4 } := J.landed F.gnd fl4.1 ((F.up.trans up3).trans up4) F.os F.bare
      obtain ⟨o4, v4, e4, z4, d4⟩ := fl4.there
      have pinned : ∃ pins4, L2.Inv X pins4 σ1 H1 { s1 with heap := h4 } ∧ (∀ σ' H' s', L2.Inv X pins4 σ' H' s' → L2.Inv X pins σ' H' s') ∧ Hot2 (X.A.mark (some (.ref a))) ((a, o4) :: (X.pn ++ pins4)) (a, o4) := by
        rcases z4.2 with c0 | ⟨x2, u2, c0, root⟩
        · exact ⟨pins, J4, fun _ _ _ z => z, rfl, v4, d4, .inl (c0 v4 d4)⟩
        · obtain ⟨ws, d2, t2⟩ := root.fld
          have g2 := fl4.1 _ _ root.get
          refine ⟨(x2, u2) :: pins, Inv.pin1 J4 (q := (x2, u2)) g2 root.free (notFrame fl4.2.2.1 g2 d2) hs hf ⟨ws, d2⟩ (fun b m => m), fun _ _ _ z => Inv.pin0 z, rfl, v4, d4, .inr ⟨(x2, u2), by simp, fun z => ?_, c0 v4 d4, ws, d2, t2⟩⟩
          have g0 := root.get
          rw [show x2 = a from z, fl4.2.1] at g0
          cases g0
      obtain ⟨pins4, J5, back, hot⟩ := pinned
      have S4 := J5.suite e4 d4 F.na nL nF
      refine store_ok (X := X.suite a ((a, o4) :: (X.pn ++ pins4))) (v := .ref a) S4 hN hi (.inl hln) rfl (fun s5 S5 => ?_) (.inr hln)
      refine wpAny_mono ((hS a o4 cls d (X.pn ++ pins4) z4.1 hot).run [] s5 _ H1 _ S5 (yes rfl a F.na)) (fun f s6 out => ?_) (fun _ _ z => False.elim z)
      have fin : ∀ {σ6 : L2.St} {H6 : Hp} {Q : Shared → Prop}, L2.Inv (X.suite a ((a, o4) :: (X.pn ++ pins4))) [] σ6 H6 s6 → (∀ s7, L2.Inv X pins (σ6.set i none) H6 s7 → Q s7) →
          wpAny (model X.prog X.w) X.A (do bindName X.env n .none; unbindBehindTheSuite X.env n pos') (fun _ s7 => Q s7) X.xe s6 := fun {σ6 H6 Q} S6 k => gone_ok (S6.unsuite ok) hN hi hln fun s7 J7 => k s7 (back _ _ _ J7)
      cases f with
      | ret _ =>
        obtain ⟨v6, σ6, H6, S6, r6, q6⟩ := out
        exact fin S6 fun s7 J7 => ⟨_, _, _, J7, r6, q6⟩
      | _ =>
        obtain ⟨σ6, H6, S6, q6⟩ := out
        exact fin S6 fun s7 J7 => ⟨_, _, J7, q6⟩
    | false =>
      show wpAny _ X.A (handleBy (.ref a) X.env []) _ _ _
      refine wpAny_handleBy_nil ?_
      obtain ⟨_, _, _, oe, vs, T, _, _, he, _, hd, h1, _⟩ := id fl
      unfold PySem.passOn
      refine wpAny_bind (wpAny_field he hd h1 ?_)
      rw [if_neg (show ¬ ((Value.ref T == Value.none) = true) from Bool.false_ne_true)]
      have on : wpAny (model X.prog X.w) X.A (setFlight (.ref a) X.env.frame) (fun _ t => wpAny (model X.prog X.w) X.A (throw (.ref a) : Sem Flow) (SP X pins D) X.xe t) X.xe { s1 with heap := h3 } := by
        rw [hf]
        refine HandSPX.setFlight_upZ fl fun h4 held up4 => wpAny_throw (tk _ _ ⟨a, B, S, pins, σ1, H1, cls, d, rfl, J, F.gnd, (F.up.trans up3).trans up4, .inr (.inr (by rw [hs]; exact held)), F.na, F.os, F.bare, no rfl⟩)
      first
        | exact wpAny_bind (wpAny_pure (wpAny_bind on))
        | exact wpAny_bind on
  · cases f with
    | next =>
      obtain ⟨σ1, H1, J, q⟩ := out
      exact wpAny_execs_nil ⟨σ1, H1, J.ofTry ok, q⟩
    | ret _ =>
      obtain ⟨v, σ1, H1, J, r, q⟩ := out
      exact ⟨v, σ1, H1, J.ofTry ok, r, q⟩
    | _ =>
      obtain ⟨σ1, H1, J, q⟩ := out
      exact ⟨σ1, H1, J.ofTry ok, q⟩
end
end DL
namespace DL
open PySem L2 PyProof.Rows
/-! ## defs whose exceptions may bear a context (L-forms) -/
section
variable {P : Program} {w : World} {K : PySem.W.Frag} {T : CT} {mg : Str → Option Value} {base : Heap}
theorem fn_defL {x qual : Str} {st : Stmt} {f : Addr} {fd : FuncData} {N ps : List Str} {k n np : Nat} {Fb : Env → Fl} (F : Fun K x qual st f fd) (S : FnScope N ps (defScope st)) (hn : N.length = n) (hnp : ps.length = np)
    (hbody : ∀ (cdv : Value) (A : Around) (outer : List PySem.Env) (s : Shared) (H : Hp) (E : XK), Room k (A.deeper (PyProof.Rows.envOfC qual (defScope st) s.heap.objs.size f cdv)) →
      TkL (cxOf (CXL P w) P w K mg base N qual (defScope st) f cdv A outer s H E) (wxE E) →
      ∃ t, DSs (cxOf (CXL P w) P w K mg base N qual (defScope st) f cdv A outer s H E) T E (defBody st) t Fb) : FnOk P w K mg base (CXL P w) (k + 1) f fd ps (spD ⟨K, T, P, w⟩ (defF n np Fb)) := by
  subst hn hnp
  obtain ⟨oc, od, kV, doc, pm, an, cdv, ct, osl, rfl, lk, hcd⟩ := F.ex
  refine fn_of lk hcd S (fun vs H Q E h => ?_) fun A outer s H vs Q E hr h => ?_
  · obtain ⟨G, ds, e, hl, wi⟩ := h
    unfold defF at wi
    by_cases q : ds.length = ps.length
    · rw [hl.length]; exact q
    · rw [if_neg q] at wi; exact wi.elim
  · obtain ⟨G, ds, e, hl, wi⟩ := h
    obtain ⟨t, hd⟩ := hbody cdv A outer s H E hr (tkl_of rfl rfl rfl rfl)
    refine ⟨t, ⟨hd.ps.run⟩, ?_⟩
    unfold defF at wi
    by_cases q : ds.length = ps.length
    · rw [if_pos q] at wi
      exact hd.ev G H G H _ _ (sOk_start e hl N) _ (wish_run wi)
    · rw [if_neg q] at wi; exact wi.elim
theorem fn_defL0 {x qual : Str} {st : Stmt} {f : Addr} {fd : FuncData} {N ps : List Str} {k n np : Nat} {Fb : Env → Fl} (F : Fun K x qual st f fd) (S : FnScope N ps (defScope st)) (hn : N.length = n) (hnp : ps.length = np)
    (hbody : ∀ (cdv : Value) (A : Around) (outer : List PySem.Env) (s : Shared) (H : Hp) (E : XK), Room k (A.deeper (PyProof.Rows.envOfC qual (defScope st) s.heap.objs.size f cdv)) →
      TkL (cxOf (CXL P w) P w K mg base N qual (defScope st) f cdv A outer s H E) (wxE E) →
      ∃ t, DSs (cxOf (CXL P w) P w K mg base N qual (defScope st) f cdv A outer s H E) T E (defBody st) t Fb) : FnOk P w K mg base (CXL P w) (k + 1) f fd ps (spD ⟨K, T, P, w⟩ (defF0 n np Fb)) :=
  (fn_defL F S hn hnp hbody).imp fun vs H Q E h => spD_less (fun ds => noEx_or _) h
/-- an __init__ that says Base.__init__(self, ".."); self.f = x, while an exception is handled -/
theorem fnH_xinit {x qual : Str} {st : Stmt} {f : Addr} {fd : FuncData} {N ps : List Str} {k : Nat} {C : Addr} {fl m : Str} (F : Fun K x qual st f fd) (S : FnScope N ps (defScope st)) (hN : N.length = 2) (hps : ps.length = 2) (T : OexC K C) (hno : PySem.W.findIn K (.ref C) fl = some none)
    (hb : ∀ (cdv : Value) (A : Around) (outer : List PySem.Env) (s : Shared) (H : Hp) (E : XK) (p : Addr × Obj), PSs (L2H.cxH CX0 P w K mg base N qual (defScope st) f cdv A outer s H E p) (defBody st) (tSeq (tDrop (tVeI K (tCons (tVar 0) (tCons (tC (.str m)) tNil)))) (tOst K fl (tVar 0) (tVar 1)))) :
    L2H.FnH P w K mg base CX0 (k + 1) f fd ps (spXI C fl) := by
  obtain ⟨oc, od, kV, doc, pm, an, cdv, ct, osl, rfl, lk, hcd⟩ := F.ex
  refine L2H.fn_ofH lk hcd S (fun vs H Q E h => ?_) fun A outer s H vs Q E p _ hr h => ⟨_, hb cdv A outer s H E p, spXI_read (E := E) T hno hN h⟩
  obtain ⟨a, v, rfl, _⟩ := h
  exact hps.symm
end
/-- a class of exceptions with such an __init__, made while one is handled -/
structure ExH (P : Program) (w : World) (mg : Str → Option Value) (K : PySem.W.Frag) (T : CT) (base : Heap) (x : Str) (c : Nat) (fl : Str) : Prop where
  ex : ∃ fI fd ps, L2H.FnH P w K mg base CX0 1 fI fd ps (spXI (T.C c) fl) ∧ Binds K fd ps [] ∧ PySem.W.findIn K (.ref (T.C c)) "__init__" = some (some (.ref fI)) ∧ PySem.W.typeIn K (.ref fI) = some (.type "function")
  oe : OexC K (T.C c)
  gC : mg x = some (.ref (T.C c))
  fs : fsOf c = [fl]
theorem ExH.pin {P : Program} {w : World} {mg : Str → Option Value} {K : PySem.W.Frag} {T : CT} {base : Heap} {x : Str} {c : Nat} {fl : Str} {a : Addr} {c' : Nat} {d : Option Addr} (h : ExH P w mg K T base x c fl) : ExH P w mg K (T.at a c' d) base x c fl := ⟨h.ex, h.oe, h.gC, h.fs⟩
section
variable {X : Cx} {T : CT} {E : XK}
/-- raise C(e), while p is handled -/
theorem ds_raiseH {x : Str} {c : Nat} {fl : Str} {e : Expr} {te : TE} {f : Env → Res R} {p : Addr × Obj} {q pos pos2 : Pos} (hot : L2H.Hot1 X.A p) (m : p ∈ X.pn) (tk : TkL X (wxE E)) (h : ExH X.prog X.w X.mg X.K T X.base x c fl) (hr : L2H.RoomH 2 X.A) (he : DE X T (kx E) e te f) (hg : Gl X x := by rfl)
    (hdb : (x == ("__debug__" : Str)) = false := by decide) (hst : starEach [e] X.env = (false, eval e X.env) :: starEach [] X.env := by rfl) :
    DS X T E (.Raise (some (.Call (.Name x q) [e] [] pos)) none pos2) (fun _ σ H => tMkO (T.C c) (spXI (T.C c) fl) [] (tCons te tNil) σ H fun cls d H' => E cls d H') (raiseF c f) := by
  obtain ⟨fI, fd, ps, F, hb, iC, tI⟩ := h.ex
  refine ⟨ps_raiseL hot m tk (L2H.pmk5_oexH h.oe iC tI F hr ⟨p, hot, m⟩ hb pass0 hg h.gC (pa_cons he.pe pa_nil hst) hdb hst).pmk, fun G0 H0 G H σ env s Dn w => ?_⟩
  unfold raiseF at w
  refine he.ev.toS s w fun r v G1 H1 g rep w1 => ?_
  cases q : store true r with
  | none => rw [q] at w1; exact w1.elim
  | some o =>
    rw [q] at w1
    obtain ⟨G', cs, g', ex, ho, fr⟩ := store_rep rep g q
    exact mk_w fun d n => xd_wish (p := pw X T) w1 (s.gr.trans g') ho (fun a m => Evl.fresh_back s.gr.h (fr a m)) h.fs n
/-- f(e, ..), f such a def -/
theorem de_callLW {W : WX} {e : Expr} {es : List Expr} {t : TA} {fr : Env → Res (List S)} {x : Str} {p pos : Pos} {k : Nat} {F : List D → Res R} (h : FnD X.prog X.w X.K T X.mg X.base (CXL X.prog X.w) x k F) (hr : Room k X.A) (tk : TkL X W) (ha : DA X T (WE W) (e :: es) t fr) (hg : Gl X x := by rfl)
    (hd : (x == ("__debug__" : Str)) = false := by decide) (he : starEach (e :: es) X.env = (false, eval e X.env) :: starEach es X.env := by rfl) (hpl : (backTo pos (starEach es X.env)).any (·.1) = false := by rfl) :
    DE X T (WE W) (.Call (.Name x p) (e :: es) [] pos) (tCallS (spD (pw X T) F) (WE W) t) (fCall F fr) := by
  obtain ⟨f, fd, ps, F', hm, hk, hb⟩ := h.ex
  refine ⟨pe_callS F' hr hg hm hk hb (fun σ => passAtL tk σ) ha.pa hd he hpl, fun G0 H0 G H σ env s Q w => ?_⟩
  refine ha.ev.to s (ok := okR (pw X T) Q) w (fun _ _ g' _ h => h.grow g') fun ss vs G1 H1 g1 rep w1 => ?_
  exact callS_use (p := pw X T) g1.gh rep w1
theorem de_callL {e : Expr} {es : List Expr} {t : TA} {fr : Env → Res (List S)} {x : Str} {p pos : Pos} {k : Nat} {F : List D → Res R} (h : FnD X.prog X.w X.K T X.mg X.base (CXL X.prog X.w) x k F) (hr : Room k X.A) (tk : TkL X (wxE E)) (ha : DA X T (kx E) (e :: es) t fr) (hg : Gl X x := by rfl)
    (hd : (x == ("__debug__" : Str)) = false := by decide) (he : starEach (e :: es) X.env = (false, eval e X.env) :: starEach es X.env := by rfl) (hpl : (backTo pos (starEach es X.env)).any (·.1) = false := by rfl) :
    DE X T (kx E) (.Call (.Name x p) (e :: es) [] pos) (tCallS (spD (pw X T) F) (kx E) t) (fCall F fr) := de_callLW (W := wxE E) h hr tk ha hg hd he hpl
end
/-! ### the suite -/
structure PinL (T : CT) (p : Addr × Obj) (c : Nat) (d : Option Addr) : Prop where
  z : Zc (.ref (T.C c)) d p.2
  f : ∃ vs : Array Value, p.2.data = .fields vs
theorem PinL.in {X : Cx} {T : CT} {p : Addr × Obj} {c : Nat} {d : Option Addr} (h : PinL T p c d) (m : p ∈ X.pn) : ExcIn X (T.at p.1 c d) := by
  rintro a c' d' ⟨rfl, rfl, rfl⟩
  exact ⟨p.2, m, h.z, h.f⟩
section
variable {X : Cx} {T : CT} {a : Addr} {oe : Obj} {c0 : Nat} {d : Option Addr} {pn : List (Addr × Obj)}
theorem de_xfL {E : L2.St → XK} {e : Expr} {te : TE} {f : Env → Res R} {c : Nat} {fl : Str} {pos : Pos} (F : XfD X.K T c fl) (hz : Zc (.ref (T.C c0)) d oe) (hd : ∃ vs, oe.data = .fields vs) (he : DE (X.suite a ((a, oe) :: pn)) (T.at a c0 d) E e te f)
    (hb : attributeBase e fl X.env (eval e X.env) = eval e X.env := by rfl) : DE (X.suite a ((a, oe) :: pn)) (T.at a c0 d) E (.Attribute e fl pos) (tXf a (.ref (T.C c0)) d (T.C c) fl te) (fXf c f) := by
  refine ⟨pe_xf F.F F.no hz hd he.pe hb, fun G0 H0 G H σ env s Q w => ?_⟩
  refine he.ev.to s (ok := okR (pw (X.suite a ((a, oe) :: pn)) (T.at a c0 d)) Q) w (fun _ _ g' _ h => h.grow g') fun rx x G1 H1 g1 rep w1 => ?_
  have go : ∀ {c' : Nat} {o : O}, rx.st = .bor (.exc c' [o]) → c' = c → (∀ u bs, Ow (pw (X.suite a ((a, oe) :: pn)) (T.at a c0 d)) G1 H1 u o bs → Q u H1) → tXf a (.ref (T.C c0)) d (T.C c) fl (fun _ _ q => q x H1) σ H Q := by
    intro c' o er hc k
    subst hc
    rw [er] at rep
    obtain ⟨as, rep⟩ := rep
    obtain ⟨rfl, rfl, dd, u, bs, _, rfl, hH, _, _, ho⟩ := exc_read (p := pw X T) rep F.fs
    exact ⟨rfl, rfl, dd, _, u, rfl, hH, by simp, k u bs ho⟩
  split at w1
  · rename_i c' z
    by_cases hc : c' = c
    · rw [if_pos hc] at w1
      exact go rfl hc fun u bs ho => by cases ho with | fz iu => exact wish_at g1.gh w1 iu
    · rw [if_neg hc] at w1; exact w1.elim
  · rename_i c' o _
    by_cases hc : c' = c
    · rw [if_pos hc] at w1
      exact go rfl hc fun u bs ho => w1 u G1 H1 (Grow.refl g1.gh) ⟨bs, ho⟩
    · rw [if_neg hc] at w1; exact w1.elim
  · exact w1.elim
end
/-! ### the try statements -/
section
variable {X : Cx} {T : CT} {E : XK}
theorem ds_tryL {x n : Str} {cv : Value} {i : Nat} {l : List (Nat × Bool)} {e : Expr} {suite : List Stmt} {b₀ : Stmt} {f : Env → Res R} {FS : Env → Fl} {np pos pos' pos2 : Pos} (hx : T.cold) (m : ExM X.K T cv l) (hN : X.N.Nodup) (hc : Names X x cv) (tk : TkL X (wxE E))
    (hb : ∀ (W : WX) (pn : List (Addr × Obj)) (xe : Value → Shared → Prop), TkL (X.tr pn xe) W → ∃ t, DE (X.tr pn xe) T (WE W) e t f)
    (hS : ∀ (a : Addr) (oe : Obj) (c : Nat) (d : Option Addr) (pn : List (Addr × Obj)), PinL T (a, oe) c d → Hot2 (X.A.mark (some (.ref a))) ((a, oe) :: pn) (a, oe) → lkB l c = some true → ∃ t, DSs (X.suite a ((a, oe) :: pn)) (T.at a c d) (fun _ _ _ => False) (b₀ :: suite) t FS)
    (hs : X.stack = X.env :: X.outer := by rfl) (hf : X.env.frame = some X.env.locals := by rfl) (hi : X.N[i]? = some n := by rfl) (hln : X.env.kindOf n = some .local := by rfl) (hsw : swapsWith e none pos2.line X.env = pure false := by rfl) :
    DS X T E (.Try [.Expr e pos2] [.ExceptHandler (some (.Name x np)) (some n) (b₀ :: suite) pos'] [] [] pos) (fun D σ H => tDrop (tOf (pw X T) (WE (wAs X.K cv i (tSuite (pw X T) l FS) (wxE E) D)) f) D σ H) (tryXF i l f FS) := by
  refine ⟨ps_try_asL (ts := tSuite (pw X T) l FS) (tb := fun W => tDrop (tOf (pw X T) (WE W) f)) (Wout := wxE E) hs hf hN hi hln hc tk (fun W pn xe tW => pss_one (ps_expr (X := X.tr pn xe) (tOf_pe (X := X.tr pn xe) (hb W pn xe tW)) hsw))
    (fun a oe cls d pn hz hot => tSuite_ps fun c ec q => hS a oe c d pn ⟨ec ▸ hz, hot.fl.elim fun vs h => ⟨vs, h.1⟩⟩ hot q), fun G0 H0 G H σ env s Dn w => ?_⟩
  refine ⟨G0, H0, G, env, s, ?_⟩
  unfold tryXF at w
  cases q : f env with
  | ok r => rw [q] at w; exact fun v G1 H1 g rep => w G1 H1 σ (s.grow g)
  | bad => rw [q] at w; exact w
  | ex c os => rw [q] at w; exact catch_ok hx m s w
theorem ds_tryRL {x n : Str} {cv : Value} {i : Nat} {l : List (Nat × Bool)} {e : Expr} {suite : List Stmt} {b₀ : Stmt} {f : Env → Res R} {FS : Env → Fl} {np pos pos' pos2 : Pos} (hx : T.cold) (m : ExM X.K T cv l) (hN : X.N.Nodup) (hc : Names X x cv) (tk : TkL X (wxE E))
    (hb : ∀ (W : WX) (pn : List (Addr × Obj)) (xe : Value → Shared → Prop), TkL (X.tr pn xe) W → ∃ t, DE (X.tr pn xe) T (WE W) e t f)
    (hS : ∀ (a : Addr) (oe : Obj) (c : Nat) (d : Option Addr) (pn : List (Addr × Obj)), PinL T (a, oe) c d → Hot2 (X.A.mark (some (.ref a))) ((a, oe) :: pn) (a, oe) → lkB l c = some true → ∃ t, DSs (X.suite a ((a, oe) :: pn)) (T.at a c d) (fun _ _ _ => False) (b₀ :: suite) t FS)
    (hs : X.stack = X.env :: X.outer := by rfl) (hf : X.env.frame = some X.env.locals := by rfl) (hi : X.N[i]? = some n := by rfl) (hln : X.env.kindOf n = some .local := by rfl) :
    DS X T E (.Try [.Return (some e) pos2] [.ExceptHandler (some (.Name x np)) (some n) (b₀ :: suite) pos'] [] [] pos) (fun D σ H => tRet (tOf (pw X T) (WE (wAs X.K cv i (tSuite (pw X T) l FS) (wxE E) D)) f) D σ H) (tryRXF i l f FS) := by
  refine ⟨ps_try_asL (ts := tSuite (pw X T) l FS) (tb := fun W => tRet (tOf (pw X T) (WE W) f)) (Wout := wxE E) hs hf hN hi hln hc tk (fun W pn xe tW => pss_one (ps_ret (X := X.tr pn xe) (tOf_pe (X := X.tr pn xe) (hb W pn xe tW))))
    (fun a oe cls d pn hz hot => tSuite_ps fun c ec q => hS a oe c d pn ⟨ec ▸ hz, hot.fl.elim fun vs h => ⟨vs, h.1⟩⟩ hot q), fun G0 H0 G H σ env s Dn w => ?_⟩
  refine ⟨G0, H0, G, env, s, ?_⟩
  unfold tryRXF at w
  split at w
  · exact w.elim
  · rename_i r hr q
    rw [q]
    cases r with
    | fz d => exact fun v G1 H1 g rep => w v G1 H1 (s.gr.trans g) rep
    | new o => exact fun v G1 H1 g rep => w v G1 H1 (s.gr.trans g) (rep.back s.gr.h)
    | bor o => exact (hr o rfl).elim
  · rename_i c os q
    rw [q]
    exact catch_ok hx m s w
  · exact w.elim
/-- try: y = e; except C: a suite that raises; else: .. -/
def tryEF (i : Nat) (l : List (Nat × Bool)) (f : Env → Res R) (FS FO : Env → Fl) : Env → Fl := fun env => match f env with
  | .ok r => (match store true r with | some o => FO (env.set i (some o)) | none => .bad)
  | .ex c os => (match lkB l c with
    | some true => (match FS env with | .ex c2 os2 => if O.coldL os2 then .ex c2 os2 else .bad | _ => .bad)
    | some false => .ex c os
    | none => .bad)
  | .bad => .bad
def tSuiteE (p : Pw) (l : List (Nat × Bool)) (E : XK) (FS : Env → Fl) : Addr → Value → Option Addr → TS := fun a cls d D σ H =>
  ∃ c G0 H0 G env, cls = .ref (p.T.C c) ∧ lkB l c = some true ∧ SOk (p.at a c d) G0 H0 G H σ env ∧ SWish (p.at a c d) G0 H0 D E (FS env)
theorem ds_tryE {x y : Str} {cv : Value} {i : Nat} {l : List (Nat × Bool)} {e : Expr} {suite orelse : List Stmt} {b₀ : Stmt} {f : Env → Res R} {FS FO : Env → Fl} {tO : TS} {np pos pos' pos2 pos3 : Pos} (hx : T.cold) (m : ExM X.K T cv l) (hN : X.N.Nodup) (hc : Names X x cv) (tk : TkL X (wxE E))
    (hp : ∀ hd : Option Value, PassesOwnAt (model X.prog X.w) (X.A.mark hd) X.A X.env X.xe)
    (hb : ∀ (W : WX) (pn : List (Addr × Obj)) (xe : Value → Shared → Prop), L2N.Takes (X.tr pn xe) W → ∃ t, DE (X.tr pn xe) T (WE W) e t f)
    (hS : ∀ (a : Addr) (oe : Obj) (c : Nat) (d : Option Addr) (pn : List (Addr × Obj)), PinX T (a, oe) c d → TkL (L2H.suiteX X a ((a, oe) :: pn)) (wxE E) → lkB l c = some true → ∃ t, DSs (L2H.suiteX X a ((a, oe) :: pn)) (T.at a c d) E (b₀ :: suite) t FS)
    (hO : DSs X T E orelse tO FO)
    (hs : X.stack = X.env :: X.outer := by rfl) (hf : X.env.frame = some X.env.locals := by rfl) (hi : X.N[i]? = some y := by rfl) (hy : Loc X.env.scope y := by first | exact Or.inl rfl | exact Or.inr rfl) (hsw : swapsWith e (some (.Name y pos3)) pos2.line X.env = pure false := by rfl)
    (hfn : X.fn y = true ∨ X.env.scope.names.lookup y = some .local := by first | exact .inl rfl | exact .inr rfl) :
    DS X T E (.Try [.Assign [.Name y pos3] e pos2] [.ExceptHandler (some (.Name x np)) none (b₀ :: suite) pos'] orelse [] pos)
      (fun D σ H => tAsg (tOf (pw X T) (WE (wOnly X.K cv (tSuiteE (pw X T) l E FS) (wxE E) D)) f) (gName i) { D with nx := tO D } σ H) (tryEF i l f FS FO) := by
  refine ⟨ps_tryE (ts := tSuiteE (pw X T) l E FS) (tb := fun W => tAsg (tOf (pw X T) (WE W) f) (gName i)) (Wout := wxE E) hO.ps hs hf hc hp tk
    (fun W pn xe tW => pss_one (ps_set (X := X.tr pn xe) hN hi hy (tOf_pe (X := X.tr pn xe) (hb W pn xe tW)) hsw hfn)) (fun a oe cls d pn hz hd tS => ?_), fun G0 H0 G H σ env s Dn w => ?_⟩
  · refine ⟨fun pins s σ H D I h => ?_⟩
    obtain ⟨c, G0, H0, G, env, rfl, q, so, w⟩ := h
    obtain ⟨t, hd2⟩ := hS a oe c d pn ⟨hz, hd⟩ tS q
    exact hd2.ps.run pins s σ H D I (hd2.ev G0 H0 G H σ env so D w)
  · refine ⟨G0, H0, G, env, s, ?_⟩
    unfold tryEF at w
    cases q : f env with
    | bad => rw [q] at w; exact w
    | ok r =>
      rw [q] at w
      dsimp only at w
      intro v G1 H1 g rep
      cases q2 : store true r with
      | none => rw [q2] at w; exact w.elim
      | some o =>
        rw [q2] at w
        obtain ⟨G', cs, g', ex, ho, fr⟩ := store_rep rep g q2
        exact hO.ev G0 H0 G' H1 _ _ (s.set g' ho fr i) Dn w
    | ex c os =>
      rw [q] at w
      dsimp only at w
      intro cls d G2 H2 g X2
      cases q2 : lkB l c with
      | none => rw [q2] at w; exact w.elim
      | some b =>
        rw [q2] at w
        refine ⟨b, by rw [X2.1]; exact m.ex c b q2, fun hb2 a na => ?_, fun hb2 => ?_⟩
        · subst hb2
          refine ⟨c, G0, H0, G2, env, X2.1, q2, (s.grow g).up hx, ?_⟩
          dsimp only at w
          generalize FS env = fl at w ⊢
          cases fl with
          | ex c2 os2 =>
            dsimp only at w
            by_cases hcold : O.coldL os2 = true
            · rw [if_pos hcold] at w
              intro cls2 d2 G3 H3 g3 X3
              refine w cls2 d2 G3 H3 g3 ⟨X3.1, X3.2.imp id fun ⟨dd, vs, as, e1, e2, e3, e4, e5, e6, e7, e8⟩ => ⟨dd, vs, as, e1, e2, e3, e4, e5, e6, e7.off hcold, e8⟩⟩
            · rw [if_neg hcold] at w; exact w.elim
          | _ => exact w.elim
        · subst hb2
          exact w cls d G2 H2 (s.gr.trans g) (X2.back s.gr.h)
end
end DL
namespace DL
open PySem L2 PyProof.Rows
/-! ## C(e, ..) in a try, what it raises looked at with the slots -/
def tMakeS (C : Addr) (sp : Sp) (E : L2.St → XK) (t : TA) : TE := fun σ H Q => t σ H fun vs H1 => ∀ x dx, H1 x = none → H1 dx = none → dx ≠ x →
  sp (V.ref x :: vs) (upd (upd H1 dx (.own x)) x (.ins C dx [])) (fun v H2 => v = .non ∧ Q (.ref x) H2) (E σ)
section
variable {X : Cx} {T : CT}
theorem pe_makeS {CX : CXT} {E : L2.St → XK} {k : Nat} {f C : Addr} {fd : FuncData} {ps : List Str} {sp : Sp} {x : Str} {e : Expr} {es : List Expr} {t : TA} {p pos : Pos} (M : Mk X.K C f) (F : FnOk X.prog X.w X.K X.mg X.base CX k f fd ps sp) (room : Room (k + 1) X.A) (hg : Gl X x) (hm : X.mg x = some (.ref C)) (hb : Binds X.K fd ps [])
    (px : ∀ σ, PassesAt CX X σ (E σ)) (ha : PA X (e :: es) t) (hdb : (x == ("__debug__" : Str)) = false := by decide) (he : starEach (e :: es) X.env = (false, eval e X.env) :: starEach es X.env := by rfl) (hpl : (backTo pos (starEach es X.env)).any (·.1) = false := by rfl) :
    PE X (.Call (.Name x p) (e :: es) [] pos) (tMakeS C sp E t) := by
  refine ⟨fun pins s0 σ H0 Q I0 wish => wpAny_Call_Name_kw (ld_glob I0 hg hm ?_ hdb)⟩
  refine PySem.W.callWith_K (h₀ := X.base) I0.ok.mod.kin M.kp (thn (ha.run pos pins s0 σ H0 _ I0 wish) fun us s got => ?_) he hpl
  obtain ⟨vs, H, I, rel, want⟩ := got
  refine ⟨I.kIn, ?_⟩
  have n0 : H s.heap.objs.size = none := I.hok.fresh (Nat.le_refl _)
  have n1 : H (s.heap.objs.size + 1) = none := I.hok.fresh (Nat.le_succ _)
  have want1 := want _ _ n1 n0 (Nat.ne_of_lt (Nat.lt_succ_self _))
  have made := Inv.made (C := C) I
  have rel1 : Vals (V.ref (s.heap.objs.size + 1) :: vs) (Value.ref (s.heap.objs.size + 1) :: us) := .cons rfl rel
  have many : (Value.ref (s.heap.objs.size + 1) :: us ++ []).length = ps.length := by
    rw [List.append_nil, ← rel1.length]
    exact F.len _ _ _ _ want1
  have bound := hb _ (Value.ref (s.heap.objs.size + 1) :: us) made.kIn many
  rw [List.append_nil] at bound
  refine wpAny_call (make_map (f := f) I.kIn M.makes M.init (beq_iff_eq.mp M.fn) (codeAny_mono (F.run _ X.stack _ _ _ _ _ _ (E σ) (room.make C us []) (made.env0.make C us []) bound rel1 want1) fun r s' out => ?_))
  cases r with
  | error er => exact px σ pins _ _ er s' made out
  | ok fl =>
    cases fl with
    | ret u =>
      obtain ⟨v, H', I3, rv, ev, q3⟩ := made.after out
      subst ev
      exact ⟨rv, V.ref (s.heap.objs.size + 1), H', I3, rfl, q3⟩
    | _ => exact False.elim out
theorem de_makeW {W : WX} {e : Expr} {es : List Expr} {t : TA} {fr : Env → Res (List S)} {x : Str} {p pos : Pos} {c k : Nat} {F : List D → Res (List O)} (h : ClD X.prog X.w X.K T X.mg X.base (L2N.CX X.prog X.w) x c k F) (hr : Room (k + 1) X.A) (tk : L2N.Takes X W) (ha : DA X T (WE W) (e :: es) t fr) (hg : Gl X x := by rfl)
    (hd : (x == ("__debug__" : Str)) = false := by decide) (he : starEach (e :: es) X.env = (false, eval e X.env) :: starEach es X.env := by rfl) (hpl : (backTo pos (starEach es X.env)).any (·.1) = false := by rfl) :
    DE X T (WE W) (.Call (.Name x p) (e :: es) [] pos) (tMakeS (T.C c) (spI (pw X T) c F) (WE W) t) (fCall (mkRX c F) fr) := by
  obtain ⟨f, fd, ps, F', M, hm, hb⟩ := h.ex
  refine ⟨pe_makeS M F' hr hg hm hb (fun σ => L2N.passAt tk σ) ha.pa hd he hpl, fun G0 H0 G H σ env s Q w => ?_⟩
  refine ha.ev.to s (ok := okR (pw X T) Q) w (fun _ _ g' _ h => h.grow g') fun ss vs G1 H1 g1 rep w1 => ?_
  intro x' dx hx hdx ne
  exact make_useX (p := pw X T) (callS_use g1.gh rep w1) hx hdx ne
theorem hot_suiteX {T : CT} {A : Around} {a : Addr} {oe : Obj} {c : Nat} {d : Option Addr} (px : PinX T (a, oe) c d) : L2H.Hot1 (A.mark (some (.ref a))) (a, oe) := hot_suite px
theorem xH_of {P : Program} {w : World} {mg : Str → Option Value} {K : PySem.W.Frag} {T : CT} {base : Heap} {x fl : Str} {c : Nat} {fI : Addr} {fd : FuncData} {ps : List Str} (O : OexC K (T.C c)) (F : L2H.FnH P w K mg base CX0 1 fI fd ps (spXI (T.C c) fl)) (hb : Binds K fd ps [])
    (h1 : PySem.W.findIn K (.ref (T.C c)) "__init__" = some (some (.ref fI))) (h2 : PySem.W.typeIn K (.ref fI) = some (.type "function")) (hm : mg x = some (.ref (T.C c))) (hf : fsOf c = [fl]) : ExH P w mg K T base x c fl :=
  ⟨⟨fI, fd, ps, F, hb, h1, h2⟩, O, hm, hf⟩
end
end DL
namespace DL
open PySem L2 PyProof.Rows
/-! ## several targets at once; x in (a, b); the script != []; a text so many times -/
section
variable {X : Cx} {T : CT} {E : XK}
/-- a, b, .. = e -/
def asgF (f : Env → Res R) (gf : D → Env → Option Env) : Env → Fl := fun env => bindF (f env) fun r => match store false r with
  | some (.fz d) => (match gf d env with | some env' => .nx env' | none => .bad)
  | _ => .bad
theorem ds_asg {tg e : Expr} {te : TE} {g : TG} {ks : List Nat} {f : Env → Res R} {gf : D → Env → Option Env} {pos : Pos} (he : DE X T (kx E) e te f) (hg : DG X T tg g ks gf) (hs : swapsWithSole [tg] e pos.line X.env = pure false := by rfl) (hw : swappedStores [tg] e X.env = pure none := by rfl)
    (h1 : (assignEach [tg] X.env).map (·.2) = [assign tg X.env] := by rfl) : DS X T E (.Assign [tg] e pos) (tAsg te g) (asgF f gf) := by
  refine ⟨ps_asg he.pe hg.pg hs hw h1, fun G0 H0 G H σ env s Dn w => ?_⟩
  unfold asgF at w
  refine he.ev.toS s w fun r v G1 H1 g1 rep w1 => ?_
  cases q : store false r with
  | none => rw [q] at w1; exact w1.elim
  | some o =>
    rw [q] at w1
    obtain ⟨G', cs, g', ex, ho, fr⟩ := store_rep rep g1 q
    cases o with
    | fz d =>
      dsimp only at w1
      cases q2 : gf d env with
      | none => rw [q2] at w1; exact w1.elim
      | some env' =>
        rw [q2] at w1
        cases ho with
        | fz ho => exact hg.ev G0 H0 G' H1 σ env v d env' (s.grow g') ho q2 _ fun σ' s' _ => w1 G' H1 σ' s'
    | _ => exact w1.elim
/-- the values of a display, all frozen -/
def fzL : List S → Option (List D)
  | [] => some []
  | .fz d :: ss => (fzL ss).map (d :: ·)
  | _ => none
theorem RepL.fzL {p : Pw} {G H : Hp} : ∀ {vs : List V} {ss : List S} {ds : List D}, RepL p G H vs ss → DL.fzL ss = some ds → IsL p G vs ds
  | _, _, _, .nil, e => by cases e; exact .nil
  | _, _, _, .cons (s := s) h r, e => by
    cases s with
    | fz d =>
      simp only [DL.fzL, Option.map_eq_some_iff] at e
      obtain ⟨ds, e, rfl⟩ := e
      exact .cons h (RepL.fzL r e)
    | bor o => cases e
/-- a, b = x, y -/
def par2F (i j : Nat) (fr : Env → Res (List S)) : Env → Fl := fun env => bindF (fr env) fun ss => match fzL ss with
  | some [a, b] => .nx ((env.set i (some (.fz a))).set j (some (.fz b)))
  | _ => .bad
theorem EvA.toS {p : Pw} {t : TA} {f : Env → Res (List S)} (h : EvA p (kx E) t f) {G0 H0 G H : Hp} {σ : L2.St} {env : Env} (s : SOk p G0 H0 G H σ env) {Q : List V → Hp → Prop} {k : List S → Fl} {Dn : Ends}
    (w : SWish p G0 H0 Dn E (bindF (f env) k)) (hk : ∀ ss vs G1 H1, Grow G H G1 H1 → RepL p G1 H1 vs ss → SWish p G0 H0 Dn E (k ss) → Q vs H1) : t σ H Q := by
  refine h G0 H0 G H σ env s Q ?_
  cases e : f env with
  | ok r => rw [e] at w; exact fun vs G1 H1 g rep => hk r vs G1 H1 g rep w
  | ex c ds => rw [e] at w; exact WX'.grow w s.gr
  | bad => rw [e] at w; exact w
theorem SOk.fz {p : Pw} {G0 H0 G H : Hp} {σ : L2.St} {env : Env} (s : SOk p G0 H0 G H σ env) {v : V} {d : D} (h : Is p G v d) (i : Nat) : SOk p G0 H0 G H (σ.set i (some v)) (env.set i (some (.fz d))) :=
  s.set (Grow.refl s.gr.gh) (.fz h) (fun _ m => nomatch m) i
theorem ds_par2 (i j : Nat) {x y : Str} {a b : Expr} {ta : TA} {fr : Env → Res (List S)} {px py pt pos : Pos} {kt k2 pt2} (hc : X.calm = true) (hN : X.N.Nodup) (ha : DA X T (kx E) [a, b] ta fr) (hi : X.N[i]? = some x := by rfl) (hj : X.N[j]? = some y := by rfl) (hij : i ≠ j := by decide)
    (hx : X.env.scope.names.lookup x = some .local := by rfl) (hy : X.env.scope.names.lookup y = some .local := by rfl)
    (hw : swappedStores [.Tuple [.Name x px, .Name y py] kt pt] (.Tuple [a, b] k2 pt2) X.env = pure (some [x, y]) := by rfl)
    (hs : swapsWithSole [.Tuple [.Name x px, .Name y py] kt pt] (.Tuple [a, b] k2 pt2) pos.line X.env = pure false := by rfl) :
    DS X T E (.Assign [.Tuple [.Name x px, .Name y py] kt pt] (.Tuple [a, b] k2 pt2) pos) (tPar i j ta) (par2F i j fr) := by
  refine ⟨ps_par hc hN hi hj hij hx hy ha.pa hw hs, fun G0 H0 G H σ env s Dn w => ?_⟩
  unfold par2F at w
  refine EvA.toS ha.ev s w fun ss vs G1 H1 g1 rep w1 => ?_
  split at w1
  · rename_i d e q
    have h := rep.fzL q
    cases h with
    | cons h1 r =>
      cases r with
      | cons h2 r =>
        cases r
        exact ⟨_, _, rfl, w1 G1 H1 _ (((s.grow g1).fz h1 i).fz h2 j)⟩
  · exact w1.elim
/-- a, b, c = x, y, z -/
def par3F (i j l : Nat) (fr : Env → Res (List S)) : Env → Fl := fun env => bindF (fr env) fun ss => match fzL ss with
  | some [a, b, c] => .nx (((env.set i (some (.fz a))).set j (some (.fz b))).set l (some (.fz c)))
  | _ => .bad
theorem ds_par3 (i j l : Nat) {x y z : Str} {a b c : Expr} {ta : TA} {fr : Env → Res (List S)} {px py pz pt pos : Pos} {kt k2 pt2} (hc : X.calm = true) (hN : X.N.Nodup) (ha : DA X T (kx E) [a, b, c] ta fr) (hi : X.N[i]? = some x := by rfl) (hj : X.N[j]? = some y := by rfl) (hl : X.N[l]? = some z := by rfl)
    (hij : i ≠ j := by decide) (hil : i ≠ l := by decide) (hjl : j ≠ l := by decide)
    (hx : X.env.scope.names.lookup x = some .local := by rfl) (hy : X.env.scope.names.lookup y = some .local := by rfl) (hz : X.env.scope.names.lookup z = some .local := by rfl)
    (hw : swappedStores [.Tuple [.Name x px, .Name y py, .Name z pz] kt pt] (.Tuple [a, b, c] k2 pt2) X.env = pure (some [x, y, z]) := by rfl)
    (hs : swapsWithSole [.Tuple [.Name x px, .Name y py, .Name z pz] kt pt] (.Tuple [a, b, c] k2 pt2) pos.line X.env = pure false := by rfl) :
    DS X T E (.Assign [.Tuple [.Name x px, .Name y py, .Name z pz] kt pt] (.Tuple [a, b, c] k2 pt2) pos) (tPar3 i j l ta) (par3F i j l fr) := by
  refine ⟨ps_par3 hc hN hi hj hl hij hil hjl hx hy hz ha.pa hw hs, fun G0 H0 G H σ env s Dn w => ?_⟩
  unfold par3F at w
  refine EvA.toS ha.ev s w fun ss vs G1 H1 g1 rep w1 => ?_
  split at w1
  · rename_i d e f q
    have h := rep.fzL q
    cases h with
    | cons h1 r =>
      cases r with
      | cons h2 r =>
        cases r with
        | cons h3 r =>
          cases r
          exact ⟨_, _, _, rfl, w1 G1 H1 _ ((((s.grow g1).fz h1 i).fz h2 j).fz h3 l)⟩
  · exact w1.elim
end
/-! ### x in a tuple -/
def inTD (a b : D) : Option Bool :=
  match b.py, a.py with
  | some (.tuple ds), some d => if SeqAt.shaped d && SeqAt.shaped (.tuple ds) then some (ds.any fun z => PyData.eqv z d) else none
  | _, _ => none
def gInT (f : Bool → Bool) : S → S → Res R := fun x y =>
  match x.dat, y.dat with
  | some a, some b => (match inTD a b with | some k => .ok (.fz (.bl (f k))) | none => .bad)
  | _, _ => .bad
def rInTD (K : PySem.W.Frag) : R2 := fun x y H Q => ∃ d ds, Dp K H x d ∧ Dp K H y (.tuple ds) ∧ SeqAt.shaped d = true ∧ SeqAt.shaped (.tuple ds) = true ∧ Q (.bl (ds.any fun z => PyData.eqv z d)) H
section
variable {X : Cx} {T : CT} {E : XK}
theorem cv_inT {k : Nat} (hr : Room (k + 1) X.A) : CmpV X T .In (rInTD X.K) (gInT id) := by
  have hu := units65 hr
  refine ⟨fun pins s σ H x y v u Q I rx ry h => ?_, fun G H x y sx sy e rx ry Q E w => ?_⟩
  · obtain ⟨d, ds, hd, he, sd, se, q⟩ := h
    obtain ⟨as, r1⟩ := Dp.reads I d x v hd rx
    obtain ⟨bs, r2⟩ := Dp.reads I (.tuple ds) y u he ry
    exact SeqAt.in_tuple_reads r2 r1 (SeqAt.canLay_of_shaped se) (SeqAt.canLay_of_shaped sd) (room_in_shaped sd hu) ⟨.bl _, H, I, rfl, q⟩
  · unfold gInT at w
    cases q1 : sx.dat with
    | none => rw [q1] at w; exact w.elim
    | some a =>
      cases q2 : sy.dat with
      | none => rw [q1, q2] at w; exact w.elim
      | some b =>
        rw [q1, q2] at w
        dsimp only at w
        cases q3 : inTD a b with
        | none => rw [q3] at w; exact w.elim
        | some k =>
          rw [q3] at w
          unfold inTD at q3
          split at q3
          · rename_i ds d e1 e2
            by_cases c : (SeqAt.shaped d && SeqAt.shaped (.tuple ds)) = true
            · rw [if_pos c] at q3
              cases q3
              rw [Bool.and_eq_true] at c
              exact ⟨d, ds, (rx.dat e q1).dp e2, (ry.dat e q2).dp e1, c.1, c.2, wish_at e w (.bl _)⟩
            · rw [if_neg c] at q3; cases q3
          · cases q3
/-! ### the script != [] -/
def gNeS : S → S → Res R := fun x y => match x, y with
  | .fz (.scr ns), .fz (.lst []) => .ok (.fz (.bl (!ns.isEmpty)))
  | _, _ => .bad
theorem dp_ints {K : PySem.W.Frag} {H : Hp} : ∀ ns : List Int, DpAll K H (ns.map V.int) (ns.map PyData.int)
  | [] => .nil
  | n :: ns => .cons (.int n) (dp_ints ns)
theorem cv_neS {k : Nat} (hr : Room k X.A) : CmpV X T .NotEq (rNeD X.K) gNeS := by
  refine ⟨op_neD hr.units, fun G H x y sx sy e rx ry Q E w => ?_⟩
  unfold gNeS at w
  split at w
  · rename_i ns
    have ix : Is (pw X T) G x (.scr ns) := rx
    have iy : Is (pw X T) G y (.lst []) := ry
    have hc : PyData.canLayAll0 (ns.map PyData.int) = true ∧ PyData.depthAll (ns.map PyData.int) ≤ 0 := by
      clear ix iy w rx
      induction ns with
      | nil => exact ⟨rfl, Nat.le_refl _⟩
      | cons n ns ih => exact ⟨by rw [List.map_cons, PyData.canLayAll0, ih.1]; rfl, by rw [List.map_cons, PyData.depthAll, PyData.depth]; have := ih.2; omega⟩
    cases ix with
    | @scr a _ hs =>
      cases iy with
      | @lst b vs _ hl r =>
        cases r
        refine ⟨.list (ns.map PyData.int), .list [], .lst (sqL_mono e hs) (dp_ints ns), .lst (SqL.of (e _ _ hl)) .nil, ?_, by decide +kernel, ?_⟩
        · unfold SeqAt.shaped
          rw [PyData.canLay0, hc.1]
          have := hc.2
          simp [PyData.depth]
          omega
        · have : (!PyData.eqv (.list (ns.map PyData.int)) (.list [])) = !ns.isEmpty := by
            cases ns with
            | nil => rfl
            | cons n ns => rfl
          rw [this]
          exact wish_at e w (.bl _)
  · exact w.elim
/-! ### a text so many times -/
def repS (z : Str) (k : Int) : Str := ⟨(List.replicate k.toNat z.cps).foldl (· ++ ·) #[]⟩
def rMulS : R2 := fun x y H Q => ∃ z k, x = .str z ∧ y = .int k ∧ 2 ≤ k ∧ k ≤ 1000 ∧ 1 ≤ z.length ∧ z.length ≤ 1000 ∧ Q (.str (repS z k)) H
theorem repS_size (a : Array Nat) : ∀ (n : Nat) (acc : Array Nat), ((List.replicate n a).foldl (· ++ ·) acc).size = acc.size + a.size * n
  | 0, acc => by simp
  | n + 1, acc => by
    rw [List.replicate_succ, List.foldl_cons, repS_size a n, Array.size_append, Nat.mul_succ]
    omega
theorem op_mulS : OpR X (binaryOp .Mult) rMulS := by
  intro pins s σ H x y v u Q I rx ry h
  obtain ⟨z, k, rfl, rfl, k1, k2, z1, z2, q⟩ := h
  obtain ⟨t, rfl⟩ := rx
  obtain ⟨t', rfl⟩ := ry
  have n1 : ¬ k < 1 := by omega
  have n2 : ¬ (k == 1 || z.length == 0) = true := by
    simp only [Bool.or_eq_true, beq_iff_eq]
    omega
  have hm : z.length * k.toNat ≤ 1000 * 1000 := Nat.mul_le_mul z2 (by omega)
  refine P.mul_str ?_ (fun _ _ => ?_) (fun _ _ => ?_) ?_
  · rw [decide_eq_false (show ¬ k < -(2 ^ 63 : Int) by omega), decide_eq_false (show ¬ k ≥ 2 ^ 63 by omega)]; rfl
  · have : (1000 : Int) ≤ (2 ^ 63 - 1) / k := by
      rw [Int.le_ediv_iff_mul_le (by omega)]
      omega
    omega
  · unfold Builtin.Str.tooLong
    rw [decide_eq_false_iff_not]
    have : (1000 * 1000 : Nat) ≤ sizeLine := by decide
    omega
  · rw [if_neg n1, if_neg n2]
    refine ⟨?_, ?_⟩
    · have e : ((List.replicate k.toNat z.cps).foldl (· ++ ·) #[]).size = 0 + z.cps.size * k.toNat := repS_size z.cps k.toNat #[]
      have : (1000 * 1000 : Nat) ≤ sizeLine := by decide
      have hm : z.cps.size * k.toNat ≤ 1000 * 1000 := hm
      show ((List.replicate k.toNat z.cps).foldl (· ++ ·) #[]).size ≤ sizeLine
      omega
    · exact ⟨.str (repS z k), H, I.tok _, ⟨_, rfl⟩, q⟩
def gMulS : S → S → Res R := fun x y => match x.str?, y.int? with
  | some z, some k => if 2 ≤ k ∧ k ≤ 1000 ∧ 1 ≤ z.length ∧ z.length ≤ 1000 then .ok (.fz (.str (repS z k))) else .bad
  | _, _ => .bad
theorem opv_mulS {p : Pw} : OpV p rMulS gMulS := by
  intro G H x y sx sy e rx ry Q E w
  unfold gMulS at w
  cases q1 : sx.str? with
  | none => rw [q1] at w; exact w.elim
  | some z =>
    cases q2 : sy.int? with
    | none => rw [q1, q2] at w; exact w.elim
    | some k =>
      rw [q1, q2] at w
      dsimp only at w
      by_cases h : 2 ≤ k ∧ k ≤ 1000 ∧ 1 ≤ z.length ∧ z.length ≤ 1000
      · rw [if_pos h] at w
        exact ⟨z, k, rx.str q1, ry.int q2, h.1, h.2.1, h.2.2.1, h.2.2.2, wish_at e w (.str _)⟩
      · rw [if_neg h] at w; exact w.elim
theorem de_mulS {E : L2.St → XK} {a b : Expr} {ta tb : TE} {fa fb : Env → Res R} {pos : Pos} (ha : DE X T E a ta fa) (hb : DE X T E b tb fb) : DE X T E (.BinOp a .Mult b pos) (tOp rMulS ta tb) (fOp gMulS fa fb) := ⟨pe_op op_mulS ha.pe hb.pe, ev_op opv_mulS ha.ev hb.ev⟩
end
end DL
namespace DL
open PySem L2 PyProof.Rows PySem.W
/-! sorted(xs), xs a list of plain data, any two alike -/
section
variable {β : Type}
def insB (le : β → β → Bool) (k : β) : List β → List β
  | [] => [k]
  | j :: l => if le k j then k :: j :: l else j :: insB le k l
def sortB (le : β → β → Bool) : List β → List β
  | [] => []
  | k :: l => insB le k (sortB le l)
variable {le : β → β → Bool}
theorem insB_pw (h : TotalLe le) (k : β) : ∀ l : List β, l.Pairwise (fun a b => le a b = true) → (insB le k l).Pairwise (fun a b => le a b = true) ∧ ∀ x ∈ insB le k l, x = k ∨ x ∈ l
  | [], _ => ⟨List.pairwise_singleton _ _, fun x m => .inl (by simpa [insB] using m)⟩
  | j :: l, hp => by
    have hp' := List.pairwise_cons.mp hp
    unfold insB
    by_cases c : le k j = true
    · rw [if_pos c]
      refine ⟨List.pairwise_cons.mpr ⟨fun y m => ?_, hp⟩, fun x m => by simpa using m⟩
      rcases List.mem_cons.mp m with z | z
      · subst z; exact c
      · exact h.trans _ _ _ c (hp'.1 y z)
    · rw [if_neg c]
      obtain ⟨i1, i2⟩ := insB_pw h k l hp'.2
      have c' : le j k = true := (h.total j k).resolve_right c
      refine ⟨List.pairwise_cons.mpr ⟨fun y m => ?_, i1⟩, fun x m => ?_⟩
      · rcases i2 y m with z | z
        · subst z; exact c'
        · exact hp'.1 y z
      · rcases List.mem_cons.mp m with z | z
        · exact .inr (by rw [z]; exact List.mem_cons_self)
        · exact (i2 x z).imp id fun q => List.mem_cons_of_mem _ q
theorem insB_fl (h : TotalLe le) (k c : β) : ∀ l : List β, (insB le k l).filter (sameRank le c) = (k :: l).filter (sameRank le c)
  | [] => rfl
  | j :: l => by
    unfold insB
    by_cases q : le k j = true
    · rw [if_pos q]
    · rw [if_neg q, List.filter_cons, insB_fl h k c l]
      cases e1 : sameRank le c k with
      | true =>
        cases e2 : sameRank le c j with
        | true =>
          unfold sameRank at e1 e2
          rw [Bool.and_eq_true] at e1 e2
          exact absurd (h.trans _ _ _ e1.2 e2.1) q
        | false => simp [List.filter_cons, e1, e2]
      | false => cases e2 : sameRank le c j <;> simp [List.filter_cons, e1, e2]
theorem sortB_eq (h : TotalLe le) (l : List β) : sortB le l = l.mergeSort le := by
  have a : ∀ l : List β, (sortB le l).Pairwise (fun a b => le a b = true) ∧ ∀ c, (sortB le l).filter (sameRank le c) = l.filter (sameRank le c) := by
    intro l
    induction l with
    | nil => exact ⟨List.Pairwise.nil, fun _ => rfl⟩
    | cons k l ih =>
      refine ⟨(insB_pw h k _ ih.1).1, fun c => ?_⟩
      unfold sortB
      rw [insB_fl h, List.filter_cons, List.filter_cons, ih.2]
  exact sort_unique h (a l).1 (a l).2
end
def pyV (d : D) : PyData := d.py.getD .none
abbrev leD : D → D → Bool := dataLe false pyV
theorem leD_total : TotalLe leD := sortLe_total _ _ _
def someTup : PyData → Bool
  | .tuple (_ :: _) => true
  | _ => false
def noTup : PyData → Bool
  | .tuple _ => false
  | .none => false
  | _ => true
/-- these may be sorted -/
def srtOk (ps : List PyData) : Bool := ps.all (fun a => ps.all fun b => alike a b) && (ps.all someTup || ps.all noTup) && ps.all (fun a => decide (a.depth ≤ 100)) && decide (ps.length ≤ 1000)
def gSortD : List S → Res R
  | [x] => (match x.items with
    | some ds => (match D.pyL ds with
      | some ps => if srtOk ps then newL (sortB leD ds) else .bad
      | none => .bad)
    | none => .bad)
  | _ => .bad
theorem pyL_map : ∀ {ds : List D} {ps : List PyData}, D.pyL ds = some ps → ds.map pyV = ps ∧ ∀ d ∈ ds, d.py = some (pyV d)
  | [], ps, e => by cases e; exact ⟨rfl, fun _ m => nomatch m⟩
  | d :: ds, ps, e => by
    simp only [D.pyL] at e
    cases q1 : d.py with
    | none => rw [q1] at e; cases e
    | some a =>
      cases q2 : D.pyL ds with
      | none => rw [q1, q2] at e; cases e
      | some b =>
        rw [q1, q2] at e
        cases e
        obtain ⟨i1, i2⟩ := pyL_map q2
        refine ⟨by rw [List.map_cons, i1]; unfold pyV; rw [q1]; rfl, fun x m => ?_⟩
        rcases List.mem_cons.mp m with z | z
        · subst z; unfold pyV; rw [q1]; rfl
        · exact i2 x z
theorem isL_mem {p : Pw} {G : Hp} : ∀ {vs : List V} {ds : List D}, IsL p G vs ds → ∀ b ∈ vs.zip ds, Is p G b.1 b.2
  | _, _, .nil, b, m => nomatch m
  | _, _, .cons h r, b, m => by
    rcases List.mem_cons.mp m with z | z
    · rw [z]; exact h
    · exact isL_mem r b z
theorem isL_of {p : Pw} {G : Hp} : ∀ {l : List (V × D)}, (∀ b ∈ l, Is p G b.1 b.2) → IsL p G (l.map (·.1)) (l.map (·.2))
  | [], _ => .nil
  | b :: l, h => .cons (h b List.mem_cons_self) (isL_of fun x m => h x (List.mem_cons_of_mem _ m))
theorem zip_snd {α β : Type} : ∀ {as : List α} {bs : List β}, as.length = bs.length → (as.zip bs).map (·.2) = bs
  | [], [], _ => rfl
  | a :: as, b :: bs, h => by simp [zip_snd (as := as) (bs := bs) (by simpa using h)]
theorem each_zip : ∀ {vs : List V} {us : List Value} {ds : List D}, Vals vs us → vs.length = ds.length → EachIs (fun (u : Value) (b : V × D) => RelV b.1 u) us (vs.zip ds)
  | [], _, [], .nil, _ => .nil
  | _ :: _, _, _ :: _, .cons h r, e => .cons h (each_zip r (by simpa using e))
  | [], _, _ :: _, _, e => by simp at e
  | _ :: _, _, [], _, e => by simp at e
theorem vals_each : ∀ {us : List Value} {l : List (V × D)}, EachIs (fun (u : Value) (b : V × D) => RelV b.1 u) us l → Vals (l.map (·.1)) us
  | _, _, .nil => .nil
  | _, _, .cons h r => .cons h (vals_each r)
theorem each_and {α β : Type} {R S : α → β → Prop} : ∀ {as : List α} {bs : List β}, EachIs R as bs → (∀ a b, R a b → b ∈ bs → S a b) → EachIs S as bs
  | _, _, .nil, _ => .nil
  | _, _, .cons h r, k => .cons (k _ _ h List.mem_cons_self) (each_and r fun a b q m => k a b q (List.mem_cons_of_mem _ m))
def rSortedD (p : Pw) : List V → Hp → VK → Prop := fun xs H Q => ∃ G a vs ds ps, Ex G H ∧ xs = [.ref a] ∧ H a = some (.lst vs) ∧ IsL p G vs ds ∧ D.pyL ds = some ps ∧ srtOk ps = true ∧ ∀ (qs : List V) l, IsL p G qs (sortB leD ds) → H l = none → Q (.ref l) (upd H l (.lst qs))
section
variable {X : Cx} {T : CT}
theorem cr_sortedD {k : Nat} (hr : Room k X.A) : CallR X (.builtin "sorted") (rSortedD (pw X T)) := by
  intro pins s σ H xs us Q I r q
  obtain ⟨G, a, vs, ds, ps, eG, ex, hp, hi, hpy, hok, q⟩ := q
  subst ex
  obtain ⟨u, eu, rx⟩ := vals1 r
  subst eu
  cases rx
  obtain ⟨its, rv, hl, hz⟩ := I.list (SqL.of hp)
  unfold srtOk at hok
  simp only [Bool.and_eq_true, Bool.or_eq_true, List.all_eq_true, decide_eq_true_eq] at hok
  obtain ⟨⟨⟨h1, h2⟩, h3⟩, h4⟩ := hok
  obtain ⟨m1, m2⟩ := pyL_map hpy
  have hlen : vs.length = ds.length := hi.length
  have pl : ps.length = ds.length := by rw [← m1, List.length_map]
  let enc : V × D → PyData := fun b => pyV b.2
  have em : (vs.zip ds).map enc = ps := by
    rw [← m1, ← zip_snd (as := vs) (bs := ds) hlen, List.map_map, zip_snd hlen]
    rfl
  have ez := each_zip rv hlen
  have hrd : EachIs (fun v b => ∃ as, Reads s.heap v (enc b) as) its (vs.zip ds) := each_and ez fun u b hr hm => by
    have h := isL_mem hi b hm
    exact Dp.reads I _ _ _ ((h.mono eG).dp (m2 b.2 (List.of_mem_zip (a := b.1) (b := b.2) hm).2)) hr
  have hz' : (vs.zip ds).length = ds.length := by rw [List.length_zip, hlen, Nat.min_self]
  refine sorted_data (R := fun (u : Value) (b : V × D) => RelV b.1 u) (bs := vs.zip ds) (enc := enc) hl.isList ez hrd ?_ ?_ ?_ ?_ ?_
  · rw [em]
    exact fun d hd d' hd' => h1 d hd d' hd'
  · rw [em]
    refine h2.imp (fun h d hd => ?_) fun h d hd => ?_
    · have := h d hd
      unfold someTup at this
      split at this
      · exact ⟨_, _, rfl⟩
      · cases this
    · have := h d hd
      refine ⟨fun z => ?_, fun xs z => ?_⟩
      · rw [z] at this; cases this
      · rw [z] at this; cases this
  · rw [hz', ← pl, sizeLine_eq]; omega
  · intro b hb
    have : enc b ∈ ps := by rw [← em]; exact List.mem_map.mpr ⟨b, hb, rfl⟩
    have := h3 _ this
    have := hr.un
    omega
  · intro out ho hE
    obtain ⟨e', he'⟩ := sortedAll_at s.heap its (List.toArray out)
    have hvs := vals_each hE
    have hq : IsL (pw X T) G (((vs.zip ds).mergeSort (dataLe false enc)).map (·.1)) (sortB leD ds) := by
      have e1 : ((vs.zip ds).mergeSort (dataLe false enc)).map (·.2) = sortB leD ds := by
        rw [sortB_eq leD_total]
        have := sort_maps (r := dataLe false enc) (s := leD) (fun b : V × D => b.2) (l := vs.zip ds) fun a _ b _ => rfl
        rw [this, zip_snd hlen]
      rw [← e1]
      exact isL_of fun b hb => isL_mem hi b ((List.mergeSort_perm _ _).mem_iff.mp hb)
    refine ⟨.ref (s.heap.objs.size + 1), upd H (s.heap.objs.size + 1) (.lst (((vs.zip ds).mergeSort (dataLe false enc)).map (·.1))), I.laid (t' := s.toks) (fun b u e => sortedAll_old e) (Nat.le_succ _) ⟨?_, out, e', hvs, he'⟩, rfl, q _ _ hq (I.hok.fresh (Nat.le_succ _))⟩
    rw [List.length_map, (List.mergeSort_perm _ _).length_eq, hz', ← pl, sizeLine_eq]
    omega
theorem bi_sortD {k : Nat} (hr : Room k X.A) : BiV X T (.builtin "sorted") (rSortedD (pw X T)) gSortD := by
  refine ⟨cr_sortedD hr, fun G H vs ss e rep Q E w => ?_⟩
  unfold gSortD at w
  split at w
  · rename_i x
    cases rep with
    | cons h r =>
      cases r
      cases q : x.items with
      | none => rw [q] at w; exact w.elim
      | some ds =>
        rw [q] at w
        cases q2 : D.pyL ds with
        | none => simp only [q2] at w; exact w.elim
        | some ps =>
          simp only [q2] at w
          by_cases c : srtOk ps = true
          · rw [if_pos c] at w
            obtain ⟨a, vs, rfl, h1, i1⟩ := h.items e q
            exact ⟨G, a, vs, ds, ps, e, rfl, h1, i1, q2, c, fun qs l hq n => wish_newL e w hq n⟩
          · rw [if_neg c] at w
            exact w.elim
  · exact w.elim
end
end DL
namespace DL
open PySem L2
/-! for a, b in enumerate(xs): new pairs, frozen at once -/
theorem yd_pair {p : Pw} {G : Hp} {ds : List D} {xs ys : Nat → Option V} {i : Nat} {H : Hp} {v : V} {H' : Hp} (y : YPair xs ys i H v H')
    (h : ∀ x z, xs i = some x → ys i = some z → ∃ d e, ds[i]? = some (.tup [d, e]) ∧ Is p G x d ∧ Is p G z e) : YD p G ds i H v H' := by
  obtain ⟨a, x, z, rfl, hn, rfl, h1, h2⟩ := y
  obtain ⟨d, e, h3, h4, h5⟩ := h x z h1 h2
  refine ⟨_, h3, fun Gc e1 e2 => ?_⟩
  have g : Grow Gc H (upd Gc a (.tup [x, z])) (upd H a (.tup [x, z])) := Grow.new e2 hn
  exact ⟨_, g, .tup (SqT.of upd_same) (.cons ((h4.mono e1).mono g.g) (.cons ((h5.mono e1).mono g.g) .nil))⟩
def enumFrom (i : Nat) : List D → List D
  | [] => []
  | d :: ds => .tup [.int (i : Nat), d] :: enumFrom (i + 1) ds
theorem enumFrom_len : ∀ (i : Nat) (ds : List D), (enumFrom i ds).length = ds.length
  | _, [] => rfl
  | i, _ :: ds => congrArg (· + 1) (enumFrom_len (i + 1) ds)
theorem enumFrom_get : ∀ (k : Nat) (ds : List D) (i : Nat) (d : D), ds[i]? = some d → (enumFrom k ds)[i]? = some (.tup [.int ((k + i : Nat) : Int), d])
  | k, [], i, d, h => by simp at h
  | k, e :: ds, 0, d, h => by simp at h; subst h; rfl
  | k, e :: ds, i + 1, d, h => by
    have := enumFrom_get (k + 1) ds i d (by simpa using h)
    rw [show k + 1 + i = k + (i + 1) by omega] at this
    simpa [enumFrom] using this
def enumI : List S → Res (List D)
  | [x] => (match x.items with | some ds => .ok (enumFrom 0 ds) | none => .bad)
  | _ => .bad
section
variable {X : Cx} {T : CT}
theorem di_enum {E : L2.St → XK} {a : Expr} {ta : TA} {fr : Env → Res (List S)} {elts : List Expr} {kk : Nat} {tpos p pos : Pos} (hm : X.mg "enumerate" = none) (h : DA X T E [a] ta fr) (hg : Gl X "enumerate" := by rfl) (hs : starEach [a] X.env = [(false, eval a X.env)] := by rfl) :
    DI X T E false (.Tuple elts kk tpos) (.Call (.Name "enumerate" p) [a] [] pos) (iEnum X.K ta) (fun env => (fr env).bind enumI) := by
  refine ⟨pi_enum hg hm h.pa hs, fun G0 H0 G H σ env s R w => ?_⟩
  refine h.ev.to s (ok := okI (pw X T) R false) w (fun _ _ g' _ h => h.grow g') fun ss vs G1 H1 g rep w1 => ?_
  unfold enumI at w1
  split at w1
  · rename_i x
    cases rep with
    | cons hx hr =>
      cases hr
      cases q : x.items with
      | none => rw [q] at w1; exact w1.elim
      | some ds =>
        rw [q] at w1
        obtain ⟨b, vs, rfl, h1, i1⟩ := hx.items g.gh q
        refine ⟨b, vs, rfl, SqL.of h1, w1 _ G1 H1 (Grow.refl g.gh) ?_⟩
        have w := (walk_enum (K := X.K) (a := b) (xs := vs)).mono (G' := fun H => Ex H1 H) (Y' := YD (pw X T) G1 (enumFrom 0 ds)) (fun H e => SqL.of (e _ _ h1)) fun i H x H' hi _ y => yd_pair y fun x z e1 e2 => by
          obtain ⟨d, hd, hi⟩ := i1.getV e2
          cases e1
          exact ⟨.int (i : Nat), d, by have := enumFrom_get 0 ds i d hd; simpa using this, .int _, hi⟩
        have el : (enumFrom 0 ds).length = vs.length := by rw [enumFrom_len, i1.length]
        unfold WalkD
        rw [el]
        exact w
  · exact w1.elim
end
end DL
namespace DL
open PySem L2 PyProof.Rows
/-! ## a, b = a tuple, while an exception is handled -/
section
variable {prog : Program} {w : World} {A : Around} {E : Value → Shared → Prop} {s : Shared}
/-- the end of a tuple's iterator, an exception x1 handled -/
theorem tup_end_hot {it l x1 : Addr} {i : Nat} {items : Array Value} {Q : Option Value → Shared → Prop} (hot : HotX.HotAt A x1 s.heap) (ne : x1 ≠ it) (at_it : IsTupIter s.heap it l i) (at_l : IsTup s.heap l items) (out : items[i]? = none)
    (hQ : ∀ h', (∀ b o, b ≠ it → s.heap.get? b = some o → h'.get? b = some o) → Q none { s with heap := h' }) : wpAny (model prog w) A (pyNext (.ref it)) Q E s := by
  have ti := at_it.typeIs
  obtain ⟨hh, o1, fs1, e1, d1, c1⟩ := hot
  obtain ⟨oi, ei, ki, di⟩ := id at_it
  obtain ⟨ol, el, _, nl, dl⟩ := at_l
  unfold pyNext
  refine wpAny_bind (wpAny_attempt (wpAny_callSpecial?_slot (name := Str.ofString "__next__") ti slot_tupleiter_next (wpAny_call_entry slot_tupleiter_next ti entry_tupleiter_next (?_ : wpAny _ _ (field (.ref it) 0 >>= _) _ _ s) (args_tupleiter_next _))))
  refine wpAny_bind (wpAny_field ei di (x := .ref l) rfl (?_ : wpAny _ _ (if (Value.ref l == Value.none) = true then _ else _) _ _ s))
  have nn : ¬ ((Value.ref l == Value.none) = true) := Bool.false_ne_true
  rw [if_neg nn]
  refine wpAny_bind (m := field (.ref it) 1) (wpAny_field ei di (x := .int i 0) rfl (?_ : wpAny _ _ (seqItems? (.ref l) >>= _) _ _ s))
  refine wpAny_bind (wpAny_seqItems el dl ?_)
  simp only [Int.toNat_natCast, out]
  refine wpAny_bind (wpAny_rule (wpAny_bind (wpAny_setField ei di (by simp) (?_ : wpAny _ _ (newExc (.type "StopIteration") [] >>= _) _ _ _))))
  refine wpAny_bind ?_
  simp only [newTuple, newExc]
  refine wpAny_bind (wpAny_newObj_type (wpAny_bind (m := firstArgMember _ _) (wpAny_of_eq (a := Value.none) (by first | rfl | (simp only [firstArgMember]; rfl)) (wpAny_newObj_type ?_ (by size_fits)))) (by size_fits))
  have k0 : ∀ b o, b ≠ it → s.heap.get? b = some o → (s.heap.update it (Obj.mapFields (·.setIfInBounds 0 .none))).get? b = some o := fun b o n e => by
    rw [Heap.get?_update_other _ _ (Ne.symm n)]
    exact e
  have at_x : ∀ {u v : Obj}, (((s.heap.update it (Obj.mapFields (·.setIfInBounds 0 .none))).push u).push v).get? x1 = some o1 := fun {u v} => Heap.get?_push_of_some _ (Heap.get?_push_of_some _ (k0 _ _ ne e1))
  refine HotX.raiseNew_hot ⟨hh, o1, fs1, at_x, d1, c1⟩ (Nat.ne_of_lt (Heap.lt_size (Heap.get?_push_of_some _ (k0 _ _ ne e1)))) (Heap.get?_push_size _ rfl) rfl (by first | (simp; done) | (simp; omega) | (simp only [Array.size_append]; simp; omega)) ?_
  refine wpAny_bind (wpAny_isInstance (b := true) (T := "StopIteration") ⟨_, Heap.get?_update_self _ (Heap.get?_push_size _ rfl) rfl, rfl⟩ isSubtype_stop (wpAny_pure (hQ _ fun b o n e => ?_)))
  rw [Heap.get?_update_other _ _ (Nat.ne_of_gt (Heap.lt_size (Heap.get?_push_of_some _ (k0 b o n e))))]
  exact Heap.get?_push_of_some _ (Heap.get?_push_of_some _ (k0 b o n e))
theorem unpack_hot {l x1 : Addr} {items : Array Value} {ts : List (Bool × (Value → Sem Unit))} {Q : Unit → Shared → Prop} (hot : HotX.HotAt A x1 s.heap) (at_l : IsTup s.heap l items) (many : ts.length = items.size) (star : ts.findIdx? (·.1) = none)
    (k : ∀ h', (∀ b o, s.heap.get? b = some o → h'.get? b = some o) → wpAny (model prog w) A (assignInOrder (ts.map (·.2)) items.toList) Q E { s with heap := h' }) : wpAny (model prog w) A (unpack (.ref l) ts) Q E s := by
  obtain ⟨hh, o1, fs1, e1, d1, c1⟩ := hot
  have nl : l ≠ s.heap.objs.size := by
    obtain ⟨o, e, _⟩ := at_l
    exact Nat.ne_of_lt (Heap.lt_size e)
  have nx : x1 ≠ s.heap.objs.size := Nat.ne_of_lt (Heap.lt_size e1)
  unfold unpack
  rw [many, star]
  refine wpAny_bind (wpAny_holding ?_)
  unfold unpackItems
  refine wpAny_bind ?_
  unfold notIterableAtAll
  refine wpAny_bind (wpAny_specialOf at_l.typeIs slot_tuple_iter.lookup (wpAny_pure ?_))
  simp only [if_false, Bool.false_eq_true]
  refine wpAny_bind (wpAny_holding (iter_tuple at_l (wpAny_bind (wpAny_holding (draw_tuple nl items.size 0 _ _ ⟨_, Heap.get?_push_size _ rfl, rfl, rfl⟩ (at_l.push _) (by omega) fun h1 i1 b1 => ?_)))))
  have whole : List.take items.size (List.drop 0 items.toList) = items.toList := by
    rw [List.drop_zero]
    exact List.take_of_length_le (by rw [Array.length_toList]; exact Nat.le_refl _)
  rw [whole, if_neg (by simp)]
  have at1 : IsTup h1 l items := (at_l.push _).extBut b1.extBut nl
  have hot1 : HotX.HotAt A x1 h1 := ⟨hh, o1, fs1, b1.extBut x1 o1 nx (Heap.get?_push_of_some _ e1), d1, c1⟩
  refine wpAny_bind (wpAny_holding (tup_end_hot (s := { s with heap := h1 }) hot1 nx i1 at1 (by simp) fun h2 k2 => ?_))
  simp only [Bool.false_eq_true, Option.isSome_none, if_false]
  refine wpAny_pure (k h2 fun b o e => ?_)
  have nb : b ≠ s.heap.objs.size := Nat.ne_of_lt (Heap.lt_size e)
  exact k2 b o nb (b1.extBut b o nb (Heap.get?_push_of_some _ e))
end
section
variable {X : Cx} {T : CT}
theorem pg_tupH {p : Addr × Obj} {es : List Expr} {k : Nat} {t : TGs} {n : Nat} {pos : Pos} (hot : L2H.Hot1 X.A p) (m : p ∈ X.pn) (h : PGs X es t)
    (hn : (assignEach es X.env).length = n := by rfl) (hst : (assignEach es X.env).findIdx? (·.1) = none := by rfl) : PG X (.Tuple es k pos) (gTup X.K n t) := by
  refine ⟨fun pins s σ H v u Q I r want => ?_⟩
  obtain ⟨a, xs, rfl, at_a, len, want⟩ := want
  cases r
  obtain ⟨its, rv, ht, hz⟩ := I.tuple at_a
  rw [assign_Tuple]
  refine wpAny_bind (wpAny_standAt (unpack_hot (hot_obj hot m I) ht (by simp [hn, ← len, rv.length]) hst fun h' k => ?_))
  have I1 : L2.Inv X pins σ H { s with heap := h' } := I.kept (t' := s.toks) k
  exact h.run pins _ σ H xs _ Q I1 (by simpa using rv) want
theorem dg_tupH {p : Addr × Obj} {es : List Expr} {k : Nat} {t : TGs} {n : Nat} {ks : List Nat} {gf : List D → Env → Option Env} {pos : Pos} (hot : L2H.Hot1 X.A p) (m : p ∈ X.pn) (h : DGs X T es t ks gf)
    (hn : (assignEach es X.env).length = n := by rfl) (hst : (assignEach es X.env).findIdx? (·.1) = none := by rfl) : DG X T (.Tuple es k pos) (gTup X.K n t) ks (gfTup n gf) := by
  refine ⟨pg_tupH hot m h.pg hn hst, fun G0 H0 G H σ env v d env' so hd e Q k => ?_⟩
  unfold gfTup at e
  split at e
  · rename_i ds
    by_cases q : ds.length = n
    · rw [if_pos q] at e
      cases hd with
      | tup hq hr => exact ⟨_, _, rfl, sqT_mono so.gr.gh hq, hr.length.trans q, h.ev G0 H0 G H σ env _ ds env' so hr e Q k⟩
    · rw [if_neg q] at e; cases e
  · cases e
end
end DL
namespace DL
open PySem L2 PyProof.Rows
/-! ## methods called, instances made, while an exception is handled -/
/-- a method that is called there, whatever is handled -/
structure MtP (P : Program) (w : World) (K : PySem.W.Frag) (T : CT) (mg : Str → Option Value) (base : Heap) (c : Nat) (m : Str) (k : Nat) (F : List D → Res R) : Prop where
  ex : ∃ f fd ps, Meth K (T.C c) m f ∧ Binds K fd ps [] ∧ ∀ p c d, PinX T p c d → FnAt P w K mg base k f fd ps p (spD ⟨K, T.at p.1 c d, P, w⟩ F)
  cl : Cls K (T.C c)
  no : m ∉ fsOf c
/-- a class whose __init__ runs there -/
structure ClP (P : Program) (w : World) (K : PySem.W.Frag) (T : CT) (mg : Str → Option Value) (base : Heap) (x : Str) (c k : Nat) (F : List D → Res (List O)) : Prop where
  ex : ∃ f fd ps, Mk K (T.C c) f ∧ mg x = some (.ref (T.C c)) ∧ Binds K fd ps [] ∧ ∀ p c' d, PinX T p c' d → FnAt P w K mg base k f fd ps p (spI ⟨K, T.at p.1 c' d, P, w⟩ c fun ds => noEx (F ds))
section
variable {X : Cx} {T : CT} {E : L2.St → XK}
theorem de_methP {p : Addr × Obj} {c' : Nat} {d : Option Addr} {o e : Expr} {es : List Expr} {to : TE} {fo : Env → Res R} {t : TA} {fr : Env → Res (List S)} {m : Str} {apos pos : Pos} {c k : Nat} {F : List D → Res R} {pl : Sem Bool} (h : MtP X.prog X.w X.K T X.mg X.base c m k F) (px : PinX T p c' d) (hot : L2H.Hot1 X.A p) (mp : p ∈ X.pn) (hr : L2H.RoomH k X.A)
    (ho : DE X (T.at p.1 c' d) E o to fo) (ha : DA X (T.at p.1 c' d) E (e :: es) t fr)
    (ht : eval (.Call (.Attribute o m apos) (e :: es) [] pos) X.env = (do let ov ← eval o X.env; standAt apos.atName; let (f, first) ← holding [ov] (getMethod ov m pl); callWith pos f first (backTo pos (starEach (e :: es) X.env)) (backToKw pos (keywordEach [] X.env))) := by rfl)
    (hst : starEach (e :: es) X.env = (false, eval e X.env) :: starEach es X.env := by rfl) (hpl : (backTo pos (starEach es X.env)).any (·.1) = false := by rfl) :
    DE X (T.at p.1 c' d) E (.Call (.Attribute o m apos) (e :: es) [] pos) (L2H.tMethH (T.C c) m (spD (pw X (T.at p.1 c' d)) F) E to t) (fMeth c F fo fr) := by
  obtain ⟨f, fd, ps, hm, hb, F'⟩ := h.ex
  refine ⟨⟨fun pins s σ H Q I want => ?_⟩, fun G0 H0 G H σ env s Q w => ?_⟩
  · refine PySem.W.methodCall_KW (pl := pl) (thn (ho.pe.run pins s σ H _ I want) fun u s1 got => ?_) ht
    obtain ⟨x, H1, I1, rx, a, dx, fs, rfl, ea, l, q⟩ := got
    obtain rfl : u = Value.ref a := rx
    refine getmeth_ok I1 ea h.cl hm l (PySem.W.callWith_K (first := [.ref a]) (h₀ := X.base) I1.ok.mod.kin hm.kp (thn (ha.pa.run pos pins s1 σ H1 _ I1 q) fun us s2 got => ?_) hst hpl)
    obtain ⟨vs, H2, I2, r, q2⟩ := got
    exact ⟨I2.kIn, run_fnAt (us := .ref a :: us) (xs := .ref a :: vs) (F' p c' d px) hr hot mp hb I2 (.cons rfl r) q2⟩
  · refine ho.ev.to s (ok := okR (pw X (T.at p.1 c' d)) Q) w (fun _ _ g' _ h => h.grow g') fun rx x G1 H1 g1 rep w1 => ?_
    by_cases hc : rx.st.isC c = true
    · rw [if_pos hc] at w1
      obtain ⟨a, dx, vs, rfl, hx⟩ := S.isC_ins rep g1.gh hc
      refine ⟨a, dx, _, rfl, hx, zip_no h.no, ?_⟩
      refine ha.ev.to (s.grow g1) (ok := okR (pw X (T.at p.1 c' d)) Q) w1 (fun _ _ g' _ h => h.grow g') fun ss vs2 G2 H2 g2 rep2 w2 => ?_
      exact callS_use (p := pw X (T.at p.1 c' d)) g2.gh (.cons (rep.grow g2) rep2) w2
    · rw [if_neg hc] at w1; exact w1.elim
def tMethH0 (C : Addr) (m : Str) (sp : Sp) (E : L2.St → XK) (ta : TE) : TE := fun σ H Q => ta σ H fun x H1 => ∃ a dx fs, x = .ref a ∧ H1 a = some (.ins C dx fs) ∧ fs.lookup m = none ∧ sp [x] H1 Q (E σ)
theorem de_methP0 {p : Addr × Obj} {c' : Nat} {d : Option Addr} {o : Expr} {to : TE} {fo : Env → Res R} {m : Str} {apos pos : Pos} {c k : Nat} {F : List D → Res R} {pl : Sem Bool} (h : MtP X.prog X.w X.K T X.mg X.base c m k F) (px : PinX T p c' d) (hot : L2H.Hot1 X.A p) (mp : p ∈ X.pn) (hr : L2H.RoomH k X.A)
    (ho : DE X (T.at p.1 c' d) E o to fo)
    (ht : eval (.Call (.Attribute o m apos) [] [] pos) X.env = (do let ov ← eval o X.env; standAt apos.atName; let (f, first) ← holding [ov] (getMethod ov m pl); callWith pos f first (backTo pos (starEach [] X.env)) (backToKw pos (keywordEach [] X.env))) := by rfl) :
    DE X (T.at p.1 c' d) E (.Call (.Attribute o m apos) [] [] pos) (tMethH0 (T.C c) m (spD (pw X (T.at p.1 c' d)) F) E to) (fMeth c F fo fun _ => .ok []) := by
  obtain ⟨f, fd, ps, hm, hb, F'⟩ := h.ex
  refine ⟨⟨fun pins s σ H Q I want => ?_⟩, fun G0 H0 G H σ env s Q w => ?_⟩
  · refine PySem.W.methodCall_KW (pl := pl) (thn (ho.pe.run pins s σ H _ I want) fun u s1 got => ?_) ht
    obtain ⟨x, H1, I1, rx, a, dx, fs, rfl, ea, l, q⟩ := got
    obtain rfl : u = Value.ref a := rx
    exact getmeth_ok I1 ea h.cl hm l (PySem.W.callWith_K0 (first := [.ref a]) I1.kIn hm.kp (run_fnAt (us := [.ref a]) (xs := [.ref a]) (F' p c' d px) hr hot mp hb I1 (.cons rfl .nil) q))
  · refine ho.ev.to s (ok := okR (pw X (T.at p.1 c' d)) Q) w (fun _ _ g' _ h => h.grow g') fun rx x G1 H1 g1 rep w1 => ?_
    by_cases hc : rx.st.isC c = true
    · rw [if_pos hc, Res.bind_ok] at w1
      obtain ⟨a, dx, vs, rfl, hx⟩ := S.isC_ins rep g1.gh hc
      exact ⟨a, dx, _, rfl, hx, zip_no h.no, callS_use (p := pw X (T.at p.1 c' d)) g1.gh (.cons rep .nil) w1⟩
    · rw [if_neg hc] at w1; exact w1.elim
/-- C(e, ..) there -/
theorem de_makeP {p : Addr × Obj} {c' : Nat} {d : Option Addr} {e : Expr} {es : List Expr} {t : TA} {fr : Env → Res (List S)} {x : Str} {q pos : Pos} {c k : Nat} {F : List D → Res (List O)} (h : ClP X.prog X.w X.K T X.mg X.base x c k F) (px : PinX T p c' d) (hot : L2H.Hot1 X.A p) (mp : p ∈ X.pn) (hr : L2H.RoomH (k + 1) X.A)
    (ha : DA X (T.at p.1 c' d) E (e :: es) t fr) (hg : Gl X x := by rfl) (hdb : (x == ("__debug__" : Str)) = false := by decide) (he : starEach (e :: es) X.env = (false, eval e X.env) :: starEach es X.env := by rfl) (hpl : (backTo pos (starEach es X.env)).any (·.1) = false := by rfl) :
    DE X (T.at p.1 c' d) E (.Call (.Name x q) (e :: es) [] pos) (tMakeS (T.C c) (spI (pw X (T.at p.1 c' d)) c fun ds => noEx (F ds)) (fun _ _ _ _ => False) t) (fCall (mkR c F) fr) := by
  obtain ⟨f, fd, ps, M, hm, hb, F'⟩ := h.ex
  refine ⟨⟨fun pins s0 σ H0 Q I0 wish => wpAny_Call_Name_kw (ld_glob I0 hg hm ?_ hdb)⟩, fun G0 H0 G H σ env s Q w => ?_⟩
  · refine PySem.W.callWith_K (h₀ := X.base) I0.ok.mod.kin M.kp (thn (ha.pa.run pos pins s0 σ H0 _ I0 wish) fun us s got => ?_) he hpl
    obtain ⟨vs, H, I, rel, want⟩ := got
    refine ⟨I.kIn, ?_⟩
    have n0 : H s.heap.objs.size = none := I.hok.fresh (Nat.le_refl _)
    have n1 : H (s.heap.objs.size + 1) = none := I.hok.fresh (Nat.le_succ _)
    have want1 := want _ _ n1 n0 (Nat.ne_of_lt (Nat.lt_succ_self _))
    have made := Inv.made (C := T.C c) I
    have rel1 : Vals (V.ref (s.heap.objs.size + 1) :: vs) (Value.ref (s.heap.objs.size + 1) :: us) := .cons rfl rel
    have many : (Value.ref (s.heap.objs.size + 1) :: us ++ []).length = ps.length := by
      rw [List.append_nil, ← rel1.length]
      exact (F' p c' d px).cnt want1
    have bound := hb _ (Value.ref (s.heap.objs.size + 1) :: us) made.kIn many
    rw [List.append_nil] at bound
    obtain ⟨g1, g2, g3, g4, g5⟩ := made.pin p (List.mem_append_left _ mp)
    have pinned : L2H.PinOk X.stack _ _ p := ⟨g1, g2, fun z => (List.mem_cons.mp (made.stkSub p.1 z)).elim g3 g4, g5⟩
    have room : L2H.RoomH k (X.A.under (.builtin "type.__call__" ⟨.ref (T.C c) :: us, []⟩)) := ⟨by have := hr.dp; rw [make_depth]; omega, by have := hr.un; rw [make_units]; omega⟩
    refine wpAny_call (make_map (f := f) I.kIn M.makes M.init (beq_iff_eq.mp M.fn) (codeAny_mono ((F' p c' d px).go room hot pinned (made.env0.make (T.C c) us []) bound rel1 want1) fun r s' out => ?_))
    cases r with
    | error er => exact out.elim
    | ok fl =>
      cases fl with
      | ret u =>
        obtain ⟨v, H', I3, rv, ev, q3⟩ := made.after out
        subst ev
        exact ⟨rv, V.ref (s.heap.objs.size + 1), H', I3, rfl, q3⟩
      | _ => exact False.elim out
  · refine ha.ev.to s (ok := okR (pw X (T.at p.1 c' d)) Q) w (fun _ _ g' _ h => h.grow g') fun ss vs G1 H1 g1 rep w1 => ?_
    intro x' dx hx hdx ne
    have e2 : mkR c F = mkRX c fun ds => noEx (F ds) := rfl
    have w2 : Wish (pw X (T.at p.1 c' d)) Q (fun _ _ _ => False) G1 H1 (callS (mkRX c fun ds => noEx (F ds)) ss) := noEx_wish w1 (callS_noex (F := mkR c F) mkR_noex ss)
    exact make_useX (p := pw X (T.at p.1 c' d)) (callS_use g1.gh rep w2) hx hdx ne
/-- never reached: what it raises is none's -/
theorem ds_exNever {c : Nat} {st : Stmt} : DS X T (fun _ _ _ => False) st (fun _ _ _ => False) (fun _ => .ex c []) := by
  refine ⟨⟨fun pins s σ H D I h => h.elim⟩, fun G0 H0 G H σ env s Dn w => ?_⟩
  exact w (.ref (T.C c)) none G H s.gr ⟨rfl, .inl ⟨rfl, rfl⟩⟩
end
section
variable {P : Program} {w : World} {K : PySem.W.Frag} {T : CT} {mg : Str → Option Value} {base : Heap}
theorem init_end {p : Pw} {c : Nat} {x : Addr} {Q : VK} {E : XK} {G H : Hp} {fl : Fl} {os : List O} (qf : runI c x fl = .ok os) (wi : WishI p c x Q E G H (.ok os)) :
    SWish p G (butX H x) { nx := fun _ H' => Q .non H', rt := Q } (fun _ _ _ => False) fl := by
  cases fl with
  | nx env =>
    intro G2 H2 σ2 s2
    unfold runI at qf
    dsimp only at qf
    split at qf
    · rename_i a' c' os' e0
      by_cases ha : a' = x ∧ c' = c ∧ O.whole (.ins c os') = true
      · rw [if_pos ha] at qf
        cases qf
        obtain ⟨rfl, rfl, hw⟩ := ha
        obtain ⟨as, h1, h2⟩ := s2.sl
        obtain ⟨v, bs, h3, h4, h5⟩ := h1.get e0
        cases h4 with
        | slf hp gp hl2 np hr2 =>
          refine wi G2 H2 _ s2.gr (.ins hp gp hl2 np hr2) (fun a m => ?_) hw
          have := h2 a (h5 a m)
          unfold butX at this
          by_cases z : a = a'
          · exact .inl z
          · rw [if_neg z] at this; exact .inr this
      · rw [if_neg ha] at qf; cases qf
    · cases qf
  | _ => cases qf
/-- an __init__ that runs there -/
theorem fn_initP {x qual : Str} {st : Stmt} {f : Addr} {fd : FuncData} {N ps : List Str} {k c n np : Nat} {Fb : Env → Fl} {mkF : List D → Res (List O)} (F : Fun K x qual st f fd) (S : FnScope N ps (defScope st)) (hn : N.length = n) (hnp : ps.length = np)
    (hbody : ∀ (cdv : Value) (A : Around) (outer : List PySem.Env) (s : Shared) (H : Hp) (E : XK) (p : Addr × Obj) (c : Nat) (d : Option Addr), PinX T p c d → L2H.Hot1 A p → L2H.RoomH k (A.deeper (PyProof.Rows.envOfC qual (defScope st) s.heap.objs.size f cdv)) →
      ∃ t, DSs (L2H.cxH CX0 P w K mg base N qual (defScope st) f cdv A outer s H E p) (T.at p.1 c d) (fun _ _ _ => False) (defBody st) t Fb)
    (hF : ∀ a ds, mkF ds = .bad ∨ initF c n np Fb a ds = mkF ds) : ∀ p c' d, PinX T p c' d → FnAt P w K mg base (k + 1) f fd ps p (spI ⟨K, T.at p.1 c' d, P, w⟩ c fun ds => noEx (mkF ds)) := by
  subst hn hnp
  intro p c' d px
  obtain ⟨oc, od, kV, doc, pm, an, cdv, ct, osl, rfl, lk, hcd⟩ := F.ex
  have told : ∀ {x : Addr} {ds : List D} {Q : VK} {E : XK} {G H : Hp}, WishI ⟨K, T.at p.1 c' d, P, w⟩ c x Q E G H (noEx (mkF ds)) →
      ∃ os, mkF ds = .ok os ∧ ds.length + 1 = ps.length ∧ runI c x (Fb (some (.slf x c []) :: (ds.map (fun d => some (.fz d)) ++ List.replicate (N.length - (ds.length + 1)) none))) = .ok os := by
    intro x ds Q E G H wi
    cases qm : mkF ds with
    | bad => rw [qm] at wi; exact wi.elim
    | ex c2 z => rw [qm] at wi; exact wi.elim
    | ok os =>
      refine ⟨os, rfl, ?_⟩
      rcases hF x ds with q0 | q0
      · rw [q0] at qm; cases qm
      · rw [qm] at q0
        unfold initF at q0
        by_cases q : ds.length + 1 = ps.length
        · rw [if_pos q] at q0
          exact ⟨q, q0⟩
        · rw [if_neg q] at q0; cases q0
  refine ⟨fun {xs H Q E} h => ?_, fun {A outer s H given us xs Q E} hr hot pinned e0 bound rel h => ?_⟩
  · obtain ⟨G, x, dx, ws, ds, rfl, hx, gx, e, hl, wi⟩ := h
    obtain ⟨os, _, q, _⟩ := told wi
    rw [List.length_cons, hl.length]
    exact q
  · obtain ⟨G, x, dx, ws, ds, rfl, hx, gx, e, hl, wi⟩ := h
    obtain ⟨os, q1, q2, q3⟩ := told wi
    have wi2 := wi
    dsimp only at wi2
    rw [q1] at wi2
    obtain ⟨t, hd⟩ := hbody cdv A outer s H E p c' d px hot (hr.deeper _)
    refine run_at lk hcd S hr pinned e0 bound rel (by rw [List.length_cons, hl.length]; exact q2) hd.ps ?_
    exact hd.ev G (butX H x) G H _ _ (sOk_init (p := ⟨K, T.at p.1 c' d, P, w⟩) hx gx e hl N) _ (init_end q3 wi2)
end
end DL
namespace DL
open PySem L2
/-! ## try: return e; except C: a suite that returns -/
def onlyF (l : List (Nat × Bool)) (FS : Env → Fl) (env : Env) (c : Nat) (os : List O) : Fl := match lkB l c with
  | some true => (match FS env with
    | .rt r => if r.cold then .rt r else .bad
    | _ => .bad)
  | some false => .ex c os
  | none => .bad
def tryROF (l : List (Nat × Bool)) (f : Env → Res R) (FS : Env → Fl) : Env → Fl := fun env => match f env with
  | .ok (.bor _) => .bad
  | .ok r => .rt r
  | .ex c os => onlyF l FS env c os
  | .bad => .bad
section
variable {X : Cx} {T : CT} {E : XK}
theorem ds_tryRO {x : Str} {cv : Value} {l : List (Nat × Bool)} {e : Expr} {suite : List Stmt} {b₀ : Stmt} {f : Env → Res R} {FS : Env → Fl} {np pos pos' pos2 : Pos} (hx : T.cold) (m : ExM X.K T cv l) (hc : Names X x cv) (tk : TkL X (wxE E))
    (hp : ∀ hd : Option Value, PassesOwnAt (model X.prog X.w) (X.A.mark hd) X.A X.env X.xe)
    (hb : ∀ (W : WX) (pn : List (Addr × Obj)) (xe : Value → Shared → Prop), L2N.Takes (X.tr pn xe) W → ∃ t, DE (X.tr pn xe) T (WE W) e t f)
    (hS : ∀ (a : Addr) (oe : Obj) (c : Nat) (d : Option Addr) (pn : List (Addr × Obj)), PinX T (a, oe) c d → TkL (L2H.suiteX X a ((a, oe) :: pn)) (wxE E) → lkB l c = some true → ∃ t, DSs (L2H.suiteX X a ((a, oe) :: pn)) (T.at a c d) E (b₀ :: suite) t FS)
    (hs : X.stack = X.env :: X.outer := by rfl) (hf : X.env.frame = some X.env.locals := by rfl) :
    DS X T E (.Try [.Return (some e) pos2] [.ExceptHandler (some (.Name x np)) none (b₀ :: suite) pos'] [] [] pos)
      (fun D σ H => tRet (tOf (pw X T) (WE (wOnly X.K cv (tSuiteE (pw X T) l E FS) (wxE E) D)) f) { D with nx := tNext D } σ H) (tryROF l f FS) := by
  refine ⟨ps_tryE (ts := tSuiteE (pw X T) l E FS) (tb := fun W => tRet (tOf (pw X T) (WE W) f)) (Wout := wxE E) pss_nil hs hf hc hp tk
    (fun W pn xe tW => pss_one (ps_ret (X := X.tr pn xe) (tOf_pe (X := X.tr pn xe) (hb W pn xe tW)))) (fun a oe cls d pn hz hd tS => ?_), fun G0 H0 G H σ env s Dn w => ?_⟩
  · refine ⟨fun pins s σ H D I h => ?_⟩
    obtain ⟨c, G0, H0, G, env, rfl, q, so, w⟩ := h
    obtain ⟨t, hd2⟩ := hS a oe c d pn ⟨hz, hd⟩ tS q
    exact hd2.ps.run pins s σ H D I (hd2.ev G0 H0 G H σ env so D w)
  · refine ⟨G0, H0, G, env, s, ?_⟩
    unfold tryROF at w
    split at w
    · exact w.elim
    · rename_i r hr q
      rw [q]
      cases r with
      | fz d => exact fun v G1 H1 g rep => w v G1 H1 (s.gr.trans g) rep
      | new o => exact fun v G1 H1 g rep => w v G1 H1 (s.gr.trans g) (rep.back s.gr.h)
      | bor o => exact (hr o rfl).elim
    · rename_i c os q
      rw [q]
      unfold onlyF at w
      intro cls d G2 H2 g X2
      cases q2 : lkB l c with
      | none => rw [q2] at w; exact w.elim
      | some b =>
        rw [q2] at w
        refine ⟨b, by rw [X2.1]; exact m.ex c b q2, fun hb2 a na => ?_, fun hb2 => ?_⟩
        · subst hb2
          refine ⟨c, G0, H0, G2, env, X2.1, q2, (s.grow g).up hx, ?_⟩
          dsimp only at w
          generalize FS env = fl at w ⊢
          cases fl with
          | rt r =>
            dsimp only at w
            intro v G4 H4 g4 rep
            by_cases hc : r.cold = true
            · rw [if_pos hc] at w
              exact w v G4 H4 g4 (rep.off hc)
            · rw [if_neg hc] at w; exact w.elim
          | _ => exact w.elim
        · subst hb2
          exact w cls d G2 H2 (s.gr.trans g) (X2.back s.gr.h)
    · exact w.elim
end
end DL
namespace DL
open PySem L2 PyProof.Rows LamX
/-! ## lambdas without parameters, made and called by one def -/
/-- at f stands such a function -/
def LamO (q : Str) (params : Arguments) (body : Expr) (scope : Scope) (cl : List (Str × Addr)) (f c' : Addr) : HO := .ext fun h => ∃ (od : Option Addr) (sl : Array (Option Value)) (pm ctv : Value), h.get? f = some (⟨.type "function", od, .func (PySem.W.kla_fn "<lambda>" q params body scope cl pm (.ref c') ctv), sl⟩ : Obj)
theorem lamO_ne {q : Str} {params : Arguments} {body : Expr} {scope : Scope} {cl : List (Str × Addr)} {f c' : Addr} (ps : Array Value) : LamO q params body scope cl f c' ≠ .tbl ps := fun z => by
  unfold LamO at z
  cases z
abbrev lq (X : Cx) : Str := X.env.qual ++ "<lambda>"
abbrev lcl (X : Cx) (scope : Scope) : List (Str × Addr) := cloFrom X.env.cells scope.names []
section
variable {X : Cx} {pins : List (Addr × Obj)} {σ : L2.St} {H : Hp} {s : Shared}
theorem inv_lam {q : Str} {params : Arguments} {body : Expr} {scope : Scope} {cl : List (Str × Addr)} {c' : Addr} {pm ctv : Value} {t' : Nat} (I : L2.Inv X pins σ H s) :
    L2.Inv X pins σ (upd H s.heap.objs.size (LamO q params body scope cl s.heap.objs.size c')) { s with heap := s.heap.push (PySem.W.kla_obj "<lambda>" q params body scope cl pm c' ctv), toks := t' } := by
  refine I.laid (a := s.heap.objs.size) (fun b u e => Heap.get?_push_of_some _ e) (Nat.le_refl _) ?_
  have e : (s.heap.push (PySem.W.kla_obj "<lambda>" q params body scope cl pm c' ctv)).get? s.heap.objs.size = some (PySem.W.kla_obj "<lambda>" q params body scope cl pm c' ctv) := Heap.get?_push_size _ rfl
  exact ⟨⟨_, _, pm, ctv, e⟩, ⟨_, e⟩, fun h1 h2 ⟨od, sl, p, t, z⟩ st => ⟨od, sl, p, t, st _ z⟩⟩
/-- a lambda is made, and known from now on -/
theorem lam_made {c P : Addr} {params : Arguments} {body : Expr} {scope : Scope} {pos : Pos} {E : Value → Shared → Prop} {Q : Value → Shared → Prop} (I : L2.Inv X pins σ H s) (TB : TabB X.base X.mg c P) (hcode : X.env.code = .ref c)
    (hT : TabS H P (lq X)) (hdef : defaultsOf params X.env = ([], [])) (hfree : ∀ y ∈ scope.names, y.2 = .free → ∃ c, X.env.cells.lookup y.1 = some c)
    (k : ∀ (f c' : Addr) (H1 : Hp) (s' : Shared), L2.Inv X pins σ H1 s' → ExtN H H1 → TabS H1 P (lq X) → H f = none → H1 f = some (LamO (lq X) params body scope (lcl X scope) f c') → H1 c' = some (CodeO c' (lq X)) → Q (.ref f) s') :
    wpAny (model X.prog X.w) X.A (eval (.Lambda params body scope pos) X.env) Q E s := by
  obtain ⟨ps, hP, ht, ha⟩ := hT
  refine PySem.W.kla_eval hdef ?_
  have bP : s.heap.BuiltinsAt X.mg P := TB.bm.keeps I.bk
  have hP' : s.heap.get? P = some { cls := .none, data := .fields ps } := I.hok P _ hP
  cases hc : codeAmong pos ps.toList with
  | none =>
    refine PySem.W.kla_makeFunction (mg := X.mg) (c := c) (P := P) (ps := ps) (closure_ok hfree) I.ok.glob (I.mod.glob.keeps I.bk) hcode (TB.code.keeps I.bk) hP' ht hc TB.gP bP fun c' ctv h' tk hx hge hlt hrec htb => ?_
    obtain ⟨c2, oc, vs, t, e2, hoc, hd, hv⟩ := hrec
    cases e2
    have nC : H c' = none := I.hok.fresh hge
    have I1 := inv_table (t' := tk) (more := #[rawInt pos.line, rawInt pos.col, .ref c']) (h' := h') I hP (fun b o hb e => hx b o hb e) htb hge ⟨oc, vs, t, hoc, hd, hv⟩
    have I2 := inv_lam (q := lq X) (params := params) (body := body) (scope := scope) (cl := lcl X scope) (c' := c') (pm := (X.mg "__name__").getD .none) (ctv := ctv) (t' := tk) I1
    have nF := I1.hok.fresh (Nat.le_refl _)
    have nF0 : H h'.objs.size = none := I.hok.fresh (Nat.le_trans hge (Nat.le_of_lt hlt))
    have hE : ExtN H (upd (upd H P (.tbl (ps ++ #[rawInt pos.line, rawInt pos.col, .ref c']))) c' (CodeO c' (lq X))) := fun b o e n => by
      rw [upd_ne (ne_of_none e nC), upd_ne (fun z => n ps (Option.some.inj (e.symm.trans (by rw [z]; exact hP))))]
      exact e
    have nFc : c' ≠ h'.objs.size := Nat.ne_of_lt hlt
    have nFP : P ≠ h'.objs.size := fun z => by
      rw [← z] at nF0
      rw [hP] at nF0
      cases nF0
    have nPc : P ≠ c' := ne_of_none hP nC
    have eL : (ps ++ #[rawInt pos.line, rawInt pos.col, .ref c']).toList = ps.toList ++ [rawInt pos.line, rawInt pos.col, .ref c'] := by simp
    refine k h'.objs.size c' _ _ I2 (hE.trans fun b o e _ => ?_) ?_ nF0 upd_same ?_
    · rw [upd_ne (ne_of_none e nF)]
      exact e
    · refine ⟨_, by rw [upd_ne nFP, upd_ne nPc, upd_same], by rw [eL]; exact PySem.TriplesOk_snoc _ _ _ _ ht, fun p' cv hcv => ?_⟩
      rw [eL] at hcv
      rcases among_app _ ht hcv with z | z
      · obtain ⟨c0, e1, e2⟩ := ha p' cv z
        have e3 := hE _ _ e2 codeO_ne
        exact ⟨c0, e1, by rw [upd_ne (ne_of_none e3 nF)]; exact e3⟩
      · exact ⟨c', z, by rw [upd_ne nFc, upd_same]⟩
    · rw [upd_ne nFc, upd_same]
  | some cv =>
    obtain ⟨c', e, hco⟩ := ha pos cv hc
    subst e
    refine PySem.W.kla_makeFunctionHit (mg := X.mg) (c := c) (P := P) (ps := ps) (closure_ok hfree) I.ok.glob (I.mod.glob.keeps I.bk) hcode (TB.code.keeps I.bk) hP' ht hc bP fun ctv h' tk hx hsz => ?_
    have I1 : L2.Inv X pins σ H { s with heap := h', toks := tk } := I.kept hx
    have nF : H h'.objs.size = none := I1.hok.fresh (Nat.le_refl _)
    have I2 := inv_lam (q := lq X) (params := params) (body := body) (scope := scope) (cl := lcl X scope) (c' := c') (pm := (X.mg "__name__").getD .none) (ctv := ctv) (t' := tk) I1
    have keep : ∀ {b o}, H b = some o → upd H h'.objs.size (LamO (lq X) params body scope (lcl X scope) h'.objs.size c') b = some o := fun {b o} e => by
      rw [upd_ne (ne_of_none e nF)]
      exact e
    refine k h'.objs.size c' _ _ I2 (fun b o e _ => keep e) ⟨ps, keep hP, ht, fun p' cv hcv => ?_⟩ nF upd_same (keep hco)
    obtain ⟨c0, e1, e2⟩ := ha p' cv hcv
    exact ⟨c0, e1, keep e2⟩
end
/-- the reading of a lambda's making -/
def tLamM (X : Cx) (P : Addr) (params : Arguments) (body : Expr) (scope : Scope) : TE := fun _ H Q => TabS H P (lq X) ∧ ∀ (f c' : Addr) (H1 : Hp), ExtN H H1 → TabS H1 P (lq X) → H f = none →
  H1 f = some (LamO (lq X) params body scope (lcl X scope) f c') → H1 c' = some (CodeO c' (lq X)) → Q (.ref f) H1
theorem pe_lam {X : Cx} {c P : Addr} {params : Arguments} {body : Expr} {scope : Scope} {pos : Pos} (TB : TabB X.base X.mg c P) (hcode : X.env.code = .ref c) (L : LamS X.env.scope scope) (hdef : defaultsOf params X.env = ([], []) := by rfl) :
    PE X (.Lambda params body scope pos) (tLamM X P params body scope) := by
  refine ⟨fun pins s σ H Q I h => ?_⟩
  obtain ⟨hT, h⟩ := h
  exact lam_made I TB hcode hT hdef (L.has I.ok) fun f c' H1 s' I1 e1 t1 n1 h1 h2 => ⟨.ref f, H1, I1, rfl, h f c' H1 e1 t1 n1 h1 h2⟩
/-- the context of its body, called by its maker -/
def lamXE (X : Cx) (s : Shared) (H : Hp) (E : XK) (scope : Scope) (f c' : Addr) : Value → Shared → Prop := fun e s' =>
  wpAny (model X.prog X.w) (X.A.deeper (lamEnv X scope s.heap.objs.size f c')) (leaving (lamEnv X scope s.heap.objs.size f c') e) (fun _ s'' => L2N.CX X.prog X.w X.stack H s E e s'') (fun e' s'' => L2N.CX X.prog X.w X.stack H s E e' s'') s'
def lamCxN (X : Cx) (s : Shared) (H : Hp) (E : XK) (scope : Scope) (f c' : Addr) : Cx := (lamCx X X.A X.stack s H E scope f c').tr [] (lamXE X s H E scope f c')
section
variable {X : Cx} {T : CT}
theorem lam_takes {s : Shared} {H : Hp} {E : XK} {scope : Scope} {f c' : Addr} : L2N.Takes (lamCxN X s H E scope f c') (wxE E) := L2N.takes_of rfl rfl rfl rfl
/-- a(), in the def that made the lambda -/
theorem pe_lamcall {W : WX} {i k : Nat} {a : Str} {p1 p2 : Pos} {params : Arguments} {body : Expr} {scope : Scope} {tb : XK → TE} (L : LamS X.env.scope scope) (tk : L2N.Takes X W) (hr : Room (k + 1) X.A)
    (hbind : ∀ (q : Str) (cl : List (Str × Addr)) (pm cv ctv : Value), bindArgs (PySem.W.kla_fn "<lambda>" q params body scope cl pm cv ctv) ⟨[], []⟩ = pure [])
    (hb : ∀ (s : Shared) (H : Hp) (E : XK) (f c' : Addr), Room k (X.A.deeper (lamEnv X scope s.heap.objs.size f c')) → PE (lamCxN X s H E scope f c') body (tb E))
    (hN : X.N[i]? = some a) (hv : Vis X.env.scope a) (hd : (a == ("__debug__" : Str)) = false := by decide) (hcd : (a == ("__classdict__" : Str)) = false := by decide) :
    PE X (.Call (.Name a p1) [] [] p2) (fun σ H Q => ∃ f c', σ[i]? = some (some (.ref f)) ∧ H f = some (LamO (lq X) params body scope (lcl X scope) f c') ∧ H c' = some (CodeO c' (lq X)) ∧ tb (WE W σ) σ H Q) := by
  refine ⟨fun pins s σ H Q I h => ?_⟩
  obtain ⟨f, c', hs, hf, hc, ht⟩ := h
  refine wpAny_Call_Name_kw (thn ((pe_var (pos := p1) (i := i) hN hv hd hcd).run pins s σ H (fun v H1 => v = .ref f ∧ H1 = H) I ⟨.ref f, hs, rfl, rfl⟩) fun u s1 got => ?_)
  obtain ⟨v, H1, I1, r1, rfl, rfl⟩ := got
  obtain rfl : u = Value.ref f := r1
  obtain ⟨⟨od, sl, pm, ctv, of1⟩, _, _⟩ := I1.hok f _ hf
  obtain ⟨⟨oc, vs, t, hoc, hdc, hvc⟩, _, _⟩ := I1.hok c' _ hc
  refine PySem.W.callWith_F0 ⟨_, _, _, _, of1⟩ ?_
  have rc : codeAny (model X.prog X.w) X.A (.call (.ref f) ⟨[], []⟩) (CR (L2N.CX X.prog X.w) X.stack X.prog X.w H1 s1 Q (WE W σ)) s1 := by
    refine PySem.W.kla_callFunE hr.depth of1 rfl L.co L.gen rfl ⟨c', oc, vs, t, rfl, hoc, hdc, hvc⟩ ?_
    rw [hbind]
    refine wpAny_pure (wpAny_newFunctionEnv (fun y hy => (L.own y hy).2) (fun y hy => absurd hy (by simp)) (fun h₁ hns hsb => ⟨I1.nolimit.fresh _ hsb, ?_⟩) L.kind)
    have kp : ∀ b o, s1.heap.get? b = some o → h₁.get? b = some o := fun b o e => hsb.extBut b o (Nat.ne_of_lt (Heap.lt_size e)) (Heap.get?_push_of_some _ e)
    have J0 : L2.Inv (lamCx X X.A X.stack s1 H1 (WE W σ) scope f c') [] σ H1 { s1 with heap := h₁, toks := s1.toks + ([] : List (Str × Value)).length } :=
      lam_start2 (s := s1) (H := H1) I1 L I1.env0 hr.hd Un.refl hns kp
    have J : L2.Inv (lamCxN X s1 H1 (WE W σ) scope f c') [] σ H1 { s1 with heap := h₁, toks := s1.toks + ([] : List (Str × Value)).length } := J0.toTry _
    refine PySem.W.kla_codeExpr (wpAny_mono ((hb s1 H1 (WE W σ) f c' (hr.deeper _)).run [] _ _ H1 Q J ht) (fun v s' hq => ?_) fun e s' hq => hq)
    obtain ⟨w', H', J', rv, q⟩ := hq
    exact ⟨w', H', J'.os, J'.bare, J'.base, J'.hok, rv, q⟩
  refine wpAny_call (codeAny_mono rc fun r s' hq => ?_)
  cases r with
  | error e => exact L2N.passAt tk σ pins H1 s1 e s' I1 hq
  | ok fl =>
    cases fl with
    | ret u => exact I1.after hq
    | _ => exact False.elim hq
end
end DL
namespace DL
open PySem L2 PyProof.Rows LamX
/-! ## lambdas as data -/
/-- at a stands the function of the k-th of these lambdas -/
def LamAt (q : Str) (cells : List (Str × Addr)) (es : List Expr) (k : Nat) (G : Hp) (a : Addr) : Prop := ∃ params body scope pos c', es[k]? = some (.Lambda params body scope pos) ∧
  G a = some (LamO q params body scope (cloFrom cells scope.names []) a c') ∧ G c' = some (CodeO c' q)
def fCallFn (i : Nat) (fs : List (Env → Res R)) : Env → Res R := fun env => match env[i]? with
  | some (some (.fz (.fn k))) => (match fs[k]? with | some f => f env | none => .bad)
  | _ => .bad
/-- the lambda e computes f, in its maker's slots -/
structure LamD (X : Cx) (T : CT) (kk : Nat) (e : Expr) (f : Env → Res R) : Prop where
  go : ∀ params body scope pos, e = .Lambda params body scope pos → LamS X.env.scope scope ∧ (∀ (q : Str) (cl : List (Str × Addr)) (pm cv ctv : Value), bindArgs (PySem.W.kla_fn "<lambda>" q params body scope cl pm cv ctv) ⟨[], []⟩ = pure []) ∧
    ∀ (s : Shared) (H : Hp) (E : XK) (f' c' : Addr), Room kk (X.A.deeper (lamEnv X scope s.heap.objs.size f' c')) → ∃ t, DE (lamCxN X s H E scope f' c') T (kx E) body t f
theorem LamD.mk' {X : Cx} {T : CT} {kk : Nat} {params : Arguments} {body : Expr} {scope : Scope} {pos : Pos} {f : Env → Res R} (L : LamS X.env.scope scope)
    (hb : ∀ (q : Str) (cl : List (Str × Addr)) (pm cv ctv : Value), bindArgs (PySem.W.kla_fn "<lambda>" q params body scope cl pm cv ctv) ⟨[], []⟩ = pure [])
    (h : ∀ (s : Shared) (H : Hp) (E : XK) (f' c' : Addr), Room kk (X.A.deeper (lamEnv X scope s.heap.objs.size f' c')) → L2N.Takes (lamCxN X s H E scope f' c') (wxE E) → ∃ t, DE (lamCxN X s H E scope f' c') T (kx E) body t f) : LamD X T kk (.Lambda params body scope pos) f :=
  ⟨fun pa b sc ps e => by cases e; exact ⟨L, hb, fun s H E f' c' hr => h s H E f' c' hr lam_takes⟩⟩
inductive LamsD (X : Cx) (T : CT) (kk : Nat) : List Expr → List (Env → Res R) → Prop
  | nil : LamsD X T kk [] []
  | cons {e : Expr} {f : Env → Res R} {es : List Expr} {fs : List (Env → Res R)} : LamD X T kk e f → LamsD X T kk es fs → LamsD X T kk (e :: es) (f :: fs)
theorem LamsD.get {X : Cx} {T : CT} {kk : Nat} : ∀ {es : List Expr} {fs : List (Env → Res R)} {k : Nat} {e : Expr}, LamsD X T kk es fs → es[k]? = some e → ∃ f, fs[k]? = some f ∧ LamD X T kk e f
  | _, _, _, _, .nil, h => by simp at h
  | _, _, 0, _, .cons a _, h => by simp at h; subst h; exact ⟨_, rfl, a⟩
  | _, _, k + 1, e, .cons _ r, h => by
    obtain ⟨f, h1, h2⟩ := LamsD.get (k := k) (e := e) r (by simpa using h)
    exact ⟨f, by simpa using h1, h2⟩
section
variable {X : Cx} {T : CT}
/-- a(), a a slot that tells one of these lambdas -/
theorem de_lamcall {W : WX} {i kk : Nat} {a : Str} {p1 p2 : Pos} {es : List Expr} {fs : List (Env → Res R)} (hT : ∀ k G b, T.fn k G b → LamAt (lq X) X.env.cells es k G b) (ls : LamsD X T kk es fs) (tk : L2N.Takes X W) (hr : Room (kk + 1) X.A)
    (hN : X.N[i]? = some a := by rfl) (hv : Vis X.env.scope a := by first | exact Or.inl rfl | exact Or.inr (Or.inl rfl) | exact Or.inr (Or.inr rfl)) (hd : (a == ("__debug__" : Str)) = false := by decide) (hcd : (a == ("__classdict__" : Str)) = false := by decide) :
    DE X T (WE W) (.Call (.Name a p1) [] [] p2) (fun σ H Q => ∃ (k : Nat) (params : Arguments) (body : Expr) (scope : Scope) (pos : Pos) (f : Env → Res R) (fa c' : Addr), es[k]? = some (Expr.Lambda params body scope pos) ∧ fs[k]? = some f ∧ σ[i]? = some (some (.ref fa)) ∧
      H fa = some (LamO (lq X) params body scope (lcl X scope) fa c') ∧ H c' = some (CodeO c' (lq X)) ∧ tOf (pw X T) (kx (WE W σ)) f σ H Q) (fCallFn i fs) := by
  refine ⟨⟨fun pins s σ H Q I h => ?_⟩, fun G0 H0 G H σ env s Q w => ?_⟩
  · obtain ⟨k, params, body, scope, pos, f, fa, c', h1, h2, h3, h4, h5, h6⟩ := h
    obtain ⟨f', g1, g2⟩ := ls.get h1
    rw [h2] at g1
    cases g1
    obtain ⟨L, hb, hbody⟩ := g2.go _ _ _ _ rfl
    exact (pe_lamcall (X := X) (W := W) (k := kk) (p1 := p1) (p2 := p2) (tb := fun E => tOf (pw X T) (kx E) f) L tk hr hb (fun s H E f' c' hr' => tOf_pe (X := lamCxN X s H E scope f' c') (hbody s H E f' c' hr')) hN hv hd hcd).run pins s σ H Q I ⟨fa, c', h3, h4, h5, h6⟩
  · unfold fCallFn at w
    split at w
    · rename_i k e
      cases q : fs[k]? with
      | none => rw [q] at w; exact w.elim
      | some f =>
        rw [q] at w
        obtain ⟨as, hl, _⟩ := s.sl
        obtain ⟨v, bs, h3, h4, _⟩ := hl.get e
        cases h4 with
        | fz h4 =>
          cases h4 with
          | fn h4 =>
            obtain ⟨params, body, scope, pos, c', g1, g2, g3⟩ := hT k G _ (h4 G (Evl.Ex.refl _))
            exact ⟨k, params, body, scope, pos, f, _, c', g1, q, h3, s.gr.gh _ _ g2, s.gr.gh _ _ g3, G0, H0, G, env, s, w⟩
    · exact w.elim
end
/-! ## all slots frozen anew, tables left out -/
def noTbl (H : Hp) : Hp := fun a => match H a with
  | some (.tbl _) => none
  | z => z
theorem noTbl_ex (H : Hp) : Ex (noTbl H) H := fun a o h => by
  unfold noTbl at h
  split at h
  · cases h
  · exact h
theorem noTbl_at {H : Hp} {a : Addr} {o : HO} (h : H a = some o) (n : ∀ ps, o ≠ .tbl ps) : noTbl H a = some o := by
  unfold noTbl
  rw [h]
  cases o with
  | tbl ps => exact absurd rfl (n ps)
  | _ => rfl
theorem extN_noTbl {H H' : Hp} (e : ExtN H H') : ExtN H (noTbl H') := fun b o h n => noTbl_at (e b o h n) n
theorem extN_of {G H : Hp} (e : Ex G H) : ExtN G H := fun b o h _ => e b o h
theorem rd_lift {G G' : Hp} (e : ExtN G G') {a : Addr} {u : HO} (n : ∀ ps, u ≠ .tbl ps) (h : Rd G a u) : Rd G' a u := by
  rcases h with h | ⟨o, h⟩
  · exact .inl (e _ _ h n)
  · exact .inr ⟨o, e _ _ h fun ps z => by cases z⟩
theorem sqT_lift {K : PySem.W.Frag} {G G' : Hp} (e : ExtN G G') {a : Addr} {xs : List V} (h : SqT K G a xs) : SqT K G' a xs := h.imp (rd_lift e fun ps z => by cases z) id
theorem sqL_lift {K : PySem.W.Frag} {G G' : Hp} (e : ExtN G G') {a : Addr} {xs : List V} (h : SqL K G a xs) : SqL K G' a xs := h.imp (rd_lift e fun ps z => by cases z) id
/-- the same words, functions told otherwise -/
abbrev Pw.withFn (p : Pw) (g : Nat → Hp → Addr → Prop) : Pw := ⟨p.K, ⟨p.T.C, p.T.x, g⟩, p.P, p.w⟩
mutual
theorem Is.lift {p : Pw} {g : Nat → Hp → Addr → Prop} (nf : ∀ k G a, ¬ p.T.fn k G a) {G G' : Hp} (e : ExtN G G') : ∀ {v : V} {d : D}, Is p G v d → Is (p.withFn g) G' v d
  | _, _, .non => .non
  | _, _, .bl b => .bl b
  | _, _, .int i => .int i
  | _, _, .str s => .str s
  | _, _, .tup h r => .tup (sqT_lift e h) (IsL.lift nf e r)
  | _, _, .lst h r => .lst (e _ _ h fun ps z => by cases z) (IsL.lift nf e r)
  | _, _, .scr h => .scr (sqL_lift e h)
  | _, _, .dki h r => .dki (e _ _ h fun ps z => by cases z) (IsI.lift nf e r)
  | _, _, .dkw h a b c d r n z => .dkw (p := p.withFn g) (e _ _ h fun ps z => by cases z) a b c d (IsE.lift nf e r) n z
  | _, _, .ins h l r => .ins (p := p.withFn g) (e _ _ h fun ps z => by cases z) l (IsL.lift nf e r)
  | _, _, .fn h => absurd (h G (Evl.Ex.refl _)) (nf _ _ _)
  | _, _, .exc0 h => .exc0 (p := p.withFn g) h
  | _, _, .exc1 h q => .exc1 (p := p.withFn g) h (e _ _ q fun ps z => by cases z)
theorem IsL.lift {p : Pw} {g : Nat → Hp → Addr → Prop} (nf : ∀ k G a, ¬ p.T.fn k G a) {G G' : Hp} (e : ExtN G G') : ∀ {vs : List V} {ds : List D}, IsL p G vs ds → IsL (p.withFn g) G' vs ds
  | _, _, .nil => .nil
  | _, _, .cons h r => .cons (Is.lift nf e h) (IsL.lift nf e r)
theorem IsI.lift {p : Pw} {g : Nat → Hp → Addr → Prop} (nf : ∀ k G a, ¬ p.T.fn k G a) {G G' : Hp} (e : ExtN G G') : ∀ {vs : List (Key × V)} {ds : List (Int × D)}, IsI p G vs ds → IsI (p.withFn g) G' vs ds
  | _, _, .nil => .nil
  | _, _, .cons h r => .cons (Is.lift nf e h) (IsI.lift nf e r)
theorem IsE.lift {p : Pw} {g : Nat → Hp → Addr → Prop} (nf : ∀ k G a, ¬ p.T.fn k G a) {G G' : Hp} (e : ExtN G G') : ∀ {vs : List (NestedKey × Addr × Value)} {ds : List ((Int × Bool) × D)}, IsE p G vs ds → IsE (p.withFn g) G' vs ds
  | _, _, .nil => .nil
  | _, _, .cons h r i s => .cons (p := p.withFn g) (sqT_lift e h) r (Is.lift nf e i) (IsE.lift nf e s)
end
def wholeE (env : Env) : Bool := env.all fun x => match x with | some o => O.whole o | none => true
def frzE (env : Env) : Env := env.map (Option.map fun o => O.fz o.frz)
theorem EnvL.lift {p : Pw} {g : Nat → Hp → Addr → Prop} (nf : ∀ k G a, ¬ p.T.fn k G a) {G H G' H' : Hp} (ex : Ex G H) (e : ExtN H G') : ∀ {σ : L2.St} {env : Env} {as : List Addr}, EnvL p G H σ env as → wholeE env = true → EnvL (p.withFn g) G' H' σ (frzE env) []
  | _, _, _, .nil, _ => .nil
  | _, _, _, .skip r, w => .skip (EnvL.lift nf ex e r (by simpa [wholeE] using w))
  | _, _, _, .cons h r d, w => by
    simp only [wholeE, List.all_cons, Bool.and_eq_true] at w
    have w2 := w
    exact .cons (.fz (Is.lift nf e (h.frz ex (fun _ _ => rfl) w2.1))) (EnvL.lift nf ex e r w2.2) (fun _ m => nomatch m)
theorem SOk.lift {p : Pw} {g : Nat → Hp → Addr → Prop} (nf : ∀ k G a, ¬ p.T.fn k G a) {G0 H0 G H H' : Hp} {σ : L2.St} {env : Env} (s : SOk p G0 H0 G H σ env) (w : wholeE env = true) (e : ExtN H H') : SOk (p.withFn g) (noTbl H') H' (noTbl H') H' σ (frzE env) := by
  obtain ⟨as, h, _⟩ := s.sl
  exact ⟨Grow.refl (noTbl_ex H'), [], EnvL.lift nf s.gr.gh (extN_noTbl e) h w, fun _ m => nomatch m⟩
/-- x = [lambda: ..]; x.append(lambda: ..) -/
theorem lams_made {p : Pw} {X : Cx} {P : Addr} {pa0 pa1 : Arguments} {b0 b1 : Expr} {s0 s1 : Scope} {pos0 pos1 : Pos} {i : Nat} {G0 H0 G H : Hp} {σ : L2.St} {env : Env} {Dn : Ends} {t2 : TS} (nf : ∀ k G a, ¬ p.T.fn k G a)
    (s : SOk p G0 H0 G H σ env) (w : wholeE env = true) (hi : i < σ.length) (hP : TabS H P (lq X))
    (k : ∀ G' H' σ', SOk (p.withFn (LamAt (lq X) X.env.cells [.Lambda pa0 b0 s0 pos0, .Lambda pa1 b1 s1 pos1])) G' H' G' H' σ' ((frzE env).set i (some (.fz (.lst [.fn 0, .fn 1])))) → t2 Dn σ' H') :
    tSeq (tAsg (tLst (tCons (tLamM X P pa0 b0 s0) tNil)) (gName i)) (tSeq (tDrop (tBM p.K "list" rAppend (tVar i) (tCons (tLamM X P pa1 b1 s1) tNil))) t2) Dn σ H := by
  refine ⟨hP, fun f0 c0 H1 e1 t1 n0 at0 co0 => ?_⟩
  refine ⟨by show 1 ≤ sizeLine; rw [sizeLine_eq]; omega, fun l nl => ?_⟩
  have ex1 : Ex H1 (upd H1 l (.lst [.ref f0])) := Evl.Ex.new nl
  have atl : upd H1 l (.lst [.ref f0]) l = some (.lst [.ref f0]) := upd_same
  refine ⟨.ref l, by rw [List.getElem?_set_self hi], ?_⟩
  refine ⟨.inl ⟨rfl, _, SqL.of atl⟩, ?_⟩
  obtain ⟨ps1, q1, q2, q3⟩ := t1
  have nlP : P ≠ l := ne_of_none q1 nl
  refine ⟨⟨ps1, by rw [upd_ne nlP]; exact q1, q2, fun pos cv hc => ?_⟩, fun f1 c1 H2 e2 t2' n1 at1 co1 => ?_⟩
  · obtain ⟨c, z1, z2⟩ := q3 pos cv hc
    exact ⟨c, z1, ex1 _ _ z2⟩
  have atl2 : H2 l = some (.lst [.ref f0]) := e2 _ _ atl fun ps z => by cases z
  refine ⟨l, [.ref f0], .ref f1, rfl, rfl, atl2, by show 1 < sizeLine; rw [sizeLine_eq]; omega, ?_⟩
  have ne : ∀ {b : Addr} {o : HO}, H1 b = some o → b ≠ l := fun {b o} h => ne_of_none h nl
  have step : ∀ {b : Addr} {o : HO}, H1 b = some o → (∀ ps, o ≠ .tbl ps) → upd H2 l (.lst ([.ref f0] ++ [.ref f1])) b = some o := fun {b o} h n => by
    rw [upd_ne (ne h)]
    exact e2 b o (by rw [upd_ne (ne h)]; exact h) n
  have nf1 : f1 ≠ l := fun z => by
    rw [z, upd_same] at n1
    cases n1
  have nc1 : c1 ≠ l := fun z => by
    rw [z, atl2] at co1
    unfold CodeO at co1
    cases co1
  have s3 := s.lift (g := LamAt (lq X) X.env.cells [.Lambda pa0 b0 s0 pos0, .Lambda pa1 b1 s1 pos1]) nf w (H' := upd H2 l (.lst ([.ref f0] ++ [.ref f1]))) fun b o h n => step (e1 b o h n) n
  refine k _ _ _ (s3.set (Grow.refl s3.gr.gh) (cs := []) (.fz (.lst (noTbl_at upd_same fun ps z => by cases z) (.cons (.fn fun G' e => ?_) (.cons (.fn fun G' e => ?_) .nil)))) (fun _ m => nomatch m) i)
  · exact ⟨pa0, b0, s0, pos0, c0, rfl, e _ _ (noTbl_at (step at0 fun ps => lamO_ne ps) fun ps => lamO_ne ps), e _ _ (noTbl_at (step co0 fun ps => codeO_ne ps) fun ps => codeO_ne ps)⟩
  · exact ⟨pa1, b1, s1, pos1, c1, rfl, e _ _ (noTbl_at (by rw [upd_ne nf1]; exact at1) fun ps => lamO_ne ps), e _ _ (noTbl_at (by rw [upd_ne nc1]; exact co1) fun ps => codeO_ne ps)⟩
end DL
namespace DL
open PySem L2 PyProof.Rows LamX
/-! ## defs that answer True; what they leave in the heap is not told -/
def spT (p : Pw) (Pt : Addr) (ok : List D → Bool) : Sp := fun vs H Q _ => ∃ G ds, Ex G H ∧ IsL p G vs ds ∧ ok ds = true ∧ H Pt = some (.tbl #[]) ∧ ∀ H', Q (.bl true) H'
structure DTl (X : Cx) (T : CT) (Pt : Addr) (sts : List Stmt) (t : TS) (ok : Env → Bool) : Prop where
  ps : PSs X sts t
  ev : ∀ G0 H0 G H σ env, SOk (pw X T) G0 H0 G H σ env → H0 Pt = some (.tbl #[]) → ok env = true → ∀ Dn : Ends, (∀ H', Dn.rt (.bl true) H') → t Dn σ H
def okSeq (F : Env → Fl) (k : Env → Bool) : Env → Bool := fun env => match F env with
  | .nx e => k e
  | _ => false
def okEnd : Fl → Bool
  | .rt (.fz (.bl b)) => b
  | _ => false
def okRes : Res R → Bool
  | .ok (.fz (.bl b)) => b
  | _ => false
theorem okEnd_is {fl : Fl} (h : okEnd fl = true) : fl = .rt (.fz (.bl true)) := by
  unfold okEnd at h
  split at h
  · rw [h]
  · cases h
theorem okRes_is {r : Res R} (h : okRes r = true) : r = .ok (.fz (.bl true)) := by
  unfold okRes at h
  split at h
  · rw [h]
  · cases h
def okLam (i : Nat) (F : Env → Fl) : Env → Bool := fun env => wholeE env && decide (i < env.length) && okEnd (F ((frzE env).set i (some (.fz (.lst [.fn 0, .fn 1])))))
def fTru (okf : List D → Bool) : List D → Res R := fun ds => if okf ds then .ok (.fz (.bl true)) else .bad
def okRet (fr : Env → Res (List S)) (okf : List D → Bool) : Env → Bool := fun env => okRes ((fr env).bind (callS (fTru okf)))
/-- a def with such a promise -/
structure FnT (P : Program) (w : World) (K : PySem.W.Frag) (T : CT) (mg : Str → Option Value) (base : Heap) (CX : CXT) (Pt : Addr) (x : Str) (k : Nat) (ok : List D → Bool) : Prop where
  ex : ∃ f fd ps, FnOk P w K mg base CX k f fd ps (spT ⟨K, T, P, w⟩ Pt ok) ∧ mg x = some (.ref f) ∧ PySem.W.keepIn K (.ref f) = true ∧ Binds K fd ps []
def okDef (n np : Nat) (ok : Env → Bool) : List D → Bool := fun ds => (ds.length == np) && ok (startE n ds)
section
variable {X : Cx} {T : CT} {Pt : Addr}
theorem dtl_cons {st : Stmt} {rest : List Stmt} {t u : TS} {F : Env → Fl} {ok : Env → Bool} (h1 : DS X T (fun _ _ _ => False) st t F) (h2 : DTl X T Pt rest u ok) : DTl X T Pt (st :: rest) (tSeq t u) (okSeq F ok) := by
  refine ⟨pss_cons h1.ps h2.ps, fun G0 H0 G H σ env s hP q Dn k => ?_⟩
  unfold okSeq at q
  refine h1.ev G0 H0 G H σ env s _ ?_
  split at q
  · rename_i e z
    rw [z]
    exact fun G1 H1 σ1 s1 => h2.ev G0 H0 G1 H1 σ1 e s1 hP q Dn k
  · cases q
theorem swish_true {p : Pw} {G0 H0 : Hp} {Dn : Ends} {E : XK} {fl : Fl} (h : okEnd fl = true) (k : ∀ H', Dn.rt (.bl true) H') : SWish p G0 H0 Dn E fl := by
  rw [okEnd_is h]
  intro v G H g rep
  cases rep
  exact k H
theorem call_true {E : L2.St → XK} {es : List Expr} {t : TA} {fr : Env → Res (List S)} {okf : List D → Bool} (ha : DA X T E es t fr) {G0 H0 G H : Hp} {σ : L2.St} {env : Env} (s : SOk (pw X T) G0 H0 G H σ env) (hP : H0 Pt = some (.tbl #[])) (q : okRet fr okf env = true) {Q : VK} {E' : XK} (k : ∀ H', Q (.bl true) H') :
    t σ H fun vs H1 => spT (pw X T) Pt okf vs H1 Q E' := by
  have e0 := okRes_is q
  refine ha.ev.to s (ok := okR (pw X T) fun v _ => v = .bl true) (k := callS (fTru okf)) ?_ (fun _ _ g' _ h => h.grow g') fun ss vs G1 H1 g1 rep w1 => ?_
  · rw [e0]
    intro v G2 H2 g rep
    cases rep
    rfl
  · obtain ⟨G2, ds, e, hl, wi⟩ := callS_use g1.gh rep w1
    unfold fTru at wi
    by_cases h : okf ds = true
    · exact ⟨G2, ds, e, hl, h, g1.h _ _ (s.gr.h _ _ hP), k⟩
    · rw [if_neg h] at wi; exact wi.elim
/-- f(e, ..) -/
theorem pe_callT {k : Nat} {okf : List D → Bool} {x : Str} {e : Expr} {es : List Expr} {t : TA} {p pos : Pos} (h : ∃ f fd ps, FnOk X.prog X.w X.K X.mg X.base (L2N.CX X.prog X.w) k f fd ps (spT (pw X T) Pt okf) ∧ X.mg x = some (.ref f) ∧ PySem.W.keepIn X.K (.ref f) = true ∧ Binds X.K fd ps []) (hr : Room k X.A)
    (ha : PA X (e :: es) t) (hg : Gl X x := by rfl) (hd : (x == ("__debug__" : Str)) = false := by decide) (he : starEach (e :: es) X.env = (false, eval e X.env) :: starEach es X.env := by rfl) (hpl : (backTo pos (starEach es X.env)).any (·.1) = false := by rfl) :
    PE X (.Call (.Name x p) (e :: es) [] pos) (tCallS (spT (pw X T) Pt okf) (WE (wxE fun _ _ _ => False)) t) := by
  obtain ⟨f, fd, ps, F, hm, hk, hb⟩ := h
  exact pe_callS F hr hg hm hk hb (fun σ => L2N.passAt takes0 σ) ha hd he hpl
/-- return f(e, ..) -/
theorem dtl_ret {k : Nat} {okf : List D → Bool} {x : Str} {e : Expr} {es : List Expr} {t : TA} {fr : Env → Res (List S)} {p pos pos2 : Pos} (h : FnT X.prog X.w X.K T X.mg X.base (L2N.CX X.prog X.w) Pt x k okf) (hr : Room k X.A)
    (ha : DA X T (kx fun _ _ _ => False) (e :: es) t fr) (hg : Gl X x := by rfl) (hd : (x == ("__debug__" : Str)) = false := by decide) (he : starEach (e :: es) X.env = (false, eval e X.env) :: starEach es X.env := by rfl) (hpl : (backTo pos (starEach es X.env)).any (·.1) = false := by rfl) :
    DTl X T Pt [.Return (some (.Call (.Name x p) (e :: es) [] pos)) pos2] (tRet (tCallS (spT (pw X T) Pt okf) (WE (wxE fun _ _ _ => False)) t)) (okRet fr okf) :=
  ⟨pss_one (ps_ret (pe_callT h.ex hr ha.pa hg hd he hpl)), fun G0 H0 G H σ env s hP q Dn k => call_true ha s hP q k⟩
/-- two lambdas in a list; the rest -/
theorem dtl_lams {A B : Stmt} {rest : List Stmt} {pa0 pa1 : Arguments} {b0 b1 : Expr} {s0 s1 : Scope} (pos0 pos1 : Pos) {i : Nat} {t2 : TS} {F2 : Env → Fl} (nf : ∀ k G a, ¬ T.fn k G a)
    (hA : PS X A (tAsg (tLst (tCons (tLamM X Pt pa0 b0 s0) tNil)) (gName i))) (hB : PS X B (tDrop (tBM X.K "list" rAppend (tVar i) (tCons (tLamM X Pt pa1 b1 s1) tNil))))
    (h2 : DSs X ⟨T.C, T.x, LamAt (lq X) X.env.cells [.Lambda pa0 b0 s0 pos0, .Lambda pa1 b1 s1 pos1]⟩ (fun _ _ _ => False) rest t2 F2) :
    DTl X T Pt (A :: B :: rest) (tSeq (tAsg (tLst (tCons (tLamM X Pt pa0 b0 s0) tNil)) (gName i)) (tSeq (tDrop (tBM X.K "list" rAppend (tVar i) (tCons (tLamM X Pt pa1 b1 s1) tNil))) t2)) (okLam i F2) := by
  refine ⟨pss_cons hA (pss_cons hB h2.ps), fun G0 H0 G H σ env s hP q Dn k => ?_⟩
  unfold okLam at q
  simp only [Bool.and_eq_true, decide_eq_true_eq] at q
  obtain ⟨⟨q1, q2⟩, q3⟩ := q
  have hl : σ.length = env.length := by
    obtain ⟨as, h, _⟩ := s.sl
    exact h.len
  exact lams_made (p := pw X T) nf s q1 (by rw [hl]; exact q2) (TabS.nil (s.gr.h _ _ hP)) fun G' H' σ' s' => h2.ev G' H' G' H' σ' _ s' Dn (swish_true q3 k)
/-- the numbers alone -/
def keepInt : Env → Env := List.map fun x => match x with
  | some (.fz (.int n)) => some (.fz (.int n))
  | _ => none
theorem envL_int {p : Pw} {G H G' H' : Hp} : ∀ {σ : L2.St} {env : Env} {as : List Addr}, EnvL p G H σ env as → EnvL p G' H' σ (keepInt env) []
  | _, _, _, .nil => .nil
  | _, _, _, .skip r => .skip (envL_int r)
  | _, _, _, .cons (o := o) h r d => by
    have r' := envL_int (G' := G') (H' := H') r
    unfold keepInt
    rw [List.map_cons]
    split
    · rename_i n e
      cases e
      cases h with
      | fz h =>
        cases h
        exact .cons (.fz (.int n)) r' (fun _ m => nomatch m)
    · exact .skip r'
/-- if not a or not f(e, ..): return False / return b -/
def okLaw (f1 : Env → Res R) (fr : Env → Res (List S)) (okf : List D → Bool) (f2 : Env → Res R) : Env → Bool := fun env => okRes (f1 env) && okRet fr okf env && okRes (f2 (keepInt env))
theorem dtl_law {a b ef : Expr} {es : List Expr} {x : Str} {t1 t2 : TE} {t : TA} {f1 f2 : Env → Res R} {fr : Env → Res (List S)} {okf : List D → Bool} {k : Nat} {p pos p1 p2 p3 p4 p5 p6 p7 : Pos} {j : Nat} (ha : DE X T (kx fun _ _ _ => False) a t1 f1) (h : FnT X.prog X.w X.K T X.mg X.base (L2N.CX X.prog X.w) Pt x k okf) (hr : Room k X.A)
    (hes : DA X T (kx fun _ _ _ => False) (ef :: es) t fr) (hb : DE X T (kx fun _ _ _ => False) b t2 f2) (hg : Gl X x := by rfl) (hd : (x == ("__debug__" : Str)) = false := by decide) (he : starEach (ef :: es) X.env = (false, eval ef X.env) :: starEach es X.env := by rfl) (hpl : (backTo pos (starEach es X.env)).any (·.1) = false := by rfl)
    (t0 : ∀ whole, isTrue a X.env whole = (do let v ← whole; standAt a.pos; holding [v] (truthy v)) := by intro _; rfl) (t3 : ∀ whole, isTrue (.Call (.Name x p) (ef :: es) [] pos) X.env whole = (do let v ← whole; standAt (Expr.pos (.Call (.Name x p) (ef :: es) [] pos)); holding [v] (truthy v)) := by intro _; rfl) :
    DTl X T Pt [.If (.BoolOp .Or [.UnaryOp .Not a p1, .UnaryOp .Not (.Call (.Name x p) (ef :: es) [] pos) p2] p3) [.Return (some (.Constant (.bool false) j p4)) p5] [] p6, .Return (some b) p7]
      (tSeq (tIfS (tOr (tNot (tB t1)) (tNot (tB (tCallS (spT (pw X T) Pt okf) (WE (wxE fun _ _ _ => False)) t)))) (tRet (tC (.bl false))) tNext) (tRet t2)) (okLaw f1 fr okf f2) := by
  have hp2 := pe_callT (T := T) (Pt := Pt) (p := p) (pos := pos) h.ex hr hes.pa hg hd he hpl
  refine ⟨pss_cons (ps_if (pw_or (pt_not (pt_val ha.pe t0)) (pw_or1 (pt_not (pt_val hp2 t3)))).pt (pss_one (ps_ret pe_bl)) pss_nil) (pss_one (ps_ret hb.pe)), fun G0 H0 G H σ env s hP q Dn k => ?_⟩
  unfold okLaw at q
  simp only [Bool.and_eq_true] at q
  obtain ⟨⟨q1, q2⟩, q3⟩ := q
  refine ha.ev G0 H0 G H σ env s _ ?_
  rw [okRes_is q1]
  intro v G1 H1 g rep
  cases rep
  refine ⟨true, rfl, ?_⟩
  refine call_true hes (s.grow g) hP q2 fun H2 => ⟨true, rfl, ?_⟩
  have s2 : SOk (pw X T) (fun _ => none) H2 (fun _ => none) H2 σ (keepInt env) := by
    obtain ⟨as, h1, _⟩ := s.sl
    exact ⟨Grow.refl (fun _ _ z => nomatch z), [], envL_int h1, fun _ m => nomatch m⟩
  refine hb.ev _ _ _ _ σ _ s2 _ ?_
  rw [okRes_is q3]
  intro v G3 H3 g3 rep
  cases rep
  exact k H3
end
/-- such a def -/
theorem fn_tail {CX : CXT} {P : Program} {w : World} {K : PySem.W.Frag} {T : CT} {mg : Str → Option Value} {base : Heap} {Pt f : Addr} {x qual : Str} {st : Stmt} {kV doc pm cdv ct oc : Value} {an od : Option Addr} {osl : Array (Option Value)} {N ps : List Str} {k n np : Nat} {ok : Env → Bool}
    (lk : K.lookup f = some ⟨oc, od, .func (PySem.W.fnOf x qual (defArgs st) (defBody st) (defScope st) .none kV doc pm an cdv ct), osl⟩) (hcd : PySem.W.codeIn K cdv qual = true) (S : FnScope N ps (defScope st)) (hn : N.length = n) (hnp : ps.length = np)
    (hbody : ∀ (A : Around) (outer : List PySem.Env) (s : Shared) (H : Hp) (E : XK), Room k (A.deeper (PyProof.Rows.envOfC qual (defScope st) s.heap.objs.size f cdv)) → ∃ t, DTl (cxOf CX P w K mg base N qual (defScope st) f cdv A outer s H E) T Pt (defBody st) t ok) :
    FnOk P w K mg base CX (k + 1) f (PySem.W.fnOf x qual (defArgs st) (defBody st) (defScope st) .none kV doc pm an cdv ct) ps (spT ⟨K, T, P, w⟩ Pt (okDef n np ok)) := by
  subst hn hnp
  refine fn_of lk hcd S (fun vs H Q E h => ?_) fun A outer s H vs Q E hr h => ?_
  · obtain ⟨G, ds, e, hl, q, _⟩ := h
    simp only [okDef, Bool.and_eq_true, beq_iff_eq] at q
    exact hl.length.trans q.1
  · obtain ⟨G, ds, e, hl, q, hP, k⟩ := h
    simp only [okDef, Bool.and_eq_true, beq_iff_eq] at q
    obtain ⟨t, hd⟩ := hbody A outer s H E hr
    exact ⟨t, hd.ps, hd.ev G H G H _ _ (sOk_start e hl N) hP q.2 _ k⟩
end DL
namespace DL
open PySem PySem.Spec PyProof.Rows L2 LamX
/-! ## the end of a law one of whose defs makes functions: that def's table -/
theorem walk_named {l : PySem.W.OpenLaw} {n k : Nat} {q : Program} {loose : List Str} {XP : (Str → Option Value) → Heap → Prop} {YP : World → Heap → Prop} {d : DefRec} {K : Params → PySem.W.Frag} {CX : World → CXT} {x : Str} (nm : Str)
    (most : l.most = some n) (small : n ≤ sizeLine) (nodef : d.params.defaults = []) (room : Room k callerA) (told : ((recsOf q).any fun e => e.name == nm) = true) (inK : ∀ (w : World) (h : Heap), YP w h → (K w.params).In h)
    (F : ∀ (w : World) (mg : Str → Option Value) (fa : Addr) (h : Heap), (K w.params).In h → h.Ns mainGlobals mg → mg d.name = some (.ref fa) → (∀ ft : Addr, mg nm = some (.ref ft) → OwnTab (K w.params) ft h) → LawAtS l w (K w.params) (CX w) k n x mg fa h)
    (noX : ∀ (w : World) (H : Hp) (s : Shared) (e : Value) (s' : Shared), CX w [] H s (fun _ _ _ => False) e s' → False) :
    PySem.W.WalkO q loose XP YP l.row.toRowW d [] (fun f vs => PySem.call f vs) := by
  refine Att.attach_callB most nodef fun w s₀ s₁ mg mb fa o pm cd doc a vs ns G Y ho hd hcd hmg hobj hints hlen hbits hg => ?_
  have KX := inK w _ Y
  have own : ∀ ft : Addr, mg nm = some (.ref ft) → OwnTab (K w.params) ft s₁.heap := by
    intro ft hft c P o1 fd1 e dd vs1 sl k1 k2 k3 k4 k5
    obtain ⟨r, mr, nr⟩ := List.any_eq_true.mp told
    have er : r.name = nm := beq_iff_eq.mp nr
    obtain ⟨a2, o2, fd2, c2, P2, i1, i2, i3, i4, i5, i6⟩ := G.T.tab r mr
    rw [er, hft] at i1
    cases i1
    rw [KX _ _ k1] at i2
    cases i2
    rw [k2] at i3
    cases i3
    rw [k3] at i4
    cases i4
    obtain ⟨⟨oc, vc, j1, _, j3, j4⟩, hP⟩ := i6
    rw [KX _ _ k4] at j1
    cases j1
    cases j3
    rw [k5] at j4
    cases j4
    exact hP
  obtain ⟨fd, cs, sp, hT, nT, C, hb, hsp, hF⟩ := F w mg fa _ KX G.T.g hmg own
  exact law_callTs KX G.T.g G.T.b G.T.builtins G.T.nolimit hg hT nT C G.T.bmain hobj hints (Nat.le_trans hlen small) room hF hb (fun H hH hS => hsp H a ns hlen hbits hH hS) fun H e s' => noX w H s₁ e s'
end DL
namespace DL
open PySem L2 PyProof.Rows
abbrev noFn : Nat → Hp → Addr → Prop := fun _ _ _ => False
/-- the classes alone, no exception handled, such functions -/
abbrev TF (C : Nat → Addr) (fn : Nat → Hp → Addr → Prop) : CT := ⟨C, fun _ _ _ => False, fn⟩
/-- the lambda in x = [lambda] or x.append(lambda) -/
def lamExp : Stmt → Expr
  | .Assign _ (.List [e] _) _ => e
  | .Expr (.Call _ [e] _ _) _ => e
  | _ => .Constant .none 0 ⟨0, 0, 0, 0⟩
end DL
namespace DL
open PySem L2
/-! ## pure evaluation: what the combinators tell, for simp -/
def seqK (fl : Fl) (F : Env → Fl) : Fl := match fl with | .nx env => F env | z => z
@[simp] theorem seqK_nx {env : Env} {F : Env → Fl} : seqK (.nx env) F = F env := rfl
@[simp] theorem seqK_rt {r : R} {F : Env → Fl} : seqK (.rt r) F = .rt r := rfl
@[simp] theorem seqK_bk {r : Env} {F : Env → Fl} : seqK (.bk r) F = .bk r := rfl
@[simp] theorem seqK_ct {r : Env} {F : Env → Fl} : seqK (.ct r) F = .ct r := rfl
@[simp] theorem seqK_ex {c : Nat} {ds : List O} {F : Env → Fl} : seqK (.ex c ds) F = .ex c ds := rfl
@[simp] theorem seqK_bad {F : Env → Fl} : seqK .bad F = .bad := rfl
section
variable {env : Env} {i j : Nat} {d : D} {ds : List D} {f g fa fb fc : Env → Res R} {ft fu : Env → Res Bool} {F F2 : Env → Fl} {fr : Env → Res (List S)} {m : Bool}
@[simp] theorem fVar_def : fVar i env = match env[i]? with
  | some (some (.fz d)) => .ok (.fz d)
  | some (some o) => .ok (.bor o)
  | _ => .bad := rfl
@[simp] theorem fC_ev : fC d env = .ok (.fz d) := rfl
@[simp] theorem st_fz : (R.fz d).st = .fz d := rfl
@[simp] theorem st_new {o : O} : (R.new o).st = .fz o.frz := rfl
@[simp] theorem st_bor {o : O} : (R.bor o).st = .bor o := rfl
@[simp] theorem int_fz {z : Int} : (S.fz (.int z)).int? = some z := rfl
@[simp] theorem bl_fz {z : Bool} : (S.fz (.bl z)).bl? = some z := rfl
@[simp] theorem str_fz {z : Str} : (S.fz (.str z)).str? = some z := rfl
@[simp] theorem frz_fz : (O.fz d).frz = d := rfl
@[simp] theorem frzL_fz : O.frzL (ds.map O.fz) = ds := by
  induction ds with
  | nil => rfl
  | cons d ds ih => simp [O.frzL, ih]
@[simp] theorem frz_lst {os : List O} : (O.lst os).frz = .lst (O.frzL os) := rfl
@[simp] theorem frzL_nil : O.frzL [] = [] := rfl
@[simp] theorem frzL_cons {o : O} {os : List O} : O.frzL (o :: os) = o.frz :: O.frzL os := rfl
@[simp] theorem frzL_append {a b : List O} : O.frzL (a ++ b) = O.frzL a ++ O.frzL b := by
  induction a with
  | nil => rfl
  | cons d ds ih => simp [ih]
@[simp] theorem wholeL_fz' {ds : List D} : O.wholeL (ds.map O.fz) = true := wholeL_fz ds
@[simp] theorem whole_lst {os : List O} : (O.lst os).whole = O.wholeL os := by simp [O.whole]
@[simp] theorem whole_fz {d : D} : (O.fz d).whole = true := by simp [O.whole]
def opK2 (g : S → S → Res R) (x y : R) : Res R := g x.st y.st
def opK1 (g : S → S → Res R) (fb : Env → Res R) (env : Env) (x : R) : Res R := (fb env).bind (opK2 g x)
@[simp] theorem opK2_def {g : S → S → Res R} {x y : R} : opK2 g x y = g x.st y.st := rfl
@[simp] theorem opK1_def {g : S → S → Res R} {x : R} : opK1 g fb env x = (fb env).bind (opK2 g x) := rfl
@[simp] theorem fOp_def {g : S → S → Res R} : fOp g fa fb env = (fa env).bind (opK1 g fb env) := rfl
def f1K (g : S → Res R) (x : R) : Res R := g x.st
@[simp] theorem f1K_def {g : S → Res R} {x : R} : f1K g x = g x.st := rfl
@[simp] theorem f1_def {g : S → Res R} : f1 g fa env = (fa env).bind (f1K g) := rfl
@[simp] theorem fCB_def {g : List S → Res R} : fCB g fr env = (fr env).bind g := rfl
@[simp] theorem fCall_def {Fn : List D → Res R} : fCall Fn fr env = (fr env).bind (callS Fn) := rfl
def consK2 (x : R) (xs : List S) : Res (List S) := .ok (x.st :: xs)
def consK1 (fr : Env → Res (List S)) (env : Env) (x : R) : Res (List S) := (fr env).bind (consK2 x)
@[simp] theorem consK2_def {x : R} {xs : List S} : consK2 x xs = .ok (x.st :: xs) := rfl
@[simp] theorem consK1_def {x : R} : consK1 fr env x = (fr env).bind (consK2 x) := rfl
@[simp] theorem fCons_def : fCons fa fr env = (fa env).bind (consK1 fr env) := rfl
def tupK (ss : List S) : Res R := match fzAll ss with | some ds => if ds.length ≤ LINE then .ok (.fz (.tup ds)) else .bad | none => .bad
@[simp] theorem tupK_def {ss : List S} : tupK ss = match fzAll ss with | some ds => if ds.length ≤ LINE then .ok (.fz (.tup ds)) else .bad | none => .bad := rfl
@[simp] theorem fTup_def : fTup fr env = (fr env).bind tupK := rfl
def lstK (ss : List S) : Res R := match fzAll ss with | some ds => if ds.length ≤ LINE then newL ds else .bad | none => .bad
@[simp] theorem lstK_def {ss : List S} : lstK ss = match fzAll ss with | some ds => if ds.length ≤ LINE then newL ds else .bad | none => .bad := rfl
@[simp] theorem fLst_def : fLst fr env = (fr env).bind lstK := rfl
@[simp] theorem fT_def : fT f env = (f env).bind asB := rfl
def andK (fb : Env → Res R) (env : Env) (x : R) : Res R := match x.st.bl? with | some true => fb env | some false => .ok (.fz (.bl false)) | none => .bad
@[simp] theorem andK_fz {b : Bool} : andK fb env (.fz (.bl b)) = if b = true then fb env else .ok (.fz (.bl false)) := by cases b <;> rfl
@[simp] theorem fAnd_def : fAnd fa fb env = (fa env).bind (andK fb env) := rfl
def orK (fb : Env → Res R) (env : Env) (x : R) : Res R := match x.st.bl? with | some true => .ok (.fz (.bl true)) | some false => fb env | none => .bad
@[simp] theorem orK_fz {b : Bool} : orK fb env (.fz (.bl b)) = if b = true then .ok (.fz (.bl true)) else fb env := by cases b <;> rfl
@[simp] theorem fOr_def : fOr fa fb env = (fa env).bind (orK fb env) := rfl
def notK (x : R) : Res R := match x.st.bl? with | some b => .ok (.fz (.bl (!b))) | none => .bad
@[simp] theorem notK_fz {b : Bool} : notK (.fz (.bl b)) = .ok (.fz (.bl (!b))) := rfl
@[simp] theorem fNot_def : fNot fa env = (fa env).bind notK := rfl
def tandK (fu : Env → Res Bool) (env : Env) (x : Bool) : Res Bool := if x then fu env else .ok false
@[simp] theorem tandK_def {x : Bool} : tandK fu env x = if x = true then fu env else .ok false := rfl
@[simp] theorem fTAnd_def : fTAnd ft fu env = (ft env).bind (tandK fu env) := rfl
def torK (fu : Env → Res Bool) (env : Env) (x : Bool) : Res Bool := if x then .ok true else fu env
@[simp] theorem torK_def {x : Bool} : torK fu env x = if x = true then .ok true else fu env := rfl
@[simp] theorem fTOr_def : fTOr ft fu env = (ft env).bind (torK fu env) := rfl
def tnotK (x : Bool) : Res Bool := .ok (!x)
@[simp] theorem tnotK_def {x : Bool} : tnotK x = .ok (!x) := rfl
@[simp] theorem fTNot_def : fTNot ft env = (ft env).bind tnotK := rfl
def fIfK (fa fb : Env → Res R) (env : Env) (x : Bool) : Res R := if x then fa env else fb env
@[simp] theorem fIfK_def {x : Bool} : fIfK fa fb env x = if x = true then fa env else fb env := rfl
@[simp] theorem fIf_def : fIf ft fa fb env = (ft env).bind (fIfK fa fb env) := rfl
def chK4 (g' : S → S → Res R) (y u : R) : Res R := g' y.st u.st
@[simp] theorem chK4_def {g' : S → S → Res R} {y u : R} : chK4 g' y u = g' y.st u.st := rfl
def chK3 (g' : S → S → Res R) (fc : Env → Res R) (env : Env) (y z : R) : Res R := match z.st.bl? with
    | some true => (fc env).bind (chK4 g' y)
    | some false => .ok (.fz (.bl false))
    | none => .bad
@[simp] theorem chK3_fz {g' : S → S → Res R} {y : R} {b : Bool} : chK3 g' fc env y (.fz (.bl b)) = if b = true then (fc env).bind (chK4 g' y) else .ok (.fz (.bl false)) := by cases b <;> rfl
def chK2 (g g' : S → S → Res R) (fc : Env → Res R) (env : Env) (x y : R) : Res R := (g x.st y.st).bind (chK3 g' fc env y)
@[simp] theorem chK2_def {g g' : S → S → Res R} {x y : R} : chK2 g g' fc env x y = (g x.st y.st).bind (chK3 g' fc env y) := rfl
def chK1 (g g' : S → S → Res R) (fb fc : Env → Res R) (env : Env) (x : R) : Res R := (fb env).bind (chK2 g g' fc env x)
@[simp] theorem chK1_def {g g' : S → S → Res R} {x : R} : chK1 g g' fb fc env x = (fb env).bind (chK2 g g' fc env x) := rfl
@[simp] theorem fChain_def {g g' : S → S → Res R} : fChain g g' fa fb fc env = (fa env).bind (chK1 g g' fb fc env) := rfl
def isiK (tn : String) (x : R) : Res R := match x.st.tyN with
  | some t => (match kitB t tn with | some b => .ok (.fz (.bl b)) | none => .bad)
  | none => .bad
theorem isiK_of {tn t : String} {x : R} {b : Bool} (h : x.st.tyN = some t) (h2 : kitB t tn = some b) : isiK tn x = .ok (.fz (.bl b)) := by unfold isiK; rw [h]; simp only [h2]
@[simp] theorem fIsi_def {tn : String} : fIsi tn f env = (f env).bind (isiK tn) := rfl
def partK (x : R) : Res (Option Int) := match x.st.int? with | some i => .ok (some i) | none => .bad
@[simp] theorem partK_fz {z : Int} : partK (.fz (.int z)) = .ok (some z) := rfl
@[simp] theorem fPart_def : fPart f env = (f env).bind partK := rfl
def cutK3 (x : R) (l u : Option Int) : Res R := gCut x.st l u
@[simp] theorem cutK3_def {x : R} {l u : Option Int} : cutK3 x l u = gCut x.st l u := rfl
def cutK2 (fh : Env → Res (Option Int)) (env : Env) (x : R) (l : Option Int) : Res R := (fh env).bind (cutK3 x l)
@[simp] theorem cutK2_def {fh : Env → Res (Option Int)} {x : R} {l : Option Int} : cutK2 fh env x l = (fh env).bind (cutK3 x l) := rfl
def cutK1 (fl fh : Env → Res (Option Int)) (env : Env) (x : R) : Res R := (fl env).bind (cutK2 fh env x)
@[simp] theorem cutK1_def {fl fh : Env → Res (Option Int)} {x : R} : cutK1 fl fh env x = (fl env).bind (cutK2 fh env x) := rfl
@[simp] theorem fCut_def {fl fh : Env → Res (Option Int)} : fCut fa fl fh env = (fa env).bind (cutK1 fl fh env) := rfl
def m1K2 (g : Str → S → Res R) (a : Str) (y : R) : Res R := g a y.st
@[simp] theorem m1K2_def {g : Str → S → Res R} {a : Str} {y : R} : m1K2 g a y = g a y.st := rfl
def m1K1 (g : Str → S → Res R) (fb : Env → Res R) (env : Env) (x : R) : Res R := match x.st.str? with
  | some a => (fb env).bind (m1K2 g a)
  | none => .bad
@[simp] theorem m1K1_fz {g : Str → S → Res R} {a : Str} : m1K1 g fb env (.fz (.str a)) = (fb env).bind (m1K2 g a) := rfl
@[simp] theorem fM1_def {g : Str → S → Res R} : fM1 g fa fb env = (fa env).bind (m1K1 g fb env) := rfl
def mK2 (Fn : List D → Res R) (x : R) (ss : List S) : Res R := callS Fn (x.st :: ss)
@[simp] theorem mK2_def {Fn : List D → Res R} {x : R} {ss : List S} : mK2 Fn x ss = callS Fn (x.st :: ss) := rfl
def mK1 (c : Nat) (Fn : List D → Res R) (fr : Env → Res (List S)) (env : Env) (x : R) : Res R := if x.st.isC c then (fr env).bind (mK2 Fn x) else .bad
@[simp] theorem mK1_def {c : Nat} {Fn : List D → Res R} {x : R} : mK1 c Fn fr env x = if x.st.isC c = true then (fr env).bind (mK2 Fn x) else .bad := rfl
@[simp] theorem fMeth_def {c : Nat} {Fn : List D → Res R} : fMeth c Fn fa fr env = (fa env).bind (mK1 c Fn fr env) := rfl
@[simp] theorem asB_fz {b : Bool} : asB (.fz (.bl b)) = .ok b := rfl
@[simp] theorem seqF_def : seqF F F2 env = seqK (F env) F2 := by unfold seqF seqK; rfl
@[simp] theorem nextF_def : nextF env = .nx env := rfl
def ifK (F F2 : Env → Fl) (env : Env) (k : Bool) : Fl := if k then F env else F2 env
@[simp] theorem ifK_def {k : Bool} : ifK F F2 env k = if k = true then F env else F2 env := rfl
@[simp] theorem ifF_def : ifF ft F F2 env = bindF (ft env) (ifK F F2 env) := rfl
def setK (m : Bool) (i : Nat) (env : Env) (r : R) : Fl := match store m r with | some o => .nx (env.set i (some o)) | none => .bad
@[simp] theorem setK_def {r : R} : setK m i env r = match store m r with | some o => .nx (env.set i (some o)) | none => .bad := rfl
@[simp] theorem setF_def : setF m i f env = bindF (f env) (setK m i env) := rfl
def retK (r : R) : Fl := match r with | .bor _ => .bad | r => .rt r
@[simp] theorem retK_fz : retK (.fz d) = .rt (.fz d) := rfl
@[simp] theorem retK_new {o : O} : retK (.new o) = .rt (.new o) := rfl
@[simp] theorem retF_def : retF f env = bindF (f env) retK := rfl
@[simp] theorem retVF_def : retVF i env = match env[i]? with
  | some (some (.fz d)) => .rt (.fz d)
  | some (some o) => if O.whole o then .rt (.new o) else .bad
  | _ => .bad := rfl
def dropK (env : Env) (_ : R) : Fl := .nx env
@[simp] theorem dropK_def {r : R} : dropK env r = .nx env := rfl
@[simp] theorem dropF_def : dropF f env = bindF (f env) (dropK env) := rfl
def forK (gf : D → Env → Option Env) (F : Env → Fl) (env : Env) (ds : List D) : Fl := loopF gf F ds env
@[simp] theorem forK_def {gf : D → Env → Option Env} : forK gf F env ds = loopF gf F ds env := rfl
@[simp] theorem forF_def {fi : Env → Res (List D)} {gf : D → Env → Option Env} : forF fi gf F env = bindF (fi env) (forK gf F env) := rfl
def appK (m : Bool) (i : Nat) (os : List O) (env : Env) (r : R) : Fl := match store m r with
    | some o => .nx (env.set i (some (.lst (os ++ [o]))))
    | none => .bad
@[simp] theorem appK_def {os : List O} {r : R} : appK m i os env r = match store m r with
    | some o => .nx (env.set i (some (.lst (os ++ [o]))))
    | none => .bad := rfl
@[simp] theorem appF_def : appF m i f env = match env[i]? with
  | some (some (.lst os)) => if os.length < LINE then bindF (f env) (appK m i os env) else .bad
  | _ => .bad := rfl
def augK (i : Nat) (a : Int) (env : Env) (r : R) : Fl := match r.st.int? with
    | some b => .nx (env.set i (some (.fz (.int (a + b)))))
    | none => .bad
@[simp] theorem augK_fz {a z : Int} : augK i a env (.fz (.int z)) = .nx (env.set i (some (.fz (.int (a + z))))) := rfl
@[simp] theorem augF_def : augF i f env = match env[i]? with
  | some (some (.fz (.int a))) => bindF (f env) (augK i a env)
  | _ => .bad := rfl
def fldK (m : Bool) (i c n : Nat) (env : Env) (r : R) : Fl := match store m r with
  | some o => (match env[i]? with
    | some (some (.slf a c' os)) => if c' = c ∧ os.length = n then .nx (env.set i (some (.slf a c (os ++ [o])))) else .bad
    | _ => .bad)
  | none => .bad
@[simp] theorem fldK_def {c n : Nat} {r : R} : fldK m i c n env r = match store m r with
  | some o => (match env[i]? with
    | some (some (.slf a c' os)) => if c' = c ∧ os.length = n then .nx (env.set i (some (.slf a c (os ++ [o])))) else .bad
    | _ => .bad)
  | none => .bad := rfl
@[simp] theorem fldF_def {c n : Nat} : fldF m i c n f env = bindF (f env) (fldK m i c n env) := rfl
@[simp] theorem frzK_def : frzK i F env = match env[i]? with
  | some (some o) => if O.whole o then F (env.set i (some (.fz o.frz))) else .bad
  | _ => .bad := rfl
@[simp] theorem store_fz : store m (.fz d) = some (.fz d) := rfl
@[simp] theorem store_t {o : O} : store true (.new o) = some o := rfl
@[simp] theorem store_f {o : O} : store false (.new o) = some (.fz o.frz) := rfl
@[simp] theorem store_b {o : O} : store m (.bor o) = none := rfl
@[simp] theorem loopF_nil {gf : D → Env → Option Env} : loopF gf F [] env = .nx env := rfl
theorem loopF_cons {gf : D → Env → Option Env} : loopF gf F (d :: ds) env = match gf d env with
    | none => .bad
    | some env1 => (match F env1 with
      | .nx env2 => loopF gf F ds env2
      | .ct env2 => loopF gf F ds env2
      | .bk env2 => .nx env2
      | z => z) := rfl
@[simp] theorem newL_def : newL ds = .ok (.new (.lst (ds.map O.fz))) := rfl
@[simp] theorem fzAll_nil : fzAll [] = some [] := rfl
@[simp] theorem fzAll_cons {ss : List S} : fzAll (.fz d :: ss) = (fzAll ss).map (d :: ·) := rfl
@[simp] theorem fzAll_bor {o : O} {ss : List S} : fzAll (.bor o :: ss) = none := rfl
@[simp] theorem callS_fz {Fn : List D → Res R} {ss : List S} {ds : List D} (h : fzAll ss = some ds) : callS Fn ss = Fn ds := by unfold callS; rw [h]
theorem callS_def {Fn : List D → Res R} {ss : List S} : callS Fn ss = match fzAll ss with
  | some ds => Fn ds
  | none => (match datAll ss with
    | some ds => (match Fn ds with
      | .ok r => if r.flat then .ok r else .bad
      | _ => .bad)
    | none => .bad) := rfl
@[simp] theorem noEx_ok {α : Type} {a : α} : noEx (.ok a) = .ok a := rfl
@[simp] theorem noEx_bad {α : Type} : noEx (.bad : Res α) = .bad := rfl
@[simp] theorem noEx_ex {α : Type} {c : Nat} {es : List O} : noEx (.ex c es : Res α) = .bad := rfl
@[simp] theorem runFl_rt {r : R} : runFl (.rt r) = .ok r := rfl
@[simp] theorem runFl_nx : runFl (.nx env) = .ok (.fz .non) := rfl
@[simp] theorem runFl_bad : runFl .bad = .bad := rfl
theorem defF0_def {n np : Nat} : defF0 n np F ds = noEx (if ds.length = np then runFl (F (startE n ds)) else .bad) := rfl
theorem startE_def {n : Nat} : startE n ds = ds.map (fun d => some (O.fz d)) ++ List.replicate (n - ds.length) none := rfl
/-! values -/
@[simp] theorem gI_int {c : Int → Int → Bool} {g : Int → Int → D} {a b : Int} : gI c g (.fz (.int a)) (.fz (.int b)) = if c a b then .ok (.fz (g a b)) else .bad := rfl
@[simp] theorem gAdd_int {a b : Int} : gAdd (.fz (.int a)) (.fz (.int b)) = .ok (.fz (.int (a + b))) := rfl
@[simp] theorem gAdd_str {a b : Str} (h : a.length + b.length ≤ LINE) : gAdd (.fz (.str a)) (.fz (.str b)) = .ok (.fz (.str (a ++ b))) := by
  have e : gS (fun i j => decide (i.length + j.length ≤ LINE)) (fun i j => D.str (i ++ j)) (S.fz (.str a)) (S.fz (.str b)) = .ok (.fz (.str (a ++ b))) := by
    unfold gS
    simp only [str_fz, decide_eq_true h, if_true]
  unfold gAdd
  rw [e]
  rfl
@[simp] theorem gMul_int {a b : Int} (h : mulOk a b = true) : gMul (.fz (.int a)) (.fz (.int b)) = .ok (.fz (.int (a * b))) := by
  unfold gMul; simp [h]
theorem mulOk_r {a b : Int} (h1 : -(2 ^ 64) < b) (h2 : b < 2 ^ 64) : mulOk a b = true := by
  unfold mulOk; simp; omega
theorem mulOk_l {a b : Int} (h1 : -(2 ^ 64) < a) (h2 : a < 2 ^ 64) : mulOk a b = true := by
  unfold mulOk; simp; omega
theorem divOk_of {a b : Int} (h1 : 0 < b) (h2 : b < 1073741824) : divOk a b = true := by unfold divOk; simp [h1, h2]
theorem modOk_of {a b : Int} (h1 : 0 < b) : modOk a b = true := by unfold modOk; simp [h1]
@[simp] theorem line_lit {n : Nat} : (n ≤ LINE) = (n ≤ 1000000) := rfl
@[simp] theorem line_lt_lit {n : Nat} : (n < LINE) = (n < 1000000) := rfl
@[simp] theorem gIx_tup {a : Int} : gIx (.fz (.tup ds)) (.fz (.int a)) = (match atI ds a with | some d => .ok (.fz d) | none => .bad) := rfl
@[simp] theorem gIx_lst {a : Int} : gIx (.fz (.lst ds)) (.fz (.int a)) = (match atI ds a with | some d => .ok (.fz d) | none => .bad) := rfl
@[simp] theorem gIx_scr {ns : List Int} {a : Int} : gIx (.fz (.scr ns)) (.fz (.int a)) = (match atI ns a with | some d => .ok (.fz (.int d)) | none => .bad) := rfl
theorem gIx_str {z : Str} {a : Int} : gIx (.fz (.str z)) (.fz (.int a)) = if z.length ≤ LINE then (match atI z.cps.toList a with | some c => .ok (.fz (.str ⟨#[c]⟩)) | none => .bad) else .bad := rfl
theorem gIx_bor {os : List O} {a : Int} : gIx (.bor (.lst os)) (.fz (.int a)) = (match atI os a with | some (.fz d) => .ok (.fz d) | some o => .ok (.bor o) | none => .bad) := rfl
@[simp] theorem gLen_scr {ns : List Int} : gLen [.fz (.scr ns)] = .ok (.fz (.int (ns.length : Int))) := rfl
@[simp] theorem gLen_lst : gLen [.fz (.lst ds)] = .ok (.fz (.int (ds.length : Int))) := rfl
@[simp] theorem gLen_tup : gLen [.fz (.tup ds)] = .ok (.fz (.int (ds.length : Int))) := rfl
@[simp] theorem gLen_bor {os : List O} : gLen [.bor (.lst os)] = .ok (.fz (.int (os.length : Int))) := rfl
@[simp] theorem gLen_str {z : Str} (h : z.length ≤ LINE) : gLen [.fz (.str z)] = .ok (.fz (.int (z.length : Int))) := by
  unfold gLen S.len?; simp only [if_pos h]
@[simp] theorem gMin_int {a b : Int} : gMin [.fz (.int a), .fz (.int b)] = .ok (.fz (.int (if b < a then b else a))) := rfl
@[simp] theorem gNeg_int {a : Int} : gNeg (.fz (.int a)) = .ok (.fz (.int (-a))) := rfl
@[simp] theorem gAbs_int {a : Int} : gAbs [.fz (.int a)] = .ok (.fz (.int (if a < 0 then -a else a))) := rfl
@[simp] theorem rng1_int {a : Int} : rng1 [.fz (.int a)] = if -(2 ^ 62) ≤ a ∧ a < 2 ^ 62 then .ok (rangeD 0 a.toNat) else .bad := rfl
@[simp] theorem gfName_def : gfName i d env = some (env.set i (some (.fz d))) := rfl
@[simp] theorem itemsI_fz {b : Bool} : itemsI b (.fz (.lst ds)) = .ok ds := rfl
@[simp] theorem itemsI_new {b : Bool} {os : List O} : itemsI b (.new (.lst os)) = .ok (O.frzL os) := rfl
@[simp] theorem itemsI_bor : itemsI false (.bor (.lst (ds.map O.fz))) = .ok ds := by simp [itemsI, itemsF_map]
@[simp] theorem itemsT_fz : itemsT (.fz (.tup ds)) = .ok ds := rfl
theorem atI_0 {α : Type} {a : α} {l : List α} : atI (a :: l) 0 = some a := atI_nat (j := 0) rfl
theorem atI_1 {α : Type} {a b : α} {l : List α} : atI (a :: b :: l) 1 = some b := atI_nat (j := 1) rfl
theorem atI_get2 {α : Type} {l : List α} {n : Nat} {a : α} (h : l[n]? = some a) : atI l (n : Int) = some a := atI_nat h
@[simp] theorem atI_cast {α : Type} {l : List α} {n : Nat} : atI l (n : Int) = l[n]? := by
  unfold atI ixN
  rw [if_pos (Int.natCast_nonneg n)]
  by_cases h : n < l.length
  · rw [if_pos (by omega)]; simp
  · rw [if_neg (by omega), List.getElem?_eq_none (by omega)]; rfl
@[simp] theorem atI_lit {α : Type} {l : List α} {n : Nat} : atI l (no_index (OfNat.ofNat n : Int)) = l[n]? := atI_cast (n := n)
@[simp] theorem atI_z {α : Type} {l : List α} : atI l (0 : Int) = l[0]? := atI_cast (n := 0)
@[simp] theorem atI_one {α : Type} {l : List α} : atI l (1 : Int) = l[1]? := atI_cast (n := 1)
theorem atI_neg {α : Type} {l : List α} (a : α) : atI (l ++ [a]) (-1) = some a := atI_last l a
@[simp] theorem seqK_ite {c : Prop} [Decidable c] {a b : Fl} : seqK (if c then a else b) F = if c then seqK a F else seqK b F := by split <;> rfl
@[simp] theorem runFl_ite {c : Prop} [Decidable c] {a b : Fl} : runFl (if c then a else b) = if c then runFl a else runFl b := by split <;> rfl
@[simp] theorem noEx_ite {α : Type} {c : Prop} [Decidable c] {a b : Res α} : noEx (if c then a else b) = if c then noEx a else noEx b := by split <;> rfl
@[simp] theorem bind_ite {α β : Type} {c : Prop} [Decidable c] {a b : Res α} {k : α → Res β} : (if c then a else b).bind k = if c then a.bind k else b.bind k := by split <;> rfl
@[simp] theorem bindF_ite {α : Type} {c : Prop} [Decidable c] {a b : Res α} {k : α → Fl} : bindF (if c then a else b) k = if c then bindF a k else bindF b k := by split <;> rfl
@[simp] theorem mulOk_small {a : Int} {n : Nat} (h : n < 18446744073709551616) : mulOk a (no_index (OfNat.ofNat n : Int)) = true := by
  refine mulOk_r ?_ ?_
  · have : (OfNat.ofNat n : Int) = ((n : Nat) : Int) := rfl
    rw [this]; omega
  · have : (OfNat.ofNat n : Int) = ((n : Nat) : Int) := rfl
    rw [this]; omega
@[simp] theorem mulOk_smallL {a : Int} {n : Nat} (h : n < 18446744073709551616) : mulOk (no_index (OfNat.ofNat n : Int)) a = true := by
  refine mulOk_l ?_ ?_
  · have : (OfNat.ofNat n : Int) = ((n : Nat) : Int) := rfl
    rw [this]; omega
  · have : (OfNat.ofNat n : Int) = ((n : Nat) : Int) := rfl
    rw [this]; omega
/-- a == b of numbers, of truths, of texts -/
@[simp] theorem gEq_int {f : Bool → Bool} {a b : Int} : gEq f (.fz (.int a)) (.fz (.int b)) = .ok (.fz (.bl (f (decide (a = b))))) := by
  have e : eqD (.int a) (.int b) = some (decide (a = b)) := by
    unfold eqD
    simp [D.py, SeqAt.shaped, PyData.canLay0, PyData.depth, PyData.eqv]
    try rw [Bool.beq_eq_decide_eq]
  simp [gEq, S.dat, e]
@[simp] theorem gEq_bl {f : Bool → Bool} {a b : Bool} : gEq f (.fz (.bl a)) (.fz (.bl b)) = .ok (.fz (.bl (f (decide (a = b))))) := by
  have e : eqD (.bl a) (.bl b) = some (decide (a = b)) := by
    unfold eqD
    simp [D.py, SeqAt.shaped, PyData.canLay0, PyData.depth, PyData.eqv]
    cases a <;> cases b <;> rfl
  simp [gEq, S.dat, e]
@[simp] theorem gEq_str {f : Bool → Bool} {a b : Str} : gEq f (.fz (.str a)) (.fz (.str b)) = .ok (.fz (.bl (f (decide (a = b))))) := by
  have e : eqD (.str a) (.str b) = some (decide (a = b)) := by
    unfold eqD
    rfl
  simp [gEq, S.dat, e]
end
end DL
namespace DL
open PySem L2
theorem loopF_inv {gf : D → Env → Option Env} {F : Env → Fl} (P : Nat → Env → Prop) : ∀ (ds : List D) (k0 : Nat) (env : Env), P k0 env →
    (∀ k d env, ds[k]? = some d → P (k0 + k) env → ∃ env1 env2, gf d env = some env1 ∧ (F env1 = .nx env2 ∨ F env1 = .ct env2) ∧ P (k0 + k + 1) env2) → ∃ env', loopF gf F ds env = .nx env' ∧ P (k0 + ds.length) env'
  | [], k0, env, h, _ => ⟨env, rfl, h⟩
  | d :: ds, k0, env, h, st => by
    obtain ⟨e1, e2, q1, q2, q3⟩ := st 0 d env rfl h
    obtain ⟨e', w1, w2⟩ := loopF_inv P ds (k0 + 1) e2 q3 (fun k d env hk hp => by
      have := st (k + 1) d env (by simpa using hk) (by rw [show k0 + (k + 1) = k0 + 1 + k by omega]; exact hp)
      rw [show k0 + (k + 1) + 1 = k0 + 1 + k + 1 by omega] at this
      exact this)
    refine ⟨e', ?_, by rw [List.length_cons, show k0 + (ds.length + 1) = k0 + 1 + ds.length by omega]; exact w2⟩
    rw [loopF_cons, q1]
    rcases q2 with q2 | q2 <;> simp only [q2] <;> exact w1
theorem loop_acc {α : Type} {gf : D → Env → Option Env} {F : Env → Fl} (dA : α → D) (g : α → D) (P : List D → Env → Prop) (B : Nat) : ∀ (xs : List α) (acc : List D) (env : Env), acc.length + xs.length ≤ B → P acc env →
    (∀ x ∈ xs, ∀ acc env, acc.length < B → P acc env → ∃ env1 env2, gf (dA x) env = some env1 ∧ F env1 = .nx env2 ∧ P (acc ++ [g x]) env2) → ∃ env', loopF gf F (xs.map dA) env = .nx env' ∧ P (acc ++ xs.map g) env'
  | [], acc, env, _, h, _ => ⟨env, rfl, by simpa using h⟩
  | x :: xs, acc, env, hB, h, st => by
    simp only [List.length_cons] at hB
    obtain ⟨e1, e2, q1, q2, q3⟩ := st x (by simp) acc env (by omega) h
    obtain ⟨e', w1, w2⟩ := loop_acc dA g P B xs (acc ++ [g x]) e2 (by simp; omega) q3 (fun y m => st y (List.mem_cons_of_mem _ m))
    refine ⟨e', ?_, by simpa using w2⟩
    rw [List.map_cons, loopF_cons, q1]
    simp only [q2]
    exact w1
theorem lcF_map {α : Type} {gf : D → Env → Option Env} {ft : Env → Res Bool} {fe : Env → Res R} {env : Env} (dA : α → D) (g : α → D) : ∀ (xs : List α), (∀ x ∈ xs, ∃ env1, gf (dA x) env = some env1 ∧ ft env1 = .ok true ∧ ∃ r, fe env1 = .ok r ∧ r.st = .fz (g x)) → lcF gf ft fe env (xs.map dA) = .ok (xs.map g)
  | [], _ => rfl
  | x :: xs, h => by
    obtain ⟨e1, q1, q2, r, q3, q4⟩ := h x (by simp)
    have ih := lcF_map (gf := gf) (ft := ft) (fe := fe) (env := env) dA g xs (fun y m => h y (List.mem_cons_of_mem _ m))
    rw [List.map_cons, lcF, q1]
    simp only [q2, q3, q4, noEx, Res.bind_ok, if_true, ih]
    rfl
theorem rangeD_get {lo : Int} {n k : Nat} {d : D} (h : (rangeD lo n)[k]? = some d) : k < n ∧ d = .int (lo + k) := by
  unfold rangeD at h
  rw [List.getElem?_map] at h
  by_cases q : k < n
  · simp -implicitDefEqProofs [q] at h; exact ⟨q, h.symm⟩
  · rw [List.getElem?_eq_none (by simp; omega)] at h; cases h
theorem rangeD_len {lo : Int} {n : Nat} : (rangeD lo n).length = n := by simp -implicitDefEqProofs [rangeD]
theorem is_int_int (a : Int) : isiK "int" (.fz (.int a)) = .ok (.fz (.bl true)) := isiK_of (t := "int") rfl (by decide)
theorem is_int_bool (a : Int) : isiK "bool" (.fz (.int a)) = .ok (.fz (.bl false)) := isiK_of (t := "int") rfl (by decide)
theorem is_bl_bool (a : Bool) : isiK "bool" (.fz (.bl a)) = .ok (.fz (.bl true)) := isiK_of (t := "bool") rfl (by decide)
theorem is_tup_tup (ds : List D) : isiK "tuple" (.fz (.tup ds)) = .ok (.fz (.bl true)) := isiK_of (t := "tuple") rfl (by decide)
theorem is_lst_lst (ds : List D) : isiK "list" (.fz (.lst ds)) = .ok (.fz (.bl true)) := isiK_of (t := "list") rfl (by decide)
theorem is_str_str (s : Str) : isiK "str" (.fz (.str s)) = .ok (.fz (.bl true)) := isiK_of (t := "str") rfl (by decide)
theorem rng_nat {K : Nat} (h : K ≤ 1000000) : rng1 [.fz (.int (K : Int))] = .ok (rangeD 0 K) := by
  rw [rng1_int, if_pos (by omega)]
  rfl
theorem rng_n {n : Int} (h0 : 0 ≤ n) (h : n ≤ 1000000) : rng1 [.fz (.int n)] = .ok (rangeD 0 n.toNat) := by
  rw [rng1_int, if_pos (by omega)]
@[simp] theorem frz_ins {c : Nat} {os : List O} : (O.ins c os).frz = .ins c (O.frzL os) := rfl
theorem loop_accL {α : Type} {gf : D → Env → Option Env} {F : Env → Fl} (dA : α → D) (g : α → List D) (P : List D → Env → Prop) (B m : Nat) : ∀ (xs : List α) (acc : List D) (env : Env), acc.length + m * xs.length ≤ B → P acc env →
    (∀ x ∈ xs, ∀ acc env, acc.length + m ≤ B → P acc env → (g x).length ≤ m ∧ ∃ env1 env2, gf (dA x) env = some env1 ∧ F env1 = .nx env2 ∧ P (acc ++ g x) env2) → ∃ env', loopF gf F (xs.map dA) env = .nx env' ∧ P (acc ++ xs.flatMap g) env'
  | [], acc, env, _, h, _ => ⟨env, rfl, by simpa using h⟩
  | x :: xs, acc, env, hB, h, st => by
    rw [List.length_cons, Nat.mul_succ] at hB
    obtain ⟨q0, e1, e2, q1, q2, q3⟩ := st x (by simp) acc env (by omega) h
    obtain ⟨e', w1, w2⟩ := loop_accL dA g P B m xs (acc ++ g x) e2 (by rw [List.length_append]; omega) q3 (fun y z => st y (List.mem_cons_of_mem _ z))
    refine ⟨e', ?_, by rw [List.flatMap_cons, ← List.append_assoc]; exact w2⟩
    rw [List.map_cons, loopF_cons, q1]
    simp only [q2]
    exact w1
theorem lcF_filter {α : Type} {gf : D → Env → Option Env} {ft : Env → Res Bool} {fe : Env → Res R} {env : Env} (dA : α → D) (g : α → D) (q : α → Bool) : ∀ (xs : List α), (∀ x ∈ xs, ∃ env1, gf (dA x) env = some env1 ∧ ft env1 = .ok (q x) ∧ ∃ r, fe env1 = .ok r ∧ r.st = .fz (g x)) → lcF gf ft fe env (xs.map dA) = .ok ((xs.filter q).map g)
  | [], _ => rfl
  | x :: xs, h => by
    obtain ⟨e1, q1, q2, r, q3, q4⟩ := h x (by simp)
    have ih := lcF_filter (gf := gf) (ft := ft) (fe := fe) (env := env) dA g q xs (fun y m => h y (List.mem_cons_of_mem _ m))
    rw [List.map_cons, lcF, q1]
    cases hq : q x with
    | true => simp only [q2, q3, q4, noEx, Res.bind_ok, hq, if_true, ih, List.filter_cons_of_pos, List.map_cons]
    | false => simp only [q2, noEx, Res.bind_ok, hq, Bool.false_eq_true, if_false, ih, List.filter_cons, List.map_cons]
theorem quantAll {α : Type} {q : α → Bool} {xs : List α} : gQuant (fun bs => bs.all id) [.fz (.lst (xs.map fun x => D.bl (q x)))] = .ok (.fz (.bl (xs.all q))) := by
  unfold gQuant
  have : xs.map (fun x => D.bl (q x)) = (xs.map q).map D.bl := by rw [List.map_map]; rfl
  rw [this]
  simp only [items_fz, bools_map]
  rw [List.all_map]
  rfl
theorem quantAny {α : Type} {q : α → Bool} {xs : List α} : gQuant (fun bs => bs.any id) [.fz (.lst (xs.map fun x => D.bl (q x)))] = .ok (.fz (.bl (xs.any q))) := by
  unfold gQuant
  have : xs.map (fun x => D.bl (q x)) = (xs.map q).map D.bl := by rw [List.map_map]; rfl
  rw [this]
  simp only [items_fz, bools_map]
  rw [List.any_map]
  rfl
/-! data that are alike: equal just where they are the same -/
structure Em {α : Type} [DecidableEq α] (d : α → D) (k : Nat) : Prop where
  ns : ∀ a x, d a ≠ .str x
  ex : ∀ a, ∃ q, (d a).py = some q ∧ q.canLay0 = true ∧ q.depth ≤ k
  eq : ∀ a b p q, (d a).py = some p → (d b).py = some q → PyData.eqv p q = decide (a = b)
theorem em_int : Em D.int 0 := ⟨fun _ _ h => (nomatch h), fun a => ⟨_, rfl, rfl, Nat.le_refl _⟩, fun a b p q h1 h2 => by
  cases h1
  cases h2
  simp [PyData.eqv]
  try rw [Bool.beq_eq_decide_eq]⟩
theorem em_bl : Em D.bl 0 := ⟨fun _ _ h => (nomatch h), fun a => ⟨_, rfl, rfl, Nat.le_refl _⟩, fun a b p q h1 h2 => by
  cases h1
  cases h2
  cases a <;> cases b <;> rfl⟩
section
variable {α β : Type} [DecidableEq α] [DecidableEq β]
theorem em_pair {d : α → D} {e : β → D} {k : Nat} (h : Em d k) (h' : Em e k) : Em (fun x : α × β => D.tup [d x.1, e x.2]) (k + 1) := by
  refine ⟨fun _ _ h => (nomatch h), fun a => ?_, fun a b p q h1 h2 => ?_⟩
  · obtain ⟨p, p1, p2, p3⟩ := h.ex a.1
    obtain ⟨q, q1, q2, q3⟩ := h'.ex a.2
    refine ⟨.tuple [p, q], by simp [D.py, D.pyL, p1, q1], by simp [PyData.canLay0, PyData.canLayAll0, p2, q2], ?_⟩
    simp only [PyData.depth, PyData.depthAll]
    omega
  · obtain ⟨p1, a1, _, _⟩ := h.ex a.1
    obtain ⟨p2, a2, _, _⟩ := h'.ex a.2
    obtain ⟨q1, b1, _, _⟩ := h.ex b.1
    obtain ⟨q2, b2, _, _⟩ := h'.ex b.2
    simp [D.py, D.pyL, a1, a2] at h1
    simp [D.py, D.pyL, b1, b2] at h2
    subst h1 h2
    have z1 := h.eq a.1 b.1 p1 q1 a1 b1
    have z2 := h'.eq a.2 b.2 p2 q2 a2 b2
    obtain ⟨x, y⟩ := a
    obtain ⟨x', y'⟩ := b
    simp only at z1 z2
    by_cases c1 : x = x' <;> by_cases c2 : y = y' <;> simp [PyData.eqv, PyData.eqvAll, z1, z2, c1, c2]
theorem em_pyL {d : α → D} {k : Nat} (h : Em d k) : ∀ l : List α, ∃ qs, D.pyL (l.map d) = some qs ∧ PyData.canLayAll0 qs = true ∧ PyData.depthAll qs ≤ k
  | [] => ⟨[], rfl, rfl, Nat.zero_le _⟩
  | a :: l => by
    obtain ⟨p, p1, p2, p3⟩ := h.ex a
    obtain ⟨qs, q1, q2, q3⟩ := em_pyL h l
    exact ⟨p :: qs, by simp [D.pyL, p1, q1], by simp [PyData.canLayAll0, p2, q2], by simp only [PyData.depthAll]; omega⟩
theorem em_eqL {d : α → D} {k : Nat} (h : Em d k) : ∀ (l m : List α) (p q : List PyData), D.pyL (l.map d) = some p → D.pyL (m.map d) = some q → PyData.eqvAll p q = decide (l = m)
  | [], [], p, q, h1, h2 => by cases h1; cases h2; simp [PyData.eqvAll]
  | [], b :: m, p, q, h1, h2 => by
    cases h1
    obtain ⟨y, b1, _, _⟩ := h.ex b
    obtain ⟨ys, b2, _, _⟩ := em_pyL h m
    simp [D.pyL, b1, b2] at h2
    subst h2
    simp [PyData.eqvAll]
  | a :: l, [], p, q, h1, h2 => by
    cases h2
    obtain ⟨x, a1, _, _⟩ := h.ex a
    obtain ⟨xs, a2, _, _⟩ := em_pyL h l
    simp [D.pyL, a1, a2] at h1
    subst h1
    simp [PyData.eqvAll]
  | a :: l, b :: m, p, q, h1, h2 => by
    obtain ⟨x, a1, _, _⟩ := h.ex a
    obtain ⟨xs, a2, _, _⟩ := em_pyL h l
    obtain ⟨y, b1, _, _⟩ := h.ex b
    obtain ⟨ys, b2, _, _⟩ := em_pyL h m
    simp [D.pyL, a1, a2] at h1
    simp [D.pyL, b1, b2] at h2
    subst h1 h2
    have z1 := h.eq a b x y a1 b1
    have z2 := em_eqL h l m xs ys a2 b2
    by_cases c1 : a = b <;> by_cases c2 : l = m <;> simp [PyData.eqvAll, z1, z2, c1, c2]
theorem em_list {d : α → D} {k : Nat} (h : Em d k) : Em (fun l : List α => D.lst (l.map d)) (k + 1) := by
  refine ⟨fun _ _ h => (nomatch h), fun l => ?_, fun l m p q h1 h2 => ?_⟩
  · obtain ⟨qs, q1, q2, q3⟩ := em_pyL h l
    exact ⟨.list qs, by simp [D.py, q1], by simp [PyData.canLay0, q2], by simp only [PyData.depth]; omega⟩
  · obtain ⟨xs, a2, _, _⟩ := em_pyL h l
    obtain ⟨ys, b2, _, _⟩ := em_pyL h m
    simp [D.py, a2] at h1
    simp [D.py, b2] at h2
    subst h1 h2
    rw [PyData.eqv]
    exact em_eqL h l m xs ys a2 b2
theorem em_eqD {d : α → D} {k : Nat} (h : Em d k) (hk : k ≤ 64) (a b : α) : eqD (d a) (d b) = some (decide (a = b)) := by
  obtain ⟨p, p1, p2, p3⟩ := h.ex a
  obtain ⟨q, q1, q2, q3⟩ := h.ex b
  have hp : SeqAt.shaped p = true := by unfold SeqAt.shaped; rw [p2]; simp; omega
  have hq : SeqAt.shaped q = true := by unfold SeqAt.shaped; rw [q2]; simp; omega
  unfold eqD
  split
  · rename_i x y e1 e2
    exact absurd e1 (h.ns a x)
  · rw [p1, q1]
    simp only [hp, hq, Bool.and_self, if_true, h.eq a b p q p1 q1]
theorem gEq_em {d : α → D} {k : Nat} (h : Em d k) (hk : k ≤ 64) {f : Bool → Bool} (a b : α) : gEq f (.fz (d a)) (.fz (d b)) = .ok (.fz (.bl (f (decide (a = b))))) := by
  simp [gEq, S.dat, em_eqD h hk a b]
theorem em_any {d : α → D} {k : Nat} (h : Em d k) {a : α} {p : PyData} (hp : (d a).py = some p) : ∀ (l : List α) (qs : List PyData), D.pyL (l.map d) = some qs → (qs.any fun z => PyData.eqv z p) = decide (a ∈ l)
  | [], qs, e => by cases e; simp
  | b :: l, qs, e => by
    obtain ⟨y, b1, _, _⟩ := h.ex b
    obtain ⟨ys, b2, _, _⟩ := em_pyL h l
    simp [D.pyL, b1, b2] at e
    subst e
    have ih := em_any h hp l ys b2
    have z := h.eq b a y p b1 hp
    rw [List.any_cons, ih, z]
    by_cases c1 : b = a
    · subst c1; simp
    · have : a ≠ b := fun e => c1 e.symm
      by_cases c2 : a ∈ l <;> simp [c1, c2, this]
theorem gIn_em {d : α → D} {k : Nat} (h : Em d k) (hk : k < 64) {f : Bool → Bool} (a : α) (l : List α) : gIn f (.fz (d a)) (.fz (.lst (l.map d))) = .ok (.fz (.bl (f (decide (a ∈ l))))) := by
  obtain ⟨p, p1, p2, p3⟩ := h.ex a
  obtain ⟨qs, q1, q2, q3⟩ := em_pyL h l
  have hp : SeqAt.shaped p = true := by unfold SeqAt.shaped; rw [p2]; simp; omega
  have hq : SeqAt.shaped (.list qs) = true := by unfold SeqAt.shaped; rw [PyData.canLay0, q2]; simp [PyData.depth]; omega
  have e : inD (d a) (.lst (l.map d)) = some (decide (a ∈ l)) := by
    unfold inD
    split
    · rename_i e1 e2; cases e2
    · unfold anyD
      simp [D.py, q1, p1, hp, hq, em_any h p1 l qs q1]
  simp [gIn, S.dat, e]
theorem gEq_borL {f : Bool → Bool} {ds : List D} {y : S} : gEq f (.bor (.lst (ds.map O.fz))) y = gEq f (.fz (.lst ds)) y := by
  simp [gEq]
theorem gEq_borR {f : Bool → Bool} {ds : List D} {y : S} : gEq f y (.bor (.lst (ds.map O.fz))) = gEq f y (.fz (.lst ds)) := by
  simp [gEq]
end
end DL
namespace DL
open PySem L2
/-! pure evaluation: dicts by words, what moves -/
@[simp] theorem wds_lst {ds : List D} : (S.fz (.lst ds)).wds? = none := rfl
@[simp] theorem wds_tup {ds : List D} : (S.fz (.tup ds)).wds? = none := rfl
@[simp] theorem wds_scr {ds : List Int} : (S.fz (.scr ds)).wds? = none := rfl
@[simp] theorem wds_str {z : Str} : (S.fz (.str z)).wds? = none := rfl
@[simp] theorem wds_ins {c : Nat} {ds : List D} : (S.fz (.ins c ds)).wds? = none := rfl
@[simp] theorem wds_int {i : Int} : (S.fz (.int i)).wds? = none := rfl
@[simp] theorem wds_bor {os : List O} : (S.bor (.lst os)).wds? = none := rfl
@[simp] theorem wds_dkw {ds : List (WK × D)} : (S.fz (.dkw ds)).wds? = some ds := rfl
@[simp] theorem wds_bdkw {ds : List (WK × D)} : (S.bor (.dkw ds)).wds? = some ds := rfl
@[simp] theorem wk_wd {k : WK} : (S.fz (wdD k)).wk? = some k := rfl
@[simp] theorem frz_dkw {ds : List (WK × D)} : (O.dkw ds).frz = .dkw ds := rfl
@[simp] theorem whole_dkw {ds : List (WK × D)} : (O.dkw ds).whole = true := rfl
@[simp] theorem gIxA_none {x y : S} (h : x.wds? = none) : gIxA x y = gIx x y := by
  unfold gIxA gIxW
  rw [h]
  cases gIx x y <;> rfl
@[simp] theorem gInA_none {f : Bool → Bool} {x y : S} (h : y.wds? = none) : gInA f x y = gIn f x y := by
  unfold gInA gInW
  rw [h]
  cases q : x.wk? <;> cases gIn f x y <;> rfl
theorem gIxA_dkw {x : S} {ds : List (WK × D)} {k : WK} (h : x.wds? = some ds) : gIxA x (.fz (wdD k)) = (match lkW ds k with | some d => .ok (.fz d) | none => .bad) := by
  unfold gIxA gIxW
  rw [h, wk_wd]
  rfl
theorem gInA_dkw {f : Bool → Bool} {y : S} {ds : List (WK × D)} {k : WK} (h : y.wds? = some ds) : gInA f (.fz (wdD k)) y = .ok (.fz (.bl (f (lkW ds k).isSome))) := by
  have e : gIn f (.fz (wdD k)) y = .bad := by
    unfold S.wds? at h
    split at h
    · cases h; rfl
    · cases h; rfl
    · cases h
  unfold gInA
  rw [e]
  unfold gInW
  rw [h, wk_wd]
theorem gSortW_of {x : S} {ds : List (WK × D)} (h : x.wds? = some ds) : gSortW [x] = .ok (.new (.lst (((sortW (ds.map (·.1))).map wdD).map O.fz))) := by
  unfold gSortW
  simp only [h]
  rfl
section
variable {env : Env} {i j : Nat} {fa fb fc : Env → Res R} {F : Env → Fl} {ft : Env → Res Bool}
theorem fDispW_of {k : WK} {d : D} (h1 : fa env = .ok (.fz (wdD k))) (h2 : fb env = .ok (.fz d)) : fDispW fa fb env = .ok (.new (.dkw [(k, d)])) := by
  unfold fDispW
  rw [h1, h2]
  rfl
@[simp] theorem fNewW_ev : fNewW env = .ok (.new (.dkw [])) := rfl
theorem fGetW_of {x : R} {ds : List (WK × D)} {k : WK} {d : D} (h1 : fa env = .ok x) (h : x.st.wds? = some ds) (h2 : fb env = .ok (.fz (wdD k))) (h3 : fc env = .ok (.fz d)) : fGetW fa fb fc env = .ok (.fz ((lkW ds k).getD d)) := by
  unfold fGetW
  rw [h1, Res.bind_ok, h]
  simp only [h2, h3, Res.bind_ok, st_fz, wk_wd]
theorem setWF_of {ds : List (WK × D)} {k : WK} {r : R} {d : D} (h0 : env[i]? = some (some (.dkw ds))) (h1 : fb env = .ok r) (hr : store false r = some (.fz d)) (h2 : fa env = .ok (.fz (wdD k))) (hl : ds.length < 1000000) : setWF i fa fb env = .nx (env.set i (some (.dkw (putW ds k d)))) := by
  unfold setWF
  rw [h0]
  simp only [h1, h2, bindF, hr, st_fz, wk_wd, if_pos hl]
end
/-! the first of what a search and a put tell -/
theorem lk_put {ds : List (WK × D)} {k j : WK} {d : D} : lkW (putW ds k d) j = if k = j then some d else lkW ds j := by
  induction ds with
  | nil =>
    unfold putW lkW
    by_cases h : k = j <;> simp [h]
  | cons e ds ih =>
    unfold putW
    by_cases c : e.1 = k
    · rw [if_pos c]
      unfold lkW
      by_cases h : k = j
      · subst h; simp
      · have : ¬ e.1 = j := fun z => h (c ▸ z)
        simp [h, this]
    · rw [if_neg c]
      unfold lkW at ih ⊢
      by_cases h : e.1 = j
      · have : ¬ k = j := fun z => c (h.trans z.symm)
        simp [h, this]
      · simp only [List.find?_cons, decide_eq_false h]
        exact ih
theorem lk_mem {ds : List (WK × D)} {j : WK} : (lkW ds j).isSome = true ↔ j ∈ ds.map (·.1) := by
  induction ds with
  | nil => simp [lkW]
  | cons e ds ih =>
    unfold lkW at ih ⊢
    by_cases h : e.1 = j
    · simp [h]
    · have h' : ¬ j = e.1 := fun z => h z.symm
      simp only [List.find?_cons, decide_eq_false h, List.map_cons, List.mem_cons, h', false_or]
      exact ih
end DL
namespace DL
open PySem L2
theorem whileF_go {ft : Env → Res Bool} {F : Env → Fl} {n : Nat} {env env2 : Env} (h : ft env = .ok true) (h2 : F env = .nx env2) : whileF ft F (n + 1) env = whileF ft F n env2 := by
  rw [whileF, h]
  simp only [bindF, if_true, h2]
theorem whileF_end {ft : Env → Res Bool} {F : Env → Fl} {n : Nat} {env : Env} (h : ft env = .ok false) : whileF ft F (n + 1) env = .nx env := by
  rw [whileF, h]
  rfl
theorem pop0F_of {i j : Nat} {env : Env} {d : D} {os : List O} (h : env[i]? = some (some (.lst (.fz d :: os)))) (n : i ≠ j) : pop0F i j env = .nx ((env.set i (some (.lst os))).set j (some (.fz d))) := by
  unfold pop0F
  rw [h]
  simp only [n, if_true, ne_eq, not_false_eq_true]
end DL
namespace Toy
open PySem L2 DL
abbrev Env := DL.Env
/-! the text by places -/
def topS (i : Nat) : Stmt := PySem.Challenge.pw_eitheror_k10_promises_by_hand.main.body.getD i (.Pass ⟨0, 0, 0, 0⟩)
structure Bt (mg : PySem.Str → Option Value) : Prop where
  b_abs : mg "abs" = none
  b_all : mg "all" = none
  b_any : mg "any" = none
  b_bool : mg "bool" = none
  b_enumerate : mg "enumerate" = none
  b_int : mg "int" = none
  b_isinstance : mg "isinstance" = none
  b_len : mg "len" = none
  b_list : mg "list" = none
  b_range : mg "range" = none
  b_sorted : mg "sorted" = none
  b_str : mg "str" = none
  b_tuple : mg "tuple" = none
  g_FIGURES : ∃ t, mg "FIGURES" = some (.str ("01234567" : PySem.Str) t)
  g_MOST : ∃ t, mg "MOST" = some (.int 8 t)
  g_WISHES : ∃ t, mg "WISHES" = some (.int 24 t)
abbrev L_Pleased : List (Nat × Bool) := [(1, true), (2, false), (3, false)]
abbrev L_Clash : List (Nat × Bool) := [(1, false), (2, false), (3, true)]
abbrev E_BadHouse : List (Nat × Bool) := [(4, false), (5, false), (6, true)]
abbrev E_BadText : List (Nat × Bool) := [(4, false), (5, true), (6, false)]
abbrev E_Unpleased : List (Nat × Bool) := [(4, true), (5, false), (6, false)]
abbrev E_WishError : List (Nat × Bool) := [(4, true), (5, true), (6, true)]
def isW (n : Int) : D → Bool
  | .tup [.int i, .bl _] => decide (0 ≤ i) && decide (i < n)
  | _ => false
def isWish (n : Int) : D → Bool
  | .tup [a, b] => isW n a && isW n b
  | _ => false
/-- House(names, wishes), of as many wishes as may be, or too many -/
def M_House : List D → Res (List O)
  | [.int n, .lst ws] => if 1 ≤ n ∧ n ≤ 8 ∧ ws.all (isWish n) = true then (if ws.length ≤ 24 then .ok [.fz (.int n), .lst (ws.map O.fz)] else .ex 6 []) else .bad
  | _ => .bad
def M_Pleased : List D → Res (List O)
  | [.lst ds] => .ok [.lst (ds.map O.fz)]
  | _ => .bad
def M_Torn : List D → Res (List O)
  | [.lst ds, .lst es] => .ok [.lst (ds.map O.fz), .lst (es.map O.fz)]
  | _ => .bad
def M_Clash : List D → Res (List O)
  | [.lst ds, .lst es] => .ok [.lst (ds.map O.fz), .lst (es.map O.fz)]
  | _ => .bad
abbrev s_opposite : Stmt := topS 12
abbrev N_opposite : List PySem.Str := ["word"]
abbrev P_opposite : List PySem.Str := ["word"]
def b_opposite : Env → Fl := (retF (fTup (fCons (fOp gIxA (fVar 0) (fC (.int 0))) (fCons (fNot (fOp gIxA (fVar 0) (fC (.int 1)))) fNil))))
abbrev F_opposite : List D → Res R := defF0 1 1 b_opposite
abbrev s_steps : Stmt := topS 15
abbrev N_steps : List PySem.Str := ["house", "word", "found", "one", "other"]
abbrev P_steps : List PySem.Str := ["house", "word"]
def b_steps : Env → Fl := (seqF (setF true 2 (fLst fNil))
  (seqF (forF (fItems true (f1 (gFld 0 1) (fVar 0))) (gfTup 2 (gfCons (gfName 3) (gfCons (gfName 4) gfNil))) (seqF (ifF (fT (fOp (gEq id) (fVar 3) (fCall F_opposite (fCons (fVar 1) fNil)))) (appF false 2 (fVar 4)) nextF)
  (ifF (fT (fOp (gEq id) (fVar 4) (fCall F_opposite (fCons (fVar 1) fNil)))) (appF false 2 (fVar 3)) nextF)))
  (retVF 2)))
abbrev F_steps : List D → Res R := defF0 5 2 b_steps
abbrev s_walked : Stmt := topS 16
abbrev N_walked : List PySem.Str := ["house", "word", "ahead", "waiting", "here", "there"]
abbrev P_walked : List PySem.Str := ["house", "word"]
def b_walked : Env → Fl := (seqF (setF true 2 (fDispW (fVar 1) (fVar 1)))
  (seqF (setF true 3 (fLst (fCons (fVar 1) fNil)))
  (seqF (whileF (fT (fOp (gEq not) (fVar 3) (fLst fNil))) (seqF (pop0F 3 4)
  (forF (fItems true (fCall F_steps (fCons (fVar 0) (fCons (fVar 4) fNil)))) (gfName 5) (ifF (fT (fOp (gInA not) (fVar 5) (fVar 2))) (seqF (setWF 2 (fVar 5) (fVar 4))
  (appF false 3 (fVar 5))) nextF))) 1000)
  (retVF 2))))
abbrev F_walked : List D → Res R := defF0 6 2 b_walked
abbrev s_within : Stmt := topS 10
abbrev N_within : List PySem.Str := ["number", "low", "high"]
abbrev P_within : List PySem.Str := ["number", "low", "high"]
def b_within : Env → Fl := (retF (fAnd (fIsi "int" (fVar 0)) (fAnd (fNot (fIsi "bool" (fVar 0))) (fChain gLe gLe (fVar 1) (fVar 0) (fVar 2)))))
abbrev F_within : List D → Res R := defF0 3 3 b_within
abbrev s_is_word : Stmt := topS 11
abbrev N_is_word : List PySem.Str := ["thing", "names"]
abbrev P_is_word : List PySem.Str := ["thing", "names"]
def b_is_word : Env → Fl := (seqF (ifF (fTOr (fTNot (fT (fIsi "tuple" (fVar 0)))) (fT (fOp (gEq not) (fCB gLen (fCons (fVar 0) fNil)) (fC (.int 2))))) (retF (fC (.bl false))) nextF)
  (retF (fAnd (fCall F_within (fCons (fOp gIxA (fVar 0) (fC (.int 0))) (fCons (fC (.int 0)) (fCons (fOp gSub (fVar 1) (fC (.int 1))) fNil)))) (fIsi "bool" (fOp gIxA (fVar 0) (fC (.int 1)))))))
abbrev F_is_word : List D → Res R := defF0 2 2 b_is_word
abbrev s_House_word : Stmt := inClass (topS 13) 2
abbrev N_House_word : List PySem.Str := ["self", "word"]
abbrev P_House_word : List PySem.Str := ["self", "word"]
def b_House_word : Env → Fl := (seqF (ifF (fTNot (fT (fCall F_is_word (fCons (fVar 1) (fCons (f1 (gFld 0 0) (fVar 0)) fNil))))) (fun _ => .bad) nextF)
  (retVF 1))
abbrev F_House_word : List D → Res R := defF0 2 2 b_House_word
abbrev s_follows : Stmt := topS 17
abbrev N_follows : List PySem.Str := ["house", "word"]
abbrev P_follows : List PySem.Str := ["house", "word"]
def b_follows : Env → Fl := (retF (fCB gSortW (fCons (fCall F_walked (fCons (fVar 0) (fCons (fMeth 0 F_House_word (fVar 0) (fCons (fVar 1) fNil)) fNil))) fNil)))
abbrev F_follows : List D → Res R := defF0 2 2 b_follows
abbrev s_chain : Stmt := topS 18
abbrev N_chain : List PySem.Str := ["house", "word", "other", "ahead", "found"]
abbrev P_chain : List PySem.Str := ["house", "word", "other"]
def b_chain : Env → Fl := (seqF (setF false 3 (fCall F_walked (fCons (fVar 0) (fCons (fMeth 0 F_House_word (fVar 0) (fCons (fVar 1) fNil)) fNil))))
  (seqF (setF true 4 (fLst (fCons (fMeth 0 F_House_word (fVar 0) (fCons (fVar 2) fNil)) fNil)))
  (seqF (ifF (fT (fOp (gInA not) (fVar 2) (fVar 3))) (retF (fLst fNil)) nextF)
  (seqF (whileF (fT (fOp (gEq not) (fOp gIxA (fVar 4) (fC (.int 0))) (fVar 1))) (setF true 4 (fOp gAdd (fLst (fCons (fOp gIxA (fVar 3) (fOp gIxA (fVar 4) (fC (.int 0)))) fNil)) (fVar 4))) 1000)
  (retVF 4)))))
abbrev F_chain : List D → Res R := defF0 5 3 b_chain
abbrev s_words_of : Stmt := topS 14
abbrev N_words_of : List PySem.Str := ["house", "found", "name"]
abbrev P_words_of : List PySem.Str := ["house"]
def b_words_of : Env → Fl := (seqF (setF true 1 (fLst fNil))
  (seqF (forF (fRng1 (fCons (f1 (gFld 0 0) (fVar 0)) fNil)) (gfName 2) (extF 1 (fLst (fCons (fTup (fCons (fVar 2) (fCons (fC (.bl false)) fNil))) (fCons (fTup (fCons (fVar 2) (fCons (fC (.bl true)) fNil))) fNil)))))
  (retVF 1)))
abbrev F_words_of : List D → Res R := defF0 3 1 b_words_of
abbrev s_hanging : Stmt := topS 22
abbrev N_hanging : List PySem.Str := ["house", "reached", "word", "found", "other", "group"]
abbrev P_hanging : List PySem.Str := ["house"]
def b_hanging : Env → Fl := (seqF (setF true 1 fNewW)
  (seqF (forF (fItems true (fCall F_words_of (fCons (fVar 0) fNil))) (gfName 2) (setWF 1 (fVar 2) (fCall F_walked (fCons (fVar 0) (fCons (fVar 2) fNil)))))
  (seqF (setF true 3 (fLst fNil))
  (seqF (forF (fItems true (fCall F_words_of (fCons (fVar 0) fNil))) (gfName 2) (seqF (setF true 5 (fLc (fItems false (fCB gSortW (fCons (fOp gIxA (fVar 1) (fVar 2)) fNil))) (gfName 4) (fT (fOp (gInA id) (fVar 2) (fOp gIxA (fVar 1) (fVar 4)))) (fVar 4) [4]))
  (ifF (fT (fOp (gEq id) (fOp gIxA (fVar 5) (fC (.int 0))) (fVar 2))) (appMvF 3 5) nextF)))
  (retVF 3)))))
abbrev F_hanging : List D → Res R := defF0 6 1 b_hanging
abbrev s_check_choice : Stmt := topS 19
abbrev N_check_choice : List PySem.Str := ["house", "choice", "one"]
abbrev P_check_choice : List PySem.Str := ["house", "choice"]
def b_check_choice : Env → Fl := (seqF (ifF (fTOr (fTNot (fT (fIsi "list" (fVar 1)))) (fT (fOp (gEq not) (fCB gLen (fCons (fVar 1) fNil)) (f1 (gFld 0 0) (fVar 0))))) (fun _ => .bad) nextF)
  (ifF (fTNot (fT (fCB (gQuant fun bs => bs.all id) (fCons (fLc (fItems false (fVar 1)) (gfName 2) fYes (fIsi "bool" (fVar 2)) [2]) fNil)))) (fun _ => .bad) nextF))
abbrev F_check_choice : List D → Res R := defF0 3 2 b_check_choice
abbrev s_pleases : Stmt := topS 21
abbrev N_pleases : List PySem.Str := ["choice", "wish", "name", "truth"]
abbrev P_pleases : List PySem.Str := ["choice", "wish"]
def b_pleases : Env → Fl := (retF (fCB (gQuant fun bs => bs.any id) (fCons (fLc (fItemsT (fVar 1)) (gfTup 2 (gfCons (gfName 2) (gfCons (gfName 3) gfNil))) fYes (fOp (gEq id) (fOp gIxA (fVar 0) (fVar 2)) (fVar 3)) [2, 3]) fNil)))
abbrev F_pleases : List D → Res R := defF0 4 2 b_pleases
abbrev s_displeased : Stmt := topS 20
abbrev N_displeased : List PySem.Str := ["house", "choice", "at"]
abbrev P_displeased : List PySem.Str := ["house", "choice"]
def b_displeased : Env → Fl := (seqF (dropF (fCall F_check_choice (fCons (fVar 0) (fCons (fVar 1) fNil))))
  (retF (fLc (fRng1 (fCons (fCB gLen (fCons (f1 (gFld 0 1) (fVar 0)) fNil)) fNil)) (gfName 2) (fTNot (fT (fCall F_pleases (fCons (fVar 1) (fCons (fOp gIxA (f1 (gFld 0 1) (fVar 0)) (fVar 2)) fNil))))) (fVar 2) [2])))
abbrev F_displeased : List D → Res R := defF0 3 2 b_displeased
abbrev s_House_init : Stmt := inClass (topS 13) 0
abbrev N_House_init : List PySem.Str := ["self", "names", "wishes", "wish"]
abbrev P_House_init : List PySem.Str := ["self", "names", "wishes"]
def b_House_init : Env → Fl := (seqF (ifF (fTOr (fTNot (fT (fCall F_within (fCons (fVar 1) (fCons (fC (.int 1)) (fCons (fC (.int 8)) fNil)))))) (fTOr (fTNot (fT (fIsi "list" (fVar 2)))) (fT (fOp gGt (fCB gLen (fCons (fVar 2) fNil)) (fC (.int 24)))))) (fun _ => .ex 6 []) nextF)
  (seqF (forF (fItems true (fVar 2)) (gfName 3) (seqF (ifF (fTOr (fTNot (fT (fIsi "tuple" (fVar 3)))) (fT (fOp (gEq not) (fCB gLen (fCons (fVar 3) fNil)) (fC (.int 2))))) (fun _ => .ex 6 []) nextF)
  (ifF (fTOr (fTNot (fT (fCall F_is_word (fCons (fOp gIxA (fVar 3) (fC (.int 0))) (fCons (fVar 1) fNil))))) (fTNot (fT (fCall F_is_word (fCons (fOp gIxA (fVar 3) (fC (.int 1))) (fCons (fVar 1) fNil)))))) (fun _ => .ex 6 []) nextF)))
  (seqF (fldF true 0 0 0 (fVar 1))
  (fldF true 0 0 1 (fCB gList (fCons (fVar 2) fNil))))))
abbrev s_House_wishes : Stmt := inClass (topS 13) 1
abbrev N_House_wishes : List PySem.Str := ["self"]
abbrev P_House_wishes : List PySem.Str := ["self"]
def b_House_wishes : Env → Fl := (retF (fCB gList (fCons (f1 (gFld 0 1) (fVar 0)) fNil)))
abbrev F_House_wishes : List D → Res R := defF0 1 1 b_House_wishes
abbrev s__law_displeased_right : Stmt := topS 45
abbrev N__law_displeased_right : List PySem.Str := ["_law_yes", "_law_no", "_law_one", "_law_two", "_law_free", "_law_wishes", "_law_house", "_law_choice"]
abbrev P__law_displeased_right : List PySem.Str := ["_law_yes", "_law_no", "_law_one", "_law_two", "_law_free"]
def b__law_displeased_right : Env → Fl := (seqF (setF false 5 (fLst (fCons (fTup (fCons (fVar 0) (fCons (fVar 0) fNil))) (fCons (fTup (fCons (fVar 0) (fCons (fVar 1) fNil))) (fCons (fTup (fCons (fVar 1) (fCons (fVar 3) fNil))) (fCons (fTup (fCons (fVar 2) (fCons (fVar 0) fNil))) fNil))))))
  (seqF (par2F 6 7 (fCons (fCall (mkRX 0 M_House) (fCons (fC (.int 8)) (fCons (fVar 5) fNil))) (fCons (fOp gMul (fLst (fCons (fC (.bl false)) fNil)) (fC (.int 8))) fNil)))
  (seqF (ifF (fT (fOp (gEq not) (fCall F_displeased (fCons (fVar 6) (fCons (fVar 7) fNil))) (fLst (fCons (fC (.int 0)) (fCons (fC (.int 3)) fNil))))) (retF (fC (.bl false))) nextF)
  (seqF (ifF (fT (fOp (gEq not) (fCall F_displeased (fCons (fVar 6) (fCons (fOp gMul (fLst (fCons (fC (.bl true)) fNil)) (fC (.int 8))) fNil))) (fLst (fCons (fC (.int 2)) fNil)))) (retF (fC (.bl false))) nextF)
  (seqF (ifF (fT (fOp (gEq not) (fCall F_displeased (fCons (fVar 4) (fCons (fVar 7) fNil))) (fLst fNil))) (retF (fC (.bl false))) nextF)
  (seqF (ifF (fT (fOp (gEq not) (fMeth 0 F_House_wishes (fVar 6) fNil) (fVar 5))) (retF (fC (.bl false))) nextF)
  (retF (fOp (gEq id) (fCall F_displeased (fCons (fCall (mkRX 0 M_House) (fCons (fC (.int 8)) (fCons (fOp gMul (fLst (fCons (fTup (fCons (fVar 0) (fCons (fVar 2) fNil))) fNil)) (fC (.int 3))) fNil))) (fCons (fVar 7) fNil))) (fLst (fCons (fC (.int 0)) (fCons (fC (.int 1)) (fCons (fC (.int 2)) fNil))))))))))))
abbrev F__law_displeased_right : List D → Res R := defF0 8 5 b__law_displeased_right
abbrev s__law_hanging_right : Stmt := topS 44
abbrev N__law_hanging_right : List PySem.Str := ["_law_yes", "_law_no", "_law_one", "_law_two", "_law_free", "_law_tied", "_law_name", "_law_lone"]
abbrev P__law_hanging_right : List PySem.Str := ["_law_yes", "_law_no", "_law_one", "_law_two", "_law_free", "_law_tied", "_law_name"]
def b__law_hanging_right : Env → Fl := (seqF (ifF (fT (fOp (gEq not) (fCB gLen (fCons (fCall F_hanging (fCons (fVar 5) fNil)) fNil)) (fC (.int 14)))) (retF (fC (.bl false))) nextF)
  (seqF (ifF (fT (fOp (gInA not) (fCB gSortD (fCons (fLst (fCons (fVar 0) (fCons (fVar 2) fNil))) fNil)) (fCall F_hanging (fCons (fVar 5) fNil)))) (retF (fC (.bl false))) nextF)
  (seqF (ifF (fT (fOp (gInA not) (fCB gSortD (fCons (fLst (fCons (fVar 1) (fCons (fVar 3) fNil))) fNil)) (fCall F_hanging (fCons (fVar 5) fNil)))) (retF (fC (.bl false))) nextF)
  (seqF (ifF (fT (fOp (gEq not) (fCall F_hanging (fCons (fVar 5) fNil)) (fCB gSortD (fCons (fCall F_hanging (fCons (fVar 5) fNil)) fNil)))) (retF (fC (.bl false))) nextF)
  (seqF (ifF (fTOr (fT (fOp (gEq not) (fCB gLen (fCons (fCall F_hanging (fCons (fVar 4) fNil)) fNil)) (fC (.int 16)))) (fTOr (fT (fOp (gEq not) (fOp gIxA (fCall F_hanging (fCons (fVar 4) fNil)) (fC (.int 0))) (fLst (fCons (fTup (fCons (fC (.int 0)) (fCons (fC (.bl false)) fNil))) fNil)))) (fT (fOp (gEq not) (fOp gIxA (fCall F_hanging (fCons (fVar 4) fNil)) (f1 gNeg (fC (.int 1)))) (fLst (fCons (fTup (fCons (fC (.int 7)) (fCons (fC (.bl true)) fNil))) fNil)))))) (retF (fC (.bl false))) nextF)
  (seqF (setF false 7 (fIf (fT (fOp gGt (fVar 6) (fC (.int 3)))) (fLst (fCons (fTup (fCons (fTup (fCons (fC (.int 0)) (fCons (fC (.bl true)) fNil))) (fCons (fTup (fCons (fC (.int 0)) (fCons (fC (.bl true)) fNil))) fNil))) fNil)) (fLst fNil)))
  (seqF (ifF (fT (fOp (gEq not) (fCall F_hanging (fCons (fCall (mkRX 0 M_House) (fCons (fC (.int 1)) (fCons (fVar 7) fNil))) fNil)) (fLst (fCons (fLst (fCons (fTup (fCons (fC (.int 0)) (fCons (fC (.bl false)) fNil))) fNil)) (fCons (fLst (fCons (fTup (fCons (fC (.int 0)) (fCons (fC (.bl true)) fNil))) fNil)) fNil))))) (retF (fC (.bl false))) nextF)
  (retF (fCall F__law_displeased_right (fCons (fVar 0) (fCons (fVar 1) (fCons (fVar 2) (fCons (fVar 3) (fCons (fVar 4) fNil))))))))))))))
abbrev F__law_hanging_right : List D → Res R := defF0 8 7 b__law_hanging_right
abbrev s__law_chains_right : Stmt := topS 43
abbrev N__law_chains_right : List PySem.Str := ["_law_name", "_law_yes", "_law_no", "_law_one", "_law_two", "_law_free", "_law_sure", "_law_tied"]
abbrev P__law_chains_right : List PySem.Str := ["_law_name"]
def b__law_chains_right : Env → Fl := (seqF (asgF (fTup (fCons (fTup (fCons (fVar 0) (fCons (fC (.bl true)) fNil))) (fCons (fTup (fCons (fVar 0) (fCons (fC (.bl false)) fNil))) (fCons (fTup (fCons (fOp gMod (fOp gAdd (fVar 0) (fC (.int 1))) (fC (.int 8))) (fCons (fC (.bl true)) fNil))) (fCons (fTup (fCons (fOp gMod (fOp gAdd (fVar 0) (fC (.int 1))) (fC (.int 8))) (fCons (fC (.bl false)) fNil))) fNil))))) (gfTup 4 (gfCons (gfName 1) (gfCons (gfName 2) (gfCons (gfName 3) (gfCons (gfName 4) gfNil))))))
  (seqF (par3F 5 6 7 (fCons (fCall (mkRX 0 M_House) (fCons (fC (.int 8)) (fCons (fLst fNil) fNil))) (fCons (fCall (mkRX 0 M_House) (fCons (fC (.int 8)) (fCons (fLst (fCons (fTup (fCons (fVar 1) (fCons (fVar 1) fNil))) fNil)) fNil))) (fCons (fCall (mkRX 0 M_House) (fCons (fC (.int 8)) (fCons (fLst (fCons (fTup (fCons (fVar 2) (fCons (fVar 3) fNil))) (fCons (fTup (fCons (fVar 4) (fCons (fVar 1) fNil))) fNil))) fNil))) fNil))))
  (seqF (ifF (fT (fOp (gEq not) (fCall F_follows (fCons (fVar 5) (fCons (fVar 1) fNil))) (fLst (fCons (fVar 1) fNil)))) (retF (fC (.bl false))) nextF)
  (seqF (ifF (fT (fOp (gEq not) (fCall F_chain (fCons (fVar 5) (fCons (fVar 1) (fCons (fVar 1) fNil)))) (fLst (fCons (fVar 1) fNil)))) (retF (fC (.bl false))) nextF)
  (seqF (ifF (fT (fOp (gEq not) (fCall F_chain (fCons (fVar 5) (fCons (fVar 1) (fCons (fVar 2) fNil)))) (fLst fNil))) (retF (fC (.bl false))) nextF)
  (seqF (ifF (fT (fOp (gEq not) (fCall F_follows (fCons (fVar 6) (fCons (fVar 2) fNil))) (fLst (fCons (fVar 2) (fCons (fVar 1) fNil))))) (retF (fC (.bl false))) nextF)
  (seqF (ifF (fT (fOp (gEq not) (fCall F_follows (fCons (fVar 6) (fCons (fVar 1) fNil))) (fLst (fCons (fVar 1) fNil)))) (retF (fC (.bl false))) nextF)
  (seqF (ifF (fT (fOp (gEq not) (fCall F_chain (fCons (fVar 6) (fCons (fVar 2) (fCons (fVar 1) fNil)))) (fLst (fCons (fVar 2) (fCons (fVar 1) fNil))))) (retF (fC (.bl false))) nextF)
  (seqF (ifF (fT (fOp (gEq not) (fCall F_chain (fCons (fVar 6) (fCons (fVar 1) (fCons (fVar 2) fNil)))) (fLst fNil))) (retF (fC (.bl false))) nextF)
  (seqF (ifF (fT (fOp (gEq not) (fCall F_follows (fCons (fVar 7) (fCons (fVar 1) fNil))) (fCB gSortD (fCons (fLst (fCons (fVar 1) (fCons (fVar 3) fNil))) fNil)))) (retF (fC (.bl false))) nextF)
  (seqF (ifF (fT (fOp (gEq not) (fCall F_chain (fCons (fVar 7) (fCons (fVar 1) (fCons (fVar 3) fNil)))) (fLst (fCons (fVar 1) (fCons (fVar 3) fNil))))) (retF (fC (.bl false))) nextF)
  (seqF (ifF (fT (fOp (gEq not) (fCall F_chain (fCons (fVar 7) (fCons (fVar 3) (fCons (fVar 1) fNil)))) (fLst (fCons (fVar 3) (fCons (fVar 1) fNil))))) (retF (fC (.bl false))) nextF)
  (seqF (ifF (fT (fOp (gEq not) (fCall F_chain (fCons (fVar 7) (fCons (fVar 2) (fCons (fVar 4) fNil)))) (fLst (fCons (fVar 2) (fCons (fVar 4) fNil))))) (retF (fC (.bl false))) nextF)
  (retF (fCall F__law_hanging_right (fCons (fVar 1) (fCons (fVar 2) (fCons (fVar 3) (fCons (fVar 4) (fCons (fVar 5) (fCons (fVar 7) (fCons (fVar 0) fNil))))))))))))))))))))))
abbrev F__law_chains_right : List D → Res R := defF0 8 1 b__law_chains_right
abbrev s_Torn_init : Stmt := inClass (topS 26) 0
abbrev N_Torn_init : List PySem.Str := ["self", "there", "back"]
abbrev P_Torn_init : List PySem.Str := ["self", "there", "back"]
def b_Torn_init : Env → Fl := (seqF (fldF true 0 2 0 (fCB gList (fCons (fVar 1) fNil)))
  (fldF true 0 2 1 (fCB gList (fCons (fVar 2) fNil))))
abbrev s_torn_in : Stmt := topS 29
abbrev N_torn_in : List PySem.Str := ["house", "name", "there", "back"]
abbrev P_torn_in : List PySem.Str := ["house"]
def b_torn_in : Env → Fl := (seqF (forF (fRng1 (fCons (f1 (gFld 0 0) (fVar 0)) fNil)) (gfName 1) (seqF (setF false 2 (fCall F_chain (fCons (fVar 0) (fCons (fTup (fCons (fVar 1) (fCons (fC (.bl true)) fNil))) (fCons (fTup (fCons (fVar 1) (fCons (fC (.bl false)) fNil))) fNil)))))
  (seqF (setF false 3 (fCall F_chain (fCons (fVar 0) (fCons (fTup (fCons (fVar 1) (fCons (fC (.bl false)) fNil))) (fCons (fTup (fCons (fVar 1) (fCons (fC (.bl true)) fNil))) fNil)))))
  (ifF (fTAnd (fT (fOp (gEq not) (fVar 2) (fLst fNil))) (fT (fOp (gEq not) (fVar 3) (fLst fNil)))) (retF (fCall (mkR 2 M_Torn) (fCons (fVar 2) (fCons (fVar 3) fNil)))) nextF))))
  (retF (fC .non)))
abbrev F_torn_in : List D → Res R := defF0 4 1 b_torn_in
abbrev s_check_pleased : Stmt := topS 32
abbrev N_check_pleased : List PySem.Str := ["house", "torn"]
abbrev P_check_pleased : List PySem.Str := ["house"]
def b_check_pleased : Env → Fl := (seqF (setF true 1 (fCall F_torn_in (fCons (fVar 0) fNil)))
  (ifF (fT (fOp (gIsO not) (fVar 1) (fC .non))) (raiseVF 4 1) nextF))
abbrev F_check_pleased : List D → Res R := defF 2 1 b_check_pleased
abbrev s_with_words : Stmt := topS 30
abbrev N_with_words : List PySem.Str := ["house", "words", "said", "word", "other", "name"]
abbrev P_with_words : List PySem.Str := ["house", "words"]
def b_with_words : Env → Fl := (seqF (setF true 2 fNewI)
  (seqF (forF (fItems true (fVar 1)) (gfName 3) (forF (fItemsW true (fCall F_walked (fCons (fVar 0) (fCons (fVar 3) fNil)))) (gfName 4) (setIF 2 (fOp gIxB (fVar 4) (fC (.int 0))) (fOp gIxB (fVar 4) (fC (.int 1))))))
  (seqF (forF (fRng1 (fCons (f1 (gFld 0 0) (fVar 0)) fNil)) (gfName 5) (ifF (fT (fOp (gInB not) (fVar 5) (fVar 2))) (seqF (setF false 3 (fTup (fCons (fVar 5) (fCons (fC (.bl false)) fNil))))
  (seqF (ifF (fT (fOp (gInB id) (fCall F_opposite (fCons (fVar 3) fNil)) (fCall F_walked (fCons (fVar 0) (fCons (fVar 3) fNil))))) (setF false 3 (fTup (fCons (fVar 5) (fCons (fC (.bl true)) fNil)))) nextF)
  (forF (fItemsW true (fCall F_walked (fCons (fVar 0) (fCons (fVar 3) fNil)))) (gfName 4) (setIF 2 (fOp gIxB (fVar 4) (fC (.int 0))) (fOp gIxB (fVar 4) (fC (.int 1))))))) nextF))
  (retF (fLc (fRng1 (fCons (f1 (gFld 0 0) (fVar 0)) fNil)) (gfName 5) fYes (fOp gIxB (fVar 2) (fVar 5)) [5])))))
abbrev F_with_words : List D → Res R := defF0 6 2 b_with_words
abbrev s_Clash_init : Stmt := inClass (topS 27) 0
abbrev N_Clash_init : List PySem.Str := ["self", "words", "links"]
abbrev P_Clash_init : List PySem.Str := ["self", "words", "links"]
def b_Clash_init : Env → Fl := (seqF (fldF true 0 3 0 (fCB gList (fCons (fVar 1) fNil)))
  (fldF true 0 3 1 (fCB gList (fCons (fVar 2) fNil))))
abbrev s_Pleased_init : Stmt := inClass (topS 25) 0
abbrev N_Pleased_init : List PySem.Str := ["self", "choice"]
abbrev P_Pleased_init : List PySem.Str := ["self", "choice"]
def b_Pleased_init : Env → Fl := (fldF true 0 1 0 (fCB gList (fCons (fVar 1) fNil)))
abbrev s_keeping : Stmt := topS 33
abbrev N_keeping : List PySem.Str := ["house", "words", "word", "one", "other", "links"]
abbrev P_keeping : List PySem.Str := ["house", "words"]
def b_keeping : Env → Fl := (seqF (ifF (fTNot (fT (fIsi "list" (fVar 1)))) (fun _ => .bad) nextF)
  (seqF (forF (fItems true (fVar 1)) (gfName 2) (dropF (fMeth 0 F_House_word (fVar 0) (fCons (fVar 2) fNil))))
  (seqF (dropF (fCall F_check_pleased (fCons (fVar 0) fNil)))
  (seqF (forF (fItems true (fVar 1)) (gfName 3) (forF (fItems true (fVar 1)) (gfName 4) (seqF (setF false 5 (fCall F_chain (fCons (fVar 0) (fCons (fVar 3) (fCons (fCall F_opposite (fCons (fVar 4) fNil)) fNil)))))
  (ifF (fT (fOp (gEq not) (fVar 5) (fLst fNil))) (retF (fCall (mkR 3 M_Clash) (fCons (fVar 1) (fCons (fVar 5) fNil)))) nextF))))
  (retF (fCall (mkR 1 M_Pleased) (fCons (fCall F_with_words (fCons (fVar 0) (fCons (fVar 1) fNil))) fNil)))))))
abbrev F_keeping : List D → Res R := defF 6 2 b_keeping
abbrev s_settled : Stmt := topS 34
abbrev N_settled : List PySem.Str := ["house", "found", "name", "there"]
abbrev P_settled : List PySem.Str := ["house"]
def b_settled : Env → Fl := (seqF (dropF (fCall F_check_pleased (fCons (fVar 0) fNil)))
  (seqF (setF true 1 (fLst fNil))
  (seqF (forF (fRng1 (fCons (f1 (gFld 0 0) (fVar 0)) fNil)) (gfName 2) (seqF (setF false 3 (fCall F_chain (fCons (fVar 0) (fCons (fTup (fCons (fVar 2) (fCons (fC (.bl true)) fNil))) (fCons (fTup (fCons (fVar 2) (fCons (fC (.bl false)) fNil))) fNil)))))
  (appF false 1 (fOrL (fVar 3) (fCall F_chain (fCons (fVar 0) (fCons (fTup (fCons (fVar 2) (fCons (fC (.bl false)) fNil))) (fCons (fTup (fCons (fVar 2) (fCons (fC (.bl true)) fNil))) fNil))))))))
  (retVF 1))))
abbrev F_settled : List D → Res R := defF 4 1 b_settled
abbrev s_is_chain : Stmt := topS 28
abbrev N_is_chain : List PySem.Str := ["house", "links", "k"]
abbrev P_is_chain : List PySem.Str := ["house", "links"]
def b_is_chain : Env → Fl := (seqF (ifF (fT (fOp (gEq id) (fVar 1) (fLst fNil))) (retF (fC (.bl false))) nextF)
  (retF (fCB (gQuant fun bs => bs.all id) (fCons (fLc (fRng2 (fCons (fC (.int 1)) (fCons (fCB gLen (fCons (fVar 1) fNil)) fNil))) (gfName 2) fYes (fOp (gInA id) (fOp gIxA (fVar 1) (fVar 2)) (fCall F_steps (fCons (fVar 0) (fCons (fOp gIxA (fVar 1) (fOp gSub (fVar 2) (fC (.int 1)))) fNil)))) [2]) fNil))))
abbrev F_is_chain : List D → Res R := defF0 3 2 b_is_chain
abbrev s_Clash_holds : Stmt := inClass (topS 27) 1
abbrev N_Clash_holds : List PySem.Str := ["self", "house"]
abbrev P_Clash_holds : List PySem.Str := ["self", "house"]
def b_Clash_holds : Env → Fl := (seqF (ifF (fTNot (fT (fCall F_is_chain (fCons (fVar 1) (fCons (f1 (gFld 3 1) (fVar 0)) fNil))))) (retF (fC (.bl false))) nextF)
  (retF (fAnd (fOp (gInA id) (fOp gIxA (f1 (gFld 3 1) (fVar 0)) (fC (.int 0))) (f1 (gFld 3 0) (fVar 0))) (fOp (gInA id) (fCall F_opposite (fCons (fOp gIxA (f1 (gFld 3 1) (fVar 0)) (f1 gNeg (fC (.int 1)))) fNil)) (f1 (gFld 3 0) (fVar 0))))))
abbrev F_Clash_holds : List D → Res R := defF0 2 2 b_Clash_holds
abbrev s_Torn_holds : Stmt := inClass (topS 26) 1
abbrev N_Torn_holds : List PySem.Str := ["self", "house"]
abbrev P_Torn_holds : List PySem.Str := ["self", "house"]
def b_Torn_holds : Env → Fl := (seqF (ifF (fTOr (fTNot (fT (fCall F_is_chain (fCons (fVar 1) (fCons (f1 (gFld 2 0) (fVar 0)) fNil))))) (fTNot (fT (fCall F_is_chain (fCons (fVar 1) (fCons (f1 (gFld 2 1) (fVar 0)) fNil)))))) (retF (fC (.bl false))) nextF)
  (seqF (ifF (fT (fOp (gEq not) (fOp gIxA (f1 (gFld 2 0) (fVar 0)) (f1 gNeg (fC (.int 1)))) (fCall F_opposite (fCons (fOp gIxA (f1 (gFld 2 0) (fVar 0)) (fC (.int 0))) fNil)))) (retF (fC (.bl false))) nextF)
  (retF (fAnd (fOp (gEq id) (fOp gIxA (f1 (gFld 2 1) (fVar 0)) (fC (.int 0))) (fOp gIxA (f1 (gFld 2 0) (fVar 0)) (f1 gNeg (fC (.int 1))))) (fOp (gEq id) (fOp gIxA (f1 (gFld 2 1) (fVar 0)) (f1 gNeg (fC (.int 1)))) (fOp gIxA (f1 (gFld 2 0) (fVar 0)) (fC (.int 0))))))))
abbrev F_Torn_holds : List D → Res R := defF0 2 2 b_Torn_holds
abbrev s_Pleased_holds : Stmt := inClass (topS 25) 1
abbrev N_Pleased_holds : List PySem.Str := ["self", "house", "wish"]
abbrev P_Pleased_holds : List PySem.Str := ["self", "house"]
def b_Pleased_holds : Env → Fl := (seqF (ifF (fT (fOp (gEq not) (fCB gLen (fCons (f1 (gFld 1 0) (fVar 0)) fNil)) (f1 (gFld 0 0) (fVar 1)))) (retF (fC (.bl false))) nextF)
  (retF (fCB (gQuant fun bs => bs.all id) (fCons (fLc (fItems false (f1 (gFld 0 1) (fVar 1))) (gfName 2) fYes (fCall F_pleases (fCons (f1 (gFld 1 0) (fVar 0)) (fCons (fVar 2) fNil))) [2]) fNil))))
abbrev F_Pleased_holds : List D → Res R := defF0 3 2 b_Pleased_holds
abbrev s__law_choices_right : Stmt := topS 49
abbrev N__law_choices_right : List PySem.Str := ["_law_yes", "_law_no", "_law_one", "_law_two", "_law_name", "_law_free", "_law_tied", "_law_sure", "_law_lines", "_law_house", "_law_words", "_law_found", "_law_word", "_law_rows", "_law_at", "_law_row"]
abbrev P__law_choices_right : List PySem.Str := ["_law_yes", "_law_no", "_law_one", "_law_two", "_law_name"]
def b__law_choices_right : Env → Fl := (seqF (par3F 5 6 7 (fCons (fCall (mkRX 0 M_House) (fCons (fC (.int 8)) (fCons (fLst fNil) fNil))) (fCons (fCall (mkRX 0 M_House) (fCons (fC (.int 8)) (fCons (fLst (fCons (fTup (fCons (fVar 1) (fCons (fVar 2) fNil))) fNil)) fNil))) (fCons (fCall (mkRX 0 M_House) (fCons (fC (.int 8)) (fCons (fLst (fCons (fTup (fCons (fVar 0) (fCons (fVar 0) fNil))) fNil)) fNil))) fNil))))
  (seqF (setF false 8 (fLst (fCons (fTup (fCons (fVar 5) (fCons (fLst fNil) fNil))) (fCons (fTup (fCons (fVar 5) (fCons (fLst (fCons (fVar 0) (fCons (fVar 2) (fCons (fVar 0) fNil)))) fNil))) (fCons (fTup (fCons (fVar 6) (fCons (fLst (fCons (fVar 0) (fCons (fVar 2) fNil))) fNil))) (fCons (fTup (fCons (fVar 6) (fCons (fLst (fCons (fVar 1) (fCons (fVar 3) fNil))) fNil))) fNil))))))
  (seqF (setF false 8 (fOp gAdd (fVar 8) (fLst (fCons (fTup (fCons (fVar 7) (fCons (fLst (fCons (fVar 0) fNil)) fNil))) (fCons (fTup (fCons (fVar 7) (fCons (fLst fNil) fNil))) fNil)))))
  (seqF (forF (fItems true (fVar 8)) (gfTup 2 (gfCons (gfName 9) (gfCons (gfName 10) gfNil))) (seqF (setF false 11 (fCall F_keeping (fCons (fVar 9) (fCons (fVar 10) fNil))))
  (seqF (ifF (fTNot (fT (fIsO L_Pleased (fVar 11)))) (retF (fC (.bl false))) nextF)
  (seqF (ifF (fT (fOp (gIsB not) (fOr2 (fMeth 1 F_Pleased_holds (fVar 11) (fCons (fVar 9) fNil)) (fOr2 (fMeth 2 F_Torn_holds (fVar 11) (fCons (fVar 9) fNil)) (fMeth 3 F_Clash_holds (fVar 11) (fCons (fVar 9) fNil)))) (fC (.bl true)))) (retF (fC (.bl false))) nextF)
  (ifF (fTNot (fT (fCB (gQuant fun bs => bs.all id) (fCons (fLc (fItems false (fVar 10)) (gfName 12) fYes (fOp (gEq id) (fOp gIxA (f1 (gFld 1 0) (fVar 11)) (fOp gIxA (fVar 12) (fC (.int 0)))) (fOp gIxA (fVar 12) (fC (.int 1)))) [12]) fNil)))) (retF (fC (.bl false))) nextF)))))
  (seqF (ifF (fT (fMeth 3 F_Clash_holds (fCall (mkR 3 M_Clash) (fCons (fLst (fCons (fVar 0) fNil)) (fCons (fLst (fCons (fVar 0) fNil)) fNil))) (fCons (fVar 5) fNil))) (retF (fC (.bl false))) nextF)
  (seqF (ifF (fT (fMeth 3 F_Clash_holds (fCall (mkR 3 M_Clash) (fCons (fLst (fCons (fVar 0) (fCons (fVar 2) fNil))) (fCons (fLst (fCons (fVar 0) (fCons (fVar 2) fNil))) fNil))) (fCons (fVar 6) fNil))) (retF (fC (.bl false))) nextF)
  (seqF (ifF (fT (fMeth 3 F_Clash_holds (fCall (mkR 3 M_Clash) (fCons (fLst (fCons (fVar 1) fNil)) (fCons (fLst (fCons (fVar 1) (fCons (fVar 0) fNil))) fNil))) (fCons (fVar 5) fNil))) (retF (fC (.bl false))) nextF)
  (seqF (ifF (fT (fMeth 3 F_Clash_holds (fCall (mkR 3 M_Clash) (fCons (fLst (fCons (fVar 0) (fCons (fVar 3) fNil))) (fCons (fLst (fCons (fVar 0) (fCons (fVar 3) fNil))) fNil))) (fCons (fVar 6) fNil))) (retF (fC (.bl false))) nextF)
  (seqF (setF false 13 (fCall F_settled (fCons (fVar 7) fNil)))
  (seqF (ifF (fT (fOp (gEq not) (fOp gIxA (fVar 13) (fVar 4)) (fLst (fCons (fVar 1) (fCons (fVar 0) fNil))))) (retF (fC (.bl false))) nextF)
  (seqF (ifF (fT (fOp (gEq not) (fLc (fun env => ((fCons (fVar 13) fNil) env).bind enumI) (gfTup 2 (gfCons (gfName 14) (gfCons (gfName 15) gfNil))) (fT (fOp (gEq not) (fVar 14) (fVar 4))) (fVar 15) [14, 15]) (fOp gMul (fLst (fCons (fLst fNil) fNil)) (fC (.int 7))))) (retF (fC (.bl false))) nextF)
  (seqF (ifF (fT (fOp (gEq not) (fCall F_settled (fCons (fVar 5) fNil)) (fOp gMul (fLst (fCons (fLst fNil) fNil)) (fC (.int 8))))) (retF (fC (.bl false))) nextF)
  (seqF (ifF (fT (fOp (gEq not) (fOp gIxA (fCall F_settled (fCons (fCall (mkRX 0 M_House) (fCons (fC (.int 8)) (fCons (fLst (fCons (fTup (fCons (fVar 1) (fCons (fVar 1) fNil))) fNil)) fNil))) fNil)) (fVar 4)) (fLst (fCons (fVar 0) (fCons (fVar 1) fNil))))) (retF (fC (.bl false))) nextF)
  (seqF (ifF (fTNot (fT (fOp (gInT id) (fOp gIxA (fCall F_settled (fCons (fCall (mkRX 0 M_House) (fCons (fC (.int 8)) (fCons (fLst (fCons (fTup (fCons (fVar 0) (fCons (fVar 2) fNil))) (fCons (fTup (fCons (fVar 0) (fCons (fVar 3) fNil))) fNil))) fNil))) fNil)) (fVar 4)) (fTup (fCons (fLst (fCons (fVar 1) (fCons (fVar 2) (fCons (fVar 0) fNil)))) (fCons (fLst (fCons (fVar 1) (fCons (fVar 3) (fCons (fVar 0) fNil)))) fNil)))))) (retF (fC (.bl false))) nextF)
  (retF (fOp (gEq id) (fCall F_settled (fCons (fVar 6) fNil)) (fOp gMul (fLst (fCons (fLst fNil) fNil)) (fC (.int 8)))))))))))))))))))
abbrev F__law_choices_right : List D → Res R := defF0 16 5 b__law_choices_right
abbrev s__law_kept_right : Stmt := topS 48
abbrev N__law_kept_right : List PySem.Str := ["_law_name", "_law_yes", "_law_no", "_law_one", "_law_two", "_law_free", "_law_tied", "_law_sure", "_law_lines", "_law_house", "_law_words", "_law_links", "_law_found"]
abbrev P__law_kept_right : List PySem.Str := ["_law_name"]
def b__law_kept_right : Env → Fl := (seqF (asgF (fTup (fCons (fTup (fCons (fVar 0) (fCons (fC (.bl true)) fNil))) (fCons (fTup (fCons (fVar 0) (fCons (fC (.bl false)) fNil))) (fCons (fTup (fCons (fOp gMod (fOp gAdd (fVar 0) (fC (.int 1))) (fC (.int 8))) (fCons (fC (.bl true)) fNil))) (fCons (fTup (fCons (fOp gMod (fOp gAdd (fVar 0) (fC (.int 1))) (fC (.int 8))) (fCons (fC (.bl false)) fNil))) fNil))))) (gfTup 4 (gfCons (gfName 1) (gfCons (gfName 2) (gfCons (gfName 3) (gfCons (gfName 4) gfNil))))))
  (seqF (par3F 5 6 7 (fCons (fCall (mkRX 0 M_House) (fCons (fC (.int 8)) (fCons (fLst fNil) fNil))) (fCons (fCall (mkRX 0 M_House) (fCons (fC (.int 8)) (fCons (fLst (fCons (fTup (fCons (fVar 2) (fCons (fVar 3) fNil))) fNil)) fNil))) (fCons (fCall (mkRX 0 M_House) (fCons (fC (.int 8)) (fCons (fLst (fCons (fTup (fCons (fVar 1) (fCons (fVar 1) fNil))) fNil)) fNil))) fNil))))
  (seqF (setF false 8 (fLst (fCons (fTup (fCons (fVar 5) (fCons (fLst (fCons (fVar 1) (fCons (fVar 2) fNil))) (fCons (fLst (fCons (fVar 1) fNil)) fNil)))) (fCons (fTup (fCons (fVar 5) (fCons (fLst (fCons (fVar 2) (fCons (fVar 1) fNil))) (fCons (fLst (fCons (fVar 2) fNil)) fNil)))) fNil))))
  (seqF (setF false 8 (fOp gAdd (fVar 8) (fLst (fCons (fTup (fCons (fVar 6) (fCons (fLst (fCons (fVar 1) (fCons (fVar 4) fNil))) (fCons (fLst (fCons (fVar 1) (fCons (fVar 3) fNil))) fNil)))) (fCons (fTup (fCons (fVar 6) (fCons (fLst (fCons (fVar 4) (fCons (fVar 1) fNil))) (fCons (fLst (fCons (fVar 4) (fCons (fVar 2) fNil))) fNil)))) fNil)))))
  (seqF (setF false 8 (fOp gAdd (fVar 8) (fLst (fCons (fTup (fCons (fVar 7) (fCons (fLst (fCons (fVar 2) fNil)) (fCons (fLst (fCons (fVar 2) (fCons (fVar 1) fNil))) fNil)))) (fCons (fTup (fCons (fVar 7) (fCons (fLst (fCons (fVar 3) (fCons (fVar 2) (fCons (fVar 3) fNil)))) (fCons (fLst (fCons (fVar 2) (fCons (fVar 1) fNil))) fNil)))) fNil)))))
  (seqF (forF (fItems true (fVar 8)) (gfTup 3 (gfCons (gfName 9) (gfCons (gfName 10) (gfCons (gfName 11) gfNil)))) (seqF (setF false 12 (fCall F_keeping (fCons (fVar 9) (fCons (fVar 10) fNil))))
  (seqF (ifF (fTNot (fT (fIsO L_Clash (fVar 12)))) (retF (fC (.bl false))) nextF)
  (seqF (ifF (fT (fOp (gEq not) (f1 (gFld 3 0) (fVar 12)) (fVar 10))) (retF (fC (.bl false))) nextF)
  (seqF (ifF (fT (fOp (gIsB not) (fOr2 (fMeth 1 F_Pleased_holds (fVar 12) (fCons (fVar 9) fNil)) (fOr2 (fMeth 2 F_Torn_holds (fVar 12) (fCons (fVar 9) fNil)) (fMeth 3 F_Clash_holds (fVar 12) (fCons (fVar 9) fNil)))) (fC (.bl true)))) (retF (fC (.bl false))) nextF)
  (seqF (ifF (fT (fOp (gIsB not) (fMeth 3 F_Clash_holds (fCall (mkR 3 M_Clash) (fCons (fVar 10) (fCons (fVar 11) fNil))) (fCons (fVar 9) fNil)) (fC (.bl true)))) (retF (fC (.bl false))) nextF)
  (seqF (ifF (fT (fMeth 3 F_Clash_holds (fCall (mkR 3 M_Clash) (fCons (fVar 10) (fCons (fLst fNil) fNil))) (fCons (fVar 9) fNil))) (retF (fC (.bl false))) nextF)
  (seqF (ifF (fT (fMeth 3 F_Clash_holds (fCall (mkR 3 M_Clash) (fCons (fLst fNil) (fCons (fVar 11) fNil))) (fCons (fVar 9) fNil))) (retF (fC (.bl false))) nextF)
  (ifF (fTAnd (fT (fMeth 3 F_Clash_holds (fCall (mkR 3 M_Clash) (fCons (fVar 10) (fCons (fOp gAdd (fVar 11) (fVar 11)) fNil))) (fCons (fVar 9) fNil))) (fT (fOp gGt (fCB gLen (fCons (fVar 11) fNil)) (fC (.int 1))))) (retF (fC (.bl false))) nextF)))))))))
  (retF (fCall F__law_choices_right (fCons (fVar 1) (fCons (fVar 2) (fCons (fVar 3) (fCons (fVar 4) (fCons (fVar 0) fNil)))))))))))))
abbrev F__law_kept_right : List D → Res R := defF0 13 1 b__law_kept_right
abbrev s_word_text : Stmt := topS 38
abbrev N_word_text : List PySem.Str := ["word"]
abbrev P_word_text : List PySem.Str := ["word"]
def b_word_text : Env → Fl := (retF (fOp gAdd (fOp gIxA (fC (.str ("01234567" : PySem.Str))) (fOp gIxA (fVar 0) (fC (.int 0)))) (fIf (fT (fOp gIxA (fVar 0) (fC (.int 1)))) (fC (.str ("+" : PySem.Str))) (fC (.str ("-" : PySem.Str))))))
abbrev F_word_text : List D → Res R := defF0 1 1 b_word_text
abbrev s_written : Stmt := topS 39
abbrev N_written : List PySem.Str := ["house", "parts", "one", "other"]
abbrev P_written : List PySem.Str := ["house"]
def b_written : Env → Fl := (seqF (setF true 1 (fLst (fCons (fCB gStr (fCons (f1 (gFld 0 0) (fVar 0)) fNil)) fNil)))
  (seqF (forF (fItems true (f1 (gFld 0 1) (fVar 0))) (gfTup 2 (gfCons (gfName 2) (gfCons (gfName 3) gfNil))) (appF false 1 (fOp gAdd (fCall F_word_text (fCons (fVar 2) fNil)) (fCall F_word_text (fCons (fVar 3) fNil)))))
  (retF (fM1 gJoin (fC (.str ("; " : PySem.Str))) (fVar 1)))))
abbrev F_written : List D → Res R := defF0 4 1 b_written
abbrev s_wish_in : Stmt := topS 40
abbrev N_wish_in : List PySem.Str := ["part", "names", "found", "at"]
abbrev P_wish_in : List PySem.Str := ["part", "names"]
def b_wish_in : Env → Fl := (seqF (ifF (fT (fOp (gEq not) (fCB gLen (fCons (fVar 0) fNil)) (fC (.int 4)))) (retF (fC .non)) nextF)
  (seqF (setF true 2 (fLst fNil))
  (seqF (forF (fItems true (fLst (fCons (fC (.int 0)) (fCons (fC (.int 2)) fNil)))) (gfName 3) (seqF (ifF (fTOr (fT (fOp (gInA not) (fOp gIxA (fVar 0) (fVar 3)) (fCut (fC (.str ("01234567" : PySem.Str))) fNoP (fPart (fVar 1))))) (fT (fOp (gInA not) (fOp gIxA (fVar 0) (fOp gAdd (fVar 3) (fC (.int 1)))) (fC (.str ("+-" : PySem.Str)))))) (retF (fC .non)) nextF)
  (appF false 2 (fTup (fCons (fCB gInt (fCons (fOp gIxA (fVar 0) (fVar 3)) fNil)) (fCons (fOp (gEq id) (fOp gIxA (fVar 0) (fOp gAdd (fVar 3) (fC (.int 1)))) (fC (.str ("+" : PySem.Str)))) fNil))))))
  (retF (fTup (fCons (fOp gIxA (fVar 2) (fC (.int 0))) (fCons (fOp gIxA (fVar 2) (fC (.int 1))) fNil)))))))
abbrev F_wish_in : List D → Res R := defF0 4 2 b_wish_in
abbrev s_read : Stmt := topS 41
abbrev N_read : List PySem.Str := ["text", "parts", "names", "wishes", "at", "wish", "house"]
abbrev P_read : List PySem.Str := ["text"]
def b_read : Env → Fl := (seqF (ifF (fTNot (fT (fIsi "str" (fVar 0)))) (raiseF 5 (fC (.int 0))) nextF)
  (seqF (setF false 1 (fM1 gSplit (fVar 0) (fC (.str ("; " : PySem.Str)))))
  (seqF (ifF (fTOr (fT (fOp (gEq not) (fCB gLen (fCons (fOp gIxA (fVar 1) (fC (.int 0))) fNil)) (fC (.int 1)))) (fT (fOp (gInA not) (fOp gIxA (fVar 1) (fC (.int 0))) (fC (.str ("12345678" : PySem.Str)))))) (raiseF 5 (fC (.int 0))) nextF)
  (seqF (setF false 2 (fCB gInt (fCons (fOp gIxA (fVar 1) (fC (.int 0))) fNil)))
  (seqF (setF true 3 (fLst fNil))
  (seqF (forF (fRng2 (fCons (fC (.int 1)) (fCons (fCB gLen (fCons (fVar 1) fNil)) fNil))) (gfName 4) (seqF (setF false 5 (fCall F_wish_in (fCons (fOp gIxA (fVar 1) (fVar 4)) (fCons (fVar 2) fNil))))
  (seqF (ifF (fT (fOp (gIs id) (fVar 5) (fC .non))) (raiseF 5 (fVar 4)) nextF)
  (appF false 3 (fVar 5)))))
  (frzK 3 (tryEF 6 E_BadHouse (fCall (mkRX 0 M_House) (fCons (fVar 2) (fCons (fVar 3) fNil))) (raiseF 5 (fCB gLen (fCons (fVar 1) fNil))) (retVF 6)))))))))
abbrev F_read : List D → Res R := defF 7 1 b_read
abbrev s__law_texts_right : Stmt := topS 50
abbrev N__law_texts_right : List PySem.Str := ["_law_name", "_law_lines", "_law_house", "_law_text", "_law_bad", "_law_place", "error"]
abbrev P__law_texts_right : List PySem.Str := ["_law_name"]
def b__law_texts_right : Env → Fl := (seqF (setF false 1 (fLst (fCons (fTup (fCons (fCall (mkRX 0 M_House) (fCons (fC (.int 3)) (fCons (fLst (fCons (fTup (fCons (fTup (fCons (fC (.int 0)) (fCons (fC (.bl true)) fNil))) (fCons (fTup (fCons (fC (.int 1)) (fCons (fC (.bl false)) fNil))) fNil))) (fCons (fTup (fCons (fTup (fCons (fC (.int 2)) (fCons (fC (.bl false)) fNil))) (fCons (fTup (fCons (fC (.int 2)) (fCons (fC (.bl false)) fNil))) fNil))) fNil))) fNil))) (fCons (fC (.str ("3; 0+1-; 2-2-" : PySem.Str))) fNil))) fNil)))
  (seqF (setF false 1 (fOp gAdd (fVar 1) (fLst (fCons (fTup (fCons (fCall (mkRX 0 M_House) (fCons (fC (.int 1)) (fCons (fLst fNil) fNil))) (fCons (fC (.str ("1" : PySem.Str))) fNil))) (fCons (fTup (fCons (fCall (mkRX 0 M_House) (fCons (fC (.int 8)) (fCons (fLst (fCons (fTup (fCons (fTup (fCons (fC (.int 7)) (fCons (fC (.bl true)) fNil))) (fCons (fTup (fCons (fC (.int 0)) (fCons (fC (.bl true)) fNil))) fNil))) fNil)) fNil))) (fCons (fC (.str ("8; 7+0+" : PySem.Str))) fNil))) fNil)))))
  (seqF (forF (fItems true (fVar 1)) (gfTup 2 (gfCons (gfName 2) (gfCons (gfName 3) gfNil))) (seqF (ifF (fT (fOp (gEq not) (fCall F_written (fCons (fVar 2) fNil)) (fVar 3))) (retF (fC (.bl false))) nextF)
  (seqF (ifF (fT (fOp (gEq not) (fMeth 0 F_House_wishes (fCall F_read (fCons (fVar 3) fNil)) fNil) (fMeth 0 F_House_wishes (fVar 2) fNil))) (retF (fC (.bl false))) nextF)
  (ifF (fT (fOp (gEq not) (f1 (gFld 0 0) (fCall F_read (fCons (fVar 3) fNil))) (f1 (gFld 0 0) (fVar 2)))) (retF (fC (.bl false))) nextF))))
  (seqF (setF false 4 (fLst (fCons (fTup (fCons (fC (.str ("0" : PySem.Str))) (fCons (fC (.int 0)) fNil))) (fCons (fTup (fCons (fC (.str ("9" : PySem.Str))) (fCons (fC (.int 0)) fNil))) (fCons (fTup (fCons (fC (.str ("" : PySem.Str))) (fCons (fC (.int 0)) fNil))) (fCons (fTup (fCons (fC (.str ("3;0+1-" : PySem.Str))) (fCons (fC (.int 0)) fNil))) (fCons (fTup (fCons (fC (.str ("3; 0+1- " : PySem.Str))) (fCons (fC (.int 1)) fNil))) fNil)))))))
  (seqF (setF false 4 (fOp gAdd (fVar 4) (fLst (fCons (fTup (fCons (fC (.str ("3; 0+3-" : PySem.Str))) (fCons (fC (.int 1)) fNil))) (fCons (fTup (fCons (fC (.str ("3; 0+1-; 0+" : PySem.Str))) (fCons (fC (.int 2)) fNil))) (fCons (fTup (fCons (fC (.str ("3; 0+1-;" : PySem.Str))) (fCons (fC (.int 1)) fNil))) (fCons (fTup (fCons (fC (.str ("3; " : PySem.Str))) (fCons (fC (.int 1)) fNil))) (fCons (fTup (fCons (fC (.str (" 3" : PySem.Str))) (fCons (fC (.int 0)) fNil))) fNil))))))))
  (seqF (setF false 4 (fOp gAdd (fVar 4) (fLst (fCons (fTup (fCons (fC (.str ("3; 0+1" : PySem.Str))) (fCons (fC (.int 1)) fNil))) (fCons (fTup (fCons (fC (.str ("3; 0 1" : PySem.Str))) (fCons (fC (.int 1)) fNil))) (fCons (fTup (fCons (fC .non) (fCons (fC (.int 0)) fNil))) (fCons (fTup (fCons (fC (.int 5)) (fCons (fC (.int 0)) fNil))) fNil)))))))
  (seqF (setF false 4 (fOp gAdd (fVar 4) (fLst (fCons (fTup (fCons (fOp gAdd (fC (.str ("8" : PySem.Str))) (fOp gMulS (fC (.str ("; 0+1-" : PySem.Str))) (fC (.int 25)))) (fCons (fC (.int 26)) fNil))) (fCons (fTup (fCons (fOp gAdd (fC (.str ("8" : PySem.Str))) (fOp gMulS (fC (.str ("; 0+1-" : PySem.Str))) (fC (.int 30)))) (fCons (fC (.int 31)) fNil))) fNil)))))
  (seqF (setF false 4 (fOp gAdd (fVar 4) (fLst (fCons (fTup (fCons (fOp gAdd (fOp gAdd (fC (.str ("8" : PySem.Str))) (fOp gMulS (fC (.str ("; 0+1-" : PySem.Str))) (fC (.int 25)))) (fC (.str ("; 0" : PySem.Str)))) (fCons (fC (.int 26)) fNil))) (fCons (fTup (fCons (fC (.str ("33" : PySem.Str))) (fCons (fC (.int 0)) fNil))) (fCons (fTup (fCons (fC (.str ("3; 0+1-; ; 0+1-" : PySem.Str))) (fCons (fC (.int 2)) fNil))) fNil))))))
  (seqF (forF (fItems true (fVar 4)) (gfTup 2 (gfCons (gfName 3) (gfCons (gfName 5) gfNil))) (tryRXF 6 E_WishError (fOp (gIs id) (fCall F_read (fCons (fVar 3) fNil)) (fC .non)) (ifF (fTOr (fTNot (fT (fIsE E_BadText (fVar 6)))) (fT (fOp (gEq not) (fXf 5 (fVar 6)) (fVar 5)))) (retF (fC (.bl false))) nextF)))
  (seqF (setF false 3 (fOp gAdd (fC (.str ("8" : PySem.Str))) (fOp gMulS (fOp gAdd (fOp gAdd (fOp gAdd (fOp gAdd (fC (.str ("; " : PySem.Str))) (fCB gStr (fCons (fVar 0) fNil))) (fC (.str ("+" : PySem.Str)))) (fCB gStr (fCons (fOp gSub (fC (.int 7)) (fVar 0)) fNil))) (fC (.str ("-" : PySem.Str)))) (fC (.int 24)))))
  (retF (fAnd (fOp (gEq id) (fCall F_written (fCons (fCall F_read (fCons (fVar 3) fNil)) fNil)) (fVar 3)) (fOp (gEq id) (fCB gLen (fCons (fMeth 0 F_House_wishes (fCall F_read (fCons (fVar 3) fNil)) fNil) fNil)) (fC (.int 24)))))))))))))))
abbrev F__law_texts_right : List D → Res R := defF0 7 1 b__law_texts_right
abbrev s_telling : Stmt := topS 31
abbrev N_telling : List PySem.Str := ["house", "torn"]
abbrev P_telling : List PySem.Str := ["house"]
def b_telling : Env → Fl := (seqF (setF true 1 (fCall F_torn_in (fCons (fVar 0) fNil)))
  (seqF (ifF (fT (fOp (gIsO not) (fVar 1) (fC .non))) (retVF 1) nextF)
  (retF (fCall (mkR 1 M_Pleased) (fCons (fCall F_with_words (fCons (fVar 0) (fCons (fLst fNil) fNil))) fNil)))))
abbrev F_telling : List D → Res R := defF0 2 1 b_telling
abbrev s_how_many : Stmt := topS 35
abbrev N_how_many : List PySem.Str := ["house", "found", "number", "name", "choice", "wish"]
abbrev P_how_many : List PySem.Str := ["house"]
def b_how_many : Env → Fl := (seqF (setF false 1 (fC (.int 0)))
  (seqF (forF (fRng1 (fCons (fOp gShl (fC (.int 1)) (f1 (gFld 0 0) (fVar 0))) fNil)) (gfName 2) (seqF (setF false 4 (fLc (fRng1 (fCons (f1 (gFld 0 0) (fVar 0)) fNil)) (gfName 3) fYes (fOp (gEq id) (fOp gBand (fOp gShr (fVar 2) (fVar 3)) (fC (.int 1))) (fC (.int 1))) [3]))
  (ifF (fT (fCB (gQuant fun bs => bs.all id) (fCons (fLc (fItems false (f1 (gFld 0 1) (fVar 0))) (gfName 5) fYes (fCall F_pleases (fCons (fVar 4) (fCons (fVar 5) fNil))) [5]) fNil))) (augF 1 (fC (.int 1))) nextF)))
  (retVF 1)))
abbrev F_how_many : List D → Res R := defF0 6 1 b_how_many
abbrev s__law_torn_right : Stmt := topS 47
abbrev N__law_torn_right : List PySem.Str := ["_law_yes", "_law_no", "_law_one", "_law_two", "_law_torn", "_law_lines", "_law_there", "_law_back", "_law_due", "_law_asks", "_law_ask", "error"]
abbrev P__law_torn_right : List PySem.Str := ["_law_yes", "_law_no", "_law_one", "_law_two"]
abbrev lam__law_torn_right : List (Env → Res R) := [(fCall F_settled (fCons (fVar 4) fNil)),
  (fCall F_keeping (fCons (fVar 4) (fCons (fLst fNil) fNil)))]
def b__law_torn_right : Env → Bool := (okSeq (setF false 4 (fCall (mkRX 0 M_House) (fCons (fC (.int 8)) (fCons (fLst (fCons (fTup (fCons (fVar 0) (fCons (fVar 0) fNil))) (fCons (fTup (fCons (fVar 1) (fCons (fVar 1) fNil))) fNil))) fNil))))
  (okSeq (setF false 5 (fLst (fCons (fTup (fCons (fLst (fCons (fVar 0) (fCons (fVar 1) fNil))) (fCons (fLst (fCons (fVar 1) (fCons (fVar 0) fNil))) (fCons (fC (.bl true)) fNil)))) (fCons (fTup (fCons (fLst (fCons (fVar 1) (fCons (fVar 0) fNil))) (fCons (fLst (fCons (fVar 0) (fCons (fVar 1) fNil))) (fCons (fC (.bl true)) fNil)))) fNil))))
  (okSeq (setF false 5 (fOp gAdd (fVar 5) (fLst (fCons (fTup (fCons (fLst (fCons (fVar 0) (fCons (fVar 1) fNil))) (fCons (fLst (fCons (fVar 0) (fCons (fVar 1) fNil))) (fCons (fC (.bl false)) fNil)))) (fCons (fTup (fCons (fLst (fCons (fVar 0) fNil)) (fCons (fLst (fCons (fVar 1) fNil)) (fCons (fC (.bl false)) fNil)))) fNil)))))
  (okSeq (setF false 5 (fOp gAdd (fVar 5) (fLst (fCons (fTup (fCons (fLst (fCons (fVar 0) (fCons (fVar 1) fNil))) (fCons (fLst fNil) (fCons (fC (.bl false)) fNil)))) (fCons (fTup (fCons (fLst (fCons (fVar 0) (fCons (fVar 1) (fCons (fVar 0) (fCons (fVar 1) fNil))))) (fCons (fLst (fCons (fVar 1) (fCons (fVar 0) fNil))) (fCons (fC (.bl true)) fNil)))) fNil)))))
  (okSeq (setF false 5 (fOp gAdd (fVar 5) (fLst (fCons (fTup (fCons (fLst (fCons (fVar 2) (fCons (fVar 3) fNil))) (fCons (fLst (fCons (fVar 3) (fCons (fVar 2) fNil))) (fCons (fC (.bl false)) fNil)))) (fCons (fTup (fCons (fLst (fCons (fVar 0) (fCons (fVar 1) fNil))) (fCons (fLst (fCons (fVar 1) (fCons (fVar 3) fNil))) (fCons (fC (.bl false)) fNil)))) fNil)))))
  (okSeq (forF (fItems true (fVar 5)) (gfTup 3 (gfCons (gfName 6) (gfCons (gfName 7) (gfCons (gfName 8) gfNil)))) (ifF (fT (fOp (gEq not) (fMeth 2 F_Torn_holds (fCall (mkR 2 M_Torn) (fCons (fVar 6) (fCons (fVar 7) fNil))) (fCons (fVar 4) fNil)) (fVar 8))) (retF (fC (.bl false))) nextF))
  (okSeq (ifF (fT (fMeth 1 F_Pleased_holds (fCall (mkR 1 M_Pleased) (fCons (fOp gMul (fLst (fCons (fC (.bl true)) fNil)) (fC (.int 8))) fNil)) (fCons (fVar 4) fNil))) (retF (fC (.bl false))) nextF)
  (okSeq (ifF (fT (fMeth 2 F_Torn_holds (fCall (mkR 2 M_Torn) (fCons (fLst (fCons (fVar 0) (fCons (fVar 1) fNil))) (fCons (fLst (fCons (fVar 1) (fCons (fVar 0) fNil))) fNil))) (fCons (fCall (mkRX 0 M_House) (fCons (fC (.int 8)) (fCons (fLst (fCons (fTup (fCons (fVar 0) (fCons (fVar 0) fNil))) fNil)) fNil))) fNil))) (retF (fC (.bl false))) nextF)
  (okSeq (ifF (fT (fMeth 2 F_Torn_holds (fCall (mkR 2 M_Torn) (fCons (fLst (fCons (fVar 1) (fCons (fVar 0) fNil))) (fCons (fLst (fCons (fVar 0) (fCons (fVar 1) fNil))) fNil))) (fCons (fCall (mkRX 0 M_House) (fCons (fC (.int 8)) (fCons (fLst fNil) fNil))) fNil))) (retF (fC (.bl false))) nextF)
  (okLam 9
  (seqF (forF (fItems true (fVar 9)) (gfName 10) (tryRXF 11 E_Unpleased (fOp (gIs id) (fCallFn 10 lam__law_torn_right) (fC .non)) (ifF (fTNot (fT (fMeth 2 F_Torn_holds (fXf 4 (fVar 11)) (fCons (fVar 4) fNil)))) (retF (fC (.bl false))) nextF)))
  (tryROF E_BadHouse (fOp (gIs id) (fCall (mkRX 0 M_House) (fCons (fC (.int 8)) (fCons (fOp gMul (fLst (fCons (fTup (fCons (fVar 0) (fCons (fVar 2) fNil))) fNil)) (fC (.int 25))) fNil))) (fC .non)) (retF (fOp (gEq id) (fCB gLen (fCons (fMeth 0 F_House_wishes (fCall (mkR 0 M_House) (fCons (fC (.int 8)) (fCons (fOp gMul (fLst (fCons (fTup (fCons (fVar 0) (fCons (fVar 2) fNil))) fNil)) (fC (.int 24))) fNil))) fun _ => .ok []) fNil)) (fC (.int 24))))))))))))))))
abbrev OK__law_torn_right : List D → Bool := okDef 12 4 b__law_torn_right
abbrev s__law_told_right : Stmt := topS 46
abbrev N__law_told_right : List PySem.Str := ["_law_name", "_law_yes", "_law_no", "_law_one", "_law_two", "_law_lines", "_law_wishes", "_law_many", "_law_house", "_law_found", "_law_at", "_law_choice", "_law_due"]
abbrev P__law_told_right : List PySem.Str := ["_law_name"]
def b__law_told_right : Env → Bool := (okSeq (asgF (fTup (fCons (fTup (fCons (fVar 0) (fCons (fC (.bl true)) fNil))) (fCons (fTup (fCons (fVar 0) (fCons (fC (.bl false)) fNil))) (fCons (fTup (fCons (fOp gMod (fOp gAdd (fVar 0) (fC (.int 1))) (fC (.int 8))) (fCons (fC (.bl true)) fNil))) (fCons (fTup (fCons (fOp gMod (fOp gAdd (fVar 0) (fC (.int 1))) (fC (.int 8))) (fCons (fC (.bl false)) fNil))) fNil))))) (gfTup 4 (gfCons (gfName 1) (gfCons (gfName 2) (gfCons (gfName 3) (gfCons (gfName 4) gfNil))))))
  (okSeq (setF false 5 (fLst (fCons (fTup (fCons (fLst fNil) (fCons (fC (.int 256)) fNil))) (fCons (fTup (fCons (fLst (fCons (fTup (fCons (fVar 1) (fCons (fVar 1) fNil))) fNil)) (fCons (fC (.int 128)) fNil))) (fCons (fTup (fCons (fLst (fCons (fTup (fCons (fVar 1) (fCons (fVar 2) fNil))) fNil)) (fCons (fC (.int 256)) fNil))) (fCons (fTup (fCons (fLst (fCons (fTup (fCons (fVar 1) (fCons (fVar 3) fNil))) fNil)) (fCons (fC (.int 192)) fNil))) fNil))))))
  (okSeq (setF false 5 (fOp gAdd (fVar 5) (fLst (fCons (fTup (fCons (fLst (fCons (fTup (fCons (fVar 1) (fCons (fVar 1) fNil))) (fCons (fTup (fCons (fVar 2) (fCons (fVar 3) fNil))) fNil))) (fCons (fC (.int 64)) fNil))) (fCons (fTup (fCons (fLst (fCons (fTup (fCons (fVar 1) (fCons (fVar 1) fNil))) (fCons (fTup (fCons (fVar 2) (fCons (fVar 2) fNil))) fNil))) (fCons (fC (.int 0)) fNil))) fNil)))))
  (okSeq (setF false 5 (fOp gAdd (fVar 5) (fLst (fCons (fTup (fCons (fLst (fCons (fTup (fCons (fVar 1) (fCons (fVar 3) fNil))) (fCons (fTup (fCons (fVar 2) (fCons (fVar 3) fNil))) fNil))) (fCons (fC (.int 128)) fNil))) fNil))))
  (okSeq (forF (fItems true (fVar 5)) (gfTup 2 (gfCons (gfName 6) (gfCons (gfName 7) gfNil))) (seqF (setF false 8 (fCall (mkRX 0 M_House) (fCons (fC (.int 8)) (fCons (fVar 6) fNil))))
  (seqF (setF false 9 (fCall F_telling (fCons (fVar 8) fNil)))
  (seqF (ifF (fT (fOp (gEq not) (fCall F_how_many (fCons (fVar 8) fNil)) (fVar 7))) (retF (fC (.bl false))) nextF)
  (seqF (ifF (fT (fOp (gEq not) (fIsO L_Pleased (fVar 9)) (fOp gGt (fVar 7) (fC (.int 0))))) (retF (fC (.bl false))) nextF)
  (ifF (fT (fOp (gIsB not) (fOr2 (fMeth 1 F_Pleased_holds (fVar 9) (fCons (fVar 8) fNil)) (fOr2 (fMeth 2 F_Torn_holds (fVar 9) (fCons (fVar 8) fNil)) (fMeth 3 F_Clash_holds (fVar 9) (fCons (fVar 8) fNil)))) (fC (.bl true)))) (retF (fC (.bl false))) nextF))))))
  (okSeq (setF false 5 (fLst (fCons (fTup (fCons (fOp gMul (fLst (fCons (fC (.bl true)) fNil)) (fC (.int 8))) (fCons (fC (.bl true)) fNil))) (fCons (fTup (fCons (fLc (fRng1 (fCons (fC (.int 8)) fNil)) (gfName 10) fYes (fOp (gEq id) (fVar 10) (fVar 0)) [10]) (fCons (fC (.bl true)) fNil))) (fCons (fTup (fCons (fOp gMul (fLst (fCons (fC (.bl false)) fNil)) (fC (.int 8))) (fCons (fC (.bl false)) fNil))) fNil)))))
  (okSeq (setF false 5 (fOp gAdd (fVar 5) (fLst (fCons (fTup (fCons (fOp gMul (fLst (fCons (fC (.bl true)) fNil)) (fC (.int 7))) (fCons (fC (.bl false)) fNil))) (fCons (fTup (fCons (fOp gMul (fLst (fCons (fC (.bl true)) fNil)) (fC (.int 9))) (fCons (fC (.bl false)) fNil))) (fCons (fTup (fCons (fLst fNil) (fCons (fC (.bl false)) fNil))) fNil))))))
  (okSeq (forF (fItems true (fVar 5)) (gfTup 2 (gfCons (gfName 11) (gfCons (gfName 12) gfNil))) (ifF (fT (fOp (gEq not) (fMeth 1 F_Pleased_holds (fCall (mkR 1 M_Pleased) (fCons (fVar 11) fNil)) (fCons (fCall (mkRX 0 M_House) (fCons (fC (.int 8)) (fCons (fLst (fCons (fTup (fCons (fVar 1) (fCons (fVar 1) fNil))) fNil)) fNil))) fNil)) (fVar 12))) (retF (fC (.bl false))) nextF))
  (okRet (fCons (fVar 1) (fCons (fVar 2) (fCons (fVar 3) (fCons (fVar 4) fNil)))) OK__law_torn_right)))))))))
abbrev OK__law_told_right : List D → Bool := okDef 13 1 b__law_told_right
abbrev s_law : Stmt := topS 51
abbrev N_law : List PySem.Str := ["_law_script", "_law_name"]
abbrev P_law : List PySem.Str := ["_law_script"]
def b_law : Env → Bool := (okSeq (setF false 1 (fIf (fT (fOp gNeS (fVar 0) (fLst fNil))) (fOp gMod (fCB gAbs (fCons (fOp gIxA (fVar 0) (fC (.int 0))) fNil)) (fC (.int 8))) (fC (.int 3))))
  (okLaw (fCall F__law_chains_right (fCons (fVar 1) fNil)) (fCons (fVar 1) fNil) OK__law_told_right (fAnd (fCall F__law_kept_right (fCons (fVar 1) fNil)) (fCall F__law_texts_right (fCons (fVar 1) fNil)))))
abbrev OK_law : List D → Bool := okDef 2 1 b_law
abbrev s_Unpleased_init : Stmt := inClass (topS 5) 0
abbrev N_Unpleased_init : List PySem.Str := ["self", "torn"]
abbrev P_Unpleased_init : List PySem.Str := ["self", "torn"]
abbrev s_BadText_init : Stmt := inClass (topS 6) 0
abbrev N_BadText_init : List PySem.Str := ["self", "place"]
abbrev P_BadText_init : List PySem.Str := ["self", "place"]
end Toy
namespace Toy
open PySem L2 DL
abbrev W := Int × Bool
def dW (w : W) : D := .tup [.int w.1, .bl w.2]
def dV (v : W × W) : D := .tup [dW v.1, dW v.2]
def okW (n : Int) (w : W) : Prop := 0 ≤ w.1 ∧ w.1 < n
def okV (n : Int) (v : W × W) : Prop := okW n v.1 ∧ okW n v.2
/-- the invariant of the telling loop -/
theorem within (a lo hi : Int) : F_within [.int a, .int lo, .int hi] = .ok (.fz (.bl (decide (lo ≤ a) && decide (a ≤ hi)))) := by
  unfold F_within
  rw [defF0_def]
  by_cases h : lo ≤ a <;> simp -implicitDefEqProofs [b_within, startE_def, is_int_int, is_int_bool, h]
theorem is_word {n : Int} {w : W} (h : okW n w) : F_is_word [dW w, .int n] = .ok (.fz (.bl true)) := by
  obtain ⟨h0, h1⟩ := h
  obtain ⟨i, b⟩ := w
  have hw : F_within [.int i, .int 0, .int (n - 1)] = _ := within _ _ _
  unfold F_is_word
  rw [defF0_def]
  simp only at h0 h1
  have h2 : i ≤ n - 1 := by omega
  simp -implicitDefEqProofs [b_is_word, startE_def, dW, is_tup_tup, is_bl_bool, hw, h0, h2]
theorem isW_of {n : Int} (d : D) (h : isW n d = true) : ∃ w, d = dW w ∧ okW n w := by
  unfold isW at h
  split at h
  · rename_i i b
    simp at h
    exact ⟨(i, b), rfl, h.1, h.2⟩
  · cases h
theorem isWish_of {n : Int} (d : D) (h : isWish n d = true) : ∃ v, d = dV v ∧ okV n v := by
  unfold isWish at h
  split at h
  · rename_i a b
    simp only [Bool.and_eq_true] at h
    obtain ⟨w1, rfl, o1⟩ := isW_of a h.1
    obtain ⟨w2, rfl, o2⟩ := isW_of b h.2
    exact ⟨(w1, w2), rfl, o1, o2⟩
  · cases h
theorem wishes_of {n : Int} : ∀ ws : List D, ws.all (isWish n) = true → ∃ vs : List (W × W), ws = vs.map dV ∧ ∀ v ∈ vs, okV n v
  | [], _ => ⟨[], rfl, by simp⟩
  | d :: ws, h => by
    rw [List.all_cons, Bool.and_eq_true] at h
    obtain ⟨v, rfl, hv⟩ := isWish_of d h.1
    obtain ⟨vs, rfl, hvs⟩ := wishes_of ws h.2
    exact ⟨v :: vs, rfl, by intro x hx; rcases List.mem_cons.mp hx with r | r; · subst r; exact hv
                            · exact hvs x r⟩
theorem isWish_dV {n : Int} {v : W × W} (h : okV n v) : isWish n (dV v) = true := by
  obtain ⟨⟨a, b⟩, c, d⟩ := h
  simp [isWish, isW, dV, dW, a, b, c, d]
theorem flatL_dV (vs : List (W × W)) : O.flatL ((vs.map dV).map O.fz) = true := by
  induction vs with
  | nil => rfl
  | cons v vs ih => simp only [List.map_cons, O.flatL, ih, O.flat, dV, dW, D.flat, D.flatL]; rfl
end Toy
namespace Toy
open PySem L2 DL
/-! House, of as many wishes as may be, or too many -/
def IB : DL.Env → Fl := (seqF (ifF (fTOr (fTNot (fT (fIsi "tuple" (fVar 3)))) (fT (fOp (gEq not) (fCB gLen (fCons (fVar 3) fNil)) (fC (.int 2))))) (fun _ => .ex 6 []) nextF)
  (ifF (fTOr (fTNot (fT (fCall F_is_word (fCons (fOp gIxA (fVar 3) (fC (.int 0))) (fCons (fVar 1) fNil))))) (fTNot (fT (fCall F_is_word (fCons (fOp gIxA (fVar 3) (fC (.int 1))) (fCons (fVar 1) fNil)))))) (fun _ => .ex 6 []) nextF))
theorem all_dV {n : Int} {vs : List (W × W)} (hv : ∀ v ∈ vs, okV n v) : (vs.map dV).all (isWish n) = true := by
  rw [List.all_eq_true]
  intro x hx
  obtain ⟨v, hm, rfl⟩ := List.mem_map.mp hx
  exact isWish_dV (hv v hm)
theorem M_val {n : Int} {vs : List (W × W)} (h1 : 1 ≤ n) (h8 : n ≤ 8) (hv : ∀ v ∈ vs, okV n v) : M_House [.int n, .lst (vs.map dV)] = if vs.length ≤ 24 then .ok [.fz (.int n), .lst ((vs.map dV).map O.fz)] else .ex 6 [] := by
  unfold M_House
  dsimp only
  rw [if_pos ⟨h1, h8, all_dV hv⟩, List.length_map]
theorem mk_House_eq (a : Addr) (ds : List D) : M_House ds = .bad ∨ (initF 0 4 3 b_House_init a ds) = M_House ds := by
  unfold M_House
  split
  · rename_i n ws
    by_cases c : 1 ≤ n ∧ n ≤ 8 ∧ ws.all (isWish n) = true
    · rw [if_pos c]
      refine .inr ?_
      obtain ⟨h1, h8, hw⟩ := c
      obtain ⟨vs, rfl, hv⟩ := wishes_of ws hw
      rw [List.length_map]
      have hwi : F_within [.int n, .int 1, .int 8] = _ := within _ _ _
      by_cases hl : vs.length ≤ 24
      · obtain ⟨e', w1, e3, rfl⟩ := loop_acc (gf := gfName 3) (F := IB) dV (fun v => .non) (fun acc env => ∃ e3, env = [some (.slf a 0 []), some (.fz (.int n)), some (.fz (.lst (vs.map dV))), e3]) 1000 vs [] _ (by simp; omega) ⟨none, rfl⟩ (by
          intro v hm acc env ha hp
          obtain ⟨e3, rfl⟩ := hp
          obtain ⟨o1, o2⟩ := hv v hm
          refine ⟨_, _, rfl, ?_, some (.fz (dV v)), rfl⟩
          simp -implicitDefEqProofs [IB, is_tup_tup, dV, is_word o1, is_word o2])
        have hgl : gList [.fz (.lst (vs.map dV))] = .ok (.new (.lst ((vs.map dV).map O.fz))) := rfl
        have hnl : ¬ (24 : Int) < (vs.length : Int) := by omega
        have hnl2 : ¬ 24 < vs.length := by omega
        rw [if_pos hl]
        unfold initF IB at *
        simp -implicitDefEqProofs [-List.map_map, b_House_init, is_lst_lst, hwi, h1, h8, hnl, hnl2, w1, hgl, runI, O.whole, O.wholeL, fsOf]
      · have hnl : (24 : Int) < (vs.length : Int) := by omega
        have hnl2 : 24 < vs.length := by omega
        rw [if_neg hl]
        unfold initF
        simp -implicitDefEqProofs [-List.map_map, b_House_init, is_lst_lst, hwi, h1, h8, hnl, hnl2, runI]
    · rw [if_neg c]; exact .inl rfl
  · exact .inl rfl
theorem gL (ws : List D) : gList [.fz (.lst ws)] = .ok (.new (.lst (ws.map O.fz))) := rfl
theorem mk_Pleased_eq (a : Addr) (ds : List D) : M_Pleased ds = .bad ∨ initF 1 2 2 b_Pleased_init a ds = M_Pleased ds := by
  unfold M_Pleased
  split
  · refine .inr ?_
    unfold initF
    simp -implicitDefEqProofs [b_Pleased_init, gL, runI, O.whole, O.wholeL, fsOf]
  · exact .inl rfl
theorem mk_Torn_eq (a : Addr) (ds : List D) : M_Torn ds = .bad ∨ initF 2 3 3 b_Torn_init a ds = M_Torn ds := by
  unfold M_Torn
  split
  · refine .inr ?_
    unfold initF
    simp -implicitDefEqProofs [b_Torn_init, gL, runI, O.whole, O.wholeL, fsOf]
  · exact .inl rfl
theorem mk_Clash_eq (a : Addr) (ds : List D) : M_Clash ds = .bad ∨ initF 3 3 3 b_Clash_init a ds = M_Clash ds := by
  unfold M_Clash
  split
  · refine .inr ?_
    unfold initF
    simp -implicitDefEqProofs [b_Clash_init, gL, runI, O.whole, O.wholeL, fsOf]
  · exact .inl rfl
end Toy
namespace Toy
open PySem L2 DL
def val (k : Nat) (i : Int) : Bool := decide (andI ((k : Int) / 2 ^ i.toNat) 1 = 1)
def bits (n : Int) (k : Nat) : List D := (List.range n.toNat).map fun i : Nat => D.bl (val k (i : Int))
def pl (k : Nat) (v : W × W) : Bool := decide (val k v.1.1 = v.1.2) || decide (val k v.2.1 = v.2.2)
theorem bits_at {n i : Int} {k : Nat} (h0 : 0 ≤ i) (h1 : i < n) : gIx (.fz (.lst (bits n k))) (.fz (.int i)) = .ok (.fz (.bl (val k i))) := by
  obtain ⟨j, rfl⟩ := Int.eq_ofNat_of_zero_le h0
  have hj : j < n.toNat := by omega
  simp [bits, hj]
theorem pleases4 {n : Int} {k : Nat} {v : W × W} (h : okV n v) : F_pleases [.lst (bits n k), dV v] = .ok (.fz (.bl (pl k v))) := by
  obtain ⟨⟨a0, a1⟩, b0, b1⟩ := h
  obtain ⟨⟨i, p⟩, j, q⟩ := v
  simp only at a0 a1 b0 b1
  unfold F_pleases
  rw [defF0_def]
  simp -implicitDefEqProofs [b_pleases, startE_def, fLc, dV, dW, lcF, wipeE, gfTup, gfCons, gfNil, bits_at a0 a1, bits_at b0 b1, gQuant, S.items, bools, pl]
theorem bits_lc {fi : DL.Env → Res (List D)} {env : DL.Env} {n : Int} {k : Nat} (hfi : fi env = .ok (rangeD 0 n.toNat)) (h8 : n ≤ 8) (h2 : env[2]? = some (some (.fz (.int k)))) (hl : 3 < env.length) :
    fLc fi (gfName 3) fYes (fOp (gEq id) (fOp gBand (fOp gShr (fVar 2) (fVar 3)) (fC (.int 1))) (fC (.int 1))) [3] env = .ok (.new (.lst ((bits n k).map O.fz))) := by
  unfold fLc
  rw [hfi, Res.bind_ok, if_pos (by rw [rangeD_len]; simp; omega)]
  have := lcF_map (gf := gfName 3) (ft := fYes) (fe := fOp (gEq id) (fOp gBand (fOp gShr (fVar 2) (fVar 3)) (fC (.int 1))) (fC (.int 1))) (env := wipeE env [3]) (fun i : Nat => D.int (0 + (i : Nat))) (fun i : Nat => D.bl (val k (i : Int))) (List.range n.toNat) (by
    intro i hi
    refine ⟨_, rfl, rfl, .fz (.bl (val k (i : Int))), ?_, rfl⟩
    have e2 : ∀ x y, ((env.set 3 x).set 3 y)[2]? = some (some (.fz (.int k))) := by intro x y; rw [List.getElem?_set_ne (by decide), List.getElem?_set_ne (by decide)]; exact h2
    have e3 : ∀ x y, ((env.set 3 x).set 3 y)[3]? = some y := by intro x y; rw [List.getElem?_set_self (by simpa using hl)]
    have hs : shrOk (k : Int) (i : Int) = true := by simp [shrOk]
    simp only [wipeE, fOp_def, fVar_def, e2, e3, Res.bind_ok, opK1_def, opK2_def, st_fz, gI_int, Int.zero_add, hs, if_true, fC_ev, gEq_int, val, id])
  unfold rangeD
  rw [this]
  rfl
theorem all_lc {fi : DL.Env → Res (List D)} {env : DL.Env} {n : Int} {k : Nat} {Fn : List D → Res R} {vs : List (W × W)} (hF : ∀ v ∈ vs, Fn [.lst (bits n k), dV v] = .ok (.fz (.bl (pl k v)))) (hfi : fi env = .ok (vs.map dV)) (hl : vs.length ≤ 24) (h4 : env[4]? = some (some (.fz (.lst (bits n k))))) (hL : 5 < env.length) :
    fLc fi (gfName 5) fYes (fCall Fn (fCons (fVar 4) (fCons (fVar 5) fNil))) [5] env = .ok (.new (.lst ((vs.map fun v => D.bl (pl k v)).map O.fz))) := by
  unfold fLc
  rw [hfi, Res.bind_ok, if_pos (by simp; omega)]
  have := lcF_map (gf := gfName 5) (ft := fYes) (fe := fCall Fn (fCons (fVar 4) (fCons (fVar 5) fNil))) (env := wipeE env [5]) dV (fun v => D.bl (pl k v)) vs (by
    intro v hv
    refine ⟨_, rfl, rfl, .fz (.bl (pl k v)), ?_, rfl⟩
    have e2 : ∀ x y, ((env.set 5 x).set 5 y)[4]? = some (some (.fz (.lst (bits n k)))) := by intro x y; rw [List.getElem?_set_ne (by decide), List.getElem?_set_ne (by decide)]; exact h4
    have e3 : ∀ x y, ((env.set 5 x).set 5 y)[5]? = some y := by intro x y; rw [List.getElem?_set_self (by simpa using hL)]
    simp only [wipeE, fCall_def, fCons_def, fVar_def, e2, e3, Res.bind_ok, consK1_def, consK2_def, st_fz, fNil]
    rw [callS_fz (ds := [.lst (bits n k), dV v]) rfl]
    exact hF v hv)
  rw [this]
  rfl
theorem quant_all {k : Nat} {vs : List (W × W)} : gQuant (fun bs => bs.all id) [.fz (.lst (vs.map fun v => D.bl (pl k v)))] = .ok (.fz (.bl (vs.all (pl k)))) := by
  unfold gQuant
  have : vs.map (fun v => D.bl (pl k v)) = (vs.map (pl k)).map D.bl := by rw [List.map_map]; rfl
  rw [this]
  simp only [items_fz, bools_map]
  rw [List.all_map]
  rfl
def good (vs : List (W × W)) (K : Nat) : List Nat := (List.range K).filter fun k => vs.all (pl k)
theorem good_s (vs : List (W × W)) (k : Nat) : good vs (k + 1) = good vs k ++ (if vs.all (pl k) = true then [k] else []) := by
  unfold good
  rw [List.range_succ, List.filter_append]
  by_cases h : vs.all (pl k) = true <;> simp [h]
theorem good_len (vs : List (W × W)) (k : Nat) : (good vs k).length ≤ k := by
  unfold good
  exact Nat.le_trans (List.length_filter_le _ _) (by simp)
theorem shl1 {n : Int} (h1 : 1 ≤ n) (h8 : n ≤ 8) : gShl (.fz (.int 1)) (.fz (.int n)) = .ok (.fz (.int ((2 ^ n.toNat : Nat) : Int))) ∧ 2 ^ n.toNat ≤ 256 := by
  have : n = 1 ∨ n = 2 ∨ n = 3 ∨ n = 4 ∨ n = 5 ∨ n = 6 ∨ n = 7 ∨ n = 8 := by omega
  rcases this with h | h | h | h | h | h | h | h <;> subst h <;> exact ⟨rfl, by decide⟩
def HB : DL.Env → Fl := (seqF (setF false 4 (fLc (fRng1 (fCons (f1 (gFld 0 0) (fVar 0)) fNil)) (gfName 3) fYes (fOp (gEq id) (fOp gBand (fOp gShr (fVar 2) (fVar 3)) (fC (.int 1))) (fC (.int 1))) [3]))
  (ifF (fT (fCB (gQuant fun bs => bs.all id) (fCons (fLc (fItems false (f1 (gFld 0 1) (fVar 0))) (gfName 5) fYes (fCall F_pleases (fCons (fVar 4) (fCons (fVar 5) fNil))) [5]) fNil))) (augF 1 (fC (.int 1))) nextF))
theorem how_many {n : Int} {vs : List (W × W)} (h1 : 1 ≤ n) (h8 : n ≤ 8) (hl : vs.length ≤ 24) (hv : ∀ v ∈ vs, okV n v) : F_how_many [.ins 0 [.int n, .lst (vs.map dV)]] = .ok (.fz (.int ((good vs (2 ^ n.toNat)).length : Int))) := by
  obtain ⟨hs, hK⟩ := shl1 h1 h8
  generalize 2 ^ n.toNat = K at hs hK
  obtain ⟨e', w1, e2, e3, e4, e5, rfl⟩ := loopF_inv (gf := gfName 2) (F := HB) (fun k env => ∃ e2 e3 e4 e5, env = [some (.fz (.ins 0 [.int n, .lst (vs.map dV)])), some (.fz (.int ((good vs k).length : Int))), e2, e3, e4, e5]) (rangeD 0 K) 0 _ ⟨none, none, none, none, rfl⟩ (by
    intro k d env hd hp
    obtain ⟨e2, e3, e4, e5, rfl⟩ := hp
    obtain ⟨hk, rfl⟩ := rangeD_get hd
    simp only [Int.zero_add, Nat.zero_add]
    have hb := bits_lc (fi := fRng1 (fCons (f1 (gFld 0 0) (fVar 0)) fNil)) (env := [some (.fz (.ins 0 [.int n, .lst (vs.map dV)])), some (.fz (.int ((good vs k).length : Int))), some (.fz (.int (k : Int))), e3, e4, e5]) (n := n) (k := k) (by simp -implicitDefEqProofs [gFld, rng_n (show 0 ≤ n by omega) (show n ≤ 1000000 by omega)]) h8 rfl (by simp)
    have ha := all_lc (n := n) (k := k) (Fn := F_pleases) (vs := vs) (fi := fItems false (f1 (gFld 0 1) (fVar 0))) (env := [some (.fz (.ins 0 [.int n, .lst (vs.map dV)])), some (.fz (.int ((good vs k).length : Int))), some (.fz (.int (k : Int))), e3, some (.fz (.lst (bits n k))), e5]) (fun v hm => pleases4 (hv v hm)) (by simp -implicitDefEqProofs [gFld]) hl rfl (by simp)
    refine ⟨_, _, rfl, .inl ?_, some (.fz (.int (k : Int))), e3, some (.fz (.lst (bits n k))), e5, rfl⟩
    by_cases hg : vs.all (pl k) = true
    · simp -implicitDefEqProofs [-List.map_map, HB, hb, ha, quant_all, hg, good_s]
    · simp -implicitDefEqProofs [-List.map_map, HB, hb, ha, quant_all, hg, good_s])
  unfold F_how_many
  rw [defF0_def]
  unfold HB at w1
  rw [rangeD_len, Nat.zero_add] at w1
  have h0 : good vs 0 = [] := rfl
  simp only [h0, List.length_nil, show ((0 : Nat) : Int) = 0 from rfl] at w1
  simp -implicitDefEqProofs [-List.map_map, b_how_many, startE_def, gFld, hs, rng_nat (show K ≤ 1000000 by omega), w1]
end Toy
namespace Toy
open PySem L2 DL
/-! how many choices, told at once -/
def unW : D → W
  | .tup [.int i, .bl b] => (i, b)
  | _ => (0, false)
def unV : D → W × W
  | .tup [a, b] => (unW a, unW b)
  | _ => ((0, false), (0, false))
theorem unV_dV (vs : List (W × W)) : (vs.map dV).map unV = vs := by
  rw [List.map_map]
  exact List.map_id'' (fun v => rfl) vs
/-- F_how_many, by a count -/
def HM : List D → Res R := fun ds => match ds with
  | [.ins 0 [.int n, .lst ws]] => if 1 ≤ n ∧ n ≤ 8 ∧ ws.length ≤ 24 ∧ ws.all (isWish n) = true then .ok (.fz (.int ((good (ws.map unV) (2 ^ n.toNat)).length : Int))) else F_how_many ds
  | _ => F_how_many ds
theorem hm_eq : F_how_many = HM := by
  funext ds
  unfold HM
  split
  · rename_i n ws
    by_cases c : 1 ≤ n ∧ n ≤ 8 ∧ ws.length ≤ 24 ∧ ws.all (isWish n) = true
    · rw [if_pos c]
      obtain ⟨h1, h8, hl, hw⟩ := c
      obtain ⟨vs, rfl, hv⟩ := wishes_of ws hw
      rw [List.length_map] at hl
      rw [unV_dV, how_many h1 h8 hl hv]
    · rw [if_neg c]
  · rfl
theorem told_0 : OK__law_told_right [.int 0] = true := by
  unfold OK__law_told_right b__law_told_right
  rw [hm_eq]
  kernel_rfl
theorem told_1 : OK__law_told_right [.int 1] = true := by
  unfold OK__law_told_right b__law_told_right
  rw [hm_eq]
  kernel_rfl
theorem told_2 : OK__law_told_right [.int 2] = true := by
  unfold OK__law_told_right b__law_told_right
  rw [hm_eq]
  kernel_rfl
theorem told_3 : OK__law_told_right [.int 3] = true := by
  unfold OK__law_told_right b__law_told_right
  rw [hm_eq]
  kernel_rfl
theorem told_4 : OK__law_told_right [.int 4] = true := by
  unfold OK__law_told_right b__law_told_right
  rw [hm_eq]
  kernel_rfl
theorem told_5 : OK__law_told_right [.int 5] = true := by
  unfold OK__law_told_right b__law_told_right
  rw [hm_eq]
  kernel_rfl
theorem told_6 : OK__law_told_right [.int 6] = true := by
  unfold OK__law_told_right b__law_told_right
  rw [hm_eq]
  kernel_rfl
theorem told_7 : OK__law_told_right [.int 7] = true := by
  unfold OK__law_told_right b__law_told_right
  rw [hm_eq]
  kernel_rfl
end Toy
namespace Toy
open PySem L2 DL
theorem chains_0 : okRes (F__law_chains_right [.int 0]) = true := by kernel_rfl
theorem chains_1 : okRes (F__law_chains_right [.int 1]) = true := by kernel_rfl
theorem chains_2 : okRes (F__law_chains_right [.int 2]) = true := by kernel_rfl
theorem chains_3 : okRes (F__law_chains_right [.int 3]) = true := by kernel_rfl
theorem chains_4 : okRes (F__law_chains_right [.int 4]) = true := by kernel_rfl
theorem chains_5 : okRes (F__law_chains_right [.int 5]) = true := by kernel_rfl
theorem chains_6 : okRes (F__law_chains_right [.int 6]) = true := by kernel_rfl
theorem chains_7 : okRes (F__law_chains_right [.int 7]) = true := by kernel_rfl
theorem kept_0 : okRes (F__law_kept_right [.int 0]) = true := by kernel_rfl
theorem kept_1 : okRes (F__law_kept_right [.int 1]) = true := by kernel_rfl
theorem kept_2 : okRes (F__law_kept_right [.int 2]) = true := by kernel_rfl
theorem kept_3 : okRes (F__law_kept_right [.int 3]) = true := by kernel_rfl
theorem kept_4 : okRes (F__law_kept_right [.int 4]) = true := by kernel_rfl
theorem kept_5 : okRes (F__law_kept_right [.int 5]) = true := by kernel_rfl
theorem kept_6 : okRes (F__law_kept_right [.int 6]) = true := by kernel_rfl
theorem kept_7 : okRes (F__law_kept_right [.int 7]) = true := by kernel_rfl
end Toy
namespace Toy
open PySem L2 DL
theorem texts_0 : okRes (F__law_texts_right [.int 0]) = true := by kernel_rfl
theorem texts_1 : okRes (F__law_texts_right [.int 1]) = true := by kernel_rfl
theorem texts_2 : okRes (F__law_texts_right [.int 2]) = true := by kernel_rfl
theorem texts_3 : okRes (F__law_texts_right [.int 3]) = true := by kernel_rfl
theorem texts_4 : okRes (F__law_texts_right [.int 4]) = true := by kernel_rfl
theorem texts_5 : okRes (F__law_texts_right [.int 5]) = true := by kernel_rfl
theorem texts_6 : okRes (F__law_texts_right [.int 6]) = true := by kernel_rfl
theorem texts_7 : okRes (F__law_texts_right [.int 7]) = true := by kernel_rfl
end Toy
namespace Toy
open PySem L2 DL
/-! ## the law -/
theorem okLaw_of {F1 F2 F3 : List D → Res R} {okf : List D → Bool} (ns : List Int) (n : Int) (h1 : okRes (F1 [.int n]) = true) (h2 : okf [.int n] = true) (h3 : okRes (F2 [.int n]) = true) (h4 : okRes (F3 [.int n]) = true) :
    okLaw (fCall F1 (fCons (fVar 1) fNil)) (fCons (fVar 1) fNil) okf (fAnd (fCall F2 (fCons (fVar 1) fNil)) (fCall F3 (fCons (fVar 1) fNil))) [some (.fz (.scr ns)), some (.fz (.int n))] = true := by
  have a : ∀ (F : List D → Res R) (e0 : Option O), fCall F (fCons (fVar 1) fNil) [e0, some (.fz (.int n))] = F [.int n] := fun F e0 => rfl
  have b : okRet (fCons (fVar 1) fNil) okf [some (.fz (.scr ns)), some (.fz (.int n))] = okRes (fTru okf [.int n]) := rfl
  have c : keepInt [some (.fz (.scr ns)), some (.fz (.int n))] = [none, some (.fz (.int n))] := rfl
  have d : okRes (fAnd (fCall F2 (fCons (fVar 1) fNil)) (fCall F3 (fCons (fVar 1) fNil)) [none, some (.fz (.int n))]) = true := by
    unfold fAnd
    rw [a, a, okRes_is h3, okRes_is h4]
    rfl
  unfold okLaw
  rw [a, b, c, h1, d]
  unfold fTru
  rw [if_pos h2]
  rfl
theorem law_n (ns : List Int) (n : Int) (h0 : 0 ≤ n) (h8 : n < 8) :
    okLaw (fCall F__law_chains_right (fCons (fVar 1) fNil)) (fCons (fVar 1) fNil) OK__law_told_right (fAnd (fCall F__law_kept_right (fCons (fVar 1) fNil)) (fCall F__law_texts_right (fCons (fVar 1) fNil))) [some (.fz (.scr ns)), some (.fz (.int n))] = true := by
  have e : n = 0 ∨ n = 1 ∨ n = 2 ∨ n = 3 ∨ n = 4 ∨ n = 5 ∨ n = 6 ∨ n = 7 := by omega
  rcases e with rfl | rfl | rfl | rfl | rfl | rfl | rfl | rfl
  · exact okLaw_of ns _ chains_0 told_0 kept_0 texts_0
  · exact okLaw_of ns _ chains_1 told_1 kept_1 texts_1
  · exact okLaw_of ns _ chains_2 told_2 kept_2 texts_2
  · exact okLaw_of ns _ chains_3 told_3 kept_3 texts_3
  · exact okLaw_of ns _ chains_4 told_4 kept_4 texts_4
  · exact okLaw_of ns _ chains_5 told_5 kept_5 texts_5
  · exact okLaw_of ns _ chains_6 told_6 kept_6 texts_6
  · exact okLaw_of ns _ chains_7 told_7 kept_7 texts_7
theorem ix_scr (a : Int) (l : List Int) : gIxA (.fz (.scr (a :: l))) (.fz (.int 0)) = .ok (.fz (.int a)) := by
  have h : gIx (.fz (.scr (a :: l))) (.fz (.int 0)) = .ok (.fz (.int a)) := by rw [gIx_scr, atI_0]
  unfold gIxA
  rw [h]
theorem okSeq_nx {F : DL.Env → Fl} {k : DL.Env → Bool} {env e : DL.Env} (h : F env = .nx e) : okSeq F k env = k e := by
  unfold okSeq
  rw [h]
theorem okDef_eq (n np : Nat) (ok : DL.Env → Bool) (ds : List D) : okDef n np ok ds = ((ds.length == np) && ok (startE n ds)) := rfl
theorem name_nil : setF false 1 (fIf (fT (fOp gNeS (fVar 0) (fLst fNil))) (fOp gMod (fCB gAbs (fCons (fOp gIxA (fVar 0) (fC (.int 0))) fNil)) (fC (.int 8))) (fC (.int 3))) [some (.fz (.scr [])), none] = .nx [some (.fz (.scr [])), some (.fz (.int 3))] := rfl
theorem name_cons (a : Int) (l : List Int) : setF false 1 (fIf (fT (fOp gNeS (fVar 0) (fLst fNil))) (fOp gMod (fCB gAbs (fCons (fOp gIxA (fVar 0) (fC (.int 0))) fNil)) (fC (.int 8))) (fC (.int 3))) [some (.fz (.scr (a :: l))), none] = .nx [some (.fz (.scr (a :: l))), some (.fz (.int ((if a < 0 then -a else a) % 8)))] := by
  have hn : gNeS (.fz (.scr (a :: l))) (.fz (.lst [])) = .ok (.fz (.bl true)) := rfl
  simp -implicitDefEqProofs [hn, ix_scr, gMod, gI, modOk]
theorem law_true (ns : List Int) (hl : ns.length ≤ 63) : OK_law [.scr ns] = true := by
  have st : startE 2 [.scr ns] = [some (.fz (.scr ns)), none] := rfl
  have one : ([D.scr ns].length == 1) = true := rfl
  unfold OK_law
  rw [okDef_eq, one, Bool.true_and, st]
  unfold b_law
  cases ns with
  | nil =>
    rw [okSeq_nx name_nil]
    exact law_n [] 3 (by decide) (by decide)
  | cons a l =>
    rw [okSeq_nx (name_cons a l)]
    exact law_n (a :: l) _ (Int.emod_nonneg _ (by decide)) (Int.emod_lt_of_pos _ (by decide))
end Toy
namespace Toy
open PySem L2 DL
section
variable {P : Program} {w : World} {K : PySem.W.Frag} {T : CT} {mg : PySem.Str → Option Value} {base : Heap}
theorem sc_opposite : FnScope N_opposite P_opposite (defScope s_opposite) := ⟨rfl, rfl, rfl, by decide +kernel, rfl, by decide +kernel, by decide +kernel⟩
theorem okH_opposite {f : Addr} {fd : FuncData} (F : Fun K "opposite" "opposite" s_opposite f fd) (B : Bt mg) : ∀ p c d, PinX T p c d → FnAt P w K mg base 2 f fd P_opposite p (spD ⟨K, T.at p.1 c d, P, w⟩ F_opposite) := by
  refine fn_at (k := 1) (Fb := b_opposite) F sc_opposite rfl rfl (fun cdv A outer s H E p c d px hot hr => ?_)
  have nd := sc_opposite.nd
  exact ⟨_, (dss_one (ds_ret (de_tup (da_cons (de_ixAH hr (de_var 0) de_int) (da_cons (de_not (de_ixAH hr (de_var 0) de_int)) da_nil)))))⟩
theorem ok_opposite {f : Addr} {fd : FuncData} (F : Fun K "opposite" "opposite" s_opposite f fd) (B : Bt mg) : FnOk P w K mg base (L2N.CX P w) 2 f fd P_opposite (spD ⟨K, T, P, w⟩ F_opposite) := by
  refine fn_defX0 (k := 1) (Fb := b_opposite) F sc_opposite rfl rfl (fun cdv A outer s H E hr tk => ?_)
  have nd := sc_opposite.nd
  exact ⟨_, (dss_one (ds_ret (de_tup (da_cons (de_ixA hr (de_var 0) de_int) (da_cons (de_not (de_ixA hr (de_var 0) de_int)) da_nil)))))⟩
theorem sc_steps : FnScope N_steps P_steps (defScope s_steps) := ⟨rfl, rfl, rfl, by decide +kernel, rfl, by decide +kernel, by decide +kernel⟩
theorem okH_steps {f : Addr} {fd : FuncData} (F : Fun K "steps" "steps" s_steps f fd) (B : Bt mg) (hf0 : FldOk K T 0)
    (h_opposite : FnP P w K T mg base "opposite" 2 F_opposite)
    (g_opposite : FnD P w K T mg base (L2N.CX P w) "opposite" 2 F_opposite) : ∀ p c d, PinX T p c d → FnAt P w K mg base 4 f fd P_steps p (spD ⟨K, T.at p.1 c d, P, w⟩ F_steps) := by
  refine fn_at (k := 3) (Fb := b_steps) F sc_steps rfl rfl (fun cdv A outer s H E p c d px hot hr => ?_)
  have nd := sc_steps.nd
  exact ⟨_, (dss_cons (ds_set true 2 nd (de_lst da_nil))
  (dss_cons (ds_forH (p := p) (passes_of rfl) hot List.mem_cons_self (diH_list (de_fld 0 1 hf0.pin (de_var 0))) (dg_tupH hot List.mem_cons_self (dgs_cons (dg_name 3 nd) (dgs_cons (dg_name 4 nd) dgs_nil))) (dss_cons (ds_if (dt_cmp (cv_eqH hr) (de_var 3) (de_callP h_opposite px hot List.mem_cons_self (hr.mono (by decide)) (da_cons (de_var 1) da_nil))) (dss_one (ds_app false 2 (de_var 4))) dss_nil)
  (dss_one (ds_if (dt_cmp (cv_eqH hr) (de_var 4) (de_callP h_opposite px hot List.mem_cons_self (hr.mono (by decide)) (da_cons (de_var 1) da_nil))) (dss_one (ds_app false 2 (de_var 3))) dss_nil))))
  (dss_one (ds_retV 2))))⟩
theorem ok_steps {f : Addr} {fd : FuncData} (F : Fun K "steps" "steps" s_steps f fd) (B : Bt mg) (hf0 : FldOk K T 0)
    (h_opposite : FnP P w K T mg base "opposite" 2 F_opposite)
    (g_opposite : FnD P w K T mg base (L2N.CX P w) "opposite" 2 F_opposite) : FnOk P w K mg base (L2N.CX P w) 4 f fd P_steps (spD ⟨K, T, P, w⟩ F_steps) := by
  refine fn_defX0 (k := 3) (Fb := b_steps) F sc_steps rfl rfl (fun cdv A outer s H E hr tk => ?_)
  have nd := sc_steps.nd
  exact ⟨_, (dss_cons (ds_set true 2 nd (de_lst da_nil))
  (dss_cons (ds_for (passes_of rfl) rfl (di_list (de_fld 0 1 hf0 (de_var 0))) (dg_tup rfl (dgs_cons (dg_name 3 nd) (dgs_cons (dg_name 4 nd) dgs_nil))) (dss_cons (ds_if (dt_cmp (cv_eq hr) (de_var 3) (de_callX g_opposite (hr.mono (by decide)) tk (da_cons (de_var 1) da_nil))) (dss_one (ds_app false 2 (de_var 4))) dss_nil)
  (dss_one (ds_if (dt_cmp (cv_eq hr) (de_var 4) (de_callX g_opposite (hr.mono (by decide)) tk (da_cons (de_var 1) da_nil))) (dss_one (ds_app false 2 (de_var 3))) dss_nil))))
  (dss_one (ds_retV 2))))⟩
theorem sc_walked : FnScope N_walked P_walked (defScope s_walked) := ⟨rfl, rfl, rfl, by decide +kernel, rfl, by decide +kernel, by decide +kernel⟩
theorem ok_walked {f : Addr} {fd : FuncData} (F : Fun K "walked" "walked" s_walked f fd) (B : Bt mg)
    (g_steps : FnD P w K T mg base (L2N.CX P w) "steps" 4 F_steps) : FnOk P w K mg base (L2N.CX P w) 6 f fd P_walked (spD ⟨K, T, P, w⟩ F_walked) := by
  refine fn_defX0 (k := 5) (Fb := b_walked) F sc_walked rfl rfl (fun cdv A outer s H E hr tk => ?_)
  have nd := sc_walked.nd
  exact ⟨_, (dss_cons (ds_set true 2 nd (de_dispW hr (de_var 1) (de_var 1)))
  (dss_cons (ds_set true 3 nd (de_lst (da_cons (de_var 1) da_nil)))
  (dss_cons (ds_while 1000 (passes_of rfl) (dt_cmp (cv_ne hr) (de_var 3) (de_lst da_nil)) (dss_cons (ds_pop0 3 4 nd)
  (dss_one (ds_for (passes_of rfl) rfl (di_list (de_callX g_steps (hr.mono (by decide)) tk (da_cons (de_var 0) (da_cons (de_var 4) da_nil)))) (dg_name 5 nd) (dss_one (ds_if (dt_cmp (cv_notInA hr) (de_var 5) (de_var 2)) (dss_cons (ds_setW hr 2 (de_var 4) (de_var 5))
  (dss_one (ds_app false 3 (de_var 5)))) dss_nil))))))
  (dss_one (ds_retV 2)))))⟩
theorem sc_within : FnScope N_within P_within (defScope s_within) := ⟨rfl, rfl, rfl, by decide +kernel, rfl, by decide +kernel, by decide +kernel⟩
theorem okH_within {f : Addr} {fd : FuncData} (F : Fun K "within" "within" s_within f fd) (B : Bt mg) : ∀ p c d, PinX T p c d → FnAt P w K mg base 2 f fd P_within p (spD ⟨K, T.at p.1 c d, P, w⟩ F_within) := by
  refine fn_at (k := 1) (Fb := b_within) F sc_within rfl rfl (fun cdv A outer s H E p c d px hot hr => ?_)
  have nd := sc_within.nd
  exact ⟨_, (dss_one (ds_ret (de_and (de_isi (tn := "int") B.b_isinstance B.b_int (de_var 0)) (de_and (de_not (de_isi (tn := "bool") B.b_isinstance B.b_bool (de_var 0))) (de_one (de_chain cv_le cv_le (de_var 1) (de_var 0) (de_var 2)))))))⟩
theorem ok_within {f : Addr} {fd : FuncData} (F : Fun K "within" "within" s_within f fd) (B : Bt mg) : FnOk P w K mg base (L2N.CX P w) 2 f fd P_within (spD ⟨K, T, P, w⟩ F_within) := by
  refine fn_defX0 (k := 1) (Fb := b_within) F sc_within rfl rfl (fun cdv A outer s H E hr tk => ?_)
  have nd := sc_within.nd
  exact ⟨_, (dss_one (ds_ret (de_and (de_isi (tn := "int") B.b_isinstance B.b_int (de_var 0)) (de_and (de_not (de_isi (tn := "bool") B.b_isinstance B.b_bool (de_var 0))) (de_one (de_chain cv_le cv_le (de_var 1) (de_var 0) (de_var 2)))))))⟩
theorem sc_is_word : FnScope N_is_word P_is_word (defScope s_is_word) := ⟨rfl, rfl, rfl, by decide +kernel, rfl, by decide +kernel, by decide +kernel⟩
theorem okH_is_word {f : Addr} {fd : FuncData} (F : Fun K "is_word" "is_word" s_is_word f fd) (B : Bt mg)
    (h_within : FnP P w K T mg base "within" 2 F_within)
    (g_within : FnD P w K T mg base (L2N.CX P w) "within" 2 F_within) : ∀ p c d, PinX T p c d → FnAt P w K mg base 4 f fd P_is_word p (spD ⟨K, T.at p.1 c d, P, w⟩ F_is_word) := by
  refine fn_at (k := 3) (Fb := b_is_word) F sc_is_word rfl rfl (fun cdv A outer s H E p c d px hot hr => ?_)
  have nd := sc_is_word.nd
  exact ⟨_, (dss_cons (ds_if (dt_w (dw_or (dt_not (dt_val (de_isi (tn := "tuple") B.b_isinstance B.b_tuple (de_var 0)))) (dw_or1 (dt_cmp (cv_neH hr) (de_callB bi_len B.b_len (da_cons (de_var 0) da_nil)) de_int)))) (dss_one (ds_ret de_bl)) dss_nil)
  (dss_one (ds_ret (de_and (de_callP h_within px hot List.mem_cons_self (hr.mono (by decide)) (da_cons (de_ixAH hr (de_var 0) de_int) (da_cons de_int (da_cons (de_sub (de_var 1) de_int) da_nil)))) (de_one (de_isi (tn := "bool") B.b_isinstance B.b_bool (de_ixAH hr (de_var 0) de_int)))))))⟩
theorem ok_is_word {f : Addr} {fd : FuncData} (F : Fun K "is_word" "is_word" s_is_word f fd) (B : Bt mg)
    (h_within : FnP P w K T mg base "within" 2 F_within)
    (g_within : FnD P w K T mg base (L2N.CX P w) "within" 2 F_within) : FnOk P w K mg base (L2N.CX P w) 4 f fd P_is_word (spD ⟨K, T, P, w⟩ F_is_word) := by
  refine fn_defX0 (k := 3) (Fb := b_is_word) F sc_is_word rfl rfl (fun cdv A outer s H E hr tk => ?_)
  have nd := sc_is_word.nd
  exact ⟨_, (dss_cons (ds_if (dt_w (dw_or (dt_not (dt_val (de_isi (tn := "tuple") B.b_isinstance B.b_tuple (de_var 0)))) (dw_or1 (dt_cmp (cv_ne hr) (de_callB bi_len B.b_len (da_cons (de_var 0) da_nil)) de_int)))) (dss_one (ds_ret de_bl)) dss_nil)
  (dss_one (ds_ret (de_and (de_callX g_within (hr.mono (by decide)) tk (da_cons (de_ixA hr (de_var 0) de_int) (da_cons de_int (da_cons (de_sub (de_var 1) de_int) da_nil)))) (de_one (de_isi (tn := "bool") B.b_isinstance B.b_bool (de_ixA hr (de_var 0) de_int)))))))⟩
theorem sc_House_word : FnScope N_House_word P_House_word (defScope s_House_word) := ⟨rfl, rfl, rfl, by decide +kernel, rfl, by decide +kernel, by decide +kernel⟩
theorem ok_House_word {f : Addr} {fd : FuncData} (F : Fun K "word" "House.word" s_House_word f fd) (B : Bt mg) (hf0 : FldOk K T 0)
    (g_is_word : FnD P w K T mg base (L2N.CX P w) "is_word" 4 F_is_word) : FnOk P w K mg base (L2N.CX P w) 6 f fd P_House_word (spD ⟨K, T, P, w⟩ F_House_word) := by
  refine fn_defX0 (k := 5) (Fb := b_House_word) F sc_House_word rfl rfl (fun cdv A outer s H E hr tk => ?_)
  have nd := sc_House_word.nd
  exact ⟨_, (dss_cons (ds_if (dt_not (dt_val (de_callX g_is_word (hr.mono (by decide)) tk (da_cons (de_var 1) (da_cons (de_fld 0 0 hf0 (de_var 0)) da_nil))))) (dss_one ds_never) dss_nil)
  (dss_one (ds_retV 1)))⟩
theorem sc_follows : FnScope N_follows P_follows (defScope s_follows) := ⟨rfl, rfl, rfl, by decide +kernel, rfl, by decide +kernel, by decide +kernel⟩
theorem ok_follows {f : Addr} {fd : FuncData} (F : Fun K "follows" "follows" s_follows f fd) (B : Bt mg)
    (g_walked : FnD P w K T mg base (L2N.CX P w) "walked" 6 F_walked)
    (m_House_word : MtD P w K T mg base (L2N.CX P w) 0 "word" 6 F_House_word) : FnOk P w K mg base (L2N.CX P w) 8 f fd P_follows (spD ⟨K, T, P, w⟩ F_follows) := by
  refine fn_defX0 (k := 7) (Fb := b_follows) F sc_follows rfl rfl (fun cdv A outer s H E hr tk => ?_)
  have nd := sc_follows.nd
  exact ⟨_, (dss_one (ds_ret (de_callB (bi_sortW rfl) B.b_sorted (da_cons (de_callX g_walked (hr.mono (by decide)) tk (da_cons (de_var 0) (da_cons (de_methX m_House_word (hr.mono (by decide)) tk (de_var 0) (da_cons (de_var 1) da_nil)) da_nil))) da_nil))))⟩
theorem sc_chain : FnScope N_chain P_chain (defScope s_chain) := ⟨rfl, rfl, rfl, by decide +kernel, rfl, by decide +kernel, by decide +kernel⟩
theorem ok_chain {f : Addr} {fd : FuncData} (F : Fun K "chain" "chain" s_chain f fd) (B : Bt mg)
    (g_walked : FnD P w K T mg base (L2N.CX P w) "walked" 6 F_walked)
    (m_House_word : MtD P w K T mg base (L2N.CX P w) 0 "word" 6 F_House_word) : FnOk P w K mg base (L2N.CX P w) 8 f fd P_chain (spD ⟨K, T, P, w⟩ F_chain) := by
  refine fn_defX0 (k := 7) (Fb := b_chain) F sc_chain rfl rfl (fun cdv A outer s H E hr tk => ?_)
  have nd := sc_chain.nd
  exact ⟨_, (dss_cons (ds_set false 3 nd (de_callX g_walked (hr.mono (by decide)) tk (da_cons (de_var 0) (da_cons (de_methX m_House_word (hr.mono (by decide)) tk (de_var 0) (da_cons (de_var 1) da_nil)) da_nil))))
  (dss_cons (ds_set true 4 nd (de_lst (da_cons (de_methX m_House_word (hr.mono (by decide)) tk (de_var 0) (da_cons (de_var 2) da_nil)) da_nil)))
  (dss_cons (ds_if (dt_cmp (cv_notInA hr) (de_var 2) (de_var 3)) (dss_one (ds_ret (de_lst da_nil))) dss_nil)
  (dss_cons (ds_while 1000 (passes_of rfl) (dt_cmp (cv_ne hr) (de_ixA hr (de_var 4) de_int) (de_var 1)) (dss_one (ds_set true 4 nd (de_add (de_lst (da_cons (de_ixA hr (de_var 3) (de_ixA hr (de_var 4) de_int)) da_nil)) (de_var 4)))))
  (dss_one (ds_retV 4))))))⟩
theorem sc_words_of : FnScope N_words_of P_words_of (defScope s_words_of) := ⟨rfl, rfl, rfl, by decide +kernel, rfl, by decide +kernel, by decide +kernel⟩
theorem ok_words_of {f : Addr} {fd : FuncData} (F : Fun K "words_of" "words_of" s_words_of f fd) (B : Bt mg) (hf0 : FldOk K T 0) : FnOk P w K mg base (L2N.CX P w) 2 f fd P_words_of (spD ⟨K, T, P, w⟩ F_words_of) := by
  refine fn_defX0 (k := 1) (Fb := b_words_of) F sc_words_of rfl rfl (fun cdv A outer s H E hr tk => ?_)
  have nd := sc_words_of.nd
  exact ⟨_, (dss_cons (ds_set true 1 nd (de_lst da_nil))
  (dss_cons (ds_for (passes_of rfl) rfl (di_range1 B.b_range (da_cons (de_fld 0 0 hf0 (de_var 0)) da_nil)) (dg_name 2 nd) (dss_one (ds_ext 1 (de_lst (da_cons (de_tup (da_cons (de_var 2) (da_cons de_bl da_nil))) (da_cons (de_tup (da_cons (de_var 2) (da_cons de_bl da_nil))) da_nil))))))
  (dss_one (ds_retV 1))))⟩
theorem sc_hanging : FnScope N_hanging P_hanging (defScope s_hanging) := ⟨rfl, rfl, rfl, by decide +kernel, rfl, by decide +kernel, by decide +kernel⟩
theorem ok_hanging {f : Addr} {fd : FuncData} (F : Fun K "hanging" "hanging" s_hanging f fd) (B : Bt mg)
    (g_words_of : FnD P w K T mg base (L2N.CX P w) "words_of" 2 F_words_of)
    (g_walked : FnD P w K T mg base (L2N.CX P w) "walked" 6 F_walked) : FnOk P w K mg base (L2N.CX P w) 8 f fd P_hanging (spD ⟨K, T, P, w⟩ F_hanging) := by
  refine fn_defX0 (k := 7) (Fb := b_hanging) F sc_hanging rfl rfl (fun cdv A outer s H E hr tk => ?_)
  have nd := sc_hanging.nd
  exact ⟨_, (dss_cons (ds_set true 1 nd de_dnewW)
  (dss_cons (ds_for (passes_of rfl) rfl (di_list (de_callX g_words_of (hr.mono (by decide)) tk (da_cons (de_var 0) da_nil))) (dg_name 2 nd) (dss_one (ds_setW hr 1 (de_callX g_walked (hr.mono (by decide)) tk (da_cons (de_var 0) (da_cons (de_var 2) da_nil))) (de_var 2))))
  (dss_cons (ds_set true 3 nd (de_lst da_nil))
  (dss_cons (ds_for (passes_of rfl) rfl (di_list (de_callX g_words_of (hr.mono (by decide)) tk (da_cons (de_var 0) da_nil))) (dg_name 2 nd) (dss_cons (ds_setLc true 5 [("other", 4)] [4] rfl nd (sw_true rfl rfl rfl (by decide +kernel)) (di_list (de_callB (bi_sortW rfl) B.b_sorted (da_cons (de_ixA hr (de_var 1) (de_var 2)) da_nil))) (blkOk_by (N := N_hanging) (sc := defScope s_hanging) (by decide +kernel)) (fun _ _ _ _ _ => ⟨_, (dg_name 4 nd)⟩) (fun _ _ _ _ _ => ⟨_, (dts_one (dt_cmp (cv_inA hr) (de_var 2) (de_ixA hr (de_var 1) (de_var 4))))⟩) (fun _ _ _ _ _ => ⟨_, (de_var 4)⟩))
  (dss_one (ds_if (dt_cmp (cv_eq hr) (de_ixA hr (de_var 5) de_int) (de_var 2)) (dss_one (ds_appMv 3 5)) dss_nil))))
  (dss_one (ds_retV 3))))))⟩
theorem sc_check_choice : FnScope N_check_choice P_check_choice (defScope s_check_choice) := ⟨rfl, rfl, rfl, by decide +kernel, rfl, by decide +kernel, by decide +kernel⟩
theorem ok_check_choice {f : Addr} {fd : FuncData} (F : Fun K "check_choice" "check_choice" s_check_choice f fd) (B : Bt mg) (hf0 : FldOk K T 0) : FnOk P w K mg base (L2N.CX P w) 2 f fd P_check_choice (spD ⟨K, T, P, w⟩ F_check_choice) := by
  refine fn_defX0 (k := 1) (Fb := b_check_choice) F sc_check_choice rfl rfl (fun cdv A outer s H E hr tk => ?_)
  have nd := sc_check_choice.nd
  exact ⟨_, (dss_cons (ds_if (dt_w (dw_or (dt_not (dt_val (de_isi (tn := "list") B.b_isinstance B.b_list (de_var 1)))) (dw_or1 (dt_cmp (cv_ne hr) (de_callB bi_len B.b_len (da_cons (de_var 1) da_nil)) (de_fld 0 0 hf0 (de_var 0)))))) (dss_one ds_never) dss_nil)
  (dss_one (ds_if (dt_not (dt_val (de_callB (bi_all rfl) B.b_all (da_cons (de_lc [("one", 2)] [2] rfl nd (di_list (de_var 1)) (blkOk_by (N := N_check_choice) (sc := defScope s_check_choice) (by decide +kernel)) (fun _ _ _ _ _ => ⟨_, (dg_name 2 nd)⟩) (fun _ _ _ _ _ => ⟨_, dts_nil⟩) (fun _ _ _ _ _ => ⟨_, (de_isi (tn := "bool") B.b_isinstance B.b_bool (de_var 2))⟩)) da_nil)))) (dss_one ds_never) dss_nil)))⟩
theorem sc_pleases : FnScope N_pleases P_pleases (defScope s_pleases) := ⟨rfl, rfl, rfl, by decide +kernel, rfl, by decide +kernel, by decide +kernel⟩
theorem ok_pleases {f : Addr} {fd : FuncData} (F : Fun K "pleases" "pleases" s_pleases f fd) (B : Bt mg) : FnOk P w K mg base (L2N.CX P w) 2 f fd P_pleases (spD ⟨K, T, P, w⟩ F_pleases) := by
  refine fn_defX0 (k := 1) (Fb := b_pleases) F sc_pleases rfl rfl (fun cdv A outer s H E hr tk => ?_)
  have nd := sc_pleases.nd
  exact ⟨_, (dss_one (ds_ret (de_callB (bi_any rfl) B.b_any (da_cons (de_lc [("name", 2), ("truth", 3)] [2, 3] rfl nd (di_tup (de_var 1)) (blkOk_by (N := N_pleases) (sc := defScope s_pleases) (by decide +kernel)) (fun _ _ _ _ _ => ⟨_, (dg_tup rfl (dgs_cons (dg_name 2 nd) (dgs_cons (dg_name 3 nd) dgs_nil)))⟩) (fun _ _ _ _ _ => ⟨_, dts_nil⟩) (fun _ _ _ _ _ => ⟨_, (de_cmp (cv_eq hr) (de_ixA hr (de_var 0) (de_var 2)) (de_var 3))⟩)) da_nil))))⟩
theorem sc_displeased : FnScope N_displeased P_displeased (defScope s_displeased) := ⟨rfl, rfl, rfl, by decide +kernel, rfl, by decide +kernel, by decide +kernel⟩
theorem ok_displeased {f : Addr} {fd : FuncData} (F : Fun K "displeased" "displeased" s_displeased f fd) (B : Bt mg) (hf0 : FldOk K T 0)
    (g_check_choice : FnD P w K T mg base (L2N.CX P w) "check_choice" 2 F_check_choice)
    (g_pleases : FnD P w K T mg base (L2N.CX P w) "pleases" 2 F_pleases) : FnOk P w K mg base (L2N.CX P w) 4 f fd P_displeased (spD ⟨K, T, P, w⟩ F_displeased) := by
  refine fn_defX0 (k := 3) (Fb := b_displeased) F sc_displeased rfl rfl (fun cdv A outer s H E hr tk => ?_)
  have nd := sc_displeased.nd
  exact ⟨_, (dss_cons (ds_drop (de_callX g_check_choice (hr.mono (by decide)) tk (da_cons (de_var 0) (da_cons (de_var 1) da_nil))))
  (dss_one (ds_ret (de_lc [("at", 2)] [2] rfl nd (di_range1 B.b_range (da_cons (de_callB bi_len B.b_len (da_cons (de_fld 0 1 hf0 (de_var 0)) da_nil)) da_nil)) (blkOk_by (N := N_displeased) (sc := defScope s_displeased) (by decide +kernel)) (fun _ _ _ _ _ => ⟨_, (dg_name 2 nd)⟩) (fun _ _ _ _ _ => ⟨_, (dts_one (dt_not (dt_val (de_callX g_pleases (hr.mono (by decide)) takes0 (da_cons (de_var 1) (da_cons (de_ixA hr (de_fld 0 1 hf0 (de_var 0)) (de_var 2)) da_nil))))))⟩) (fun _ _ _ _ _ => ⟨_, (de_var 2)⟩)))))⟩
theorem sc_House_init : FnScope N_House_init P_House_init (defScope s_House_init) := ⟨rfl, rfl, rfl, by decide +kernel, rfl, by decide +kernel, by decide +kernel⟩
theorem okH_House_init {f : Addr} {fd : FuncData} (F : Fun K "__init__" "House.__init__" s_House_init f fd) (B : Bt mg) (hf0 : FldOk K T 0)
    (x_BadHouse : ExT mg K T "BadHouse" 6)
    (h_within : FnP P w K T mg base "within" 2 F_within)
    (h_is_word : FnP P w K T mg base "is_word" 4 F_is_word)
    (g_within : FnD P w K T mg base (L2N.CX P w) "within" 2 F_within)
    (g_is_word : FnD P w K T mg base (L2N.CX P w) "is_word" 4 F_is_word) : ∀ p c d, PinX T p c d → FnAt P w K mg base 6 f fd P_House_init p (spI ⟨K, T.at p.1 c d, P, w⟩ 0 fun ds => noEx (M_House ds)) := by
  refine fn_initP (k := 5) (Fb := b_House_init) F sc_House_init rfl rfl (fun cdv A outer s H E p c d px hot hr => ?_) mk_House_eq
  have nd := sc_House_init.nd
  exact ⟨_, (dss_cons (ds_if (dt_w (dw_or (dt_not (dt_val (de_callP h_within px hot List.mem_cons_self (hr.mono (by decide)) (da_cons (de_var 1) (da_cons de_int (da_cons (de_gint B.g_MOST) da_nil)))))) (dw_or (dt_not (dt_val (de_isi (tn := "list") B.b_isinstance B.b_list (de_var 2)))) (dw_or1 (dt_cmp cv_gt (de_callB bi_len B.b_len (da_cons (de_var 2) da_nil)) (de_gint B.g_WISHES)))))) (dss_one ds_exNever) dss_nil)
  (dss_cons (ds_forH (p := p) (passes_of rfl) hot List.mem_cons_self (diH_list (de_var 2)) (dg_name 3 nd) (dss_cons (ds_if (dt_w (dw_or (dt_not (dt_val (de_isi (tn := "tuple") B.b_isinstance B.b_tuple (de_var 3)))) (dw_or1 (dt_cmp (cv_neH hr) (de_callB bi_len B.b_len (da_cons (de_var 3) da_nil)) de_int)))) (dss_one ds_exNever) dss_nil)
  (dss_one (ds_if (dt_w (dw_or (dt_not (dt_val (de_callP h_is_word px hot List.mem_cons_self (hr.mono (by decide)) (da_cons (de_ixAH hr (de_var 3) de_int) (da_cons (de_var 1) da_nil))))) (dw_or1 (dt_not (dt_val (de_callP h_is_word px hot List.mem_cons_self (hr.mono (by decide)) (da_cons (de_ixAH hr (de_var 3) de_int) (da_cons (de_var 1) da_nil)))))))) (dss_one ds_exNever) dss_nil))))
  (dss_cons (ds_fld true 0 0 0 hf0.pin (de_var 1))
  (dss_one (ds_fld true 0 0 1 hf0.pin (de_callTy bi_list B.b_list (da_cons (de_var 2) da_nil)))))))⟩
theorem ok_House_init {f : Addr} {fd : FuncData} (F : Fun K "__init__" "House.__init__" s_House_init f fd) (B : Bt mg) (hf0 : FldOk K T 0)
    (x_BadHouse : ExT mg K T "BadHouse" 6)
    (h_within : FnP P w K T mg base "within" 2 F_within)
    (h_is_word : FnP P w K T mg base "is_word" 4 F_is_word)
    (g_within : FnD P w K T mg base (L2N.CX P w) "within" 2 F_within)
    (g_is_word : FnD P w K T mg base (L2N.CX P w) "is_word" 4 F_is_word) : FnOk P w K mg base (L2N.CX P w) 6 f fd P_House_init (spI ⟨K, T, P, w⟩ 0 M_House) := by
  refine fn_initX (k := 5) (Fb := b_House_init) F sc_House_init rfl rfl (fun cdv A outer s H E hr tk => ?_) mk_House_eq
  have nd := sc_House_init.nd
  exact ⟨_, (dss_cons (ds_if (dt_w (dw_or (dt_not (dt_val (de_callX g_within (hr.mono (by decide)) tk (da_cons (de_var 1) (da_cons de_int (da_cons (de_gint B.g_MOST) da_nil)))))) (dw_or (dt_not (dt_val (de_isi (tn := "list") B.b_isinstance B.b_list (de_var 2)))) (dw_or1 (dt_cmp cv_gt (de_callB bi_len B.b_len (da_cons (de_var 2) da_nil)) (de_gint B.g_WISHES)))))) (dss_one (ds_raiseT rfl tk x_BadHouse)) dss_nil)
  (dss_cons (ds_for (passes_of rfl) rfl (di_list (de_var 2)) (dg_name 3 nd) (dss_cons (ds_if (dt_w (dw_or (dt_not (dt_val (de_isi (tn := "tuple") B.b_isinstance B.b_tuple (de_var 3)))) (dw_or1 (dt_cmp (cv_ne hr) (de_callB bi_len B.b_len (da_cons (de_var 3) da_nil)) de_int)))) (dss_one (ds_raiseT rfl tk x_BadHouse)) dss_nil)
  (dss_one (ds_if (dt_w (dw_or (dt_not (dt_val (de_callX g_is_word (hr.mono (by decide)) tk (da_cons (de_ixA hr (de_var 3) de_int) (da_cons (de_var 1) da_nil))))) (dw_or1 (dt_not (dt_val (de_callX g_is_word (hr.mono (by decide)) tk (da_cons (de_ixA hr (de_var 3) de_int) (da_cons (de_var 1) da_nil)))))))) (dss_one (ds_raiseT rfl tk x_BadHouse)) dss_nil))))
  (dss_cons (ds_fld true 0 0 0 hf0 (de_var 1))
  (dss_one (ds_fld true 0 0 1 hf0 (de_callTy bi_list B.b_list (da_cons (de_var 2) da_nil)))))))⟩
theorem sc_House_wishes : FnScope N_House_wishes P_House_wishes (defScope s_House_wishes) := ⟨rfl, rfl, rfl, by decide +kernel, rfl, by decide +kernel, by decide +kernel⟩
theorem okH_House_wishes {f : Addr} {fd : FuncData} (F : Fun K "wishes" "House.wishes" s_House_wishes f fd) (B : Bt mg) (hf0 : FldOk K T 0) : ∀ p c d, PinX T p c d → FnAt P w K mg base 2 f fd P_House_wishes p (spD ⟨K, T.at p.1 c d, P, w⟩ F_House_wishes) := by
  refine fn_at (k := 1) (Fb := b_House_wishes) F sc_House_wishes rfl rfl (fun cdv A outer s H E p c d px hot hr => ?_)
  have nd := sc_House_wishes.nd
  exact ⟨_, (dss_one (ds_ret (de_callTy bi_list B.b_list (da_cons (de_fld 0 1 hf0.pin (de_var 0)) da_nil))))⟩
theorem ok_House_wishes {f : Addr} {fd : FuncData} (F : Fun K "wishes" "House.wishes" s_House_wishes f fd) (B : Bt mg) (hf0 : FldOk K T 0) : FnOk P w K mg base (L2N.CX P w) 2 f fd P_House_wishes (spD ⟨K, T, P, w⟩ F_House_wishes) := by
  refine fn_defX0 (k := 1) (Fb := b_House_wishes) F sc_House_wishes rfl rfl (fun cdv A outer s H E hr tk => ?_)
  have nd := sc_House_wishes.nd
  exact ⟨_, (dss_one (ds_ret (de_callTy bi_list B.b_list (da_cons (de_fld 0 1 hf0 (de_var 0)) da_nil))))⟩
theorem sc__law_displeased_right : FnScope N__law_displeased_right P__law_displeased_right (defScope s__law_displeased_right) := ⟨rfl, rfl, rfl, by decide +kernel, rfl, by decide +kernel, by decide +kernel⟩
theorem ok__law_displeased_right {f : Addr} {fd : FuncData} (F : Fun K "_law_displeased_right" "_law_displeased_right" s__law_displeased_right f fd) (B : Bt mg)
    (g_displeased : FnD P w K T mg base (L2N.CX P w) "displeased" 4 F_displeased)
    (c_House : ClD P w K T mg base (L2N.CX P w) "House" 0 6 M_House)
    (m_House_wishes : MtD P w K T mg base (L2N.CX P w) 0 "wishes" 2 F_House_wishes) : FnOk P w K mg base (L2N.CX P w) 9 f fd P__law_displeased_right (spD ⟨K, T, P, w⟩ F__law_displeased_right) := by
  refine fn_defX0 (k := 8) (Fb := b__law_displeased_right) F sc__law_displeased_right rfl rfl (fun cdv A outer s H E hr tk => ?_)
  have nd := sc__law_displeased_right.nd
  exact ⟨_, (dss_cons (ds_set false 5 nd (de_lst (da_cons (de_tup (da_cons (de_var 0) (da_cons (de_var 0) da_nil))) (da_cons (de_tup (da_cons (de_var 0) (da_cons (de_var 1) da_nil))) (da_cons (de_tup (da_cons (de_var 1) (da_cons (de_var 3) da_nil))) (da_cons (de_tup (da_cons (de_var 2) (da_cons (de_var 0) da_nil))) da_nil))))))
  (dss_cons (ds_par2 6 7 rfl nd (da_cons (de_makeX c_House (hr.mono (by decide)) tk (da_cons de_int (da_cons (de_var 5) da_nil))) (da_cons (de_mul (de_lst (da_cons de_bl da_nil)) de_int) da_nil)))
  (dss_cons (ds_if (dt_cmp (cv_ne hr) (de_callX g_displeased (hr.mono (by decide)) tk (da_cons (de_var 6) (da_cons (de_var 7) da_nil))) (de_lst (da_cons de_int (da_cons de_int da_nil)))) (dss_one (ds_ret de_bl)) dss_nil)
  (dss_cons (ds_if (dt_cmp (cv_ne hr) (de_callX g_displeased (hr.mono (by decide)) tk (da_cons (de_var 6) (da_cons (de_mul (de_lst (da_cons de_bl da_nil)) de_int) da_nil))) (de_lst (da_cons de_int da_nil))) (dss_one (ds_ret de_bl)) dss_nil)
  (dss_cons (ds_if (dt_cmp (cv_ne hr) (de_callX g_displeased (hr.mono (by decide)) tk (da_cons (de_var 4) (da_cons (de_var 7) da_nil))) (de_lst da_nil)) (dss_one (ds_ret de_bl)) dss_nil)
  (dss_cons (ds_if (dt_cmp (cv_ne hr) (de_methX0 m_House_wishes (hr.mono (by decide)) tk (de_var 6)) (de_var 5)) (dss_one (ds_ret de_bl)) dss_nil)
  (dss_one (ds_ret (de_cmp (cv_eq hr) (de_callX g_displeased (hr.mono (by decide)) tk (da_cons (de_makeX c_House (hr.mono (by decide)) tk (da_cons de_int (da_cons (de_mul (de_lst (da_cons (de_tup (da_cons (de_var 0) (da_cons (de_var 2) da_nil))) da_nil)) de_int) da_nil))) (da_cons (de_var 7) da_nil))) (de_lst (da_cons de_int (da_cons de_int (da_cons de_int da_nil)))))))))))))⟩
theorem sc__law_hanging_right : FnScope N__law_hanging_right P__law_hanging_right (defScope s__law_hanging_right) := ⟨rfl, rfl, rfl, by decide +kernel, rfl, by decide +kernel, by decide +kernel⟩
theorem ok__law_hanging_right {f : Addr} {fd : FuncData} (F : Fun K "_law_hanging_right" "_law_hanging_right" s__law_hanging_right f fd) (B : Bt mg)
    (g_hanging : FnD P w K T mg base (L2N.CX P w) "hanging" 8 F_hanging)
    (g__law_displeased_right : FnD P w K T mg base (L2N.CX P w) "_law_displeased_right" 9 F__law_displeased_right)
    (c_House : ClD P w K T mg base (L2N.CX P w) "House" 0 6 M_House) : FnOk P w K mg base (L2N.CX P w) 11 f fd P__law_hanging_right (spD ⟨K, T, P, w⟩ F__law_hanging_right) := by
  refine fn_defX0 (k := 10) (Fb := b__law_hanging_right) F sc__law_hanging_right rfl rfl (fun cdv A outer s H E hr tk => ?_)
  have nd := sc__law_hanging_right.nd
  exact ⟨_, (dss_cons (ds_if (dt_cmp (cv_ne hr) (de_callB bi_len B.b_len (da_cons (de_callX g_hanging (hr.mono (by decide)) tk (da_cons (de_var 5) da_nil)) da_nil)) de_int) (dss_one (ds_ret de_bl)) dss_nil)
  (dss_cons (ds_if (dt_cmp (cv_notInA hr) (de_callB (bi_sortD hr) B.b_sorted (da_cons (de_lst (da_cons (de_var 0) (da_cons (de_var 2) da_nil))) da_nil)) (de_callX g_hanging (hr.mono (by decide)) tk (da_cons (de_var 5) da_nil))) (dss_one (ds_ret de_bl)) dss_nil)
  (dss_cons (ds_if (dt_cmp (cv_notInA hr) (de_callB (bi_sortD hr) B.b_sorted (da_cons (de_lst (da_cons (de_var 1) (da_cons (de_var 3) da_nil))) da_nil)) (de_callX g_hanging (hr.mono (by decide)) tk (da_cons (de_var 5) da_nil))) (dss_one (ds_ret de_bl)) dss_nil)
  (dss_cons (ds_if (dt_cmp (cv_ne hr) (de_callX g_hanging (hr.mono (by decide)) tk (da_cons (de_var 5) da_nil)) (de_callB (bi_sortD hr) B.b_sorted (da_cons (de_callX g_hanging (hr.mono (by decide)) tk (da_cons (de_var 5) da_nil)) da_nil))) (dss_one (ds_ret de_bl)) dss_nil)
  (dss_cons (ds_if (dt_w (dw_or (dt_cmp (cv_ne hr) (de_callB bi_len B.b_len (da_cons (de_callX g_hanging (hr.mono (by decide)) tk (da_cons (de_var 4) da_nil)) da_nil)) de_int) (dw_or (dt_cmp (cv_ne hr) (de_ixA hr (de_callX g_hanging (hr.mono (by decide)) tk (da_cons (de_var 4) da_nil)) de_int) (de_lst (da_cons (de_tup (da_cons de_int (da_cons de_bl da_nil))) da_nil))) (dw_or1 (dt_cmp (cv_ne hr) (de_ixA hr (de_callX g_hanging (hr.mono (by decide)) tk (da_cons (de_var 4) da_nil)) (de_neg de_int)) (de_lst (da_cons (de_tup (da_cons de_int (da_cons de_bl da_nil))) da_nil))))))) (dss_one (ds_ret de_bl)) dss_nil)
  (dss_cons (ds_set false 7 nd (de_if (dt_cmp cv_gt (de_var 6) de_int) (de_lst (da_cons (de_tup (da_cons (de_tup (da_cons de_int (da_cons de_bl da_nil))) (da_cons (de_tup (da_cons de_int (da_cons de_bl da_nil))) da_nil))) da_nil)) (de_lst da_nil)))
  (dss_cons (ds_if (dt_cmp (cv_ne hr) (de_callX g_hanging (hr.mono (by decide)) tk (da_cons (de_makeX c_House (hr.mono (by decide)) tk (da_cons de_int (da_cons (de_var 7) da_nil))) da_nil)) (de_lst (da_cons (de_lst (da_cons (de_tup (da_cons de_int (da_cons de_bl da_nil))) da_nil)) (da_cons (de_lst (da_cons (de_tup (da_cons de_int (da_cons de_bl da_nil))) da_nil)) da_nil)))) (dss_one (ds_ret de_bl)) dss_nil)
  (dss_one (ds_ret (de_callX g__law_displeased_right (hr.mono (by decide)) tk (da_cons (de_var 0) (da_cons (de_var 1) (da_cons (de_var 2) (da_cons (de_var 3) (da_cons (de_var 4) da_nil)))))))))))))))⟩
theorem sc__law_chains_right : FnScope N__law_chains_right P__law_chains_right (defScope s__law_chains_right) := ⟨rfl, rfl, rfl, by decide +kernel, rfl, by decide +kernel, by decide +kernel⟩
theorem ok__law_chains_right {f : Addr} {fd : FuncData} (F : Fun K "_law_chains_right" "_law_chains_right" s__law_chains_right f fd) (B : Bt mg)
    (g_follows : FnD P w K T mg base (L2N.CX P w) "follows" 8 F_follows)
    (g_chain : FnD P w K T mg base (L2N.CX P w) "chain" 8 F_chain)
    (g__law_hanging_right : FnD P w K T mg base (L2N.CX P w) "_law_hanging_right" 11 F__law_hanging_right)
    (c_House : ClD P w K T mg base (L2N.CX P w) "House" 0 6 M_House) : FnOk P w K mg base (L2N.CX P w) 13 f fd P__law_chains_right (spD ⟨K, T, P, w⟩ F__law_chains_right) := by
  refine fn_defX0 (k := 12) (Fb := b__law_chains_right) F sc__law_chains_right rfl rfl (fun cdv A outer s H E hr tk => ?_)
  have nd := sc__law_chains_right.nd
  exact ⟨_, (dss_cons (ds_asg (de_tup (da_cons (de_tup (da_cons (de_var 0) (da_cons de_bl da_nil))) (da_cons (de_tup (da_cons (de_var 0) (da_cons de_bl da_nil))) (da_cons (de_tup (da_cons (de_mod (de_add (de_var 0) de_int) de_int) (da_cons de_bl da_nil))) (da_cons (de_tup (da_cons (de_mod (de_add (de_var 0) de_int) de_int) (da_cons de_bl da_nil))) da_nil))))) (dg_tup rfl (dgs_cons (dg_name 1 nd) (dgs_cons (dg_name 2 nd) (dgs_cons (dg_name 3 nd) (dgs_cons (dg_name 4 nd) dgs_nil))))))
  (dss_cons (ds_par3 5 6 7 rfl nd (da_cons (de_makeX c_House (hr.mono (by decide)) tk (da_cons de_int (da_cons (de_lst da_nil) da_nil))) (da_cons (de_makeX c_House (hr.mono (by decide)) tk (da_cons de_int (da_cons (de_lst (da_cons (de_tup (da_cons (de_var 1) (da_cons (de_var 1) da_nil))) da_nil)) da_nil))) (da_cons (de_makeX c_House (hr.mono (by decide)) tk (da_cons de_int (da_cons (de_lst (da_cons (de_tup (da_cons (de_var 2) (da_cons (de_var 3) da_nil))) (da_cons (de_tup (da_cons (de_var 4) (da_cons (de_var 1) da_nil))) da_nil))) da_nil))) da_nil))))
  (dss_cons (ds_if (dt_cmp (cv_ne hr) (de_callX g_follows (hr.mono (by decide)) tk (da_cons (de_var 5) (da_cons (de_var 1) da_nil))) (de_lst (da_cons (de_var 1) da_nil))) (dss_one (ds_ret de_bl)) dss_nil)
  (dss_cons (ds_if (dt_cmp (cv_ne hr) (de_callX g_chain (hr.mono (by decide)) tk (da_cons (de_var 5) (da_cons (de_var 1) (da_cons (de_var 1) da_nil)))) (de_lst (da_cons (de_var 1) da_nil))) (dss_one (ds_ret de_bl)) dss_nil)
  (dss_cons (ds_if (dt_cmp (cv_ne hr) (de_callX g_chain (hr.mono (by decide)) tk (da_cons (de_var 5) (da_cons (de_var 1) (da_cons (de_var 2) da_nil)))) (de_lst da_nil)) (dss_one (ds_ret de_bl)) dss_nil)
  (dss_cons (ds_if (dt_cmp (cv_ne hr) (de_callX g_follows (hr.mono (by decide)) tk (da_cons (de_var 6) (da_cons (de_var 2) da_nil))) (de_lst (da_cons (de_var 2) (da_cons (de_var 1) da_nil)))) (dss_one (ds_ret de_bl)) dss_nil)
  (dss_cons (ds_if (dt_cmp (cv_ne hr) (de_callX g_follows (hr.mono (by decide)) tk (da_cons (de_var 6) (da_cons (de_var 1) da_nil))) (de_lst (da_cons (de_var 1) da_nil))) (dss_one (ds_ret de_bl)) dss_nil)
  (dss_cons (ds_if (dt_cmp (cv_ne hr) (de_callX g_chain (hr.mono (by decide)) tk (da_cons (de_var 6) (da_cons (de_var 2) (da_cons (de_var 1) da_nil)))) (de_lst (da_cons (de_var 2) (da_cons (de_var 1) da_nil)))) (dss_one (ds_ret de_bl)) dss_nil)
  (dss_cons (ds_if (dt_cmp (cv_ne hr) (de_callX g_chain (hr.mono (by decide)) tk (da_cons (de_var 6) (da_cons (de_var 1) (da_cons (de_var 2) da_nil)))) (de_lst da_nil)) (dss_one (ds_ret de_bl)) dss_nil)
  (dss_cons (ds_if (dt_cmp (cv_ne hr) (de_callX g_follows (hr.mono (by decide)) tk (da_cons (de_var 7) (da_cons (de_var 1) da_nil))) (de_callB (bi_sortD hr) B.b_sorted (da_cons (de_lst (da_cons (de_var 1) (da_cons (de_var 3) da_nil))) da_nil))) (dss_one (ds_ret de_bl)) dss_nil)
  (dss_cons (ds_if (dt_cmp (cv_ne hr) (de_callX g_chain (hr.mono (by decide)) tk (da_cons (de_var 7) (da_cons (de_var 1) (da_cons (de_var 3) da_nil)))) (de_lst (da_cons (de_var 1) (da_cons (de_var 3) da_nil)))) (dss_one (ds_ret de_bl)) dss_nil)
  (dss_cons (ds_if (dt_cmp (cv_ne hr) (de_callX g_chain (hr.mono (by decide)) tk (da_cons (de_var 7) (da_cons (de_var 3) (da_cons (de_var 1) da_nil)))) (de_lst (da_cons (de_var 3) (da_cons (de_var 1) da_nil)))) (dss_one (ds_ret de_bl)) dss_nil)
  (dss_cons (ds_if (dt_cmp (cv_ne hr) (de_callX g_chain (hr.mono (by decide)) tk (da_cons (de_var 7) (da_cons (de_var 2) (da_cons (de_var 4) da_nil)))) (de_lst (da_cons (de_var 2) (da_cons (de_var 4) da_nil)))) (dss_one (ds_ret de_bl)) dss_nil)
  (dss_one (ds_ret (de_callX g__law_hanging_right (hr.mono (by decide)) tk (da_cons (de_var 1) (da_cons (de_var 2) (da_cons (de_var 3) (da_cons (de_var 4) (da_cons (de_var 5) (da_cons (de_var 7) (da_cons (de_var 0) da_nil)))))))))))))))))))))))⟩
theorem sc_Torn_init : FnScope N_Torn_init P_Torn_init (defScope s_Torn_init) := ⟨rfl, rfl, rfl, by decide +kernel, rfl, by decide +kernel, by decide +kernel⟩
theorem ok_Torn_init {f : Addr} {fd : FuncData} (F : Fun K "__init__" "Torn.__init__" s_Torn_init f fd) (B : Bt mg) (hf2 : FldOk K T 2) : FnOk P w K mg base (L2N.CX P w) 2 f fd P_Torn_init (spI ⟨K, T, P, w⟩ 2 M_Torn) := by
  refine fn_initX (k := 1) (Fb := b_Torn_init) F sc_Torn_init rfl rfl (fun cdv A outer s H E hr tk => ?_) mk_Torn_eq
  have nd := sc_Torn_init.nd
  exact ⟨_, (dss_cons (ds_fld true 0 2 0 hf2 (de_callTy bi_list B.b_list (da_cons (de_var 1) da_nil)))
  (dss_one (ds_fld true 0 2 1 hf2 (de_callTy bi_list B.b_list (da_cons (de_var 2) da_nil)))))⟩
theorem sc_torn_in : FnScope N_torn_in P_torn_in (defScope s_torn_in) := ⟨rfl, rfl, rfl, by decide +kernel, rfl, by decide +kernel, by decide +kernel⟩
theorem ok_torn_in {f : Addr} {fd : FuncData} (F : Fun K "torn_in" "torn_in" s_torn_in f fd) (B : Bt mg) (hf0 : FldOk K T 0)
    (g_chain : FnD P w K T mg base (L2N.CX P w) "chain" 8 F_chain)
    (c_Torn : ClD P w K T mg base (L2N.CX P w) "Torn" 2 2 M_Torn) : FnOk P w K mg base (L2N.CX P w) 10 f fd P_torn_in (spD ⟨K, T, P, w⟩ F_torn_in) := by
  refine fn_defX0 (k := 9) (Fb := b_torn_in) F sc_torn_in rfl rfl (fun cdv A outer s H E hr tk => ?_)
  have nd := sc_torn_in.nd
  exact ⟨_, (dss_cons (ds_for (passes_of rfl) rfl (di_range1 B.b_range (da_cons (de_fld 0 0 hf0 (de_var 0)) da_nil)) (dg_name 1 nd) (dss_cons (ds_set false 2 nd (de_callX g_chain (hr.mono (by decide)) tk (da_cons (de_var 0) (da_cons (de_tup (da_cons (de_var 1) (da_cons de_bl da_nil))) (da_cons (de_tup (da_cons (de_var 1) (da_cons de_bl da_nil))) da_nil)))))
  (dss_cons (ds_set false 3 nd (de_callX g_chain (hr.mono (by decide)) tk (da_cons (de_var 0) (da_cons (de_tup (da_cons (de_var 1) (da_cons de_bl da_nil))) (da_cons (de_tup (da_cons (de_var 1) (da_cons de_bl da_nil))) da_nil)))))
  (dss_one (ds_if (dt_w (dw_and (dt_cmp (cv_ne hr) (de_var 2) (de_lst da_nil)) (dw_and1 (dt_cmp (cv_ne hr) (de_var 3) (de_lst da_nil))))) (dss_one (ds_ret (de_makeX0 c_Torn (hr.mono (by decide)) tk (da_cons (de_var 2) (da_cons (de_var 3) da_nil))))) dss_nil)))))
  (dss_one (ds_ret de_non)))⟩
theorem sc_check_pleased : FnScope N_check_pleased P_check_pleased (defScope s_check_pleased) := ⟨rfl, rfl, rfl, by decide +kernel, rfl, by decide +kernel, by decide +kernel⟩
theorem ok_check_pleased {f : Addr} {fd : FuncData} (F : Fun K "check_pleased" "check_pleased" s_check_pleased f fd) (B : Bt mg)
    (x_Unpleased : ExI P w mg K T base "Unpleased" 4 "torn")
    (g_torn_in : FnD P w K T mg base (L2N.CX P w) "torn_in" 10 F_torn_in) : FnOk P w K mg base (L2N.CX P w) 12 f fd P_check_pleased (spD ⟨K, T, P, w⟩ F_check_pleased) := by
  refine fn_defX (k := 11) (Fb := b_check_pleased) F sc_check_pleased rfl rfl (fun cdv A outer s H E hr tk => ?_)
  have nd := sc_check_pleased.nd
  exact ⟨_, (dss_cons (ds_set true 1 nd (de_callX g_torn_in (hr.mono (by decide)) tk (da_cons (de_var 0) da_nil)))
  (dss_one (ds_if (dt_cmp cv_notO (de_var 1) de_non) (dss_one (ds_raiseVI rfl tk x_Unpleased (hr.mono (by decide)))) dss_nil)))⟩
theorem sc_with_words : FnScope N_with_words P_with_words (defScope s_with_words) := ⟨rfl, rfl, rfl, by decide +kernel, rfl, by decide +kernel, by decide +kernel⟩
theorem ok_with_words {f : Addr} {fd : FuncData} (F : Fun K "with_words" "with_words" s_with_words f fd) (B : Bt mg) (hf0 : FldOk K T 0)
    (g_walked : FnD P w K T mg base (L2N.CX P w) "walked" 6 F_walked)
    (g_opposite : FnD P w K T mg base (L2N.CX P w) "opposite" 2 F_opposite) : FnOk P w K mg base (L2N.CX P w) 8 f fd P_with_words (spD ⟨K, T, P, w⟩ F_with_words) := by
  refine fn_defX0 (k := 7) (Fb := b_with_words) F sc_with_words rfl rfl (fun cdv A outer s H E hr tk => ?_)
  have nd := sc_with_words.nd
  exact ⟨_, (dss_cons (ds_set true 2 nd de_dnewI)
  (dss_cons (ds_for (passes_of rfl) rfl (di_list (de_var 1)) (dg_name 3 nd) (dss_one (ds_for (passes_of rfl) rfl (di_W (de_callX g_walked (hr.mono (by decide)) tk (da_cons (de_var 0) (da_cons (de_var 3) da_nil)))) (dg_name 4 nd) (dss_one (ds_setI hr 2 (de_ixB hr (de_var 4) de_int) (de_ixB hr (de_var 4) de_int))))))
  (dss_cons (ds_for (passes_of rfl) rfl (di_range1 B.b_range (da_cons (de_fld 0 0 hf0 (de_var 0)) da_nil)) (dg_name 5 nd) (dss_one (ds_if (dt_cmp (cv_notInB hr) (de_var 5) (de_var 2)) (dss_cons (ds_set false 3 nd (de_tup (da_cons (de_var 5) (da_cons de_bl da_nil))))
  (dss_cons (ds_if (dt_cmp (cv_inB hr) (de_callX g_opposite (hr.mono (by decide)) tk (da_cons (de_var 3) da_nil)) (de_callX g_walked (hr.mono (by decide)) tk (da_cons (de_var 0) (da_cons (de_var 3) da_nil)))) (dss_one (ds_set false 3 nd (de_tup (da_cons (de_var 5) (da_cons de_bl da_nil))))) dss_nil)
  (dss_one (ds_for (passes_of rfl) rfl (di_W (de_callX g_walked (hr.mono (by decide)) tk (da_cons (de_var 0) (da_cons (de_var 3) da_nil)))) (dg_name 4 nd) (dss_one (ds_setI hr 2 (de_ixB hr (de_var 4) de_int) (de_ixB hr (de_var 4) de_int))))))) dss_nil)))
  (dss_one (ds_ret (de_lc [("name", 5)] [5] rfl nd (di_range1 B.b_range (da_cons (de_fld 0 0 hf0 (de_var 0)) da_nil)) (blkOk_by (N := N_with_words) (sc := defScope s_with_words) (by decide +kernel)) (fun _ _ _ _ _ => ⟨_, (dg_name 5 nd)⟩) (fun _ _ _ _ _ => ⟨_, dts_nil⟩) (fun _ _ _ _ _ => ⟨_, (de_ixB hr (de_var 2) (de_var 5))⟩)))))))⟩
theorem sc_Clash_init : FnScope N_Clash_init P_Clash_init (defScope s_Clash_init) := ⟨rfl, rfl, rfl, by decide +kernel, rfl, by decide +kernel, by decide +kernel⟩
theorem ok_Clash_init {f : Addr} {fd : FuncData} (F : Fun K "__init__" "Clash.__init__" s_Clash_init f fd) (B : Bt mg) (hf3 : FldOk K T 3) : FnOk P w K mg base (L2N.CX P w) 2 f fd P_Clash_init (spI ⟨K, T, P, w⟩ 3 M_Clash) := by
  refine fn_initX (k := 1) (Fb := b_Clash_init) F sc_Clash_init rfl rfl (fun cdv A outer s H E hr tk => ?_) mk_Clash_eq
  have nd := sc_Clash_init.nd
  exact ⟨_, (dss_cons (ds_fld true 0 3 0 hf3 (de_callTy bi_list B.b_list (da_cons (de_var 1) da_nil)))
  (dss_one (ds_fld true 0 3 1 hf3 (de_callTy bi_list B.b_list (da_cons (de_var 2) da_nil)))))⟩
theorem sc_Pleased_init : FnScope N_Pleased_init P_Pleased_init (defScope s_Pleased_init) := ⟨rfl, rfl, rfl, by decide +kernel, rfl, by decide +kernel, by decide +kernel⟩
theorem ok_Pleased_init {f : Addr} {fd : FuncData} (F : Fun K "__init__" "Pleased.__init__" s_Pleased_init f fd) (B : Bt mg) (hf1 : FldOk K T 1) : FnOk P w K mg base (L2N.CX P w) 2 f fd P_Pleased_init (spI ⟨K, T, P, w⟩ 1 M_Pleased) := by
  refine fn_initX (k := 1) (Fb := b_Pleased_init) F sc_Pleased_init rfl rfl (fun cdv A outer s H E hr tk => ?_) mk_Pleased_eq
  have nd := sc_Pleased_init.nd
  exact ⟨_, (dss_one (ds_fld true 0 1 0 hf1 (de_callTy bi_list B.b_list (da_cons (de_var 1) da_nil))))⟩
theorem sc_keeping : FnScope N_keeping P_keeping (defScope s_keeping) := ⟨rfl, rfl, rfl, by decide +kernel, rfl, by decide +kernel, by decide +kernel⟩
theorem ok_keeping {f : Addr} {fd : FuncData} (F : Fun K "keeping" "keeping" s_keeping f fd) (B : Bt mg)
    (g_check_pleased : FnD P w K T mg base (L2N.CX P w) "check_pleased" 12 F_check_pleased)
    (g_opposite : FnD P w K T mg base (L2N.CX P w) "opposite" 2 F_opposite)
    (g_chain : FnD P w K T mg base (L2N.CX P w) "chain" 8 F_chain)
    (g_with_words : FnD P w K T mg base (L2N.CX P w) "with_words" 8 F_with_words)
    (c_Clash : ClD P w K T mg base (L2N.CX P w) "Clash" 3 2 M_Clash)
    (c_Pleased : ClD P w K T mg base (L2N.CX P w) "Pleased" 1 2 M_Pleased)
    (m_House_word : MtD P w K T mg base (L2N.CX P w) 0 "word" 6 F_House_word) : FnOk P w K mg base (L2N.CX P w) 14 f fd P_keeping (spD ⟨K, T, P, w⟩ F_keeping) := by
  refine fn_defX (k := 13) (Fb := b_keeping) F sc_keeping rfl rfl (fun cdv A outer s H E hr tk => ?_)
  have nd := sc_keeping.nd
  exact ⟨_, (dss_cons (ds_if (dt_not (dt_val (de_isi (tn := "list") B.b_isinstance B.b_list (de_var 1)))) (dss_one ds_never) dss_nil)
  (dss_cons (ds_for (passes_of rfl) rfl (di_list (de_var 1)) (dg_name 2 nd) (dss_one (ds_drop (de_methX m_House_word (hr.mono (by decide)) tk (de_var 0) (da_cons (de_var 2) da_nil)))))
  (dss_cons (ds_drop (de_callX g_check_pleased (hr.mono (by decide)) tk (da_cons (de_var 0) da_nil)))
  (dss_cons (ds_for (passes_of rfl) rfl (di_list (de_var 1)) (dg_name 3 nd) (dss_one (ds_for (passes_of rfl) rfl (di_list (de_var 1)) (dg_name 4 nd) (dss_cons (ds_set false 5 nd (de_callX g_chain (hr.mono (by decide)) tk (da_cons (de_var 0) (da_cons (de_var 3) (da_cons (de_callX g_opposite (hr.mono (by decide)) tk (da_cons (de_var 4) da_nil)) da_nil)))))
  (dss_one (ds_if (dt_cmp (cv_ne hr) (de_var 5) (de_lst da_nil)) (dss_one (ds_ret (de_makeX0 c_Clash (hr.mono (by decide)) tk (da_cons (de_var 1) (da_cons (de_var 5) da_nil))))) dss_nil))))))
  (dss_one (ds_ret (de_makeX0 c_Pleased (hr.mono (by decide)) tk (da_cons (de_callX g_with_words (hr.mono (by decide)) tk (da_cons (de_var 0) (da_cons (de_var 1) da_nil))) da_nil))))))))⟩
theorem sc_settled : FnScope N_settled P_settled (defScope s_settled) := ⟨rfl, rfl, rfl, by decide +kernel, rfl, by decide +kernel, by decide +kernel⟩
theorem ok_settled {f : Addr} {fd : FuncData} (F : Fun K "settled" "settled" s_settled f fd) (B : Bt mg) (hf0 : FldOk K T 0)
    (g_check_pleased : FnD P w K T mg base (L2N.CX P w) "check_pleased" 12 F_check_pleased)
    (g_chain : FnD P w K T mg base (L2N.CX P w) "chain" 8 F_chain) : FnOk P w K mg base (L2N.CX P w) 14 f fd P_settled (spD ⟨K, T, P, w⟩ F_settled) := by
  refine fn_defX (k := 13) (Fb := b_settled) F sc_settled rfl rfl (fun cdv A outer s H E hr tk => ?_)
  have nd := sc_settled.nd
  exact ⟨_, (dss_cons (ds_drop (de_callX g_check_pleased (hr.mono (by decide)) tk (da_cons (de_var 0) da_nil)))
  (dss_cons (ds_set true 1 nd (de_lst da_nil))
  (dss_cons (ds_for (passes_of rfl) rfl (di_range1 B.b_range (da_cons (de_fld 0 0 hf0 (de_var 0)) da_nil)) (dg_name 2 nd) (dss_cons (ds_set false 3 nd (de_callX g_chain (hr.mono (by decide)) tk (da_cons (de_var 0) (da_cons (de_tup (da_cons (de_var 2) (da_cons de_bl da_nil))) (da_cons (de_tup (da_cons (de_var 2) (da_cons de_bl da_nil))) da_nil)))))
  (dss_one (ds_app false 1 (de_orL (de_var 3) (de_one (de_callX g_chain (hr.mono (by decide)) tk (da_cons (de_var 0) (da_cons (de_tup (da_cons (de_var 2) (da_cons de_bl da_nil))) (da_cons (de_tup (da_cons (de_var 2) (da_cons de_bl da_nil))) da_nil))))))))))
  (dss_one (ds_retV 1)))))⟩
theorem sc_is_chain : FnScope N_is_chain P_is_chain (defScope s_is_chain) := ⟨rfl, rfl, rfl, by decide +kernel, rfl, by decide +kernel, by decide +kernel⟩
theorem okH_is_chain {f : Addr} {fd : FuncData} (F : Fun K "is_chain" "is_chain" s_is_chain f fd) (B : Bt mg)
    (h_steps : FnP P w K T mg base "steps" 4 F_steps)
    (g_steps : FnD P w K T mg base (L2N.CX P w) "steps" 4 F_steps) : ∀ p c d, PinX T p c d → FnAt P w K mg base 6 f fd P_is_chain p (spD ⟨K, T.at p.1 c d, P, w⟩ F_is_chain) := by
  refine fn_at (k := 5) (Fb := b_is_chain) F sc_is_chain rfl rfl (fun cdv A outer s H E p c d px hot hr => ?_)
  have nd := sc_is_chain.nd
  exact ⟨_, (dss_cons (ds_if (dt_cmp (cv_eqH hr) (de_var 1) (de_lst da_nil)) (dss_one (ds_ret de_bl)) dss_nil)
  (dss_one (ds_ret (de_callB (bi_allH hot List.mem_cons_self) B.b_all (da_cons (de_lcH (p := p) [("k", 2)] [2] hot List.mem_cons_self nd (diH_range2 B.b_range (da_cons de_int (da_cons (de_callB bi_len B.b_len (da_cons (de_var 1) da_nil)) da_nil))) (blkOk_by (N := N_is_chain) (sc := defScope s_is_chain) (by decide +kernel)) (fun _ _ _ _ _ => ⟨_, (dg_name 2 nd)⟩) (fun _ _ _ _ _ => ⟨_, dts_nil⟩) (fun _ _ _ _ _ => ⟨_, (de_cmp (cv_inAH hr) (de_ixAH hr (de_var 1) (de_var 2)) (de_callP h_steps px hot List.mem_cons_self (hr.mono (by decide)) (da_cons (de_var 0) (da_cons (de_ixAH hr (de_var 1) (de_sub (de_var 2) de_int)) da_nil))))⟩)) da_nil)))))⟩
theorem ok_is_chain {f : Addr} {fd : FuncData} (F : Fun K "is_chain" "is_chain" s_is_chain f fd) (B : Bt mg)
    (h_steps : FnP P w K T mg base "steps" 4 F_steps)
    (g_steps : FnD P w K T mg base (L2N.CX P w) "steps" 4 F_steps) : FnOk P w K mg base (L2N.CX P w) 6 f fd P_is_chain (spD ⟨K, T, P, w⟩ F_is_chain) := by
  refine fn_defX0 (k := 5) (Fb := b_is_chain) F sc_is_chain rfl rfl (fun cdv A outer s H E hr tk => ?_)
  have nd := sc_is_chain.nd
  exact ⟨_, (dss_cons (ds_if (dt_cmp (cv_eq hr) (de_var 1) (de_lst da_nil)) (dss_one (ds_ret de_bl)) dss_nil)
  (dss_one (ds_ret (de_callB (bi_all rfl) B.b_all (da_cons (de_lc [("k", 2)] [2] rfl nd (di_range2 B.b_range (da_cons de_int (da_cons (de_callB bi_len B.b_len (da_cons (de_var 1) da_nil)) da_nil))) (blkOk_by (N := N_is_chain) (sc := defScope s_is_chain) (by decide +kernel)) (fun _ _ _ _ _ => ⟨_, (dg_name 2 nd)⟩) (fun _ _ _ _ _ => ⟨_, dts_nil⟩) (fun _ _ _ _ _ => ⟨_, (de_cmp (cv_inA hr) (de_ixA hr (de_var 1) (de_var 2)) (de_callX g_steps (hr.mono (by decide)) takes0 (da_cons (de_var 0) (da_cons (de_ixA hr (de_var 1) (de_sub (de_var 2) de_int)) da_nil))))⟩)) da_nil)))))⟩
theorem sc_Clash_holds : FnScope N_Clash_holds P_Clash_holds (defScope s_Clash_holds) := ⟨rfl, rfl, rfl, by decide +kernel, rfl, by decide +kernel, by decide +kernel⟩
theorem ok_Clash_holds {f : Addr} {fd : FuncData} (F : Fun K "holds" "Clash.holds" s_Clash_holds f fd) (B : Bt mg) (hf3 : FldOk K T 3)
    (g_is_chain : FnD P w K T mg base (L2N.CX P w) "is_chain" 6 F_is_chain)
    (g_opposite : FnD P w K T mg base (L2N.CX P w) "opposite" 2 F_opposite) : FnOk P w K mg base (L2N.CX P w) 8 f fd P_Clash_holds (spD ⟨K, T, P, w⟩ F_Clash_holds) := by
  refine fn_defX0 (k := 7) (Fb := b_Clash_holds) F sc_Clash_holds rfl rfl (fun cdv A outer s H E hr tk => ?_)
  have nd := sc_Clash_holds.nd
  exact ⟨_, (dss_cons (ds_if (dt_not (dt_val (de_callX g_is_chain (hr.mono (by decide)) tk (da_cons (de_var 1) (da_cons (de_fld 3 1 hf3 (de_var 0)) da_nil))))) (dss_one (ds_ret de_bl)) dss_nil)
  (dss_one (ds_ret (de_and (de_cmp (cv_inA hr) (de_ixA hr (de_fld 3 1 hf3 (de_var 0)) de_int) (de_fld 3 0 hf3 (de_var 0))) (de_one (de_cmp (cv_inA hr) (de_callX g_opposite (hr.mono (by decide)) tk (da_cons (de_ixA hr (de_fld 3 1 hf3 (de_var 0)) (de_neg de_int)) da_nil)) (de_fld 3 0 hf3 (de_var 0))))))))⟩
theorem sc_Torn_holds : FnScope N_Torn_holds P_Torn_holds (defScope s_Torn_holds) := ⟨rfl, rfl, rfl, by decide +kernel, rfl, by decide +kernel, by decide +kernel⟩
theorem okH_Torn_holds {f : Addr} {fd : FuncData} (F : Fun K "holds" "Torn.holds" s_Torn_holds f fd) (B : Bt mg) (hf2 : FldOk K T 2)
    (h_is_chain : FnP P w K T mg base "is_chain" 6 F_is_chain)
    (h_opposite : FnP P w K T mg base "opposite" 2 F_opposite)
    (g_is_chain : FnD P w K T mg base (L2N.CX P w) "is_chain" 6 F_is_chain)
    (g_opposite : FnD P w K T mg base (L2N.CX P w) "opposite" 2 F_opposite) : ∀ p c d, PinX T p c d → FnAt P w K mg base 8 f fd P_Torn_holds p (spD ⟨K, T.at p.1 c d, P, w⟩ F_Torn_holds) := by
  refine fn_at (k := 7) (Fb := b_Torn_holds) F sc_Torn_holds rfl rfl (fun cdv A outer s H E p c d px hot hr => ?_)
  have nd := sc_Torn_holds.nd
  exact ⟨_, (dss_cons (ds_if (dt_w (dw_or (dt_not (dt_val (de_callP h_is_chain px hot List.mem_cons_self (hr.mono (by decide)) (da_cons (de_var 1) (da_cons (de_fld 2 0 hf2.pin (de_var 0)) da_nil))))) (dw_or1 (dt_not (dt_val (de_callP h_is_chain px hot List.mem_cons_self (hr.mono (by decide)) (da_cons (de_var 1) (da_cons (de_fld 2 1 hf2.pin (de_var 0)) da_nil)))))))) (dss_one (ds_ret de_bl)) dss_nil)
  (dss_cons (ds_if (dt_cmp (cv_neH hr) (de_ixAH hr (de_fld 2 0 hf2.pin (de_var 0)) (de_neg de_int)) (de_callP h_opposite px hot List.mem_cons_self (hr.mono (by decide)) (da_cons (de_ixAH hr (de_fld 2 0 hf2.pin (de_var 0)) de_int) da_nil))) (dss_one (ds_ret de_bl)) dss_nil)
  (dss_one (ds_ret (de_and (de_cmp (cv_eqH hr) (de_ixAH hr (de_fld 2 1 hf2.pin (de_var 0)) de_int) (de_ixAH hr (de_fld 2 0 hf2.pin (de_var 0)) (de_neg de_int))) (de_one (de_cmp (cv_eqH hr) (de_ixAH hr (de_fld 2 1 hf2.pin (de_var 0)) (de_neg de_int)) (de_ixAH hr (de_fld 2 0 hf2.pin (de_var 0)) de_int))))))))⟩
theorem ok_Torn_holds {f : Addr} {fd : FuncData} (F : Fun K "holds" "Torn.holds" s_Torn_holds f fd) (B : Bt mg) (hf2 : FldOk K T 2)
    (h_is_chain : FnP P w K T mg base "is_chain" 6 F_is_chain)
    (h_opposite : FnP P w K T mg base "opposite" 2 F_opposite)
    (g_is_chain : FnD P w K T mg base (L2N.CX P w) "is_chain" 6 F_is_chain)
    (g_opposite : FnD P w K T mg base (L2N.CX P w) "opposite" 2 F_opposite) : FnOk P w K mg base (L2N.CX P w) 8 f fd P_Torn_holds (spD ⟨K, T, P, w⟩ F_Torn_holds) := by
  refine fn_defX0 (k := 7) (Fb := b_Torn_holds) F sc_Torn_holds rfl rfl (fun cdv A outer s H E hr tk => ?_)
  have nd := sc_Torn_holds.nd
  exact ⟨_, (dss_cons (ds_if (dt_w (dw_or (dt_not (dt_val (de_callX g_is_chain (hr.mono (by decide)) tk (da_cons (de_var 1) (da_cons (de_fld 2 0 hf2 (de_var 0)) da_nil))))) (dw_or1 (dt_not (dt_val (de_callX g_is_chain (hr.mono (by decide)) tk (da_cons (de_var 1) (da_cons (de_fld 2 1 hf2 (de_var 0)) da_nil)))))))) (dss_one (ds_ret de_bl)) dss_nil)
  (dss_cons (ds_if (dt_cmp (cv_ne hr) (de_ixA hr (de_fld 2 0 hf2 (de_var 0)) (de_neg de_int)) (de_callX g_opposite (hr.mono (by decide)) tk (da_cons (de_ixA hr (de_fld 2 0 hf2 (de_var 0)) de_int) da_nil))) (dss_one (ds_ret de_bl)) dss_nil)
  (dss_one (ds_ret (de_and (de_cmp (cv_eq hr) (de_ixA hr (de_fld 2 1 hf2 (de_var 0)) de_int) (de_ixA hr (de_fld 2 0 hf2 (de_var 0)) (de_neg de_int))) (de_one (de_cmp (cv_eq hr) (de_ixA hr (de_fld 2 1 hf2 (de_var 0)) (de_neg de_int)) (de_ixA hr (de_fld 2 0 hf2 (de_var 0)) de_int))))))))⟩
theorem sc_Pleased_holds : FnScope N_Pleased_holds P_Pleased_holds (defScope s_Pleased_holds) := ⟨rfl, rfl, rfl, by decide +kernel, rfl, by decide +kernel, by decide +kernel⟩
theorem ok_Pleased_holds {f : Addr} {fd : FuncData} (F : Fun K "holds" "Pleased.holds" s_Pleased_holds f fd) (B : Bt mg) (hf0 : FldOk K T 0) (hf1 : FldOk K T 1)
    (g_pleases : FnD P w K T mg base (L2N.CX P w) "pleases" 2 F_pleases) : FnOk P w K mg base (L2N.CX P w) 4 f fd P_Pleased_holds (spD ⟨K, T, P, w⟩ F_Pleased_holds) := by
  refine fn_defX0 (k := 3) (Fb := b_Pleased_holds) F sc_Pleased_holds rfl rfl (fun cdv A outer s H E hr tk => ?_)
  have nd := sc_Pleased_holds.nd
  exact ⟨_, (dss_cons (ds_if (dt_cmp (cv_ne hr) (de_callB bi_len B.b_len (da_cons (de_fld 1 0 hf1 (de_var 0)) da_nil)) (de_fld 0 0 hf0 (de_var 1))) (dss_one (ds_ret de_bl)) dss_nil)
  (dss_one (ds_ret (de_callB (bi_all rfl) B.b_all (da_cons (de_lc [("wish", 2)] [2] rfl nd (di_list (de_fld 0 1 hf0 (de_var 1))) (blkOk_by (N := N_Pleased_holds) (sc := defScope s_Pleased_holds) (by decide +kernel)) (fun _ _ _ _ _ => ⟨_, (dg_name 2 nd)⟩) (fun _ _ _ _ _ => ⟨_, dts_nil⟩) (fun _ _ _ _ _ => ⟨_, (de_callX g_pleases (hr.mono (by decide)) takes0 (da_cons (de_fld 1 0 hf1 (de_var 0)) (da_cons (de_var 2) da_nil)))⟩)) da_nil)))))⟩
theorem sc__law_choices_right : FnScope N__law_choices_right P__law_choices_right (defScope s__law_choices_right) := ⟨rfl, rfl, rfl, by decide +kernel, rfl, by decide +kernel, by decide +kernel⟩
theorem ok__law_choices_right {f : Addr} {fd : FuncData} (F : Fun K "_law_choices_right" "_law_choices_right" s__law_choices_right f fd) (B : Bt mg) (hf1 : FldOk K T 1)
    (g_keeping : FnD P w K T mg base (L2N.CX P w) "keeping" 14 F_keeping)
    (g_settled : FnD P w K T mg base (L2N.CX P w) "settled" 14 F_settled)
    (c_House : ClD P w K T mg base (L2N.CX P w) "House" 0 6 M_House)
    (c_Clash : ClD P w K T mg base (L2N.CX P w) "Clash" 3 2 M_Clash)
    (o_Pleased : IsD mg K T "Pleased" L_Pleased)
    (m_Clash_holds : MtD P w K T mg base (L2N.CX P w) 3 "holds" 8 F_Clash_holds)
    (m_Torn_holds : MtD P w K T mg base (L2N.CX P w) 2 "holds" 8 F_Torn_holds)
    (m_Pleased_holds : MtD P w K T mg base (L2N.CX P w) 1 "holds" 4 F_Pleased_holds) : FnOk P w K mg base (L2N.CX P w) 16 f fd P__law_choices_right (spD ⟨K, T, P, w⟩ F__law_choices_right) := by
  refine fn_defX0 (k := 15) (Fb := b__law_choices_right) F sc__law_choices_right rfl rfl (fun cdv A outer s H E hr tk => ?_)
  have nd := sc__law_choices_right.nd
  exact ⟨_, (dss_cons (ds_par3 5 6 7 rfl nd (da_cons (de_makeX c_House (hr.mono (by decide)) tk (da_cons de_int (da_cons (de_lst da_nil) da_nil))) (da_cons (de_makeX c_House (hr.mono (by decide)) tk (da_cons de_int (da_cons (de_lst (da_cons (de_tup (da_cons (de_var 1) (da_cons (de_var 2) da_nil))) da_nil)) da_nil))) (da_cons (de_makeX c_House (hr.mono (by decide)) tk (da_cons de_int (da_cons (de_lst (da_cons (de_tup (da_cons (de_var 0) (da_cons (de_var 0) da_nil))) da_nil)) da_nil))) da_nil))))
  (dss_cons (ds_set false 8 nd (de_lst (da_cons (de_tup (da_cons (de_var 5) (da_cons (de_lst da_nil) da_nil))) (da_cons (de_tup (da_cons (de_var 5) (da_cons (de_lst (da_cons (de_var 0) (da_cons (de_var 2) (da_cons (de_var 0) da_nil)))) da_nil))) (da_cons (de_tup (da_cons (de_var 6) (da_cons (de_lst (da_cons (de_var 0) (da_cons (de_var 2) da_nil))) da_nil))) (da_cons (de_tup (da_cons (de_var 6) (da_cons (de_lst (da_cons (de_var 1) (da_cons (de_var 3) da_nil))) da_nil))) da_nil))))))
  (dss_cons (ds_set false 8 nd (de_add (de_var 8) (de_lst (da_cons (de_tup (da_cons (de_var 7) (da_cons (de_lst (da_cons (de_var 0) da_nil)) da_nil))) (da_cons (de_tup (da_cons (de_var 7) (da_cons (de_lst da_nil) da_nil))) da_nil)))))
  (dss_cons (ds_for (passes_of rfl) rfl (di_list (de_var 8)) (dg_tup rfl (dgs_cons (dg_name 9 nd) (dgs_cons (dg_name 10 nd) dgs_nil))) (dss_cons (ds_set false 11 nd (de_callX g_keeping (hr.mono (by decide)) tk (da_cons (de_var 9) (da_cons (de_var 10) da_nil))))
  (dss_cons (ds_if (dt_not (dt_val (de_isO B.b_isinstance o_Pleased (de_var 11)))) (dss_one (ds_ret de_bl)) dss_nil)
  (dss_cons (ds_if (dt_cmp cv_notB (de_orr (de_methX m_Pleased_holds (hr.mono (by decide)) tk (de_var 11) (da_cons (de_var 9) da_nil)) (de_orr (de_methX m_Torn_holds (hr.mono (by decide)) tk (de_var 11) (da_cons (de_var 9) da_nil)) (de_methX m_Clash_holds (hr.mono (by decide)) tk (de_var 11) (da_cons (de_var 9) da_nil)))) de_bl) (dss_one (ds_ret de_bl)) dss_nil)
  (dss_one (ds_if (dt_not (dt_val (de_callB (bi_all rfl) B.b_all (da_cons (de_lc [("_law_word", 12)] [12] rfl nd (di_list (de_var 10)) (blkOk_by (N := N__law_choices_right) (sc := defScope s__law_choices_right) (by decide +kernel)) (fun _ _ _ _ _ => ⟨_, (dg_name 12 nd)⟩) (fun _ _ _ _ _ => ⟨_, dts_nil⟩) (fun _ _ _ _ _ => ⟨_, (de_cmp (cv_eq hr) (de_ixA hr (de_fld 1 0 hf1 (de_var 11)) (de_ixA hr (de_var 12) de_int)) (de_ixA hr (de_var 12) de_int))⟩)) da_nil)))) (dss_one (ds_ret de_bl)) dss_nil))))))
  (dss_cons (ds_if (dt_val (de_methX m_Clash_holds (hr.mono (by decide)) tk (de_makeX0 c_Clash (hr.mono (by decide)) tk (da_cons (de_lst (da_cons (de_var 0) da_nil)) (da_cons (de_lst (da_cons (de_var 0) da_nil)) da_nil))) (da_cons (de_var 5) da_nil))) (dss_one (ds_ret de_bl)) dss_nil)
  (dss_cons (ds_if (dt_val (de_methX m_Clash_holds (hr.mono (by decide)) tk (de_makeX0 c_Clash (hr.mono (by decide)) tk (da_cons (de_lst (da_cons (de_var 0) (da_cons (de_var 2) da_nil))) (da_cons (de_lst (da_cons (de_var 0) (da_cons (de_var 2) da_nil))) da_nil))) (da_cons (de_var 6) da_nil))) (dss_one (ds_ret de_bl)) dss_nil)
  (dss_cons (ds_if (dt_val (de_methX m_Clash_holds (hr.mono (by decide)) tk (de_makeX0 c_Clash (hr.mono (by decide)) tk (da_cons (de_lst (da_cons (de_var 1) da_nil)) (da_cons (de_lst (da_cons (de_var 1) (da_cons (de_var 0) da_nil))) da_nil))) (da_cons (de_var 5) da_nil))) (dss_one (ds_ret de_bl)) dss_nil)
  (dss_cons (ds_if (dt_val (de_methX m_Clash_holds (hr.mono (by decide)) tk (de_makeX0 c_Clash (hr.mono (by decide)) tk (da_cons (de_lst (da_cons (de_var 0) (da_cons (de_var 3) da_nil))) (da_cons (de_lst (da_cons (de_var 0) (da_cons (de_var 3) da_nil))) da_nil))) (da_cons (de_var 6) da_nil))) (dss_one (ds_ret de_bl)) dss_nil)
  (dss_cons (ds_set false 13 nd (de_callX g_settled (hr.mono (by decide)) tk (da_cons (de_var 7) da_nil)))
  (dss_cons (ds_if (dt_cmp (cv_ne hr) (de_ixA hr (de_var 13) (de_var 4)) (de_lst (da_cons (de_var 1) (da_cons (de_var 0) da_nil)))) (dss_one (ds_ret de_bl)) dss_nil)
  (dss_cons (ds_if (dt_cmp (cv_ne hr) (de_lc [("_law_at", 14), ("_law_row", 15)] [14, 15] rfl nd (di_enum B.b_enumerate (da_cons (de_var 13) da_nil)) (blkOk_by (N := N__law_choices_right) (sc := defScope s__law_choices_right) (by decide +kernel)) (fun _ _ _ _ _ => ⟨_, (dg_tup rfl (dgs_cons (dg_name 14 nd) (dgs_cons (dg_name 15 nd) dgs_nil)))⟩) (fun _ _ _ _ _ => ⟨_, (dts_one (dt_cmp (cv_ne hr) (de_var 14) (de_var 4)))⟩) (fun _ _ _ _ _ => ⟨_, (de_var 15)⟩)) (de_mul (de_lst (da_cons (de_lst da_nil) da_nil)) de_int)) (dss_one (ds_ret de_bl)) dss_nil)
  (dss_cons (ds_if (dt_cmp (cv_ne hr) (de_callX g_settled (hr.mono (by decide)) tk (da_cons (de_var 5) da_nil)) (de_mul (de_lst (da_cons (de_lst da_nil) da_nil)) de_int)) (dss_one (ds_ret de_bl)) dss_nil)
  (dss_cons (ds_if (dt_cmp (cv_ne hr) (de_ixA hr (de_callX g_settled (hr.mono (by decide)) tk (da_cons (de_makeX c_House (hr.mono (by decide)) tk (da_cons de_int (da_cons (de_lst (da_cons (de_tup (da_cons (de_var 1) (da_cons (de_var 1) da_nil))) da_nil)) da_nil))) da_nil)) (de_var 4)) (de_lst (da_cons (de_var 0) (da_cons (de_var 1) da_nil)))) (dss_one (ds_ret de_bl)) dss_nil)
  (dss_cons (ds_if (dt_not (dt_cmp (cv_inT hr) (de_ixA hr (de_callX g_settled (hr.mono (by decide)) tk (da_cons (de_makeX c_House (hr.mono (by decide)) tk (da_cons de_int (da_cons (de_lst (da_cons (de_tup (da_cons (de_var 0) (da_cons (de_var 2) da_nil))) (da_cons (de_tup (da_cons (de_var 0) (da_cons (de_var 3) da_nil))) da_nil))) da_nil))) da_nil)) (de_var 4)) (de_tup (da_cons (de_lst (da_cons (de_var 1) (da_cons (de_var 2) (da_cons (de_var 0) da_nil)))) (da_cons (de_lst (da_cons (de_var 1) (da_cons (de_var 3) (da_cons (de_var 0) da_nil)))) da_nil))))) (dss_one (ds_ret de_bl)) dss_nil)
  (dss_one (ds_ret (de_cmp (cv_eq hr) (de_callX g_settled (hr.mono (by decide)) tk (da_cons (de_var 6) da_nil)) (de_mul (de_lst (da_cons (de_lst da_nil) da_nil)) de_int))))))))))))))))))⟩
theorem sc__law_kept_right : FnScope N__law_kept_right P__law_kept_right (defScope s__law_kept_right) := ⟨rfl, rfl, rfl, by decide +kernel, rfl, by decide +kernel, by decide +kernel⟩
theorem ok__law_kept_right {f : Addr} {fd : FuncData} (F : Fun K "_law_kept_right" "_law_kept_right" s__law_kept_right f fd) (B : Bt mg) (hf3 : FldOk K T 3)
    (g_keeping : FnD P w K T mg base (L2N.CX P w) "keeping" 14 F_keeping)
    (g__law_choices_right : FnD P w K T mg base (L2N.CX P w) "_law_choices_right" 16 F__law_choices_right)
    (c_House : ClD P w K T mg base (L2N.CX P w) "House" 0 6 M_House)
    (c_Clash : ClD P w K T mg base (L2N.CX P w) "Clash" 3 2 M_Clash)
    (o_Clash : IsD mg K T "Clash" L_Clash)
    (m_Clash_holds : MtD P w K T mg base (L2N.CX P w) 3 "holds" 8 F_Clash_holds)
    (m_Torn_holds : MtD P w K T mg base (L2N.CX P w) 2 "holds" 8 F_Torn_holds)
    (m_Pleased_holds : MtD P w K T mg base (L2N.CX P w) 1 "holds" 4 F_Pleased_holds) : FnOk P w K mg base (L2N.CX P w) 18 f fd P__law_kept_right (spD ⟨K, T, P, w⟩ F__law_kept_right) := by
  refine fn_defX0 (k := 17) (Fb := b__law_kept_right) F sc__law_kept_right rfl rfl (fun cdv A outer s H E hr tk => ?_)
  have nd := sc__law_kept_right.nd
  exact ⟨_, (dss_cons (ds_asg (de_tup (da_cons (de_tup (da_cons (de_var 0) (da_cons de_bl da_nil))) (da_cons (de_tup (da_cons (de_var 0) (da_cons de_bl da_nil))) (da_cons (de_tup (da_cons (de_mod (de_add (de_var 0) de_int) de_int) (da_cons de_bl da_nil))) (da_cons (de_tup (da_cons (de_mod (de_add (de_var 0) de_int) de_int) (da_cons de_bl da_nil))) da_nil))))) (dg_tup rfl (dgs_cons (dg_name 1 nd) (dgs_cons (dg_name 2 nd) (dgs_cons (dg_name 3 nd) (dgs_cons (dg_name 4 nd) dgs_nil))))))
  (dss_cons (ds_par3 5 6 7 rfl nd (da_cons (de_makeX c_House (hr.mono (by decide)) tk (da_cons de_int (da_cons (de_lst da_nil) da_nil))) (da_cons (de_makeX c_House (hr.mono (by decide)) tk (da_cons de_int (da_cons (de_lst (da_cons (de_tup (da_cons (de_var 2) (da_cons (de_var 3) da_nil))) da_nil)) da_nil))) (da_cons (de_makeX c_House (hr.mono (by decide)) tk (da_cons de_int (da_cons (de_lst (da_cons (de_tup (da_cons (de_var 1) (da_cons (de_var 1) da_nil))) da_nil)) da_nil))) da_nil))))
  (dss_cons (ds_set false 8 nd (de_lst (da_cons (de_tup (da_cons (de_var 5) (da_cons (de_lst (da_cons (de_var 1) (da_cons (de_var 2) da_nil))) (da_cons (de_lst (da_cons (de_var 1) da_nil)) da_nil)))) (da_cons (de_tup (da_cons (de_var 5) (da_cons (de_lst (da_cons (de_var 2) (da_cons (de_var 1) da_nil))) (da_cons (de_lst (da_cons (de_var 2) da_nil)) da_nil)))) da_nil))))
  (dss_cons (ds_set false 8 nd (de_add (de_var 8) (de_lst (da_cons (de_tup (da_cons (de_var 6) (da_cons (de_lst (da_cons (de_var 1) (da_cons (de_var 4) da_nil))) (da_cons (de_lst (da_cons (de_var 1) (da_cons (de_var 3) da_nil))) da_nil)))) (da_cons (de_tup (da_cons (de_var 6) (da_cons (de_lst (da_cons (de_var 4) (da_cons (de_var 1) da_nil))) (da_cons (de_lst (da_cons (de_var 4) (da_cons (de_var 2) da_nil))) da_nil)))) da_nil)))))
  (dss_cons (ds_set false 8 nd (de_add (de_var 8) (de_lst (da_cons (de_tup (da_cons (de_var 7) (da_cons (de_lst (da_cons (de_var 2) da_nil)) (da_cons (de_lst (da_cons (de_var 2) (da_cons (de_var 1) da_nil))) da_nil)))) (da_cons (de_tup (da_cons (de_var 7) (da_cons (de_lst (da_cons (de_var 3) (da_cons (de_var 2) (da_cons (de_var 3) da_nil)))) (da_cons (de_lst (da_cons (de_var 2) (da_cons (de_var 1) da_nil))) da_nil)))) da_nil)))))
  (dss_cons (ds_for (passes_of rfl) rfl (di_list (de_var 8)) (dg_tup rfl (dgs_cons (dg_name 9 nd) (dgs_cons (dg_name 10 nd) (dgs_cons (dg_name 11 nd) dgs_nil)))) (dss_cons (ds_set false 12 nd (de_callX g_keeping (hr.mono (by decide)) tk (da_cons (de_var 9) (da_cons (de_var 10) da_nil))))
  (dss_cons (ds_if (dt_not (dt_val (de_isO B.b_isinstance o_Clash (de_var 12)))) (dss_one (ds_ret de_bl)) dss_nil)
  (dss_cons (ds_if (dt_cmp (cv_ne hr) (de_fld 3 0 hf3 (de_var 12)) (de_var 10)) (dss_one (ds_ret de_bl)) dss_nil)
  (dss_cons (ds_if (dt_cmp cv_notB (de_orr (de_methX m_Pleased_holds (hr.mono (by decide)) tk (de_var 12) (da_cons (de_var 9) da_nil)) (de_orr (de_methX m_Torn_holds (hr.mono (by decide)) tk (de_var 12) (da_cons (de_var 9) da_nil)) (de_methX m_Clash_holds (hr.mono (by decide)) tk (de_var 12) (da_cons (de_var 9) da_nil)))) de_bl) (dss_one (ds_ret de_bl)) dss_nil)
  (dss_cons (ds_if (dt_cmp cv_notB (de_methX m_Clash_holds (hr.mono (by decide)) tk (de_makeX0 c_Clash (hr.mono (by decide)) tk (da_cons (de_var 10) (da_cons (de_var 11) da_nil))) (da_cons (de_var 9) da_nil)) de_bl) (dss_one (ds_ret de_bl)) dss_nil)
  (dss_cons (ds_if (dt_val (de_methX m_Clash_holds (hr.mono (by decide)) tk (de_makeX0 c_Clash (hr.mono (by decide)) tk (da_cons (de_var 10) (da_cons (de_lst da_nil) da_nil))) (da_cons (de_var 9) da_nil))) (dss_one (ds_ret de_bl)) dss_nil)
  (dss_cons (ds_if (dt_val (de_methX m_Clash_holds (hr.mono (by decide)) tk (de_makeX0 c_Clash (hr.mono (by decide)) tk (da_cons (de_lst da_nil) (da_cons (de_var 11) da_nil))) (da_cons (de_var 9) da_nil))) (dss_one (ds_ret de_bl)) dss_nil)
  (dss_one (ds_if (dt_w (dw_and (dt_val (de_methX m_Clash_holds (hr.mono (by decide)) tk (de_makeX0 c_Clash (hr.mono (by decide)) tk (da_cons (de_var 10) (da_cons (de_add (de_var 11) (de_var 11)) da_nil))) (da_cons (de_var 9) da_nil))) (dw_and1 (dt_cmp cv_gt (de_callB bi_len B.b_len (da_cons (de_var 11) da_nil)) de_int)))) (dss_one (ds_ret de_bl)) dss_nil))))))))))
  (dss_one (ds_ret (de_callX g__law_choices_right (hr.mono (by decide)) tk (da_cons (de_var 1) (da_cons (de_var 2) (da_cons (de_var 3) (da_cons (de_var 4) (da_cons (de_var 0) da_nil))))))))))))))⟩
theorem sc_word_text : FnScope N_word_text P_word_text (defScope s_word_text) := ⟨rfl, rfl, rfl, by decide +kernel, rfl, by decide +kernel, by decide +kernel⟩
theorem ok_word_text {f : Addr} {fd : FuncData} (F : Fun K "word_text" "word_text" s_word_text f fd) (B : Bt mg) : FnOk P w K mg base (L2N.CX P w) 2 f fd P_word_text (spD ⟨K, T, P, w⟩ F_word_text) := by
  refine fn_defX0 (k := 1) (Fb := b_word_text) F sc_word_text rfl rfl (fun cdv A outer s H E hr tk => ?_)
  have nd := sc_word_text.nd
  exact ⟨_, (dss_one (ds_ret (de_add (de_ixA hr (de_gstr B.g_FIGURES) (de_ixA hr (de_var 0) de_int)) (de_if (dt_val (de_ixA hr (de_var 0) de_int)) de_str de_str))))⟩
theorem sc_written : FnScope N_written P_written (defScope s_written) := ⟨rfl, rfl, rfl, by decide +kernel, rfl, by decide +kernel, by decide +kernel⟩
theorem ok_written {f : Addr} {fd : FuncData} (F : Fun K "written" "written" s_written f fd) (B : Bt mg) (hf0 : FldOk K T 0)
    (g_word_text : FnD P w K T mg base (L2N.CX P w) "word_text" 2 F_word_text) : FnOk P w K mg base (L2N.CX P w) 4 f fd P_written (spD ⟨K, T, P, w⟩ F_written) := by
  refine fn_defX0 (k := 3) (Fb := b_written) F sc_written rfl rfl (fun cdv A outer s H E hr tk => ?_)
  have nd := sc_written.nd
  exact ⟨_, (dss_cons (ds_set true 1 nd (de_lst (da_cons (de_callTy bi_str B.b_str (da_cons (de_fld 0 0 hf0 (de_var 0)) da_nil)) da_nil)))
  (dss_cons (ds_for (passes_of rfl) rfl (di_list (de_fld 0 1 hf0 (de_var 0))) (dg_tup rfl (dgs_cons (dg_name 2 nd) (dgs_cons (dg_name 3 nd) dgs_nil))) (dss_one (ds_app false 1 (de_add (de_callX g_word_text (hr.mono (by decide)) tk (da_cons (de_var 2) da_nil)) (de_callX g_word_text (hr.mono (by decide)) tk (da_cons (de_var 3) da_nil))))))
  (dss_one (ds_ret (de_join de_str (de_var 1))))))⟩
theorem sc_wish_in : FnScope N_wish_in P_wish_in (defScope s_wish_in) := ⟨rfl, rfl, rfl, by decide +kernel, rfl, by decide +kernel, by decide +kernel⟩
theorem ok_wish_in {f : Addr} {fd : FuncData} (F : Fun K "wish_in" "wish_in" s_wish_in f fd) (B : Bt mg) : FnOk P w K mg base (L2N.CX P w) 2 f fd P_wish_in (spD ⟨K, T, P, w⟩ F_wish_in) := by
  refine fn_defX0 (k := 1) (Fb := b_wish_in) F sc_wish_in rfl rfl (fun cdv A outer s H E hr tk => ?_)
  have nd := sc_wish_in.nd
  exact ⟨_, (dss_cons (ds_if (dt_cmp (cv_ne hr) (de_callB bi_len B.b_len (da_cons (de_var 0) da_nil)) de_int) (dss_one (ds_ret de_non)) dss_nil)
  (dss_cons (ds_set true 2 nd (de_lst da_nil))
  (dss_cons (ds_for (passes_of rfl) rfl (di_list (de_lst (da_cons de_int (da_cons de_int da_nil)))) (dg_name 3 nd) (dss_cons (ds_if (dt_w (dw_or (dt_cmp (cv_notInA hr) (de_ixA hr (de_var 0) (de_var 3)) (de_slice (de_gstr B.g_FIGURES) do_none (do_some (de_var 1)))) (dw_or1 (dt_cmp (cv_notInA hr) (de_ixA hr (de_var 0) (de_add (de_var 3) de_int)) de_str)))) (dss_one (ds_ret de_non)) dss_nil)
  (dss_one (ds_app false 2 (de_tup (da_cons (de_callTy bi_int B.b_int (da_cons (de_ixA hr (de_var 0) (de_var 3)) da_nil)) (da_cons (de_cmp (cv_eq hr) (de_ixA hr (de_var 0) (de_add (de_var 3) de_int)) de_str) da_nil)))))))
  (dss_one (ds_ret (de_tup (da_cons (de_ixA hr (de_var 2) de_int) (da_cons (de_ixA hr (de_var 2) de_int) da_nil))))))))⟩
theorem sc_read : FnScope N_read P_read (defScope s_read) := ⟨rfl, rfl, rfl, by decide +kernel, rfl, by decide +kernel, by decide +kernel⟩
theorem ok_read {f : Addr} {fd : FuncData} (F : Fun K "read" "read" s_read f fd) (B : Bt mg) (hx : T.cold)
    (a_BadHouse : CatchD mg K T "BadHouse" E_BadHouse)
    (x_BadText : ExI P w mg K T base "BadText" 5 "place")
    (xh_BadText : ExH P w mg K T base "BadText" 5 "place")
    (g_wish_in : FnD P w K T mg base (L2N.CX P w) "wish_in" 2 F_wish_in)
    (c_House : ClD P w K T mg base (L2N.CX P w) "House" 0 6 M_House) : FnOk P w K mg base (CXL P w) 9 f fd P_read (spD ⟨K, T, P, w⟩ F_read) := by
  refine fn_defL (k := 8) (Fb := b_read) F sc_read rfl rfl (fun cdv A outer s H E hr tl => ?_)
  have tk := tl.n
  have nd := sc_read.nd
  exact ⟨_, (dss_cons (ds_if (dt_not (dt_val (de_isi (tn := "str") B.b_isinstance B.b_str (de_var 0)))) (dss_one (ds_raiseI rfl tk x_BadText (hr.mono (by decide)) de_int)) dss_nil)
  (dss_cons (ds_set false 1 nd (de_split (de_var 0) de_str))
  (dss_cons (ds_if (dt_w (dw_or (dt_cmp (cv_ne hr) (de_callB bi_len B.b_len (da_cons (de_ixA hr (de_var 1) de_int) da_nil)) de_int) (dw_or1 (dt_cmp (cv_notInA hr) (de_ixA hr (de_var 1) de_int) de_str)))) (dss_one (ds_raiseI rfl tk x_BadText (hr.mono (by decide)) de_int)) dss_nil)
  (dss_cons (ds_set false 2 nd (de_callTy bi_int B.b_int (da_cons (de_ixA hr (de_var 1) de_int) da_nil)))
  (dss_cons (ds_set true 3 nd (de_lst da_nil))
  (dss_cons (ds_for (passes_of rfl) rfl (di_range2 B.b_range (da_cons de_int (da_cons (de_callB bi_len B.b_len (da_cons (de_var 1) da_nil)) da_nil))) (dg_name 4 nd) (dss_cons (ds_set false 5 nd (de_callX g_wish_in (hr.mono (by decide)) tk (da_cons (de_ixA hr (de_var 1) (de_var 4)) (da_cons (de_var 2) da_nil))))
  (dss_cons (ds_if (dt_cmp cv_isN (de_var 5) de_non) (dss_one (ds_raiseI rfl tk x_BadText (hr.mono (by decide)) (de_var 4))) dss_nil)
  (dss_one (ds_app false 3 (de_var 5))))))
  (dss_one (ds_frz 3 (ds_tryE hx a_BadHouse.m nd (a_BadHouse.nm rfl (by decide)) tl (L2H.passesAt_of rfl) (fun W pn xe tW => ⟨_, (de_makeW c_House (hr.mono (by decide)) tW (da_cons (de_var 2) (da_cons (de_var 3) da_nil)))⟩) (fun a oe c d pn px tS hl => ⟨_, (dss_one (ds_raiseH (hot_suite px) List.mem_cons_self tS xh_BadText.pin ((room_suite hr).mono (by decide)) (de_callB bi_len B.b_len (da_cons (de_var 1) da_nil))))⟩) (dss_one (ds_retV 6)))))))))))⟩
theorem sc__law_texts_right : FnScope N__law_texts_right P__law_texts_right (defScope s__law_texts_right) := ⟨rfl, rfl, rfl, by decide +kernel, rfl, by decide +kernel, by decide +kernel⟩
theorem ok__law_texts_right {f : Addr} {fd : FuncData} (F : Fun K "_law_texts_right" "_law_texts_right" s__law_texts_right f fd) (B : Bt mg) (hf0 : FldOk K T 0) (hx : T.cold)
    (a_WishError : CatchD mg K T "WishError" E_WishError)
    (xf_BadText : XfD K T 5 "place")
    (e_BadText : IsEx mg K T.C "BadText" E_BadText)
    (g_written : FnD P w K T mg base (L2N.CX P w) "written" 4 F_written)
    (g_read : FnD P w K T mg base (CXL P w) "read" 9 F_read)
    (c_House : ClD P w K T mg base (L2N.CX P w) "House" 0 6 M_House)
    (m_House_wishes : MtD P w K T mg base (L2N.CX P w) 0 "wishes" 2 F_House_wishes) : FnOk P w K mg base (CXL P w) 11 f fd P__law_texts_right (spD ⟨K, T, P, w⟩ F__law_texts_right) := by
  refine fn_defL0 (k := 10) (Fb := b__law_texts_right) F sc__law_texts_right rfl rfl (fun cdv A outer s H E hr tl => ?_)
  have tk := tl.n
  have nd := sc__law_texts_right.nd
  exact ⟨_, (dss_cons (ds_set false 1 nd (de_lst (da_cons (de_tup (da_cons (de_makeX c_House (hr.mono (by decide)) tk (da_cons de_int (da_cons (de_lst (da_cons (de_tup (da_cons (de_tup (da_cons de_int (da_cons de_bl da_nil))) (da_cons (de_tup (da_cons de_int (da_cons de_bl da_nil))) da_nil))) (da_cons (de_tup (da_cons (de_tup (da_cons de_int (da_cons de_bl da_nil))) (da_cons (de_tup (da_cons de_int (da_cons de_bl da_nil))) da_nil))) da_nil))) da_nil))) (da_cons de_str da_nil))) da_nil)))
  (dss_cons (ds_set false 1 nd (de_add (de_var 1) (de_lst (da_cons (de_tup (da_cons (de_makeX c_House (hr.mono (by decide)) tk (da_cons de_int (da_cons (de_lst da_nil) da_nil))) (da_cons de_str da_nil))) (da_cons (de_tup (da_cons (de_makeX c_House (hr.mono (by decide)) tk (da_cons de_int (da_cons (de_lst (da_cons (de_tup (da_cons (de_tup (da_cons de_int (da_cons de_bl da_nil))) (da_cons (de_tup (da_cons de_int (da_cons de_bl da_nil))) da_nil))) da_nil)) da_nil))) (da_cons de_str da_nil))) da_nil)))))
  (dss_cons (ds_for (passes_of rfl) rfl (di_list (de_var 1)) (dg_tup rfl (dgs_cons (dg_name 2 nd) (dgs_cons (dg_name 3 nd) dgs_nil))) (dss_cons (ds_if (dt_cmp (cv_ne hr) (de_callX g_written (hr.mono (by decide)) tk (da_cons (de_var 2) da_nil)) (de_var 3)) (dss_one (ds_ret de_bl)) dss_nil)
  (dss_cons (ds_if (dt_cmp (cv_ne hr) (de_methX0 m_House_wishes (hr.mono (by decide)) tk (de_callL g_read (hr.mono (by decide)) tl (da_cons (de_var 3) da_nil))) (de_methX0 m_House_wishes (hr.mono (by decide)) tk (de_var 2))) (dss_one (ds_ret de_bl)) dss_nil)
  (dss_one (ds_if (dt_cmp (cv_ne hr) (de_fld 0 0 hf0 (de_callL g_read (hr.mono (by decide)) tl (da_cons (de_var 3) da_nil))) (de_fld 0 0 hf0 (de_var 2))) (dss_one (ds_ret de_bl)) dss_nil)))))
  (dss_cons (ds_set false 4 nd (de_lst (da_cons (de_tup (da_cons de_str (da_cons de_int da_nil))) (da_cons (de_tup (da_cons de_str (da_cons de_int da_nil))) (da_cons (de_tup (da_cons de_str (da_cons de_int da_nil))) (da_cons (de_tup (da_cons de_str (da_cons de_int da_nil))) (da_cons (de_tup (da_cons de_str (da_cons de_int da_nil))) da_nil)))))))
  (dss_cons (ds_set false 4 nd (de_add (de_var 4) (de_lst (da_cons (de_tup (da_cons de_str (da_cons de_int da_nil))) (da_cons (de_tup (da_cons de_str (da_cons de_int da_nil))) (da_cons (de_tup (da_cons de_str (da_cons de_int da_nil))) (da_cons (de_tup (da_cons de_str (da_cons de_int da_nil))) (da_cons (de_tup (da_cons de_str (da_cons de_int da_nil))) da_nil))))))))
  (dss_cons (ds_set false 4 nd (de_add (de_var 4) (de_lst (da_cons (de_tup (da_cons de_str (da_cons de_int da_nil))) (da_cons (de_tup (da_cons de_str (da_cons de_int da_nil))) (da_cons (de_tup (da_cons de_non (da_cons de_int da_nil))) (da_cons (de_tup (da_cons de_int (da_cons de_int da_nil))) da_nil)))))))
  (dss_cons (ds_set false 4 nd (de_add (de_var 4) (de_lst (da_cons (de_tup (da_cons (de_add de_str (de_mulS de_str de_int)) (da_cons de_int da_nil))) (da_cons (de_tup (da_cons (de_add de_str (de_mulS de_str de_int)) (da_cons de_int da_nil))) da_nil)))))
  (dss_cons (ds_set false 4 nd (de_add (de_var 4) (de_lst (da_cons (de_tup (da_cons (de_add (de_add de_str (de_mulS de_str de_int)) de_str) (da_cons de_int da_nil))) (da_cons (de_tup (da_cons de_str (da_cons de_int da_nil))) (da_cons (de_tup (da_cons de_str (da_cons de_int da_nil))) da_nil))))))
  (dss_cons (ds_for (passes_of rfl) rfl (di_list (de_var 4)) (dg_tup rfl (dgs_cons (dg_name 3 nd) (dgs_cons (dg_name 5 nd) dgs_nil))) (dss_one (ds_tryRL hx a_WishError.m nd (a_WishError.nm rfl (by decide)) tl (fun W pn xe tW => ⟨_, (de_cmp cv_isN (de_callLW g_read (hr.mono (by decide)) tW (da_cons (de_var 3) da_nil)) de_non)⟩) (fun a oe c d pn px hot hl => ⟨_, (dss_one (ds_if (dt_w (dw_or (dt_not (dt_val (de_isE (px.in List.mem_cons_self) B.b_isinstance e_BadText (de_var 6)))) (dw_or1 (dt_cmp (cv_neH (room_suite hr)) (de_xfL xf_BadText px.z px.f (de_var 6)) (de_var 5))))) (dss_one (ds_ret de_bl)) dss_nil))⟩))))
  (dss_cons (ds_set false 3 nd (de_add de_str (de_mulS (de_add (de_add (de_add (de_add de_str (de_callTy bi_str B.b_str (da_cons (de_var 0) da_nil))) de_str) (de_callTy bi_str B.b_str (da_cons (de_sub de_int (de_var 0)) da_nil))) de_str) de_int)))
  (dss_one (ds_ret (de_and (de_cmp (cv_eq hr) (de_callX g_written (hr.mono (by decide)) tk (da_cons (de_callL g_read (hr.mono (by decide)) tl (da_cons (de_var 3) da_nil)) da_nil)) (de_var 3)) (de_one (de_cmp (cv_eq hr) (de_callB bi_len B.b_len (da_cons (de_methX0 m_House_wishes (hr.mono (by decide)) tk (de_callL g_read (hr.mono (by decide)) tl (da_cons (de_var 3) da_nil))) da_nil)) de_int)))))))))))))))⟩
theorem sc_telling : FnScope N_telling P_telling (defScope s_telling) := ⟨rfl, rfl, rfl, by decide +kernel, rfl, by decide +kernel, by decide +kernel⟩
theorem ok_telling {f : Addr} {fd : FuncData} (F : Fun K "telling" "telling" s_telling f fd) (B : Bt mg)
    (g_torn_in : FnD P w K T mg base (L2N.CX P w) "torn_in" 10 F_torn_in)
    (g_with_words : FnD P w K T mg base (L2N.CX P w) "with_words" 8 F_with_words)
    (c_Pleased : ClD P w K T mg base (L2N.CX P w) "Pleased" 1 2 M_Pleased) : FnOk P w K mg base (L2N.CX P w) 12 f fd P_telling (spD ⟨K, T, P, w⟩ F_telling) := by
  refine fn_defX0 (k := 11) (Fb := b_telling) F sc_telling rfl rfl (fun cdv A outer s H E hr tk => ?_)
  have nd := sc_telling.nd
  exact ⟨_, (dss_cons (ds_set true 1 nd (de_callX g_torn_in (hr.mono (by decide)) tk (da_cons (de_var 0) da_nil)))
  (dss_cons (ds_if (dt_cmp cv_notO (de_var 1) de_non) (dss_one (ds_retV 1)) dss_nil)
  (dss_one (ds_ret (de_makeX0 c_Pleased (hr.mono (by decide)) tk (da_cons (de_callX g_with_words (hr.mono (by decide)) tk (da_cons (de_var 0) (da_cons (de_lst da_nil) da_nil))) da_nil))))))⟩
theorem sc_how_many : FnScope N_how_many P_how_many (defScope s_how_many) := ⟨rfl, rfl, rfl, by decide +kernel, rfl, by decide +kernel, by decide +kernel⟩
theorem ok_how_many {f : Addr} {fd : FuncData} (F : Fun K "how_many" "how_many" s_how_many f fd) (B : Bt mg) (hf0 : FldOk K T 0)
    (g_pleases : FnD P w K T mg base (L2N.CX P w) "pleases" 2 F_pleases) : FnOk P w K mg base (L2N.CX P w) 4 f fd P_how_many (spD ⟨K, T, P, w⟩ F_how_many) := by
  refine fn_defX0 (k := 3) (Fb := b_how_many) F sc_how_many rfl rfl (fun cdv A outer s H E hr tk => ?_)
  have nd := sc_how_many.nd
  exact ⟨_, (dss_cons (ds_set false 1 nd de_int)
  (dss_cons (ds_for (passes_of rfl) rfl (di_range1 B.b_range (da_cons (de_shl de_int (de_fld 0 0 hf0 (de_var 0))) da_nil)) (dg_name 2 nd) (dss_cons (ds_set false 4 nd (de_lc [("name", 3)] [3] rfl nd (di_range1 B.b_range (da_cons (de_fld 0 0 hf0 (de_var 0)) da_nil)) (blkOk_by (N := N_how_many) (sc := defScope s_how_many) (by decide +kernel)) (fun _ _ _ _ _ => ⟨_, (dg_name 3 nd)⟩) (fun _ _ _ _ _ => ⟨_, dts_nil⟩) (fun _ _ _ _ _ => ⟨_, (de_cmp (cv_eq hr) (de_band (de_shr (de_var 2) (de_var 3)) de_int) de_int)⟩)))
  (dss_one (ds_if (dt_val (de_callB (bi_all rfl) B.b_all (da_cons (de_lc [("wish", 5)] [5] rfl nd (di_list (de_fld 0 1 hf0 (de_var 0))) (blkOk_by (N := N_how_many) (sc := defScope s_how_many) (by decide +kernel)) (fun _ _ _ _ _ => ⟨_, (dg_name 5 nd)⟩) (fun _ _ _ _ _ => ⟨_, dts_nil⟩) (fun _ _ _ _ _ => ⟨_, (de_callX g_pleases (hr.mono (by decide)) takes0 (da_cons (de_var 4) (da_cons (de_var 5) da_nil)))⟩)) da_nil))) (dss_one (ds_aug 1 nd de_int)) dss_nil))))
  (dss_one (ds_retV 1))))⟩
theorem sc__law_torn_right : FnScope N__law_torn_right P__law_torn_right (defScope s__law_torn_right) := ⟨rfl, rfl, rfl, by decide +kernel, rfl, by decide +kernel, by decide +kernel⟩
theorem ok__law_torn_right {f c Pt : Addr} {C : Nat → Addr} {oc kV doc pm ct : Value} {an od : Option Addr} {osl : Array (Option Value)} (lk : K.lookup f = some ⟨oc, od, .func (PySem.W.fnOf "_law_torn_right" "_law_torn_right" (defArgs s__law_torn_right) (defBody s__law_torn_right) (defScope s__law_torn_right) .none kV doc pm an (.ref c) ct), osl⟩) (hcd : PySem.W.codeIn K (.ref c) "_law_torn_right" = true) (TB : LamX.TabB base mg c Pt) (B : Bt mg)
    (hx : ∀ fn : Nat → Hp → Addr → Prop, (TF C fn).cold)
    (a_Unpleased : ∀ fn : Nat → Hp → Addr → Prop, CatchD mg K (TF C fn) "Unpleased" E_Unpleased)
    (a_BadHouse : ∀ fn : Nat → Hp → Addr → Prop, CatchD mg K (TF C fn) "BadHouse" E_BadHouse)
    (xf_Unpleased : ∀ fn : Nat → Hp → Addr → Prop, XfD K (TF C fn) 4 "torn")
    (hm_Torn_holds : ∀ fn : Nat → Hp → Addr → Prop, MtP P w K (TF C fn) mg base 2 "holds" 8 F_Torn_holds)
    (hm_House_wishes : ∀ fn : Nat → Hp → Addr → Prop, MtP P w K (TF C fn) mg base 0 "wishes" 2 F_House_wishes)
    (hc_House : ∀ fn : Nat → Hp → Addr → Prop, ClP P w K (TF C fn) mg base "House" 0 6 M_House)
    (g_settled : ∀ fn : Nat → Hp → Addr → Prop, FnD P w K (TF C fn) mg base (L2N.CX P w) "settled" 14 F_settled)
    (g_keeping : ∀ fn : Nat → Hp → Addr → Prop, FnD P w K (TF C fn) mg base (L2N.CX P w) "keeping" 14 F_keeping)
    (c_House : ∀ fn : Nat → Hp → Addr → Prop, ClD P w K (TF C fn) mg base (L2N.CX P w) "House" 0 6 M_House)
    (c_Torn : ∀ fn : Nat → Hp → Addr → Prop, ClD P w K (TF C fn) mg base (L2N.CX P w) "Torn" 2 2 M_Torn)
    (c_Pleased : ∀ fn : Nat → Hp → Addr → Prop, ClD P w K (TF C fn) mg base (L2N.CX P w) "Pleased" 1 2 M_Pleased)
    (m_Torn_holds : ∀ fn : Nat → Hp → Addr → Prop, MtD P w K (TF C fn) mg base (L2N.CX P w) 2 "holds" 8 F_Torn_holds)
    (m_Pleased_holds : ∀ fn : Nat → Hp → Addr → Prop, MtD P w K (TF C fn) mg base (L2N.CX P w) 1 "holds" 4 F_Pleased_holds) :
    FnOk P w K mg base (L2N.CX P w) 17 f (PySem.W.fnOf "_law_torn_right" "_law_torn_right" (defArgs s__law_torn_right) (defBody s__law_torn_right) (defScope s__law_torn_right) .none kV doc pm an (.ref c) ct) P__law_torn_right (spT ⟨K, TF C noFn, P, w⟩ Pt OK__law_torn_right) := by
  refine fn_tail (k := 16) lk hcd sc__law_torn_right rfl rfl fun A outer s H E hr => ?_
  have nd := sc__law_torn_right.nd
  have suf : ∃ t, DSs (cxOf (L2N.CX P w) P w K mg base N__law_torn_right "_law_torn_right" (defScope s__law_torn_right) f (.ref c) A outer s H E) (TF C (LamAt (lq (cxOf (L2N.CX P w) P w K mg base N__law_torn_right "_law_torn_right" (defScope s__law_torn_right) f (.ref c) A outer s H E)) (cxOf (L2N.CX P w) P w K mg base N__law_torn_right "_law_torn_right" (defScope s__law_torn_right) f (.ref c) A outer s H E).env.cells [lamExp ((defBody s__law_torn_right).getD 9 (.Pass ⟨0, 0, 0, 0⟩)), lamExp ((defBody s__law_torn_right).getD 10 (.Pass ⟨0, 0, 0, 0⟩))])) (fun _ _ _ => False) ((defBody s__law_torn_right).drop 11) t
    (seqF (forF (fItems true (fVar 9)) (gfName 10) (tryRXF 11 E_Unpleased (fOp (gIs id) (fCallFn 10 lam__law_torn_right) (fC .non)) (ifF (fTNot (fT (fMeth 2 F_Torn_holds (fXf 4 (fVar 11)) (fCons (fVar 4) fNil)))) (retF (fC (.bl false))) nextF)))
  (tryROF E_BadHouse (fOp (gIs id) (fCall (mkRX 0 M_House) (fCons (fC (.int 8)) (fCons (fOp gMul (fLst (fCons (fTup (fCons (fVar 0) (fCons (fVar 2) fNil))) fNil)) (fC (.int 25))) fNil))) (fC .non)) (retF (fOp (gEq id) (fCB gLen (fCons (fMeth 0 F_House_wishes (fCall (mkR 0 M_House) (fCons (fC (.int 8)) (fCons (fOp gMul (fLst (fCons (fTup (fCons (fVar 0) (fCons (fVar 2) fNil))) fNil)) (fC (.int 24))) fNil))) fun _ => .ok []) fNil)) (fC (.int 24)))))) := by
    have hx := hx (LamAt (lq (cxOf (L2N.CX P w) P w K mg base N__law_torn_right "_law_torn_right" (defScope s__law_torn_right) f (.ref c) A outer s H E)) (cxOf (L2N.CX P w) P w K mg base N__law_torn_right "_law_torn_right" (defScope s__law_torn_right) f (.ref c) A outer s H E).env.cells [lamExp ((defBody s__law_torn_right).getD 9 (.Pass ⟨0, 0, 0, 0⟩)), lamExp ((defBody s__law_torn_right).getD 10 (.Pass ⟨0, 0, 0, 0⟩))])
    have a_Unpleased := a_Unpleased (LamAt (lq (cxOf (L2N.CX P w) P w K mg base N__law_torn_right "_law_torn_right" (defScope s__law_torn_right) f (.ref c) A outer s H E)) (cxOf (L2N.CX P w) P w K mg base N__law_torn_right "_law_torn_right" (defScope s__law_torn_right) f (.ref c) A outer s H E).env.cells [lamExp ((defBody s__law_torn_right).getD 9 (.Pass ⟨0, 0, 0, 0⟩)), lamExp ((defBody s__law_torn_right).getD 10 (.Pass ⟨0, 0, 0, 0⟩))])
    have a_BadHouse := a_BadHouse (LamAt (lq (cxOf (L2N.CX P w) P w K mg base N__law_torn_right "_law_torn_right" (defScope s__law_torn_right) f (.ref c) A outer s H E)) (cxOf (L2N.CX P w) P w K mg base N__law_torn_right "_law_torn_right" (defScope s__law_torn_right) f (.ref c) A outer s H E).env.cells [lamExp ((defBody s__law_torn_right).getD 9 (.Pass ⟨0, 0, 0, 0⟩)), lamExp ((defBody s__law_torn_right).getD 10 (.Pass ⟨0, 0, 0, 0⟩))])
    have xf_Unpleased := xf_Unpleased (LamAt (lq (cxOf (L2N.CX P w) P w K mg base N__law_torn_right "_law_torn_right" (defScope s__law_torn_right) f (.ref c) A outer s H E)) (cxOf (L2N.CX P w) P w K mg base N__law_torn_right "_law_torn_right" (defScope s__law_torn_right) f (.ref c) A outer s H E).env.cells [lamExp ((defBody s__law_torn_right).getD 9 (.Pass ⟨0, 0, 0, 0⟩)), lamExp ((defBody s__law_torn_right).getD 10 (.Pass ⟨0, 0, 0, 0⟩))])
    have hm_Torn_holds := hm_Torn_holds (LamAt (lq (cxOf (L2N.CX P w) P w K mg base N__law_torn_right "_law_torn_right" (defScope s__law_torn_right) f (.ref c) A outer s H E)) (cxOf (L2N.CX P w) P w K mg base N__law_torn_right "_law_torn_right" (defScope s__law_torn_right) f (.ref c) A outer s H E).env.cells [lamExp ((defBody s__law_torn_right).getD 9 (.Pass ⟨0, 0, 0, 0⟩)), lamExp ((defBody s__law_torn_right).getD 10 (.Pass ⟨0, 0, 0, 0⟩))])
    have hm_House_wishes := hm_House_wishes (LamAt (lq (cxOf (L2N.CX P w) P w K mg base N__law_torn_right "_law_torn_right" (defScope s__law_torn_right) f (.ref c) A outer s H E)) (cxOf (L2N.CX P w) P w K mg base N__law_torn_right "_law_torn_right" (defScope s__law_torn_right) f (.ref c) A outer s H E).env.cells [lamExp ((defBody s__law_torn_right).getD 9 (.Pass ⟨0, 0, 0, 0⟩)), lamExp ((defBody s__law_torn_right).getD 10 (.Pass ⟨0, 0, 0, 0⟩))])
    have hc_House := hc_House (LamAt (lq (cxOf (L2N.CX P w) P w K mg base N__law_torn_right "_law_torn_right" (defScope s__law_torn_right) f (.ref c) A outer s H E)) (cxOf (L2N.CX P w) P w K mg base N__law_torn_right "_law_torn_right" (defScope s__law_torn_right) f (.ref c) A outer s H E).env.cells [lamExp ((defBody s__law_torn_right).getD 9 (.Pass ⟨0, 0, 0, 0⟩)), lamExp ((defBody s__law_torn_right).getD 10 (.Pass ⟨0, 0, 0, 0⟩))])
    have g_settled := g_settled (LamAt (lq (cxOf (L2N.CX P w) P w K mg base N__law_torn_right "_law_torn_right" (defScope s__law_torn_right) f (.ref c) A outer s H E)) (cxOf (L2N.CX P w) P w K mg base N__law_torn_right "_law_torn_right" (defScope s__law_torn_right) f (.ref c) A outer s H E).env.cells [lamExp ((defBody s__law_torn_right).getD 9 (.Pass ⟨0, 0, 0, 0⟩)), lamExp ((defBody s__law_torn_right).getD 10 (.Pass ⟨0, 0, 0, 0⟩))])
    have g_keeping := g_keeping (LamAt (lq (cxOf (L2N.CX P w) P w K mg base N__law_torn_right "_law_torn_right" (defScope s__law_torn_right) f (.ref c) A outer s H E)) (cxOf (L2N.CX P w) P w K mg base N__law_torn_right "_law_torn_right" (defScope s__law_torn_right) f (.ref c) A outer s H E).env.cells [lamExp ((defBody s__law_torn_right).getD 9 (.Pass ⟨0, 0, 0, 0⟩)), lamExp ((defBody s__law_torn_right).getD 10 (.Pass ⟨0, 0, 0, 0⟩))])
    have c_House := c_House (LamAt (lq (cxOf (L2N.CX P w) P w K mg base N__law_torn_right "_law_torn_right" (defScope s__law_torn_right) f (.ref c) A outer s H E)) (cxOf (L2N.CX P w) P w K mg base N__law_torn_right "_law_torn_right" (defScope s__law_torn_right) f (.ref c) A outer s H E).env.cells [lamExp ((defBody s__law_torn_right).getD 9 (.Pass ⟨0, 0, 0, 0⟩)), lamExp ((defBody s__law_torn_right).getD 10 (.Pass ⟨0, 0, 0, 0⟩))])
    have c_Torn := c_Torn (LamAt (lq (cxOf (L2N.CX P w) P w K mg base N__law_torn_right "_law_torn_right" (defScope s__law_torn_right) f (.ref c) A outer s H E)) (cxOf (L2N.CX P w) P w K mg base N__law_torn_right "_law_torn_right" (defScope s__law_torn_right) f (.ref c) A outer s H E).env.cells [lamExp ((defBody s__law_torn_right).getD 9 (.Pass ⟨0, 0, 0, 0⟩)), lamExp ((defBody s__law_torn_right).getD 10 (.Pass ⟨0, 0, 0, 0⟩))])
    have c_Pleased := c_Pleased (LamAt (lq (cxOf (L2N.CX P w) P w K mg base N__law_torn_right "_law_torn_right" (defScope s__law_torn_right) f (.ref c) A outer s H E)) (cxOf (L2N.CX P w) P w K mg base N__law_torn_right "_law_torn_right" (defScope s__law_torn_right) f (.ref c) A outer s H E).env.cells [lamExp ((defBody s__law_torn_right).getD 9 (.Pass ⟨0, 0, 0, 0⟩)), lamExp ((defBody s__law_torn_right).getD 10 (.Pass ⟨0, 0, 0, 0⟩))])
    have m_Torn_holds := m_Torn_holds (LamAt (lq (cxOf (L2N.CX P w) P w K mg base N__law_torn_right "_law_torn_right" (defScope s__law_torn_right) f (.ref c) A outer s H E)) (cxOf (L2N.CX P w) P w K mg base N__law_torn_right "_law_torn_right" (defScope s__law_torn_right) f (.ref c) A outer s H E).env.cells [lamExp ((defBody s__law_torn_right).getD 9 (.Pass ⟨0, 0, 0, 0⟩)), lamExp ((defBody s__law_torn_right).getD 10 (.Pass ⟨0, 0, 0, 0⟩))])
    have m_Pleased_holds := m_Pleased_holds (LamAt (lq (cxOf (L2N.CX P w) P w K mg base N__law_torn_right "_law_torn_right" (defScope s__law_torn_right) f (.ref c) A outer s H E)) (cxOf (L2N.CX P w) P w K mg base N__law_torn_right "_law_torn_right" (defScope s__law_torn_right) f (.ref c) A outer s H E).env.cells [lamExp ((defBody s__law_torn_right).getD 9 (.Pass ⟨0, 0, 0, 0⟩)), lamExp ((defBody s__law_torn_right).getD 10 (.Pass ⟨0, 0, 0, 0⟩))])
    exact ⟨_, (dss_cons (ds_for (passes_of rfl) rfl (di_list (de_var 9)) (dg_name 10 nd) (dss_one (ds_tryR hx a_Unpleased.m nd (a_Unpleased.nm rfl (by decide)) takes0 (fun W pn xe tW => ⟨_, (de_cmp cv_isN (de_lamcall (kk := 15) (fun _ _ _ h => h) (.cons (.mk' (LamX.lamS_by (sc := defScope s__law_torn_right) (by decide +kernel)) (fun _ _ _ _ _ => rfl) (fun s H E f1 c1 hr tk => ⟨_, (de_callX g_settled (hr.mono (by decide)) tk (da_cons (de_var 4) da_nil))⟩)) (.cons (.mk' (LamX.lamS_by (sc := defScope s__law_torn_right) (by decide +kernel)) (fun _ _ _ _ _ => rfl) (fun s H E f1 c1 hr tk => ⟨_, (de_callX g_keeping (hr.mono (by decide)) tk (da_cons (de_var 4) (da_cons (de_lst da_nil) da_nil)))⟩)) .nil)) tW (hr.mono (by decide))) de_non)⟩) (fun a oe c d pn hz hd hl => by
      have px : PinX (TF C (LamAt (lq (cxOf (L2N.CX P w) P w K mg base N__law_torn_right "_law_torn_right" (defScope s__law_torn_right) f (.ref c) A outer s H E)) (cxOf (L2N.CX P w) P w K mg base N__law_torn_right "_law_torn_right" (defScope s__law_torn_right) f (.ref c) A outer s H E).env.cells [lamExp ((defBody s__law_torn_right).getD 9 (.Pass ⟨0, 0, 0, 0⟩)), lamExp ((defBody s__law_torn_right).getD 10 (.Pass ⟨0, 0, 0, 0⟩))])) (a, oe) c d := ⟨hz, hd⟩
      exact ⟨_, (dss_one (ds_if (dt_not (dt_val (de_methP hm_Torn_holds px (hot_suite px) List.mem_cons_self ((room_suite hr).mono (by decide)) (de_xf xf_Unpleased hz hd (de_var 11)) (da_cons (de_var 4) da_nil)))) (dss_one (ds_ret de_bl)) dss_nil))⟩))))
  (dss_one (ds_tryRO hx a_BadHouse.m (a_BadHouse.nm rfl (by decide)) tkl0 (L2H.passesAt_of rfl) (fun W pn xe tW => ⟨_, (de_cmp cv_isN (de_makeW c_House (hr.mono (by decide)) tW (da_cons de_int (da_cons (de_mul (de_lst (da_cons (de_tup (da_cons (de_var 0) (da_cons (de_var 2) da_nil))) da_nil)) de_int) da_nil))) de_non)⟩) (fun a oe c d pn px tS hl => ⟨_, (dss_one (ds_ret (de_cmp (cv_eqH (room_suite hr)) (de_callB bi_len B.b_len (da_cons (de_methP0 hm_House_wishes px (hot_suite px) List.mem_cons_self ((room_suite hr).mono (by decide)) (de_makeP hc_House px (hot_suite px) List.mem_cons_self ((room_suite hr).mono (by decide)) (da_cons de_int (da_cons (de_mul (de_lst (da_cons (de_tup (da_cons (de_var 0) (da_cons (de_var 2) da_nil))) da_nil)) de_int) da_nil)))) da_nil)) de_int)))⟩))))⟩
  obtain ⟨t2, h2⟩ := suf
  have hx := hx noFn
  have a_Unpleased := a_Unpleased noFn
  have a_BadHouse := a_BadHouse noFn
  have xf_Unpleased := xf_Unpleased noFn
  have hm_Torn_holds := hm_Torn_holds noFn
  have hm_House_wishes := hm_House_wishes noFn
  have hc_House := hc_House noFn
  have g_settled := g_settled noFn
  have g_keeping := g_keeping noFn
  have c_House := c_House noFn
  have c_Torn := c_Torn noFn
  have c_Pleased := c_Pleased noFn
  have m_Torn_holds := m_Torn_holds noFn
  have m_Pleased_holds := m_Pleased_holds noFn
  exact ⟨_, (dtl_cons (ds_set false 4 nd (de_makeX c_House (hr.mono (by decide)) takes0 (da_cons de_int (da_cons (de_lst (da_cons (de_tup (da_cons (de_var 0) (da_cons (de_var 0) da_nil))) (da_cons (de_tup (da_cons (de_var 1) (da_cons (de_var 1) da_nil))) da_nil))) da_nil))))
  (dtl_cons (ds_set false 5 nd (de_lst (da_cons (de_tup (da_cons (de_lst (da_cons (de_var 0) (da_cons (de_var 1) da_nil))) (da_cons (de_lst (da_cons (de_var 1) (da_cons (de_var 0) da_nil))) (da_cons de_bl da_nil)))) (da_cons (de_tup (da_cons (de_lst (da_cons (de_var 1) (da_cons (de_var 0) da_nil))) (da_cons (de_lst (da_cons (de_var 0) (da_cons (de_var 1) da_nil))) (da_cons de_bl da_nil)))) da_nil))))
  (dtl_cons (ds_set false 5 nd (de_add (de_var 5) (de_lst (da_cons (de_tup (da_cons (de_lst (da_cons (de_var 0) (da_cons (de_var 1) da_nil))) (da_cons (de_lst (da_cons (de_var 0) (da_cons (de_var 1) da_nil))) (da_cons de_bl da_nil)))) (da_cons (de_tup (da_cons (de_lst (da_cons (de_var 0) da_nil)) (da_cons (de_lst (da_cons (de_var 1) da_nil)) (da_cons de_bl da_nil)))) da_nil)))))
  (dtl_cons (ds_set false 5 nd (de_add (de_var 5) (de_lst (da_cons (de_tup (da_cons (de_lst (da_cons (de_var 0) (da_cons (de_var 1) da_nil))) (da_cons (de_lst da_nil) (da_cons de_bl da_nil)))) (da_cons (de_tup (da_cons (de_lst (da_cons (de_var 0) (da_cons (de_var 1) (da_cons (de_var 0) (da_cons (de_var 1) da_nil))))) (da_cons (de_lst (da_cons (de_var 1) (da_cons (de_var 0) da_nil))) (da_cons de_bl da_nil)))) da_nil)))))
  (dtl_cons (ds_set false 5 nd (de_add (de_var 5) (de_lst (da_cons (de_tup (da_cons (de_lst (da_cons (de_var 2) (da_cons (de_var 3) da_nil))) (da_cons (de_lst (da_cons (de_var 3) (da_cons (de_var 2) da_nil))) (da_cons de_bl da_nil)))) (da_cons (de_tup (da_cons (de_lst (da_cons (de_var 0) (da_cons (de_var 1) da_nil))) (da_cons (de_lst (da_cons (de_var 1) (da_cons (de_var 3) da_nil))) (da_cons de_bl da_nil)))) da_nil)))))
  (dtl_cons (ds_for (passes_of rfl) rfl (di_list (de_var 5)) (dg_tup rfl (dgs_cons (dg_name 6 nd) (dgs_cons (dg_name 7 nd) (dgs_cons (dg_name 8 nd) dgs_nil)))) (dss_one (ds_if (dt_cmp (cv_ne hr) (de_methX m_Torn_holds (hr.mono (by decide)) takes0 (de_makeX0 c_Torn (hr.mono (by decide)) takes0 (da_cons (de_var 6) (da_cons (de_var 7) da_nil))) (da_cons (de_var 4) da_nil)) (de_var 8)) (dss_one (ds_ret de_bl)) dss_nil)))
  (dtl_cons (ds_if (dt_val (de_methX m_Pleased_holds (hr.mono (by decide)) takes0 (de_makeX0 c_Pleased (hr.mono (by decide)) takes0 (da_cons (de_mul (de_lst (da_cons de_bl da_nil)) de_int) da_nil)) (da_cons (de_var 4) da_nil))) (dss_one (ds_ret de_bl)) dss_nil)
  (dtl_cons (ds_if (dt_val (de_methX m_Torn_holds (hr.mono (by decide)) takes0 (de_makeX0 c_Torn (hr.mono (by decide)) takes0 (da_cons (de_lst (da_cons (de_var 0) (da_cons (de_var 1) da_nil))) (da_cons (de_lst (da_cons (de_var 1) (da_cons (de_var 0) da_nil))) da_nil))) (da_cons (de_makeX c_House (hr.mono (by decide)) takes0 (da_cons de_int (da_cons (de_lst (da_cons (de_tup (da_cons (de_var 0) (da_cons (de_var 0) da_nil))) da_nil)) da_nil))) da_nil))) (dss_one (ds_ret de_bl)) dss_nil)
  (dtl_cons (ds_if (dt_val (de_methX m_Torn_holds (hr.mono (by decide)) takes0 (de_makeX0 c_Torn (hr.mono (by decide)) takes0 (da_cons (de_lst (da_cons (de_var 1) (da_cons (de_var 0) da_nil))) (da_cons (de_lst (da_cons (de_var 0) (da_cons (de_var 1) da_nil))) da_nil))) (da_cons (de_makeX c_House (hr.mono (by decide)) takes0 (da_cons de_int (da_cons (de_lst da_nil) da_nil))) da_nil))) (dss_one (ds_ret de_bl)) dss_nil)
  (dtl_lams _ _ (fun _ _ _ h => h) (ps_set nd rfl (.inl rfl) (pe_lst (pa_cons (pe_lam TB rfl (LamX.lamS_by (sc := defScope s__law_torn_right) (by decide +kernel))) pa_nil))) (ps_expr (pe_bm PySem.F.plainAttrs_list PySem.F.slot_list_append PySem.F.type_list_append mt_append (pe_var rfl (.inl rfl)) (pa_cons (pe_lam TB rfl (LamX.lamS_by (sc := defScope s__law_torn_right) (by decide +kernel))) pa_nil))) h2))))))))))⟩
theorem sc__law_told_right : FnScope N__law_told_right P__law_told_right (defScope s__law_told_right) := ⟨rfl, rfl, rfl, by decide +kernel, rfl, by decide +kernel, by decide +kernel⟩
theorem ok__law_told_right {f Pt : Addr} {oc kV doc pm ct : Value} {an od : Option Addr} {osl : Array (Option Value)} {cdv : Value} (lk : K.lookup f = some ⟨oc, od, .func (PySem.W.fnOf "_law_told_right" "_law_told_right" (defArgs s__law_told_right) (defBody s__law_told_right) (defScope s__law_told_right) .none kV doc pm an cdv ct), osl⟩) (hcd : PySem.W.codeIn K cdv "_law_told_right" = true) (B : Bt mg)
    (t__law_torn_right : FnT P w K T mg base (L2N.CX P w) Pt "_law_torn_right" 17 OK__law_torn_right)
    (g_telling : FnD P w K T mg base (L2N.CX P w) "telling" 12 F_telling)
    (g_how_many : FnD P w K T mg base (L2N.CX P w) "how_many" 4 F_how_many)
    (c_House : ClD P w K T mg base (L2N.CX P w) "House" 0 6 M_House)
    (c_Pleased : ClD P w K T mg base (L2N.CX P w) "Pleased" 1 2 M_Pleased)
    (o_Pleased : IsD mg K T "Pleased" L_Pleased)
    (m_Clash_holds : MtD P w K T mg base (L2N.CX P w) 3 "holds" 8 F_Clash_holds)
    (m_Torn_holds : MtD P w K T mg base (L2N.CX P w) 2 "holds" 8 F_Torn_holds)
    (m_Pleased_holds : MtD P w K T mg base (L2N.CX P w) 1 "holds" 4 F_Pleased_holds) :
    FnOk P w K mg base (L2N.CX P w) 19 f (PySem.W.fnOf "_law_told_right" "_law_told_right" (defArgs s__law_told_right) (defBody s__law_told_right) (defScope s__law_told_right) .none kV doc pm an cdv ct) P__law_told_right (spT ⟨K, T, P, w⟩ Pt OK__law_told_right) := by
  refine fn_tail (k := 18) lk hcd sc__law_told_right rfl rfl fun A outer s H E hr => ?_
  have nd := sc__law_told_right.nd
  exact ⟨_, (dtl_cons (ds_asg (de_tup (da_cons (de_tup (da_cons (de_var 0) (da_cons de_bl da_nil))) (da_cons (de_tup (da_cons (de_var 0) (da_cons de_bl da_nil))) (da_cons (de_tup (da_cons (de_mod (de_add (de_var 0) de_int) de_int) (da_cons de_bl da_nil))) (da_cons (de_tup (da_cons (de_mod (de_add (de_var 0) de_int) de_int) (da_cons de_bl da_nil))) da_nil))))) (dg_tup rfl (dgs_cons (dg_name 1 nd) (dgs_cons (dg_name 2 nd) (dgs_cons (dg_name 3 nd) (dgs_cons (dg_name 4 nd) dgs_nil))))))
  (dtl_cons (ds_set false 5 nd (de_lst (da_cons (de_tup (da_cons (de_lst da_nil) (da_cons de_int da_nil))) (da_cons (de_tup (da_cons (de_lst (da_cons (de_tup (da_cons (de_var 1) (da_cons (de_var 1) da_nil))) da_nil)) (da_cons de_int da_nil))) (da_cons (de_tup (da_cons (de_lst (da_cons (de_tup (da_cons (de_var 1) (da_cons (de_var 2) da_nil))) da_nil)) (da_cons de_int da_nil))) (da_cons (de_tup (da_cons (de_lst (da_cons (de_tup (da_cons (de_var 1) (da_cons (de_var 3) da_nil))) da_nil)) (da_cons de_int da_nil))) da_nil))))))
  (dtl_cons (ds_set false 5 nd (de_add (de_var 5) (de_lst (da_cons (de_tup (da_cons (de_lst (da_cons (de_tup (da_cons (de_var 1) (da_cons (de_var 1) da_nil))) (da_cons (de_tup (da_cons (de_var 2) (da_cons (de_var 3) da_nil))) da_nil))) (da_cons de_int da_nil))) (da_cons (de_tup (da_cons (de_lst (da_cons (de_tup (da_cons (de_var 1) (da_cons (de_var 1) da_nil))) (da_cons (de_tup (da_cons (de_var 2) (da_cons (de_var 2) da_nil))) da_nil))) (da_cons de_int da_nil))) da_nil)))))
  (dtl_cons (ds_set false 5 nd (de_add (de_var 5) (de_lst (da_cons (de_tup (da_cons (de_lst (da_cons (de_tup (da_cons (de_var 1) (da_cons (de_var 3) da_nil))) (da_cons (de_tup (da_cons (de_var 2) (da_cons (de_var 3) da_nil))) da_nil))) (da_cons de_int da_nil))) da_nil))))
  (dtl_cons (ds_for (passes_of rfl) rfl (di_list (de_var 5)) (dg_tup rfl (dgs_cons (dg_name 6 nd) (dgs_cons (dg_name 7 nd) dgs_nil))) (dss_cons (ds_set false 8 nd (de_makeX c_House (hr.mono (by decide)) takes0 (da_cons de_int (da_cons (de_var 6) da_nil))))
  (dss_cons (ds_set false 9 nd (de_callX g_telling (hr.mono (by decide)) takes0 (da_cons (de_var 8) da_nil)))
  (dss_cons (ds_if (dt_cmp (cv_ne hr) (de_callX g_how_many (hr.mono (by decide)) takes0 (da_cons (de_var 8) da_nil)) (de_var 7)) (dss_one (ds_ret de_bl)) dss_nil)
  (dss_cons (ds_if (dt_cmp (cv_ne hr) (de_isO B.b_isinstance o_Pleased (de_var 9)) (de_cmp cv_gt (de_var 7) de_int)) (dss_one (ds_ret de_bl)) dss_nil)
  (dss_one (ds_if (dt_cmp cv_notB (de_orr (de_methX m_Pleased_holds (hr.mono (by decide)) takes0 (de_var 9) (da_cons (de_var 8) da_nil)) (de_orr (de_methX m_Torn_holds (hr.mono (by decide)) takes0 (de_var 9) (da_cons (de_var 8) da_nil)) (de_methX m_Clash_holds (hr.mono (by decide)) takes0 (de_var 9) (da_cons (de_var 8) da_nil)))) de_bl) (dss_one (ds_ret de_bl)) dss_nil)))))))
  (dtl_cons (ds_set false 5 nd (de_lst (da_cons (de_tup (da_cons (de_mul (de_lst (da_cons de_bl da_nil)) de_int) (da_cons de_bl da_nil))) (da_cons (de_tup (da_cons (de_lc [("_law_at", 10)] [10] rfl nd (di_range1 B.b_range (da_cons de_int da_nil)) (blkOk_by (N := N__law_told_right) (sc := defScope s__law_told_right) (by decide +kernel)) (fun _ _ _ _ _ => ⟨_, (dg_name 10 nd)⟩) (fun _ _ _ _ _ => ⟨_, dts_nil⟩) (fun _ _ _ _ _ => ⟨_, (de_cmp (cv_eq hr) (de_var 10) (de_var 0))⟩)) (da_cons de_bl da_nil))) (da_cons (de_tup (da_cons (de_mul (de_lst (da_cons de_bl da_nil)) de_int) (da_cons de_bl da_nil))) da_nil)))))
  (dtl_cons (ds_set false 5 nd (de_add (de_var 5) (de_lst (da_cons (de_tup (da_cons (de_mul (de_lst (da_cons de_bl da_nil)) de_int) (da_cons de_bl da_nil))) (da_cons (de_tup (da_cons (de_mul (de_lst (da_cons de_bl da_nil)) de_int) (da_cons de_bl da_nil))) (da_cons (de_tup (da_cons (de_lst da_nil) (da_cons de_bl da_nil))) da_nil))))))
  (dtl_cons (ds_for (passes_of rfl) rfl (di_list (de_var 5)) (dg_tup rfl (dgs_cons (dg_name 11 nd) (dgs_cons (dg_name 12 nd) dgs_nil))) (dss_one (ds_if (dt_cmp (cv_ne hr) (de_methX m_Pleased_holds (hr.mono (by decide)) takes0 (de_makeX0 c_Pleased (hr.mono (by decide)) takes0 (da_cons (de_var 11) da_nil)) (da_cons (de_makeX c_House (hr.mono (by decide)) takes0 (da_cons de_int (da_cons (de_lst (da_cons (de_tup (da_cons (de_var 1) (da_cons (de_var 1) da_nil))) da_nil)) da_nil))) da_nil)) (de_var 12)) (dss_one (ds_ret de_bl)) dss_nil)))
  (dtl_ret t__law_torn_right (hr.mono (by decide)) (da_cons (de_var 1) (da_cons (de_var 2) (da_cons (de_var 3) (da_cons (de_var 4) da_nil)))))))))))))⟩
theorem sc_law : FnScope N_law P_law (defScope s_law) := ⟨rfl, rfl, rfl, by decide +kernel, rfl, by decide +kernel, by decide +kernel⟩
theorem ok_law {f Pt : Addr} {oc kV doc pm ct : Value} {an od : Option Addr} {osl : Array (Option Value)} {cdv : Value} (lk : K.lookup f = some ⟨oc, od, .func (PySem.W.fnOf "law" "law" (defArgs s_law) (defBody s_law) (defScope s_law) .none kV doc pm an cdv ct), osl⟩) (hcd : PySem.W.codeIn K cdv "law" = true) (B : Bt mg)
    (t__law_told_right : FnT P w K T mg base (L2N.CX P w) Pt "_law_told_right" 19 OK__law_told_right)
    (g__law_chains_right : FnD P w K T mg base (L2N.CX P w) "_law_chains_right" 13 F__law_chains_right)
    (g__law_kept_right : FnD P w K T mg base (L2N.CX P w) "_law_kept_right" 18 F__law_kept_right)
    (g__law_texts_right : FnD P w K T mg base (CXL P w) "_law_texts_right" 11 F__law_texts_right) :
    FnOk P w K mg base CX0 21 f (PySem.W.fnOf "law" "law" (defArgs s_law) (defBody s_law) (defScope s_law) .none kV doc pm an cdv ct) P_law (spT ⟨K, T, P, w⟩ Pt OK_law) := by
  refine fn_tail (k := 20) lk hcd sc_law rfl rfl fun A outer s H E hr => ?_
  have nd := sc_law.nd
  exact ⟨_, (dtl_cons (ds_set false 1 nd (de_if (dt_cmp (cv_neS hr) (de_var 0) (de_lst da_nil)) (de_mod (de_callB bi_abs B.b_abs (da_cons (de_ixA hr (de_var 0) de_int) da_nil)) de_int) de_int))
  (dtl_law (de_callX g__law_chains_right (hr.mono (by decide)) takes0 (da_cons (de_var 1) da_nil)) t__law_told_right (hr.mono (by decide)) (da_cons (de_var 1) da_nil) (de_and (de_callX g__law_kept_right (hr.mono (by decide)) takes0 (da_cons (de_var 1) da_nil)) (de_one (de_callL g__law_texts_right (hr.mono (by decide)) tkl0 (da_cons (de_var 1) da_nil))))))⟩
theorem sc_Unpleased_init : FnScope N_Unpleased_init P_Unpleased_init (defScope s_Unpleased_init) := ⟨rfl, rfl, rfl, by decide +kernel, rfl, by decide +kernel, by decide +kernel⟩
theorem ok_Unpleased_init {f C : Addr} {fd : FuncData} (F : Fun K "__init__" "Unpleased.__init__" s_Unpleased_init f fd) (w0 : BsI mg K "WishError") (O : OexC K C) (no : PySem.W.findIn K (.ref C) "torn" = some none) : FnOk P w K mg base CX0 1 f fd P_Unpleased_init (spXI C "torn") :=
  fn_xinit F sc_Unpleased_init rfl rfl O no fun cdv A outer s H => pss_cons (ps_expr (pe_baseInit w0 (pa_cons (pe_var rfl (.inl rfl)) (pa_cons pe_str pa_nil)))) (pss_one (ps_ost (pe_var rfl (.inl rfl)) (pe_var rfl (.inl rfl))))
theorem sc_BadText_init : FnScope N_BadText_init P_BadText_init (defScope s_BadText_init) := ⟨rfl, rfl, rfl, by decide +kernel, rfl, by decide +kernel, by decide +kernel⟩
theorem ok_BadText_init {f C : Addr} {fd : FuncData} (F : Fun K "__init__" "BadText.__init__" s_BadText_init f fd) (w0 : BsI mg K "WishError") (O : OexC K C) (no : PySem.W.findIn K (.ref C) "place" = some none) : FnOk P w K mg base CX0 1 f fd P_BadText_init (spXI C "place") :=
  fn_xinit F sc_BadText_init rfl rfl O no fun cdv A outer s H => pss_cons (ps_expr (pe_baseInit w0 (pa_cons (pe_var rfl (.inl rfl)) (pa_cons pe_str pa_nil)))) (pss_one (ps_ost (pe_var rfl (.inl rfl)) (pe_var rfl (.inl rfl))))
theorem okH_BadText_init {f C : Addr} {fd : FuncData} (F : Fun K "__init__" "BadText.__init__" s_BadText_init f fd) (w0 : BsI mg K "WishError") (O : OexC K C) (no : PySem.W.findIn K (.ref C) "place" = some none) : L2H.FnH P w K mg base CX0 1 f fd P_BadText_init (spXI C "place") :=
  fnH_xinit F sc_BadText_init rfl rfl O no fun cdv A outer s H E p => pss_cons (ps_expr (pe_baseInit w0 (pa_cons (pe_var rfl (.inl rfl)) (pa_cons pe_str pa_nil)))) (pss_one (ps_ost (pe_var rfl (.inl rfl)) (pe_var rfl (.inl rfl))))
end
end Toy
namespace Toy
open PySem L2 DL
def spLaw (K : PySem.W.Frag) (Pt : Addr) : Sp := fun vs H Q _ => ∃ (a : Addr) (ns : List Int), vs = [.ref a] ∧ SqL K H a (ns.map V.int) ∧ ns.length ≤ 63 ∧ H Pt = some (.tbl #[]) ∧ ∀ H', Q (.bl true) H'
theorem law_imp {p : Pw} {Pt : Addr} {vs : List V} {H : Hp} {Q : VK} {E : XK} (h : spLaw p.K Pt vs H Q E) : spT p Pt OK_law vs H Q E := by
  obtain ⟨a, ns, rfl, hs, hl, hP, k⟩ := h
  exact ⟨H, [.scr ns], Evl.Ex.refl _, .cons (.scr hs) .nil, law_true ns hl, hP, k⟩
theorem all_mk {l : PySem.W.OpenLaw} {w : World} {K : PySem.W.Frag} {h : Heap} {mg : PySem.Str → Option Value} {fa CHouse CPleased CTorn CClash CUnpleased CWishError CBadText CBadHouse fXUnpleased fXBadText f0 f1 f2 f3 f4 f5 f6 f7 f8 f9 f10 f11 f12 f13 f14 f15 f16 f17 f18 f19 f20 f21 f22 f23 f24 f25 f26 f27 f28 f29 f30 f31 f32 f33 f34 f35 f36 f37 f38 f39 f40 f41 : Addr} (X : K.In h) (G : h.Ns mainGlobals mg) (hfa : mg "law" = some (.ref fa))
    {odXUnpleased anXUnpleased : Option Addr} {slXUnpleased : Array (Option Value)} {ocXUnpleased kVXUnpleased dcXUnpleased pmXUnpleased cdXUnpleased ctXUnpleased : Value} {odXBadText anXBadText : Option Addr} {slXBadText : Array (Option Value)} {ocXBadText kVXBadText dcXBadText pmXBadText cdXBadText ctXBadText : Value} {od0 an0 : Option Addr} {sl0 : Array (Option Value)} {oc0 kV0 dc0 pm0 cd0 ct0 : Value} {od1 an1 : Option Addr} {sl1 : Array (Option Value)} {oc1 kV1 dc1 pm1 cd1 ct1 : Value} {od2 an2 : Option Addr} {sl2 : Array (Option Value)} {oc2 kV2 dc2 pm2 cd2 ct2 : Value} {od3 an3 : Option Addr} {sl3 : Array (Option Value)} {oc3 kV3 dc3 pm3 cd3 ct3 : Value} {od4 an4 : Option Addr} {sl4 : Array (Option Value)} {oc4 kV4 dc4 pm4 cd4 ct4 : Value} {od5 an5 : Option Addr} {sl5 : Array (Option Value)} {oc5 kV5 dc5 pm5 cd5 ct5 : Value} {od6 an6 : Option Addr} {sl6 : Array (Option Value)} {oc6 kV6 dc6 pm6 cd6 ct6 : Value} {od7 an7 : Option Addr} {sl7 : Array (Option Value)} {oc7 kV7 dc7 pm7 cd7 ct7 : Value} {od8 an8 : Option Addr} {sl8 : Array (Option Value)} {oc8 kV8 dc8 pm8 cd8 ct8 : Value} {od9 an9 : Option Addr} {sl9 : Array (Option Value)} {oc9 kV9 dc9 pm9 cd9 ct9 : Value} {od10 an10 : Option Addr} {sl10 : Array (Option Value)} {oc10 kV10 dc10 pm10 cd10 ct10 : Value} {od11 an11 : Option Addr} {sl11 : Array (Option Value)} {oc11 kV11 dc11 pm11 cd11 ct11 : Value} {od12 an12 : Option Addr} {sl12 : Array (Option Value)} {oc12 kV12 dc12 pm12 cd12 ct12 : Value} {od13 an13 : Option Addr} {sl13 : Array (Option Value)} {oc13 kV13 dc13 pm13 cd13 ct13 : Value} {od14 an14 : Option Addr} {sl14 : Array (Option Value)} {oc14 kV14 dc14 pm14 cd14 ct14 : Value} {od15 an15 : Option Addr} {sl15 : Array (Option Value)} {oc15 kV15 dc15 pm15 cd15 ct15 : Value} {od16 an16 : Option Addr} {sl16 : Array (Option Value)} {oc16 kV16 dc16 pm16 cd16 ct16 : Value} {od17 an17 : Option Addr} {sl17 : Array (Option Value)} {oc17 kV17 dc17 pm17 cd17 ct17 : Value} {od18 an18 : Option Addr} {sl18 : Array (Option Value)} {oc18 kV18 dc18 pm18 cd18 ct18 : Value} {od19 an19 : Option Addr} {sl19 : Array (Option Value)} {oc19 kV19 dc19 pm19 cd19 ct19 : Value} {od20 an20 : Option Addr} {sl20 : Array (Option Value)} {oc20 kV20 dc20 pm20 cd20 ct20 : Value} {od21 an21 : Option Addr} {sl21 : Array (Option Value)} {oc21 kV21 dc21 pm21 cd21 ct21 : Value} {od22 an22 : Option Addr} {sl22 : Array (Option Value)} {oc22 kV22 dc22 pm22 cd22 ct22 : Value} {od23 an23 : Option Addr} {sl23 : Array (Option Value)} {oc23 kV23 dc23 pm23 cd23 ct23 : Value} {od24 an24 : Option Addr} {sl24 : Array (Option Value)} {oc24 kV24 dc24 pm24 cd24 ct24 : Value} {od25 an25 : Option Addr} {sl25 : Array (Option Value)} {oc25 kV25 dc25 pm25 cd25 ct25 : Value} {od26 an26 : Option Addr} {sl26 : Array (Option Value)} {oc26 kV26 dc26 pm26 cd26 ct26 : Value} {od27 an27 : Option Addr} {sl27 : Array (Option Value)} {oc27 kV27 dc27 pm27 cd27 ct27 : Value} {od28 an28 : Option Addr} {sl28 : Array (Option Value)} {oc28 kV28 dc28 pm28 cd28 ct28 : Value} {od29 an29 : Option Addr} {sl29 : Array (Option Value)} {oc29 kV29 dc29 pm29 cd29 ct29 : Value} {od30 an30 : Option Addr} {sl30 : Array (Option Value)} {oc30 kV30 dc30 pm30 cd30 ct30 : Value} {od31 an31 : Option Addr} {sl31 : Array (Option Value)} {oc31 kV31 dc31 pm31 cd31 ct31 : Value} {od32 an32 : Option Addr} {sl32 : Array (Option Value)} {oc32 kV32 dc32 pm32 cd32 ct32 : Value} {od33 an33 : Option Addr} {sl33 : Array (Option Value)} {oc33 kV33 dc33 pm33 cd33 ct33 : Value} {od34 an34 : Option Addr} {sl34 : Array (Option Value)} {oc34 kV34 dc34 pm34 cd34 ct34 : Value} {od35 an35 : Option Addr} {sl35 : Array (Option Value)} {oc35 kV35 dc35 pm35 cd35 ct35 : Value} {od36 an36 : Option Addr} {sl36 : Array (Option Value)} {oc36 kV36 dc36 pm36 cd36 ct36 : Value} {od37 an37 : Option Addr} {sl37 : Array (Option Value)} {oc37 kV37 dc37 pm37 cd37 ct37 : Value} {od38 an38 : Option Addr} {sl38 : Array (Option Value)} {oc38 kV38 dc38 pm38 cd38 ct38 : Value} {od39 an39 : Option Addr} {sl39 : Array (Option Value)} {oc39 kV39 dc39 pm39 cd39 ct39 : Value} {od40 an40 : Option Addr} {sl40 : Array (Option Value)} {oc40 kV40 dc40 pm40 cd40 ct40 : Value} {od41 an41 : Option Addr} {sl41 : Array (Option Value)} {oc41 kV41 dc41 pm41 cd41 ct41 : Value} {cT PT : Addr} {eT : Value} {ddT : Option Addr} {vsT : Array Value} {slT : Array (Option Value)}
    (aCHouse : PySem.W.nsIn K mainGlobals "House" = some (some (.ref CHouse)))
    (pgHouse : PySem.W.plainGet K CHouse Str.empty = true)
    (hdHouse : PySem.W.hasDictIn K CHouse = true)
    (poHouse : PySem.W.plainOver K CHouse = true)
    (saHouse : PySem.W.findIn K (.ref CHouse) "__setattr__" = some (some (.builtin "object.__setattr__")))
    (mkHouse : PySem.W.makesIn K CHouse = true)
    (kcHouse : PySem.W.keepIn K (.ref CHouse) = true)
    (nHouse_names : PySem.W.findIn K (.ref CHouse) "names" = some none)
    (nHouse_rows : PySem.W.findIn K (.ref CHouse) "rows" = some none)
    (aCPleased : PySem.W.nsIn K mainGlobals "Pleased" = some (some (.ref CPleased)))
    (pgPleased : PySem.W.plainGet K CPleased Str.empty = true)
    (hdPleased : PySem.W.hasDictIn K CPleased = true)
    (poPleased : PySem.W.plainOver K CPleased = true)
    (saPleased : PySem.W.findIn K (.ref CPleased) "__setattr__" = some (some (.builtin "object.__setattr__")))
    (mkPleased : PySem.W.makesIn K CPleased = true)
    (kcPleased : PySem.W.keepIn K (.ref CPleased) = true)
    (nPleased_choice : PySem.W.findIn K (.ref CPleased) "choice" = some none)
    (aCTorn : PySem.W.nsIn K mainGlobals "Torn" = some (some (.ref CTorn)))
    (pgTorn : PySem.W.plainGet K CTorn Str.empty = true)
    (hdTorn : PySem.W.hasDictIn K CTorn = true)
    (poTorn : PySem.W.plainOver K CTorn = true)
    (saTorn : PySem.W.findIn K (.ref CTorn) "__setattr__" = some (some (.builtin "object.__setattr__")))
    (mkTorn : PySem.W.makesIn K CTorn = true)
    (kcTorn : PySem.W.keepIn K (.ref CTorn) = true)
    (nTorn_there : PySem.W.findIn K (.ref CTorn) "there" = some none)
    (nTorn_back : PySem.W.findIn K (.ref CTorn) "back" = some none)
    (aCClash : PySem.W.nsIn K mainGlobals "Clash" = some (some (.ref CClash)))
    (pgClash : PySem.W.plainGet K CClash Str.empty = true)
    (hdClash : PySem.W.hasDictIn K CClash = true)
    (poClash : PySem.W.plainOver K CClash = true)
    (saClash : PySem.W.findIn K (.ref CClash) "__setattr__" = some (some (.builtin "object.__setattr__")))
    (mkClash : PySem.W.makesIn K CClash = true)
    (kcClash : PySem.W.keepIn K (.ref CClash) = true)
    (nClash_words : PySem.W.findIn K (.ref CClash) "words" = some none)
    (nClash_links : PySem.W.findIn K (.ref CClash) "links" = some none)
    (hnI : PySem.W.specialIn K (.builtin "object.__class__") "__get__" = some (some (.builtin "getset_descriptor.__get__"))) (htI : PySem.W.takesIn K (.builtin "object.__class__") = some true)
    (haPleased : PySem.W.findIn K (.ref CPleased) "__class__" = some (some (.builtin "object.__class__"))) (hmPleased : PySem.W.mroIn K CPleased (.type "object") = some true)
    (qPleased_Pleased : PySem.W.subIn K (.ref CPleased) (.ref CPleased) = some true)
    (qPleased_Clash : PySem.W.subIn K (.ref CPleased) (.ref CClash) = some false)
    (wPleased_Clash : (CPleased == CClash) = false)
    (haTorn : PySem.W.findIn K (.ref CTorn) "__class__" = some (some (.builtin "object.__class__"))) (hmTorn : PySem.W.mroIn K CTorn (.type "object") = some true)
    (qTorn_Pleased : PySem.W.subIn K (.ref CTorn) (.ref CPleased) = some false)
    (wTorn_Pleased : (CTorn == CPleased) = false)
    (qTorn_Clash : PySem.W.subIn K (.ref CTorn) (.ref CClash) = some false)
    (wTorn_Clash : (CTorn == CClash) = false)
    (haClash : PySem.W.findIn K (.ref CClash) "__class__" = some (some (.builtin "object.__class__"))) (hmClash : PySem.W.mroIn K CClash (.type "object") = some true)
    (qClash_Pleased : PySem.W.subIn K (.ref CClash) (.ref CPleased) = some false)
    (wClash_Pleased : (CClash == CPleased) = false)
    (qClash_Clash : PySem.W.subIn K (.ref CClash) (.ref CClash) = some true)
    (xcPleased : PySem.W.isClsIn K CPleased = true) (xtPleased : PySem.W.typeIn K (.ref CPleased) = some (.type "type"))
    (xcClash : PySem.W.isClsIn K CClash = true) (xtClash : PySem.W.typeIn K (.ref CClash) = some (.type "type"))
    (aCUnpleased : PySem.W.nsIn K mainGlobals "Unpleased" = some (some (.ref CUnpleased)))
    (kcUnpleased : PySem.W.keepIn K (.ref CUnpleased) = true)
    (xbUnpleased : PySem.W.subIn K (.ref CUnpleased) (.type "BaseException") = some true)
    (xtUnpleased : PySem.W.typeIn K (.ref CUnpleased) = some (.type "type"))
    (xiUnpleased : PySem.W.excInitIn K CUnpleased [.type "ValueError", .type "Exception", .type "BaseException", .type "object"] "ValueError.__new__" = true)
    (xhUnpleased : PySem.W.hasDictIn K CUnpleased = true)
    (xsUnpleased : PySem.W.findIn K (.ref CUnpleased) "__setattr__" = some (some (.builtin "object.__setattr__")))
    (xnUnpleased : PySem.W.findIn K (.ref CUnpleased) "torn" = some none)
    (xfUnpleased : PySem.W.findIn K (.ref CUnpleased) "__init__" = some (some (.ref fXUnpleased)))
    (xyUnpleased : PySem.W.typeIn K (.ref fXUnpleased) = some (.type "function"))
    (xlUnpleased : K.lookup fXUnpleased = some ⟨ocXUnpleased, odXUnpleased, .func (PySem.W.fnOf "__init__" "Unpleased.__init__" (defArgs s_Unpleased_init) (defBody s_Unpleased_init) (defScope s_Unpleased_init) .none kVXUnpleased dcXUnpleased pmXUnpleased anXUnpleased cdXUnpleased ctXUnpleased), slXUnpleased⟩)
    (xdUnpleased : PySem.W.codeIn K cdXUnpleased "Unpleased.__init__" = true)
    (xkUnpleased : PySem.W.keepIn K (.ref fXUnpleased) = true)
    (aCWishError : PySem.W.nsIn K mainGlobals "WishError" = some (some (.ref CWishError)))
    (xr0 : PySem.W.readsIn K CWishError (.type "type") = true)
    (xr1 : PySem.W.specialIn K (.ref CWishError) "__getattribute__" = some (some (.builtin "type.__getattribute__")))
    (xr2 : PySem.W.findCls K (.ref CWishError) (.type "type") "__init__" = some (.val (.builtin "ValueError.__init__")))
    (xcUnpleased : PySem.W.isClsIn K CUnpleased = true)
    (xgUnpleased : PySem.W.findIn K (.ref CUnpleased) "__getattribute__" = some (some (.builtin "BaseException.__getattribute__")))
    (xqUnpleased : PySem.W.findIn K (.ref CUnpleased) "__getattr__" = some none)
    (haUnpleased : PySem.W.findIn K (.ref CUnpleased) "__class__" = some (some (.builtin "object.__class__")))
    (hmUnpleased : PySem.W.mroIn K CUnpleased (.type "object") = some true)
    (aCBadText : PySem.W.nsIn K mainGlobals "BadText" = some (some (.ref CBadText)))
    (kcBadText : PySem.W.keepIn K (.ref CBadText) = true)
    (xbBadText : PySem.W.subIn K (.ref CBadText) (.type "BaseException") = some true)
    (xtBadText : PySem.W.typeIn K (.ref CBadText) = some (.type "type"))
    (xiBadText : PySem.W.excInitIn K CBadText [.type "ValueError", .type "Exception", .type "BaseException", .type "object"] "ValueError.__new__" = true)
    (xhBadText : PySem.W.hasDictIn K CBadText = true)
    (xsBadText : PySem.W.findIn K (.ref CBadText) "__setattr__" = some (some (.builtin "object.__setattr__")))
    (xnBadText : PySem.W.findIn K (.ref CBadText) "place" = some none)
    (xfBadText : PySem.W.findIn K (.ref CBadText) "__init__" = some (some (.ref fXBadText)))
    (xyBadText : PySem.W.typeIn K (.ref fXBadText) = some (.type "function"))
    (xlBadText : K.lookup fXBadText = some ⟨ocXBadText, odXBadText, .func (PySem.W.fnOf "__init__" "BadText.__init__" (defArgs s_BadText_init) (defBody s_BadText_init) (defScope s_BadText_init) .none kVXBadText dcXBadText pmXBadText anXBadText cdXBadText ctXBadText), slXBadText⟩)
    (xdBadText : PySem.W.codeIn K cdXBadText "BadText.__init__" = true)
    (xkBadText : PySem.W.keepIn K (.ref fXBadText) = true)
    (xcBadText : PySem.W.isClsIn K CBadText = true)
    (xgBadText : PySem.W.findIn K (.ref CBadText) "__getattribute__" = some (some (.builtin "BaseException.__getattribute__")))
    (xqBadText : PySem.W.findIn K (.ref CBadText) "__getattr__" = some none)
    (haBadText : PySem.W.findIn K (.ref CBadText) "__class__" = some (some (.builtin "object.__class__")))
    (hmBadText : PySem.W.mroIn K CBadText (.type "object") = some true)
    (aCBadHouse : PySem.W.nsIn K mainGlobals "BadHouse" = some (some (.ref CBadHouse)))
    (kcBadHouse : PySem.W.keepIn K (.ref CBadHouse) = true)
    (xbBadHouse : PySem.W.subIn K (.ref CBadHouse) (.type "BaseException") = some true)
    (xtBadHouse : PySem.W.typeIn K (.ref CBadHouse) = some (.type "type"))
    (xpBadHouse : PySem.W.excIn K CBadHouse [.type "ValueError", .type "Exception", .type "BaseException", .type "object"] "ValueError.__new__" = true)
    (xcBadHouse : PySem.W.isClsIn K CBadHouse = true)
    (xgBadHouse : PySem.W.findIn K (.ref CBadHouse) "__getattribute__" = some (some (.builtin "BaseException.__getattribute__")))
    (xqBadHouse : PySem.W.findIn K (.ref CBadHouse) "__getattr__" = some none)
    (haBadHouse : PySem.W.findIn K (.ref CBadHouse) "__class__" = some (some (.builtin "object.__class__")))
    (hmBadHouse : PySem.W.mroIn K CBadHouse (.type "object") = some true)
    (qUnpleased_BadHouse : PySem.W.subIn K (.ref CUnpleased) (.ref CBadHouse) = some false)
    (wUnpleased_BadHouse : (CUnpleased == CBadHouse) = false)
    (qBadText_BadHouse : PySem.W.subIn K (.ref CBadText) (.ref CBadHouse) = some false)
    (wBadText_BadHouse : (CBadText == CBadHouse) = false)
    (qBadHouse_BadHouse : PySem.W.subIn K (.ref CBadHouse) (.ref CBadHouse) = some true)
    (qUnpleased_BadText : PySem.W.subIn K (.ref CUnpleased) (.ref CBadText) = some false)
    (wUnpleased_BadText : (CUnpleased == CBadText) = false)
    (qBadText_BadText : PySem.W.subIn K (.ref CBadText) (.ref CBadText) = some true)
    (qBadHouse_BadText : PySem.W.subIn K (.ref CBadHouse) (.ref CBadText) = some false)
    (wBadHouse_BadText : (CBadHouse == CBadText) = false)
    (qUnpleased_Unpleased : PySem.W.subIn K (.ref CUnpleased) (.ref CUnpleased) = some true)
    (qBadText_Unpleased : PySem.W.subIn K (.ref CBadText) (.ref CUnpleased) = some false)
    (wBadText_Unpleased : (CBadText == CUnpleased) = false)
    (qBadHouse_Unpleased : PySem.W.subIn K (.ref CBadHouse) (.ref CUnpleased) = some false)
    (wBadHouse_Unpleased : (CBadHouse == CUnpleased) = false)
    (xcWishError : PySem.W.isClsIn K CWishError = true)
    (xtWishError : PySem.W.typeIn K (.ref CWishError) = some (.type "type"))
    (qUnpleased_WishError : PySem.W.subIn K (.ref CUnpleased) (.ref CWishError) = some true)
    (qBadText_WishError : PySem.W.subIn K (.ref CBadText) (.ref CWishError) = some true)
    (qBadHouse_WishError : PySem.W.subIn K (.ref CBadHouse) (.ref CWishError) = some true)
    (xhBadHouse : PySem.W.hasDictIn K CBadHouse = true)
    (xbWishError : PySem.W.subIn K (.ref CWishError) (.type "BaseException") = some true)
    (xhWishError : PySem.W.hasDictIn K CWishError = true)
    (a0 : PySem.W.nsIn K mainGlobals "opposite" = some (some (.ref f0)))
    (l0 : K.lookup f0 = some ⟨oc0, od0, .func (PySem.W.fnOf "opposite" "opposite" (defArgs s_opposite) (defBody s_opposite) (defScope s_opposite) .none kV0 dc0 pm0 an0 cd0 ct0), sl0⟩) (c0 : PySem.W.codeIn K cd0 "opposite" = true) (k0 : PySem.W.keepIn K (.ref f0) = true)
    (a1 : PySem.W.nsIn K mainGlobals "steps" = some (some (.ref f1)))
    (l1 : K.lookup f1 = some ⟨oc1, od1, .func (PySem.W.fnOf "steps" "steps" (defArgs s_steps) (defBody s_steps) (defScope s_steps) .none kV1 dc1 pm1 an1 cd1 ct1), sl1⟩) (c1 : PySem.W.codeIn K cd1 "steps" = true) (k1 : PySem.W.keepIn K (.ref f1) = true)
    (a2 : PySem.W.nsIn K mainGlobals "walked" = some (some (.ref f2)))
    (l2 : K.lookup f2 = some ⟨oc2, od2, .func (PySem.W.fnOf "walked" "walked" (defArgs s_walked) (defBody s_walked) (defScope s_walked) .none kV2 dc2 pm2 an2 cd2 ct2), sl2⟩) (c2 : PySem.W.codeIn K cd2 "walked" = true) (k2 : PySem.W.keepIn K (.ref f2) = true)
    (a3 : PySem.W.nsIn K mainGlobals "within" = some (some (.ref f3)))
    (l3 : K.lookup f3 = some ⟨oc3, od3, .func (PySem.W.fnOf "within" "within" (defArgs s_within) (defBody s_within) (defScope s_within) .none kV3 dc3 pm3 an3 cd3 ct3), sl3⟩) (c3 : PySem.W.codeIn K cd3 "within" = true) (k3 : PySem.W.keepIn K (.ref f3) = true)
    (a4 : PySem.W.nsIn K mainGlobals "is_word" = some (some (.ref f4)))
    (l4 : K.lookup f4 = some ⟨oc4, od4, .func (PySem.W.fnOf "is_word" "is_word" (defArgs s_is_word) (defBody s_is_word) (defScope s_is_word) .none kV4 dc4 pm4 an4 cd4 ct4), sl4⟩) (c4 : PySem.W.codeIn K cd4 "is_word" = true) (k4 : PySem.W.keepIn K (.ref f4) = true)
    (a5 : PySem.W.findIn K (.ref CHouse) "word" = some (some (.ref f5))) (i5 : PySem.W.isFn K (.ref f5) = true)
    (l5 : K.lookup f5 = some ⟨oc5, od5, .func (PySem.W.fnOf "word" "House.word" (defArgs s_House_word) (defBody s_House_word) (defScope s_House_word) .none kV5 dc5 pm5 an5 cd5 ct5), sl5⟩) (c5 : PySem.W.codeIn K cd5 "House.word" = true) (k5 : PySem.W.keepIn K (.ref f5) = true)
    (a6 : PySem.W.nsIn K mainGlobals "follows" = some (some (.ref f6)))
    (l6 : K.lookup f6 = some ⟨oc6, od6, .func (PySem.W.fnOf "follows" "follows" (defArgs s_follows) (defBody s_follows) (defScope s_follows) .none kV6 dc6 pm6 an6 cd6 ct6), sl6⟩) (c6 : PySem.W.codeIn K cd6 "follows" = true) (k6 : PySem.W.keepIn K (.ref f6) = true)
    (a7 : PySem.W.nsIn K mainGlobals "chain" = some (some (.ref f7)))
    (l7 : K.lookup f7 = some ⟨oc7, od7, .func (PySem.W.fnOf "chain" "chain" (defArgs s_chain) (defBody s_chain) (defScope s_chain) .none kV7 dc7 pm7 an7 cd7 ct7), sl7⟩) (c7 : PySem.W.codeIn K cd7 "chain" = true) (k7 : PySem.W.keepIn K (.ref f7) = true)
    (a8 : PySem.W.nsIn K mainGlobals "words_of" = some (some (.ref f8)))
    (l8 : K.lookup f8 = some ⟨oc8, od8, .func (PySem.W.fnOf "words_of" "words_of" (defArgs s_words_of) (defBody s_words_of) (defScope s_words_of) .none kV8 dc8 pm8 an8 cd8 ct8), sl8⟩) (c8 : PySem.W.codeIn K cd8 "words_of" = true) (k8 : PySem.W.keepIn K (.ref f8) = true)
    (a9 : PySem.W.nsIn K mainGlobals "hanging" = some (some (.ref f9)))
    (l9 : K.lookup f9 = some ⟨oc9, od9, .func (PySem.W.fnOf "hanging" "hanging" (defArgs s_hanging) (defBody s_hanging) (defScope s_hanging) .none kV9 dc9 pm9 an9 cd9 ct9), sl9⟩) (c9 : PySem.W.codeIn K cd9 "hanging" = true) (k9 : PySem.W.keepIn K (.ref f9) = true)
    (a10 : PySem.W.nsIn K mainGlobals "check_choice" = some (some (.ref f10)))
    (l10 : K.lookup f10 = some ⟨oc10, od10, .func (PySem.W.fnOf "check_choice" "check_choice" (defArgs s_check_choice) (defBody s_check_choice) (defScope s_check_choice) .none kV10 dc10 pm10 an10 cd10 ct10), sl10⟩) (c10 : PySem.W.codeIn K cd10 "check_choice" = true) (k10 : PySem.W.keepIn K (.ref f10) = true)
    (a11 : PySem.W.nsIn K mainGlobals "pleases" = some (some (.ref f11)))
    (l11 : K.lookup f11 = some ⟨oc11, od11, .func (PySem.W.fnOf "pleases" "pleases" (defArgs s_pleases) (defBody s_pleases) (defScope s_pleases) .none kV11 dc11 pm11 an11 cd11 ct11), sl11⟩) (c11 : PySem.W.codeIn K cd11 "pleases" = true) (k11 : PySem.W.keepIn K (.ref f11) = true)
    (a12 : PySem.W.nsIn K mainGlobals "displeased" = some (some (.ref f12)))
    (l12 : K.lookup f12 = some ⟨oc12, od12, .func (PySem.W.fnOf "displeased" "displeased" (defArgs s_displeased) (defBody s_displeased) (defScope s_displeased) .none kV12 dc12 pm12 an12 cd12 ct12), sl12⟩) (c12 : PySem.W.codeIn K cd12 "displeased" = true) (k12 : PySem.W.keepIn K (.ref f12) = true)
    (a13 : PySem.W.findIn K (.ref CHouse) "__init__" = some (some (.ref f13))) (i13 : PySem.W.isFn K (.ref f13) = true)
    (l13 : K.lookup f13 = some ⟨oc13, od13, .func (PySem.W.fnOf "__init__" "House.__init__" (defArgs s_House_init) (defBody s_House_init) (defScope s_House_init) .none kV13 dc13 pm13 an13 cd13 ct13), sl13⟩) (c13 : PySem.W.codeIn K cd13 "House.__init__" = true) (k13 : PySem.W.keepIn K (.ref f13) = true)
    (a14 : PySem.W.findIn K (.ref CHouse) "wishes" = some (some (.ref f14))) (i14 : PySem.W.isFn K (.ref f14) = true)
    (l14 : K.lookup f14 = some ⟨oc14, od14, .func (PySem.W.fnOf "wishes" "House.wishes" (defArgs s_House_wishes) (defBody s_House_wishes) (defScope s_House_wishes) .none kV14 dc14 pm14 an14 cd14 ct14), sl14⟩) (c14 : PySem.W.codeIn K cd14 "House.wishes" = true) (k14 : PySem.W.keepIn K (.ref f14) = true)
    (a15 : PySem.W.nsIn K mainGlobals "_law_displeased_right" = some (some (.ref f15)))
    (l15 : K.lookup f15 = some ⟨oc15, od15, .func (PySem.W.fnOf "_law_displeased_right" "_law_displeased_right" (defArgs s__law_displeased_right) (defBody s__law_displeased_right) (defScope s__law_displeased_right) .none kV15 dc15 pm15 an15 cd15 ct15), sl15⟩) (c15 : PySem.W.codeIn K cd15 "_law_displeased_right" = true) (k15 : PySem.W.keepIn K (.ref f15) = true)
    (a16 : PySem.W.nsIn K mainGlobals "_law_hanging_right" = some (some (.ref f16)))
    (l16 : K.lookup f16 = some ⟨oc16, od16, .func (PySem.W.fnOf "_law_hanging_right" "_law_hanging_right" (defArgs s__law_hanging_right) (defBody s__law_hanging_right) (defScope s__law_hanging_right) .none kV16 dc16 pm16 an16 cd16 ct16), sl16⟩) (c16 : PySem.W.codeIn K cd16 "_law_hanging_right" = true) (k16 : PySem.W.keepIn K (.ref f16) = true)
    (a17 : PySem.W.nsIn K mainGlobals "_law_chains_right" = some (some (.ref f17)))
    (l17 : K.lookup f17 = some ⟨oc17, od17, .func (PySem.W.fnOf "_law_chains_right" "_law_chains_right" (defArgs s__law_chains_right) (defBody s__law_chains_right) (defScope s__law_chains_right) .none kV17 dc17 pm17 an17 cd17 ct17), sl17⟩) (c17 : PySem.W.codeIn K cd17 "_law_chains_right" = true) (k17 : PySem.W.keepIn K (.ref f17) = true)
    (a18 : PySem.W.findIn K (.ref CTorn) "__init__" = some (some (.ref f18))) (i18 : PySem.W.isFn K (.ref f18) = true)
    (l18 : K.lookup f18 = some ⟨oc18, od18, .func (PySem.W.fnOf "__init__" "Torn.__init__" (defArgs s_Torn_init) (defBody s_Torn_init) (defScope s_Torn_init) .none kV18 dc18 pm18 an18 cd18 ct18), sl18⟩) (c18 : PySem.W.codeIn K cd18 "Torn.__init__" = true) (k18 : PySem.W.keepIn K (.ref f18) = true)
    (a19 : PySem.W.nsIn K mainGlobals "torn_in" = some (some (.ref f19)))
    (l19 : K.lookup f19 = some ⟨oc19, od19, .func (PySem.W.fnOf "torn_in" "torn_in" (defArgs s_torn_in) (defBody s_torn_in) (defScope s_torn_in) .none kV19 dc19 pm19 an19 cd19 ct19), sl19⟩) (c19 : PySem.W.codeIn K cd19 "torn_in" = true) (k19 : PySem.W.keepIn K (.ref f19) = true)
    (a20 : PySem.W.nsIn K mainGlobals "check_pleased" = some (some (.ref f20)))
    (l20 : K.lookup f20 = some ⟨oc20, od20, .func (PySem.W.fnOf "check_pleased" "check_pleased" (defArgs s_check_pleased) (defBody s_check_pleased) (defScope s_check_pleased) .none kV20 dc20 pm20 an20 cd20 ct20), sl20⟩) (c20 : PySem.W.codeIn K cd20 "check_pleased" = true) (k20 : PySem.W.keepIn K (.ref f20) = true)
    (a21 : PySem.W.nsIn K mainGlobals "with_words" = some (some (.ref f21)))
    (l21 : K.lookup f21 = some ⟨oc21, od21, .func (PySem.W.fnOf "with_words" "with_words" (defArgs s_with_words) (defBody s_with_words) (defScope s_with_words) .none kV21 dc21 pm21 an21 cd21 ct21), sl21⟩) (c21 : PySem.W.codeIn K cd21 "with_words" = true) (k21 : PySem.W.keepIn K (.ref f21) = true)
    (a22 : PySem.W.findIn K (.ref CClash) "__init__" = some (some (.ref f22))) (i22 : PySem.W.isFn K (.ref f22) = true)
    (l22 : K.lookup f22 = some ⟨oc22, od22, .func (PySem.W.fnOf "__init__" "Clash.__init__" (defArgs s_Clash_init) (defBody s_Clash_init) (defScope s_Clash_init) .none kV22 dc22 pm22 an22 cd22 ct22), sl22⟩) (c22 : PySem.W.codeIn K cd22 "Clash.__init__" = true) (k22 : PySem.W.keepIn K (.ref f22) = true)
    (a23 : PySem.W.findIn K (.ref CPleased) "__init__" = some (some (.ref f23))) (i23 : PySem.W.isFn K (.ref f23) = true)
    (l23 : K.lookup f23 = some ⟨oc23, od23, .func (PySem.W.fnOf "__init__" "Pleased.__init__" (defArgs s_Pleased_init) (defBody s_Pleased_init) (defScope s_Pleased_init) .none kV23 dc23 pm23 an23 cd23 ct23), sl23⟩) (c23 : PySem.W.codeIn K cd23 "Pleased.__init__" = true) (k23 : PySem.W.keepIn K (.ref f23) = true)
    (a24 : PySem.W.nsIn K mainGlobals "keeping" = some (some (.ref f24)))
    (l24 : K.lookup f24 = some ⟨oc24, od24, .func (PySem.W.fnOf "keeping" "keeping" (defArgs s_keeping) (defBody s_keeping) (defScope s_keeping) .none kV24 dc24 pm24 an24 cd24 ct24), sl24⟩) (c24 : PySem.W.codeIn K cd24 "keeping" = true) (k24 : PySem.W.keepIn K (.ref f24) = true)
    (a25 : PySem.W.nsIn K mainGlobals "settled" = some (some (.ref f25)))
    (l25 : K.lookup f25 = some ⟨oc25, od25, .func (PySem.W.fnOf "settled" "settled" (defArgs s_settled) (defBody s_settled) (defScope s_settled) .none kV25 dc25 pm25 an25 cd25 ct25), sl25⟩) (c25 : PySem.W.codeIn K cd25 "settled" = true) (k25 : PySem.W.keepIn K (.ref f25) = true)
    (a26 : PySem.W.nsIn K mainGlobals "is_chain" = some (some (.ref f26)))
    (l26 : K.lookup f26 = some ⟨oc26, od26, .func (PySem.W.fnOf "is_chain" "is_chain" (defArgs s_is_chain) (defBody s_is_chain) (defScope s_is_chain) .none kV26 dc26 pm26 an26 cd26 ct26), sl26⟩) (c26 : PySem.W.codeIn K cd26 "is_chain" = true) (k26 : PySem.W.keepIn K (.ref f26) = true)
    (a27 : PySem.W.findIn K (.ref CClash) "holds" = some (some (.ref f27))) (i27 : PySem.W.isFn K (.ref f27) = true)
    (l27 : K.lookup f27 = some ⟨oc27, od27, .func (PySem.W.fnOf "holds" "Clash.holds" (defArgs s_Clash_holds) (defBody s_Clash_holds) (defScope s_Clash_holds) .none kV27 dc27 pm27 an27 cd27 ct27), sl27⟩) (c27 : PySem.W.codeIn K cd27 "Clash.holds" = true) (k27 : PySem.W.keepIn K (.ref f27) = true)
    (a28 : PySem.W.findIn K (.ref CTorn) "holds" = some (some (.ref f28))) (i28 : PySem.W.isFn K (.ref f28) = true)
    (l28 : K.lookup f28 = some ⟨oc28, od28, .func (PySem.W.fnOf "holds" "Torn.holds" (defArgs s_Torn_holds) (defBody s_Torn_holds) (defScope s_Torn_holds) .none kV28 dc28 pm28 an28 cd28 ct28), sl28⟩) (c28 : PySem.W.codeIn K cd28 "Torn.holds" = true) (k28 : PySem.W.keepIn K (.ref f28) = true)
    (a29 : PySem.W.findIn K (.ref CPleased) "holds" = some (some (.ref f29))) (i29 : PySem.W.isFn K (.ref f29) = true)
    (l29 : K.lookup f29 = some ⟨oc29, od29, .func (PySem.W.fnOf "holds" "Pleased.holds" (defArgs s_Pleased_holds) (defBody s_Pleased_holds) (defScope s_Pleased_holds) .none kV29 dc29 pm29 an29 cd29 ct29), sl29⟩) (c29 : PySem.W.codeIn K cd29 "Pleased.holds" = true) (k29 : PySem.W.keepIn K (.ref f29) = true)
    (a30 : PySem.W.nsIn K mainGlobals "_law_choices_right" = some (some (.ref f30)))
    (l30 : K.lookup f30 = some ⟨oc30, od30, .func (PySem.W.fnOf "_law_choices_right" "_law_choices_right" (defArgs s__law_choices_right) (defBody s__law_choices_right) (defScope s__law_choices_right) .none kV30 dc30 pm30 an30 cd30 ct30), sl30⟩) (c30 : PySem.W.codeIn K cd30 "_law_choices_right" = true) (k30 : PySem.W.keepIn K (.ref f30) = true)
    (a31 : PySem.W.nsIn K mainGlobals "_law_kept_right" = some (some (.ref f31)))
    (l31 : K.lookup f31 = some ⟨oc31, od31, .func (PySem.W.fnOf "_law_kept_right" "_law_kept_right" (defArgs s__law_kept_right) (defBody s__law_kept_right) (defScope s__law_kept_right) .none kV31 dc31 pm31 an31 cd31 ct31), sl31⟩) (c31 : PySem.W.codeIn K cd31 "_law_kept_right" = true) (k31 : PySem.W.keepIn K (.ref f31) = true)
    (a32 : PySem.W.nsIn K mainGlobals "word_text" = some (some (.ref f32)))
    (l32 : K.lookup f32 = some ⟨oc32, od32, .func (PySem.W.fnOf "word_text" "word_text" (defArgs s_word_text) (defBody s_word_text) (defScope s_word_text) .none kV32 dc32 pm32 an32 cd32 ct32), sl32⟩) (c32 : PySem.W.codeIn K cd32 "word_text" = true) (k32 : PySem.W.keepIn K (.ref f32) = true)
    (a33 : PySem.W.nsIn K mainGlobals "written" = some (some (.ref f33)))
    (l33 : K.lookup f33 = some ⟨oc33, od33, .func (PySem.W.fnOf "written" "written" (defArgs s_written) (defBody s_written) (defScope s_written) .none kV33 dc33 pm33 an33 cd33 ct33), sl33⟩) (c33 : PySem.W.codeIn K cd33 "written" = true) (k33 : PySem.W.keepIn K (.ref f33) = true)
    (a34 : PySem.W.nsIn K mainGlobals "wish_in" = some (some (.ref f34)))
    (l34 : K.lookup f34 = some ⟨oc34, od34, .func (PySem.W.fnOf "wish_in" "wish_in" (defArgs s_wish_in) (defBody s_wish_in) (defScope s_wish_in) .none kV34 dc34 pm34 an34 cd34 ct34), sl34⟩) (c34 : PySem.W.codeIn K cd34 "wish_in" = true) (k34 : PySem.W.keepIn K (.ref f34) = true)
    (a35 : PySem.W.nsIn K mainGlobals "read" = some (some (.ref f35)))
    (l35 : K.lookup f35 = some ⟨oc35, od35, .func (PySem.W.fnOf "read" "read" (defArgs s_read) (defBody s_read) (defScope s_read) .none kV35 dc35 pm35 an35 cd35 ct35), sl35⟩) (c35 : PySem.W.codeIn K cd35 "read" = true) (k35 : PySem.W.keepIn K (.ref f35) = true)
    (a36 : PySem.W.nsIn K mainGlobals "_law_texts_right" = some (some (.ref f36)))
    (l36 : K.lookup f36 = some ⟨oc36, od36, .func (PySem.W.fnOf "_law_texts_right" "_law_texts_right" (defArgs s__law_texts_right) (defBody s__law_texts_right) (defScope s__law_texts_right) .none kV36 dc36 pm36 an36 cd36 ct36), sl36⟩) (c36 : PySem.W.codeIn K cd36 "_law_texts_right" = true) (k36 : PySem.W.keepIn K (.ref f36) = true)
    (a37 : PySem.W.nsIn K mainGlobals "telling" = some (some (.ref f37)))
    (l37 : K.lookup f37 = some ⟨oc37, od37, .func (PySem.W.fnOf "telling" "telling" (defArgs s_telling) (defBody s_telling) (defScope s_telling) .none kV37 dc37 pm37 an37 cd37 ct37), sl37⟩) (c37 : PySem.W.codeIn K cd37 "telling" = true) (k37 : PySem.W.keepIn K (.ref f37) = true)
    (a38 : PySem.W.nsIn K mainGlobals "how_many" = some (some (.ref f38)))
    (l38 : K.lookup f38 = some ⟨oc38, od38, .func (PySem.W.fnOf "how_many" "how_many" (defArgs s_how_many) (defBody s_how_many) (defScope s_how_many) .none kV38 dc38 pm38 an38 cd38 ct38), sl38⟩) (c38 : PySem.W.codeIn K cd38 "how_many" = true) (k38 : PySem.W.keepIn K (.ref f38) = true)
    (a39 : PySem.W.nsIn K mainGlobals "_law_torn_right" = some (some (.ref f39)))
    (l39 : K.lookup f39 = some ⟨oc39, od39, .func (PySem.W.fnOf "_law_torn_right" "_law_torn_right" (defArgs s__law_torn_right) (defBody s__law_torn_right) (defScope s__law_torn_right) .none kV39 dc39 pm39 an39 cd39 ct39), sl39⟩) (c39 : PySem.W.codeIn K cd39 "_law_torn_right" = true) (k39 : PySem.W.keepIn K (.ref f39) = true)
    (a40 : PySem.W.nsIn K mainGlobals "_law_told_right" = some (some (.ref f40)))
    (l40 : K.lookup f40 = some ⟨oc40, od40, .func (PySem.W.fnOf "_law_told_right" "_law_told_right" (defArgs s__law_told_right) (defBody s__law_told_right) (defScope s__law_told_right) .none kV40 dc40 pm40 an40 cd40 ct40), sl40⟩) (c40 : PySem.W.codeIn K cd40 "_law_told_right" = true) (k40 : PySem.W.keepIn K (.ref f40) = true)
    (a41 : PySem.W.nsIn K mainGlobals "law" = some (some (.ref f41)))
    (l41 : K.lookup f41 = some ⟨oc41, od41, .func (PySem.W.fnOf "law" "law" (defArgs s_law) (defBody s_law) (defScope s_law) .none kV41 dc41 pm41 an41 cd41 ct41), sl41⟩) (c41 : PySem.W.codeIn K cd41 "law" = true) (k41 : PySem.W.keepIn K (.ref f41) = true)
    (z_abs : PySem.W.nsIn K mainGlobals "abs" = some none)
    (z_all : PySem.W.nsIn K mainGlobals "all" = some none)
    (z_any : PySem.W.nsIn K mainGlobals "any" = some none)
    (z_bool : PySem.W.nsIn K mainGlobals "bool" = some none)
    (z_enumerate : PySem.W.nsIn K mainGlobals "enumerate" = some none)
    (z_int : PySem.W.nsIn K mainGlobals "int" = some none)
    (z_isinstance : PySem.W.nsIn K mainGlobals "isinstance" = some none)
    (z_len : PySem.W.nsIn K mainGlobals "len" = some none)
    (z_list : PySem.W.nsIn K mainGlobals "list" = some none)
    (z_range : PySem.W.nsIn K mainGlobals "range" = some none)
    (z_sorted : PySem.W.nsIn K mainGlobals "sorted" = some none)
    (z_str : PySem.W.nsIn K mainGlobals "str" = some none)
    (z_tuple : PySem.W.nsIn K mainGlobals "tuple" = some none)
    {t_FIGURES : Tok} (y_FIGURES : PySem.W.nsIn K mainGlobals "FIGURES" = some (some (.str ("01234567" : PySem.Str) t_FIGURES)))
    {t_MOST : Tok} (y_MOST : PySem.W.nsIn K mainGlobals "MOST" = some (some (.int 8 t_MOST)))
    {t_WISHES : Tok} (y_WISHES : PySem.W.nsIn K mainGlobals "WISHES" = some (some (.int 24 t_WISHES)))
    (w_cd : cd39 = .ref cT) (klc : K.lookup cT = some ⟨eT, ddT, .fields vsT, slT⟩) (w_vs : vsT[11]? = some (.ref PT)) (khd : PySem.W.codeHdIn K cT PT = true) (ktn : K.lookup PT = none) (own : ∀ ft : Addr, mg "_law_torn_right" = some (.ref ft) → LamX.OwnTab K ft h) :
    LamX.LawAtS l w K CX0 21 63 "_law_script" mg fa h := by
  subst w_cd
  have e := hfa.symm.trans (PySem.W.mg_of X G a41)
  cases e
  let C0 : Nat → Addr := fun | 0 => CHouse | 1 => CPleased | 2 => CTorn | 3 => CClash | 4 => CUnpleased | 5 => CBadText | 6 => CBadHouse | _ => 0
  have B : Bt mg := ⟨PySem.W.mg_none_of X G z_abs, PySem.W.mg_none_of X G z_all, PySem.W.mg_none_of X G z_any, PySem.W.mg_none_of X G z_bool, PySem.W.mg_none_of X G z_enumerate, PySem.W.mg_none_of X G z_int, PySem.W.mg_none_of X G z_isinstance, PySem.W.mg_none_of X G z_len, PySem.W.mg_none_of X G z_list, PySem.W.mg_none_of X G z_range, PySem.W.mg_none_of X G z_sorted, PySem.W.mg_none_of X G z_str, PySem.W.mg_none_of X G z_tuple, ⟨_, PySem.W.mg_of X G y_FIGURES⟩, ⟨_, PySem.W.mg_of X G y_MOST⟩, ⟨_, PySem.W.mg_of X G y_WISHES⟩⟩
  have clHouse : Cls K CHouse := ⟨pgHouse, hdHouse, poHouse, saHouse⟩
  have hf0 : ∀ fn : Nat → Hp → Addr → Prop, FldOk K (TF C0 fn) 0 := fun fn => ⟨clHouse, fun f m => by rcases List.mem_cons.mp m with z | m; (subst z; exact nHouse_names); rcases List.mem_cons.mp m with z | m; (subst z; exact nHouse_rows); cases m⟩
  have clPleased : Cls K CPleased := ⟨pgPleased, hdPleased, poPleased, saPleased⟩
  have hf1 : ∀ fn : Nat → Hp → Addr → Prop, FldOk K (TF C0 fn) 1 := fun fn => ⟨clPleased, fun f m => by rcases List.mem_cons.mp m with z | m; (subst z; exact nPleased_choice); cases m⟩
  have clTorn : Cls K CTorn := ⟨pgTorn, hdTorn, poTorn, saTorn⟩
  have hf2 : ∀ fn : Nat → Hp → Addr → Prop, FldOk K (TF C0 fn) 2 := fun fn => ⟨clTorn, fun f m => by rcases List.mem_cons.mp m with z | m; (subst z; exact nTorn_there); rcases List.mem_cons.mp m with z | m; (subst z; exact nTorn_back); cases m⟩
  have clClash : Cls K CClash := ⟨pgClash, hdClash, poClash, saClash⟩
  have hf3 : ∀ fn : Nat → Hp → Addr → Prop, FldOk K (TF C0 fn) 3 := fun fn => ⟨clClash, fun f m => by rcases List.mem_cons.mp m with z | m; (subst z; exact nClash_words); rcases List.mem_cons.mp m with z | m; (subst z; exact nClash_links); cases m⟩
  have o_Pleased : ∀ fn : Nat → Hp → Addr → Prop, IsD mg K (TF C0 fn) "Pleased" L_Pleased := fun fn => isD_of (PySem.W.mg_of X G aCPleased) fun e m => by rcases List.mem_cons.mp m with z | m; (subst z; exact ⟨⟨clPleased, haPleased, hnI, htI, hmPleased⟩, kit_own xcPleased xtPleased qPleased_Pleased fun _ => rfl⟩); rcases List.mem_cons.mp m with z | m; (subst z; exact ⟨⟨clTorn, haTorn, hnI, htI, hmTorn⟩, kit_own xcPleased xtPleased qTorn_Pleased fun z => Bool.noConfusion (Eq.trans (Eq.symm z) wTorn_Pleased)⟩); rcases List.mem_cons.mp m with z | m; (subst z; exact ⟨⟨clClash, haClash, hnI, htI, hmClash⟩, kit_own xcPleased xtPleased qClash_Pleased fun z => Bool.noConfusion (Eq.trans (Eq.symm z) wClash_Pleased)⟩); cases m
  have o_Clash : ∀ fn : Nat → Hp → Addr → Prop, IsD mg K (TF C0 fn) "Clash" L_Clash := fun fn => isD_of (PySem.W.mg_of X G aCClash) fun e m => by rcases List.mem_cons.mp m with z | m; (subst z; exact ⟨⟨clPleased, haPleased, hnI, htI, hmPleased⟩, kit_own xcClash xtClash qPleased_Clash fun z => Bool.noConfusion (Eq.trans (Eq.symm z) wPleased_Clash)⟩); rcases List.mem_cons.mp m with z | m; (subst z; exact ⟨⟨clTorn, haTorn, hnI, htI, hmTorn⟩, kit_own xcClash xtClash qTorn_Clash fun z => Bool.noConfusion (Eq.trans (Eq.symm z) wTorn_Clash)⟩); rcases List.mem_cons.mp m with z | m; (subst z; exact ⟨⟨clClash, haClash, hnI, htI, hmClash⟩, kit_own xcClash xtClash qClash_Clash fun _ => rfl⟩); cases m
  have xxUnpleased : XcF K CUnpleased := ⟨xcUnpleased, xgUnpleased, xqUnpleased, xbUnpleased, haUnpleased, hnI, htI, hmUnpleased⟩
  have xf_Unpleased : ∀ fn : Nat → Hp → Addr → Prop, XfD K (TF C0 fn) 4 "torn" := fun fn => ⟨⟨xgUnpleased, xqUnpleased, xbUnpleased, xhUnpleased⟩, xnUnpleased, rfl⟩
  have oXUnpleased : OexC K CUnpleased := oexC_of xiUnpleased xhUnpleased xsUnpleased xbUnpleased xtUnpleased kcUnpleased
  have FXUnpleased := fun_mk (st := s_Unpleased_init) xlUnpleased xdUnpleased xkUnpleased
  have bXUnpleased := FXUnpleased.binds (ps := P_Unpleased_init) fun _ _ _ _ _ _ us hl => match us, hl with | [_, _], _ => rfl
  have w0 : BsI mg K "WishError" := ⟨CWishError, PySem.W.mg_of X G aCWishError, xr0, xr1, xr2⟩
  have xxBadText : XcF K CBadText := ⟨xcBadText, xgBadText, xqBadText, xbBadText, haBadText, hnI, htI, hmBadText⟩
  have xf_BadText : ∀ fn : Nat → Hp → Addr → Prop, XfD K (TF C0 fn) 5 "place" := fun fn => ⟨⟨xgBadText, xqBadText, xbBadText, xhBadText⟩, xnBadText, rfl⟩
  have oXBadText : OexC K CBadText := oexC_of xiBadText xhBadText xsBadText xbBadText xtBadText kcBadText
  have FXBadText := fun_mk (st := s_BadText_init) xlBadText xdBadText xkBadText
  have bXBadText := FXBadText.binds (ps := P_BadText_init) fun _ _ _ _ _ _ us hl => match us, hl with | [_, _], _ => rfl
  have w0 : BsI mg K "WishError" := ⟨CWishError, PySem.W.mg_of X G aCWishError, xr0, xr1, xr2⟩
  have xxBadHouse : XcF K CBadHouse := ⟨xcBadHouse, xgBadHouse, xqBadHouse, xbBadHouse, haBadHouse, hnI, htI, hmBadHouse⟩
  have x_BadHouse : ∀ fn : Nat → Hp → Addr → Prop, ExT mg K (TF C0 fn) "BadHouse" 6 := fun fn => ⟨PySem.W.mg_of X G aCBadHouse, xpBadHouse, kcBadHouse, xbBadHouse, xtBadHouse⟩
  have e_BadText : ∀ fn : Nat → Hp → Addr → Prop, IsEx mg K C0 "BadText" E_BadText := fun fn => isE_of (PySem.W.mg_of X G aCBadText) fun e m => by rcases List.mem_cons.mp m with z | m; (subst z; exact ⟨xxUnpleased, kit_own xcBadText xtBadText qUnpleased_BadText fun z => Bool.noConfusion (Eq.trans (Eq.symm z) wUnpleased_BadText)⟩); rcases List.mem_cons.mp m with z | m; (subst z; exact ⟨xxBadText, kit_own xcBadText xtBadText qBadText_BadText fun _ => rfl⟩); rcases List.mem_cons.mp m with z | m; (subst z; exact ⟨xxBadHouse, kit_own xcBadText xtBadText qBadHouse_BadText fun z => Bool.noConfusion (Eq.trans (Eq.symm z) wBadHouse_BadText)⟩); cases m
  have a_BadHouse : ∀ fn : Nat → Hp → Addr → Prop, CatchD mg K (TF C0 fn) "BadHouse" E_BadHouse := fun fn => catch_of (PySem.W.mg_of X G aCBadHouse) xbBadHouse xhBadHouse xtBadHouse fun e m => by rcases List.mem_cons.mp m with z | m; (subst z; exact qUnpleased_BadHouse); rcases List.mem_cons.mp m with z | m; (subst z; exact qBadText_BadHouse); rcases List.mem_cons.mp m with z | m; (subst z; exact qBadHouse_BadHouse); cases m
  have a_Unpleased : ∀ fn : Nat → Hp → Addr → Prop, CatchD mg K (TF C0 fn) "Unpleased" E_Unpleased := fun fn => catch_of (PySem.W.mg_of X G aCUnpleased) xbUnpleased xhUnpleased xtUnpleased fun e m => by rcases List.mem_cons.mp m with z | m; (subst z; exact qUnpleased_Unpleased); rcases List.mem_cons.mp m with z | m; (subst z; exact qBadText_Unpleased); rcases List.mem_cons.mp m with z | m; (subst z; exact qBadHouse_Unpleased); cases m
  have a_WishError : ∀ fn : Nat → Hp → Addr → Prop, CatchD mg K (TF C0 fn) "WishError" E_WishError := fun fn => catch_of (PySem.W.mg_of X G aCWishError) xbWishError xhWishError xtWishError fun e m => by rcases List.mem_cons.mp m with z | m; (subst z; exact qUnpleased_WishError); rcases List.mem_cons.mp m with z | m; (subst z; exact qBadText_WishError); rcases List.mem_cons.mp m with z | m; (subst z; exact qBadHouse_WishError); cases m
  have hx : ∀ fn : Nat → Hp → Addr → Prop, (TF C0 fn).cold := fun fn => fun _ _ _ z => z
  have F0 := fun_mk (st := s_opposite) l0 c0 k0
  have b0 := F0.binds (ps := P_opposite) fun _ _ _ _ _ _ us hl => match us, hl with | [_], _ => rfl
  have F1 := fun_mk (st := s_steps) l1 c1 k1
  have b1 := F1.binds (ps := P_steps) fun _ _ _ _ _ _ us hl => match us, hl with | [_, _], _ => rfl
  have F2 := fun_mk (st := s_walked) l2 c2 k2
  have b2 := F2.binds (ps := P_walked) fun _ _ _ _ _ _ us hl => match us, hl with | [_, _], _ => rfl
  have F3 := fun_mk (st := s_within) l3 c3 k3
  have b3 := F3.binds (ps := P_within) fun _ _ _ _ _ _ us hl => match us, hl with | [_, _, _], _ => rfl
  have F4 := fun_mk (st := s_is_word) l4 c4 k4
  have b4 := F4.binds (ps := P_is_word) fun _ _ _ _ _ _ us hl => match us, hl with | [_, _], _ => rfl
  have F5 := fun_mk (st := s_House_word) l5 c5 k5
  have b5 := F5.binds (ps := P_House_word) fun _ _ _ _ _ _ us hl => match us, hl with | [_, _], _ => rfl
  have F6 := fun_mk (st := s_follows) l6 c6 k6
  have b6 := F6.binds (ps := P_follows) fun _ _ _ _ _ _ us hl => match us, hl with | [_, _], _ => rfl
  have F7 := fun_mk (st := s_chain) l7 c7 k7
  have b7 := F7.binds (ps := P_chain) fun _ _ _ _ _ _ us hl => match us, hl with | [_, _, _], _ => rfl
  have F8 := fun_mk (st := s_words_of) l8 c8 k8
  have b8 := F8.binds (ps := P_words_of) fun _ _ _ _ _ _ us hl => match us, hl with | [_], _ => rfl
  have F9 := fun_mk (st := s_hanging) l9 c9 k9
  have b9 := F9.binds (ps := P_hanging) fun _ _ _ _ _ _ us hl => match us, hl with | [_], _ => rfl
  have F10 := fun_mk (st := s_check_choice) l10 c10 k10
  have b10 := F10.binds (ps := P_check_choice) fun _ _ _ _ _ _ us hl => match us, hl with | [_, _], _ => rfl
  have F11 := fun_mk (st := s_pleases) l11 c11 k11
  have b11 := F11.binds (ps := P_pleases) fun _ _ _ _ _ _ us hl => match us, hl with | [_, _], _ => rfl
  have F12 := fun_mk (st := s_displeased) l12 c12 k12
  have b12 := F12.binds (ps := P_displeased) fun _ _ _ _ _ _ us hl => match us, hl with | [_, _], _ => rfl
  have F13 := fun_mk (st := s_House_init) l13 c13 k13
  have b13 := F13.binds (ps := P_House_init) fun _ _ _ _ _ _ us hl => match us, hl with | [_, _, _], _ => rfl
  have F14 := fun_mk (st := s_House_wishes) l14 c14 k14
  have b14 := F14.binds (ps := P_House_wishes) fun _ _ _ _ _ _ us hl => match us, hl with | [_], _ => rfl
  have F15 := fun_mk (st := s__law_displeased_right) l15 c15 k15
  have b15 := F15.binds (ps := P__law_displeased_right) fun _ _ _ _ _ _ us hl => match us, hl with | [_, _, _, _, _], _ => rfl
  have F16 := fun_mk (st := s__law_hanging_right) l16 c16 k16
  have b16 := F16.binds (ps := P__law_hanging_right) fun _ _ _ _ _ _ us hl => match us, hl with | [_, _, _, _, _, _, _], _ => rfl
  have F17 := fun_mk (st := s__law_chains_right) l17 c17 k17
  have b17 := F17.binds (ps := P__law_chains_right) fun _ _ _ _ _ _ us hl => match us, hl with | [_], _ => rfl
  have F18 := fun_mk (st := s_Torn_init) l18 c18 k18
  have b18 := F18.binds (ps := P_Torn_init) fun _ _ _ _ _ _ us hl => match us, hl with | [_, _, _], _ => rfl
  have F19 := fun_mk (st := s_torn_in) l19 c19 k19
  have b19 := F19.binds (ps := P_torn_in) fun _ _ _ _ _ _ us hl => match us, hl with | [_], _ => rfl
  have F20 := fun_mk (st := s_check_pleased) l20 c20 k20
  have b20 := F20.binds (ps := P_check_pleased) fun _ _ _ _ _ _ us hl => match us, hl with | [_], _ => rfl
  have F21 := fun_mk (st := s_with_words) l21 c21 k21
  have b21 := F21.binds (ps := P_with_words) fun _ _ _ _ _ _ us hl => match us, hl with | [_, _], _ => rfl
  have F22 := fun_mk (st := s_Clash_init) l22 c22 k22
  have b22 := F22.binds (ps := P_Clash_init) fun _ _ _ _ _ _ us hl => match us, hl with | [_, _, _], _ => rfl
  have F23 := fun_mk (st := s_Pleased_init) l23 c23 k23
  have b23 := F23.binds (ps := P_Pleased_init) fun _ _ _ _ _ _ us hl => match us, hl with | [_, _], _ => rfl
  have F24 := fun_mk (st := s_keeping) l24 c24 k24
  have b24 := F24.binds (ps := P_keeping) fun _ _ _ _ _ _ us hl => match us, hl with | [_, _], _ => rfl
  have F25 := fun_mk (st := s_settled) l25 c25 k25
  have b25 := F25.binds (ps := P_settled) fun _ _ _ _ _ _ us hl => match us, hl with | [_], _ => rfl
  have F26 := fun_mk (st := s_is_chain) l26 c26 k26
  have b26 := F26.binds (ps := P_is_chain) fun _ _ _ _ _ _ us hl => match us, hl with | [_, _], _ => rfl
  have F27 := fun_mk (st := s_Clash_holds) l27 c27 k27
  have b27 := F27.binds (ps := P_Clash_holds) fun _ _ _ _ _ _ us hl => match us, hl with | [_, _], _ => rfl
  have F28 := fun_mk (st := s_Torn_holds) l28 c28 k28
  have b28 := F28.binds (ps := P_Torn_holds) fun _ _ _ _ _ _ us hl => match us, hl with | [_, _], _ => rfl
  have F29 := fun_mk (st := s_Pleased_holds) l29 c29 k29
  have b29 := F29.binds (ps := P_Pleased_holds) fun _ _ _ _ _ _ us hl => match us, hl with | [_, _], _ => rfl
  have F30 := fun_mk (st := s__law_choices_right) l30 c30 k30
  have b30 := F30.binds (ps := P__law_choices_right) fun _ _ _ _ _ _ us hl => match us, hl with | [_, _, _, _, _], _ => rfl
  have F31 := fun_mk (st := s__law_kept_right) l31 c31 k31
  have b31 := F31.binds (ps := P__law_kept_right) fun _ _ _ _ _ _ us hl => match us, hl with | [_], _ => rfl
  have F32 := fun_mk (st := s_word_text) l32 c32 k32
  have b32 := F32.binds (ps := P_word_text) fun _ _ _ _ _ _ us hl => match us, hl with | [_], _ => rfl
  have F33 := fun_mk (st := s_written) l33 c33 k33
  have b33 := F33.binds (ps := P_written) fun _ _ _ _ _ _ us hl => match us, hl with | [_], _ => rfl
  have F34 := fun_mk (st := s_wish_in) l34 c34 k34
  have b34 := F34.binds (ps := P_wish_in) fun _ _ _ _ _ _ us hl => match us, hl with | [_, _], _ => rfl
  have F35 := fun_mk (st := s_read) l35 c35 k35
  have b35 := F35.binds (ps := P_read) fun _ _ _ _ _ _ us hl => match us, hl with | [_], _ => rfl
  have F36 := fun_mk (st := s__law_texts_right) l36 c36 k36
  have b36 := F36.binds (ps := P__law_texts_right) fun _ _ _ _ _ _ us hl => match us, hl with | [_], _ => rfl
  have F37 := fun_mk (st := s_telling) l37 c37 k37
  have b37 := F37.binds (ps := P_telling) fun _ _ _ _ _ _ us hl => match us, hl with | [_], _ => rfl
  have F38 := fun_mk (st := s_how_many) l38 c38 k38
  have b38 := F38.binds (ps := P_how_many) fun _ _ _ _ _ _ us hl => match us, hl with | [_], _ => rfl
  have F39 := fun_mk (st := s__law_torn_right) l39 c39 k39
  have b39 := F39.binds (ps := P__law_torn_right) fun _ _ _ _ _ _ us hl => match us, hl with | [_, _, _, _], _ => rfl
  have F40 := fun_mk (st := s__law_told_right) l40 c40 k40
  have b40 := F40.binds (ps := P__law_told_right) fun _ _ _ _ _ _ us hl => match us, hl with | [_], _ => rfl
  have F41 := fun_mk (st := s_law) l41 c41 k41
  refine ⟨PySem.W.fnOf "law" "law" (defArgs s_law) (defBody s_law) (defScope s_law) .none kV41 dc41 pm41 an41 cd41 ct41, [(cT, PT)], spLaw K PT, fun p m => ?_, fun p m => ?_, fun p m => ?_, fun s v => .of_eq rfl, fun H a ns hl _ hP hS => ⟨a, ns, rfl, hS, hl, hP _ List.mem_cons_self, fun _ => rfl⟩, fun base _ _ TBs => ?_⟩
  · rw [List.mem_singleton.mp m]; exact own _ (PySem.W.mg_of X G a39) cT PT _ _ _ _ _ _ l39 rfl rfl klc w_vs
  · rw [List.mem_singleton.mp m]; exact ktn
  · rw [List.mem_singleton.mp m]; exact PySem.W.codeHd_of_K X khd
  have TB := TBs _ List.mem_cons_self
  have x_Unpleased : ∀ fn : Nat → Hp → Addr → Prop, ExI l.prog w mg K (TF C0 fn) base "Unpleased" 4 "torn" := fun fn => xI_of oXUnpleased (ok_Unpleased_init FXUnpleased w0 oXUnpleased xnUnpleased) bXUnpleased xfUnpleased xyUnpleased (PySem.W.mg_of X G aCUnpleased) rfl
  have xh_BadText : ∀ fn : Nat → Hp → Addr → Prop, ExH l.prog w mg K (TF C0 fn) base "BadText" 5 "place" := fun fn => xH_of oXBadText (okH_BadText_init FXBadText w0 oXBadText xnBadText) bXBadText xfBadText xyBadText (PySem.W.mg_of X G aCBadText) rfl
  have x_BadText : ∀ fn : Nat → Hp → Addr → Prop, ExI l.prog w mg K (TF C0 fn) base "BadText" 5 "place" := fun fn => xI_of oXBadText (ok_BadText_init FXBadText w0 oXBadText xnBadText) bXBadText xfBadText xyBadText (PySem.W.mg_of X G aCBadText) rfl
  have h_opposite : ∀ fn : Nat → Hp → Addr → Prop, FnP l.prog w K (TF C0 fn) mg base "opposite" 2 F_opposite := fun fn => ⟨f0, _, P_opposite, PySem.W.mg_of X G a0, k0, b0, okH_opposite F0 B ⟩
  have g_opposite : ∀ fn : Nat → Hp → Addr → Prop, FnD l.prog w K (TF C0 fn) mg base (L2N.CX l.prog w) "opposite" 2 F_opposite := fun fn => ⟨f0, _, P_opposite, ok_opposite F0 B , PySem.W.mg_of X G a0, k0, b0⟩
  have h_steps : ∀ fn : Nat → Hp → Addr → Prop, FnP l.prog w K (TF C0 fn) mg base "steps" 4 F_steps := fun fn => ⟨f1, _, P_steps, PySem.W.mg_of X G a1, k1, b1, okH_steps F1 B (hf0 fn) (h_opposite fn) (g_opposite fn)⟩
  have g_steps : ∀ fn : Nat → Hp → Addr → Prop, FnD l.prog w K (TF C0 fn) mg base (L2N.CX l.prog w) "steps" 4 F_steps := fun fn => ⟨f1, _, P_steps, ok_steps F1 B (hf0 fn) (h_opposite fn) (g_opposite fn), PySem.W.mg_of X G a1, k1, b1⟩
  have g_walked : ∀ fn : Nat → Hp → Addr → Prop, FnD l.prog w K (TF C0 fn) mg base (L2N.CX l.prog w) "walked" 6 F_walked := fun fn => ⟨f2, _, P_walked, ok_walked F2 B (g_steps fn), PySem.W.mg_of X G a2, k2, b2⟩
  have h_within : ∀ fn : Nat → Hp → Addr → Prop, FnP l.prog w K (TF C0 fn) mg base "within" 2 F_within := fun fn => ⟨f3, _, P_within, PySem.W.mg_of X G a3, k3, b3, okH_within F3 B ⟩
  have g_within : ∀ fn : Nat → Hp → Addr → Prop, FnD l.prog w K (TF C0 fn) mg base (L2N.CX l.prog w) "within" 2 F_within := fun fn => ⟨f3, _, P_within, ok_within F3 B , PySem.W.mg_of X G a3, k3, b3⟩
  have h_is_word : ∀ fn : Nat → Hp → Addr → Prop, FnP l.prog w K (TF C0 fn) mg base "is_word" 4 F_is_word := fun fn => ⟨f4, _, P_is_word, PySem.W.mg_of X G a4, k4, b4, okH_is_word F4 B (h_within fn) (g_within fn)⟩
  have g_is_word : ∀ fn : Nat → Hp → Addr → Prop, FnD l.prog w K (TF C0 fn) mg base (L2N.CX l.prog w) "is_word" 4 F_is_word := fun fn => ⟨f4, _, P_is_word, ok_is_word F4 B (h_within fn) (g_within fn), PySem.W.mg_of X G a4, k4, b4⟩
  have m_House_word : ∀ fn : Nat → Hp → Addr → Prop, MtD l.prog w K (TF C0 fn) mg base (L2N.CX l.prog w) 0 "word" 6 F_House_word := fun fn => ⟨⟨f5, _, P_House_word, ok_House_word F5 B (hf0 fn) (g_is_word fn), ⟨a5, i5, k5⟩, b5⟩, clHouse, by decide⟩
  have g_follows : ∀ fn : Nat → Hp → Addr → Prop, FnD l.prog w K (TF C0 fn) mg base (L2N.CX l.prog w) "follows" 8 F_follows := fun fn => ⟨f6, _, P_follows, ok_follows F6 B (g_walked fn) (m_House_word fn), PySem.W.mg_of X G a6, k6, b6⟩
  have g_chain : ∀ fn : Nat → Hp → Addr → Prop, FnD l.prog w K (TF C0 fn) mg base (L2N.CX l.prog w) "chain" 8 F_chain := fun fn => ⟨f7, _, P_chain, ok_chain F7 B (g_walked fn) (m_House_word fn), PySem.W.mg_of X G a7, k7, b7⟩
  have g_words_of : ∀ fn : Nat → Hp → Addr → Prop, FnD l.prog w K (TF C0 fn) mg base (L2N.CX l.prog w) "words_of" 2 F_words_of := fun fn => ⟨f8, _, P_words_of, ok_words_of F8 B (hf0 fn), PySem.W.mg_of X G a8, k8, b8⟩
  have g_hanging : ∀ fn : Nat → Hp → Addr → Prop, FnD l.prog w K (TF C0 fn) mg base (L2N.CX l.prog w) "hanging" 8 F_hanging := fun fn => ⟨f9, _, P_hanging, ok_hanging F9 B (g_words_of fn) (g_walked fn), PySem.W.mg_of X G a9, k9, b9⟩
  have g_check_choice : ∀ fn : Nat → Hp → Addr → Prop, FnD l.prog w K (TF C0 fn) mg base (L2N.CX l.prog w) "check_choice" 2 F_check_choice := fun fn => ⟨f10, _, P_check_choice, ok_check_choice F10 B (hf0 fn), PySem.W.mg_of X G a10, k10, b10⟩
  have g_pleases : ∀ fn : Nat → Hp → Addr → Prop, FnD l.prog w K (TF C0 fn) mg base (L2N.CX l.prog w) "pleases" 2 F_pleases := fun fn => ⟨f11, _, P_pleases, ok_pleases F11 B , PySem.W.mg_of X G a11, k11, b11⟩
  have g_displeased : ∀ fn : Nat → Hp → Addr → Prop, FnD l.prog w K (TF C0 fn) mg base (L2N.CX l.prog w) "displeased" 4 F_displeased := fun fn => ⟨f12, _, P_displeased, ok_displeased F12 B (hf0 fn) (g_check_choice fn) (g_pleases fn), PySem.W.mg_of X G a12, k12, b12⟩
  have hc_House : ∀ fn : Nat → Hp → Addr → Prop, ClP l.prog w K (TF C0 fn) mg base "House" 0 6 M_House := fun fn => ⟨f13, _, P_House_init, ⟨mkHouse, a13, i13, kcHouse⟩, PySem.W.mg_of X G aCHouse, b13, okH_House_init F13 B (hf0 fn) (x_BadHouse fn) (h_within fn) (h_is_word fn) (g_within fn) (g_is_word fn)⟩
  have c_House : ∀ fn : Nat → Hp → Addr → Prop, ClD l.prog w K (TF C0 fn) mg base (L2N.CX l.prog w) "House" 0 6 M_House := fun fn => ⟨f13, _, P_House_init, ok_House_init F13 B (hf0 fn) (x_BadHouse fn) (h_within fn) (h_is_word fn) (g_within fn) (g_is_word fn), ⟨mkHouse, a13, i13, kcHouse⟩, PySem.W.mg_of X G aCHouse, b13⟩
  have hm_House_wishes : ∀ fn : Nat → Hp → Addr → Prop, MtP l.prog w K (TF C0 fn) mg base 0 "wishes" 2 F_House_wishes := fun fn => ⟨⟨f14, _, P_House_wishes, ⟨a14, i14, k14⟩, b14, okH_House_wishes F14 B (hf0 fn)⟩, clHouse, by decide⟩
  have m_House_wishes : ∀ fn : Nat → Hp → Addr → Prop, MtD l.prog w K (TF C0 fn) mg base (L2N.CX l.prog w) 0 "wishes" 2 F_House_wishes := fun fn => ⟨⟨f14, _, P_House_wishes, ok_House_wishes F14 B (hf0 fn), ⟨a14, i14, k14⟩, b14⟩, clHouse, by decide⟩
  have g__law_displeased_right : ∀ fn : Nat → Hp → Addr → Prop, FnD l.prog w K (TF C0 fn) mg base (L2N.CX l.prog w) "_law_displeased_right" 9 F__law_displeased_right := fun fn => ⟨f15, _, P__law_displeased_right, ok__law_displeased_right F15 B (g_displeased fn) (c_House fn) (m_House_wishes fn), PySem.W.mg_of X G a15, k15, b15⟩
  have g__law_hanging_right : ∀ fn : Nat → Hp → Addr → Prop, FnD l.prog w K (TF C0 fn) mg base (L2N.CX l.prog w) "_law_hanging_right" 11 F__law_hanging_right := fun fn => ⟨f16, _, P__law_hanging_right, ok__law_hanging_right F16 B (g_hanging fn) (g__law_displeased_right fn) (c_House fn), PySem.W.mg_of X G a16, k16, b16⟩
  have g__law_chains_right : ∀ fn : Nat → Hp → Addr → Prop, FnD l.prog w K (TF C0 fn) mg base (L2N.CX l.prog w) "_law_chains_right" 13 F__law_chains_right := fun fn => ⟨f17, _, P__law_chains_right, ok__law_chains_right F17 B (g_follows fn) (g_chain fn) (g__law_hanging_right fn) (c_House fn), PySem.W.mg_of X G a17, k17, b17⟩
  have c_Torn : ∀ fn : Nat → Hp → Addr → Prop, ClD l.prog w K (TF C0 fn) mg base (L2N.CX l.prog w) "Torn" 2 2 M_Torn := fun fn => ⟨f18, _, P_Torn_init, ok_Torn_init F18 B (hf2 fn), ⟨mkTorn, a18, i18, kcTorn⟩, PySem.W.mg_of X G aCTorn, b18⟩
  have g_torn_in : ∀ fn : Nat → Hp → Addr → Prop, FnD l.prog w K (TF C0 fn) mg base (L2N.CX l.prog w) "torn_in" 10 F_torn_in := fun fn => ⟨f19, _, P_torn_in, ok_torn_in F19 B (hf0 fn) (g_chain fn) (c_Torn fn), PySem.W.mg_of X G a19, k19, b19⟩
  have g_check_pleased : ∀ fn : Nat → Hp → Addr → Prop, FnD l.prog w K (TF C0 fn) mg base (L2N.CX l.prog w) "check_pleased" 12 F_check_pleased := fun fn => ⟨f20, _, P_check_pleased, ok_check_pleased F20 B (x_Unpleased fn) (g_torn_in fn), PySem.W.mg_of X G a20, k20, b20⟩
  have g_with_words : ∀ fn : Nat → Hp → Addr → Prop, FnD l.prog w K (TF C0 fn) mg base (L2N.CX l.prog w) "with_words" 8 F_with_words := fun fn => ⟨f21, _, P_with_words, ok_with_words F21 B (hf0 fn) (g_walked fn) (g_opposite fn), PySem.W.mg_of X G a21, k21, b21⟩
  have c_Clash : ∀ fn : Nat → Hp → Addr → Prop, ClD l.prog w K (TF C0 fn) mg base (L2N.CX l.prog w) "Clash" 3 2 M_Clash := fun fn => ⟨f22, _, P_Clash_init, ok_Clash_init F22 B (hf3 fn), ⟨mkClash, a22, i22, kcClash⟩, PySem.W.mg_of X G aCClash, b22⟩
  have c_Pleased : ∀ fn : Nat → Hp → Addr → Prop, ClD l.prog w K (TF C0 fn) mg base (L2N.CX l.prog w) "Pleased" 1 2 M_Pleased := fun fn => ⟨f23, _, P_Pleased_init, ok_Pleased_init F23 B (hf1 fn), ⟨mkPleased, a23, i23, kcPleased⟩, PySem.W.mg_of X G aCPleased, b23⟩
  have g_keeping : ∀ fn : Nat → Hp → Addr → Prop, FnD l.prog w K (TF C0 fn) mg base (L2N.CX l.prog w) "keeping" 14 F_keeping := fun fn => ⟨f24, _, P_keeping, ok_keeping F24 B (g_check_pleased fn) (g_opposite fn) (g_chain fn) (g_with_words fn) (c_Clash fn) (c_Pleased fn) (m_House_word fn), PySem.W.mg_of X G a24, k24, b24⟩
  have g_settled : ∀ fn : Nat → Hp → Addr → Prop, FnD l.prog w K (TF C0 fn) mg base (L2N.CX l.prog w) "settled" 14 F_settled := fun fn => ⟨f25, _, P_settled, ok_settled F25 B (hf0 fn) (g_check_pleased fn) (g_chain fn), PySem.W.mg_of X G a25, k25, b25⟩
  have h_is_chain : ∀ fn : Nat → Hp → Addr → Prop, FnP l.prog w K (TF C0 fn) mg base "is_chain" 6 F_is_chain := fun fn => ⟨f26, _, P_is_chain, PySem.W.mg_of X G a26, k26, b26, okH_is_chain F26 B (h_steps fn) (g_steps fn)⟩
  have g_is_chain : ∀ fn : Nat → Hp → Addr → Prop, FnD l.prog w K (TF C0 fn) mg base (L2N.CX l.prog w) "is_chain" 6 F_is_chain := fun fn => ⟨f26, _, P_is_chain, ok_is_chain F26 B (h_steps fn) (g_steps fn), PySem.W.mg_of X G a26, k26, b26⟩
  have m_Clash_holds : ∀ fn : Nat → Hp → Addr → Prop, MtD l.prog w K (TF C0 fn) mg base (L2N.CX l.prog w) 3 "holds" 8 F_Clash_holds := fun fn => ⟨⟨f27, _, P_Clash_holds, ok_Clash_holds F27 B (hf3 fn) (g_is_chain fn) (g_opposite fn), ⟨a27, i27, k27⟩, b27⟩, clClash, by decide⟩
  have hm_Torn_holds : ∀ fn : Nat → Hp → Addr → Prop, MtP l.prog w K (TF C0 fn) mg base 2 "holds" 8 F_Torn_holds := fun fn => ⟨⟨f28, _, P_Torn_holds, ⟨a28, i28, k28⟩, b28, okH_Torn_holds F28 B (hf2 fn) (h_is_chain fn) (h_opposite fn) (g_is_chain fn) (g_opposite fn)⟩, clTorn, by decide⟩
  have m_Torn_holds : ∀ fn : Nat → Hp → Addr → Prop, MtD l.prog w K (TF C0 fn) mg base (L2N.CX l.prog w) 2 "holds" 8 F_Torn_holds := fun fn => ⟨⟨f28, _, P_Torn_holds, ok_Torn_holds F28 B (hf2 fn) (h_is_chain fn) (h_opposite fn) (g_is_chain fn) (g_opposite fn), ⟨a28, i28, k28⟩, b28⟩, clTorn, by decide⟩
  have m_Pleased_holds : ∀ fn : Nat → Hp → Addr → Prop, MtD l.prog w K (TF C0 fn) mg base (L2N.CX l.prog w) 1 "holds" 4 F_Pleased_holds := fun fn => ⟨⟨f29, _, P_Pleased_holds, ok_Pleased_holds F29 B (hf0 fn) (hf1 fn) (g_pleases fn), ⟨a29, i29, k29⟩, b29⟩, clPleased, by decide⟩
  have g__law_choices_right : ∀ fn : Nat → Hp → Addr → Prop, FnD l.prog w K (TF C0 fn) mg base (L2N.CX l.prog w) "_law_choices_right" 16 F__law_choices_right := fun fn => ⟨f30, _, P__law_choices_right, ok__law_choices_right F30 B (hf1 fn) (g_keeping fn) (g_settled fn) (c_House fn) (c_Clash fn) (o_Pleased fn) (m_Clash_holds fn) (m_Torn_holds fn) (m_Pleased_holds fn), PySem.W.mg_of X G a30, k30, b30⟩
  have g__law_kept_right : ∀ fn : Nat → Hp → Addr → Prop, FnD l.prog w K (TF C0 fn) mg base (L2N.CX l.prog w) "_law_kept_right" 18 F__law_kept_right := fun fn => ⟨f31, _, P__law_kept_right, ok__law_kept_right F31 B (hf3 fn) (g_keeping fn) (g__law_choices_right fn) (c_House fn) (c_Clash fn) (o_Clash fn) (m_Clash_holds fn) (m_Torn_holds fn) (m_Pleased_holds fn), PySem.W.mg_of X G a31, k31, b31⟩
  have g_word_text : ∀ fn : Nat → Hp → Addr → Prop, FnD l.prog w K (TF C0 fn) mg base (L2N.CX l.prog w) "word_text" 2 F_word_text := fun fn => ⟨f32, _, P_word_text, ok_word_text F32 B , PySem.W.mg_of X G a32, k32, b32⟩
  have g_written : ∀ fn : Nat → Hp → Addr → Prop, FnD l.prog w K (TF C0 fn) mg base (L2N.CX l.prog w) "written" 4 F_written := fun fn => ⟨f33, _, P_written, ok_written F33 B (hf0 fn) (g_word_text fn), PySem.W.mg_of X G a33, k33, b33⟩
  have g_wish_in : ∀ fn : Nat → Hp → Addr → Prop, FnD l.prog w K (TF C0 fn) mg base (L2N.CX l.prog w) "wish_in" 2 F_wish_in := fun fn => ⟨f34, _, P_wish_in, ok_wish_in F34 B , PySem.W.mg_of X G a34, k34, b34⟩
  have g_read : ∀ fn : Nat → Hp → Addr → Prop, FnD l.prog w K (TF C0 fn) mg base (CXL l.prog w) "read" 9 F_read := fun fn => ⟨f35, _, P_read, ok_read F35 B (hx fn) (a_BadHouse fn) (x_BadText fn) (xh_BadText fn) (g_wish_in fn) (c_House fn), PySem.W.mg_of X G a35, k35, b35⟩
  have g__law_texts_right : ∀ fn : Nat → Hp → Addr → Prop, FnD l.prog w K (TF C0 fn) mg base (CXL l.prog w) "_law_texts_right" 11 F__law_texts_right := fun fn => ⟨f36, _, P__law_texts_right, ok__law_texts_right F36 B (hf0 fn) (hx fn) (a_WishError fn) (xf_BadText fn) (e_BadText fn) (g_written fn) (g_read fn) (c_House fn) (m_House_wishes fn), PySem.W.mg_of X G a36, k36, b36⟩
  have g_telling : ∀ fn : Nat → Hp → Addr → Prop, FnD l.prog w K (TF C0 fn) mg base (L2N.CX l.prog w) "telling" 12 F_telling := fun fn => ⟨f37, _, P_telling, ok_telling F37 B (g_torn_in fn) (g_with_words fn) (c_Pleased fn), PySem.W.mg_of X G a37, k37, b37⟩
  have g_how_many : ∀ fn : Nat → Hp → Addr → Prop, FnD l.prog w K (TF C0 fn) mg base (L2N.CX l.prog w) "how_many" 4 F_how_many := fun fn => ⟨f38, _, P_how_many, ok_how_many F38 B (hf0 fn) (g_pleases fn), PySem.W.mg_of X G a38, k38, b38⟩
  have t__law_torn_right : FnT l.prog w K (TF C0 noFn) mg base (L2N.CX l.prog w) PT "_law_torn_right" 17 OK__law_torn_right := ⟨f39, _, P__law_torn_right, ok__law_torn_right l39 c39 TB B hx a_Unpleased a_BadHouse xf_Unpleased hm_Torn_holds hm_House_wishes hc_House g_settled g_keeping c_House c_Torn c_Pleased m_Torn_holds m_Pleased_holds, PySem.W.mg_of X G a39, k39, b39⟩
  have t__law_told_right : FnT l.prog w K (TF C0 noFn) mg base (L2N.CX l.prog w) PT "_law_told_right" 19 OK__law_told_right := ⟨f40, _, P__law_told_right, ok__law_told_right (T := TF C0 noFn) l40 c40 B t__law_torn_right (g_telling noFn) (g_how_many noFn) (c_House noFn) (c_Pleased noFn) (o_Pleased noFn) (m_Clash_holds noFn) (m_Torn_holds noFn) (m_Pleased_holds noFn), PySem.W.mg_of X G a40, k40, b40⟩
  exact (ok_law (P := l.prog) (w := w) (T := TF C0 noFn) (base := base) l41 c41 B t__law_told_right (g__law_chains_right noFn) (g__law_kept_right noFn) (g__law_texts_right noFn)).imp (fun vs H Q E h => law_imp h)
theorem walk {l : PySem.W.OpenLaw} {q : Program} {loose : List PySem.Str} {XP : (PySem.Str → Option Value) → Heap → Prop} {YP : World → Heap → Prop} {d : DefRec} {K : Params → PySem.W.Frag} (hn : l.most = some 63) (hdf : d.params.defaults = [])
    (hY : ∀ (w : World) (h : Heap), YP w h → (K w.params).In h)
    (hrec : ((PyProof.Rows.recsOf q).any fun e => e.name == ("_law_torn_right" : PySem.Str)) = true)
    (F : ∀ (w : World) (mg : PySem.Str → Option Value) (fa : Addr) (h : Heap), (K w.params).In h → h.Ns mainGlobals mg → mg d.name = some (.ref fa) → (∀ ft : Addr, mg "_law_torn_right" = some (.ref ft) → LamX.OwnTab (K w.params) ft h) → LamX.LawAtS l w (K w.params) CX0 21 63 "_law_script" mg fa h) :
    PySem.W.WalkO q loose XP YP l.row.toRowW d [] (fun f vs => PySem.call f vs) :=
  walk_named (n := 63) (k := 21) (CX := fun _ => CX0) (x := "_law_script") "_law_torn_right" hn (by decide) hdf ⟨rfl, by decide, by decide⟩ hrec hY F fun _ _ _ _ _ z => z
end Toy

open PySem PySem.W PyProof.Rows in
set_option maxRecDepth 100000 in
set_option maxHeartbeats 0 in
theorem PySem.Challenge.cw_eitheror_k10_promises_by_hand_holds : PySem.Challenge.rw_eitheror_k10_promises_by_hand.Holds := by
  w_on; o_law; k_head; (case hw => w_witness2)
  k_fill
  refine Toy.walk (l := PySem.Challenge.rw_eitheror_k10_promises_by_hand) rfl rfl (fun w h Y => Y.1) ?hrec ?F
  case hrec => kernel_rfl
  case F =>
    intro w mg fa h KX G hmg own
    refine' Toy.all_mk KX G hmg ?aCHouse ?pgHouse ?hdHouse ?poHouse ?saHouse ?mkHouse ?kcHouse ?nHouse_names ?nHouse_rows ?aCPleased ?pgPleased ?hdPleased ?poPleased ?saPleased ?mkPleased ?kcPleased ?nPleased_choice ?aCTorn ?pgTorn ?hdTorn ?poTorn ?saTorn ?mkTorn ?kcTorn ?nTorn_there ?nTorn_back ?aCClash ?pgClash ?hdClash ?poClash ?saClash ?mkClash ?kcClash ?nClash_words ?nClash_links ?hnI ?htI ?haPleased ?hmPleased ?qPleased_Pleased ?qPleased_Clash ?wPleased_Clash ?haTorn ?hmTorn ?qTorn_Pleased ?wTorn_Pleased ?qTorn_Clash ?wTorn_Clash ?haClash ?hmClash ?qClash_Pleased ?wClash_Pleased ?qClash_Clash ?xcPleased ?xtPleased ?xcClash ?xtClash ?aCUnpleased ?kcUnpleased ?xbUnpleased ?xtUnpleased ?xiUnpleased ?xhUnpleased ?xsUnpleased ?xnUnpleased ?xfUnpleased ?xyUnpleased ?xlUnpleased ?xdUnpleased ?xkUnpleased ?aCWishError ?xr0 ?xr1 ?xr2 ?xcUnpleased ?xgUnpleased ?xqUnpleased ?haUnpleased ?hmUnpleased ?aCBadText ?kcBadText ?xbBadText ?xtBadText ?xiBadText ?xhBadText ?xsBadText ?xnBadText ?xfBadText ?xyBadText ?xlBadText ?xdBadText ?xkBadText ?xcBadText ?xgBadText ?xqBadText ?haBadText ?hmBadText ?aCBadHouse ?kcBadHouse ?xbBadHouse ?xtBadHouse ?xpBadHouse ?xcBadHouse ?xgBadHouse ?xqBadHouse ?haBadHouse ?hmBadHouse ?qUnpleased_BadHouse ?wUnpleased_BadHouse ?qBadText_BadHouse ?wBadText_BadHouse ?qBadHouse_BadHouse ?qUnpleased_BadText ?wUnpleased_BadText ?qBadText_BadText ?qBadHouse_BadText ?wBadHouse_BadText ?qUnpleased_Unpleased ?qBadText_Unpleased ?wBadText_Unpleased ?qBadHouse_Unpleased ?wBadHouse_Unpleased ?xcWishError ?xtWishError ?qUnpleased_WishError ?qBadText_WishError ?qBadHouse_WishError ?xhBadHouse ?xbWishError ?xhWishError ?a0 ?l0 ?c0 ?k0 ?a1 ?l1 ?c1 ?k1 ?a2 ?l2 ?c2 ?k2 ?a3 ?l3 ?c3 ?k3 ?a4 ?l4 ?c4 ?k4 ?a5 ?i5 ?l5 ?c5 ?k5 ?a6 ?l6 ?c6 ?k6 ?a7 ?l7 ?c7 ?k7 ?a8 ?l8 ?c8 ?k8 ?a9 ?l9 ?c9 ?k9 ?a10 ?l10 ?c10 ?k10 ?a11 ?l11 ?c11 ?k11 ?a12 ?l12 ?c12 ?k12 ?a13 ?i13 ?l13 ?c13 ?k13 ?a14 ?i14 ?l14 ?c14 ?k14 ?a15 ?l15 ?c15 ?k15 ?a16 ?l16 ?c16 ?k16 ?a17 ?l17 ?c17 ?k17 ?a18 ?i18 ?l18 ?c18 ?k18 ?a19 ?l19 ?c19 ?k19 ?a20 ?l20 ?c20 ?k20 ?a21 ?l21 ?c21 ?k21 ?a22 ?i22 ?l22 ?c22 ?k22 ?a23 ?i23 ?l23 ?c23 ?k23 ?a24 ?l24 ?c24 ?k24 ?a25 ?l25 ?c25 ?k25 ?a26 ?l26 ?c26 ?k26 ?a27 ?i27 ?l27 ?c27 ?k27 ?a28 ?i28 ?l28 ?c28 ?k28 ?a29 ?i29 ?l29 ?c29 ?k29 ?a30 ?l30 ?c30 ?k30 ?a31 ?l31 ?c31 ?k31 ?a32 ?l32 ?c32 ?k32 ?a33 ?l33 ?c33 ?k33 ?a34 ?l34 ?c34 ?k34 ?a35 ?l35 ?c35 ?k35 ?a36 ?l36 ?c36 ?k36 ?a37 ?l37 ?c37 ?k37 ?a38 ?l38 ?c38 ?k38 ?a39 ?l39 ?c39 ?k39 ?a40 ?l40 ?c40 ?k40 ?a41 ?l41 ?c41 ?k41 ?z_abs ?z_all ?z_any ?z_bool ?z_enumerate ?z_int ?z_isinstance ?z_len ?z_list ?z_range ?z_sorted ?z_str ?z_tuple ?y_FIGURES ?y_MOST ?y_WISHES ?w_cd ?klc ?w_vs ?khd ?ktn own
    (case aCHouse => k_is)
    (case pgHouse => k_is)
    (case hdHouse => k_is)
    (case poHouse => k_is)
    (case saHouse => k_is)
    (case mkHouse => k_is)
    (case kcHouse => k_is)
    (case nHouse_names => k_is)
    (case nHouse_rows => k_is)
    (case aCPleased => k_is)
    (case pgPleased => k_is)
    (case hdPleased => k_is)
    (case poPleased => k_is)
    (case saPleased => k_is)
    (case mkPleased => k_is)
    (case kcPleased => k_is)
    (case nPleased_choice => k_is)
    (case aCTorn => k_is)
    (case pgTorn => k_is)
    (case hdTorn => k_is)
    (case poTorn => k_is)
    (case saTorn => k_is)
    (case mkTorn => k_is)
    (case kcTorn => k_is)
    (case nTorn_there => k_is)
    (case nTorn_back => k_is)
    (case aCClash => k_is)
    (case pgClash => k_is)
    (case hdClash => k_is)
    (case poClash => k_is)
    (case saClash => k_is)
    (case mkClash => k_is)
    (case kcClash => k_is)
    (case nClash_words => k_is)
    (case nClash_links => k_is)
    (case hnI => k_is)
    (case htI => k_is)
    (case haPleased => k_is)
    (case hmPleased => k_is)
    (case qPleased_Pleased => k_is)
    (case qPleased_Clash => k_is)
    (case wPleased_Clash => rfl)
    (case haTorn => k_is)
    (case hmTorn => k_is)
    (case qTorn_Pleased => k_is)
    (case wTorn_Pleased => rfl)
    (case qTorn_Clash => k_is)
    (case wTorn_Clash => rfl)
    (case haClash => k_is)
    (case hmClash => k_is)
    (case qClash_Pleased => k_is)
    (case wClash_Pleased => rfl)
    (case qClash_Clash => k_is)
    (case xcPleased => k_is)
    (case xtPleased => k_is)
    (case xcClash => k_is)
    (case xtClash => k_is)
    (case aCUnpleased => k_is)
    (case kcUnpleased => k_is)
    (case xbUnpleased => k_is)
    (case xtUnpleased => k_is)
    (case xiUnpleased => kx_is)
    (case xhUnpleased => k_is)
    (case xsUnpleased => k_is)
    (case xnUnpleased => k_is)
    (case xfUnpleased => k_is)
    (case xyUnpleased => k_is)
    (case xlUnpleased => k_is)
    (case xdUnpleased => k_is)
    (case xkUnpleased => k_is)
    (case aCWishError => k_is)
    (case xr0 => k_is)
    (case xr1 => k_is)
    (case xr2 => k_is)
    (case xcUnpleased => k_is)
    (case xgUnpleased => k_is)
    (case xqUnpleased => k_is)
    (case haUnpleased => k_is)
    (case hmUnpleased => k_is)
    (case aCBadText => k_is)
    (case kcBadText => k_is)
    (case xbBadText => k_is)
    (case xtBadText => k_is)
    (case xiBadText => kx_is)
    (case xhBadText => k_is)
    (case xsBadText => k_is)
    (case xnBadText => k_is)
    (case xfBadText => k_is)
    (case xyBadText => k_is)
    (case xlBadText => k_is)
    (case xdBadText => k_is)
    (case xkBadText => k_is)
    (case xcBadText => k_is)
    (case xgBadText => k_is)
    (case xqBadText => k_is)
    (case haBadText => k_is)
    (case hmBadText => k_is)
    (case aCBadHouse => k_is)
    (case kcBadHouse => k_is)
    (case xbBadHouse => k_is)
    (case xtBadHouse => k_is)
    (case xpBadHouse => k_exc)
    (case xcBadHouse => k_is)
    (case xgBadHouse => k_is)
    (case xqBadHouse => k_is)
    (case haBadHouse => k_is)
    (case hmBadHouse => k_is)
    (case qUnpleased_BadHouse => k_is)
    (case wUnpleased_BadHouse => rfl)
    (case qBadText_BadHouse => k_is)
    (case wBadText_BadHouse => rfl)
    (case qBadHouse_BadHouse => k_is)
    (case qUnpleased_BadText => k_is)
    (case wUnpleased_BadText => rfl)
    (case qBadText_BadText => k_is)
    (case qBadHouse_BadText => k_is)
    (case wBadHouse_BadText => rfl)
    (case qUnpleased_Unpleased => k_is)
    (case qBadText_Unpleased => k_is)
    (case wBadText_Unpleased => rfl)
    (case qBadHouse_Unpleased => k_is)
    (case wBadHouse_Unpleased => rfl)
    (case xcWishError => k_is)
    (case xtWishError => k_is)
    (case qUnpleased_WishError => k_is)
    (case qBadText_WishError => k_is)
    (case qBadHouse_WishError => k_is)
    (case xhBadHouse => k_is)
    (case xbWishError => k_is)
    (case xhWishError => k_is)
    (case a0 => k_is)
    (case l0 => k_is)
    (case c0 => k_is)
    (case k0 => k_is)
    (case a1 => k_is)
    (case l1 => k_is)
    (case c1 => k_is)
    (case k1 => k_is)
    (case a2 => k_is)
    (case l2 => k_is)
    (case c2 => k_is)
    (case k2 => k_is)
    (case a3 => k_is)
    (case l3 => k_is)
    (case c3 => k_is)
    (case k3 => k_is)
    (case a4 => k_is)
    (case l4 => k_is)
    (case c4 => k_is)
    (case k4 => k_is)
    (case a5 => k_is)
    (case i5 => k_is)
    (case l5 => k_is)
    (case c5 => k_is)
    (case k5 => k_is)
    (case a6 => k_is)
    (case l6 => k_is)
    (case c6 => k_is)
    (case k6 => k_is)
    (case a7 => k_is)
    (case l7 => k_is)
    (case c7 => k_is)
    (case k7 => k_is)
    (case a8 => k_is)
    (case l8 => k_is)
    (case c8 => k_is)
    (case k8 => k_is)
    (case a9 => k_is)
    (case l9 => k_is)
    (case c9 => k_is)
    (case k9 => k_is)
    (case a10 => k_is)
    (case l10 => k_is)
    (case c10 => k_is)
    (case k10 => k_is)
    (case a11 => k_is)
    (case l11 => k_is)
    (case c11 => k_is)
    (case k11 => k_is)
    (case a12 => k_is)
    (case l12 => k_is)
    (case c12 => k_is)
    (case k12 => k_is)
    (case a13 => k_is)
    (case i13 => k_is)
    (case l13 => k_is)
    (case c13 => k_is)
    (case k13 => k_is)
    (case a14 => k_is)
    (case i14 => k_is)
    (case l14 => k_is)
    (case c14 => k_is)
    (case k14 => k_is)
    (case a15 => k_is)
    (case l15 => k_is)
    (case c15 => k_is)
    (case k15 => k_is)
    (case a16 => k_is)
    (case l16 => k_is)
    (case c16 => k_is)
    (case k16 => k_is)
    (case a17 => k_is)
    (case l17 => k_is)
    (case c17 => k_is)
    (case k17 => k_is)
    (case a18 => k_is)
    (case i18 => k_is)
    (case l18 => k_is)
    (case c18 => k_is)
    (case k18 => k_is)
    (case a19 => k_is)
    (case l19 => k_is)
    (case c19 => k_is)
    (case k19 => k_is)
    (case a20 => k_is)
    (case l20 => k_is)
    (case c20 => k_is)
    (case k20 => k_is)
    (case a21 => k_is)
    (case l21 => k_is)
    (case c21 => k_is)
    (case k21 => k_is)
    (case a22 => k_is)
    (case i22 => k_is)
    (case l22 => k_is)
    (case c22 => k_is)
    (case k22 => k_is)
    (case a23 => k_is)
    (case i23 => k_is)
    (case l23 => k_is)
    (case c23 => k_is)
    (case k23 => k_is)
    (case a24 => k_is)
    (case l24 => k_is)
    (case c24 => k_is)
    (case k24 => k_is)
    (case a25 => k_is)
    (case l25 => k_is)
    (case c25 => k_is)
    (case k25 => k_is)
    (case a26 => k_is)
    (case l26 => k_is)
    (case c26 => k_is)
    (case k26 => k_is)
    (case a27 => k_is)
    (case i27 => k_is)
    (case l27 => k_is)
    (case c27 => k_is)
    (case k27 => k_is)
    (case a28 => k_is)
    (case i28 => k_is)
    (case l28 => k_is)
    (case c28 => k_is)
    (case k28 => k_is)
    (case a29 => k_is)
    (case i29 => k_is)
    (case l29 => k_is)
    (case c29 => k_is)
    (case k29 => k_is)
    (case a30 => k_is)
    (case l30 => k_is)
    (case c30 => k_is)
    (case k30 => k_is)
    (case a31 => k_is)
    (case l31 => k_is)
    (case c31 => k_is)
    (case k31 => k_is)
    (case a32 => k_is)
    (case l32 => k_is)
    (case c32 => k_is)
    (case k32 => k_is)
    (case a33 => k_is)
    (case l33 => k_is)
    (case c33 => k_is)
    (case k33 => k_is)
    (case a34 => k_is)
    (case l34 => k_is)
    (case c34 => k_is)
    (case k34 => k_is)
    (case a35 => k_is)
    (case l35 => k_is)
    (case c35 => k_is)
    (case k35 => k_is)
    (case a36 => k_is)
    (case l36 => k_is)
    (case c36 => k_is)
    (case k36 => k_is)
    (case a37 => k_is)
    (case l37 => k_is)
    (case c37 => k_is)
    (case k37 => k_is)
    (case a38 => k_is)
    (case l38 => k_is)
    (case c38 => k_is)
    (case k38 => k_is)
    (case a39 => k_is)
    (case l39 => k_is)
    (case c39 => k_is)
    (case k39 => k_is)
    (case a40 => k_is)
    (case l40 => k_is)
    (case c40 => k_is)
    (case k40 => k_is)
    (case a41 => k_is)
    (case l41 => k_is)
    (case c41 => k_is)
    (case k41 => k_is)
    (case z_abs => k_is)
    (case z_all => k_is)
    (case z_any => k_is)
    (case z_bool => k_is)
    (case z_enumerate => k_is)
    (case z_int => k_is)
    (case z_isinstance => k_is)
    (case z_len => k_is)
    (case z_list => k_is)
    (case z_range => k_is)
    (case z_sorted => k_is)
    (case z_str => k_is)
    (case z_tuple => k_is)
    (case y_FIGURES => k_is)
    (case y_MOST => k_is)
    (case y_WISHES => k_is)
    (case w_cd => rfl)
    (case klc => k_is)
    (case w_vs => rfl)
    (case khd => kernel_rfl)
    (case ktn => kernel_rfl)
