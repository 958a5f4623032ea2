import PyProof.Rows.All
import Wide.All
import OpenK.AllK
import Wide.FinOn
import HandS.ForMost
import HandS.EndTab
import KE.KLam
import KE.KNestM
import HandS.Iter
import HandS.Lambda
import HandS.Conv
import KE.KDictCopyH
import HandS.More
import KE.KDictPairs
import KE.GoesComp
import HandS.TupMul
import HandS.Set
import HandS.TupSets
import KE.SortData
import HandS.SetFor
import HandS.Strs
import HandS.Wide
import HandS.TupAny
import HandS.SetKeys
import HandS.Zip
import HandS.Star
import HandS.Style
import HandS.DictComp
import HandS.Deep
import KE.GoesEnum
import KE.GoesMore
import HandS.Small
import KE.DataFind
import HandS.Remove
import KE.DataMinKey
import PySem.Challenge.RW_shadebarriers_k90_whole_safe_tables_run
set_option Elab.async false
set_option linter.all false
set_option maxRecDepth 100000
section
open PySem PySem.W PyProof.Rows
set_option maxHeartbeats 0
open_top hdtop for PySem.Challenge.rw_shadebarriers_k90_whole_safe_tables_run
end
namespace SB
/-! ### the law's own world, with no program in sight -/
inductive Col where
  | black | grey | white
  deriving DecidableEq
inductive Who where
  | holder | old | new
  deriving DecidableEq
/-- a mark; true: scanned -/
inductive Mk where
  | load (s : Bool) (c : Col) | new (s : Bool) | store (s : Bool) (h : Col) (o n : Option Col) (w : Who)
  deriving DecidableEq
structure Sta where
  w : Nat
  slots : List (List (Option Nat))
  cols : List Col
  held : List (List Nat)
  sc : List Bool
inductive Stp where
  | scan (n : Nat) | visit (t : Nat) | new (t : Nat) | drop (t n : Nat) | load (t n s : Nat) | store (t n s : Nat) (o : Option Nat)
  deriving DecidableEq
namespace Sta
def col (S : Sta) (n : Nat) : Col := S.cols.getD n .black
def ocol (S : Sta) (o : Option Nat) : Option Col := o.map S.col
def row (S : Sta) (n : Nat) : List (Option Nat) := S.slots.getD n []
def at' (S : Sta) (n s : Nat) : Option Nat := (S.row n).getD s none
def hold (S : Sta) (t : Nat) : List Nat := S.held.getD t []
def scn (S : Sta) (t : Nat) : Bool := S.sc.getD t false
end Sta
def isWhite (S : Sta) (n : Nat) : Bool := decide (S.col n = .white)
def ended (again : Bool) (S : Sta) : Bool := !(S.cols.any fun c => decide (c = .grey)) && S.sc.all id && S.held.all fun h => !(again && h.any (isWhite S))
def stepsAt (S : Sta) (h : List Nat) (t n : Nat) : List Stp :=
  .drop t n :: (List.range S.w).flatMap fun s => (if (S.at' n s).isSome then [Stp.load t n s] else []) ++ (none :: h.map some).map fun o => Stp.store t n s o
def stepsOf (again : Bool) (S : Sta) (t : Nat) : List Stp :=
  (if again || !S.scn t then [Stp.visit t] else []) ++ (if S.slots.length < 12 then [Stp.new t] else []) ++ (S.hold t).flatMap (stepsAt S (S.hold t) t)
def scans (S : Sta) : List Stp := ((List.range S.cols.length).filter fun n => decide (S.col n = .grey)).map Stp.scan
def steps (again : Bool) (S : Sta) : List Stp := if ended again S then [] else scans S ++ (List.range S.held.length).flatMap (stepsOf again S)
def shade (cs : List Col) (n : Nat) (holder : Bool) : List Col := cs.set n (if cs.getD n .black = .white ∨ holder = true then .grey else cs.getD n .black)
def oshade (cs : List Col) : Option Nat → List Col
  | none => cs
  | some n => shade cs n false
def greyN (cs : List Col) : Option Nat → List Col
  | none => cs
  | some n => if cs.getD n .black = .white then cs.set n .grey else cs
def greys (cs : List Col) (ns : List (Option Nat)) : List Col := ns.foldl greyN cs
/-- a number comes to an ascending list -/
def insN (n : Nat) : List Nat → List Nat
  | [] => [n]
  | m :: l => if n < m then n :: m :: l else if n = m then m :: l else m :: insN n l
def addH (held : List (List Nat)) (t n : Nat) : List (List Nat) := held.set t (insN n (held.getD t []))
def putRow (slots : List (List (Option Nat))) (b s : Nat) (o : Option Nat) : List (List (Option Nat)) := slots.set b ((slots.getD b []).set s o)
/-- the colours behind a store -/
def storeCols (T : List Mk) (S : Sta) (t b s : Nat) (o : Option Nat) : List Col :=
  let key := fun w => decide (Mk.store (S.scn t) (S.col b) (S.ocol (S.at' b s)) (S.ocol o) w ∈ T)
  let c1 := if key .holder then shade S.cols b true else S.cols
  let c2 := if key .old then oshade c1 (S.at' b s) else c1
  if key .new then oshade c2 o else c2
def next (T : List Mk) (S : Sta) : Stp → Sta
  | .scan n => { S with cols := (greys S.cols (S.row n)).set n .black }
  | .visit t => { S with cols := greys S.cols ((S.hold t).map some), sc := S.sc.set t true }
  | .new t => { S with slots := S.slots ++ [List.replicate S.w none], cols := S.cols ++ [if Mk.new (S.scn t) ∈ T then .black else .white], held := addH S.held t S.slots.length }
  | .drop t n => { S with held := S.held.set t ((S.hold t).filter fun m => m != n) }
  | .load t n s =>
    match S.at' n s with
    | none => S
    | some m => { S with cols := if Mk.load (S.scn t) (S.col n) ∈ T then greyN S.cols (some m) else S.cols, held := addH S.held t m }
  | .store t b s o => { S with slots := putRow S.slots b s o, cols := storeCols T S t b s o }
/-- marks that may stand in a table -/
def Mk.ok : Mk → Bool
  | .load _ _ => true
  | .new _ => true
  | .store _ h o n .holder => decide (h ≠ .grey)
  | .store _ h o n .old => decide (o = some .white)
  | .store _ h o n .new => decide (n = some .white)
/-- what a state keeps to -/
structure Sta.Ok (S : Sta) : Prop where
  w1 : 1 ≤ S.w
  w4 : S.w ≤ 4
  n12 : S.slots.length ≤ 12
  t4 : S.held.length ≤ 4
  cl : S.cols.length = S.slots.length
  sl : S.sc.length = S.held.length
  row : ∀ r ∈ S.slots, r.length = S.w ∧ ∀ n, some n ∈ r → n < S.slots.length
  held : ∀ h ∈ S.held, h.Pairwise (· < ·) ∧ ∀ n ∈ h, n < S.slots.length
end SB
namespace SB
set_option maxRecDepth 100000
open PySem PySem.Spec PyProof.Rows L2

/-! ### data -/
inductive D where
  | non | bl (b : Bool) | int (i : Int) | str (s : Str)
  | tup (ds : List D) | lst (ds : List D)
  | dk (ks : List Key) (ds : List D) | dm (g : List (Addr × List Str) → Addr → HO) (ms : List (List Str))
  | adr (a : Addr)
  | tpl (ds : List D)

mutual
inductive Is (K : PySem.W.Frag) (H : Hp) : V → D → Prop
  | non : Is K H .non .non
  | bl (b : Bool) : Is K H (.bl b) (.bl b)
  | int (i : Int) : Is K H (.int i) (.int i)
  | str (s : Str) : Is K H (.str s) (.str s)
  | adr (a : Addr) : Is K H (.ref a) (.adr a)
  | tup {a : Addr} {xs : List V} {ds : List D} : SqT K H a xs → IsL K H xs ds → Is K H (.ref a) (.tup ds)
  | lst {a : Addr} {xs : List V} {ds : List D} : H a = some (.lst xs) → IsL K H xs ds → Is K H (.ref a) (.lst ds)
  | dk {a : Addr} {ks : List Key} {vs : List V} {ds : List D} : H a = some (.dK (ks.zip vs)) → ks.length = vs.length → IsL K H vs ds → Is K H (.ref a) (.dk ks ds)
  | tpl {a : Addr} {o : Obj} {xs : List V} {ds : List D} : H a = some (.frz o (.tup xs)) → o.dict = none → IsL K H xs ds → Is K H (.ref a) (.tpl ds)
  | dm {a : Addr} {g : List (Addr × List Str) → Addr → HO} {rows : List (Addr × List Str)} {ms : List (List Str)} : H a = some (g rows a) → rows.map (·.2) = ms → (∀ p ∈ rows, SqT K H p.1 (p.2.map V.str)) → Is K H (.ref a) (.dm g ms)
inductive IsL (K : PySem.W.Frag) (H : Hp) : List V → List D → Prop
  | nil : IsL K H [] []
  | cons {v : V} {d : D} {vs : List V} {ds : List D} : Is K H v d → IsL K H vs ds → IsL K H (v :: vs) (d :: ds)
end

section
variable {K : PySem.W.Frag} {H H' : Hp} {v : V} {vs : List V} {d : D} {ds : List D}
theorem same_rd {a : Addr} {u : HO} (e : Same H H') (h : Rd H a u) : Rd H' a u := by
  rcases h with h | ⟨o, h⟩
  · exact .inl (e _ _ h)
  · exact .inr ⟨o, e _ _ h⟩
theorem same_t {a : Addr} {xs : List V} (e : Same H H') (h : SqT K H a xs) : SqT K H' a xs := by
  rcases h with h | h
  · exact .inl (same_rd e h)
  · exact .inr h
theorem same_l {a : Addr} {xs : List V} (e : Same H H') (h : SqL K H a xs) : SqL K H' a xs := by
  rcases h with h | h
  · exact .inl (same_rd e h)
  · exact .inr h
mutual
theorem Is.mono {v : V} {d : D} (e : Same H H') : Is K H v d → Is K H' v d
  | .non => .non
  | .bl b => .bl b
  | .int i => .int i
  | .str s => .str s
  | .adr a => .adr a
  | .tup h l => .tup (same_t e h) (IsL.mono e l)
  | .lst h l => .lst (e _ _ h) (IsL.mono e l)
  | .dk h z l => .dk (e _ _ h) z (IsL.mono e l)
  | .tpl h z l => .tpl (e _ _ h) z (IsL.mono e l)
  | .dm h z l => .dm (e _ _ h) z (fun p hp => same_t e (l p hp))
theorem IsL.mono {vs : List V} {ds : List D} (e : Same H H') : IsL K H vs ds → IsL K H' vs ds
  | .nil => .nil
  | .cons h t => .cons (Is.mono e h) (IsL.mono e t)
end
theorem IsL.length {vs : List V} : ∀ {ds : List D}, IsL K H vs ds → vs.length = ds.length := by
  induction vs with
  | nil => intro ds h; cases h; rfl
  | cons v vs ih => intro ds h; cases h with | cons _ t => rw [List.length_cons, List.length_cons, ih t]
theorem IsL.get {vs : List V} : ∀ {ds : List D} {i : Nat} {d : D}, IsL K H vs ds → ds[i]? = some d → ∃ v, vs[i]? = some v ∧ Is K H v d := by
  induction vs with
  | nil => intro ds i d h e; cases h; simp at e
  | cons v vs ih =>
    intro ds i d h e
    cases h with
    | cons h t =>
      cases i with
      | zero => simp at e; subst e; exact ⟨v, rfl, h⟩
      | succ i => obtain ⟨u, a, b⟩ := ih t (by simpa using e); exact ⟨u, by simpa using a, b⟩
theorem IsL.getv {vs : List V} : ∀ {ds : List D} {i : Nat} {v : V}, IsL K H vs ds → vs[i]? = some v → ∃ d, ds[i]? = some d ∧ Is K H v d := by
  induction vs with
  | nil => intro ds i d h e; cases h; simp at e
  | cons v vs ih =>
    intro ds i d h e
    cases h with
    | cons h t =>
      cases i with
      | zero => simp at e; subst e; exact ⟨_, rfl, h⟩
      | succ i => obtain ⟨u, a, b⟩ := ih t (by simpa using e); exact ⟨u, by simpa using a, b⟩
theorem IsL.append {vs ws : List V} : ∀ {ds es : List D}, IsL K H vs ds → IsL K H ws es → IsL K H (vs ++ ws) (ds ++ es) := by
  induction vs with
  | nil => intro ds es h t; cases h; exact t
  | cons v vs ih => intro ds es h t; cases h with | cons a b => exact .cons a (ih b t)
theorem IsL.take {vs : List V} : ∀ {ds : List D} (n : Nat), IsL K H vs ds → IsL K H (vs.take n) (ds.take n) := by
  induction vs with
  | nil => intro ds n h; cases h; simp; exact .nil
  | cons v vs ih =>
    intro ds n h
    cases h with
    | cons a b => cases n with | zero => exact .nil | succ n => exact .cons a (ih n b)
theorem IsL.drop {vs : List V} : ∀ {ds : List D} (n : Nat), IsL K H vs ds → IsL K H (vs.drop n) (ds.drop n) := by
  induction vs with
  | nil => intro ds n h; cases h; simp; exact .nil
  | cons v vs ih =>
    intro ds n h
    cases h with
    | cons a b => cases n with | zero => exact .cons a b | succ n => exact ih n b
theorem IsL.set {vs : List V} {v : V} {d : D} (r : Is K H v d) : ∀ {ds : List D} (n : Nat), IsL K H vs ds → IsL K H (vs.set n v) (ds.set n d) := by
  induction vs with
  | nil => intro ds n h; cases h; exact .nil
  | cons w vs ih =>
    intro ds n h
    cases h with
    | cons a b => cases n with | zero => exact .cons r b | succ n => exact .cons a (ih n b)
theorem IsL.rep {v : V} {d : D} (r : Is K H v d) : ∀ n : Nat, IsL K H (List.replicate n v) (List.replicate n d)
  | 0 => .nil
  | n + 1 => .cons r (IsL.rep r n)
end

/-! ### a heap with some addresses hidden -/
def hid (H : Hp) (L : List Addr) : Hp := fun a => if a ∈ L then none else H a
theorem hid_nil (H : Hp) : hid H [] = H := by funext a; unfold hid; simp
theorem hid_some {H : Hp} {L : List Addr} {a : Addr} {o : HO} (h : hid H L a = some o) : H a = some o ∧ a ∉ L := by
  unfold hid at h
  split at h
  · cases h
  · exact ⟨h, by assumption⟩
theorem hid_sub {H : Hp} {L : List Addr} : Same (hid H L) H := fun a o h => (hid_some h).1
theorem hid_of {H : Hp} {L : List Addr} {a : Addr} {o : HO} (h : H a = some o) (n : a ∉ L) : hid H L a = some o := by
  unfold hid; rw [if_neg n]; exact h
theorem hid_mono {H H' : Hp} {L : List Addr} (e : Same H H') : Same (hid H L) (hid H' L) := fun a o h => hid_of (e _ _ (hid_some h).1) (hid_some h).2
theorem hid_upd {H : Hp} {L : List Addr} {p : Addr} {o : HO} (h : p ∈ L) : hid (upd H p o) L = hid H L := by
  funext a
  unfold hid
  split
  · rfl
  · rw [upd_ne (fun e => by subst e; exact absurd h (by assumption))]
/-- what is hidden stands in the heap -/
def Dom (L : List Addr) (H : Hp) : Prop := ∀ a ∈ L, H a ≠ none
theorem Dom.mono {L : List Addr} {H H' : Hp} (h : Dom L H) (e : Same H H') : Dom L H' := fun a ha => by
  cases q : H a with
  | none => exact absurd q (h a ha)
  | some o => rw [e _ _ q]; simp
theorem Dom.nil {H : Hp} : Dom [] H := fun a h => by simp at h
theorem Dom.fresh {L : List Addr} {H : Hp} {p : Addr} (h : Dom L H) (n : H p = none) : p ∉ L := fun z => h p z n
theorem same_new {H : Hp} {p : Addr} {o : HO} (h : H p = none) : Same H (upd H p o) := fun b x e => by
  rw [upd_ne (ne_of_none e h)]; exact e

/-! ### environments -/
abbrev Rho := List (Str × Option D)
inductive IsE (K : PySem.W.Frag) (H : Hp) : L2.St → Rho → Prop
  | nil : IsE K H [] []
  | any {x : Option V} {n : Str} {σ : L2.St} {r : Rho} : IsE K H σ r → IsE K H (x :: σ) ((n, none) :: r)
  | val {v : V} {n : Str} {d : D} {σ : L2.St} {r : Rho} : Is K H v d → IsE K H σ r → IsE K H (some v :: σ) ((n, some d) :: r)
/-- x holds d -/
inductive Lk : Rho → Str → D → Prop
  | here {x : Str} {d : D} {r : Rho} : Lk ((x, some d) :: r) x d
  | next {x : Str} {d : D} {r : Rho} {p : Str × Option D} : Lk r x d → Lk (p :: r) x d
/-- x gets o -/
inductive Up : Rho → Str → Option D → Rho → Nat → Prop
  | here {x : Str} {o o' : Option D} {r : Rho} : Up ((x, o) :: r) x o' ((x, o') :: r) 0
  | next {x : Str} {o' : Option D} {r r' : Rho} {p : Str × Option D} {i : Nat} : Up r x o' r' i → Up (p :: r) x o' (p :: r') (i + 1)
/-- less known -/
inductive Le : Rho → Rho → Prop
  | nil : Le [] []
  | any {n : Str} {x : Option D} {r s : Rho} : Le r s → Le ((n, x) :: r) ((n, none) :: s)
  | same {p : Str × Option D} {r s : Rho} : Le r s → Le (p :: r) (p :: s)
theorem Le.refl : ∀ r : Rho, Le r r
  | [] => .nil
  | _ :: r => .same (Le.refl r)
theorem Le.names : ∀ {r s : Rho}, Le r s → s.map (·.1) = r.map (·.1)
  | _, _, .nil => rfl
  | _, _, .any l => by rw [List.map_cons, List.map_cons, Le.names l]
  | _, _, .same l => by rw [List.map_cons, List.map_cons, Le.names l]
theorem Up.names : ∀ {r r' : Rho} {x : Str} {o : Option D} {i : Nat}, Up r x o r' i → r'.map (·.1) = r.map (·.1)
  | _, _, _, _, _, .here => rfl
  | _, _, _, _, _, .next u => by rw [List.map_cons, List.map_cons, Up.names u]
/-- the place of a name -/
theorem Up.ix : ∀ {r r' : Rho} {x : Str} {o : Option D} {i : Nat}, Up r x o r' i → (r.map (·.1))[i]? = some x
  | _, _, _, _, _, .here => rfl
  | _, _, _, _, _, .next u => by simpa using Up.ix u
section
variable {K : PySem.W.Frag} {H H' : Hp}
theorem IsE.mono (e : Same H H') : ∀ {σ : L2.St} {r : Rho}, IsE K H σ r → IsE K H' σ r
  | _, _, .nil => .nil
  | _, _, .any t => .any (IsE.mono e t)
  | _, _, .val h t => .val (h.mono e) (IsE.mono e t)
theorem IsE.length : ∀ {σ : L2.St} {r : Rho}, IsE K H σ r → σ.length = r.length
  | _, _, .nil => rfl
  | _, _, .any t => by rw [List.length_cons, List.length_cons, IsE.length t]
  | _, _, .val _ t => by rw [List.length_cons, List.length_cons, IsE.length t]
theorem IsE.look : ∀ {σ : L2.St} {r : Rho} {x : Str} {d : D}, IsE K H σ r → Lk r x d → ∃ (i : Nat) (v : V), (r.map (·.1))[i]? = some x ∧ σ[i]? = some (some v) ∧ Is K H v d ∧ ∃ p ∈ r, p.1 = x ∧ p.2.isSome = true
  | _, _, _, _, .val h t, .here => ⟨0, _, rfl, rfl, h, _, List.mem_cons_self, rfl, rfl⟩
  | _, _, _, _, .any t, .next l => by
    obtain ⟨i, v, a, b, c, p, q, z⟩ := IsE.look t l
    exact ⟨i + 1, v, by simpa using a, by simpa using b, c, p, List.mem_cons_of_mem _ q, z⟩
  | _, _, _, _, .val _ t, .next l => by
    obtain ⟨i, v, a, b, c, p, q, z⟩ := IsE.look t l
    exact ⟨i + 1, v, by simpa using a, by simpa using b, c, p, List.mem_cons_of_mem _ q, z⟩
/-- the name at a place is stored -/
theorem IsE.up {v : V} {d : D} (h : Is K H v d) : ∀ {σ : L2.St} {r r' : Rho} {x : Str} {i : Nat}, IsE K H σ r → Up r x (some d) r' i → IsE K H (σ.set i (some v)) r'
  | _, _, _, _, _, .any t, .here => .val h t
  | _, _, _, _, _, .val _ t, .here => .val h t
  | _, _, _, _, _, .any t, .next u => .any (IsE.up h t u)
  | _, _, _, _, _, .val g t, .next u => .val g (IsE.up h t u)
theorem IsE.le : ∀ {σ : L2.St} {r s : Rho}, IsE K H σ r → Le r s → IsE K H σ s
  | _, _, _, .nil, .nil => .nil
  | _, _, _, .any t, .any l => .any (IsE.le t l)
  | _, _, _, .val _ t, .any l => .any (IsE.le t l)
  | _, _, _, .any t, .same l => .any (IsE.le t l)
  | _, _, _, .val h t, .same l => .val h (IsE.le t l)
end
/-- the names of a context, those that are known are to be seen -/
structure CxN (X : Cx) (r : Rho) : Prop where
  names : X.N = r.map (·.1)
  nd : X.N.Nodup
  dbg : ∀ x ∈ X.N, (x == ("__debug__" : Str)) = false ∧ (x == ("__classdict__" : Str)) = false
  vis : ∀ p ∈ r, p.2.isSome = true → Vis X.env.scope p.1
  calm : X.calm = true
theorem Up.mem : ∀ {r r' : Rho} {x : Str} {o : Option D} {i : Nat}, Up r x o r' i → ∀ p ∈ r', p ∈ r ∨ p = (x, o)
  | _, _, _, _, _, .here, p, h => by
    rcases List.mem_cons.mp h with e | h
    · exact .inr e
    · exact .inl (List.mem_cons_of_mem _ h)
  | _, _, _, _, _, .next u, p, h => by
    rcases List.mem_cons.mp h with e | h
    · exact .inl (e ▸ List.mem_cons_self)
    · exact (Up.mem u p h).imp (List.mem_cons_of_mem _) id
theorem CxN.up {X : Cx} {r r' : Rho} {x : Str} {o : Option D} {i : Nat} (C : CxN X r) (u : Up r x o r' i) (v : Vis X.env.scope x) : CxN X r' := by
  refine ⟨by rw [u.names]; exact C.names, C.nd, C.dbg, fun p hp hs => ?_, C.calm⟩
  rcases u.mem p hp with h | h
  · exact C.vis p h hs
  · rw [h]; exact v
theorem Le.mem : ∀ {r s : Rho}, Le r s → ∀ p ∈ s, p.2.isSome = true → p ∈ r
  | _, _, .any l, p, h, e => by
    rcases List.mem_cons.mp h with z | h
    · rw [z] at e; cases e
    · exact List.mem_cons_of_mem _ (Le.mem l p h e)
  | _, _, .same l, p, h, e => by
    rcases List.mem_cons.mp h with z | h
    · exact z ▸ List.mem_cons_self
    · exact List.mem_cons_of_mem _ (Le.mem l p h e)
theorem CxN.le {X : Cx} {r s : Rho} (C : CxN X r) (l : Le r s) : CxN X s :=
  ⟨by rw [l.names]; exact C.names, C.nd, C.dbg, fun p hp hs => C.vis p (l.mem p hp hs) hs, C.calm⟩

/-! ### weakest preconditions on syntax -/
def WE (X : Cx) (e : Expr) : TE := fun σ H Q => ∀ (pins : List (Addr × Obj)) (s : Shared), Inv X pins σ H s → wpAny (model X.prog X.w) X.A (eval e X.env) (EP X pins σ Q) X.xe s
def WT (X : Cx) (e : Expr) : TT := fun σ H Q => ∀ (pins : List (Addr × Obj)) (s : Shared), Inv X pins σ H s → wpAny (model X.prog X.w) X.A (isTrue e X.env (eval e X.env)) (TP X pins σ Q) X.xe s
def WA (X : Cx) (es : List Expr) : TA := fun σ H Q => ∀ (pos : Pos) (pins : List (Addr × Obj)) (s : Shared), Inv X pins σ H s → wpAny (model X.prog X.w) X.A (spliced (backTo pos (starEach es X.env))) (AP X pins σ Q) X.xe s
def W1 (X : Cx) (st : Stmt) : TS := fun D σ H => ∀ (pins : List (Addr × Obj)) (s : Shared), Inv X pins σ H s → wpAny (model X.prog X.w) X.A (exec st X.env) (SP X pins D) X.xe s
def WS (X : Cx) (sts : List Stmt) : TS := fun D σ H => ∀ (pins : List (Addr × Obj)) (s : Shared), Inv X pins σ H s → wpAny (model X.prog X.w) X.A (execs sts X.env) (SP X pins D) X.xe s
section
variable {X : Cx} {e : Expr} {es : List Expr} {st : Stmt} {sts : List Stmt}
theorem pe_w (X : Cx) (e : Expr) : PE X e (WE X e) := ⟨fun pins s _ _ _ I h => h pins s I⟩
theorem pt_w (X : Cx) (e : Expr) : PT X e (WT X e) := ⟨fun pins s _ _ _ I h => h pins s I⟩
theorem pa_w (X : Cx) (es : List Expr) : PA X es (WA X es) := ⟨fun pos pins s _ _ _ I h => h pos pins s I⟩
theorem ps_w (X : Cx) (st : Stmt) : PS X st (W1 X st) := ⟨fun pins s _ _ _ I h => h pins s I⟩
theorem pss_w (X : Cx) (sts : List Stmt) : PSs X sts (WS X sts) := ⟨fun pins s _ _ _ I h => h pins s I⟩
theorem we_of {t : TE} (p : PE X e t) {σ : L2.St} {H : Hp} {Q : VK} (h : t σ H Q) : WE X e σ H Q := fun pins s I => p.run pins s σ H Q I h
theorem wt_of {t : TT} (p : PT X e t) {σ : L2.St} {H : Hp} {Q : Bool → Hp → Prop} (h : t σ H Q) : WT X e σ H Q := fun pins s I => p.run pins s σ H Q I h
theorem wa_of {t : TA} (p : PA X es t) {σ : L2.St} {H : Hp} {Q : List V → Hp → Prop} (h : t σ H Q) : WA X es σ H Q := fun pos pins s I => p.run pos pins s σ H Q I h
theorem w1_of {t : TS} (p : PS X st t) {σ : L2.St} {H : Hp} {D : Ends} (h : t D σ H) : W1 X st D σ H := fun pins s I => p.run pins s σ H D I h
theorem ws_of {t : TS} (p : PSs X sts t) {σ : L2.St} {H : Hp} {D : Ends} (h : t D σ H) : WS X sts D σ H := fun pins s I => p.run pins s σ H D I h
theorem ws_cons {σ : L2.St} {H : Hp} {D : Ends} (h : W1 X st { D with nx := WS X sts D } σ H) : WS X (st :: sts) D σ H := ws_of (pss_cons (ps_w X st) (pss_w X sts)) h
theorem ws_one {σ : L2.St} {H : Hp} {D : Ends} (h : W1 X st D σ H) : WS X [st] D σ H := ws_of (pss_one (ps_w X st)) h
end

/-! ### pure evaluation -/
/-- e gives d; nothing that stands is changed. L: what the facts do not lean on -/
def EXd (X : Cx) (e : Expr) (r : Rho) (d : D) : Prop := CxN X r →
  ∀ (L : List Addr) (σ : L2.St) (H : Hp) (Q : VK), Dom L H → IsE X.K (hid H L) σ r → (∀ v H', Same H H' → Is X.K (hid H' L) v d → Q v H') → WE X e σ H Q
structure EX (X : Cx) (e : Expr) (r : Rho) (d : D) : Prop where mk ::
  run : EXd X e r d
instance {X : Cx} {e : Expr} {r : Rho} {d : D}  : CoeFun (EX X e r d) (fun _ => EXd X e r d) := ⟨EX.run⟩
/-- e gives a new list -/
def FXd (X : Cx) (e : Expr) (r : Rho) (ds : List D) : Prop := CxN X r →
  ∀ (L : List Addr) (σ : L2.St) (H : Hp) (Q : VK), Dom L H → IsE X.K (hid H L) σ r → (∀ p xs H', H p = none → Same H H' → H' p = some (.lst xs) → IsL X.K (hid H' (p :: L)) xs ds → Q (.ref p) H') → WE X e σ H Q
structure FX (X : Cx) (e : Expr) (r : Rho) (ds : List D) : Prop where mk ::
  run : FXd X e r ds
instance {X : Cx} {e : Expr} {r : Rho} {ds : List D}  : CoeFun (FX X e r ds) (fun _ => FXd X e r ds) := ⟨FX.run⟩
def TXd (X : Cx) (e : Expr) (r : Rho) (b : Bool) : Prop := CxN X r →
  ∀ (L : List Addr) (σ : L2.St) (H : Hp) (Q : Bool → Hp → Prop), Dom L H → IsE X.K (hid H L) σ r → (∀ H', Same H H' → Q b H') → WT X e σ H Q
structure TX (X : Cx) (e : Expr) (r : Rho) (b : Bool) : Prop where mk ::
  run : TXd X e r b
instance {X : Cx} {e : Expr} {r : Rho} {b : Bool}  : CoeFun (TX X e r b) (fun _ => TXd X e r b) := ⟨TX.run⟩
def AXd (X : Cx) (es : List Expr) (r : Rho) (ds : List D) : Prop := CxN X r →
  ∀ (L : List Addr) (σ : L2.St) (H : Hp) (Q : List V → Hp → Prop), Dom L H → IsE X.K (hid H L) σ r → (∀ vs H', Same H H' → IsL X.K (hid H' L) vs ds → Q vs H') → WA X es σ H Q

structure AX (X : Cx) (es : List Expr) (r : Rho) (ds : List D) : Prop where mk ::
  run : AXd X es r ds
instance {X : Cx} {es : List Expr} {r : Rho} {ds : List D}  : CoeFun (AX X es r ds) (fun _ => AXd X es r ds) := ⟨AX.run⟩
theorem is_new {K : PySem.W.Frag} {H : Hp} {L : List Addr} {p : Addr} {o : HO} (dm : Dom L H) (n : H p = none) : hid (upd H p o) L p = some o := hid_of upd_same (dm.fresh n)
theorem hid_cons {H : Hp} {L : List Addr} {p : Addr} : Same (hid H (p :: L)) (hid H L) := fun a o h => hid_of (hid_some h).1 fun z => (hid_some h).2 (List.mem_cons_of_mem _ z)
theorem hid_new {H H1 : Hp} {L : List Addr} {p : Addr} (n : H p = none) (e : Same H H1) : Same (hid H L) (hid H1 (p :: L)) := fun a o h => hid_of (e _ _ (hid_some h).1) fun z => by
  rcases List.mem_cons.mp z with z | z
  · subst z; have h := (hid_some h).1; rw [n] at h; cases h
  · exact (hid_some h).2 z
section
variable {X : Cx} {e e' : Expr} {es : List Expr} {r r' : Rho} {d d' : D} {ds : List D} {x : Str} {pos pos' : Pos}
theorem ex_var (h : Lk r x d) : EX X (.Name x pos) r d := by
  constructor
  intro C L σ H Q dm I q
  obtain ⟨i, v, h1, h2, h3, p, hp, rfl, hs⟩ := I.look h
  have hN : X.N[i]? = some p.1 := by rw [C.names]; exact h1
  have hm : p.1 ∈ X.N := List.mem_of_getElem? hN
  exact we_of (pe_var hN (C.vis p hp hs) (C.dbg _ hm).1 (C.dbg _ hm).2) ⟨v, h2, q v H (Same.refl H) h3⟩
theorem ex_int {n : Int} {j} : EX X (.Constant (.int n) j pos) r (.int n) := .mk fun _ L σ H Q _ _ q => we_of pe_int (q _ H (Same.refl H) (.int n))
theorem ex_bl {n : Bool} {j} : EX X (.Constant (.bool n) j pos) r (.bl n) := .mk fun _ L σ H Q _ _ q => we_of pe_bl (q _ H (Same.refl H) (.bl n))
theorem ex_non {j} : EX X (.Constant .none j pos) r .non := .mk fun _ L σ H Q _ _ q => we_of pe_non (q _ H (Same.refl H) .non)
theorem ex_str {z : Str} {j} : EX X (.Constant (.str z) j pos) r (.str z) := .mk fun _ L σ H Q _ _ q => we_of pe_str (q _ H (Same.refl H) (.str z))
/-- a constant of the module -/
def GC (K : PySem.W.Frag) (mg : Str → Option Value) (x : Str) (d : D) : Prop := ∃ u v, mg x = some u ∧ RelV v u ∧ Is K (fun _ => none) v d
theorem ex_glob (h : GC X.K X.mg x d) (hg : Gl X x) (hd : (x == ("__debug__" : Str)) = false) : EX X (.Name x pos) r d := by
  constructor
  intro _ L σ H Q _ _ q
  obtain ⟨u, v, hm, hr, hi⟩ := h
  exact we_of (pe_glob hg hm hr hd) (q v H (Same.refl H) (hi.mono fun a o z => by cases z))
theorem ax_nil : AX X [] r [] := .mk fun _ L σ H Q _ _ q => wa_of pa_nil (q [] H (Same.refl H) .nil)
theorem ax_cons (h : EX X e r d) (t : AX X es r ds) (hs : starEach (e :: es) X.env = (false, eval e X.env) :: starEach es X.env) : AX X (e :: es) r (d :: ds) := by
  constructor
  intro C L σ H Q dm I q
  refine wa_of (pa_cons (pe_w X e) (pa_w X es) hs) ?_
  refine h C L σ H _ dm I fun v H1 s1 h1 => ?_
  refine t C L σ H1 _ (dm.mono s1) (I.mono (hid_mono s1)) fun vs H2 s2 h2 => ?_
  exact q _ H2 (s1.trans s2) (.cons (h1.mono (hid_mono s2)) h2)
theorem ex_tup {k} (h : AX X es r ds) (hz : ds.length ≤ sizeLine) : EX X (.Tuple es k pos) r (.tup ds) := by
  constructor
  intro C L σ H Q dm I q
  refine we_of (pe_tup (pa_w X es)) ?_
  refine h C L σ H _ dm I fun vs H1 s1 h1 => ⟨by rw [h1.length]; exact hz, fun p hp => ?_⟩
  have s2 : Same H1 (upd H1 p (.tup vs)) := same_new hp
  exact q _ _ (s1.trans s2) (.tup (.inl (.inl (is_new (K := X.K) (dm.mono s1) hp))) (h1.mono (hid_mono s2)))
theorem fx_lst (h : AX X es r ds) (hz : ds.length ≤ sizeLine) : FX X (.List es pos) r ds := by
  constructor
  intro C L σ H Q dm I q
  refine we_of (pe_lst (pa_w X es)) ?_
  refine h C L σ H _ dm I fun vs H1 s1 h1 => ⟨by rw [h1.length]; exact hz, fun p hp => ?_⟩
  have s2 : Same H1 (upd H1 p (.lst vs)) := same_new hp
  exact q p vs _ (Same.free s1 hp) (s1.trans s2) upd_same (h1.mono (hid_new hp s2))
theorem ex_of_fx (h : FX X e r ds) : EX X e r (.lst ds) := by
  constructor
  intro C L σ H Q dm I q
  exact h C L σ H Q dm I fun p xs H' n s hp hl => q _ H' s (.lst (hid_of hp (dm.fresh n)) (hl.mono hid_cons))
end
end SB
namespace SB
set_option maxRecDepth 100000
open PySem PySem.Spec PyProof.Rows L2

section
variable {K : PySem.W.Frag} {H H' : Hp} {L : List Addr} {v : V} {vs : List V}
/-! ### data read back -/
theorem is_int {n : Int} (h : Is K H v (.int n)) : v = .int n := by cases h; rfl
theorem is_bl {n : Bool} (h : Is K H v (.bl n)) : v = .bl n := by cases h; rfl
theorem is_str {n : Str} (h : Is K H v (.str n)) : v = .str n := by cases h; rfl
theorem is_non (h : Is K H v .non) : v = .non := by cases h; rfl
theorem is_tup {ds : List D} (h : Is K H v (.tup ds)) : ∃ a xs, v = .ref a ∧ SqT K H a xs ∧ IsL K H xs ds := by
  cases h with | tup a b => exact ⟨_, _, rfl, a, b⟩
theorem is_lst {ds : List D} (h : Is K H v (.lst ds)) : ∃ a xs, v = .ref a ∧ H a = some (.lst xs) ∧ IsL K H xs ds := by
  cases h with | lst a b => exact ⟨_, _, rfl, a, b⟩
theorem isL_bools : ∀ {bs : List Bool} {vs : List V}, IsL K H vs (bs.map D.bl) → vs = bs.map V.bl
  | [], _, h => by cases h; rfl
  | b :: bs, _, h => by cases h with | cons a t => rw [is_bl a, isL_bools t]; rfl
theorem isL_ints : ∀ {ns : List Int} {vs : List V}, IsL K H vs (ns.map D.int) → vs = ns.map V.int
  | [], _, h => by cases h; rfl
  | b :: bs, _, h => by cases h with | cons a t => rw [is_int a, isL_ints t]; rfl
theorem isL_strs : ∀ {ns : List Str} {vs : List V}, IsL K H vs (ns.map D.str) → vs = ns.map V.str
  | [], _, h => by cases h; rfl
  | b :: bs, _, h => by cases h with | cons a t => rw [is_str a, isL_strs t]; rfl
theorem isL_of_ints : ∀ ns : List Int, IsL K H (ns.map V.int) (ns.map D.int)
  | [] => .nil
  | n :: ns => .cons (.int n) (isL_of_ints ns)
theorem isL_of_strs : ∀ ns : List Str, IsL K H (ns.map V.str) (ns.map D.str)
  | [] => .nil
  | n :: ns => .cons (.str n) (isL_of_strs ns)
theorem IsL.nil_iff {ds : List D} (h : IsL K H vs ds) : vs = [] ↔ ds = [] := by cases h <;> simp
end

/-! ### scalars -/
/-- the values of scalars -/
def sv : D → Option V
  | .non => some .non
  | .bl b => some (.bl b)
  | .int i => some (.int i)
  | .str s => some (.str s)
  | _ => none
theorem sv_is {K : PySem.W.Frag} {H : Hp} {v w : V} {d : D} (h : Is K H v d) (e : sv d = some w) : v = w := by
  cases h <;> simp [sv] at e <;> exact e
theorem is_sv {K : PySem.W.Frag} {H : Hp} {w : V} {d : D} (e : sv d = some w) : Is K H w d := by
  cases d <;> simp [sv] at e <;> subst e <;> constructor

/-! ### two-place operations, by data -/
def Op2 (X : Cx) (f : Value → Value → Sem Value) (d1 d2 d : D) : Prop :=
  ∃ r, OpR X f r ∧ ∀ (L : List Addr) (H : Hp) (x y : V) (Q : VK), Dom L H → Is X.K (hid H L) x d1 → Is X.K (hid H L) y d2 → (∀ v H', Same H H' → Is X.K (hid H' L) v d → Q v H') → r x y H Q
/-- .. that give a new list -/
def Op2F (X : Cx) (f : Value → Value → Sem Value) (d1 d2 : D) (ds : List D) : Prop :=
  ∃ r, OpR X f r ∧ ∀ (L : List Addr) (H : Hp) (x y : V) (Q : VK), Dom L H → Is X.K (hid H L) x d1 → Is X.K (hid H L) y d2 → (∀ p xs H', H p = none → Same H H' → H' p = some (.lst xs) → IsL X.K (hid H' (p :: L)) xs ds → Q (.ref p) H') → r x y H Q
section
variable {X : Cx} {a b : Expr} {r : Rho} {d1 d2 d : D} {ds : List D} {pos : Pos}
theorem ex_bin {op : Operator} (ha : EX X a r d1) (hb : EX X b r d2) (ho : Op2 X (binaryOp op) d1 d2 d) : EX X (.BinOp a op b pos) r d := by
  constructor
  intro C L σ H Q dm I q
  obtain ⟨rr, h1, h2⟩ := ho
  refine we_of (pe_op h1 (pe_w X a) (pe_w X b)) ?_
  refine ha C L σ H _ dm I fun v H1 s1 i1 => hb C L σ H1 _ (dm.mono s1) (I.mono (hid_mono s1)) fun u H2 s2 i2 => ?_
  exact h2 L H2 v u Q ((dm.mono s1).mono s2) (i1.mono (hid_mono s2)) i2 fun z H3 s3 i3 => q z H3 ((s1.trans s2).trans s3) i3
theorem fx_bin {op : Operator} (ha : EX X a r d1) (hb : EX X b r d2) (ho : Op2F X (binaryOp op) d1 d2 ds) : FX X (.BinOp a op b pos) r ds := by
  constructor
  intro C L σ H Q dm I q
  obtain ⟨rr, h1, h2⟩ := ho
  refine we_of (pe_op h1 (pe_w X a) (pe_w X b)) ?_
  refine ha C L σ H _ dm I fun v H1 s1 i1 => hb C L σ H1 _ (dm.mono s1) (I.mono (hid_mono s1)) fun u H2 s2 i2 => ?_
  exact h2 L H2 v u Q ((dm.mono s1).mono s2) (i1.mono (hid_mono s2)) i2 fun p xs H3 n s3 h3 i3 => q p xs H3 (Same.free (s1.trans s2) n) ((s1.trans s2).trans s3) h3 i3
theorem ex_cmp {op : CmpOp} (ha : EX X a r d1) (hb : EX X b r d2) (ho : Op2 X (compareOp op) d1 d2 d) (hm : behindInMarks op b = false) : EX X (.Compare a [op] [b] pos) r d := by
  constructor
  intro C L σ H Q dm I q
  obtain ⟨rr, h1, h2⟩ := ho
  refine we_of (pe_cmpR h1 (pe_w X a) (pe_w X b) hm) ?_
  refine ha C L σ H _ dm I fun v H1 s1 i1 => hb C L σ H1 _ (dm.mono s1) (I.mono (hid_mono s1)) fun u H2 s2 i2 => ?_
  exact h2 L H2 v u Q ((dm.mono s1).mono s2) (i1.mono (hid_mono s2)) i2 fun z H3 s3 i3 => q z H3 ((s1.trans s2).trans s3) i3
theorem tx_cmp {op : CmpOp} {k : Bool} (ha : EX X a r d1) (hb : EX X b r d2) (ho : Op2 X (compareOp op) d1 d2 (.bl k)) (hm : behindInMarks op b = false) : TX X (.Compare a [op] [b] pos) r k := by
  constructor
  intro C L σ H Q dm I q
  obtain ⟨rr, h1, h2⟩ := ho
  refine wt_of (pt_cmpR h1 (pe_w X a) (pe_w X b) hm) ?_
  refine ha C L σ H _ dm I fun v H1 s1 i1 => hb C L σ H1 _ (dm.mono s1) (I.mono (hid_mono s1)) fun u H2 s2 i2 => ?_
  exact h2 L H2 v u _ ((dm.mono s1).mono s2) (i1.mono (hid_mono s2)) i2 fun z H3 s3 i3 => ⟨k, is_bl i3, q H3 ((s1.trans s2).trans s3)⟩
/-- any expression that gives a truth value, as a test -/
theorem tx_val {e : Expr} {k : Bool} (h : EX X e r (.bl k)) (he : ∀ whole, isTrue e X.env whole = (do let v ← whole; standAt e.pos; holding [v] (truthy v))) : TX X e r k := by
  constructor
  intro C L σ H Q dm I q
  refine wt_of (pt_val (pe_w X e) he) ?_
  exact h C L σ H _ dm I fun v H1 s1 i1 => ⟨k, is_bl i1, q H1 s1⟩
theorem tx_not {e : Expr} {k : Bool} (h : TX X e r k) : TX X (.UnaryOp .Not e pos) r (!k) := by
  constructor
  intro C L σ H Q dm I q
  refine wt_of (pt_not (pt_w X e)) ?_
  exact h C L σ H _ dm I fun H1 s1 => q H1 s1
theorem ex_not {e : Expr} {k : Bool} (h : EX X e r (.bl k)) : EX X (.UnaryOp .Not e pos) r (.bl (!k)) := by
  constructor
  intro C L σ H Q dm I q
  refine we_of (pe_not (pe_w X e)) ?_
  exact h C L σ H _ dm I fun v H1 s1 i1 => ⟨k, is_bl i1, q _ H1 s1 (.bl _)⟩
/-- tests with and, or: any 'whole' -/
def OXd (X : Cx) (e : Expr) (r : Rho) (k : Bool) : Prop := CxN X r →
  ∀ (whole : Sem Value) (L : List Addr) (σ : L2.St) (H : Hp) (Q : Bool → Hp → Prop), Dom L H → IsE X.K (hid H L) σ r → (∀ H', Same H H' → Q k H') →
    ∀ (pins : List (Addr × Obj)) (s : Shared), Inv X pins σ H s → wpAny (model X.prog X.w) X.A (isTrue e X.env whole) (TP X pins σ Q) X.xe s
structure OX (X : Cx) (e : Expr) (r : Rho) (k : Bool) : Prop where mk ::
  run : OXd X e r k
instance {X : Cx} {e : Expr} {r : Rho} {k : Bool}  : CoeFun (OX X e r k) (fun _ => OXd X e r k) := ⟨OX.run⟩
theorem tx_o {e : Expr} {k : Bool} (h : OX X e r k) : TX X e r k := .mk fun C L σ H Q dm I q pins s J => h C _ L σ H Q dm I q pins s J
theorem ox_and1 {k : Bool} (h : TX X a r k) : OX X (.BoolOp .And [a] pos) r k := .mk fun C wh L σ H Q dm I q pins s J =>
  (pw_and1 (pt_w X a)).run wh pins s σ H Q J (h C L σ H Q dm I q)
theorem ox_or1 {k : Bool} (h : TX X a r k) : OX X (.BoolOp .Or [a] pos) r k := .mk fun C wh L σ H Q dm I q pins s J =>
  (pw_or1 (pt_w X a)).run wh pins s σ H Q J (h C L σ H Q dm I q)
/-- what a block's rest is asked, as a TT -/
def WO (X : Cx) (e : Expr) : TT := fun σ H Q => ∀ (whole : Sem Value) (pins : List (Addr × Obj)) (s : Shared), Inv X pins σ H s → wpAny (model X.prog X.w) X.A (isTrue e X.env whole) (TP X pins σ Q) X.xe s
theorem pw_w (X : Cx) (e : Expr) : PW X e (WO X e) := ⟨fun wh pins s σ H Q I h => h wh pins s I⟩
theorem ox_and {k1 k2 : Bool} {rest : List Expr} (h : TX X a r k1) (h2 : k1 = true → OX X (.BoolOp .And (b :: rest) pos) r k2) : OX X (.BoolOp .And (a :: b :: rest) pos) r (k1 && k2) := .mk fun C wh L σ H Q dm I q pins s J => by
  refine (pw_and (pt_w X a) (pw_w X _)).run wh pins s σ H Q J ?_
  refine h C L σ H _ dm I fun H1 s1 => ?_
  cases k1 with
  | false => exact q H1 s1
  | true => exact fun wh2 pins s J => h2 rfl C wh2 L σ H1 Q (dm.mono s1) (I.mono (hid_mono s1)) (fun H2 s2 => q H2 (s1.trans s2)) pins s J
theorem ox_or {k1 k2 : Bool} {rest : List Expr} (h : TX X a r k1) (h2 : k1 = false → OX X (.BoolOp .Or (b :: rest) pos) r k2) : OX X (.BoolOp .Or (a :: b :: rest) pos) r (k1 || k2) := .mk fun C wh L σ H Q dm I q pins s J => by
  refine (pw_or (pt_w X a) (pw_w X _)).run wh pins s σ H Q J ?_
  refine h C L σ H _ dm I fun H1 s1 => ?_
  cases k1 with
  | true => exact q H1 s1
  | false => exact fun wh2 pins s J => h2 rfl C wh2 L σ H1 Q (dm.mono s1) (I.mono (hid_mono s1)) (fun H2 s2 => q H2 (s1.trans s2)) pins s J
/-- .. as values -/
theorem ex_one {op : BoolOp} (h : EX X a r d) : EX X (.BoolOp op [a] pos) r d := by
  constructor
  intro C L σ H Q dm I q
  exact we_of (pe_one (pe_w X a)) (h C L σ H Q dm I q)
theorem ex_and {k1 k2 : Bool} {rest : List Expr} (h : EX X a r (.bl k1)) (h2 : k1 = true → EX X (.BoolOp .And (b :: rest) pos) r (.bl k2)) : EX X (.BoolOp .And (a :: b :: rest) pos) r (.bl (k1 && k2)) := by
  constructor
  intro C L σ H Q dm I q
  refine we_of (pe_and (pe_w X a) (pe_w X _)) ?_
  refine h C L σ H _ dm I fun v H1 s1 i1 => ⟨k1, is_bl i1, ?_⟩
  cases k1 with
  | false => exact q _ H1 s1 (.bl _)
  | true => exact h2 rfl C L σ H1 Q (dm.mono s1) (I.mono (hid_mono s1)) fun v H2 s2 i2 => q v H2 (s1.trans s2) i2
theorem ex_or {k1 k2 : Bool} {rest : List Expr} (h : EX X a r (.bl k1)) (h2 : k1 = false → EX X (.BoolOp .Or (b :: rest) pos) r (.bl k2)) : EX X (.BoolOp .Or (a :: b :: rest) pos) r (.bl (k1 || k2)) := by
  constructor
  intro C L σ H Q dm I q
  refine we_of (pe_or (pe_w X a) (pe_w X _)) ?_
  refine h C L σ H _ dm I fun v H1 s1 i1 => ⟨k1, is_bl i1, ?_⟩
  cases k1 with
  | true => exact q _ H1 s1 (.bl _)
  | false => exact h2 rfl C L σ H1 Q (dm.mono s1) (I.mono (hid_mono s1)) fun v H2 s2 i2 => q v H2 (s1.trans s2) i2
theorem ex_if {c : Expr} {k : Bool} (hc : TX X c r k) (h1 : k = true → EX X a r d) (h2 : k = false → EX X b r d) : EX X (.IfExp c a b pos) r d := by
  constructor
  intro C L σ H Q dm I q
  refine we_of (pe_ifExp (pt_w X c) (pe_w X a) (pe_w X b)) ?_
  refine hc C L σ H _ dm I fun H1 s1 => ?_
  cases k with
  | true => exact h1 rfl C L σ H1 Q (dm.mono s1) (I.mono (hid_mono s1)) fun v H2 s2 i2 => q v H2 (s1.trans s2) i2
  | false => exact h2 rfl C L σ H1 Q (dm.mono s1) (I.mono (hid_mono s1)) fun v H2 s2 i2 => q v H2 (s1.trans s2) i2
theorem ex_neg {n : Int} (h : EX X a r (.int n)) : EX X (.UnaryOp .USub a pos) r (.int (-n)) := by
  constructor
  intro C L σ H Q dm I q
  refine we_of (pe_un un_neg (pe_w X a)) ?_
  exact h C L σ H _ dm I fun v H1 s1 i1 => ⟨n, is_int i1, q _ H1 s1 (.int _)⟩
/-- the same, one way known -/
theorem ex_is {d' : D} {e : Expr} (h : EX X e r d) (e1 : d = d') : EX X e r d' := e1 ▸ h
theorem tx_is {k k' : Bool} {e : Expr} (h : TX X e r k) (e1 : k = k') : TX X e r k' := e1 ▸ h
theorem fx_is {ds' : List D} {e : Expr} (h : FX X e r ds) (e1 : ds = ds') : FX X e r ds' := e1 ▸ h
end

/-! ### the operations -/
section
variable {X : Cx}
theorem o_add {i j : Int} : Op2 X (binaryOp .Add) (.int i) (.int j) (.int (i + j)) := ⟨_, op_add, fun L H x y Q dm h1 h2 q => ⟨i, j, is_int h1, is_int h2, q _ H (Same.refl H) (.int _)⟩⟩
theorem o_sub {i j : Int} : Op2 X (binaryOp .Sub) (.int i) (.int j) (.int (i - j)) := ⟨_, op_sub, fun L H x y Q dm h1 h2 q => ⟨i, j, is_int h1, is_int h2, q _ H (Same.refl H) (.int _)⟩⟩
theorem o_mul {i j : Int} (c : CMul i j) : Op2 X (binaryOp .Mult) (.int i) (.int j) (.int (i * j)) := ⟨_, op_mul, fun L H x y Q dm h1 h2 q => ⟨i, j, is_int h1, is_int h2, c, q _ H (Same.refl H) (.int _)⟩⟩
theorem o_mod {i j : Int} (c : 0 < j) : Op2 X (binaryOp .Mod) (.int i) (.int j) (.int (i % j)) := ⟨_, op_mod, fun L H x y Q dm h1 h2 q => ⟨i, j, is_int h1, is_int h2, c, q _ H (Same.refl H) (.int _)⟩⟩
theorem o_fdiv {i j : Int} (c : CDiv i j) : Op2 X (binaryOp .FloorDiv) (.int i) (.int j) (.int (i / j)) := ⟨_, op_fdiv, fun L H x y Q dm h1 h2 q => ⟨i, j, is_int h1, is_int h2, c, q _ H (Same.refl H) (.int _)⟩⟩
theorem o_pow {i j : Int} (c : CPow i j) : Op2 X (binaryOp .Pow) (.int i) (.int j) (.int (i ^ j.toNat)) := ⟨_, op_pow, fun L H x y Q dm h1 h2 q => ⟨i, j, is_int h1, is_int h2, c, q _ H (Same.refl H) (.int _)⟩⟩
theorem o_adds {i j : Str} (c : i.length + j.length ≤ sizeLine) : Op2 X (binaryOp .Add) (.str i) (.str j) (.str (i ++ j)) := ⟨_, op_add_str, fun L H x y Q dm h1 h2 q => ⟨i, j, is_str h1, is_str h2, c, q _ H (Same.refl H) (.str _)⟩⟩
theorem o_cat {xs ys : List D} (c : xs.length + ys.length ≤ sizeLine) : Op2 X (binaryOp .Add) (.tup xs) (.tup ys) (.tup (xs ++ ys)) := by
  refine ⟨_, op_catA, fun L H x y Q dm h1 h2 q => ?_⟩
  obtain ⟨a, us, rfl, ha, la⟩ := is_tup h1
  obtain ⟨b, ws, rfl, hb, lb⟩ := is_tup h2
  refine ⟨a, b, us, ws, rfl, rfl, same_t hid_sub ha, same_t hid_sub hb, by rw [la.length, lb.length]; exact c, fun e => ?_, fun e1 e2 => ?_, fun e1 e2 p hp => ?_⟩
  · have e' := la.nil_iff.mp e
    subst e'
    exact q _ H (Same.refl H) h2
  · have e' := lb.nil_iff.mp e2
    subst e'
    rw [List.append_nil] at q
    exact q _ H (Same.refl H) h1
  · have s2 : Same H (upd H p (.tup (us ++ ws))) := same_new hp
    exact q _ _ s2 (.tup (.inl (.inl (is_new (K := X.K) dm hp))) ((la.append lb).mono (hid_mono s2)))
theorem o_catl {xs ys : List D} (c : xs.length + ys.length ≤ sizeLine) : Op2F X (binaryOp .Add) (.lst xs) (.lst ys) (xs ++ ys) := by
  refine ⟨_, op_cat, fun L H x y Q dm h1 h2 q => ?_⟩
  obtain ⟨a, us, rfl, ha, la⟩ := is_lst h1
  obtain ⟨b, ws, rfl, hb, lb⟩ := is_lst h2
  refine ⟨a, b, us, ws, rfl, rfl, (hid_some ha).1, (hid_some hb).1, by rw [la.length, lb.length]; exact c, fun p hp => ?_⟩
  have s2 : Same H (upd H p (.lst (us ++ ws))) := same_new hp
  exact q p _ _ hp s2 upd_same ((la.append lb).mono (hid_new hp s2))
theorem isL_flat {K : PySem.W.Frag} {H : Hp} {vs : List V} {ds : List D} (h : IsL K H vs ds) : ∀ n : Nat, IsL K H (List.replicate n vs).flatten (List.replicate n ds).flatten
  | 0 => .nil
  | n + 1 => by rw [List.replicate_succ, List.replicate_succ, List.flatten_cons, List.flatten_cons]; exact h.append (isL_flat h n)
theorem o_repl {xs : List D} {k : Int} (c1 : -(2 ^ 63) ≤ k) (c2 : k < 2 ^ 63) (c : xs.length * k.toNat ≤ sizeLine) : Op2F X (binaryOp .Mult) (.lst xs) (.int k) (List.replicate k.toNat xs).flatten := by
  refine ⟨_, op_rep, fun L H x y Q dm h1 h2 q => ?_⟩
  obtain ⟨a, us, rfl, ha, la⟩ := is_lst h1
  refine ⟨a, k, us, rfl, is_int h2, (hid_some ha).1, c1, c2, by rw [la.length]; exact c, fun p hp => ?_⟩
  have s2 : Same H (upd H p (.lst (List.replicate k.toNat us).flatten)) := same_new hp
  exact q p _ _ hp s2 upd_same ((isL_flat la _).mono (hid_new hp s2))
theorem o_eq {d1 d2 : D} {x y : V} (h1 : sv d1 = some x) (h2 : sv d2 = some y) (hs : scal x y = true) : Op2 X (compareOp .Eq) d1 d2 (.bl (decide (x = y))) := by
  refine ⟨_, op_eq, fun L H u w Q dm i1 i2 q => ?_⟩
  obtain rfl := sv_is i1 h1
  obtain rfl := sv_is i2 h2
  exact ⟨hs, q _ H (Same.refl H) (.bl _)⟩
theorem o_ne {d1 d2 : D} {x y : V} (h1 : sv d1 = some x) (h2 : sv d2 = some y) (hs : scal x y = true) : Op2 X (compareOp .NotEq) d1 d2 (.bl (!decide (x = y))) := by
  refine ⟨_, op_ne, fun L H u w Q dm i1 i2 q => ?_⟩
  obtain rfl := sv_is i1 h1
  obtain rfl := sv_is i2 h2
  exact ⟨hs, q _ H (Same.refl H) (.bl _)⟩
theorem o_eqs {a b : Str} : Op2 X (compareOp .Eq) (.str a) (.str b) (.bl (decide (a = b))) := by
  have := o_eq (X := X) (d1 := .str a) (d2 := .str b) rfl rfl rfl
  simpa using this
theorem o_nes {a b : Str} : Op2 X (compareOp .NotEq) (.str a) (.str b) (.bl (!decide (a = b))) := by
  have := o_ne (X := X) (d1 := .str a) (d2 := .str b) rfl rfl rfl
  simpa using this
theorem o_eqi {a b : Int} : Op2 X (compareOp .Eq) (.int a) (.int b) (.bl (decide (a = b))) := by
  have := o_eq (X := X) (d1 := .int a) (d2 := .int b) rfl rfl rfl
  simpa using this
theorem o_nei {a b : Int} : Op2 X (compareOp .NotEq) (.int a) (.int b) (.bl (!decide (a = b))) := by
  have := o_ne (X := X) (d1 := .int a) (d2 := .int b) rfl rfl rfl
  simpa using this
theorem o_lt {i j : Int} : Op2 X (compareOp .Lt) (.int i) (.int j) (.bl (decide (i < j))) := ⟨_, op_lt, fun L H x y Q dm h1 h2 q => ⟨i, j, is_int h1, is_int h2, q _ H (Same.refl H) (.bl _)⟩⟩
theorem o_le {i j : Int} : Op2 X (compareOp .LtE) (.int i) (.int j) (.bl (decide (i ≤ j))) := ⟨_, op_le, fun L H x y Q dm h1 h2 q => ⟨i, j, is_int h1, is_int h2, q _ H (Same.refl H) (.bl _)⟩⟩
theorem o_gt {i j : Int} : Op2 X (compareOp .Gt) (.int i) (.int j) (.bl (decide (j < i))) := ⟨_, op_gt, fun L H x y Q dm h1 h2 q => ⟨i, j, is_int h1, is_int h2, q _ H (Same.refl H) (.bl _)⟩⟩
theorem o_ge {i j : Int} : Op2 X (compareOp .GtE) (.int i) (.int j) (.bl (decide (j ≤ i))) := ⟨_, op_ge, fun L H x y Q dm h1 h2 q => ⟨i, j, is_int h1, is_int h2, q _ H (Same.refl H) (.bl _)⟩⟩
/-- is None -/
def isNonD : D → Bool
  | .non => true
  | _ => false
theorem isNon_is {K : PySem.W.Frag} {H : Hp} {v : V} {d : D} (h : Is K H v d) : decide (v = .non) = isNonD d := by
  cases h <;> simp [isNonD]
theorem o_isN {d1 : D} : Op2 X (compareOp .Is) d1 .non (.bl (isNonD d1)) := ⟨_, op_isN, fun L H x y Q dm h1 h2 q => ⟨is_non h2, by rw [isNon_is h1]; exact q _ H (Same.refl H) (.bl _)⟩⟩
theorem o_notN {d1 : D} : Op2 X (compareOp .IsNot) d1 .non (.bl (!isNonD d1)) := ⟨_, op_notN, fun L H x y Q dm h1 h2 q => ⟨is_non h2, by rw [isNon_is h1]; exact q _ H (Same.refl H) (.bl _)⟩⟩

/-! ### data that are compared at any depth -/
mutual
def toPy : D → PyData
  | .non => .none
  | .bl b => .bool b
  | .int i => .int i
  | .str s => .str s
  | .tup ds => .tuple (toPyL ds)
  | .lst ds => .list (toPyL ds)
  | .dk _ _ => .none
  | .tpl _ => .none
  | .dm _ _ => .none
  | .adr _ => .none
def toPyL : List D → List PyData
  | [] => []
  | d :: ds => toPy d :: toPyL ds
end

mutual
def noDk : D → Bool
  | .adr _ => false
  | .dk _ _ => false
  | .tpl _ => false
  | .dm _ _ => false
  | .tup ds => noDkL ds
  | .lst ds => noDkL ds
  | _ => true
def noDkL : List D → Bool
  | [] => true
  | d :: ds => noDk d && noDkL ds
end
mutual
theorem dp_is {K : PySem.W.Frag} {H : Hp} {v : V} {d : D} : Is K H v d → noDk d = true → Dp K H v (toPy d)
  | .non, _ => .non
  | .bl b, _ => .bl b
  | .int b, _ => .int b
  | .str b, _ => .str b
  | .tup h l, n => .tup h (dp_isL l n)
  | .lst h l, n => .lst (.inl (.inl h)) (dp_isL l n)
  | .dk _ _ _, n => by simp [noDk] at n
  | .tpl _ _ _, n => by simp [noDk] at n
  | .dm _ _ _, n => by simp [noDk] at n
  | .adr _, n => by simp [noDk] at n
theorem dp_isL {K : PySem.W.Frag} {H : Hp} {vs : List V} {ds : List D} : IsL K H vs ds → noDkL ds = true → DpAll K H vs (toPyL ds)
  | .nil, _ => .nil
  | .cons h t, n => by
    have n' : (noDk _ && noDkL _) = true := n
    rw [Bool.and_eq_true] at n'
    exact .cons (dp_is h n'.1) (dp_isL t n'.2)
end
theorem Dp.mono' {K : PySem.W.Frag} {H : Hp} {L : List Addr} {v : V} {d : D} (h : Is K (hid H L) v d) (n : noDk d = true) : Dp K H v (toPy d) := dp_is (h.mono hid_sub) n
/-- fit to be compared -/
def Cmp (d : D) : Prop := noDk d = true ∧ SeqAt.shaped (toPy d) = true
theorem o_eqD {d1 d2 : D} (c1 : Cmp d1) (c2 : Cmp d2) (hu : X.A.units + 64 < cLine) : Op2 X (compareOp .Eq) d1 d2 (.bl (PyData.eqv (toPy d1) (toPy d2))) :=
  ⟨_, op_eqD hu, fun L H x y Q dm h1 h2 q => ⟨_, _, Dp.mono' h1 c1.1, Dp.mono' h2 c2.1, c1.2, c2.2, q _ H (Same.refl H) (.bl _)⟩⟩
theorem o_neD {d1 d2 : D} (c1 : Cmp d1) (c2 : Cmp d2) (hu : X.A.units + 64 < cLine) : Op2 X (compareOp .NotEq) d1 d2 (.bl (!PyData.eqv (toPy d1) (toPy d2))) :=
  ⟨_, op_neD hu, fun L H x y Q dm h1 h2 q => ⟨_, _, Dp.mono' h1 c1.1, Dp.mono' h2 c2.1, c1.2, c2.2, q _ H (Same.refl H) (.bl _)⟩⟩
end
end SB
namespace SB
set_option maxRecDepth 100000
open PySem PySem.Spec PyProof.Rows L2

/-! ### in, not in -/
def inD (d : D) (ds : List D) : Bool := (toPyL ds).any fun z => PyData.eqv z (toPy d)
section
variable {X : Cx}
def rInT (K : PySem.W.Frag) : R2 := fun x y H Q => ∃ d ds, Dp K H x d ∧ Dp K H y (.tuple ds) ∧ SeqAt.shaped d = true ∧ (PyData.tuple ds).canLay0 = true ∧ Q (.bl (ds.any fun z => PyData.eqv z d)) H
def rNotInT (K : PySem.W.Frag) : R2 := fun x y H Q => ∃ d ds, Dp K H x d ∧ Dp K H y (.tuple ds) ∧ SeqAt.shaped d = true ∧ (PyData.tuple ds).canLay0 = true ∧ Q (.bl (!ds.any fun z => PyData.eqv z d)) H
theorem op_inT (hu : X.A.units + 65 < cLine) : OpR X (compareOp .In) (rInT X.K) := by
  intro pins s σ H x y v u Q I rx ry h
  obtain ⟨d, ds, hd, he, sd, se, q⟩ := h
  obtain ⟨as, r1⟩ := Dp.reads I d x v hd rx
  obtain ⟨bs, r2⟩ := Dp.reads I (.tuple ds) y u he ry
  exact SeqAt.in_tuple_reads r2 r1 se (SeqAt.canLay_of_shaped sd) (room_in_shaped sd hu) ⟨.bl _, H, I, rfl, q⟩
theorem op_notInT (hu : X.A.units + 65 < cLine) : OpR X (compareOp .NotIn) (rNotInT X.K) := by
  intro pins s σ H x y v u Q I rx ry h
  obtain ⟨d, ds, hd, he, sd, se, q⟩ := h
  obtain ⟨as, r1⟩ := Dp.reads I d x v hd rx
  obtain ⟨bs, r2⟩ := Dp.reads I (.tuple ds) y u he ry
  exact SeqAt.notIn_tuple_reads r2 r1 se (SeqAt.canLay_of_shaped sd) (room_in_shaped sd hu) ⟨.bl _, H, I, rfl, q⟩
theorem o_inT {d : D} {ds : List D} (c1 : Cmp d) (c2 : noDkL ds = true ∧ PyData.canLayAll0 (toPyL ds) = true) (hu : X.A.units + 65 < cLine) : Op2 X (compareOp .In) d (.tup ds) (.bl (inD d ds)) :=
  ⟨_, op_inT hu, fun L H x y Q dm h1 h2 q => ⟨_, _, Dp.mono' h1 c1.1, Dp.mono' h2 c2.1, c1.2, c2.2, q _ H (Same.refl H) (.bl _)⟩⟩
theorem o_notInT {d : D} {ds : List D} (c1 : Cmp d) (c2 : noDkL ds = true ∧ PyData.canLayAll0 (toPyL ds) = true) (hu : X.A.units + 65 < cLine) : Op2 X (compareOp .NotIn) d (.tup ds) (.bl (!inD d ds)) :=
  ⟨_, op_notInT hu, fun L H x y Q dm h1 h2 q => ⟨_, _, Dp.mono' h1 c1.1, Dp.mono' h2 c2.1, c1.2, c2.2, q _ H (Same.refl H) (.bl _)⟩⟩
theorem o_inL {d : D} {ds : List D} (c1 : Cmp d) (c2 : Cmp (.lst ds)) (hu : X.A.units + 65 < cLine) : Op2 X (compareOp .In) d (.lst ds) (.bl (inD d ds)) :=
  ⟨_, op_inD hu, fun L H x y Q dm h1 h2 q => ⟨_, _, Dp.mono' h1 c1.1, Dp.mono' h2 c2.1, c1.2, c2.2, q _ H (Same.refl H) (.bl _)⟩⟩
theorem o_notInL {d : D} {ds : List D} (c1 : Cmp d) (c2 : Cmp (.lst ds)) (hu : X.A.units + 65 < cLine) : Op2 X (compareOp .NotIn) d (.lst ds) (.bl (!inD d ds)) :=
  ⟨_, op_notInD hu, fun L H x y Q dm h1 h2 q => ⟨_, _, Dp.mono' h1 c1.1, Dp.mono' h2 c2.1, c1.2, c2.2, q _ H (Same.refl H) (.bl _)⟩⟩
end

/-! ### subscripts -/
theorem atI_len {α β : Type} {xs : List α} {ys : List β} (e : xs.length = ys.length) {i : Int} {y : β} (h : atI ys i = some y) : ∃ j : Nat, ys[j]? = some y ∧ ∀ x, xs[j]? = some x → atI xs i = some x := by
  unfold atI at h
  cases q : ixN ys.length i with
  | none => rw [q] at h; cases h
  | some j =>
    rw [q] at h
    refine ⟨j, h, fun x hx => ?_⟩
    unfold atI
    rw [e, q]
    exact hx
section
variable {X : Cx} {a b : Expr} {r : Rho} {d1 d2 d : D} {ds : List D} {pos p2 : Pos}
theorem ex_ixT {i : Int} (ha : EX X a r (.tup ds)) (hb : EX X b r (.int i)) (h : atI ds i = some d) (hs : PlainIx b) : EX X (.Subscript a b pos) r d := by
  constructor
  intro C L σ H Q dm I q
  refine we_of (pe_ix ix_tup (pe_w X a) (pe_w X b) hs) ?_
  refine ha C L σ H _ dm I fun v H1 s1 i1 => hb C L σ H1 _ (dm.mono s1) (I.mono (hid_mono s1)) fun u H2 s2 i2 => ?_
  obtain ⟨p, xs, rfl, hp, l⟩ := is_tup i1
  obtain ⟨j, hj, hx⟩ := atI_len l.length h
  obtain ⟨x, hxj, ix⟩ := l.get hj
  exact ⟨p, xs, i, x, rfl, is_int i2, same_t s2 (same_t hid_sub hp), hx x hxj, q x H2 (s1.trans s2) (ix.mono (hid_mono s2))⟩
theorem ex_ixL {i : Int} (ha : EX X a r (.lst ds)) (hb : EX X b r (.int i)) (h : atI ds i = some d) (hs : PlainIx b) : EX X (.Subscript a b pos) r d := by
  constructor
  intro C L σ H Q dm I q
  refine we_of (pe_ix ix_list (pe_w X a) (pe_w X b) hs) ?_
  refine ha C L σ H _ dm I fun v H1 s1 i1 => hb C L σ H1 _ (dm.mono s1) (I.mono (hid_mono s1)) fun u H2 s2 i2 => ?_
  obtain ⟨p, xs, rfl, hp, l⟩ := is_lst i1
  obtain ⟨j, hj, hx⟩ := atI_len l.length h
  obtain ⟨x, hxj, ix⟩ := l.get hj
  exact ⟨p, xs, i, x, rfl, is_int i2, .inl (.inl (s2 _ _ (hid_sub _ _ hp))), hx x hxj, q x H2 (s1.trans s2) (ix.mono (hid_mono s2))⟩
/-! slices -/
def PX (X : Cx) (e : Option Expr) (r : Rho) (o : Option Int) : Prop := match e with
  | none => o = none
  | some e => ∃ i, o = some i ∧ EX X e r (.int i)
theorem px_none : PX X none r none := rfl
theorem px_some {e : Expr} {i : Int} (h : EX X e r (.int i)) : PX X (some e) r (some i) := ⟨i, rfl, h⟩
def WP (X : Cx) (e : Option Expr) : TO := match e with
  | none => tNoPart
  | some e => tPart (WE X e)
theorem po_w (X : Cx) (e : Option Expr) : PO X e (WP X e) := by
  cases e with
  | none => exact po_none
  | some e => exact po_some (pe_w X e)
theorem px_run {e : Option Expr} {o : Option Int} (h : PX X e r o) (C : CxN X r) {L : List Addr} {σ : L2.St} {H : Hp} {Q : Option Int → Hp → Prop} (dm : Dom L H) (I : IsE X.K (hid H L) σ r) (q : ∀ H', Same H H' → Q o H') : WP X e σ H Q := by
  cases e with
  | none =>
    have e1 : o = none := h
    subst e1
    exact q H (Same.refl H)
  | some e =>
    obtain ⟨i, rfl, h⟩ := h
    exact h C L σ H _ dm I fun v H1 s1 i1 => ⟨i, is_int i1, q H1 s1⟩
def cutD (xs : List D) (lo hi : Option Int) : List D := (xs.drop (HT.sIx xs.length 0 lo)).take (HT.sIx xs.length xs.length hi - HT.sIx xs.length 0 lo)
theorem cut_is {K : PySem.W.Frag} {H : Hp} {vs : List V} {ds : List D} (h : IsL K H vs ds) (lo hi : Option Int) : IsL K H (cutV vs lo hi) (cutD ds lo hi) := by
  unfold cutV cutD
  rw [h.length]
  exact (h.drop _).take _
theorem ex_slT {lo hi : Option Expr} {i j : Option Int} (ha : EX X a r (.tup ds)) (hl : PX X lo r i) (hh : PX X hi r j) : EX X (.Subscript a (.Slice lo hi none p2) pos) r (.tup (cutD ds i j)) := by
  constructor
  intro C L σ H Q dm I q
  refine we_of (pe_slice sl_tupA (pe_w X a) (po_w X lo) (po_w X hi)) ?_
  refine ha C L σ H _ dm I fun v H1 s1 i1 => ?_
  refine px_run hl C (dm.mono s1) (I.mono (hid_mono s1)) fun H2 s2 => ?_
  refine px_run hh C ((dm.mono s1).mono s2) ((I.mono (hid_mono s1)).mono (hid_mono s2)) fun H3 s3 => ?_
  have s13 := s2.trans s3
  obtain ⟨p, xs, rfl, hp, l⟩ := is_tup i1
  have l3 := l.mono (hid_mono (L := L) s13)
  refine ⟨p, xs, rfl, same_t s13 (same_t hid_sub hp), fun ⟨z1, z2⟩ => ?_, fun _ t ht => ?_⟩
  · refine q _ H3 (s1.trans s13) (.tup (same_t (hid_mono s13) hp) ?_)
    have e : cutD ds i j = ds := by
      rw [l.length] at z1 z2
      unfold cutD
      rw [z1, z2, List.drop_zero, Nat.sub_zero, List.take_length]
    rw [e]; exact l3
  · have s4 : Same H3 (upd H3 t (.tup (cutV xs i j))) := same_new ht
    exact q _ _ ((s1.trans s13).trans s4) (.tup (.inl (.inl (is_new (K := X.K) (((dm.mono s1).mono s2).mono s3) ht))) ((cut_is l3 i j).mono (hid_mono s4)))
theorem ex_slS {z : Str} {lo hi : Option Expr} {i j : Option Int} (ha : EX X a r (.str z)) (hl : PX X lo r i) (hh : PX X hi r j) (hz : z.length ≤ sizeLine) : EX X (.Subscript a (.Slice lo hi none p2) pos) r (.str (cutS z i j)) := by
  constructor
  intro C L σ H Q dm I q
  refine we_of (pe_slice sl_str (pe_w X a) (po_w X lo) (po_w X hi)) ?_
  refine ha C L σ H _ dm I fun v H1 s1 i1 => ?_
  refine px_run hl C (dm.mono s1) (I.mono (hid_mono s1)) fun H2 s2 => ?_
  refine px_run hh C ((dm.mono s1).mono s2) ((I.mono (hid_mono s1)).mono (hid_mono s2)) fun H3 s3 => ?_
  exact ⟨z, is_str i1, hz, q _ H3 ((s1.trans s2).trans s3) (.str _)⟩

/-! ### calls of what is built in -/
def CallD (X : Cx) (f : Value) (ds : List D) (d : D) : Prop :=
  ∃ rr, CallR X f rr ∧ ∀ (L : List Addr) (H : Hp) (xs : List V) (Q : VK), Dom L H → IsL X.K (hid H L) xs ds → (∀ v H', Same H H' → Is X.K (hid H' L) v d → Q v H') → rr xs H Q
def CallF (X : Cx) (f : Value) (ds es : List D) : Prop :=
  ∃ rr, CallR X f rr ∧ ∀ (L : List Addr) (H : Hp) (xs : List V) (Q : VK), Dom L H → IsL X.K (hid H L) xs ds → (∀ p ys H', H p = none → Same H H' → H' p = some (.lst ys) → IsL X.K (hid H' (p :: L)) ys es → Q (.ref p) H') → rr xs H Q
variable {e : Expr} {es : List Expr} {x : Str} {p : Pos} {ys : List D}
theorem ex_callB {id : String} (hc : CallD X (.builtin id) ds d) (ha : AX X (e :: es) r ds) (hg : Gl X x) (hm : X.mg x = none) (hv : bootBuiltins x = some (.builtin id)) (hn : x ≠ "__name__") (hdb : (x == ("__debug__" : Str)) = false)
    (he : starEach (e :: es) X.env = (false, eval e X.env) :: starEach es X.env) (hpl : (backTo pos (starEach es X.env)).any (·.1) = false) :
    EX X (.Call (.Name x p) (e :: es) [] pos) r d := by
  constructor
  intro C L σ H Q dm I q
  obtain ⟨rr, h1, h2⟩ := hc
  refine we_of (pe_callB h1 hg hm hv (pa_w X (e :: es)) hn hdb he hpl) ?_
  exact ha C L σ H _ dm I fun vs H1 s1 i1 => h2 L H1 vs Q (dm.mono s1) i1 fun v H2 s2 i2 => q v H2 (s1.trans s2) i2
theorem fx_callB {id : String} (hc : CallF X (.builtin id) ds ys) (ha : AX X (e :: es) r ds) (hg : Gl X x) (hm : X.mg x = none) (hv : bootBuiltins x = some (.builtin id)) (hn : x ≠ "__name__") (hdb : (x == ("__debug__" : Str)) = false)
    (he : starEach (e :: es) X.env = (false, eval e X.env) :: starEach es X.env) (hpl : (backTo pos (starEach es X.env)).any (·.1) = false) :
    FX X (.Call (.Name x p) (e :: es) [] pos) r ys := by
  constructor
  intro C L σ H Q dm I q
  obtain ⟨rr, h1, h2⟩ := hc
  refine we_of (pe_callB h1 hg hm hv (pa_w X (e :: es)) hn hdb he hpl) ?_
  exact ha C L σ H _ dm I fun vs H1 s1 i1 => h2 L H1 vs Q (dm.mono s1) i1 fun p us H2 n s2 h2 i2 => q p us H2 (Same.free s1 n) (s1.trans s2) h2 i2
theorem ex_callTy {T : String} (hc : CallD X (.type T) ds d) (ha : AX X (e :: es) r ds) (hg : Gl X x) (hm : X.mg x = none) (hv : bootBuiltins x = some (.type T)) (hn : x ≠ "__name__") (hdb : (x == ("__debug__" : Str)) = false)
    (he : starEach (e :: es) X.env = (false, eval e X.env) :: starEach es X.env) (hpl : (backTo pos (starEach es X.env)).any (·.1) = false) :
    EX X (.Call (.Name x p) (e :: es) [] pos) r d := by
  constructor
  intro C L σ H Q dm I q
  obtain ⟨rr, h1, h2⟩ := hc
  refine we_of (pe_callTy h1 hg hm hv (pa_w X (e :: es)) hn hdb he hpl) ?_
  exact ha C L σ H _ dm I fun vs H1 s1 i1 => h2 L H1 vs Q (dm.mono s1) i1 fun v H2 s2 i2 => q v H2 (s1.trans s2) i2
theorem fx_callTy {T : String} (hc : CallF X (.type T) ds ys) (ha : AX X (e :: es) r ds) (hg : Gl X x) (hm : X.mg x = none) (hv : bootBuiltins x = some (.type T)) (hn : x ≠ "__name__") (hdb : (x == ("__debug__" : Str)) = false)
    (he : starEach (e :: es) X.env = (false, eval e X.env) :: starEach es X.env) (hpl : (backTo pos (starEach es X.env)).any (·.1) = false) :
    FX X (.Call (.Name x p) (e :: es) [] pos) r ys := by
  constructor
  intro C L σ H Q dm I q
  obtain ⟨rr, h1, h2⟩ := hc
  refine we_of (pe_callTy h1 hg hm hv (pa_w X (e :: es)) hn hdb he hpl) ?_
  exact ha C L σ H _ dm I fun vs H1 s1 i1 => h2 L H1 vs Q (dm.mono s1) i1 fun p us H2 n s2 h2 i2 => q p us H2 (Same.free s1 n) (s1.trans s2) h2 i2
theorem isL1 {K : PySem.W.Frag} {H : Hp} {vs : List V} {d : D} (h : IsL K H vs [d]) : ∃ v, vs = [v] ∧ Is K H v d := by
  cases h with | cons a t => cases t; exact ⟨_, rfl, a⟩
theorem isL2 {K : PySem.W.Frag} {H : Hp} {vs : List V} {d e : D} (h : IsL K H vs [d, e]) : ∃ v u, vs = [v, u] ∧ Is K H v d ∧ Is K H u e := by
  cases h with | cons a t => cases t with | cons b t => cases t; exact ⟨_, _, rfl, a, b⟩
theorem c_lenT : CallD X (.builtin "len") [.tup ds] (.int ds.length) := ⟨_, call_len_seq, fun L H xs Q dm i0 q => by
  obtain ⟨v, rfl, i⟩ := isL1 i0
  obtain ⟨a, us, rfl, ha, l⟩ := is_tup i
  exact ⟨a, us, rfl, .inr (same_t hid_sub ha), by rw [l.length]; exact q _ H (Same.refl H) (.int _)⟩⟩
theorem c_lenL : CallD X (.builtin "len") [.lst ds] (.int ds.length) := ⟨_, call_len_seq, fun L H xs Q dm i0 q => by
  obtain ⟨v, rfl, i⟩ := isL1 i0
  obtain ⟨a, us, rfl, ha, l⟩ := is_lst i
  exact ⟨a, us, rfl, .inl (.inl (.inl (hid_sub _ _ ha))), by rw [l.length]; exact q _ H (Same.refl H) (.int _)⟩⟩
theorem c_lenS {z : Str} (hz : z.length ≤ sizeLine) : CallD X (.builtin "len") [.str z] (.int z.length) := ⟨_, call_len_str, fun L H xs Q dm i0 q => by
  obtain ⟨v, rfl, i⟩ := isL1 i0
  exact ⟨z, by rw [is_str i], hz, q _ H (Same.refl H) (.int _)⟩⟩
theorem c_tupL : CallD X (.type "tuple") [.lst ds] (.tup ds) := ⟨_, call_tuple_of, fun L H xs Q dm i0 q => by
  obtain ⟨v, rfl, i⟩ := isL1 i0
  obtain ⟨a, us, rfl, ha, l⟩ := is_lst i
  refine ⟨a, us, rfl, .inl ⟨.inl (.inl (hid_sub _ _ ha)), fun t ht => ?_⟩⟩
  have s2 : Same H (upd H t (.tup us)) := same_new ht
  exact q _ _ s2 (.tup (.inl (.inl (is_new (K := X.K) dm ht))) (l.mono (hid_mono s2)))⟩
theorem c_lstT : CallF X (.type "list") [.tup ds] ds := ⟨_, call_list_of, fun L H xs Q dm i0 q => by
  obtain ⟨v, rfl, i⟩ := isL1 i0
  obtain ⟨a, us, rfl, ha, l⟩ := is_tup i
  refine ⟨a, us, rfl, .inr (same_t hid_sub ha), fun t ht => ?_⟩
  have s2 : Same H (upd H t (.lst us)) := same_new ht
  exact q t us _ ht s2 upd_same (l.mono (hid_new ht s2))⟩
theorem c_lstL : CallF X (.type "list") [.lst ds] ds := ⟨_, call_list_of, fun L H xs Q dm i0 q => by
  obtain ⟨v, rfl, i⟩ := isL1 i0
  obtain ⟨a, us, rfl, ha, l⟩ := is_lst i
  refine ⟨a, us, rfl, .inl (.inl (.inl (hid_sub _ _ ha))), fun t ht => ?_⟩
  have s2 : Same H (upd H t (.lst us)) := same_new ht
  exact q t us _ ht s2 upd_same (l.mono (hid_new ht s2))⟩
theorem c_any {bs : List Bool} (hc : X.calm = true) : CallD X (.builtin "any") [.lst (bs.map D.bl)] (.bl (bs.any id)) := ⟨_, cr_any hc, fun L H xs Q dm i0 q => by
  obtain ⟨v, rfl, i⟩ := isL1 i0
  obtain ⟨a, us, rfl, ha, l⟩ := is_lst i
  rw [isL_bools l] at ha
  exact ⟨a, bs, rfl, .inl (.inl (hid_sub _ _ ha)), q _ H (Same.refl H) (.bl _)⟩⟩
theorem c_all {bs : List Bool} (hc : X.calm = true) : CallD X (.builtin "all") [.lst (bs.map D.bl)] (.bl (bs.all id)) := ⟨_, cr_all hc, fun L H xs Q dm i0 q => by
  obtain ⟨v, rfl, i⟩ := isL1 i0
  obtain ⟨a, us, rfl, ha, l⟩ := is_lst i
  rw [isL_bools l] at ha
  exact ⟨a, bs, rfl, .inl (.inl (hid_sub _ _ ha)), q _ H (Same.refl H) (.bl _)⟩⟩
theorem c_sum {ns : List Int} (hc : X.calm = true) : CallD X (.builtin "sum") [.lst (ns.map D.int)] (.int ns.sum) := ⟨_, cr_sum hc, fun L H xs Q dm i0 q => by
  obtain ⟨v, rfl, i⟩ := isL1 i0
  obtain ⟨a, us, rfl, ha, l⟩ := is_lst i
  rw [isL_ints l] at ha
  exact ⟨a, ns, rfl, .inl (.inl (hid_sub _ _ ha)), q _ H (Same.refl H) (.int _)⟩⟩
theorem c_intB {k : Bool} : CallD X (.type "int") [.bl k] (.int (if k then 1 else 0)) := ⟨_, call_int1, fun L H xs Q dm i0 q => by
  obtain ⟨v, rfl, i⟩ := isL1 i0
  exact .inr ⟨k, by rw [is_bl i], q _ H (Same.refl H) (.int _)⟩⟩
theorem c_abs {n : Int} : CallD X (.builtin "abs") [.int n] (.int (if n < 0 then -n else n)) := ⟨_, call_abs, fun L H xs Q dm i0 q => by
  obtain ⟨v, rfl, i⟩ := isL1 i0
  exact ⟨n, by rw [is_int i], q _ H (Same.refl H) (.int _)⟩⟩
theorem c_max2 {n m : Int} (hc : X.calm = true) : CallD X (.builtin "max") [.int n, .int m] (.int (if m > n then m else n)) := ⟨_, call_max2 hc, fun L H xs Q dm i0 q => by
  obtain ⟨v, u, rfl, i, j⟩ := isL2 i0
  exact ⟨n, m, by rw [is_int i, is_int j], q _ H (Same.refl H) (.int _)⟩⟩
theorem c_min2 {n m : Int} (hc : X.calm = true) : CallD X (.builtin "min") [.int n, .int m] (.int (if m < n then m else n)) := ⟨_, call_min2 hc, fun L H xs Q dm i0 q => by
  obtain ⟨v, u, rfl, i, j⟩ := isL2 i0
  exact ⟨n, m, by rw [is_int i, is_int j], q _ H (Same.refl H) (.int _)⟩⟩

/-! ### calls of defs -/
/-- what a pure def promises -/
def spD (K : PySem.W.Frag) (pre : List D → D → Prop) : Sp := fun vs H Q _ => ∃ (L : List Addr) (ds : List D) (d : D), pre ds d ∧ Dom L H ∧ IsL K (hid H L) vs ds ∧ ∀ v H', Same H H' → Is K (hid H' L) v d → Q v H'
def spF (K : PySem.W.Frag) (pre : List D → List D → Prop) : Sp := fun vs H Q _ => ∃ (L : List Addr) (ds es : List D), pre ds es ∧ Dom L H ∧ IsL K (hid H L) vs ds ∧
  ∀ p ys H', H p = none → Same H H' → H' p = some (.lst ys) → IsL K (hid H' (p :: L)) ys es → Q (.ref p) H'
/-- a def that may be called by its name -/
structure Cal (P : Program) (w : World) (K : PySem.W.Frag) (mg : Str → Option Value) (base : Heap) (k : Nat) (x : Str) (sp : Sp) : Prop where
  ex : ∃ (f : Addr) (fd : FuncData) (ps : List Str), FnOk P w K mg base CX0 k f fd ps sp ∧ mg x = some (.ref f) ∧ PySem.W.keepIn K (.ref f) = true ∧ Binds K fd ps []
theorem ex_call {k : Nat} {pre : List D → D → Prop} (c : Cal X.prog X.w X.K X.mg X.base k x (spD X.K pre)) (hr : Room k X.A) (ha : AX X (e :: es) r ds) (hp : pre ds d) (hg : Gl X x) (hdb : (x == ("__debug__" : Str)) = false)
    (he : starEach (e :: es) X.env = (false, eval e X.env) :: starEach es X.env) (hpl : (backTo pos (starEach es X.env)).any (·.1) = false) : EX X (.Call (.Name x p) (e :: es) [] pos) r d := by
  constructor
  intro C L σ H Q dm I q
  obtain ⟨f, fd, ps, F, hm, hk, hb⟩ := c.ex
  refine we_of (pe_call F hr hg hm hk hb .nil pass0 (pa_w X (e :: es)) hdb he hpl) ?_
  refine ha C L σ H _ dm I fun vs H1 s1 i1 => ?_
  rw [List.append_nil]
  exact ⟨L, ds, d, hp, dm.mono s1, i1, fun v H2 s2 i2 => q v H2 (s1.trans s2) i2⟩
theorem fx_call {k : Nat} {pre : List D → List D → Prop} (c : Cal X.prog X.w X.K X.mg X.base k x (spF X.K pre)) (hr : Room k X.A) (ha : AX X (e :: es) r ds) (hp : pre ds ys) (hg : Gl X x) (hdb : (x == ("__debug__" : Str)) = false)
    (he : starEach (e :: es) X.env = (false, eval e X.env) :: starEach es X.env) (hpl : (backTo pos (starEach es X.env)).any (·.1) = false) : FX X (.Call (.Name x p) (e :: es) [] pos) r ys := by
  constructor
  intro C L σ H Q dm I q
  obtain ⟨f, fd, ps, F, hm, hk, hb⟩ := c.ex
  refine we_of (pe_call F hr hg hm hk hb .nil pass0 (pa_w X (e :: es)) hdb he hpl) ?_
  refine ha C L σ H _ dm I fun vs H1 s1 i1 => ?_
  rw [List.append_nil]
  exact ⟨L, ds, ys, hp, dm.mono s1, i1, fun p us H2 n s2 h2 i2 => q p us H2 (Same.free s1 n) (s1.trans s2) h2 i2⟩
theorem ex_call0 {k : Nat} {pre : List D → D → Prop} (c : Cal X.prog X.w X.K X.mg X.base k x (spD X.K pre)) (hr : Room k X.A) (hp : pre [] d) (hg : Gl X x) (hdb : (x == ("__debug__" : Str)) = false) : EX X (.Call (.Name x p) [] [] pos) r d := by
  constructor
  intro C L σ H Q dm I q
  obtain ⟨f, fd, ps, F, hm, hk, hb⟩ := c.ex
  refine we_of (pe_call0 F hr hg hm hk hb .nil pass0 hdb) ?_
  exact ⟨L, [], d, hp, dm, .nil, fun v H2 s2 i2 => q v H2 s2 i2⟩
theorem fx_call0 {k : Nat} {pre : List D → List D → Prop} (c : Cal X.prog X.w X.K X.mg X.base k x (spF X.K pre)) (hr : Room k X.A) (hp : pre [] ys) (hg : Gl X x) (hdb : (x == ("__debug__" : Str)) = false) : FX X (.Call (.Name x p) [] [] pos) r ys := by
  constructor
  intro C L σ H Q dm I q
  obtain ⟨f, fd, ps, F, hm, hk, hb⟩ := c.ex
  refine we_of (pe_call0 F hr hg hm hk hb .nil pass0 hdb) ?_
  exact ⟨L, [], ys, hp, dm, .nil, fun p us H2 n s2 h2 i2 => q p us H2 n s2 h2 i2⟩
end
end SB
namespace SB
set_option maxRecDepth 100000
open PySem PySem.Spec PyProof.Rows L2
/-! ### enumerate(a tuple) -/
set_option maxHeartbeats 1000000 in
theorem meets_enum_tup (t : Addr) (items : Array Value) :
    Meets (Builtin.«enumerate.__new__» ⟨[.type "enumerate", .ref t], []⟩) (fun _ R s => s.heap.IsTuple t items ∧
      R (.ok (.ret (.ref (s.heap.push { cls := .type "tuple_iterator", data := .fields #[.ref t, .int 0 0] }).objs.size)))
        { s with heap := (s.heap.push { cls := .type "tuple_iterator", data := .fields #[.ref t, .int 0 0] }).push { cls := .type "enumerate", data := .fields #[.none, .bool false, .ref s.heap.objs.size, rawInt 0, .none, .none] } }) :=
  .of_wp fun prog w A R s h => by
    obtain ⟨hp, g, d, tk, os⟩ := s; obtain ⟨h1, h⟩ := h
    have hsub := sub_enumerate
    have q1 : ∀ {A' : Around} {E : Value → Shared → Prop} {Q : Value → Shared → Prop}, Q (.ref hp.objs.size) ⟨hp.push { cls := .type "tuple_iterator", data := .fields #[.ref t, .int 0 0] }, g, d, tk, os⟩ → wpAny (model prog w) A' (pyIter (.ref t)) Q E ⟨hp, g, d, tk, os⟩ :=
      fun q => (begins_tuple t items).iter prog w _ _ ⟨hp, g, d, tk, os⟩ _ h1 q
    wp_walk using q1
    refine wpAny_stack_any fun st => wpAny_pure ?_
    split
    · rename_i c _ _ _ _ _
      cases (c == Value.type "enumerate")
      · wp_walk using q1
        exact ⟨_, rfl, h⟩
      · wp_walk using q1
        exact ⟨_, rfl, h⟩
    · wp_walk using q1
      exact ⟨_, rfl, h⟩
theorem call_enum_tup {prog : Program} {w : World} {A : Around} {E : Value → Shared → Prop} {s : Shared} {t : Addr} {items : Array Value} {Q : Value → Shared → Prop} (hT : s.heap.IsTuple t items)
    (h : ∀ h', IsEnum h' (s.heap.objs.size + 1) s.heap.objs.size 0 .none → h'.IsTupleIter s.heap.objs.size t 0 → h'.objs.size = s.heap.objs.size + 2 →
      (∀ b o, s.heap.get? b = some o → h'.get? b = some o) → Q (.ref (s.heap.objs.size + 1)) { s with heap := h' }) :
    wpAny (model prog w) A (call (.type "enumerate") [.ref t]) Q E s := by
  refine callType_new F.called_enumerate (by decide) (F.typeCall_enumerate_1 _) (F.newCall_enumerate_1 _) (fun obj => F.args_object_init_2 obj _) F.entry_enumerate_new
    (meets_enum_tup t items) ⟨hT, ?_⟩
  have hz : (s.heap.push { cls := .type "tuple_iterator", data := .fields #[.ref t, .int 0 0] }).objs.size = s.heap.objs.size + 1 := Heap.size_push ..
  show _ ∧ _
  rw [hz]
  have he : IsEnum ((s.heap.push { cls := .type "tuple_iterator", data := .fields #[.ref t, .int 0 0] }).push
      { cls := .type "enumerate", data := .fields #[.none, .bool false, .ref s.heap.objs.size, rawInt 0, .none, .none] }) (s.heap.objs.size + 1) s.heap.objs.size 0 .none := by
    have := Heap.get?_push_size (s.heap.push { cls := .type "tuple_iterator", data := .fields #[.ref t, .int 0 0] })
      (o := { cls := .type "enumerate", data := .fields #[.none, .bool false, .ref s.heap.objs.size, rawInt 0, .none, .none] }) rfl
    rw [hz] at this; exact this
  exact ⟨⟨_, he, rfl⟩, h _ he ⟨_, Heap.get?_push_of_some _ (Heap.get?_push_size _ rfl), rfl, rfl⟩ (by rw [Heap.size_push, hz]) fun b o x => Heap.get?_push_of_some _ (Heap.get?_push_of_some _ x)⟩
/-- the tuple at a, the items in new pairs with their places -/
def IteT (K : PySem.W.Frag) (a : Addr) : It :=
  ⟨fun i H => ∃ (xs : List V) (x : V), SqT K H a xs ∧ xs[i]? = some x,
    fun i H v H' => ∃ T x, v = .ref T ∧ H T = none ∧ H' = upd H T (.tup [.int (i : Nat), x]) ∧ ∀ xs, SqT K H a xs → xs[i]? = some x,
    fun i H => ∃ xs : List V, SqT K H a xs ∧ xs.length = i⟩
theorem turn_enumT {P : Program} {w : World} {K : PySem.W.Frag} {elts : List Expr} {kk : Nat} {tpos : Pos} (a e it : Addr) :
    Turn P w K (.Tuple elts kk tpos) (IteT K a) [e, it] e (fun i h => (∃ old, IsEnum h e it ((i : Nat) : Int) old) ∧ h.IsTupleIter it a i ∧ e ≠ it ∧ a ≠ it ∧ a ≠ e) where
  mem := by simp
  obj := fun i h st b hb => by
    obtain ⟨⟨old, he⟩, ⟨o, ho, hc, hd⟩, _⟩ := st
    have e' : b = e ∨ b = it := by simpa using hb
    rcases e' with z | z
    · rw [z]; exact ⟨_, he, fun v q => nomatch q⟩
    · rw [z]; exact ⟨o, ho, fun v q => by rw [hd] at q; cases q⟩
  keep := fun i h h' st k => let ⟨⟨old, he⟩, hi, hne⟩ := st; ⟨⟨old, k e (by simp) _ he⟩, hi.at fun o q => k it (by simp) o q, hne⟩
  item := by
    intro X hP hw hK hc i pins s σ H E I hf st hg
    subst hP hw hK
    obtain ⟨⟨old, he⟩, hit, hne, hai, hae⟩ := st
    obtain ⟨xs, x, hq, hx⟩ := hg
    obtain ⟨its, rv, p, hz⟩ := I.tuple hq
    obtain ⟨u, hu, ru⟩ := rv.get hx
    have hel : e < s.heap.objs.size := Heap.lt_size he
    have hil : it < s.heap.objs.size := by obtain ⟨_, q, _⟩ := hit; exact Heap.lt_size q
    have hlt : i < its.toArray.size := by
      rw [List.size_toArray]
      exact (List.getElem?_eq_some_iff.mp hu).1
    refine wpAny_pyNext_enum_itemD (Draws.tuple (prog := X.prog) (w := X.w) (A := X.A.in1) (I.ok.hd hc) it a hai its.toArray) he ⟨hit, p⟩ hlt hne (by simp [hne, Ne.symm hae]) fun y h' tk hy ho hst' hT hsz hk => ?_
    have ey : y = u := by
      have hy' : its.toArray[i]? = some y := hy
      simp only [List.getElem?_toArray] at hy'
      rw [hu] at hy'
      exact (Option.some.inj hy').symm
    subst ey
    obtain ⟨hit', _⟩ := hst'
    refine ⟨_, rfl, wpAny_letOwnedTupleGo_enum (s := { s with heap := h', toks := tk + 1 }) ho fun h'' he' sb => ?_⟩
    have hT2 : h''.get? s.heap.objs.size = some { cls := .type "tuple", data := .seq #[.int i tk, y] } := (sb.2 _ (Nat.ne_of_gt hel)).trans hT
    have new : ObjOk X.prog X.w (upd H s.heap.objs.size (.tup [.int (i : Nat), x])) h'' s.heap.objs.size (.tup [.int (i : Nat), x]) :=
      ⟨by show 2 ≤ sizeLine; decide, [.int i tk, y], .cons ⟨_, rfl⟩ (.cons ru .nil), ⟨_, hT2, rfl, _, rfl⟩⟩
    have I1 : Inv X pins σ (upd H s.heap.objs.size (.tup [.int (i : Nat), x])) { s with heap := h'', toks := tk + 1 } :=
      I.turnedNew (ch := [e, it]) (fun b ob hb q => (sb.2 b (fun z => hb (by simp [z]))).trans (hk b ob (fun z => hb (by simp [z])) (fun z => hb (by simp [z])) q)) hf (Nat.le_refl _) new
    refine ⟨.ref s.heap.objs.size, _, I1, rfl, ⟨_, x, rfl, I.hok.fresh (Nat.le_refl _), rfl, fun ys hy => by rw [I.tuple_inj hy hq]; exact hx⟩, ⟨⟨y, ?_⟩, hit'.at fun o q => (sb.2 it (Ne.symm hne)).trans q, hne, hai, hae⟩, fun b hb => ?_⟩
    · have e1 : ((i + 1 : Nat) : Int) = (i : Int) + 1 := by omega
      rw [e1]; exact he'
    · have hb' : b < s.heap.objs.size := by
        have e' : b = e ∨ b = it := by simpa using hb
        rcases e' with z | z
        · rw [z]; exact hel
        · rw [z]; exact hil
      rw [upd_ne (Nat.ne_of_lt hb')]
      exact (hf b hb).1
  done := by
    intro X hP hw hK hc i pins s σ H E I hf st hg
    subst hP hw hK
    obtain ⟨⟨old, he⟩, hit, hne, hai, hae⟩ := st
    obtain ⟨xs, hq, hx⟩ := hg
    obtain ⟨its, rv, p, hz⟩ := I.tuple hq
    obtain ⟨f0, f1, f2, f3, f4, f5⟩ := hf it (by simp)
    have hl := rv.length
    have hn : its.toArray.size = i := by rw [List.size_toArray]; omega
    subst hn
    exact wpAny_pyNext_enum_endD (Draws.tuple (prog := X.prog) (w := X.w) (A := X.A.in1) (I.ok.hd hc) it a hai its.toArray) he ⟨hit, p⟩ fun h' eb => ⟨rfl, I.turned (t' := s.toks) (fun b o hb q => eb b o hb q) f0 f1 f3 f4 f5⟩
  self := fun A i s Q E st h => let ⟨⟨_, he⟩, _⟩ := st; wpAny_pyIter_enum he h
def iEnumT (K : PySem.W.Frag) (ta : TA) : TI := fun σ H R => ta σ H fun vs H1 => ∃ a xs, vs = [.ref a] ∧ SqT K H1 a xs ∧ R (IteT K a) H1
theorem pi_enumT {X : Cx} {e : Expr} {ta : TA} {p pos tpos : Pos} {elts : List Expr} {kk : Nat} (hg : Gl X "enumerate") (hm : X.mg "enumerate" = none) (ha : PA X [e] ta) (hs : starEach [e] X.env = [(false, eval e X.env)] := by rfl) :
    PI X (.Tuple elts kk tpos) (.Call (.Name "enumerate" p) [e] [] pos) (iEnumT X.K ta) := by
  refine ⟨fun pins s σ H R I h => ?_⟩
  refine Call_ (ld_blt I hg hm boot_enumerate (PyProof.Rows.callWith_type1 (thn (ha.run pos pins s σ H _ I h) fun us s1 ⟨vs, H1, I1, r1, q1⟩ => ?_) hs rfl))
  obtain ⟨a, xs, ex, hq, q⟩ := q1
  subst ex
  cases r1 with
  | cons r rr =>
    cases rr
    cases r
    obtain ⟨its, rv, p', hz⟩ := I1.tuple hq
    have hal : a < s1.heap.objs.size := by obtain ⟨_, q, _⟩ := p'; exact Heap.lt_size q
    refine call_enum_tup p' fun h' he hit hsz hk => wpAny_pyIter_enum he ?_
    have I2 : Inv X pins σ H1 { s1 with heap := h' } := I1.kept (t' := s1.toks) hk
    refine ⟨s1.heap.objs.size + 1, [s1.heap.objs.size + 1, s1.heap.objs.size], _, _, H1, rfl, I2, turn_enumT a (s1.heap.objs.size + 1) s1.heap.objs.size, ⟨⟨.none, he⟩, hit, Nat.succ_ne_self _, Nat.ne_of_lt hal, Nat.ne_of_lt (Nat.lt_succ_of_lt hal)⟩, fun b hb => ?_, q⟩
    have e' : b = s1.heap.objs.size + 1 ∨ b = s1.heap.objs.size := by simpa using hb
    have hle : s1.heap.objs.size ≤ b := by
      rcases e' with z | z
      · rw [z]; exact Nat.le_add_right _ _
      · rw [z]; exact Nat.le_refl _
    exact I1.fpOk hle (I1.hok.fresh hle)
end SB
namespace SB
set_option maxRecDepth 100000
open PySem PySem.Spec PyProof.Rows L2

/-! ### slots forgotten -/
theorem wipe_get (σ : L2.St) : ∀ (vs : List Nat) (i : Nat), (wipe σ vs)[i]? = if i ∈ vs then (σ[i]?).map (fun _ => none) else σ[i]?
  | [], i => by simp [wipe]
  | v :: vs, i => by
    unfold wipe
    by_cases h : v = i
    · subst h
      rw [if_pos List.mem_cons_self]
      by_cases hl : v < (wipe σ vs).length
      · rw [List.getElem?_set_self hl]
        rw [wipe_length] at hl
        rw [List.getElem?_eq_getElem hl]; rfl
      · have hl' : ¬ v < σ.length := by rw [wipe_length] at hl; exact hl
        rw [List.getElem?_eq_none (by rw [List.length_set]; omega), List.getElem?_eq_none (by omega)]; rfl
    · rw [List.getElem?_set_ne h, wipe_get σ vs i]
      by_cases m : i ∈ vs
      · rw [if_pos m, if_pos (List.mem_cons_of_mem _ m)]
      · rw [if_neg m, if_neg (by simp only [List.mem_cons, not_or]; exact ⟨fun e => h e.symm, m⟩)]
theorem wipe_wipe (σ : L2.St) (vs : List Nat) : wipe (wipe σ vs) vs = wipe σ vs := by
  apply List.ext_getElem?
  intro i
  rw [wipe_get, wipe_get]
  by_cases m : i ∈ vs
  · rw [if_pos m, if_pos m]; cases σ[i]? <;> rfl
  · rw [if_neg m]
theorem wipe_set (σ : L2.St) {vs : List Nat} {j : Nat} {x : Option V} (h : j ∈ vs) : wipe (σ.set j x) vs = wipe σ vs := by
  apply List.ext_getElem?
  intro i
  rw [wipe_get, wipe_get]
  by_cases m : i ∈ vs
  · rw [if_pos m, if_pos m]
    by_cases e : j = i
    · subst e
      by_cases hl : j < σ.length
      · rw [List.getElem?_set_self hl, List.getElem?_eq_getElem hl]; rfl
      · rw [List.getElem?_eq_none (by rw [List.length_set]; omega), List.getElem?_eq_none (by omega)]
    · rw [List.getElem?_set_ne e]
  · rw [if_neg m, if_neg m, List.getElem?_set_ne (fun e : j = i => m (by rw [← e]; exact h))]
theorem IsE.unset {K : PySem.W.Frag} {H : Hp} {x : Option V} : ∀ {σ : L2.St} {r : Rho} {i : Nat} {n : Str}, IsE K H σ r → r[i]? = some (n, none) → IsE K H (σ.set i x) r
  | _, _, _, _, .nil, e => by simp at e
  | _, _, 0, _, .any t, _ => .any t
  | _, _, 0, _, .val _ _, e => by simp at e
  | _, _, i + 1, _, .any t, e => .any (IsE.unset t (by simpa using e))
  | _, _, i + 1, _, .val h t, e => .val h (IsE.unset t (by simpa using e))
theorem IsE.wipe {K : PySem.W.Frag} {H : Hp} {σ : L2.St} {r : Rho} (h : IsE K H σ r) : ∀ vs : List Nat, (∀ i ∈ vs, ∃ n, r[i]? = some (n, none)) → IsE K H (L2.wipe σ vs) r
  | [], _ => h
  | v :: vs, f => by
    obtain ⟨n, e⟩ := f v List.mem_cons_self
    exact IsE.unset (IsE.wipe h vs fun i hi => f i (List.mem_cons_of_mem _ hi)) e

/-! ### targets -/
def WG (X : Cx) (tg : Expr) : TG := fun v σ H Q => ∀ (pins : List (Addr × Obj)) (s : Shared) (u : Value), Inv X pins σ H s → RelV v u →
  wpAny (model X.prog X.w) X.A (assign tg X.env u) (fun _ s' => ∃ σ' H', Inv X pins σ' H' s' ∧ Q σ' H') X.xe s
theorem pg_w (X : Cx) (tg : Expr) : PG X tg (WG X tg) := ⟨fun pins s _ _ _ u _ I r h => h pins s u I r⟩
def WGs (X : Cx) (ts : List Expr) : TGs := fun vs σ H Q => ∀ (pins : List (Addr × Obj)) (s : Shared) (us : List Value), Inv X pins σ H s → Vals vs us →
  wpAny (model X.prog X.w) X.A (assignInOrder ((assignEach ts X.env).map (·.2)) us) (fun _ s' => ∃ σ' H', Inv X pins σ' H' s' ∧ Q σ' H') X.xe s
theorem pgs_w (X : Cx) (ts : List Expr) : PGs X ts (WGs X ts) := ⟨fun pins s _ _ _ u _ I r h => h pins s u I r⟩
/-- d goes to the target; is: its slots -/
def GXd (X : Cx) (tg : Expr) (js : List Nat) (r : Rho) (d : D) (r' : Rho) : Prop := CxN X r → CxN X r' ∧
  ∀ (L : List Addr) (σ : L2.St) (H : Hp) (v : V) (Q : L2.St → Hp → Prop), IsE X.K (hid H L) σ r → Is X.K (hid H L) v d →
    (∀ σ', IsE X.K (hid H L) σ' r' → (∀ vs, (∀ i ∈ js, i ∈ vs) → wipe σ' vs = wipe σ vs) → Q σ' H) → WG X tg v σ H Q
structure GX (X : Cx) (tg : Expr) (js : List Nat) (r : Rho) (d : D) (r' : Rho) : Prop where mk ::
  run : GXd X tg js r d r'
instance {X : Cx} {tg : Expr} {js : List Nat} {r : Rho} {d : D} {r' : Rho}  : CoeFun (GX X tg js r d r') (fun _ => GXd X tg js r d r') := ⟨GX.run⟩
def GXsd (X : Cx) (ts : List Expr) (js : List Nat) (r : Rho) (ds : List D) (r' : Rho) : Prop := CxN X r → CxN X r' ∧
  ∀ (L : List Addr) (σ : L2.St) (H : Hp) (vs : List V) (Q : L2.St → Hp → Prop), IsE X.K (hid H L) σ r → IsL X.K (hid H L) vs ds →
    (∀ σ', IsE X.K (hid H L) σ' r' → (∀ vs, (∀ i ∈ js, i ∈ vs) → wipe σ' vs = wipe σ vs) → Q σ' H) → WGs X ts vs σ H Q
structure GXs (X : Cx) (ts : List Expr) (js : List Nat) (r : Rho) (ds : List D) (r' : Rho) : Prop where mk ::
  run : GXsd X ts js r ds r'
instance {X : Cx} {ts : List Expr} {js : List Nat} {r : Rho} {ds : List D} {r' : Rho}  : CoeFun (GXs X ts js r ds r') (fun _ => GXsd X ts js r ds r') := ⟨GXs.run⟩
section
variable {X : Cx} {r r' r2 : Rho} {d : D} {ds : List D} {x : Str} {i : Nat} {pos : Pos} {e : Expr} {es : List Expr} {js ks : List Nat}
theorem gx_name (u : Up r x (some d) r' i) (hx : Loc X.env.scope x) (hf : X.fn x = true ∨ X.env.scope.names.lookup x = some .local) : GX X (.Name x pos) [i] r d r' := by
  constructor
  intro C
  have hv : Vis X.env.scope x := by rcases hx with h | h; exact .inl h; exact .inr (.inl h)
  refine ⟨C.up u hv, fun L σ H v Q I h q => ?_⟩
  have hN : X.N[i]? = some x := by rw [C.names]; exact u.ix
  intro pins s w J rv
  exact (pg_name C.nd hN hx hf).run pins s σ H v w Q J rv (q _ (I.up h u) fun vs hvs => wipe_set σ (hvs i (by simp)))
theorem gxs_nil : GXs X [] [] r [] r := .mk fun C => ⟨C, fun L σ H vs Q I h q pins s us J rv => by
  cases h
  exact pgs_nil.run pins s σ H [] us Q J rv ⟨rfl, q σ I fun _ _ => rfl⟩⟩
theorem gxs_cons (h1 : GX X e js r d r') (h2 : GXs X es ks r' ds r2) (hs : (assignEach (e :: es) X.env).map (·.2) = assign e X.env :: (assignEach es X.env).map (·.2)) : GXs X (e :: es) (js ++ ks) r (d :: ds) r2 := by
  constructor
  intro C
  obtain ⟨C1, g1⟩ := h1 C
  obtain ⟨C2, g2⟩ := h2 C1
  refine ⟨C2, fun L σ H vs Q I h q pins s us J rv => ?_⟩
  cases h with
  | cons hv ht =>
    refine (pgs_cons (pg_w X e) (pgs_w X es) hs).run pins s σ H _ us Q J rv ⟨_, _, rfl, ?_⟩
    refine g1 L σ H _ _ I hv fun σ1 I1 w1 => ?_
    refine g2 L σ1 H _ _ I1 ht fun σ2 I2 w2 => ?_
    exact q σ2 I2 fun vs hvs => (w2 vs fun i hi => hvs i (List.mem_append_right _ hi)).trans (w1 vs fun i hi => hvs i (List.mem_append_left _ hi))
theorem gx_tup {k : Nat} (h : GXs X es js r ds r') (hn : (assignEach es X.env).length = ds.length) (hst : (assignEach es X.env).findIdx? (·.1) = none) : GX X (.Tuple es k pos) js r (.tup ds) r' := by
  constructor
  intro C
  obtain ⟨C1, g1⟩ := h C
  refine ⟨C1, fun L σ H v Q I h q pins s u J rv => ?_⟩
  obtain ⟨a, xs, rfl, ha, l⟩ := is_tup h
  exact (pg_tup (k := k) (pos := pos) C.calm (pgs_w X es) hn hst).run pins s σ H _ u Q J rv ⟨a, xs, rfl, same_t hid_sub ha, l.length, g1 L σ H xs _ I l q⟩
end

/-! ### what is walked -/
def WI (X : Cx) (tg iter : Expr) : TI := fun σ H R => ∀ (pins : List (Addr × Obj)) (s : Shared), Inv X pins σ H s →
  wpAny (model X.prog X.w) X.A (eval iter X.env) (fun v s1 => wpAny (model X.prog X.w) X.A (pyIter v) (PIE X pins σ tg R) X.xe s1) X.xe s
theorem pi_w (X : Cx) (tg iter : Expr) : PI X tg iter (WI X tg iter) := ⟨fun pins s _ _ _ I h => h pins s I⟩
theorem wi_of {X : Cx} {tg iter : Expr} {wi : TI} (p : PI X tg iter wi) {σ : L2.St} {H : Hp} {R : It → Hp → Prop} (h : wi σ H R) : WI X tg iter σ H R := fun pins s I => p.run pins s σ H R I h
/-- J walks ys, whatever else comes to the heap -/
structure WalkD (K : PySem.W.Frag) (J : It) (L : List Addr) (H0 : Hp) (ys : List D) : Prop where
  go : ∀ (M : List Addr) (i : Nat) (H : Hp), i < ys.length → Same (hid H0 L) (hid H M) → J.go i H
  stop : ∀ (M : List Addr) (H : Hp), Same (hid H0 L) (hid H M) → J.stop ys.length H
  yld : ∀ (M : List Addr) (i : Nat) (H : Hp) (x : V) (H' : Hp) (d : D), Dom M H → Same (hid H0 L) (hid H M) → ys[i]? = some d → J.yld i H x H' → Same H H' ∧ Is K (hid H' M) x d
def IXd (X : Cx) (tg iter : Expr) (r : Rho) (ys : List D) : Prop := CxN X r →
  ∀ (L : List Addr) (σ : L2.St) (H : Hp) (R : It → Hp → Prop), Dom L H → IsE X.K (hid H L) σ r → (∀ J H', Same H H' → WalkD X.K J L H' ys → R J H') → WI X tg iter σ H R
structure IX (X : Cx) (tg iter : Expr) (r : Rho) (ys : List D) : Prop where mk ::
  run : IXd X tg iter r ys
instance {X : Cx} {tg iter : Expr} {r : Rho} {ys : List D}  : CoeFun (IX X tg iter r ys) (fun _ => IXd X tg iter r ys) := ⟨IX.run⟩
section
variable {X : Cx} {tg iter e e2 : Expr} {r : Rho} {d : D} {ds ys zs : List D} {p pos tpos : Pos} {elts : List Expr} {kk : Nat}
theorem ix_tup (h : EX X iter r (.tup ys)) : IX X tg iter r ys := by
  constructor
  intro C L σ H R dm I q
  refine wi_of (pi_tup (pe_w X iter)) ?_
  refine h C L σ H _ dm I fun v H1 s1 i1 => ?_
  obtain ⟨a, xs, rfl, ha, l⟩ := is_tup i1
  refine ⟨a, rfl, ⟨xs, same_t hid_sub ha⟩, q _ H1 s1 ⟨fun M i H2 hi s2 => ?_, fun M H2 s2 => ?_, fun M i H2 x H3 d dm2 s2 hd hy => ?_⟩⟩
  · obtain ⟨x, hx, _⟩ := l.get (List.getElem?_eq_getElem hi)
    exact ⟨xs, x, same_t (s2.trans hid_sub) ha, hx⟩
  · exact ⟨xs, same_t (s2.trans hid_sub) ha, by rw [l.length]; exact Nat.le_refl _⟩
  · obtain ⟨rfl, hy⟩ := hy
    obtain ⟨y, hyi, iy⟩ := l.get hd
    have e := (hy xs (same_t (s2.trans hid_sub) ha)).symm.trans hyi
    obtain rfl := Option.some.inj e
    exact ⟨Same.refl _, iy.mono s2⟩
theorem ix_lst (h : EX X iter r (.lst ys)) : IX X tg iter r ys := by
  constructor
  intro C L σ H R dm I q
  refine wi_of (pi_list (pe_w X iter)) ?_
  refine h C L σ H _ dm I fun v H1 s1 i1 => ?_
  obtain ⟨a, xs, rfl, ha, l⟩ := is_lst i1
  have at_ : ∀ {M : List Addr} {H2 : Hp}, Same (hid H1 L) (hid H2 M) → SqL X.K H2 a xs := fun s2 => .inl (.inl (hid_sub _ _ (s2 _ _ ha)))
  refine ⟨a, rfl, ⟨xs, .inl (.inl (hid_sub _ _ ha))⟩, q _ H1 s1 ⟨fun M i H2 hi s2 => ?_, fun M H2 s2 => ?_, fun M i H2 x H3 d dm2 s2 hd hy => ?_⟩⟩
  · obtain ⟨x, hx, _⟩ := l.get (List.getElem?_eq_getElem hi)
    exact ⟨xs, x, at_ s2, hx⟩
  · exact ⟨xs, at_ s2, by rw [l.length]; exact Nat.le_refl _⟩
  · obtain ⟨rfl, hy⟩ := hy
    obtain ⟨y, hyi, iy⟩ := l.get hd
    have e := (hy xs (at_ s2)).symm.trans hyi
    obtain rfl := Option.some.inj e
    exact ⟨Same.refl _, iy.mono s2⟩
/-- the numbers below n -/
def rngD (n : Nat) : List D := (List.range n).map fun (i : Nat) => D.int (i : Int)
theorem ix_range {n : Nat} (h : EX X e r (.int (n : Int))) (hz : n < 1000000) (hg : Gl X "range") (hm : X.mg "range" = none) (hs : starEach [e] X.env = [(false, eval e X.env)]) : IX X tg (.Call (.Name "range" p) [e] [] pos) r (rngD n) := by
  constructor
  intro C L σ H R dm I q
  refine wi_of (pi_range1 hg hm (pa_cons (pe_w X e) pa_nil hs) hs) ?_
  refine h C L σ H _ dm I fun v H1 s1 i1 => ?_
  refine ⟨n, by rw [is_int i1], by omega, by omega, ?_⟩
  have hl : (rngD n).length = n := by unfold rngD; rw [List.length_map, List.length_range]
  refine q _ H1 s1 ⟨fun M i H2 hi s2 => ?_, fun M H2 s2 => ?_, fun M i H2 x H3 d dm2 s2 hd hy => ?_⟩
  · show i < (n : Int).toNat
    rw [hl] at hi; omega
  · show (n : Int).toNat ≤ (rngD n).length
    rw [hl]; omega
  · obtain ⟨rfl, rfl⟩ := hy
    refine ⟨Same.refl _, ?_⟩
    have hi : i < n := by rw [← hl]; exact (List.getElem?_eq_some_iff.mp hd).1
    have e : d = .int ((i : Nat) : Int) := by
      unfold rngD at hd
      rw [List.getElem?_map, List.getElem?_range hi] at hd
      exact (Option.some.inj hd).symm
    rw [e, Int.zero_add]
    exact .int _
def pairs (xs ys : List D) : List D := List.zipWith (fun a b => D.tup [a, b]) xs ys
theorem pair_new {K : PySem.W.Frag} {H : Hp} {M : List Addr} {T : Addr} {x y : V} {a b : D} (dm : Dom M H) (n : H T = none) (h1 : Is K (hid H M) x a) (h2 : Is K (hid H M) y b) :
    Same H (upd H T (.tup [x, y])) ∧ Is K (hid (upd H T (.tup [x, y])) M) (.ref T) (.tup [a, b]) := by
  have s := same_new (o := .tup [x, y]) n
  exact ⟨s, .tup (.inl (.inl (is_new (K := K) dm n))) (.cons (h1.mono (hid_mono s)) (.cons (h2.mono (hid_mono s)) .nil))⟩
theorem ix_enum (h : EX X e r (.tup ys)) (hg : Gl X "enumerate") (hm : X.mg "enumerate" = none) (hs : starEach [e] X.env = [(false, eval e X.env)]) :
    IX X (.Tuple elts kk tpos) (.Call (.Name "enumerate" p) [e] [] pos) r (pairs (rngD ys.length) ys) := by
  constructor
  intro C L σ H R dm I q
  refine wi_of (pi_enumT hg hm (pa_cons (pe_w X e) pa_nil hs) hs) ?_
  refine h C L σ H _ dm I fun v H1 s1 i1 => ?_
  obtain ⟨a, xs, rfl, ha, l⟩ := is_tup i1
  have hl : (pairs (rngD ys.length) ys).length = ys.length := by unfold pairs rngD; simp
  refine ⟨a, xs, rfl, same_t hid_sub ha, q _ H1 s1 ⟨fun M i H2 hi s2 => ?_, fun M H2 s2 => ?_, fun M i H2 x H3 d dm2 s2 hd hy => ?_⟩⟩
  · rw [hl] at hi
    obtain ⟨x, hx, _⟩ := l.get (List.getElem?_eq_getElem hi)
    exact ⟨xs, x, same_t (s2.trans hid_sub) ha, hx⟩
  · exact ⟨xs, same_t (s2.trans hid_sub) ha, by rw [l.length, hl]⟩
  · obtain ⟨T, y, rfl, nT, rfl, hy⟩ := hy
    have hi : i < ys.length := by rw [← hl]; exact (List.getElem?_eq_some_iff.mp hd).1
    obtain ⟨z, hz, iz⟩ := l.get (List.getElem?_eq_getElem hi)
    obtain rfl := Option.some.inj ((hy xs (same_t (s2.trans hid_sub) ha)).symm.trans hz)
    have e : d = .tup [.int ((i : Nat) : Int), ys[i]] := by
      unfold pairs rngD at hd
      rw [List.getElem?_zipWith, List.getElem?_map, List.getElem?_range hi, List.getElem?_eq_getElem hi] at hd
      exact (Option.some.inj hd).symm
    rw [e]
    exact pair_new dm2 nT (.int _) (iz.mono s2)
theorem ix_zip (h : EX X e r (.tup ys)) (h2 : EX X e2 r (.tup zs)) (hl : ys.length = zs.length) (hg : Gl X "zip") (hm : X.mg "zip" = none) (hs : starEach [e, e2] X.env = (false, eval e X.env) :: starEach [e2] X.env) (hs2 : starEach [e2] X.env = [(false, eval e2 X.env)])
    (hpl : (backTo pos (starEach [e2] X.env)).any (·.1) = false) :
    IX X (.Tuple elts kk tpos) (.Call (.Name "zip" p) [e, e2] [] pos) r (pairs ys zs) := by
  constructor
  intro C L σ H R dm I q
  refine wi_of (RZ.pi_zipA hg hm (pa_cons (pe_w X e) (pa_cons (pe_w X e2) pa_nil hs2) hs) hs hpl) ?_
  refine h C L σ H _ dm I fun v H1 s1 i1 => ?_
  refine h2 C L σ H1 _ (dm.mono s1) (I.mono (hid_mono s1)) fun u H2 s2 i2 => ?_
  obtain ⟨a, xs, rfl, ha, l⟩ := is_tup i1
  obtain ⟨b, us, rfl, hb, m⟩ := is_tup i2
  have ha := same_t (hid_mono (L := L) s2) ha
  have l := l.mono (hid_mono (L := L) s2)
  have hl1 : (pairs ys zs).length = ys.length := by unfold pairs; rw [List.length_zipWith]; omega
  refine ⟨a, b, xs, us, rfl, .inr ⟨same_t hid_sub ha, same_t hid_sub hb, q _ H2 (s1.trans s2) ⟨fun M i H3 hi s3 => ?_, fun M H3 s3 => ?_, fun M i H3 x H4 d dm3 s3 hd hy => ?_⟩⟩⟩
  · rw [hl1] at hi
    obtain ⟨x, hx, _⟩ := l.get (List.getElem?_eq_getElem hi)
    obtain ⟨y, hy, _⟩ := m.get (List.getElem?_eq_getElem (show i < zs.length by omega))
    exact ⟨xs, us, x, y, same_t (s3.trans hid_sub) ha, same_t (s3.trans hid_sub) hb, hx, hy⟩
  · exact ⟨xs, us, same_t (s3.trans hid_sub) ha, same_t (s3.trans hid_sub) hb, .inl (by rw [l.length, hl1]; exact Nat.le_refl _)⟩
  · obtain ⟨T, y, z, rfl, nT, rfl, hy, hz⟩ := hy
    have hi : i < ys.length := by rw [← hl1]; exact (List.getElem?_eq_some_iff.mp hd).1
    have hi2 : i < zs.length := by omega
    obtain ⟨y', hy', iy⟩ := l.get (List.getElem?_eq_getElem hi)
    obtain ⟨z', hz', iz⟩ := m.get (List.getElem?_eq_getElem hi2)
    obtain rfl := Option.some.inj ((hy xs (same_t (s3.trans hid_sub) ha)).symm.trans hy')
    obtain rfl := Option.some.inj ((hz us (same_t (s3.trans hid_sub) hb)).symm.trans hz')
    have e : d = .tup [ys[i], zs[i]] := by
      unfold pairs at hd
      rw [List.getElem?_zipWith, List.getElem?_eq_getElem hi, List.getElem?_eq_getElem hi2] at hd
      exact (Option.some.inj hd).symm
    rw [e]
    exact pair_new dm3 nT (iy.mono s3) (iz.mono s3)
end
end SB
namespace SB
set_option maxRecDepth 100000
open PySem PySem.Spec PyProof.Rows L2

/-! ### comprehensions -/
inductive VisAll (sc : Scope) : Rho → Prop
  | nil : VisAll sc []
  | any {n : Str} {r : Rho} : VisAll sc r → VisAll sc ((n, none) :: r)
  | val {n : Str} {d : D} {r : Rho} : Vis sc n → VisAll sc r → VisAll sc ((n, some d) :: r)
theorem VisAll.mem {sc : Scope} : ∀ {r : Rho}, VisAll sc r → ∀ p ∈ r, p.2.isSome = true → Vis sc p.1
  | _, .any t, p, h, e => by
    rcases List.mem_cons.mp h with z | h
    · rw [z] at e; cases e
    · exact t.mem p h e
  | _, .val v t, p, h, e => by
    rcases List.mem_cons.mp h with z | h
    · rw [z]; exact v
    · exact t.mem p h e
/-- a clause's tests -/
def KX (X : Cx) (ifs : List Expr) (r : Rho) (k : Bool) : Prop := match ifs with
  | [] => k = true
  | [c] => TX X c r k
  | _ => False
def WK (X : Cx) (ifs : List Expr) : TT := fun σ H Q => ∀ (pins : List (Addr × Obj)) (s : Shared), Inv X pins σ H s →
  wpAny (model X.prog X.w) X.A (forIn ifs true fun c r => if r = true then do let ok ← isTrue c X.env (eval c X.env); pure (ForInStep.yield ok) else pure (ForInStep.yield r)) (TP X pins σ Q) X.xe s
theorem kx_run {X : Cx} {ifs : List Expr} {r : Rho} {k : Bool} (h : KX X ifs r k) (C : CxN X r) {L : List Addr} {σ : L2.St} {H : Hp} {Q : Bool → Hp → Prop} (dm : Dom L H) (I : IsE X.K (hid H L) σ r) (q : ∀ H', Same H H' → Q k H') : WK X ifs σ H Q := by
  intro pins s J
  match ifs, h with
  | [], h =>
    have e : k = true := h
    subst e
    exact pts_nil.run pins s σ H Q J (q H (Same.refl H))
  | [c], h => exact (pts_one (pt_w X c)).run pins s σ H Q J ((show TX X c r k from h).run C L σ H Q dm I q)
abbrev Blk (X : Cx) (scope : Scope) (s : Shared) (H : Hp) (C : Addr) (cl : List (Str × Addr)) (fp : List Addr) : Cx := X.blk s H scope (compEnvC scope cl C X.env) fp
/-- in every block of this scope -/
abbrev AllBlk (X : Cx) (scope : Scope) (P : Cx → Prop) : Prop := ∀ (s : Shared) (H : Hp) (C : Addr) (cl : List (Str × Addr)) (fp : List Addr), P (Blk X scope s H C cl fp)
structure LCX (X : Cx) (elt tg iter : Expr) (ifs : List Expr) (scope : Scope) (r : Rho) (es : List D) : Prop where
  ex : ∃ (own : List (Str × Nat)) (wi : TI) (g : TG) (tt : TT) (te : TE), PI X tg iter wi ∧ BlkOk X.N X.env.scope scope own ∧ AllBlk X scope (fun Y => PG Y tg g) ∧ AllBlk X scope (fun Y => PTs Y ifs tt) ∧ AllBlk X scope (fun Y => PE Y elt te) ∧
    (CxN X r → ∀ (L : List Addr) (σ : L2.St) (H : Hp) (Q : VK), Dom L H → IsE X.K (hid H L) σ r → (∀ p xs H', H p = none → Same H H' → H' p = some (.lst xs) → IsL X.K (hid H' (p :: L)) xs es → Q (.ref p) H') → tLc wi g tt te (own.map (·.2)) σ H Q)
theorem mem_snoc {α β : Type} (f : α → Option β) (zs : List α) (i : Nat) (z : α) (h : zs[i]? = some z) : (zs.take (i + 1)).filterMap f = (zs.take i).filterMap f ++ (match f z with | some y => [y] | none => []) := by
  rw [List.take_add_one, h]
  simp only [Option.toList_some, List.filterMap_append, List.filterMap_cons, List.filterMap_nil]
  cases f z <;> rfl
theorem dom_cons {L : List Addr} {H : Hp} {p : Addr} {o : HO} (dm : Dom L H) (h : H p = some o) : Dom (p :: L) H := fun a ha => by
  rcases List.mem_cons.mp ha with e | ha
  · rw [e, h]; simp
  · exact dm a ha
theorem filterMap_len {α β : Type} (f : α → Option β) : ∀ l : List α, (l.filterMap f).length ≤ l.length := fun l => List.length_filterMap_le f l
theorem isL_snoc {K : PySem.W.Frag} {H : Hp} {vs : List V} {ds : List D} {v : V} {d : D} (h : IsL K H vs ds) (i : Is K H v d) : IsL K H (vs ++ [v]) (ds ++ [d]) := h.append (.cons i .nil)
theorem lcx {α : Type} {X : Cx} {elt tg iter : Expr} {ifs : List Expr} {scope sc : Scope} {N : List Str} {r rw_ : Rho} {own : List (Str × Nat)} (zs : List α) (f : α → D) (out : α → Option D)
    (hi : IX X tg iter r (zs.map f)) (hb : blkC N sc scope own = true) (hN : X.N = N) (hsc : X.env.scope = sc) (hle : Le r rw_) (how : ∀ i ∈ own.map (·.2), ∃ n, rw_[i]? = some (n, none))
    (hv : AllBlk X scope fun Y => VisAll Y.env.scope rw_) (hz : zs.length < sizeLine)
    (body : ∀ z ∈ zs, ∃ r', AllBlk X scope (fun Y => GX Y tg (own.map (·.2)) rw_ (f z) r') ∧ ∃ k, AllBlk X scope (fun Y => KX Y ifs r' k) ∧ (k = true → ∃ y, out z = some y ∧ AllBlk X scope (fun Y => EX Y elt r' y)) ∧ (k = false → out z = none)) :
    LCX X elt tg iter ifs scope r (zs.filterMap out) := by
  refine ⟨own, WI X tg iter, fun v σ H Q => AllBlk X scope fun Y => WG Y tg v σ H Q, fun σ H Q => AllBlk X scope fun Y => WK Y ifs σ H Q, fun σ H Q => AllBlk X scope fun Y => WE Y elt σ H Q, pi_w X tg iter, by rw [hN, hsc]; exact blkOk_by hb,
    fun s H C cl fp => ⟨fun pins s' σ H' v u Q I r h => h s H C cl fp pins s' u I r⟩, fun s H C cl fp => ⟨fun pins s' σ H' Q I h => h s H C cl fp pins s' I⟩, fun s H C cl fp => ⟨fun pins s' σ H' Q I h => h s H C cl fp pins s' I⟩, ?_⟩
  intro C L σ H Q dm I q
  have CB : AllBlk X scope fun Y => CxN Y rw_ := fun s H' c cl fp => ⟨by show X.N = _; rw [hle.names]; exact C.names, C.nd, C.dbg, fun p hp hs => (hv s H' c cl fp).mem p hp hs, C.calm⟩
  refine hi C L σ H _ dm I fun J H1 s1 W => ?_
  intro Dd hD
  have hlen : (zs.map f).length = zs.length := List.length_map ..
  -- the invariant
  let Pv : Nat → Hp → Prop := fun i H2 => Same H1 H2 ∧ ∃ acc, H2 Dd = some (.lst acc) ∧ IsL X.K (hid H2 (Dd :: L)) acc ((zs.take i).filterMap out)
  refine ⟨fun i m H2 => m = zs.length - i ∧ i ≤ zs.length ∧ Pv i H2, ⟨zs.length, by simp, Nat.zero_le _, same_new hD, [], upd_same, by simp; exact .nil⟩, ?_⟩
  rintro i m H2 ⟨rfl, hle2, s2, acc, hacc, lacc⟩
  have w2 : Same (hid H1 L) (hid H2 (Dd :: L)) := hid_new hD s2
  by_cases hlt : i < zs.length
  · refine .inr ⟨W.go (Dd :: L) i H2 (by rw [hlen]; exact hlt) w2, Pv (i + 1), fun H' p' => ⟨zs.length - (i + 1), by omega, rfl, hlt, p'⟩, fun x H3 y3 => ?_⟩
    obtain ⟨r', hg, k, hk, ht, hf⟩ := body zs[i] (List.getElem_mem hlt)
    have hzi : zs[i]? = some zs[i] := List.getElem?_eq_getElem hlt
    have dm2 : Dom (Dd :: L) H2 := dom_cons (dm.mono (s1.trans s2)) hacc
    obtain ⟨s3, ix⟩ := W.yld (Dd :: L) i H2 x H3 (f zs[i]) dm2 w2 (by rw [List.getElem?_map, hzi]; rfl) y3
    have I3 : IsE X.K (hid H3 (Dd :: L)) (wipe σ (own.map (·.2))) rw_ := by
      have I1 : IsE X.K (hid H3 (Dd :: L)) σ r := I.mono ((hid_mono s1).trans (w2.trans (hid_mono s3)))
      exact (I1.le hle).wipe _ how
    intro s0 H0 c cl fp
    refine (hg s0 H0 c cl fp (CB s0 H0 c cl fp)).2 (Dd :: L) _ H3 x _ I3 ix fun σ4 I4 w4 => ?_
    refine ⟨(w4 _ fun i hi => hi).trans (wipe_wipe _ _), ?_⟩
    have C4 : AllBlk X scope fun Y => CxN Y r' := fun s H' c cl fp => (hg s H' c cl fp (CB s H' c cl fp)).1
    have dm3 := dm2.mono s3
    intro s0 H0 c cl fp
    refine kx_run (hk s0 H0 c cl fp) (C4 s0 H0 c cl fp) dm3 I4 fun H5 s5 => ?_
    have l5 : IsL X.K (hid H5 (Dd :: L)) acc ((zs.take i).filterMap out) := lacc.mono (hid_mono (s3.trans s5))
    have hacc5 : H5 Dd = some (.lst acc) := s5 _ _ (s3 _ _ hacc)
    cases k with
    | false =>
      refine ⟨((s2.trans s3).trans s5), acc, hacc5, ?_⟩
      rw [mem_snoc out zs i _ hzi, hf rfl, List.append_nil]
      exact l5
    | true =>
      obtain ⟨y, hy, hel⟩ := ht rfl
      intro s0 H0 c cl fp
      refine hel s0 H0 c cl fp (C4 s0 H0 c cl fp) (Dd :: L) σ4 H5 _ (dm3.mono s5) (I4.mono (hid_mono s5)) fun u H6 s6 iu => ?_
      refine ⟨acc, s6 _ _ hacc5, ?_, ?_, acc ++ [u], upd_same, ?_⟩
      · have h1 := lacc.length
        have h2 := filterMap_len out (zs.take i)
        have h3 : (zs.take i).length ≤ zs.length := List.length_take_le' ..
        omega
      · intro a o ho
        have ha : a ≠ Dd := ne_of_none ho hD
        rw [upd_ne ha]
        exact s6 _ _ (s5 _ _ (s3 _ _ (s2 _ _ ho)))
      · rw [hid_upd List.mem_cons_self, mem_snoc out zs i _ hzi, hy]
        exact isL_snoc (l5.mono (hid_mono s6)) iu
  · have e : i = zs.length := by omega
    subst e
    refine .inl ⟨by have := W.stop (Dd :: L) H2 w2; rw [hlen] at this; exact this, ?_⟩
    rw [List.take_length] at lacc
    exact q Dd acc H2 (Same.free s1 hD) (s1.trans s2) hacc lacc
section
variable {X : Cx} {elt tg iter : Expr} {ifs : List Expr} {scope : Scope} {r : Rho} {es : List D} {pos : Pos}
theorem fx_lc (h : LCX X elt tg iter ifs scope r es) (hs : ∀ x, foldedSetIterable iter X.env x = pure x) : FX X (.ListComp elt [⟨tg, iter, ifs, 0⟩] scope pos) r es := by
  constructor
  intro C L σ H Q dm I q
  obtain ⟨own, wi, g, tt, te, hi, ok, hg, ht, he, run⟩ := h.ex
  exact we_of (pe_lc C.calm C.nd hi ok hg ht he hs) (run C L σ H Q dm I q)
/-- the comprehension that goes to a name, as it is stored -/
def SLXd (X : Cx) (y : Str) (py : Pos) (e : Expr) (spos : Pos) (r : Rho) (es : List D) : Prop := CxN X r →
  ∀ (i : Nat) (L : List Addr) (σ : L2.St) (H : Hp) (E : Ends), X.N[i]? = some y → Dom L H → IsE X.K (hid H L) σ r → (∀ p xs H', H p = none → Same H H' → H' p = some (.lst xs) → IsL X.K (hid H' (p :: L)) xs es → E.nx (σ.set i (some (.ref p))) H') → W1 X (.Assign [.Name y py] e spos) E σ H
structure SLX (X : Cx) (y : Str) (py : Pos) (e : Expr) (spos : Pos) (r : Rho) (es : List D) : Prop where mk ::
  run : SLXd X y py e spos r es
instance {X : Cx} {y : Str} {py : Pos} {e : Expr} {spos : Pos} {r : Rho} {es : List D}  : CoeFun (SLX X y py e spos r es) (fun _ => SLXd X y py e spos r es) := ⟨SLX.run⟩
theorem slx_lc {y : Str} {py spos : Pos} (h : LCX X elt tg iter ifs scope r es) (hs : ∀ x, foldedSetIterable iter X.env x = pure x) (hyl : X.env.scope.names.lookup y = some .local)
    (hsw : swapsWith (.ListComp elt [⟨tg, iter, ifs, 0⟩] scope pos) (some (.Name y py)) spos.line X.env = pure true) : SLX X y py (.ListComp elt [⟨tg, iter, ifs, 0⟩] scope pos) spos r es := by
  constructor
  intro C i L σ H E hy dm I q
  obtain ⟨own, wi, g, tt, te, hi, ok, hg, ht, he, run⟩ := h.ex
  exact w1_of (ps_setLc C.calm C.nd hy hyl hsw hi ok hg ht he hs) (run C L σ H _ dm I q)
/-- any other expression of a new list that goes to a name -/
theorem slx_fx {y : Str} {py spos : Pos} {e : Expr} (h : FX X e r es) (hx : Loc X.env.scope y) (hs : swapsWith e (some (.Name y py)) spos.line X.env = pure false) (hf : X.fn y = true ∨ X.env.scope.names.lookup y = some .local) : SLX X y py e spos r es := by
  constructor
  intro C i L σ H E hy dm I q
  refine w1_of (ps_set C.nd hy hx (pe_w X e) hs hf) ?_
  exact h C L σ H _ dm I fun p xs H' n s hp hl => q p xs H' n s hp hl
end
end SB
namespace SB
set_option maxRecDepth 100000
open PySem PySem.Spec PyProof.Rows L2

/-! ### slots that own their lists -/
inductive Ev where
  | u | d (x : D) | o (ds : List D) | k (ks : List Key) (ds : List D)
abbrev Env' := List (Str × Ev)
/-- what may be read: all | all but the owned -/
def rdE : Ev → Option D
  | .u => none
  | .d x => some x
  | .o ds => some (.lst ds)
  | .k ks ds => some (.dk ks ds)
def hdE : Ev → Option D
  | .d x => some x
  | _ => none
def rd (e : Env') : Rho := e.map fun p => (p.1, rdE p.2)
def hd' (e : Env') : Rho := e.map fun p => (p.1, hdE p.2)
inductive Ow (K : PySem.W.Frag) (G H : Hp) : L2.St → Env' → List Addr → Prop
  | nil : Ow K G H [] [] []
  | u {x : Option V} {n : Str} {σ : L2.St} {e : Env'} {A : List Addr} : Ow K G H σ e A → Ow K G H (x :: σ) ((n, .u) :: e) A
  | d {v : V} {x : D} {n : Str} {σ : L2.St} {e : Env'} {A : List Addr} : Is K G v x → Ow K G H σ e A → Ow K G H (some v :: σ) ((n, .d x) :: e) A
  | o {a : Addr} {xs : List V} {ds : List D} {n : Str} {σ : L2.St} {e : Env'} {A : List Addr} : H a = some (.lst xs) → IsL K G xs ds → Ow K G H σ e A → Ow K G H (some (.ref a) :: σ) ((n, .o ds) :: e) (a :: A)
  | kd {a : Addr} {vs : List V} {ks : List Key} {ds : List D} {n : Str} {σ : L2.St} {e : Env'} {A : List Addr} : H a = some (.dK (ks.zip vs)) → ks.length = vs.length → IsL K G vs ds → Ow K G H σ e A → Ow K G H (some (.ref a) :: σ) ((n, .k ks ds) :: e) (a :: A)
/-- what may be owned -/
def Mut (o : HO) : Prop := (∃ xs, o = .lst xs) ∨ ∃ kvs, o = .dK kvs
section
variable {K : PySem.W.Frag} {G G' H H' : Hp}
theorem Ow.mono (eg : Same G G') : ∀ {σ : L2.St} {e : Env'} {A : List Addr}, Ow K G H σ e A → (∀ a ∈ A, ∀ o, H a = some o → H' a = some o) → Ow K G' H' σ e A
  | _, _, _, .nil, _ => .nil
  | _, _, _, .u t, k => .u (t.mono eg k)
  | _, _, _, .d h t, k => .d (h.mono eg) (t.mono eg k)
  | _, _, _, .o h l t, k => .o (k _ List.mem_cons_self _ h) (l.mono eg) (t.mono eg fun a ha => k a (List.mem_cons_of_mem _ ha))
  | _, _, _, .kd h z l t, k => .kd (k _ List.mem_cons_self _ h) z (l.mono eg) (t.mono eg fun a ha => k a (List.mem_cons_of_mem _ ha))
/-- mode one: the owned are not read -/
theorem Ow.hd : ∀ {σ : L2.St} {e : Env'} {A : List Addr}, Ow K G H σ e A → IsE K G σ (hd' e)
  | _, _, _, .nil => .nil
  | _, _, _, .u t => .any t.hd
  | _, _, _, .d h t => .val h t.hd
  | _, _, _, .o _ _ t => .any t.hd
  | _, _, _, .kd _ _ _ t => .any t.hd
/-- mode two: all is read, in a heap that shows the owned -/
theorem Ow.rd {A0 : List Addr} (eg : Same G G') (eh : ∀ a o, H a = some o → a ∈ A0 → G' a = some o) : ∀ {σ : L2.St} {e : Env'} {A : List Addr}, Ow K G H σ e A → (∀ a ∈ A, a ∈ A0) → IsE K G' σ (SB.rd e)
  | _, _, _, .nil, _ => .nil
  | _, _, _, .u t, k => .any (t.rd eg eh k)
  | _, _, _, .d h t, k => .val (h.mono eg) (t.rd eg eh k)
  | _, _, _, .o h l t, k => .val (.lst (eh _ _ h (k _ List.mem_cons_self)) (l.mono eg)) (t.rd eg eh fun a ha => k a (List.mem_cons_of_mem _ ha))
  | _, _, _, .kd h z l t, k => .val (.dk (eh _ _ h (k _ List.mem_cons_self)) z (l.mono eg)) (t.rd eg eh fun a ha => k a (List.mem_cons_of_mem _ ha))
theorem Ow.domM : ∀ {σ : L2.St} {e : Env'} {A : List Addr}, Ow K G H σ e A → ∀ a ∈ A, ∃ o, H a = some o ∧ Mut o
  | _, _, _, .nil, a, h => by simp at h
  | _, _, _, .u t, a, h => t.domM a h
  | _, _, _, .d _ t, a, h => t.domM a h
  | _, _, _, .o h _ t, a, m => by
    rcases List.mem_cons.mp m with e | m
    · exact ⟨_, e ▸ h, .inl ⟨_, rfl⟩⟩
    · exact t.domM a m
  | _, _, _, .kd h _ _ t, a, m => by
    rcases List.mem_cons.mp m with e | m
    · exact ⟨_, e ▸ h, .inr ⟨_, rfl⟩⟩
    · exact t.domM a m
theorem Ow.dom {σ : L2.St} {e : Env'} {A : List Addr} (t : Ow K G H σ e A) (a : Addr) (h : a ∈ A) : ∃ o, H a = some o := let ⟨q, z, _⟩ := t.domM a h; ⟨q, z⟩
end
/-- x gets ev; i its place; b: the address list behind (old owned left out) -/
inductive UpE : Env' → Str → Ev → Env' → Nat → Prop
  | here {x : Str} {o o' : Ev} {r : Env'} : UpE ((x, o) :: r) x o' ((x, o') :: r) 0
  | next {x : Str} {o' : Ev} {r r' : Env'} {p : Str × Ev} {i : Nat} : UpE r x o' r' i → UpE (p :: r) x o' (p :: r') (i + 1)
theorem UpE.names : ∀ {r r' : Env'} {x : Str} {o : Ev} {i : Nat}, UpE r x o r' i → r'.map (·.1) = r.map (·.1)
  | _, _, _, _, _, .here => rfl
  | _, _, _, _, _, .next w => by rw [List.map_cons, List.map_cons, UpE.names w]
theorem UpE.ix : ∀ {r r' : Env'} {x : Str} {o : Ev} {i : Nat}, UpE r x o r' i → (r.map (·.1))[i]? = some x
  | _, _, _, _, _, .here => rfl
  | _, _, _, _, _, .next w => by simpa using UpE.ix w
theorem UpE.mem : ∀ {r r' : Env'} {x : Str} {o : Ev} {i : Nat}, UpE r x o r' i → ∀ p ∈ r', p ∈ r ∨ p = (x, o)
  | _, _, _, _, _, .here, p, h => by
    rcases List.mem_cons.mp h with e | h
    · exact .inr e
    · exact .inl (List.mem_cons_of_mem _ h)
  | _, _, _, _, _, .next w, p, h => by
    rcases List.mem_cons.mp h with e | h
    · exact .inl (e ▸ List.mem_cons_self)
    · exact (UpE.mem w p h).imp (List.mem_cons_of_mem _) id
/-- a value comes to a slot: what it owned is left -/
theorem Ow.setd {K : PySem.W.Frag} {G H : Hp} {v : V} {x : D} (h : Is K G v x) : ∀ {σ : L2.St} {e e' : Env'} {A : List Addr} {n : Str} {i : Nat}, Ow K G H σ e A → UpE e n (.d x) e' i → ∃ A', (A'.Sublist A) ∧ Ow K G H (σ.set i (some v)) e' A'
  | _, _, _, _, _, _, .u t, .here => ⟨_, List.Sublist.refl _, .d h t⟩
  | _, _, _, _, _, _, .d _ t, .here => ⟨_, List.Sublist.refl _, .d h t⟩
  | _, _, _, _, _, _, .o _ _ t, .here => ⟨_, List.sublist_cons_self _ _, .d h t⟩
  | _, _, _, _, _, _, .kd _ _ _ t, .here => ⟨_, List.sublist_cons_self _ _, .d h t⟩
  | _, _, _, _, _, _, .u t, .next w => let ⟨A', s, z⟩ := Ow.setd h t w; ⟨A', s, .u z⟩
  | _, _, _, _, _, _, .d g t, .next w => let ⟨A', s, z⟩ := Ow.setd h t w; ⟨A', s, .d g z⟩
  | _, _, _, _, _, _, .o g l t, .next w => let ⟨A', s, z⟩ := Ow.setd h t w; ⟨_ :: A', s.cons₂ _, .o g l z⟩
  | _, _, _, _, _, _, .kd g q l t, .next w => let ⟨A', s, z⟩ := Ow.setd h t w; ⟨_ :: A', s.cons₂ _, .kd g q l z⟩
/-- a new list comes to a slot -/
theorem Ow.seto {K : PySem.W.Frag} {G H : Hp} {a : Addr} {xs : List V} {ds : List D} (h : H a = some (.lst xs)) (l : IsL K G xs ds) : ∀ {σ : L2.St} {e e' : Env'} {A : List Addr} {n : Str} {i : Nat}, Ow K G H σ e A → a ∉ A → A.Nodup → UpE e n (.o ds) e' i →
    ∃ A', (∀ b ∈ A', b ∈ A ∨ b = a) ∧ A'.Nodup ∧ Ow K G H (σ.set i (some (.ref a))) e' A'
  | _, _, _, _, _, _, .u t, m, nd, .here => ⟨_ :: _, fun b hb => (List.mem_cons.mp hb).symm, List.nodup_cons.mpr ⟨m, nd⟩, .o h l t⟩
  | _, _, _, _, _, _, .d _ t, m, nd, .here => ⟨_ :: _, fun b hb => (List.mem_cons.mp hb).symm, List.nodup_cons.mpr ⟨m, nd⟩, .o h l t⟩
  | _, _, _, _, _, _, .o _ _ t, m, nd, .here => ⟨_ :: _, fun b hb => (List.mem_cons.mp hb).elim .inr fun z => .inl (List.mem_cons_of_mem _ z), List.nodup_cons.mpr ⟨fun z => m (List.mem_cons_of_mem _ z), (List.nodup_cons.mp nd).2⟩, .o h l t⟩
  | _, _, _, _, _, _, .kd _ _ _ t, m, nd, .here => ⟨_ :: _, fun b hb => (List.mem_cons.mp hb).elim .inr fun z => .inl (List.mem_cons_of_mem _ z), List.nodup_cons.mpr ⟨fun z => m (List.mem_cons_of_mem _ z), (List.nodup_cons.mp nd).2⟩, .o h l t⟩
  | _, _, _, _, _, _, .u t, m, nd, .next w => let ⟨A', s, n, z⟩ := Ow.seto h l t m nd w; ⟨A', s, n, .u z⟩
  | _, _, _, _, _, _, .d g t, m, nd, .next w => let ⟨A', s, n, z⟩ := Ow.seto h l t m nd w; ⟨A', s, n, .d g z⟩
  | _, _, _, _, _, _, .o (a := b) g k t, m, nd, .next w => by
    obtain ⟨n1, n2⟩ := List.nodup_cons.mp nd
    obtain ⟨A', s, n, ow⟩ := Ow.seto h l t (fun z => m (List.mem_cons_of_mem _ z)) n2 w
    refine ⟨b :: A', fun c hc => ?_, List.nodup_cons.mpr ⟨fun z => ?_, n⟩, .o g k ow⟩
    · rcases List.mem_cons.mp hc with e | hc
      · exact .inl (e ▸ List.mem_cons_self)
      · exact (s c hc).imp (List.mem_cons_of_mem _) id
    · rcases s b z with z | z
      · exact n1 z
      · exact m (z ▸ List.mem_cons_self)
  | _, _, _, _, _, _, .kd (a := b) g q k t, m, nd, .next w => by
    obtain ⟨n1, n2⟩ := List.nodup_cons.mp nd
    obtain ⟨A', s, n, ow⟩ := Ow.seto h l t (fun z => m (List.mem_cons_of_mem _ z)) n2 w
    refine ⟨b :: A', fun c hc => ?_, List.nodup_cons.mpr ⟨fun z => ?_, n⟩, .kd g q k ow⟩
    · rcases List.mem_cons.mp hc with e | hc
      · exact .inl (e ▸ List.mem_cons_self)
      · exact (s c hc).imp (List.mem_cons_of_mem _) id
    · rcases s b z with z | z
      · exact n1 z
      · exact m (z ▸ List.mem_cons_self)
/-- a new dict comes to a slot -/
theorem Ow.setk {K : PySem.W.Frag} {G H : Hp} {a : Addr} {vs : List V} {ks : List Key} {ds : List D} (h : H a = some (.dK (ks.zip vs))) (hz : ks.length = vs.length) (l : IsL K G vs ds) : ∀ {σ : L2.St} {e e' : Env'} {A : List Addr} {n : Str} {i : Nat}, Ow K G H σ e A → a ∉ A → A.Nodup → UpE e n (.k ks ds) e' i →
    ∃ A', (∀ b ∈ A', b ∈ A ∨ b = a) ∧ A'.Nodup ∧ Ow K G H (σ.set i (some (.ref a))) e' A'
  | _, _, _, _, _, _, .u t, m, nd, .here => ⟨_ :: _, fun b hb => (List.mem_cons.mp hb).symm, List.nodup_cons.mpr ⟨m, nd⟩, .kd h hz l t⟩
  | _, _, _, _, _, _, .d _ t, m, nd, .here => ⟨_ :: _, fun b hb => (List.mem_cons.mp hb).symm, List.nodup_cons.mpr ⟨m, nd⟩, .kd h hz l t⟩
  | _, _, _, _, _, _, .o _ _ t, m, nd, .here => ⟨_ :: _, fun b hb => (List.mem_cons.mp hb).elim .inr fun z => .inl (List.mem_cons_of_mem _ z), List.nodup_cons.mpr ⟨fun z => m (List.mem_cons_of_mem _ z), (List.nodup_cons.mp nd).2⟩, .kd h hz l t⟩
  | _, _, _, _, _, _, .kd _ _ _ t, m, nd, .here => ⟨_ :: _, fun b hb => (List.mem_cons.mp hb).elim .inr fun z => .inl (List.mem_cons_of_mem _ z), List.nodup_cons.mpr ⟨fun z => m (List.mem_cons_of_mem _ z), (List.nodup_cons.mp nd).2⟩, .kd h hz l t⟩
  | _, _, _, _, _, _, .u t, m, nd, .next w => let ⟨A', s, n, z⟩ := Ow.setk h hz l t m nd w; ⟨A', s, n, .u z⟩
  | _, _, _, _, _, _, .d g t, m, nd, .next w => let ⟨A', s, n, z⟩ := Ow.setk h hz l t m nd w; ⟨A', s, n, .d g z⟩
  | _, _, _, _, _, _, .o (a := b) g k t, m, nd, .next w => by
    obtain ⟨n1, n2⟩ := List.nodup_cons.mp nd
    obtain ⟨A', s, n, ow⟩ := Ow.setk h hz l t (fun z => m (List.mem_cons_of_mem _ z)) n2 w
    refine ⟨b :: A', fun c hc => ?_, List.nodup_cons.mpr ⟨fun z => ?_, n⟩, .o g k ow⟩
    · rcases List.mem_cons.mp hc with e | hc
      · exact .inl (e ▸ List.mem_cons_self)
      · exact (s c hc).imp (List.mem_cons_of_mem _) id
    · rcases s b z with z | z
      · exact n1 z
      · exact m (z ▸ List.mem_cons_self)
  | _, _, _, _, _, _, .kd (a := b) g q k t, m, nd, .next w => by
    obtain ⟨n1, n2⟩ := List.nodup_cons.mp nd
    obtain ⟨A', s, n, ow⟩ := Ow.setk h hz l t (fun z => m (List.mem_cons_of_mem _ z)) n2 w
    refine ⟨b :: A', fun c hc => ?_, List.nodup_cons.mpr ⟨fun z => ?_, n⟩, .kd g q k ow⟩
    · rcases List.mem_cons.mp hc with e | hc
      · exact .inl (e ▸ List.mem_cons_self)
      · exact (s c hc).imp (List.mem_cons_of_mem _) id
    · rcases s b z with z | z
      · exact n1 z
      · exact m (z ▸ List.mem_cons_self)
/-- .. looked up and changed -/
inductive LkU : Env' → Str → List D → List D → Env' → Nat → Prop
  | here {x : Str} {ds es : List D} {r : Env'} : LkU ((x, .o ds) :: r) x ds es ((x, .o es) :: r) 0
  | next {x : Str} {ds es : List D} {r r' : Env'} {p : Str × Ev} {i : Nat} : LkU r x ds es r' i → LkU (p :: r) x ds es (p :: r') (i + 1)
theorem LkU.names : ∀ {r r' : Env'} {x : Str} {ds es : List D} {i : Nat}, LkU r x ds es r' i → r'.map (·.1) = r.map (·.1)
  | _, _, _, _, _, _, .here => rfl
  | _, _, _, _, _, _, .next w => by rw [List.map_cons, List.map_cons, LkU.names w]
theorem LkU.ix : ∀ {r r' : Env'} {x : Str} {ds es : List D} {i : Nat}, LkU r x ds es r' i → (r.map (·.1))[i]? = some x
  | _, _, _, _, _, _, .here => rfl
  | _, _, _, _, _, _, .next w => by simpa using LkU.ix w
theorem Ow.list {K : PySem.W.Frag} {G H : Hp} : ∀ {σ : L2.St} {e e' : Env'} {A : List Addr} {n : Str} {i : Nat} {ds es : List D}, Ow K G H σ e A → LkU e n ds es e' i → A.Nodup →
    ∃ a xs, a ∈ A ∧ σ[i]? = some (some (.ref a)) ∧ H a = some (.lst xs) ∧ IsL K G xs ds ∧
      ∀ {G' H' : Hp} {ys : List V}, Same G G' → (∀ b ∈ A, b ≠ a → ∀ o, H b = some o → H' b = some o) → H' a = some (.lst ys) → IsL K G' ys es → Ow K G' H' σ e' A
  | _, _, _, _, _, _, _, _, .o (a := a) (xs := xs) h l t, .here, nd => ⟨a, xs, List.mem_cons_self, rfl, h, l, fun sg k h' l' =>
      .o h' l' (t.mono sg fun b hb o ho => k b (List.mem_cons_of_mem _ hb) (fun e => (List.nodup_cons.mp nd).1 (e ▸ hb)) o ho)⟩
  | _, _, _, _, _, _, _, _, .u t, .next w, nd => by
    obtain ⟨a, xs, m, e, h, l, k⟩ := Ow.list t w nd
    exact ⟨a, xs, m, by simpa using e, h, l, fun sg k1 h' l' => .u (k sg k1 h' l')⟩
  | _, _, _, _, _, _, _, _, .d g t, .next w, nd => by
    obtain ⟨a, xs, m, e, h, l, k⟩ := Ow.list t w nd
    exact ⟨a, xs, m, by simpa using e, h, l, fun sg k1 h' l' => .d (g.mono sg) (k sg k1 h' l')⟩
  | _, _, _, _, _, _, _, _, .o (a := b) g gl t, .next w, nd => by
    obtain ⟨n1, n2⟩ := List.nodup_cons.mp nd
    obtain ⟨a, xs, m, e, h, l, k⟩ := Ow.list t w n2
    have hba : b ≠ a := fun z => n1 (z ▸ m)
    exact ⟨a, xs, List.mem_cons_of_mem _ m, by simpa using e, h, l, fun sg k1 h' l' =>
      .o (k1 b List.mem_cons_self hba _ g) (gl.mono sg) (k sg (fun c hc hca => k1 c (List.mem_cons_of_mem _ hc) hca) h' l')⟩
  | _, _, _, _, _, _, _, _, .kd (a := b) g q gl t, .next w, nd => by
    obtain ⟨n1, n2⟩ := List.nodup_cons.mp nd
    obtain ⟨a, xs, m, e, h, l, k⟩ := Ow.list t w n2
    have hba : b ≠ a := fun z => n1 (z ▸ m)
    exact ⟨a, xs, List.mem_cons_of_mem _ m, by simpa using e, h, l, fun sg k1 h' l' =>
      .kd (k1 b List.mem_cons_self hba _ g) q (gl.mono sg) (k sg (fun c hc hca => k1 c (List.mem_cons_of_mem _ hc) hca) h' l')⟩
/-- an owned dict is looked up and changed -/
inductive LkK : Env' → Str → List Key → List D → List Key → List D → Env' → Nat → Prop
  | here {x : Str} {ks ls : List Key} {ds es : List D} {r : Env'} : LkK ((x, .k ks ds) :: r) x ks ds ls es ((x, .k ls es) :: r) 0
  | next {x : Str} {ks ls : List Key} {ds es : List D} {r r' : Env'} {p : Str × Ev} {i : Nat} : LkK r x ks ds ls es r' i → LkK (p :: r) x ks ds ls es (p :: r') (i + 1)
theorem LkK.names : ∀ {r r' : Env'} {x : Str} {ks ls : List Key} {ds es : List D} {i : Nat}, LkK r x ks ds ls es r' i → r'.map (·.1) = r.map (·.1)
  | _, _, _, _, _, _, _, _, .here => rfl
  | _, _, _, _, _, _, _, _, .next w => by rw [List.map_cons, List.map_cons, LkK.names w]
theorem LkK.ix : ∀ {r r' : Env'} {x : Str} {ks ls : List Key} {ds es : List D} {i : Nat}, LkK r x ks ds ls es r' i → (r.map (·.1))[i]? = some x
  | _, _, _, _, _, _, _, _, .here => rfl
  | _, _, _, _, _, _, _, _, .next w => by simpa using LkK.ix w
theorem Ow.dict {K : PySem.W.Frag} {G H : Hp} : ∀ {σ : L2.St} {e e' : Env'} {A : List Addr} {n : Str} {i : Nat} {ks ls : List Key} {ds es : List D}, Ow K G H σ e A → LkK e n ks ds ls es e' i → A.Nodup →
    ∃ a vs, a ∈ A ∧ σ[i]? = some (some (.ref a)) ∧ H a = some (.dK (ks.zip vs)) ∧ ks.length = vs.length ∧ IsL K G vs ds ∧
      ∀ {G' H' : Hp} {ys : List V}, Same G G' → (∀ b ∈ A, b ≠ a → ∀ o, H b = some o → H' b = some o) → H' a = some (.dK (ls.zip ys)) → ls.length = ys.length → IsL K G' ys es → Ow K G' H' σ e' A
  | _, _, _, _, _, _, _, _, _, _, .kd (a := a) (vs := xs) h z l t, .here, nd => ⟨a, xs, List.mem_cons_self, rfl, h, z, l, fun sg k h' z' l' =>
      .kd h' z' l' (t.mono sg fun b hb o ho => k b (List.mem_cons_of_mem _ hb) (fun e => (List.nodup_cons.mp nd).1 (e ▸ hb)) o ho)⟩
  | _, _, _, _, _, _, _, _, _, _, .u t, .next w, nd => by
    obtain ⟨a, xs, m, e, h, z, l, k⟩ := Ow.dict t w nd
    exact ⟨a, xs, m, by simpa using e, h, z, l, fun sg k1 h' z' l' => .u (k sg k1 h' z' l')⟩
  | _, _, _, _, _, _, _, _, _, _, .d g t, .next w, nd => by
    obtain ⟨a, xs, m, e, h, z, l, k⟩ := Ow.dict t w nd
    exact ⟨a, xs, m, by simpa using e, h, z, l, fun sg k1 h' z' l' => .d (g.mono sg) (k sg k1 h' z' l')⟩
  | _, _, _, _, _, _, _, _, _, _, .o (a := b) g gl t, .next w, nd => by
    obtain ⟨n1, n2⟩ := List.nodup_cons.mp nd
    obtain ⟨a, xs, m, e, h, z, l, k⟩ := Ow.dict t w n2
    have hba : b ≠ a := fun z => n1 (z ▸ m)
    exact ⟨a, xs, List.mem_cons_of_mem _ m, by simpa using e, h, z, l, fun sg k1 h' z' l' =>
      .o (k1 b List.mem_cons_self hba _ g) (gl.mono sg) (k sg (fun c hc hca => k1 c (List.mem_cons_of_mem _ hc) hca) h' z' l')⟩
  | _, _, _, _, _, _, _, _, _, _, .kd (a := b) g q gl t, .next w, nd => by
    obtain ⟨n1, n2⟩ := List.nodup_cons.mp nd
    obtain ⟨a, xs, m, e, h, z, l, k⟩ := Ow.dict t w n2
    have hba : b ≠ a := fun z => n1 (z ▸ m)
    exact ⟨a, xs, List.mem_cons_of_mem _ m, by simpa using e, h, z, l, fun sg k1 h' z' l' =>
      .kd (k1 b List.mem_cons_self hba _ g) q (gl.mono sg) (k sg (fun c hc hca => k1 c (List.mem_cons_of_mem _ hc) hca) h' z' l')⟩
end SB
namespace SB
set_option maxRecDepth 100000
open PySem PySem.Spec PyProof.Rows L2

/-! ### data without lists and dicts -/
mutual
def Imm : D → Bool
  | .lst _ => false
  | .dk _ _ => false
  | .tpl ds => ImmL ds
  | .dm _ _ => false
  | .tup ds => ImmL ds
  | _ => true
def ImmL : List D → Bool
  | [] => true
  | d :: ds => Imm d && ImmL ds
end
/-- G' shows the tuples that G shows -/
def TupKeep (G G' : Hp) : Prop := ∀ a xs, (G a = some (.tup xs) → G' a = some (.tup xs)) ∧ ∀ o, G a = some (.frz o (.tup xs)) → G' a = some (.frz o (.tup xs))
theorem tk_t {K : PySem.W.Frag} {G G' : Hp} {a : Addr} {xs : List V} (e : TupKeep G G') (h : SqT K G a xs) : SqT K G' a xs := by
  rcases h with (h | ⟨o, h⟩) | h
  · exact .inl (.inl ((e _ _).1 h))
  · exact .inl (.inr ⟨o, (e _ _).2 o h⟩)
  · exact .inr h
mutual
theorem Is.imm {K : PySem.W.Frag} {G G' : Hp} {v : V} {d : D} (e : TupKeep G G') : Is K G v d → Imm d = true → Is K G' v d
  | .non, _ => .non
  | .bl b, _ => .bl b
  | .int b, _ => .int b
  | .str b, _ => .str b
  | .tup h l, n => .tup (tk_t e h) (IsL.imm e l n)
  | .lst _ _, n => by simp [Imm] at n
  | .dk _ _ _, n => by simp [Imm] at n
  | .tpl h z l, n => .tpl ((e _ _).2 _ h) z (IsL.imm e l n)
  | .dm _ _ _, n => by simp [Imm] at n
  | .adr a, _ => .adr a
theorem IsL.imm {K : PySem.W.Frag} {G G' : Hp} {vs : List V} {ds : List D} (e : TupKeep G G') : IsL K G vs ds → ImmL ds = true → IsL K G' vs ds
  | .nil, _ => .nil
  | .cons h t, n => by
    have n' : (Imm _ && ImmL _) = true := n
    rw [Bool.and_eq_true] at n'
    exact .cons (Is.imm e h n'.1) (IsL.imm e t n'.2)
end
theorem hide_lists' {H : Hp} {M L : List Addr} (h : ∀ a ∈ M, a ∈ L ∨ ∃ o, H a = some o ∧ Mut o) : TupKeep (hid H L) (hid H M) := by
  intro a xs
  have key : ∀ o, hid H L a = some o → ¬ Mut o → hid H M a = some o := fun o ho hn => by
    obtain ⟨h1, h2⟩ := hid_some ho
    refine hid_of h1 fun z => ?_
    rcases h a z with z | ⟨o', e, m⟩
    · exact h2 z
    · rw [e] at h1
      exact hn (Option.some.inj h1 ▸ m)
  exact ⟨fun e => key _ e (fun z => by rcases z with ⟨_, z⟩ | ⟨_, z⟩ <;> cases z), fun o e => key _ e (fun z => by rcases z with ⟨_, z⟩ | ⟨_, z⟩ <;> cases z)⟩
theorem hide_lists {H : Hp} {A L : List Addr} (h : ∀ a ∈ A, ∃ o, H a = some o ∧ Mut o) : TupKeep (hid H L) (hid H (A ++ L)) :=
  hide_lists' fun a ha => (List.mem_append.mp ha).elim (fun z => .inr (h a z)) .inl

/-- e gives a new dict -/
def FKXd (X : Cx) (e : Expr) (r : Rho) (ks : List Key) (ds : List D) : Prop := CxN X r →
  ∀ (L : List Addr) (σ : L2.St) (H : Hp) (Q : VK), Dom L H → IsE X.K (hid H L) σ r → (∀ p vs H', H p = none → Same H H' → H' p = some (.dK (ks.zip vs)) → ks.length = vs.length → IsL X.K (hid H' (p :: L)) vs ds → Q (.ref p) H') → WE X e σ H Q
structure FKX (X : Cx) (e : Expr) (r : Rho) (ks : List Key) (ds : List D) : Prop where mk ::
  run : FKXd X e r ks ds
/-! ### statements -/
inductive Out where
  | nx (e : Env') | rt (d : D) | rf (ds : List D) | rk (ks : List Key) (ds : List D)
def Fram (A : List Addr) (H H' : Hp) : Prop := ∀ a o, a ∉ A → H a = some o → H' a = some o
def Post (K : PySem.W.Frag) (L A : List Addr) (H : Hp) (E : Ends) : Out → Prop
  | .nx e => ∀ A' σ H', Fram A H H' → A'.Nodup → (∀ a ∈ A', a ∈ A ∨ H a = none) → Ow K (hid H' (A' ++ L)) H' σ e A' → E.nx σ H'
  | .rt d => ∀ v H', Fram A H H' → Is K (hid H' L) v d → E.rt v H'
  | .rf ds => ∀ p ys H', Fram A H H' → (p ∈ A ∨ H p = none) → H' p = some (.lst ys) → IsL K (hid H' (p :: L)) ys ds → E.rt (.ref p) H'
  | .rk ks ds => ∀ p vs H', Fram A H H' → (p ∈ A ∨ H p = none) → H' p = some (.dK (ks.zip vs)) → ks.length = vs.length → IsL K (hid H' (p :: L)) vs ds → E.rt (.ref p) H'
theorem Fram.refl (A : List Addr) (H : Hp) : Fram A H H := fun _ _ _ h => h
theorem Same.fram {A : List Addr} {H H' : Hp} (s : Same H H') : Fram A H H' := fun a o _ h => s a o h
theorem fram_next {A A1 : List Addr} {H H1 H' : Hp} (f : Fram A H H1) (m : ∀ a ∈ A1, a ∈ A ∨ H a = none) (g : Fram A1 H1 H') : Fram A H H' := fun a o n h =>
  g a o (fun z => by rcases m a z with z | z; exact n z; rw [h] at z; cases z) (f a o n h)
theorem own_next {A A1 A' : List Addr} {H H1 : Hp} (f : Fram A H H1) (m : ∀ a ∈ A1, a ∈ A ∨ H a = none) (m' : ∀ a ∈ A', a ∈ A1 ∨ H1 a = none) : ∀ a ∈ A', a ∈ A ∨ H a = none := fun a ha => by
  rcases m' a ha with z | z
  · exact m a z
  · by_cases h : a ∈ A
    · exact .inl h
    · cases q : H a with
      | none => exact .inr rfl
      | some o => rw [f a o h q] at z; cases z
theorem Post.next {K : PySem.W.Frag} {L A A1 : List Addr} {H H1 : Hp} {E : Ends} {o : Out} (f : Fram A H H1) (m : ∀ a ∈ A1, a ∈ A ∨ H a = none) (p : Post K L A H E o) : Post K L A1 H1 E o := by
  cases o with
  | nx e => exact fun A' σ H' g nd m' ow => p A' σ H' (fram_next f m g) nd (own_next f m m') ow
  | rt d => exact fun v H' g i => p v H' (fram_next f m g) i
  | rf ds => exact fun q ys H' g n h i => p q ys H' (fram_next f m g) (own_next (A' := [q]) f m (fun a ha => by rw [List.mem_singleton.mp ha]; exact n) q (by simp)) h i
  | rk ks ds => exact fun q ys H' g n h z i => p q ys H' (fram_next f m g) (own_next (A' := [q]) f m (fun a ha => by rw [List.mem_singleton.mp ha]; exact n) q (by simp)) h z i
theorem Post.ends {K : PySem.W.Frag} {L A : List Addr} {H : Hp} {E E' : Ends} {o : Out} (h : E'.rt = E.rt) (hn : ∀ e, o ≠ .nx e) (p : Post K L A H E o) : Post K L A H E' o := by
  cases o with
  | nx e => exact absurd rfl (hn e)
  | rt d => intro v H' f i; rw [h]; exact p v H' f i
  | rf ds => intro q ys H' f n h' i; rw [h]; exact p q ys H' f n h' i
  | rk ks ds => intro q ys H' f n h' z i; rw [h]; exact p q ys H' f n h' z i
def CxO (X : Cx) : Out → Prop
  | .nx e => CxN X (rd e)
  | _ => True
def S1d (X : Cx) (st : Stmt) (e : Env') (o : Out) : Prop := CxN X (rd e) → CxO X o ∧
  ∀ (L A : List Addr) (σ : L2.St) (H : Hp) (E : Ends), Dom L H → A.Nodup → (∀ a ∈ A, a ∉ L) → Ow X.K (hid H (A ++ L)) H σ e A → Post X.K L A H E o → W1 X st E σ H
structure S1 (X : Cx) (st : Stmt) (e : Env') (o : Out) : Prop where mk ::
  run : S1d X st e o
instance {X : Cx} {st : Stmt} {e : Env'} {o : Out}  : CoeFun (S1 X st e o) (fun _ => S1d X st e o) := ⟨S1.run⟩
def SXd (X : Cx) (sts : List Stmt) (e : Env') (o : Out) : Prop := CxN X (rd e) → CxO X o ∧
  ∀ (L A : List Addr) (σ : L2.St) (H : Hp) (E : Ends), Dom L H → A.Nodup → (∀ a ∈ A, a ∉ L) → Ow X.K (hid H (A ++ L)) H σ e A → Post X.K L A H E o → WS X sts E σ H
structure SX (X : Cx) (sts : List Stmt) (e : Env') (o : Out) : Prop where mk ::
  run : SXd X sts e o
instance {X : Cx} {sts : List Stmt} {e : Env'} {o : Out}  : CoeFun (SX X sts e o) (fun _ => SXd X sts e o) := ⟨SX.run⟩
theorem dom_next {A L : List Addr} {H H' : Hp} (dm : Dom L H) (n : ∀ a ∈ A, a ∉ L) (f : Fram A H H') : Dom L H' := fun a ha => by
  cases q : H a with
  | none => exact absurd q (dm a ha)
  | some o => rw [f a o (fun z => n a z ha) q]; simp
theorem apart_next {A A1 L : List Addr} {H : Hp} (dm : Dom L H) (n : ∀ a ∈ A, a ∉ L) (m : ∀ a ∈ A1, a ∈ A ∨ H a = none) : ∀ a ∈ A1, a ∉ L := fun a ha z => by
  rcases m a ha with q | q
  · exact n a q z
  · exact dm a z q
section
variable {X : Cx} {st : Stmt} {rest a b : List Stmt} {e e1 e' : Env'} {o : Out} {pos : Pos} {ex : Expr} {d : D} {ds : List D}
theorem sx_nil : SX X [] e (.nx e) := .mk fun C => ⟨C, fun L A σ H E dm nd nl ow p =>
  ws_of pss_nil (p A σ H (Fram.refl A H) nd (fun a ha => .inl ha) ow)⟩
theorem sx_cons (h1 : S1 X st e (.nx e1)) (h2 : SX X rest e1 o) : SX X (st :: rest) e o := by
  constructor
  intro C
  obtain ⟨C1, g1⟩ := h1 C
  obtain ⟨C2, g2⟩ := h2 C1
  refine ⟨C2, fun L A σ H E dm nd nl ow p => ?_⟩
  refine ws_cons (g1 L A σ H _ dm nd nl ow fun A1 σ1 H1 f nd1 m ow1 => ?_)
  exact g2 L A1 σ1 H1 E (dom_next dm nl f) nd1 (apart_next dm nl m) ow1 (p.next f m)
theorem sx_one (h1 : S1 X st e o) : SX X [st] e o := .mk fun C => ⟨(h1 C).1, fun L A σ H E dm nd nl ow p => ws_one ((h1 C).2 L A σ H E dm nd nl ow p)⟩
theorem sx_stop (h1 : S1 X st e o) (hn : ∀ e, o ≠ .nx e) : SX X (st :: rest) e o := .mk fun C => ⟨(h1 C).1, fun L A σ H E dm nd nl ow p =>
  ws_cons ((h1 C).2 L A σ H _ dm nd nl ow (Post.ends (E := E) rfl hn p))⟩
/-- what is read in mode two -/
theorem ow_rd {K : PySem.W.Frag} {H : Hp} {σ : L2.St} {A L : List Addr} (nl : ∀ a ∈ A, a ∉ L) (ow : Ow K (hid H (A ++ L)) H σ e A) : IsE K (hid H L) σ (rd e) :=
  Ow.rd (A0 := A) (fun a o h => hid_of (hid_some h).1 fun z => (hid_some h).2 (List.mem_append_right _ z)) (fun a xs h m => hid_of h (nl a m)) ow fun _ h => h
theorem hd_le : ∀ e : Env', Le (rd e) (hd' e)
  | [] => .nil
  | (n, .u) :: e => .any (hd_le e)
  | (n, .d x) :: e => .same (hd_le e)
  | (n, .o ds) :: e => .any (hd_le e)
  | (n, .k ks ds) :: e => .any (hd_le e)
theorem dom_own {K : PySem.W.Frag} {G H : Hp} {σ : L2.St} {A L : List Addr} (dm : Dom L H) (ow : Ow K G H σ e A) : Dom (A ++ L) H := fun a ha => by
  rcases List.mem_append.mp ha with z | z
  · obtain ⟨xs, h⟩ := ow.dom a z
    rw [h]; simp
  · exact dm a z
theorem s1_ret (h : EX X ex (rd e) d) : S1 X (.Return (some ex) pos) e (.rt d) := .mk fun C => ⟨trivial, fun L A σ H E dm nd nl ow p =>
  w1_of (ps_ret (pe_w X ex)) (h C L σ H _ dm (ow_rd nl ow) fun v H' s i => p v H' (Same.fram s) i)⟩
theorem s1_retf (h : FX X ex (rd e) ds) : S1 X (.Return (some ex) pos) e (.rf ds) := .mk fun C => ⟨trivial, fun L A σ H E dm nd nl ow p =>
  w1_of (ps_ret (pe_w X ex)) (h C L σ H _ dm (ow_rd nl ow) fun q xs H' n s hq i => p q xs H' (Same.fram s) (.inr n) hq i)⟩
theorem s1_retk {ks : List Key} (h : FKX X ex (rd e) ks ds) : S1 X (.Return (some ex) pos) e (.rk ks ds) := .mk fun C => ⟨trivial, fun L A σ H E dm nd nl ow p =>
  w1_of (ps_ret (pe_w X ex)) (h.run C L σ H _ dm (ow_rd nl ow) fun q xs H' n s hq z i => p q xs H' (Same.fram s) (.inr n) hq z i)⟩
theorem sub_hide {H : Hp} {A A' L : List Addr} (h : ∀ a ∈ A', a ∈ A) : Same (hid H (A ++ L)) (hid H (A' ++ L)) := fun a o ho =>
  hid_of (hid_some ho).1 fun z => (hid_some ho).2 ((List.mem_append.mp z).elim (fun q => List.mem_append_left _ (h a q)) fun q => List.mem_append_right _ q)
theorem LkK.known : ∀ {e e' : Env'} {x : Str} {ks ls : List Key} {ds es : List D} {i : Nat}, LkK e x ks ds ls es e' i → ∃ p ∈ rd e, p.1 = x ∧ p.2.isSome = true
  | _, _, _, _, _, _, _, _, .here => ⟨_, List.mem_cons_self, rfl, rfl⟩
  | _, _, _, _, _, _, _, _, .next w => let ⟨p, hp, h⟩ := LkK.known w; ⟨p, List.mem_cons_of_mem _ hp, h⟩
theorem LkU.known : ∀ {e e' : Env'} {x : Str} {ds es : List D} {i : Nat}, LkU e x ds es e' i → ∃ p ∈ rd e, p.1 = x ∧ p.2.isSome = true
  | _, _, _, _, _, _, .here => ⟨_, List.mem_cons_self, rfl, rfl⟩
  | _, _, _, _, _, _, .next w => let ⟨p, hp, h⟩ := LkU.known w; ⟨p, List.mem_cons_of_mem _ hp, h⟩
/-- the owned list of a name is handed back -/
theorem s1_reto {x : Str} {i : Nat} {p : Pos} (w : LkU e x ds ds e i) : S1 X (.Return (some (.Name x p)) pos) e (.rf ds) := .mk fun C => ⟨trivial, fun L A σ H E dm nd nl ow q => by
  obtain ⟨a, xs, m, hi, h, l, k⟩ := ow.list w nd
  have hN : X.N[i]? = some x := by
    rw [C.names]
    have := w.ix
    unfold rd
    rw [List.map_map]
    exact this
  have hm : x ∈ X.N := List.mem_of_getElem? hN
  have hv : Vis X.env.scope x := by
    obtain ⟨p, hp, rfl, hs⟩ := w.known
    exact C.vis p hp hs
  refine w1_of (ps_ret (pe_var hN hv (C.dbg _ hm).1 (C.dbg _ hm).2)) ⟨_, hi, ?_⟩
  refine q a xs H (Fram.refl A H) (.inl m) h (l.mono fun b o hb => hid_of (hid_some hb).1 fun z => (hid_some hb).2 ?_)
  rcases List.mem_cons.mp z with z | z
  · exact List.mem_append_left _ (z ▸ m)
  · exact List.mem_append_right _ z⟩
/-- .. an owned dict -/
theorem s1_retko {ks : List Key} {x : Str} {i : Nat} {p : Pos} (w : LkK e x ks ds ks ds e i) : S1 X (.Return (some (.Name x p)) pos) e (.rk ks ds) := .mk fun C => ⟨trivial, fun L A σ H E dm nd nl ow q => by
  obtain ⟨a, xs, m, hi, h, z, l, k⟩ := ow.dict w nd
  have hN : X.N[i]? = some x := by
    rw [C.names]
    have := w.ix
    unfold rd
    rw [List.map_map]
    exact this
  have hm : x ∈ X.N := List.mem_of_getElem? hN
  have hv : Vis X.env.scope x := by
    obtain ⟨p, hp, rfl, hs⟩ := w.known
    exact C.vis p hp hs
  refine w1_of (ps_ret (pe_var hN hv (C.dbg _ hm).1 (C.dbg _ hm).2)) ⟨_, hi, ?_⟩
  refine q a xs H (Fram.refl A H) (.inl m) h z (l.mono fun b o hb => hid_of (hid_some hb).1 fun z => (hid_some hb).2 ?_)
  rcases List.mem_cons.mp z with z | z
  · exact List.mem_append_left _ (z ▸ m)
  · exact List.mem_append_right _ z⟩
end
end SB
namespace SB
set_option maxRecDepth 100000
open PySem PySem.Spec PyProof.Rows L2

theorem rd_names (e : Env') : (rd e).map (·.1) = e.map (·.1) := by unfold rd; rw [List.map_map]; rfl
theorem rd_up : ∀ {e e' : Env'} {x : Str} {v : Ev} {i : Nat}, UpE e x v e' i → Up (rd e) x (rdE v) (rd e') i
  | _, _, _, _, _, .here => .here
  | _, _, _, _, _, .next w => .next (rd_up w)
theorem LkU.up : ∀ {e e' : Env'} {x : Str} {ds es : List D} {i : Nat}, LkU e x ds es e' i → Up (rd e) x (some (.lst es)) (rd e') i
  | _, _, _, _, _, _, .here => .here
  | _, _, _, _, _, _, .next w => .next (LkU.up w)
section
variable {X : Cx} {st : Stmt} {rest a b : List Stmt} {e e1 e2 e' : Env'} {o : Out} {pos apos cpos p' : Pos} {ex ix c : Expr} {d : D} {ds es : List D} {x : Str} {i : Nat} {k : Bool}
theorem vis_of_loc {sc : Scope} {x : Str} (h : Loc sc x) : Vis sc x := by rcases h with h | h; exact .inl h; exact .inr (.inl h)
/-- x = e, mode one -/
theorem s1_set1 (h : EX X ex (hd' e) d) (w : UpE e x (.d d) e' i) (hx : Loc X.env.scope x) (hs : swapsWith ex (some (.Name x p')) pos.line X.env = pure false) (hf : X.fn x = true ∨ X.env.scope.names.lookup x = some .local) : S1 X (.Assign [.Name x p'] ex pos) e (.nx e') := by
  constructor
  intro C
  have C' : CxN X (rd e') := C.up (rd_up w) (vis_of_loc hx)
  refine ⟨C', fun L A σ H E dm nd nl ow q => ?_⟩
  have hN : X.N[i]? = some x := by rw [C.names, rd_names]; exact w.ix
  refine w1_of (ps_set C.nd hN hx (pe_w X ex) hs hf) ?_
  refine h (C.le (hd_le e)) (A ++ L) σ H _ (dom_own dm ow) ow.hd fun v H1 s iv => ?_
  obtain ⟨A', sub, ow'⟩ := Ow.setd iv (ow.mono (hid_mono s) fun a _ o h => s a o h) w
  exact q A' _ H1 (Same.fram s) (sub.nodup nd) (fun a ha => .inl (sub.subset ha)) (ow'.mono (sub_hide fun a ha => sub.subset ha) fun a _ o h => h)
/-- x = e, mode two -/
theorem s1_set (h : EX X ex (rd e) d) (w : UpE e x (.d d) e' i) (im : Imm d = true) (hx : Loc X.env.scope x) (hs : swapsWith ex (some (.Name x p')) pos.line X.env = pure false) (hf : X.fn x = true ∨ X.env.scope.names.lookup x = some .local) : S1 X (.Assign [.Name x p'] ex pos) e (.nx e') := by
  constructor
  intro C
  have C' : CxN X (rd e') := C.up (rd_up w) (vis_of_loc hx)
  refine ⟨C', fun L A σ H E dm nd nl ow q => ?_⟩
  have hN : X.N[i]? = some x := by rw [C.names, rd_names]; exact w.ix
  refine w1_of (ps_set C.nd hN hx (pe_w X ex) hs hf) ?_
  refine h C L σ H _ dm (ow_rd nl ow) fun v H1 s iv => ?_
  have ow1 := ow.mono (hid_mono (L := A ++ L) s) (fun a _ o h => s a o h)
  have iv' := iv.imm (hide_lists (A := A) (L := L) fun a ha => ow1.domM a ha) im
  obtain ⟨A', sub, ow'⟩ := Ow.setd iv' ow1 w
  exact q A' _ H1 (Same.fram s) (sub.nodup nd) (fun a ha => .inl (sub.subset ha)) (ow'.mono (sub_hide fun a ha => sub.subset ha) fun a _ o h => h)
theorem own_new {L A : List Addr} {σ : L2.St} {H H1 : Hp} {E : Ends} {p : Addr} {xs : List V} (dm : Dom L H) (nd : A.Nodup) (nl : ∀ a ∈ A, a ∉ L) (ow : Ow X.K (hid H (A ++ L)) H σ e A) (w : UpE e x (.o ds) e' i) (n : H p = none) (s : Same H H1) (hp : H1 p = some (.lst xs))
    (l : IsL X.K (hid H1 (p :: (A ++ L))) xs ds) (q : Post X.K L A H E (.nx e')) : E.nx (σ.set i (some (.ref p))) H1 := by
  have ow1 : Ow X.K (hid H1 (p :: (A ++ L))) H1 σ e A := ow.mono (hid_new n s) (fun a _ o h => s a o h)
  have hpA : p ∉ A := fun z => by obtain ⟨ys, hy⟩ := ow.dom p z; rw [n] at hy; cases hy
  obtain ⟨A', m, nd', ow'⟩ := Ow.seto hp l ow1 hpA nd w
  refine q A' _ H1 (Same.fram s) nd' (fun a ha => (m a ha).imp id fun z => by rw [z]; exact n) (ow'.mono (fun b o hb => hid_of (hid_some hb).1 fun z => (hid_some hb).2 ?_) fun a _ o h => h)
  rcases List.mem_append.mp z with z | z
  · rcases m b z with z | z
    · exact List.mem_cons_of_mem _ (List.mem_append_left _ z)
    · exact z ▸ List.mem_cons_self
  · exact List.mem_cons_of_mem _ (List.mem_append_right _ z)
/-- x = a new list, kept as its own; mode two -/
theorem s1_seto (h : SLX X x p' ex pos (rd e) ds) (w : UpE e x (.o ds) e' i) (im : ImmL ds = true) (hx : Loc X.env.scope x) : S1 X (.Assign [.Name x p'] ex pos) e (.nx e') := by
  constructor
  intro C
  have C' : CxN X (rd e') := C.up (rd_up w) (vis_of_loc hx)
  refine ⟨C', fun L A σ H E dm nd nl ow q => ?_⟩
  have hN : X.N[i]? = some x := by rw [C.names, rd_names]; exact w.ix
  refine h C i L σ H E hN dm (ow_rd nl ow) fun p xs H1 n s hp l => ?_
  refine own_new dm nd nl ow w n s hp ((l.imm (hide_lists' fun a ha => ?_) im)) q
  have ow1 := ow.mono (hid_mono (L := A ++ L) s) (fun a _ o h => s a o h)
  rcases List.mem_cons.mp ha with z | z
  · exact .inl (z ▸ List.mem_cons_self)
  · rcases List.mem_append.mp z with z | z
    · exact .inr (ow1.domM a z)
    · exact .inl (List.mem_cons_of_mem _ z)
/-- x = a new list, kept as its own; mode one -/
theorem s1_seto1 (h : SLX X x p' ex pos (hd' e) ds) (w : UpE e x (.o ds) e' i) (hx : Loc X.env.scope x) : S1 X (.Assign [.Name x p'] ex pos) e (.nx e') := by
  constructor
  intro C
  have C' : CxN X (rd e') := C.up (rd_up w) (vis_of_loc hx)
  refine ⟨C', fun L A σ H E dm nd nl ow q => ?_⟩
  have hN : X.N[i]? = some x := by rw [C.names, rd_names]; exact w.ix
  refine h (C.le (hd_le e)) i (A ++ L) σ H E hN (dom_own dm ow) ow.hd fun p xs H1 n s hp l => ?_
  exact own_new dm nd nl ow w n s hp l q
/-- x = a new list that is not to be changed -/
theorem s1_setl (h : SLX X x p' ex pos (hd' e) ds) (w : UpE e x (.d (.lst ds)) e' i) (hx : Loc X.env.scope x) : S1 X (.Assign [.Name x p'] ex pos) e (.nx e') := by
  constructor
  intro C
  have C' : CxN X (rd e') := C.up (rd_up w) (vis_of_loc hx)
  refine ⟨C', fun L A σ H E dm nd nl ow q => ?_⟩
  have hN : X.N[i]? = some x := by rw [C.names, rd_names]; exact w.ix
  have dmA := dom_own dm ow
  refine h (C.le (hd_le e)) i (A ++ L) σ H E hN dmA ow.hd fun p xs H1 n s hp l => ?_
  have iv : Is X.K (hid H1 (A ++ L)) (.ref p) (.lst ds) := .lst (hid_of hp (dmA.fresh n)) (l.mono hid_cons)
  obtain ⟨A', sub, ow'⟩ := Ow.setd iv (ow.mono (hid_mono s) fun a _ o h => s a o h) w
  exact q A' _ H1 (Same.fram s) (sub.nodup nd) (fun a ha => .inl (sub.subset ha)) (ow'.mono (sub_hide fun a ha => sub.subset ha) fun a _ o h => h)
/-- x.append(e), mode two -/
theorem own_put {K : PySem.W.Frag} {L A : List Addr} {σ : L2.St} {H H1 : Hp} {p : Addr} {ys : List V} (dm : Dom L H) (nl : ∀ a ∈ A, a ∉ L) (m : p ∈ A) (s : Same H H1) : Fram A H (upd H1 p (.lst ys)) := fun a o n h => by
  have hne : a ≠ p := fun z => n (by rw [z]; exact m)
  rw [upd_ne hne]; exact s a o h
theorem s1_append (w : LkU e x ds (ds ++ [d]) e' i) (h : EX X ex (rd e) d) (im : Imm d = true) (hz : ds.length < sizeLine) (hv : Vis X.env.scope x) (hbase : attributeBase (.Name x p') "append" X.env (eval (.Name x p') X.env) = eval (.Name x p') X.env)
    (hfew : ((backTo cpos (starEach [ex] X.env)).all (fun x => !x.1) && (backToKw cpos (keywordEach [] X.env)).all (fun x => x.1.isSome) && decide ([ex].length + ([] : List Keyword).length + (if ([] : List Keyword).isEmpty then 0 else 1) < 30)) = true)
    (hline : (apos.endLine == cpos.line) = true) (hs : starEach [ex] X.env = (false, eval ex X.env) :: starEach [] X.env) (hplain : (backTo cpos (starEach [] X.env)).any (·.1) = false) (hsw : swapsWith (.Call (.Attribute (.Name x p') "append" apos) [ex] [] cpos) none pos.line X.env = pure false) :
    S1 X (.Expr (.Call (.Attribute (.Name x p') "append" apos) [ex] [] cpos) pos) e (.nx e') := by
  constructor
  intro C
  have C' : CxN X (rd e') := C.up w.up hv
  refine ⟨C', fun L A σ H E dm nd nl ow q => ?_⟩
  obtain ⟨a, xs, m, hi, ha, l, k⟩ := ow.list w nd
  have hN : X.N[i]? = some x := by rw [C.names, rd_names]; exact w.ix
  have hm : x ∈ X.N := List.mem_of_getElem? hN
  refine w1_of (ps_expr (pe_bm PySem.F.plainAttrs_list PySem.F.slot_list_append PySem.F.type_list_append mt_append (pe_var hN hv (C.dbg _ hm).1 (C.dbg _ hm).2) (pa_cons (pe_w X ex) pa_nil hs) hbase hfew hline hs hplain) hsw) ?_
  refine ⟨.ref a, hi, .inl ⟨rfl, xs, .inl (.inl ha)⟩, ?_⟩
  refine h C L σ H _ dm (ow_rd nl ow) fun v H1 s iv => ?_
  have ow1 := ow.mono (hid_mono (L := A ++ L) s) (fun a _ o h => s a o h)
  have iv' := iv.imm (hide_lists (A := A) (L := L) fun a ha => ow1.domM a ha) im
  have ha1 := s _ _ ha
  refine ⟨a, xs, v, rfl, rfl, ha1, by rw [l.length]; exact hz, ?_⟩
  have hh : hid (upd H1 a (.lst (xs ++ [v]))) (A ++ L) = hid H1 (A ++ L) := hid_upd (List.mem_append_left _ m)
  refine q A σ _ (own_put (K := X.K) (σ := σ) dm nl m s) nd (fun b hb => .inl hb) ?_
  rw [hh]
  exact k (hid_mono s) (fun b hb hne o ho => by rw [upd_ne hne]; exact s b o ho) upd_same (isL_snoc (l.mono (hid_mono s)) iv')
/-- x.append(e), mode one -/
theorem s1_append1 (w : LkU e x ds (ds ++ [d]) e' i) (h : EX X ex (hd' e) d) (hz : ds.length < sizeLine) (hv : Vis X.env.scope x) (hbase : attributeBase (.Name x p') "append" X.env (eval (.Name x p') X.env) = eval (.Name x p') X.env)
    (hfew : ((backTo cpos (starEach [ex] X.env)).all (fun x => !x.1) && (backToKw cpos (keywordEach [] X.env)).all (fun x => x.1.isSome) && decide ([ex].length + ([] : List Keyword).length + (if ([] : List Keyword).isEmpty then 0 else 1) < 30)) = true)
    (hline : (apos.endLine == cpos.line) = true) (hs : starEach [ex] X.env = (false, eval ex X.env) :: starEach [] X.env) (hplain : (backTo cpos (starEach [] X.env)).any (·.1) = false) (hsw : swapsWith (.Call (.Attribute (.Name x p') "append" apos) [ex] [] cpos) none pos.line X.env = pure false) :
    S1 X (.Expr (.Call (.Attribute (.Name x p') "append" apos) [ex] [] cpos) pos) e (.nx e') := by
  constructor
  intro C
  have C' : CxN X (rd e') := C.up w.up hv
  refine ⟨C', fun L A σ H E dm nd nl ow q => ?_⟩
  obtain ⟨a, xs, m, hi, ha, l, k⟩ := ow.list w nd
  have hN : X.N[i]? = some x := by rw [C.names, rd_names]; exact w.ix
  have hm : x ∈ X.N := List.mem_of_getElem? hN
  refine w1_of (ps_expr (pe_bm PySem.F.plainAttrs_list PySem.F.slot_list_append PySem.F.type_list_append mt_append (pe_var hN hv (C.dbg _ hm).1 (C.dbg _ hm).2) (pa_cons (pe_w X ex) pa_nil hs) hbase hfew hline hs hplain) hsw) ?_
  refine ⟨.ref a, hi, .inl ⟨rfl, xs, .inl (.inl ha)⟩, ?_⟩
  refine h (C.le (hd_le e)) (A ++ L) σ H _ (dom_own dm ow) ow.hd fun v H1 s iv => ?_
  have ha1 := s _ _ ha
  refine ⟨a, xs, v, rfl, rfl, ha1, by rw [l.length]; exact hz, ?_⟩
  have hh : hid (upd H1 a (.lst (xs ++ [v]))) (A ++ L) = hid H1 (A ++ L) := hid_upd (List.mem_append_left _ m)
  refine q A σ _ (own_put (K := X.K) (σ := σ) dm nl m s) nd (fun b hb => .inl hb) ?_
  rw [hh]
  exact k (hid_mono s) (fun b hb hne o ho => by rw [upd_ne hne]; exact s b o ho) upd_same (isL_snoc (l.mono (hid_mono s)) iv)
/-- x.extend(e), mode two -/
theorem s1_extend (w : LkU e x ds (ds ++ es) e' i) (h : EX X ex (rd e) (.lst es)) (im : ImmL es = true) (hz : ds.length + es.length ≤ sizeLine) (hv : Vis X.env.scope x) (hbase : attributeBase (.Name x p') "extend" X.env (eval (.Name x p') X.env) = eval (.Name x p') X.env)
    (hfew : ((backTo cpos (starEach [ex] X.env)).all (fun x => !x.1) && (backToKw cpos (keywordEach [] X.env)).all (fun x => x.1.isSome) && decide ([ex].length + ([] : List Keyword).length + (if ([] : List Keyword).isEmpty then 0 else 1) < 30)) = true)
    (hline : (apos.endLine == cpos.line) = true) (hs : starEach [ex] X.env = (false, eval ex X.env) :: starEach [] X.env) (hplain : (backTo cpos (starEach [] X.env)).any (·.1) = false) (hsw : swapsWith (.Call (.Attribute (.Name x p') "extend" apos) [ex] [] cpos) none pos.line X.env = pure false) :
    S1 X (.Expr (.Call (.Attribute (.Name x p') "extend" apos) [ex] [] cpos) pos) e (.nx e') := by
  constructor
  intro C
  have C' : CxN X (rd e') := C.up w.up hv
  refine ⟨C', fun L A σ H E dm nd nl ow q => ?_⟩
  obtain ⟨a, xs, m, hi, ha, l, k⟩ := ow.list w nd
  have hN : X.N[i]? = some x := by rw [C.names, rd_names]; exact w.ix
  have hm : x ∈ X.N := List.mem_of_getElem? hN
  refine w1_of (ps_expr (pe_bm PySem.F.plainAttrs_list PySem.F.slot_list_extend PySem.F.type_list_extend mt_extend (pe_var hN hv (C.dbg _ hm).1 (C.dbg _ hm).2) (pa_cons (pe_w X ex) pa_nil hs) hbase hfew hline hs hplain) hsw) ?_
  refine ⟨.ref a, hi, .inl ⟨rfl, xs, .inl (.inl ha)⟩, ?_⟩
  refine h C L σ H _ dm (ow_rd nl ow) fun v H1 s iv => ?_
  have ow1 := ow.mono (hid_mono (L := A ++ L) s) (fun a _ o h => s a o h)
  obtain ⟨b, ys, rfl, hb, ly⟩ := is_lst iv
  have ly' := ly.imm (hide_lists (A := A) (L := L) fun a ha => ow1.domM a ha) im
  have ha1 := s _ _ ha
  refine ⟨a, b, xs, ys, rfl, rfl, ha1, hid_sub _ _ hb, by rw [l.length, ly.length]; exact hz, ?_⟩
  have hh : hid (upd H1 a (.lst (xs ++ ys))) (A ++ L) = hid H1 (A ++ L) := hid_upd (List.mem_append_left _ m)
  refine q A σ _ (own_put (K := X.K) (σ := σ) dm nl m s) nd (fun b hb => .inl hb) ?_
  rw [hh]
  exact k (hid_mono s) (fun b hb hne o ho => by rw [upd_ne hne]; exact s b o ho) upd_same ((l.mono (hid_mono s)).append ly')
/-- x[i] = e, mode two, e and i without lists -/
theorem s1_item {n : Int} {j : Nat} {sp : Pos} (w : LkU e x ds (ds.set j d) e' i) (h : EX X ex (rd e) d) (im : Imm d = true) (hix : EX X ix (rd e) (.int n)) (hj : ixN ds.length n = some j) (hv : Vis X.env.scope x)
    (hasg : ∀ v, assign (.Subscript (.Name x p') ix sp) X.env v = (do
      let ov ← holding [v] (eval (.Name x p') X.env)
      let iv ← holding [v, ov] (eval ix X.env)
      standAt sp
      holding [v, ov, iv] (setItem ov iv v)
      release [v, ov, iv] []))
    (hs : swapsWithSole [.Subscript (.Name x p') ix sp] ex pos.line X.env = pure false) (hw : swappedStores [.Subscript (.Name x p') ix sp] ex X.env = pure none) (h1 : (assignEach [.Subscript (.Name x p') ix sp] X.env).map (·.2) = [assign (.Subscript (.Name x p') ix sp) X.env]) :
    S1 X (.Assign [.Subscript (.Name x p') ix sp] ex pos) e (.nx e') := by
  constructor
  intro C
  have C' : CxN X (rd e') := C.up w.up hv
  refine ⟨C', fun L A σ H E dm nd nl ow q => ?_⟩
  obtain ⟨a, xs, m, hi, ha, l, k⟩ := ow.list w nd
  have hN : X.N[i]? = some x := by rw [C.names, rd_names]; exact w.ix
  have hm : x ∈ X.N := List.mem_of_getElem? hN
  refine w1_of (ps_asg (pe_w X ex) (pg_sub (pe_var hN hv (C.dbg _ hm).1 (C.dbg _ hm).2) (pe_w X ix) set_list hasg) hs hw h1) ?_
  refine h C L σ H _ dm (ow_rd nl ow) fun v H1 s iv => ?_
  have ow1 := ow.mono (hid_mono (L := A ++ L) s) (fun a _ o h => s a o h)
  refine ⟨.ref a, hi, ?_⟩
  refine hix C L σ H1 _ (dm.mono s) (ow_rd nl ow1) fun u H2 s2 iu => ?_
  have ow2 := ow1.mono (hid_mono (L := A ++ L) s2) (fun a _ o h => s2 a o h)
  have s12 := s.trans s2
  have iv' := (iv.mono (hid_mono s2)).imm (hide_lists (A := A) (L := L) fun a ha => ow2.domM a ha) im
  refine ⟨a, xs, n, j, rfl, is_int iu, s12 _ _ ha, by rw [l.length]; exact hj, ?_⟩
  have hh : hid (upd H2 a (.lst (xs.set j v))) (A ++ L) = hid H2 (A ++ L) := hid_upd (List.mem_append_left _ m)
  refine q A σ _ (own_put (K := X.K) (σ := σ) dm nl m s12) nd (fun b hb => .inl hb) ?_
  rw [hh]
  exact k (hid_mono s12) (fun b hb hne o ho => by rw [upd_ne hne]; exact s12 b o ho) upd_same ((l.mono (hid_mono s12)).set iv' j)
/-- if -/
theorem s1_if (hc : TX X c (rd e) k) (h1 : k = true → SX X a e o) (h2 : k = false → SX X b e o) : S1 X (.If c a b pos) e o := by
  constructor
  intro C
  refine ⟨?_, fun L A σ H E dm nd nl ow q => ?_⟩
  · cases k with
    | true => exact (h1 rfl C).1
    | false => exact (h2 rfl C).1
  · refine w1_of (ps_if (pt_w X c) (pss_w X a) (pss_w X b)) ?_
    refine hc C L σ H _ dm (ow_rd nl ow) fun H1 s => ?_
    have ow1 := ow.mono (hid_mono (L := A ++ L) s) (fun a _ o h => s a o h)
    have q1 : Post X.K L A H1 E o := q.next (Same.fram s) fun a ha => .inl ha
    cases k with
    | true => exact (h1 rfl C).2 L A σ H1 E (dm.mono s) nd nl ow1 q1
    | false => exact (h2 rfl C).2 L A σ H1 E (dm.mono s) nd nl ow1 q1
/-- if c: return .. -/
theorem sx_ifret (hc : TX X c (rd e) k) (hn : ∀ e, o ≠ .nx e) (h1 : k = true → SX X a e o) (h2 : k = false → SX X rest e o) : SX X (.If c a [] pos :: rest) e o := by
  cases k with
  | true => exact sx_stop (s1_if hc h1 fun z => by cases z) hn
  | false => exact sx_cons (s1_if hc (fun z => by cases z) fun _ => sx_nil) (h2 rfl)
theorem sx_if (hc : TX X c (rd e) k) (h1 : k = true → SX X a e (.nx e1)) (h2 : k = false → SX X b e (.nx e1)) (h3 : SX X rest e1 o) : SX X (.If c a b pos :: rest) e o := sx_cons (s1_if hc h1 h2) h3
end
end SB
namespace SB
set_option maxRecDepth 100000
open PySem PySem.Spec PyProof.Rows L2

/-! ### targets among slots that own -/
def GEd (X : Cx) (tg : Expr) (e : Env') (d : D) (e' : Env') : Prop := CxN X (rd e) → CxN X (rd e') ∧
  ∀ (L A : List Addr) (σ : L2.St) (H : Hp) (v : V) (Q : L2.St → Hp → Prop), A.Nodup → Ow X.K (hid H (A ++ L)) H σ e A → Is X.K (hid H (A ++ L)) v d →
    (∀ A' σ', A'.Sublist A → Ow X.K (hid H (A' ++ L)) H σ' e' A' → Q σ' H) → WG X tg v σ H Q
structure GE (X : Cx) (tg : Expr) (e : Env') (d : D) (e' : Env') : Prop where mk ::
  run : GEd X tg e d e'
instance {X : Cx} {tg : Expr} {e : Env'} {d : D} {e' : Env'}  : CoeFun (GE X tg e d e') (fun _ => GEd X tg e d e') := ⟨GE.run⟩
def GEsd (X : Cx) (ts : List Expr) (e : Env') (ds : List D) (e' : Env') : Prop := CxN X (rd e) → CxN X (rd e') ∧
  ∀ (L A : List Addr) (σ : L2.St) (H : Hp) (vs : List V) (Q : L2.St → Hp → Prop), A.Nodup → Ow X.K (hid H (A ++ L)) H σ e A → IsL X.K (hid H (A ++ L)) vs ds →
    (∀ A' σ', A'.Sublist A → Ow X.K (hid H (A' ++ L)) H σ' e' A' → Q σ' H) → WGs X ts vs σ H Q
structure GEs (X : Cx) (ts : List Expr) (e : Env') (ds : List D) (e' : Env') : Prop where mk ::
  run : GEsd X ts e ds e'
instance {X : Cx} {ts : List Expr} {e : Env'} {ds : List D} {e' : Env'}  : CoeFun (GEs X ts e ds e') (fun _ => GEsd X ts e ds e') := ⟨GEs.run⟩
section
variable {X : Cx} {e e1 e2 e' : Env'} {d : D} {ds ys : List D} {x : Str} {i : Nat} {pos : Pos} {t ex iter : Expr} {ts : List Expr} {body rest : List Stmt} {o : Out}
theorem ge_name (w : UpE e x (.d d) e' i) (hx : Loc X.env.scope x) (hf : X.fn x = true ∨ X.env.scope.names.lookup x = some .local) : GE X (.Name x pos) e d e' := by
  constructor
  intro C
  refine ⟨C.up (rd_up w) (vis_of_loc hx), fun L A σ H v Q nd ow iv q pins s u J rv => ?_⟩
  have hN : X.N[i]? = some x := by rw [C.names, rd_names]; exact w.ix
  obtain ⟨A', sub, ow'⟩ := Ow.setd iv ow w
  exact (pg_name C.nd hN hx hf).run pins s σ H v u Q J rv (q A' _ sub (ow'.mono (sub_hide fun a ha => sub.subset ha) fun a _ o h => h))
theorem ges_nil : GEs X [] e [] e := .mk fun C => ⟨C, fun L A σ H vs Q nd ow h q pins s us J rv => by
  cases h
  exact pgs_nil.run pins s σ H [] us Q J rv ⟨rfl, q A σ (List.Sublist.refl _) ow⟩⟩
theorem ges_cons (h1 : GE X t e d e1) (h2 : GEs X ts e1 ds e2) (hs : (assignEach (t :: ts) X.env).map (·.2) = assign t X.env :: (assignEach ts X.env).map (·.2)) : GEs X (t :: ts) e (d :: ds) e2 := by
  constructor
  intro C
  obtain ⟨C1, g1⟩ := h1 C
  obtain ⟨C2, g2⟩ := h2 C1
  refine ⟨C2, fun L A σ H vs Q nd ow h q pins s us J rv => ?_⟩
  cases h with
  | cons hv ht =>
    refine (pgs_cons (pg_w X t) (pgs_w X ts) hs).run pins s σ H _ us Q J rv ⟨_, _, rfl, ?_⟩
    refine g1 L A σ H _ _ nd ow hv fun A1 σ1 sub1 ow1 => ?_
    exact g2 L A1 σ1 H _ _ (sub1.nodup nd) ow1 (ht.mono (sub_hide fun a ha => sub1.subset ha)) fun A2 σ2 sub2 ow2 => q A2 σ2 (sub2.trans sub1) ow2
theorem ge_tup {k : Nat} (h : GEs X ts e ds e') (hn : (assignEach ts X.env).length = ds.length) (hst : (assignEach ts X.env).findIdx? (·.1) = none) : GE X (.Tuple ts k pos) e (.tup ds) e' := by
  constructor
  intro C
  obtain ⟨C1, g1⟩ := h C
  refine ⟨C1, fun L A σ H v Q nd ow iv q pins s u J rv => ?_⟩
  obtain ⟨a, xs, rfl, ha, l⟩ := is_tup iv
  exact (pg_tup (k := k) (pos := pos) C.calm (pgs_w X ts) hn hst).run pins s σ H _ u Q J rv ⟨a, xs, rfl, same_t hid_sub ha, l.length, g1 L A σ H xs _ nd ow l q⟩
/-- target = e, mode one -/
theorem s1_asg1 (h : EX X ex (hd' e) d) (g : GE X t e d e') (hs : swapsWithSole [t] ex pos.line X.env = pure false) (hw : swappedStores [t] ex X.env = pure none) (h1 : (assignEach [t] X.env).map (·.2) = [assign t X.env]) : S1 X (.Assign [t] ex pos) e (.nx e') := by
  constructor
  intro C
  obtain ⟨C1, g1⟩ := g C
  refine ⟨C1, fun L A σ H E dm nd nl ow q => ?_⟩
  refine w1_of (ps_asg (pe_w X ex) (pg_w X t) hs hw h1) ?_
  refine h (C.le (hd_le e)) (A ++ L) σ H _ (dom_own dm ow) ow.hd fun v H1 s iv => ?_
  refine g1 L A σ H1 v _ nd (ow.mono (hid_mono s) fun a _ o h => s a o h) iv fun A' σ' sub ow' => ?_
  exact q A' σ' H1 (Same.fram s) (sub.nodup nd) (fun a ha => .inl (sub.subset ha)) ow'
/-! ### loops -/
/-- the turns go from es k to es (k + 1); ahead of m none leaves -/
theorem for_core {tg : Expr} {hs : ∀ x, foldedSetIterable iter X.env x = pure x} (m : Nat) (es : Nat → Env') (hi : IX X tg iter (hd' (es 0)) ys) (hm : m ≤ ys.length)
    (turn : ∀ k d, k < m → ys[k]? = some d → ∃ e1, GE X tg (es k) d e1 ∧ SX X body e1 (.nx (es (k + 1))))
    (last : ∀ d, ys[m]? = some d → (∀ e, o ≠ .nx e) ∧ ∃ e1, GE X tg (es m) d e1 ∧ SX X body e1 o) (done : m = ys.length → SX X rest (es m) o) (hp : ∀ Y : Cx, PassesOwn (model Y.prog Y.w) Y.A Y.env Y.xe → True)
    (hpo : PassesOwn (model X.prog X.w) X.A X.env X.xe) : SX X (.For tg iter body [] pos :: rest) (es 0) o := by
  constructor
  intro C
  -- the contexts of all turns
  have CC : ∀ k, k ≤ m → CxN X (rd (es k)) := by
    intro k
    induction k with
    | zero => exact fun _ => C
    | succ k ih =>
      intro hk
      have hlt : k < ys.length := by omega
      obtain ⟨e1, g, b⟩ := turn k ys[k] (by omega) (List.getElem?_eq_getElem hlt)
      exact (b (g (ih (by omega))).1).1
  have Co : CxO X o := by
    by_cases h : m = ys.length
    · exact (done h (CC m (Nat.le_refl _))).1
    · have hlt : m < ys.length := by omega
      obtain ⟨_, e1, g, b⟩ := last ys[m] (List.getElem?_eq_getElem hlt)
      exact (b (g (CC m (Nat.le_refl _))).1).1
  refine ⟨Co, fun L A σ H E dm nd nl ow q => ?_⟩
  refine ws_cons (w1_of (ps_for hpo C.calm (pi_w X tg iter) (pg_w X tg) (pss_w X body) hs) ?_)
  have dmA := dom_own dm ow
  refine hi (C.le (hd_le _)) (A ++ L) σ H _ dmA ow.hd fun J H1 s1 W => ?_
  have ow1 : Ow X.K (hid H1 (A ++ L)) H1 σ (es 0) A := ow.mono (hid_mono s1) fun a _ o h => s1 a o h
  have dm1 : Dom L H1 := dm.mono s1
  have q1 : Post X.K L A H1 E o := q.next (Same.fram s1) fun a ha => .inl ha
  refine ⟨fun i k σ2 H2 => k = ys.length - i ∧ i ≤ m ∧ ∃ B, Fram A H1 H2 ∧ B.Nodup ∧ (∀ a ∈ B, a ∈ A ∨ H1 a = none) ∧ Ow X.K (hid H2 (B ++ L)) H2 σ2 (es i) B, ⟨ys.length, rfl, Nat.zero_le _, A, Fram.refl _ _, nd, fun a ha => .inl ha, ow1⟩, ?_⟩
  rintro i k σ2 H2 ⟨rfl, him, B, f, ndB, mB, owB⟩
  have nlB := apart_next dm1 nl mB
  have dmB := dom_next dm1 nl f
  have sw : Same (hid H1 (A ++ L)) (hid H2 (B ++ L)) := fun b o hb => by
    obtain ⟨h1, h2⟩ := hid_some hb
    refine hid_of (f b o (fun z => h2 (List.mem_append_left _ z)) h1) fun z => ?_
    rcases List.mem_append.mp z with z | z
    · rcases mB b z with z | z
      · exact h2 (List.mem_append_left _ z)
      · rw [z] at h1; cases h1
    · exact h2 (List.mem_append_right _ z)
  by_cases hil : i < ys.length
  · refine .inr ⟨W.go _ i H2 hil sw, ?_⟩
    have hyi : ys[i]? = some ys[i] := List.getElem?_eq_getElem hil
    have dmBL := dom_own dmB owB
    by_cases hlt : i < m
    · obtain ⟨e1, g, b⟩ := turn i ys[i] hlt hyi
      obtain ⟨C1, g1⟩ := g (CC i him)
      obtain ⟨_, b1⟩ := b C1
      refine ⟨fun σ' H' => (i + 1) ≤ m ∧ ∃ B, Fram A H1 H' ∧ B.Nodup ∧ (∀ a ∈ B, a ∈ A ∨ H1 a = none) ∧ Ow X.K (hid H' (B ++ L)) H' σ' (es (i + 1)) B, fun σ' H' h => ⟨ys.length - (i + 1), by omega, rfl, h⟩, fun x H3 y3 => ?_⟩
      obtain ⟨s3, ix⟩ := W.yld _ i H2 x H3 ys[i] dmBL sw hyi y3
      have ow3 : Ow X.K (hid H3 (B ++ L)) H3 σ2 (es i) B := owB.mono (hid_mono s3) fun a _ o h => s3 a o h
      refine g1 L B σ2 H3 x _ ndB ow3 ix fun B' σ4 sub ow4 => ?_
      have m4 : ∀ a ∈ B', a ∈ B ∨ H2 a = none := fun a ha => .inl (sub.subset ha)
      have f3 : Fram A H1 H3 := fram_next f mB (Same.fram s3)
      have mB' : ∀ a ∈ B', a ∈ A ∨ H1 a = none := fun a ha => mB a (sub.subset ha)
      refine b1 L B' σ4 H3 _ (dmB.mono s3) (sub.nodup ndB) (fun a ha => nlB a (sub.subset ha)) ow4 fun A' σ5 H5 f5 nd5 m5 ow5 => ?_
      exact ⟨hlt, A', fram_next f3 mB' f5, nd5, own_next f3 mB' m5, ow5⟩
    · have him' : i = m := by omega
      subst him'
      obtain ⟨hn, e1, g, b⟩ := last ys[i] hyi
      obtain ⟨C1, g1⟩ := g (CC i him)
      obtain ⟨_, b1⟩ := b C1
      refine ⟨fun _ _ => False, fun σ' H' h => h.elim, fun x H3 y3 => ?_⟩
      obtain ⟨s3, ix⟩ := W.yld _ i H2 x H3 ys[i] dmBL sw hyi y3
      have ow3 : Ow X.K (hid H3 (B ++ L)) H3 σ2 (es i) B := owB.mono (hid_mono s3) fun a _ o h => s3 a o h
      refine g1 L B σ2 H3 x _ ndB ow3 ix fun B' σ4 sub ow4 => ?_
      have f3 : Fram A H1 H3 := fram_next f mB (Same.fram s3)
      have mB' : ∀ a ∈ B', a ∈ A ∨ H1 a = none := fun a ha => mB a (sub.subset ha)
      refine b1 L B' σ4 H3 _ (dmB.mono s3) (sub.nodup ndB) (fun a ha => nlB a (sub.subset ha)) ow4 ?_
      exact Post.ends (E := E) rfl hn (q1.next f3 mB')
  · have hi2 : i = ys.length := by omega
    have him' : i = m := by omega
    subst him'
    refine .inl ⟨by rw [hi2]; exact W.stop _ H2 sw, ?_⟩
    exact (done hi2 (CC i him)).2 L B σ2 H2 E dmB ndB nlB owB (q1.next f mB)
/-- a loop whose turns all come to their ends -/
theorem sx_for {tg : Expr} (es : Nat → Env') (hi : IX X tg iter (hd' (es 0)) ys) (turn : ∀ k d, ys[k]? = some d → ∃ e1, GE X tg (es k) d e1 ∧ SX X body e1 (.nx (es (k + 1)))) (done : SX X rest (es ys.length) o)
    (hs : ∀ x, foldedSetIterable iter X.env x = pure x) (hpo : PassesOwn (model X.prog X.w) X.A X.env X.xe) : SX X (.For tg iter body [] pos :: rest) (es 0) o :=
  for_core (hs := hs) ys.length es hi (Nat.le_refl _) (fun k d _ h => turn k d h) (fun d h => by rw [List.getElem?_eq_none (Nat.le_refl _)] at h; cases h) (fun _ => done) (fun _ _ => trivial) hpo
/-- a loop that may leave at turn m -/
theorem sx_forr {tg : Expr} (m : Nat) (es : Nat → Env') (hi : IX X tg iter (hd' (es 0)) ys) (hm : m ≤ ys.length) (hn : ∀ e, o ≠ .nx e) (turn : ∀ k d, k < m → ys[k]? = some d → ∃ e1, GE X tg (es k) d e1 ∧ SX X body e1 (.nx (es (k + 1))))
    (last : ∀ d, ys[m]? = some d → ∃ e1, GE X tg (es m) d e1 ∧ SX X body e1 o) (done : m = ys.length → SX X rest (es m) o)
    (hs : ∀ x, foldedSetIterable iter X.env x = pure x) (hpo : PassesOwn (model X.prog X.w) X.A X.env X.xe) : SX X (.For tg iter body [] pos :: rest) (es 0) o :=
  for_core (hs := hs) m es hi hm turn (fun d h => ⟨hn, last d h⟩) done (fun _ _ => trivial) hpo
end

/-! ### defs -/
section
variable {P : Program} {w : World} {K : PySem.W.Frag} {mg : Str → Option Value} {base : Heap}
/-- the slots at the entry -/
def start' (N : List Str) (ds : List D) : Env' := List.zipWith (fun n v => (n, v)) N (ds.map Ev.d ++ List.replicate (N.length - ds.length) Ev.u)
theorem ow_rest {K : PySem.W.Frag} {G H : Hp} : ∀ N : List Str, Ow K G H (List.replicate N.length none) (List.zipWith (fun n v => (n, v)) N (List.replicate N.length Ev.u)) []
  | [] => .nil
  | n :: N => .u (ow_rest N)
theorem ow_start {K : PySem.W.Frag} {G H : Hp} : ∀ {N : List Str} {vs : List V} {ds : List D}, IsL K G vs ds → ds.length ≤ N.length → Ow K G H (L2.start N vs) (start' N ds) []
  | N, [], [], .nil, _ => by
    have := ow_rest (K := K) (G := G) (H := H) N
    simpa [L2.start, start'] using this
  | [], _ :: _, _ :: _, .cons _ _, hl => by simp at hl
  | n :: N, v :: vs, d :: ds, .cons h t, hl => by
    have ih := ow_start (H := H) (N := N) t (by simpa using hl)
    have e1 : L2.start (n :: N) (v :: vs) = some v :: L2.start N vs := by simp [L2.start]
    have e2 : start' (n :: N) (d :: ds) = (n, .d d) :: start' N ds := by simp [start']
    rw [e1, e2]
    exact .d h ih
theorem start_names : ∀ {N : List Str} {ds : List D}, ds.length ≤ N.length → (rd (start' N ds)).map (·.1) = N := by
  intro N ds h
  rw [rd_names]
  unfold start'
  rw [List.map_zipWith]
  have hl : N.length ≤ (ds.map Ev.d ++ List.replicate (N.length - ds.length) Ev.u).length := by simp; omega
  generalize ds.map Ev.d ++ List.replicate (N.length - ds.length) Ev.u = M at hl
  clear h
  induction N generalizing M with
  | nil => rfl
  | cons n N ih =>
    cases M with
    | nil => simp at hl
    | cons m M => simp only [List.zipWith_cons_cons]; rw [ih M (by simpa using hl)]
theorem start_vis {N : List Str} {ds : List D} (p : Str × Option D) (h : p ∈ rd (start' N ds)) (hs : p.2.isSome = true) : p.1 ∈ N.take ds.length := by
  unfold rd start' at h
  obtain ⟨q, hq, rfl⟩ := List.mem_map.mp h
  clear h
  induction N generalizing ds with
  | nil => simp at hq
  | cons n N ih =>
    cases ds with
    | nil =>
      exfalso
      simp only [List.map_nil, List.length_nil, Nat.sub_zero, List.nil_append] at hq
      have : ∀ (M : List Str) (k : Nat), q ∈ List.zipWith (fun n v => (n, v)) M (List.replicate k Ev.u) → q.2 = Ev.u := by
        intro M
        induction M with
        | nil => intro k h; simp at h
        | cons a M ih => intro k h; cases k with
          | zero => simp at h
          | succ k =>
            rw [List.replicate_succ, List.zipWith_cons_cons] at h
            rcases List.mem_cons.mp h with e | h
            · rw [e]
            · exact ih k h
      have e := this _ _ hq
      have hs' : (rdE q.2).isSome = true := hs
      rw [e] at hs'; cases hs'
    | cons d ds =>
      have e2 : List.zipWith (fun n v => (n, v)) (n :: N) ((d :: ds).map Ev.d ++ List.replicate ((n :: N).length - (d :: ds).length) Ev.u) = (n, .d d) :: List.zipWith (fun n v => (n, v)) N (ds.map Ev.d ++ List.replicate (N.length - ds.length) Ev.u) := by simp
      rw [e2] at hq
      rw [List.length_cons, List.take_succ_cons]
      rcases List.mem_cons.mp hq with e | hq
      · rw [e]; exact List.mem_cons_self
      · exact List.mem_cons_of_mem _ (ih hq)
abbrev Bdy (P : Program) (w : World) (K : PySem.W.Frag) (mg : Str → Option Value) (base : Heap) (N : List Str) (qual : Str) (sc : Scope) (f : Addr) (cdv : Value) (A : Around) (outer : List Env) (s : Shared) (H : Hp) (E : XK) : Cx :=
  (cxOf CX0 P w K mg base N qual sc f cdv A outer s H E).nox
theorem cxn_start {N ps : List Str} {qual : Str} {sc : Scope} {f : Addr} {cdv : Value} {A : Around} {outer : List Env} {s : Shared} {H : Hp} {E : XK} {ds : List D} (S : FnScope N ps sc) (hl : ds.length = ps.length)
    (dbg : (N.all fun x => !(x == ("__debug__" : Str)) && !(x == ("__classdict__" : Str))) = true) : CxN (Bdy P w K mg base N qual sc f cdv A outer s H E) (rd (start' N ds)) := by
  have hle : ds.length ≤ N.length := by
    rw [hl]
    have := congrArg List.length S.pre
    rw [List.length_take] at this; omega
  refine ⟨(start_names hle).symm, S.nd, fun x hx => ?_, fun p hp hs => ?_, rfl⟩
  · have := List.all_eq_true.mp dbg x hx
    simp only [Bool.and_eq_true, Bool.not_eq_true'] at this
    exact this
  · have h1 := start_vis p hp hs
    rw [hl, S.pre] at h1
    exact vis_of_loc (S.par _ h1)
theorem fn_core {x qual : Str} {st : Stmt} {f : Addr} {fd : FuncData} {N ps : List Str} {k : Nat} {sp : Sp} (F : Fun K x qual st f fd) (S : FnScope N ps (defScope st))
    (dbg : (N.all fun x => !(x == ("__debug__" : Str)) && !(x == ("__classdict__" : Str))) = true) (len : ∀ vs H Q E, sp vs H Q E → vs.length = ps.length)
    (hbody : ∀ (cdv : Value) (A : Around) (outer : List Env) (s : Shared) (H : Hp) (vs : List V) (Q : VK) (E : XK), Room k (A.deeper (envOfC qual (defScope st) s.heap.objs.size f cdv)) → sp vs H Q E →
      ∃ (L : List Addr) (ds : List D) (o : Out), ds.length = ps.length ∧ Dom L H ∧ IsL K (hid H L) vs ds ∧ Post K L [] H { nx := fun _ H' => Q .non H', rt := Q } o ∧ SX (Bdy P w K mg base N qual (defScope st) f cdv A outer s H E) (defBody st) (start' N ds) o) :
    FnOk P w K mg base CX0 (k + 1) f fd ps sp := by
  refine F.ok S len fun cdv A outer s H vs Q E hr hsp => ?_
  obtain ⟨L, ds, o, hl, dm, i, p, b⟩ := hbody cdv A outer s H vs Q E hr hsp
  have hle : ds.length ≤ N.length := by
    rw [hl]
    have := congrArg List.length S.pre
    rw [List.length_take] at this; omega
  refine ⟨WS (Bdy P w K mg base N qual (defScope st) f cdv A outer s H E) (defBody st), pss_w _ _, ?_⟩
  exact (b (cxn_start S hl dbg)).2 L [] _ H _ dm List.nodup_nil (fun a ha => by simp at ha) (ow_start (N := N) (K := K) (H := H) i hle) p
/-- a def that hands back what pre says -/
theorem fn_pure {x qual : Str} {st : Stmt} {f : Addr} {fd : FuncData} {N ps : List Str} {k : Nat} {pre : List D → D → Prop} (F : Fun K x qual st f fd) (S : FnScope N ps (defScope st))
    (dbg : (N.all fun x => !(x == ("__debug__" : Str)) && !(x == ("__classdict__" : Str))) = true) (hl : ∀ ds d, pre ds d → ds.length = ps.length)
    (h : ∀ (cdv : Value) (A : Around) (outer : List Env) (s : Shared) (H : Hp) (E : XK), Room k (A.deeper (envOfC qual (defScope st) s.heap.objs.size f cdv)) →
      ∀ ds d, pre ds d → SX (Bdy P w K mg base N qual (defScope st) f cdv A outer s H E) (defBody st) (start' N ds) (.rt d)) :
    FnOk P w K mg base CX0 (k + 1) f fd ps (spD K pre) := by
  refine fn_core F S dbg (fun vs H Q E ⟨L, ds, d, hp, dm, i, q⟩ => by rw [i.length]; exact hl ds d hp) fun cdv A outer s H vs Q E hr ⟨L, ds, d, hp, dm, i, q⟩ => ?_
  exact ⟨L, ds, .rt d, hl ds d hp, dm, i, fun v H' f i => q v H' (fun a o h => f a o (by simp) h) i, h cdv A outer s H E hr ds d hp⟩
theorem fn_fresh {x qual : Str} {st : Stmt} {f : Addr} {fd : FuncData} {N ps : List Str} {k : Nat} {pre : List D → List D → Prop} (F : Fun K x qual st f fd) (S : FnScope N ps (defScope st))
    (dbg : (N.all fun x => !(x == ("__debug__" : Str)) && !(x == ("__classdict__" : Str))) = true) (hl : ∀ ds d, pre ds d → ds.length = ps.length)
    (h : ∀ (cdv : Value) (A : Around) (outer : List Env) (s : Shared) (H : Hp) (E : XK), Room k (A.deeper (envOfC qual (defScope st) s.heap.objs.size f cdv)) →
      ∀ ds d, pre ds d → SX (Bdy P w K mg base N qual (defScope st) f cdv A outer s H E) (defBody st) (start' N ds) (.rf d)) :
    FnOk P w K mg base CX0 (k + 1) f fd ps (spF K pre) := by
  refine fn_core F S dbg (fun vs H Q E ⟨L, ds, d, hp, dm, i, q⟩ => by rw [i.length]; exact hl ds d hp) fun cdv A outer s H vs Q E hr ⟨L, ds, d, hp, dm, i, q⟩ => ?_
  exact ⟨L, ds, .rf d, hl ds d hp, dm, i, fun p ys H' f n hp' l => q p ys H' (n.elim (fun z => by simp at z) id) (fun a o h => f a o (by simp) h) hp' l, h cdv A outer s H E hr ds d hp⟩
end
end SB
namespace SB
open PySem PySem.Spec PyProof.Rows L2
/-! ### defs that hand back a new dict -/
def spK (K : PySem.W.Frag) (pre : List D → List Key → List D → Prop) : Sp := fun vs H Q _ => ∃ (L : List Addr) (ds : List D) (ks : List Key) (es : List D), pre ds ks es ∧ Dom L H ∧ IsL K (hid H L) vs ds ∧
  ∀ p ys H', H p = none → Same H H' → H' p = some (.dK (ks.zip ys)) → ks.length = ys.length → IsL K (hid H' (p :: L)) ys es → Q (.ref p) H'
section
variable {P : Program} {w : World} {K : PySem.W.Frag} {mg : Str → Option Value} {base : Heap}
theorem fn_dict {x qual : Str} {st : Stmt} {f : Addr} {fd : FuncData} {N ps : List Str} {k : Nat} {pre : List D → List Key → List D → Prop} (F : Fun K x qual st f fd) (S : FnScope N ps (defScope st))
    (dbg : (N.all fun x => !(x == ("__debug__" : Str)) && !(x == ("__classdict__" : Str))) = true) (hl : ∀ ds ks d, pre ds ks d → ds.length = ps.length)
    (h : ∀ (cdv : Value) (A : Around) (outer : List Env) (s : Shared) (H : Hp) (E : XK), Room k (A.deeper (envOfC qual (defScope st) s.heap.objs.size f cdv)) →
      ∀ ds ks d, pre ds ks d → SX (Bdy P w K mg base N qual (defScope st) f cdv A outer s H E) (defBody st) (start' N ds) (.rk ks d)) :
    FnOk P w K mg base CX0 (k + 1) f fd ps (spK K pre) := by
  refine fn_core F S dbg (fun vs H Q E ⟨L, ds, ks, d, hp, dm, i, q⟩ => by rw [i.length]; exact hl ds ks d hp) fun cdv A outer s H vs Q E hr ⟨L, ds, ks, d, hp, dm, i, q⟩ => ?_
  exact ⟨L, ds, .rk ks d, hl ds ks d hp, dm, i, fun p ys H' f n hp' z l => q p ys H' (n.elim (fun z => by simp at z) id) (fun a o h => f a o (by simp) h) hp' z l, h cdv A outer s H E hr ds ks d hp⟩
end
section
variable {X : Cx} {e : Expr} {es : List Expr} {x : Str} {r : Rho} {d : D} {ds ys : List D} {p pos : Pos} {ks : List Key}
theorem ex_of_fk (h : FKX X e r ks ds) : EX X e r (.dk ks ds) := by
  constructor
  intro C L σ H Q dm I q
  exact h.run C L σ H Q dm I fun p vs H' n s hp z hl => q _ H' s (.dk (hid_of hp (dm.fresh n)) z (hl.mono hid_cons))
theorem fk_call {k : Nat} {pre : List D → List Key → List D → Prop} (c : Cal X.prog X.w X.K X.mg X.base k x (spK X.K pre)) (hr : Room k X.A) (ha : AX X (e :: es) r ds) (hp : pre ds ks ys) (hg : Gl X x) (hdb : (x == ("__debug__" : Str)) = false)
    (he : starEach (e :: es) X.env = (false, eval e X.env) :: starEach es X.env) (hpl : (backTo pos (starEach es X.env)).any (·.1) = false) : FKX X (.Call (.Name x p) (e :: es) [] pos) r ks ys := by
  constructor
  intro C L σ H Q dm I q
  obtain ⟨f, fd, ps, F, hm, hk, hb⟩ := c.ex
  refine we_of (pe_call F hr hg hm hk hb .nil pass0 (pa_w X (e :: es)) hdb he hpl) ?_
  refine ha C L σ H _ dm I fun vs H1 s1 i1 => ?_
  rw [List.append_nil]
  exact ⟨L, ds, ks, ys, hp, dm.mono s1, i1, fun p us H2 n s2 h2 z i2 => q p us H2 (Same.free s1 n) (s1.trans s2) h2 z i2⟩
theorem fk_call0 {k : Nat} {pre : List D → List Key → List D → Prop} (c : Cal X.prog X.w X.K X.mg X.base k x (spK X.K pre)) (hr : Room k X.A) (hp : pre [] ks ys) (hg : Gl X x) (hdb : (x == ("__debug__" : Str)) = false) : FKX X (.Call (.Name x p) [] [] pos) r ks ys := by
  constructor
  intro C L σ H Q dm I q
  obtain ⟨f, fd, ps, F, hm, hk, hb⟩ := c.ex
  refine we_of (pe_call0 F hr hg hm hk hb .nil pass0 hdb) ?_
  exact ⟨L, [], ks, ys, hp, dm, .nil, fun p us H2 n s2 h2 z i2 => q p us H2 n s2 h2 z i2⟩
end
end SB
namespace SB
set_option maxRecDepth 100000
open PySem PySem.Spec PyProof.Rows L2
/-! ### how the law's world lies in the program's data -/
def colS : Col → Str
  | .black => "black"
  | .grey => "grey"
  | .white => "white"
def ocolS : Option Col → Str
  | none => "none"
  | some c => colS c
def phS (s : Bool) : Str := bif s then "scanned" else "unscanned"
def whoS : Who → Str
  | .holder => "holder"
  | .old => "old"
  | .new => "new"
def mkS : Mk → List Str
  | .load s c => ["load", phS s, colS c]
  | .new s => ["new", phS s]
  | .store s h o n w => ["store", phS s, colS h, ocolS o, ocolS n, whoS w]
@[reducible] def colD (c : Col) : D := .str (colS c)
@[reducible] def natD (n : Nat) : D := .int (n : Int)
@[reducible] def optD : Option Nat → D
  | none => .non
  | some n => .int (n : Int)
@[reducible] def mkD (m : Mk) : D := .tup ((mkS m).map D.str)
@[reducible] def rowD (r : List (Option Nat)) : D := .tup (r.map optD)
@[reducible] def heldD (h : List Nat) : D := .tup (h.map natD)
@[reducible] def staD (S : Sta) : D := .tup [.int (S.w : Int), .tup (S.slots.map rowD), .tup (S.cols.map colD), .tup (S.held.map heldD), .tup (S.sc.map D.bl)]
@[reducible] def stpD : Stp → D
  | .scan n => .tup [.str "scan", natD n]
  | .visit t => .tup [.str "visit", natD t]
  | .new t => .tup [.str "new", natD t]
  | .drop t n => .tup [.str "drop", natD t, natD n]
  | .load t n s => .tup [.str "load", natD t, natD n, natD s]
  | .store t n s o => .tup [.str "store", natD t, natD n, natD s, optD o]
@[reducible] def tabD (T : List Mk) (b : Bool) : D := .tup [.tup (T.map mkD), .bl b]

theorem colS_inj {a b : Col} : colS a = colS b ↔ a = b := by cases a <;> cases b <;> decide +kernel
theorem colS_none (a : Col) : colS a ≠ ("none" : Str) := by cases a <;> decide +kernel
theorem ocolS_inj {a b : Option Col} : ocolS a = ocolS b ↔ a = b := by
  cases a <;> cases b <;> simp only [ocolS, reduceCtorEq, iff_false, Option.some.injEq]
  · exact fun e => colS_none _ e.symm
  · exact colS_none _
  · exact colS_inj
theorem phS_inj {a b : Bool} : phS a = phS b ↔ a = b := by cases a <;> cases b <;> decide +kernel
theorem whoS_inj {a b : Who} : whoS a = whoS b ↔ a = b := by cases a <;> cases b <;> decide +kernel
theorem mkS_inj {a b : Mk} : mkS a = mkS b ↔ a = b := by
  cases a <;> cases b <;> simp [mkS, colS_inj, ocolS_inj, phS_inj, whoS_inj] <;> decide +kernel

/-- what may be compared -/
class Cd (α : Type) [DecidableEq α] where
  enc : α → D
  nod : ∀ a, noDk (enc a) = true
  imm : ∀ a, Imm (enc a) = true
  lay : ∀ a, (toPy (enc a)).canLay0 = true
  dep : ∀ a, (toPy (enc a)).depth ≤ 1
  eqv : ∀ a b, PyData.eqv (toPy (enc a)) (toPy (enc b)) = decide (a = b)
theorem toPyL_map {α : Type} (f : α → D) : ∀ xs : List α, toPyL (xs.map f) = xs.map fun x => toPy (f x)
  | [] => rfl
  | x :: xs => by rw [List.map_cons, toPyL, toPyL_map f xs, List.map_cons]
theorem noDkL_map {α : Type} {f : α → D} (h : ∀ a, noDk (f a) = true) : ∀ xs : List α, noDkL (xs.map f) = true
  | [] => rfl
  | x :: xs => by rw [List.map_cons, noDkL, h x, noDkL_map h xs]; rfl
theorem immL_map {α : Type} {f : α → D} (h : ∀ a, Imm (f a) = true) : ∀ xs : List α, ImmL (xs.map f) = true
  | [] => rfl
  | x :: xs => by rw [List.map_cons, ImmL, h x, immL_map h xs]; rfl
theorem immL_app : ∀ {xs ys : List D}, ImmL xs = true → ImmL ys = true → ImmL (xs ++ ys) = true
  | [], ys, _, h => h
  | x :: xs, ys, h, g => by
    have h' : (Imm x && ImmL xs) = true := h
    rw [Bool.and_eq_true] at h'
    rw [List.cons_append, ImmL, h'.1, immL_app h'.2 g]; rfl
theorem layL_map {α : Type} {f : α → D} (h : ∀ a, (toPy (f a)).canLay0 = true) : ∀ xs : List α, PyData.canLayAll0 (toPyL (xs.map f)) = true
  | [] => rfl
  | x :: xs => by rw [List.map_cons, toPyL, PyData.canLayAll0, h x, layL_map h xs]; rfl
theorem depL_map {α : Type} {f : α → D} {n : Nat} (h : ∀ a, (toPy (f a)).depth ≤ n) : ∀ xs : List α, PyData.depthAll (toPyL (xs.map f)) ≤ n
  | [] => Nat.zero_le _
  | x :: xs => by rw [List.map_cons, toPyL, PyData.depthAll]; exact Nat.max_le.mpr ⟨h x, depL_map h xs⟩
section
variable {α : Type} [DecidableEq α] [Cd α]
theorem eqvL_map : ∀ xs ys : List α, PyData.eqvAll (toPyL (xs.map Cd.enc)) (toPyL (ys.map Cd.enc)) = decide (xs = ys)
  | [], [] => by simp [toPyL, PyData.eqvAll]
  | [], _ :: _ => by simp [toPyL, PyData.eqvAll]
  | _ :: _, [] => by simp [toPyL, PyData.eqvAll]
  | x :: xs, y :: ys => by
    rw [List.map_cons, List.map_cons, toPyL, toPyL, PyData.eqvAll, Cd.eqv, eqvL_map xs ys, ← Bool.decide_and]
    exact decide_eq_decide.mpr (by rw [List.cons.injEq])
theorem cmp_enc (a : α) : Cmp (Cd.enc a) := ⟨Cd.nod a, by
  unfold SeqAt.shaped
  rw [Cd.lay, Bool.true_and, decide_eq_true_eq]
  exact Nat.le_trans (Cd.dep a) (by decide)⟩
theorem cmp_list (xs : List α) : Cmp (.lst (xs.map Cd.enc)) := ⟨noDkL_map Cd.nod xs, by
  unfold SeqAt.shaped
  rw [toPy, PyData.canLay0, layL_map Cd.lay, Bool.true_and, decide_eq_true_eq, PyData.depth]
  exact Nat.le_trans (Nat.succ_le_succ (depL_map Cd.dep xs)) (by decide)⟩
theorem cmp_tup (xs : List α) : Cmp (.tup (xs.map Cd.enc)) := ⟨noDkL_map Cd.nod xs, by
  unfold SeqAt.shaped
  rw [toPy, PyData.canLay0, layL_map Cd.lay, Bool.true_and, decide_eq_true_eq, PyData.depth]
  exact Nat.le_trans (Nat.succ_le_succ (depL_map Cd.dep xs)) (by decide)⟩
theorem any_enc (a : α) : ∀ xs : List α, inD (Cd.enc a) (xs.map Cd.enc) = decide (a ∈ xs) := by
  intro xs
  unfold inD
  rw [toPyL_map, List.any_map, Bool.eq_iff_iff, List.any_eq_true, decide_eq_true_eq]
  constructor
  · rintro ⟨x, hx, e⟩
    have e : PyData.eqv (toPy (Cd.enc x)) (toPy (Cd.enc a)) = true := e
    rw [Cd.eqv, decide_eq_true_eq] at e
    exact e ▸ hx
  · intro h
    refine ⟨a, h, ?_⟩
    show PyData.eqv (toPy (Cd.enc a)) (toPy (Cd.enc a)) = true
    rw [Cd.eqv]; simp
end
instance : Cd Nat where
  enc := natD
  nod _ := rfl
  imm _ := rfl
  lay _ := rfl
  dep _ := Nat.zero_le _
  eqv a b := by
    simp only [natD, toPy, PyData.eqv]
    rw [Bool.eq_iff_iff, beq_iff_eq, decide_eq_true_eq]; omega
instance : Cd (Option Nat) where
  enc := optD
  nod a := by cases a <;> rfl
  imm a := by cases a <;> rfl
  lay a := by cases a <;> rfl
  dep a := by cases a <;> exact Nat.zero_le _
  eqv a b := by
    cases a <;> cases b <;> simp only [optD, toPy, PyData.eqv]
    · rfl
    · rfl
    · rfl
    · rw [Bool.eq_iff_iff, beq_iff_eq, decide_eq_true_eq, Option.some.injEq]; omega
theorem strOk_col (c : Col) : PyData.strOk (colS c) = true := by cases c <;> decide +kernel
theorem strOk_ocol (c : Option Col) : PyData.strOk (ocolS c) = true := by
  cases c
  · decide +kernel
  · exact strOk_col _
theorem strOk_ph (c : Bool) : PyData.strOk (phS c) = true := by cases c <;> decide +kernel
theorem strOk_who (c : Who) : PyData.strOk (whoS c) = true := by cases c <;> decide +kernel
theorem strOk_store : PyData.strOk "store" = true := by decide +kernel
theorem strOk_load : PyData.strOk "load" = true := by decide +kernel
theorem strOk_new : PyData.strOk "new" = true := by decide +kernel
instance : Cd Col where
  enc := colD
  nod _ := rfl
  imm _ := rfl
  lay c := by simp only [colD, toPy, PyData.canLay0]; exact strOk_col c
  dep _ := Nat.zero_le _
  eqv a b := by
    simp only [colD, toPy, PyData.eqv]
    rw [Bool.eq_iff_iff, beq_iff_eq, decide_eq_true_eq, colS_inj]
theorem strs_lay (m : Mk) : ∀ s ∈ mkS m, PyData.strOk s = true := by
  cases m <;> simp [mkS, strOk_col, strOk_ocol, strOk_ph, strOk_who, strOk_store, strOk_load, strOk_new]
theorem layStr : ∀ xs : List Str, (∀ s ∈ xs, PyData.strOk s = true) → PyData.canLayAll0 (toPyL (xs.map D.str)) = true
  | [], _ => rfl
  | x :: xs, h => by
    rw [List.map_cons, toPyL, PyData.canLayAll0, toPy, PyData.canLay0, h x List.mem_cons_self, layStr xs fun s hs => h s (List.mem_cons_of_mem _ hs)]; rfl
theorem eqvStr : ∀ xs ys : List Str, PyData.eqvAll (toPyL (xs.map D.str)) (toPyL (ys.map D.str)) = decide (xs = ys)
  | [], [] => by simp [toPyL, PyData.eqvAll]
  | [], _ :: _ => by simp [toPyL, PyData.eqvAll]
  | _ :: _, [] => by simp [toPyL, PyData.eqvAll]
  | x :: xs, y :: ys => by
    rw [List.map_cons, List.map_cons, toPyL, toPyL, PyData.eqvAll, toPy, toPy, PyData.eqv, eqvStr xs ys, Bool.eq_iff_iff, Bool.and_eq_true, beq_iff_eq, decide_eq_true_eq, decide_eq_true_eq, List.cons.injEq]
instance : Cd Mk where
  enc := mkD
  nod m := by simp only [mkD, noDk]; exact noDkL_map (f := D.str) (fun _ => rfl) _
  imm m := by simp only [mkD, Imm]; exact immL_map (f := D.str) (fun _ => rfl) _
  lay m := by simp only [mkD, toPy, PyData.canLay0]; exact layStr _ (strs_lay m)
  dep m := by simp only [mkD, toPy, PyData.depth]; exact Nat.succ_le_succ (depL_map (f := D.str) (fun _ => Nat.zero_le _) _)
  eqv a b := by
    simp only [mkD, toPy, PyData.eqv]
    rw [eqvStr, decide_eq_decide, mkS_inj]
end SB
namespace SB
set_option maxRecDepth 100000
open PySem PySem.Spec PyProof.Rows L2
def topS (i : Nat) : Stmt := PySem.Challenge.pw_shadebarriers_k90_whole_safe_tables_run.main.body.getD i (.Pass ⟨0, 0, 0, 0⟩)
/-! ### names looked up -/
section
variable {e : Env'} {x : Str} {d : D} {ds : List D} {p : Str × Ev} {r : Rho} {q : Str × Option D}
theorem lkr_d : Lk (rd ((x, .d d) :: e)) x d := .here
theorem lkr_o : Lk (rd ((x, .o ds) :: e)) x (.lst ds) := .here
theorem lkr_k {ks : List Key} : Lk (rd ((x, .k ks ds) :: e)) x (.dk ks ds) := .here
theorem lkr_n (h : Lk (rd e) x d) : Lk (rd (p :: e)) x d := .next h
theorem lkh_d : Lk (hd' ((x, .d d) :: e)) x d := .here
theorem g_rd (h : Lk (rd e) x d) : Lk (rd e) x d := h
theorem g_hd (h : Lk (hd' e) x d) : Lk (hd' e) x d := h
theorem lkh_n (h : Lk (hd' e) x d) : Lk (hd' (p :: e)) x d := .next h
end
/-! ### goals known by their shape -/
theorem at_is {α : Type} {xs : List α} {i : Int} {y : α} (h : atI xs i = some y) : atI xs i = some y := h
theorem bh_is {op : CmpOp} {b : Expr} (h : behindInMarks op b = false) : behindInMarks op b = false := h
theorem px_is {b : Expr} (h : PlainIx b) : PlainIx b := h
theorem st_is {es : List Expr} {env : Env} {r : List (Bool × Sem Value)} (h : starEach es env = r) : starEach es env = r := h
theorem bk_is {pos : Pos} {r : List (Bool × Sem Value)} (h : (backTo pos r).any (·.1) = false) : (backTo pos r).any (·.1) = false := h
theorem gl_is {X : Cx} {x : Str} (h : Gl X x) : Gl X x := h
theorem lc_is {sc : Scope} {x : Str} (h : Loc sc x) : Loc sc x := h
theorem vs_is {sc : Scope} {x : Str} (h : Vis sc x) : Vis sc x := h
theorem sz_is {n : Nat} (h : n ≤ sizeLine) : n ≤ sizeLine := h
theorem sl_is {n : Nat} (h : n < sizeLine) : n < sizeLine := h
theorem it_is {e : Expr} {env : Env} {r : Sem Bool} {v : Sem Value} (h : PySem.isTrue e env v = r) : PySem.isTrue e env v = r := h
theorem fo_is {X : Cx} {iter : Expr} (h : ∀ x, foldedSetIterable iter X.env x = pure x) : ∀ x, foldedSetIterable iter X.env x = pure x := h
theorem at_nat {α : Type} (xs : List α) (i : Nat) (h : i < xs.length) : atI xs (i : Int) = some xs[i] := by
  unfold atI ixN
  simp [h]
theorem at_map {α : Type} {f : α → D} {xs : List α} {i : Nat} {x : α} (h : xs[i]? = some x) : atI (xs.map f) (i : Int) = some (f x) := by
  have hl : i < xs.length := (List.getElem?_eq_some_iff.mp h).1
  unfold atI ixN
  simp [hl, (List.getElem?_eq_some_iff.mp h).2]
section
variable {X : Cx} {a b c : Expr} {r : Rho} {s1 s2 : Str} {k : Bool} {pos : Pos}
theorem ex_ifs (hc : TX X c r k) (h1 : k = true → EX X a r (.str s1)) (h2 : k = false → EX X b r (.str s2)) : EX X (.IfExp c a b pos) r (.str (bif k then s1 else s2)) :=
  ex_if hc (fun h => by subst h; exact h1 rfl) (fun h => by subst h; exact h2 rfl)
theorem ex_ifi {s1 s2 : Int} (hc : TX X c r k) (h1 : k = true → EX X a r (.int s1)) (h2 : k = false → EX X b r (.int s2)) : EX X (.IfExp c a b pos) r (.int (bif k then s1 else s2)) :=
  ex_if hc (fun h => by subst h; exact h1 rfl) (fun h => by subst h; exact h2 rfl)
end
/-- the slots at the entry, one by one -/
def st0 : List Str → List D → Env'
  | [], _ => []
  | n :: N, [] => (n, .u) :: st0 N []
  | n :: N, d :: ds => (n, .d d) :: st0 N ds
theorem st0_nil : ∀ N : List Str, List.zipWith (fun n v => (n, v)) N (List.replicate N.length Ev.u) = st0 N []
  | [] => rfl
  | n :: N => by rw [List.length_cons, List.replicate_succ, List.zipWith_cons_cons, st0_nil N]; rfl
theorem start_st0 : ∀ (N : List Str) (ds : List D), start' N ds = st0 N ds
  | [], ds => by unfold start'; rw [List.zipWith_nil_left]; rfl
  | n :: N, [] => by
    unfold start'
    rw [List.map_nil, List.nil_append, List.length_nil, Nat.sub_zero]
    exact st0_nil (n :: N)
  | n :: N, d :: ds => by
    have ih := start_st0 N ds
    unfold start' at ih ⊢
    rw [List.map_cons, List.cons_append, List.zipWith_cons_cons, List.length_cons, List.length_cons, Nat.add_sub_add_right, ih]
    rfl
/-- N and what is known of it -/
structure Sc (N ps : List Str) (st : Stmt) : Prop where
  fn : FnScope N ps (defScope st)
  dbg : (N.all fun x => !(x == ("__debug__" : Str)) && !(x == ("__classdict__" : Str))) = true
section
variable {P : Program} {w : World} {K : PySem.W.Frag} {mg : Str → Option Value} {base : Heap} {x qual : Str} {st : Stmt} {f : Addr} {fd : FuncData} {N ps : List Str} {k : Nat}
theorem def_d {pre : List D → D → Prop} (F : Fun K x qual st f fd) (S : Sc N ps st) (hl : ∀ ds d, pre ds d → ds.length = ps.length)
    (h : ∀ (cdv : Value) (A : Around) (outer : List Env) (s : Shared) (H : Hp) (E : XK), Room k (A.deeper (envOfC qual (defScope st) s.heap.objs.size f cdv)) →
      ∀ ds d, pre ds d → SX (Bdy P w K mg base N qual (defScope st) f cdv A outer s H E) (defBody st) (st0 N ds) (.rt d)) :
    FnOk P w K mg base CX0 (k + 1) f fd ps (spD K pre) := fn_pure F S.fn S.dbg hl fun cdv A outer s H E hr ds d hp => by rw [start_st0]; exact h cdv A outer s H E hr ds d hp
theorem def_f {pre : List D → List D → Prop} (F : Fun K x qual st f fd) (S : Sc N ps st) (hl : ∀ ds d, pre ds d → ds.length = ps.length)
    (h : ∀ (cdv : Value) (A : Around) (outer : List Env) (s : Shared) (H : Hp) (E : XK), Room k (A.deeper (envOfC qual (defScope st) s.heap.objs.size f cdv)) →
      ∀ ds d, pre ds d → SX (Bdy P w K mg base N qual (defScope st) f cdv A outer s H E) (defBody st) (st0 N ds) (.rf d)) :
    FnOk P w K mg base CX0 (k + 1) f fd ps (spF K pre) := fn_fresh F S.fn S.dbg hl fun cdv A outer s H E hr ds d hp => by rw [start_st0]; exact h cdv A outer s H E hr ds d hp
end
/-! ### a statement and what comes behind it -/
theorem sw_is {e : Expr} {o : Option Expr} {n : Nat} {env : Env} {b : Sem Bool} (h : swapsWith e o n env = b) : swapsWith e o n env = b := h
theorem sp_is {e : Expr} {o : List Expr} {n : Nat} {env : Env} {b : Sem Bool} (h : swapsWithSole o e n env = b) : swapsWithSole o e n env = b := h
theorem fn_is {X : Cx} {x : Str} (h : X.fn x = true ∨ X.env.scope.names.lookup x = some .local) : X.fn x = true ∨ X.env.scope.names.lookup x = some .local := h
theorem ll_is {sc : Scope} {x : Str} (h : sc.names.lookup x = some .local) : sc.names.lookup x = some .local := h
section
variable {X : Cx} {rest : List Stmt} {e e' : Env'} {o : Out} {pos p' apos cpos : Pos} {ex t : Expr} {d : D} {ds es : List D} {x : Str} {i : Nat}
theorem sx_set1 (h : EX X ex (hd' e) d) (w : UpE e x (.d d) e' i) (hx : Loc X.env.scope x) (hs : swapsWith ex (some (.Name x p')) pos.line X.env = pure false) (hf : X.fn x = true ∨ X.env.scope.names.lookup x = some .local) (r : SX X rest e' o) : SX X (.Assign [.Name x p'] ex pos :: rest) e o := sx_cons (s1_set1 h w hx hs hf) r
theorem sx_set (h : EX X ex (rd e) d) (w : UpE e x (.d d) e' i) (im : Imm d = true) (hx : Loc X.env.scope x) (hs : swapsWith ex (some (.Name x p')) pos.line X.env = pure false) (hf : X.fn x = true ∨ X.env.scope.names.lookup x = some .local) (r : SX X rest e' o) : SX X (.Assign [.Name x p'] ex pos :: rest) e o := sx_cons (s1_set h w im hx hs hf) r
theorem sx_seto (h : SLX X x p' ex pos (rd e) ds) (w : UpE e x (.o ds) e' i) (im : ImmL ds = true) (hx : Loc X.env.scope x) (r : SX X rest e' o) : SX X (.Assign [.Name x p'] ex pos :: rest) e o := sx_cons (s1_seto h w im hx) r
theorem sx_seto1 (h : SLX X x p' ex pos (hd' e) ds) (w : UpE e x (.o ds) e' i) (hx : Loc X.env.scope x) (r : SX X rest e' o) : SX X (.Assign [.Name x p'] ex pos :: rest) e o := sx_cons (s1_seto1 h w hx) r
theorem sx_setl (h : SLX X x p' ex pos (hd' e) ds) (w : UpE e x (.d (.lst ds)) e' i) (hx : Loc X.env.scope x) (r : SX X rest e' o) : SX X (.Assign [.Name x p'] ex pos :: rest) e o := sx_cons (s1_setl h w hx) r
theorem sx_append (w : LkU e x ds (ds ++ [d]) e' i) (h : EX X ex (rd e) d) (im : Imm d = true) (hz : ds.length < sizeLine) (hv : Vis X.env.scope x) (hbase : attributeBase (.Name x p') "append" X.env (eval (.Name x p') X.env) = eval (.Name x p') X.env)
    (hfew : ((backTo cpos (starEach [ex] X.env)).all (fun x => !x.1) && (backToKw cpos (keywordEach [] X.env)).all (fun x => x.1.isSome) && decide ([ex].length + ([] : List Keyword).length + (if ([] : List Keyword).isEmpty then 0 else 1) < 30)) = true)
    (hline : (apos.endLine == cpos.line) = true) (hs : starEach [ex] X.env = (false, eval ex X.env) :: starEach [] X.env) (hplain : (backTo cpos (starEach [] X.env)).any (·.1) = false) (hsw : swapsWith (.Call (.Attribute (.Name x p') "append" apos) [ex] [] cpos) none pos.line X.env = pure false)
    (r : SX X rest e' o) : SX X (.Expr (.Call (.Attribute (.Name x p') "append" apos) [ex] [] cpos) pos :: rest) e o := sx_cons (s1_append w h im hz hv hbase hfew hline hs hplain hsw) r
theorem sx_append1 (w : LkU e x ds (ds ++ [d]) e' i) (h : EX X ex (hd' e) d) (hz : ds.length < sizeLine) (hv : Vis X.env.scope x) (hbase : attributeBase (.Name x p') "append" X.env (eval (.Name x p') X.env) = eval (.Name x p') X.env)
    (hfew : ((backTo cpos (starEach [ex] X.env)).all (fun x => !x.1) && (backToKw cpos (keywordEach [] X.env)).all (fun x => x.1.isSome) && decide ([ex].length + ([] : List Keyword).length + (if ([] : List Keyword).isEmpty then 0 else 1) < 30)) = true)
    (hline : (apos.endLine == cpos.line) = true) (hs : starEach [ex] X.env = (false, eval ex X.env) :: starEach [] X.env) (hplain : (backTo cpos (starEach [] X.env)).any (·.1) = false) (hsw : swapsWith (.Call (.Attribute (.Name x p') "append" apos) [ex] [] cpos) none pos.line X.env = pure false)
    (r : SX X rest e' o) : SX X (.Expr (.Call (.Attribute (.Name x p') "append" apos) [ex] [] cpos) pos :: rest) e o := sx_cons (s1_append1 w h hz hv hbase hfew hline hs hplain hsw) r
theorem sx_extend (w : LkU e x ds (ds ++ es) e' i) (h : EX X ex (rd e) (.lst es)) (im : ImmL es = true) (hz : ds.length + es.length ≤ sizeLine) (hv : Vis X.env.scope x) (hbase : attributeBase (.Name x p') "extend" X.env (eval (.Name x p') X.env) = eval (.Name x p') X.env)
    (hfew : ((backTo cpos (starEach [ex] X.env)).all (fun x => !x.1) && (backToKw cpos (keywordEach [] X.env)).all (fun x => x.1.isSome) && decide ([ex].length + ([] : List Keyword).length + (if ([] : List Keyword).isEmpty then 0 else 1) < 30)) = true)
    (hline : (apos.endLine == cpos.line) = true) (hs : starEach [ex] X.env = (false, eval ex X.env) :: starEach [] X.env) (hplain : (backTo cpos (starEach [] X.env)).any (·.1) = false) (hsw : swapsWith (.Call (.Attribute (.Name x p') "extend" apos) [ex] [] cpos) none pos.line X.env = pure false)
    (r : SX X rest e' o) : SX X (.Expr (.Call (.Attribute (.Name x p') "extend" apos) [ex] [] cpos) pos :: rest) e o := sx_cons (s1_extend w h im hz hv hbase hfew hline hs hplain hsw) r
theorem sx_asg1 (h : EX X ex (hd' e) d) (g : GE X t e d e') (hs : swapsWithSole [t] ex pos.line X.env = pure false) (hw : swappedStores [t] ex X.env = pure none) (h1 : (assignEach [t] X.env).map (·.2) = [assign t X.env]) (r : SX X rest e' o) : SX X (.Assign [t] ex pos :: rest) e o := sx_cons (s1_asg1 h g hs hw h1) r
theorem sx_ret (h : EX X ex (rd e) d) : SX X [.Return (some ex) pos] e (.rt d) := sx_one (s1_ret h)
theorem sx_retf (h : FX X ex (rd e) ds) : SX X [.Return (some ex) pos] e (.rf ds) := sx_one (s1_retf h)
end
theorem cut_lo {xs : List D} {n : Nat} (h : n ≤ xs.length) : cutD xs none (some (n : Int)) = xs.take n := by
  unfold cutD
  rw [show HT.sIx xs.length xs.length (some (n : Int)) = min n xs.length from HT.sIx_nat xs.length xs.length n, HT.sIx_none]
  simp [Nat.min_eq_left h]
theorem cut_hi {xs : List D} {n : Nat} (h : n ≤ xs.length) : cutD xs (some (n : Int)) none = xs.drop n := by
  unfold cutD
  rw [show HT.sIx xs.length 0 (some (n : Int)) = min n xs.length from HT.sIx_nat xs.length 0 n, HT.sIx_none]
  rw [Nat.min_eq_left h, List.take_of_length_le (by simp)]
theorem cut_set {xs : List D} {n : Nat} {d : D} (h : n < xs.length) : cutD xs none (some (n : Int)) ++ [d] ++ cutD xs (some ((n : Int) + 1)) none = xs.set n d := by
  rw [cut_lo (by omega), show ((n : Int) + 1) = ((n + 1 : Nat) : Int) by omega, cut_hi (by omega), List.set_eq_take_append_cons_drop, if_pos h, List.append_assoc]
  rfl
theorem cut_len (xs : List D) (i j : Option Int) : (cutD xs i j).length ≤ xs.length := by
  unfold cutD
  rw [List.length_take, List.length_drop]; omega
theorem ax1_of {X : Cx} {e : Expr} {r : Rho} {d : D} (h : EX X e r d) (hs : starEach [e] X.env = (false, eval e X.env) :: starEach [] X.env) : AX X [e] r [d] := ax_cons h ax_nil hs
/-- xs[:n] + (x,) + xs[n + 1:] -/
theorem ex_put {X : Cx} {xs n x xs2 m : Expr} {r : Rho} {ds : List D} {i : Nat} {d : D} {p0 p1 p2 p3 p4 p5 p6 : Pos} {kk : Nat} (hx : EX X xs r (.tup ds)) (hn : EX X n r (.int (i : Int))) (hd : EX X x r d) (hx2 : EX X xs2 r (.tup ds)) (hm : EX X m r (.int ((i : Int) + 1)))
    (hi : i < ds.length) (hz : ds.length ≤ 1000) (hs : starEach [x] X.env = (false, eval x X.env) :: starEach [] X.env) :
    EX X (.BinOp (.BinOp (.Subscript xs (.Slice none (some n) none p0) p1) .Add (.Tuple [x] kk p2) p3) .Add (.Subscript xs2 (.Slice (some m) none none p4) p5) p6) r (.tup (ds.set i d)) := by
  have l1 := cut_len ds none (some (i : Int))
  have l2 := cut_len ds (some ((i : Int) + 1)) none
  rw [← cut_set (d := d) hi]
  refine ex_bin (ex_bin (ex_slT hx px_none (px_some hn)) (ex_tup (ax1_of hd hs) (by rw [sizeLine_eq, List.length_cons, List.length_nil]; decide)) (o_cat ?_)) (ex_slT hx2 (px_some hm) px_none) (o_cat ?_)
  · rw [sizeLine_eq]; simp only [List.length_cons, List.length_nil]; omega
  · rw [sizeLine_eq]; simp only [List.length_append, List.length_cons, List.length_nil]; omega
theorem colS_white (c : Col) : decide (colS c = ("white" : Str)) = decide (c = .white) := by cases c <;> decide +kernel
theorem colS_grey (c : Col) : decide (colS c = ("grey" : Str)) = decide (c = .grey) := by cases c <;> decide +kernel
theorem colS_black (c : Col) : decide (colS c = ("black" : Str)) = decide (c = .black) := by cases c <;> decide +kernel
theorem colS_bif (k : Bool) (a b : Col) : (bif k then colS a else colS b) = colS (bif k then a else b) := by cases k <;> rfl
theorem col_grey : ("grey" : Str) = colS .grey := rfl
theorem col_black : ("black" : Str) = colS .black := rfl
theorem col_white : ("white" : Str) = colS .white := rfl
theorem set_map {α : Type} {f : α → D} {xs : List α} {n : Nat} {x : α} : (xs.map f).set n (f x) = (xs.set n x).map f := by rw [List.map_set]
section
variable {X : Cx} {e t : Expr} {es : List Expr} {r : Rho} {d d1 d2 : D} {ds : List D} {k : Bool} {f : Value → Value → Sem Value} {oe : Option Expr} {oi : Option Int} {en en' : Env'}
theorem cal_is {P : Program} {w : World} {K : PySem.W.Frag} {mg : Str → Option Value} {base : Heap} {n : Nat} {x : Str} {sp : Sp} (h : Cal P w K mg base n x sp) : Cal P w K mg base n x sp := h
theorem room_is {n : Nat} {A : Around} (h : Room n A) : Room n A := h
theorem gc_is {K : PySem.W.Frag} {mg : Str → Option Value} {x : Str} (h : GC K mg x d) : GC K mg x d := h
theorem g_EX (h : EX X e r d) : EX X e r d := h
theorem g_TX (h : TX X e r k) : TX X e r k := h
theorem g_OX (h : OX X e r k) : OX X e r k := h
theorem g_AX (h : AX X es r ds) : AX X es r ds := h
theorem g_FX (h : FX X e r ds) : FX X e r ds := h
theorem g_PX (h : PX X oe r oi) : PX X oe r oi := h
theorem g_Op (h : Op2 X f d1 d2 d) : Op2 X f d1 d2 d := h
theorem g_Of (h : Op2F X f d1 d2 ds) : Op2F X f d1 d2 ds := h
theorem g_GE (h : GE X t en d en') : GE X t en d en' := h
end
theorem as_is {ts : List Expr} {env : Env} {r : List (Value → Sem Unit)} (h : (assignEach ts env).map (·.2) = r) : (assignEach ts env).map (·.2) = r := h
theorem an_is {ts : List Expr} {env : Env} {n : Nat} (h : (assignEach ts env).length = n) : (assignEach ts env).length = n := h
theorem ai_is {ts : List Expr} {env : Env} (h : (assignEach ts env).findIdx? (·.1) = none) : (assignEach ts env).findIdx? (·.1) = none := h
theorem ss_is {ts : List Expr} {e : Expr} {env : Env} {r} (h : swappedStores ts e env = r) : swappedStores ts e env = r := h
theorem ab_is {o : Expr} {n : Str} {env : Env} {b r : Sem Value} (h : attributeBase o n env b = r) : attributeBase o n env b = r := h
theorem fw_is {a b c : Bool} (h : (a && b && c) = true) : (a && b && c) = true := h
theorem ln_is {a b : Nat} (h : (a == b) = true) : (a == b) = true := h
theorem bb_is {x : Str} {v} (h : bootBuiltins x = v) : bootBuiltins x = v := h
theorem nn_is {x y : Str} (h : x ≠ y) : x ≠ y := h
theorem db_is {x y : Str} (h : (x == y) = false) : (x == y) = false := h
/-! ### less known of the slots -/
inductive LeE : Env' → Env' → Prop
  | nil : LeE [] []
  | same {p : Str × Ev} {r s : Env'} : LeE r s → LeE (p :: r) (p :: s)
  | u {n : Str} {x : Ev} {r s : Env'} : LeE r s → LeE ((n, x) :: r) ((n, .u) :: s)
  | eqd {n : Str} {x y : D} {r s : Env'} : x = y → LeE r s → LeE ((n, .d x) :: r) ((n, .d y) :: s)
  | eqo {n : Str} {x y : List D} {r s : Env'} : x = y → LeE r s → LeE ((n, .o x) :: r) ((n, .o y) :: s)
  | eqk {n : Str} {ks ls : List Key} {x y : List D} {r s : Env'} : ks = ls → x = y → LeE r s → LeE ((n, .k ks x) :: r) ((n, .k ls y) :: s)
theorem LeE.rd : ∀ {r s : Env'}, LeE r s → Le (SB.rd r) (SB.rd s)
  | _, _, .nil => .nil
  | _, _, .same t => .same t.rd
  | _, _, .u t => .any t.rd
  | _, _, .eqd e t => by rw [e]; exact .same t.rd
  | _, _, .eqo e t => by rw [e]; exact .same t.rd
  | _, _, .eqk e1 e t => by rw [e1, e]; exact .same t.rd
theorem Ow.le {K : PySem.W.Frag} {G H : Hp} : ∀ {σ : L2.St} {r s : Env'} {A : List Addr}, Ow K G H σ r A → LeE r s → ∃ A', A'.Sublist A ∧ Ow K G H σ s A'
  | _, _, _, _, .nil, .nil => ⟨_, List.Sublist.refl _, .nil⟩
  | _, _, _, _, .u t, .same l => let ⟨A', s, z⟩ := Ow.le t l; ⟨A', s, .u z⟩
  | _, _, _, _, .d h t, .same l => let ⟨A', s, z⟩ := Ow.le t l; ⟨A', s, .d h z⟩
  | _, _, _, _, .o h k t, .same l => let ⟨A', s, z⟩ := Ow.le t l; ⟨_ :: A', s.cons₂ _, .o h k z⟩
  | _, _, _, _, .kd h q k t, .same l => let ⟨A', s, z⟩ := Ow.le t l; ⟨_ :: A', s.cons₂ _, .kd h q k z⟩
  | _, _, _, _, .kd h q k t, .u l => let ⟨A', s, z⟩ := Ow.le t l; ⟨A', s.cons _, .u z⟩
  | _, _, _, _, .kd h q k t, .eqk e1 e l => let ⟨A', s, z⟩ := Ow.le t l; ⟨_ :: A', s.cons₂ _, .kd (e1 ▸ h) (e1 ▸ q) (e ▸ k) z⟩
  | _, _, _, _, .u t, .u l => let ⟨A', s, z⟩ := Ow.le t l; ⟨A', s, .u z⟩
  | _, _, _, _, .d h t, .u l => let ⟨A', s, z⟩ := Ow.le t l; ⟨A', s, .u z⟩
  | _, _, _, _, .o h k t, .u l => let ⟨A', s, z⟩ := Ow.le t l; ⟨A', s.cons _, .u z⟩
  | _, _, _, _, .d h t, .eqd e l => let ⟨A', s, z⟩ := Ow.le t l; ⟨A', s, .d (e ▸ h) z⟩
  | _, _, _, _, .o h k t, .eqo e l => let ⟨A', s, z⟩ := Ow.le t l; ⟨_ :: A', s.cons₂ _, .o h (e ▸ k) z⟩
section
variable {X : Cx} {sts : List Stmt} {e e1 e2 : Env'}
theorem sx_le (h : SX X sts e (.nx e1)) (l : LeE e1 e2) : SX X sts e (.nx e2) := by
  constructor
  intro C
  obtain ⟨C1, g⟩ := h C
  refine ⟨CxN.le C1 l.rd, fun L A σ H E dm nd nl ow p => g L A σ H E dm nd nl ow fun A' σ' H' f nd' m ow' => ?_⟩
  obtain ⟨A2, sub, ow2⟩ := ow'.le l
  exact p A2 σ' H' f (sub.nodup nd') (fun a ha => m a (sub.subset ha)) (ow2.mono (sub_hide fun a ha => sub.subset ha) fun a _ o h => h)
theorem sx_nile (l : LeE e e2) : SX X [] e (.nx e2) := sx_le sx_nil l
end
/-! ### in, among what may be compared -/
section
variable {X : Cx} {α : Type} [DecidableEq α] [Cd α] {a : α} {xs : List α} {da : D}
theorem o_inTE (hu : X.A.units + 65 < cLine) : Op2 X (compareOp .In) (Cd.enc a) (.tup (xs.map Cd.enc)) (.bl (decide (a ∈ xs))) := by
  rw [← any_enc]
  refine o_inT (cmp_enc a) ⟨noDkL_map Cd.nod xs, layL_map Cd.lay xs⟩ hu
theorem o_notInTE (hu : X.A.units + 65 < cLine) : Op2 X (compareOp .NotIn) (Cd.enc a) (.tup (xs.map Cd.enc)) (.bl (!decide (a ∈ xs))) := by
  rw [← any_enc]
  exact o_notInT (cmp_enc a) ⟨noDkL_map Cd.nod xs, layL_map Cd.lay xs⟩ hu
theorem o_inLE (hu : X.A.units + 65 < cLine) : Op2 X (compareOp .In) (Cd.enc a) (.lst (xs.map Cd.enc)) (.bl (decide (a ∈ xs))) := by
  rw [← any_enc]
  exact o_inL (cmp_enc a) (cmp_list xs) hu
theorem o_notInLE (hu : X.A.units + 65 < cLine) : Op2 X (compareOp .NotIn) (Cd.enc a) (.lst (xs.map Cd.enc)) (.bl (!decide (a ∈ xs))) := by
  rw [← any_enc]
  exact o_notInL (cmp_enc a) (cmp_list xs) hu
theorem ru {k : Nat} {A : Around} (hr : Room k A) : A.units + 65 < cLine := by have := hr.un; omega
end
theorem lt_is {a b : Nat} (h : a < b) : a < b := h
theorem le_is {a b : Nat} (h : a ≤ b) : a ≤ b := h
theorem im_is {d : D} (h : Imm d = true) : Imm d = true := h
theorem il_is {d : List D} (h : ImmL d = true) : ImmL d = true := h
theorem turn_of {X : Cx} {tg : Expr} {body : List Stmt} {e e1 : Env'} {d : D} {o : Out} (g : GE X tg e d e1) (b : SX X body e1 o) : ∃ e1, GE X tg e d e1 ∧ SX X body e1 o := ⟨e1, g, b⟩
section
variable {X : Cx} {m : Mk} {T : List Mk} {n : Nat} {ns : List Nat} {o : Option Nat} {os : List (Option Nat)} {c : Col} {cs : List Col}
theorem o_inMk (hu : X.A.units + 65 < cLine) : Op2 X (compareOp .In) (mkD m) (.tup (T.map mkD)) (.bl (decide (m ∈ T))) := o_inTE (α := Mk) hu
theorem o_inCol (hu : X.A.units + 65 < cLine) : Op2 X (compareOp .In) (colD c) (.tup (cs.map colD)) (.bl (decide (c ∈ cs))) := o_inTE (α := Col) hu
theorem o_inNatL (hu : X.A.units + 65 < cLine) : Op2 X (compareOp .In) (natD n) (.lst (ns.map natD)) (.bl (decide (n ∈ ns))) := o_inLE (α := Nat) hu
theorem o_notInNatL (hu : X.A.units + 65 < cLine) : Op2 X (compareOp .NotIn) (natD n) (.lst (ns.map natD)) (.bl (!decide (n ∈ ns))) := o_notInLE (α := Nat) hu
theorem o_inOptL (hu : X.A.units + 65 < cLine) : Op2 X (compareOp .In) (optD o) (.lst (os.map optD)) (.bl (decide (o ∈ os))) := Eq.mp (congrArg (fun b => Op2 X (compareOp .In) (optD o) (.lst (os.map optD)) (.bl b)) (decide_eq_decide.mpr Iff.rfl)) (o_inLE (α := Option Nat) (a := o) (xs := os) hu)
theorem o_notInOptL (hu : X.A.units + 65 < cLine) : Op2 X (compareOp .NotIn) (optD o) (.lst (os.map optD)) (.bl (!decide (o ∈ os))) := Eq.mp (congrArg (fun b => Op2 X (compareOp .NotIn) (optD o) (.lst (os.map optD)) (.bl !b)) (decide_eq_decide.mpr Iff.rfl)) (o_notInLE (α := Option Nat) (a := o) (xs := os) hu)
theorem o_notInMkL (hu : X.A.units + 65 < cLine) : Op2 X (compareOp .NotIn) (mkD m) (.lst (T.map mkD)) (.bl (!decide (m ∈ T))) := o_notInLE (α := Mk) hu
end
/-- as a value of two -/
def ifD (k : Bool) (a b : D) : D := bif k then a else b
end SB
namespace SB
open PySem PySem.Spec PyProof.Rows L2
section
variable {P : Program} {w : World} {K : PySem.W.Frag} {mg : Str → Option Value} {base : Heap} {x qual : Str} {st : Stmt} {f : Addr} {fd : FuncData} {N ps : List Str} {k : Nat}
theorem def_k {pre : List D → List Key → List D → Prop} (F : Fun K x qual st f fd) (S : Sc N ps st) (hl : ∀ ds ks d, pre ds ks d → ds.length = ps.length)
    (h : ∀ (cdv : Value) (A : Around) (outer : List Env) (s : Shared) (H : Hp) (E : XK), Room k (A.deeper (envOfC qual (defScope st) s.heap.objs.size f cdv)) →
      ∀ ds ks d, pre ds ks d → SX (Bdy P w K mg base N qual (defScope st) f cdv A outer s H E) (defBody st) (st0 N ds) (.rk ks d)) :
    FnOk P w K mg base CX0 (k + 1) f fd ps (spK K pre) := fn_dict F S.fn S.dbg hl fun cdv A outer s H E hr ds ks d hp => by rw [start_st0]; exact h cdv A outer s H E hr ds ks d hp
end
section
variable {X : Cx} {ex : Expr} {e : Env'} {pos : Pos} {ks : List Key} {ds : List D}
theorem sx_retk (h : FKX X ex (rd e) ks ds) : SX X [.Return (some ex) pos] e (.rk ks ds) := sx_one (s1_retk h)
end
end SB
namespace SB
set_option maxRecDepth 100000
open PySem PySem.Spec PyProof.Rows L2

/-! ### what a block sees -/
inductive LeV (sc : Scope) : Rho → Rho → Prop
  | nil : LeV sc [] []
  | drop {n : Str} {x : Option D} {r s : Rho} : LeV sc r s → LeV sc ((n, x) :: r) ((n, none) :: s)
  | keep {n : Str} {d : D} {r s : Rho} : Vis sc n → LeV sc r s → LeV sc ((n, some d) :: r) ((n, some d) :: s)
theorem LeV.le {sc : Scope} : ∀ {r s : Rho}, LeV sc r s → Le r s
  | _, _, .nil => .nil
  | _, _, .drop t => .any t.le
  | _, _, .keep _ t => .same t.le
theorem LeV.vis {sc : Scope} : ∀ {r s : Rho}, LeV sc r s → VisAll sc s
  | _, _, .nil => .nil
  | _, _, .drop t => .any t.vis
  | _, _, .keep v t => .val v t.vis
section
variable {sc : Scope} {e : Env'} {s r : Rho} {n : Str} {d : D} {ds : List D} {x : Ev}
theorem lv_ru (t : LeV sc (rd e) s) : LeV sc (rd ((n, .u) :: e)) ((n, none) :: s) := .drop t
theorem lv_rd (v : Vis sc n) (t : LeV sc (rd e) s) : LeV sc (rd ((n, .d d) :: e)) ((n, some d) :: s) := .keep v t
theorem lv_ro (v : Vis sc n) (t : LeV sc (rd e) s) : LeV sc (rd ((n, .o ds) :: e)) ((n, some (.lst ds)) :: s) := .keep v t
theorem lv_rk {ks : List Key} (v : Vis sc n) (t : LeV sc (rd e) s) : LeV sc (rd ((n, .k ks ds) :: e)) ((n, some (.dk ks ds)) :: s) := .keep v t
theorem lv_rx (t : LeV sc (rd e) s) : LeV sc (rd ((n, x) :: e)) ((n, none) :: s) := .drop t
theorem lv_hu (t : LeV sc (hd' e) s) : LeV sc (hd' ((n, .u) :: e)) ((n, none) :: s) := .drop t
theorem lv_hd (v : Vis sc n) (t : LeV sc (hd' e) s) : LeV sc (hd' ((n, .d d) :: e)) ((n, some d) :: s) := .keep v t
theorem lv_hx (t : LeV sc (hd' e) s) : LeV sc (hd' ((n, x) :: e)) ((n, none) :: s) := .drop t
theorem lv_rn : LeV sc (rd []) [] := .nil
theorem lv_hn : LeV sc (hd' []) [] := .nil
theorem g_lvr (t : LeV sc (rd e) s) : LeV sc (rd e) s := t
theorem g_lvh (t : LeV sc (hd' e) s) : LeV sc (hd' e) s := t
theorem g_lv0 (t : LeV sc r s) : LeV sc r s := t
end
theorem kx_nil {X : Cx} {r : Rho} : KX X [] r true := rfl
theorem kx_one {X : Cx} {c : Expr} {r : Rho} {k : Bool} (h : TX X c r k) : KX X [c] r k := h
theorem filterMap_if {α β : Type} (p : α → Bool) (g : α → β) : ∀ zs : List α, zs.filterMap (fun z => if p z then some (g z) else none) = (zs.filter p).map g
  | [] => rfl
  | z :: zs => by
    rw [List.filterMap_cons, filterMap_if p g zs]
    cases h : p z <;> simp [h]
section
variable {X : Cx} {elt tg iter tg1 iter1 : Expr} {ifs : List Expr} {scope sc : Scope} {N : List Str} {r rw_ r1 r2 : Rho} {own : List (Str × Nat)} {js vs1 : List Nat} {pos : Pos}
theorem GX.more {X : Cx} {d : D} (h : GX X tg js r d r1) (m : ∀ i ∈ js, i ∈ vs1) : GX X tg vs1 r d r1 := by
  constructor
  intro C
  obtain ⟨C1, g⟩ := h C
  exact ⟨C1, fun L σ H v Q I i q => g L σ H v Q I i fun σ' I' w => q σ' I' fun vs hv => w vs fun i hi => hv i (m i hi)⟩
/-- one turn of a comprehension -/
structure Turn1 (X : Cx) (elt tg : Expr) (ifs : List Expr) (scope : Scope) (own : List (Str × Nat)) (rw_ : Rho) (d : D) (k : Bool) (out : D) : Prop where
  ex : ∃ r1, AllBlk X scope (fun Y => GX Y tg (own.map (·.2)) rw_ d r1) ∧ AllBlk X scope (fun Y => KX Y ifs r1 k) ∧ (k = true → AllBlk X scope (fun Y => EX Y elt r1 out))
theorem turn1 {d out : D} {k : Bool} (g : AllBlk X scope (fun Y => GX Y tg js rw_ d r1)) (c : AllBlk X scope (fun Y => KX Y ifs r1 k)) (h : k = true → AllBlk X scope (fun Y => EX Y elt r1 out)) (m : ∀ i ∈ js, i ∈ own.map (·.2)) : Turn1 X elt tg ifs scope own rw_ d k out :=
  ⟨r1, fun s H C cl fp => (g s H C cl fp).more m, c, h⟩
theorem lc_gen {α : Type} (zs : List α) (f : α → D) (p : α → Bool) (g : α → D) (own : List (Str × Nat)) (hi : IX X tg iter r (zs.map f)) (hN : X.N = N) (hsc : X.env.scope = sc) (hb : blkC N sc scope own = true) (hlv : LeV (relabel scope X.env) r rw_)
    (how : ∀ i ∈ own.map (·.2), ∃ n, rw_[i]? = some (n, none)) (hz : zs.length < sizeLine) (body : ∀ z ∈ zs, Turn1 X elt tg ifs scope own rw_ (f z) (p z) (g z)) : LCX X elt tg iter ifs scope r ((zs.filter p).map g) := by
  rw [← filterMap_if]
  refine lcx zs f (fun z => if p z then some (g z) else none) hi hb hN hsc hlv.le how (fun s H C cl fp => hlv.vis) hz fun z hz => ?_
  obtain ⟨r1, a, b, c⟩ := (body z hz).ex
  refine ⟨r1, a, p z, b, fun h => ⟨g z, by simp [h], c h⟩, fun h => by simp [h]⟩
/-- without tests -/
theorem lc_map {α : Type} (zs : List α) (f : α → D) (g : α → D) (own : List (Str × Nat)) (hi : IX X tg iter r (zs.map f)) (hN : X.N = N) (hsc : X.env.scope = sc) (hb : blkC N sc scope own = true) (hlv : LeV (relabel scope X.env) r rw_)
    (how : ∀ i ∈ own.map (·.2), ∃ n, rw_[i]? = some (n, none)) (hz : zs.length < sizeLine) (body : ∀ z ∈ zs, Turn1 X elt tg [] scope own rw_ (f z) true (g z)) : LCX X elt tg iter [] scope r (zs.map g) := by
  have h := lc_gen zs f (fun _ => true) g own hi hN hsc hb hlv how hz body
  rwa [List.filter_eq_self.mpr (fun _ _ => rfl)] at h

/-! ### two clauses -/
structure LCX2 (X : Cx) (elt tg iter tg1 iter1 : Expr) (scope : Scope) (r : Rho) (es : List D) : Prop where
  ex : ∃ (own : List (Str × Nat)) (vs1 : List Nat) (wi : TI) (g : TG) (wi1 : TI) (g1 : TG) (te : TE), PI X tg iter wi ∧ BlkOk X.N X.env.scope scope own ∧ (∀ i ∈ vs1, i ∈ own.map (·.2)) ∧ AllBlk X scope (fun Y => PG Y tg g) ∧ AllBlk X scope (fun Y => PI Y tg1 iter1 wi1) ∧ AllBlk X scope (fun Y => PG Y tg1 g1) ∧ AllBlk X scope (fun Y => PE Y elt te) ∧
    (CxN X r → ∀ (L : List Addr) (σ : L2.St) (H : Hp) (Q : VK), Dom L H → IsE X.K (hid H L) σ r → (∀ p xs H', H p = none → Same H H' → H' p = some (.lst xs) → IsL X.K (hid H' (p :: L)) xs es → Q (.ref p) H') → tLc2 wi g (fun σ H Q => Q true H) wi1 g1 (fun σ H Q => Q true H) te (own.map (·.2)) vs1 σ H Q)
/-- a turn of the first clause, with all its inner turns -/
structure Turn2 {β : Type} (X : Cx) (elt tg tg1 iter1 : Expr) (scope : Scope) (own : List (Str × Nat)) (vs1 : List Nat) (rw_ : Rho) (d : D) (us : List β) (f1 : β → D) (g : β → D) : Prop where
  ex : ∃ r1, AllBlk X scope (fun Y => GX Y tg (own.map (·.2)) rw_ d r1) ∧ (∀ i ∈ vs1, ∃ n, r1[i]? = some (n, none)) ∧ AllBlk X scope (fun Y => IX Y tg1 iter1 r1 (us.map f1)) ∧
    ∀ y ∈ us, ∃ r2, AllBlk X scope (fun Y => GX Y tg1 vs1 r1 (f1 y) r2) ∧ AllBlk X scope (fun Y => EX Y elt r2 (g y))
theorem flat_snoc {α β : Type} (f : α → List β) (zs : List α) (i : Nat) (z : α) (h : zs[i]? = some z) : (zs.take (i + 1)).flatMap f = (zs.take i).flatMap f ++ f z := by
  rw [List.take_add_one, h]
  simp
theorem take_snoc {α β : Type} (f : α → β) (zs : List α) (i : Nat) (z : α) (h : zs[i]? = some z) : (zs.take (i + 1)).map f = (zs.take i).map f ++ [f z] := by
  rw [List.take_add_one, h]
  simp
theorem flat_take_le {α β : Type} (f : α → List β) (zs : List α) (i : Nat) (z : α) (h : zs[i]? = some z) (n : Nat) (hn : n ≤ (f z).length) : ((zs.take i).flatMap f).length + n ≤ (zs.flatMap f).length := by
  have hi : i < zs.length := (List.getElem?_eq_some_iff.mp h).1
  have e : zs = zs.take i ++ z :: zs.drop (i + 1) := by
    have e1 := (List.take_append_drop i zs).symm
    rw [List.drop_eq_getElem_cons hi, (List.getElem?_eq_some_iff.mp h).2] at e1
    exact e1
  have e2 : zs.flatMap f = (zs.take i).flatMap f ++ (f z ++ (zs.drop (i + 1)).flatMap f) := by
    conv => lhs; rw [e]
    rw [List.flatMap_append, List.flatMap_cons]
  rw [e2, List.length_append, List.length_append]
  omega
theorem lcx2 {α β : Type} (zs : List α) (f : α → D) (us : α → List β) (f1 : α → β → D) (g : α → β → D) (own : List (Str × Nat)) (vs1 : List Nat)
    (hi : IX X tg iter r (zs.map f)) (hN : X.N = N) (hsc : X.env.scope = sc) (hb : blkC N sc scope own = true) (hv1 : ∀ i ∈ vs1, i ∈ own.map (·.2)) (hlv : LeV (relabel scope X.env) r rw_) (how : ∀ i ∈ own.map (·.2), ∃ n, rw_[i]? = some (n, none))
    (hz : (zs.flatMap us).length < sizeLine) (body : ∀ z ∈ zs, Turn2 X elt tg tg1 iter1 scope own vs1 rw_ (f z) (us z) (f1 z) (g z)) :
    LCX2 X elt tg iter tg1 iter1 scope r (zs.flatMap fun z => (us z).map (g z)) := by
  refine ⟨own, vs1, WI X tg iter, fun v σ H Q => AllBlk X scope fun Y => WG Y tg v σ H Q, fun σ H R => AllBlk X scope fun Y => WI Y tg1 iter1 σ H R, fun v σ H Q => AllBlk X scope fun Y => WG Y tg1 v σ H Q, fun σ H Q => AllBlk X scope fun Y => WE Y elt σ H Q, pi_w X tg iter, by rw [hN, hsc]; exact blkOk_by hb, hv1,
    fun s H C cl fp => ⟨fun pins s' σ H' v u Q I r h => h s H C cl fp pins s' u I r⟩, fun s H C cl fp => ⟨fun pins s' σ H' Q I h => h s H C cl fp pins s' I⟩, fun s H C cl fp => ⟨fun pins s' σ H' v u Q I r h => h s H C cl fp pins s' u I r⟩, fun s H C cl fp => ⟨fun pins s' σ H' Q I h => h s H C cl fp pins s' I⟩, ?_⟩
  intro C L σ H Q dm I q
  have CB : AllBlk X scope fun Y => CxN Y rw_ := fun s H' c cl fp => ⟨by show X.N = _; rw [hlv.le.names]; exact C.names, C.nd, C.dbg, fun p hp hs => hlv.vis.mem p hp hs, C.calm⟩
  refine hi C L σ H _ dm I fun J H1 s1 W => ?_
  intro Dd hD
  have hlen : (zs.map f).length = zs.length := List.length_map ..
  let out : α → List D := fun z => (us z).map (g z)
  have hlenO : (zs.flatMap out).length = (zs.flatMap us).length := by
    rw [List.length_flatMap, List.length_flatMap]
    congr 1
    exact List.map_congr_left fun z _ => List.length_map ..
  let Pv : List D → Hp → Prop := fun es H2 => Same H1 H2 ∧ ∃ acc, H2 Dd = some (.lst acc) ∧ IsL X.K (hid H2 (Dd :: L)) acc es
  refine ⟨fun i m H2 => m = zs.length - i ∧ i ≤ zs.length ∧ Pv ((zs.take i).flatMap out) H2, ⟨zs.length, by simp, Nat.zero_le _, same_new hD, [], upd_same, by simp; exact .nil⟩, ?_⟩
  rintro i m H2 ⟨rfl, hle2, s2, acc, hacc, lacc⟩
  have w2 : Same (hid H1 L) (hid H2 (Dd :: L)) := hid_new hD s2
  by_cases hlt : i < zs.length
  · refine .inr ⟨W.go (Dd :: L) i H2 (by rw [hlen]; exact hlt) w2, Pv ((zs.take (i + 1)).flatMap out), fun H' p' => ⟨zs.length - (i + 1), by omega, rfl, hlt, p'⟩, fun x H3 y3 => ?_⟩
    obtain ⟨r1, hg, hw1, hi1, hin⟩ := (body zs[i] (List.getElem_mem hlt)).ex
    have hzi : zs[i]? = some zs[i] := List.getElem?_eq_getElem hlt
    generalize zs[i] = z at hg hw1 hi1 hin hzi
    have dm2 : Dom (Dd :: L) H2 := dom_cons (dm.mono (s1.trans s2)) hacc
    obtain ⟨s3, ix⟩ := W.yld (Dd :: L) i H2 x H3 (f z) dm2 w2 (by rw [List.getElem?_map, hzi]; rfl) y3
    have I3 : IsE X.K (hid H3 (Dd :: L)) (wipe σ (own.map (·.2))) rw_ := by
      have I1 : IsE X.K (hid H3 (Dd :: L)) σ r := I.mono ((hid_mono s1).trans (w2.trans (hid_mono s3)))
      exact (I1.le hlv.le).wipe _ how
    intro s0 H0 c cl fp
    refine (hg s0 H0 c cl fp (CB s0 H0 c cl fp)).2 (Dd :: L) _ H3 x _ I3 ix fun σ4 I4 w4 => ?_
    refine ⟨(w4 _ fun i hi => hi).trans (wipe_wipe _ _), ?_⟩
    have C4 : AllBlk X scope fun Y => CxN Y r1 := fun s H' c cl fp => (hg s H' c cl fp (CB s H' c cl fp)).1
    have dm3 := dm2.mono s3
    refine Eq.mpr (if_pos rfl) ?_
    intro s0 H0 c cl fp
    refine hi1 s0 H0 c cl fp (C4 s0 H0 c cl fp) (Dd :: L) σ4 H3 _ dm3 I4 fun J1 H4 s4 W1 => ?_
    have hl1 : ((us z).map (f1 z)).length = (us z).length := List.length_map ..
    have hacc4 : H4 Dd = some (.lst acc) := s4 _ _ (s3 _ _ hacc)
    let Pw : Nat → Hp → Prop := fun j H5 => Same (hid H4 (Dd :: L)) (hid H5 (Dd :: L)) ∧ Same H1 H5 ∧ ∃ acc, H5 Dd = some (.lst acc) ∧ IsL X.K (hid H5 (Dd :: L)) acc ((zs.take i).flatMap out ++ ((us z).take j).map (g z))
    refine ⟨fun j k H5 => k = (us z).length - j ∧ j ≤ (us z).length ∧ Pw j H5, ⟨(us z).length, rfl, Nat.zero_le _, Same.refl _, (s2.trans s3).trans s4, acc, hacc4, by
      rw [List.take_zero, List.map_nil, List.append_nil]; exact lacc.mono (hid_mono (s3.trans s4))⟩, ?_⟩
    rintro j k H5 ⟨rfl, hj, w5, s5, acc5, hacc5, lacc5⟩
    have dm5 : Dom (Dd :: L) H5 := dom_cons (dm.mono (s1.trans s5)) hacc5
    by_cases hjl : j < (us z).length
    · refine .inr ⟨W1.go (Dd :: L) j H5 (by rw [hl1]; exact hjl) w5, Pw (j + 1), fun H' p' => ⟨(us z).length - (j + 1), by omega, rfl, hjl, p'⟩, fun x5 H6 y6 => ?_⟩
      obtain ⟨r2, hg2, hel⟩ := hin (us z)[j] (List.getElem_mem hjl)
      have hyj : (us z)[j]? = some (us z)[j] := List.getElem?_eq_getElem hjl
      generalize (us z)[j] = y at hg2 hel hyj
      obtain ⟨s6, ix6⟩ := W1.yld (Dd :: L) j H5 x5 H6 (f1 z y) dm5 w5 (by rw [List.getElem?_map, hyj]; rfl) y6
      have I6 : IsE X.K (hid H6 (Dd :: L)) (wipe σ4 vs1) r1 := (I4.mono ((hid_mono s4).trans (w5.trans (hid_mono s6)))).wipe _ hw1
      intro s0 H0 c cl fp
      refine (hg2 s0 H0 c cl fp (C4 s0 H0 c cl fp)).2 (Dd :: L) _ H6 x5 _ I6 ix6 fun σ7 I7 w7 => ?_
      refine ⟨(w7 _ fun i hi => hi).trans (wipe_wipe _ _), ?_⟩
      have C7 : AllBlk X scope fun Y => CxN Y r2 := fun s H' c cl fp => (hg2 s H' c cl fp (C4 s H' c cl fp)).1
      refine Eq.mpr (if_pos rfl) ?_
      intro s0 H0 c cl fp
      refine hel s0 H0 c cl fp (C7 s0 H0 c cl fp) (Dd :: L) σ7 H6 _ (dm5.mono s6) I7 fun u H8 s8 iu => ?_
      have hacc8 : H8 Dd = some (.lst acc5) := s8 _ _ (s6 _ _ hacc5)
      refine ⟨acc5, hacc8, ?_, ?_, ?_, acc5 ++ [u], upd_same, ?_⟩
      · have h1 := lacc5.length
        rw [List.length_append, List.length_map, List.length_take] at h1
        have h2 := flat_take_le out zs i z hzi (j + 1) (by show j + 1 ≤ ((us z).map (g z)).length; rw [List.length_map]; exact hjl)
        omega
      · rw [hid_upd List.mem_cons_self]
        exact w5.trans ((hid_mono s6).trans (hid_mono s8))
      · intro a o ho
        have ha : a ≠ Dd := ne_of_none ho hD
        rw [upd_ne ha]
        exact s8 _ _ (s6 _ _ (s5 _ _ ho))
      · rw [hid_upd List.mem_cons_self, take_snoc (g z) (us z) j y hyj, ← List.append_assoc]
        exact isL_snoc (lacc5.mono (hid_mono (s6.trans s8))) iu
    · have e : j = (us z).length := by omega
      subst e
      refine .inl ⟨by have := W1.stop (Dd :: L) H5 w5; rw [hl1] at this; exact this, s5, acc5, hacc5, ?_⟩
      rw [List.take_length] at lacc5
      rw [flat_snoc out zs i z hzi]
      exact lacc5
  · have e : i = zs.length := by omega
    subst e
    refine .inl ⟨by have := W.stop (Dd :: L) H2 w2; rw [hlen] at this; exact this, ?_⟩
    rw [List.take_length] at lacc
    exact q Dd acc H2 (Same.free s1 hD) (s1.trans s2) hacc lacc
theorem fx_lc2 {es : List D} (h : LCX2 X elt tg iter tg1 iter1 scope r es) (hs : ∀ x, foldedSetIterable iter X.env x = pure x) (hs1 : ∀ env x, foldedSetIterable iter1 env x = pure x) : FX X (.ListComp elt [⟨tg, iter, [], 0⟩, ⟨tg1, iter1, [], 0⟩] scope pos) r es := by
  constructor
  intro C L σ H Q dm I q
  obtain ⟨own, vs1, wi, g, wi1, g1, te, hi, ok, hv, hg, hi1, hg1, he, run⟩ := h.ex
  exact we_of (pe_lc2 C.calm C.nd hi ok hv hg (fun _ _ _ _ _ => pts_nil) hi1 hg1 (fun _ _ _ _ _ => pts_nil) he hs hs1) (run C L σ H Q dm I q)
theorem slx_lc2 {y : Str} {py spos : Pos} {es : List D} (h : LCX2 X elt tg iter tg1 iter1 scope r es) (hs : ∀ x, foldedSetIterable iter X.env x = pure x) (hs1 : ∀ env x, foldedSetIterable iter1 env x = pure x) (hyl : X.env.scope.names.lookup y = some .local)
    (hsw : swapsWith (.ListComp elt [⟨tg, iter, [], 0⟩, ⟨tg1, iter1, [], 0⟩] scope pos) (some (.Name y py)) spos.line X.env = pure true) : SLX X y py (.ListComp elt [⟨tg, iter, [], 0⟩, ⟨tg1, iter1, [], 0⟩] scope pos) spos r es := by
  constructor
  intro C i L σ H E hy dm I q
  obtain ⟨own, vs1, wi, g, wi1, g1, te, hi, ok, hv, hg, hi1, hg1, he, run⟩ := h.ex
  exact w1_of (ps_setLc2 C.calm C.nd hy hyl hsw hi ok hv hg (fun _ _ _ _ _ => pts_nil) hi1 hg1 (fun _ _ _ _ _ => pts_nil) he hs hs1) (run C L σ H _ dm I q)
end
end SB
namespace SB
set_option maxRecDepth 100000
open PySem PySem.Spec PyProof.Rows L2
section
variable {X : Cx} {e : Expr} {es : List Expr} {x : Str} {r : Rho} {d : D} {ds ys : List D} {p pos : Pos} {elt tg iter : Expr} {ifs : List Expr} {scope sc : Scope} {N : List Str} {rw_ : Rho} {own : List (Str × Nat)}
theorem g_call {fn : Expr} {kws : List Keyword} (h : EX X (.Call fn es kws pos) r d) : EX X (.Call fn es kws pos) r d := h
theorem prop_is {p : Prop} (h : p) : p := h
theorem imp_is {k b : Bool} {p : Prop} (h : k = b → p) : k = b → p := h
theorem nm_is {Y : Cx} {N : List Str} (h : Y.N = N) : Y.N = N := h
theorem sc_is {Y : Cx} {sc : Scope} (h : Y.env.scope = sc) : Y.env.scope = sc := h
theorem bc_is {N : List Str} {sc sc2 : Scope} {own : List (Str × Nat)} (h : blkC N sc sc2 own = true) : blkC N sc sc2 own = true := h
theorem lv_is {s : Rho} {sc : Scope} (h : LeV sc r s) : LeV sc r s := h
theorem hw_is {js : List Nat} {s : Rho} (h : ∀ i ∈ js, ∃ n, s[i]? = some (n, none)) : ∀ i ∈ js, ∃ n, s[i]? = some (n, none) := h
theorem sj_is {js ks : List Nat} (h : ∀ i ∈ js, i ∈ ks) : ∀ i ∈ js, i ∈ ks := h
theorem g_IX (h : IX X tg iter r ys) : IX X tg iter r ys := h
theorem g_T1 {k : Bool} {d' : D} (h : Turn1 X elt tg ifs scope own rw_ d k d') : Turn1 X elt tg ifs scope own rw_ d k d' := h
theorem ab_is' {P : Cx → Prop} (h : AllBlk X scope P) : AllBlk X scope P := h
theorem iw_is {e : Expr} {env : Env} {g : Sem Value → Sem Bool} (h : ∀ v, PySem.isTrue e env v = g v) : ∀ v, PySem.isTrue e env v = g v := h
theorem o_white {c : Col} : Op2 X (compareOp .Eq) (colD c) (.str "white") (.bl (decide (c = .white))) := by rw [← colS_white]; exact o_eqs
theorem o_grey {c : Col} : Op2 X (compareOp .Eq) (colD c) (.str "grey") (.bl (decide (c = .grey))) := by rw [← colS_grey]; exact o_eqs
theorem o_black {c : Col} : Op2 X (compareOp .Eq) (colD c) (.str "black") (.bl (decide (c = .black))) := by rw [← colS_black]; exact o_eqs
theorem colS_nwhite (c : Col) : decide (colS c = ("white" : Str)) = decide (c = .white) := colS_white c
theorem o_nwhite {c : Col} : Op2 X (compareOp .NotEq) (colD c) (.str "white") (.bl (!decide (c = .white))) := by rw [← colS_white]; exact o_nes
theorem o_ngrey {c : Col} : Op2 X (compareOp .NotEq) (colD c) (.str "grey") (.bl (!decide (c = .grey))) := by rw [← colS_grey]; exact o_nes
theorem mg_is {m : Option Value} (h : m = none) : m = none := h
theorem g_CD {f : Value} (h : CallD X f ds d) : CallD X f ds d := h
theorem g_CF {f : Value} (h : CallF X f ds ys) : CallF X f ds ys := h
theorem ex_cB {id : String} (hv : bootBuiltins x = some (.builtin id)) (hg : Gl X x) (hm : X.mg x = none) (hn : x ≠ "__name__") (hdb : (x == ("__debug__" : Str)) = false)
    (he : starEach (e :: es) X.env = (false, eval e X.env) :: starEach es X.env) (hpl : (backTo pos (starEach es X.env)).any (·.1) = false) (ha : AX X (e :: es) r ds) (hc : CallD X (.builtin id) ds d) :
    EX X (.Call (.Name x p) (e :: es) [] pos) r d := ex_callB hc ha hg hm hv hn hdb he hpl
theorem ex_cT {id : String} (hv : bootBuiltins x = some (.type id)) (hg : Gl X x) (hm : X.mg x = none) (hn : x ≠ "__name__") (hdb : (x == ("__debug__" : Str)) = false)
    (he : starEach (e :: es) X.env = (false, eval e X.env) :: starEach es X.env) (hpl : (backTo pos (starEach es X.env)).any (·.1) = false) (ha : AX X (e :: es) r ds) (hc : CallD X (.type id) ds d) :
    EX X (.Call (.Name x p) (e :: es) [] pos) r d := ex_callTy hc ha hg hm hv hn hdb he hpl
theorem fx_cB {id : String} (hv : bootBuiltins x = some (.builtin id)) (hg : Gl X x) (hm : X.mg x = none) (hn : x ≠ "__name__") (hdb : (x == ("__debug__" : Str)) = false)
    (he : starEach (e :: es) X.env = (false, eval e X.env) :: starEach es X.env) (hpl : (backTo pos (starEach es X.env)).any (·.1) = false) (ha : AX X (e :: es) r ds) (hc : CallF X (.builtin id) ds ys) :
    FX X (.Call (.Name x p) (e :: es) [] pos) r ys := fx_callB hc ha hg hm hv hn hdb he hpl
theorem fx_cT {id : String} (hv : bootBuiltins x = some (.type id)) (hg : Gl X x) (hm : X.mg x = none) (hn : x ≠ "__name__") (hdb : (x == ("__debug__" : Str)) = false)
    (he : starEach (e :: es) X.env = (false, eval e X.env) :: starEach es X.env) (hpl : (backTo pos (starEach es X.env)).any (·.1) = false) (ha : AX X (e :: es) r ds) (hc : CallF X (.type id) ds ys) :
    FX X (.Call (.Name x p) (e :: es) [] pos) r ys := fx_callTy hc ha hg hm hv hn hdb he hpl
theorem callD_F {f : Value} (h : CallF X f ds ys) : CallD X f ds (.lst ys) := by
  obtain ⟨rr, h1, h2⟩ := h
  exact ⟨rr, h1, fun L H xs Q dm i q => h2 L H xs Q dm i fun p ys' H' n s hp l => q _ H' s (.lst (hid_of hp (dm.fresh n)) (l.mono hid_cons))⟩
theorem ex_lst (h : AX X es r ds) (hz : ds.length ≤ sizeLine) : EX X (.List es pos) r (.lst ds) := ex_of_fx (fx_lst h hz)
theorem ex_lc {elt : Expr} {gens} (h : FX X (.ListComp elt gens scope pos) r ds) : EX X (.ListComp elt gens scope pos) r (.lst ds) := ex_of_fx h
theorem map_get {α β : Type} {f : α → β} {xs : List α} {i : Nat} {d : β} (h : (xs.map f)[i]? = some d) : ∃ x, xs[i]? = some x ∧ d = f x := by
  rw [List.getElem?_map] at h
  cases q : xs[i]? with
  | none => rw [q] at h; cases h
  | some x => rw [q] at h; exact ⟨x, rfl, (Option.some.inj h).symm⟩
/-- a loop that leaves at the first item of which q is true -/
theorem sx_find {α : Type} {body rest : List Stmt} {e0 : Env'} {o : Out} (zs : List α) (f : α → D) (q : α → Bool) (hn : ∀ e, o ≠ .nx e) (hi : IX X tg iter (hd' e0) (zs.map f))
    (turn : ∀ z ∈ zs, ∃ e1, GE X tg e0 (f z) e1 ∧ SX X body e1 (if q z = true then o else .nx e0)) (done : (∀ z ∈ zs, q z = false) → SX X rest e0 o)
    (hs : ∀ x, foldedSetIterable iter X.env x = pure x) (hpo : PassesOwn (model X.prog X.w) X.A X.env X.xe) : SX X (.For tg iter body [] pos :: rest) e0 o := by
  refine sx_forr (ys := zs.map f) (zs.findIdx q) (fun _ => e0) hi (by rw [List.length_map]; exact List.findIdx_le_length) hn (fun i d hk hd => ?_) (fun d hd => ?_) (fun hl => done fun z hz => ?_) hs hpo
  · obtain ⟨z, hz, rfl⟩ := map_get hd
    have hq := List.not_of_lt_findIdx hk
    have e : zs[i]'(by exact (List.getElem?_eq_some_iff.mp hz).1) = z := (List.getElem?_eq_some_iff.mp hz).2
    rw [e] at hq
    obtain ⟨e1, g, b⟩ := turn z (List.mem_of_getElem? hz)
    exact ⟨e1, g, by rw [if_neg (by rw [hq]; simp)] at b; exact b⟩
  · obtain ⟨z, hz, rfl⟩ := map_get hd
    have hl : zs.findIdx q < zs.length := (List.getElem?_eq_some_iff.mp hz).1
    have hq : q zs[zs.findIdx q] = true := List.findIdx_getElem
    have e : zs[zs.findIdx q] = z := (List.getElem?_eq_some_iff.mp hz).2
    rw [e] at hq
    obtain ⟨e1, g, b⟩ := turn z (List.mem_of_getElem? hz)
    exact ⟨e1, g, by rw [if_pos hq] at b; exact b⟩
  · rw [List.length_map] at hl
    cases hq : q z with
    | false => rfl
    | true =>
      have := List.findIdx_lt_length_of_exists ⟨z, hz, hq⟩
      omega
/-- if c: leave, the last of a turn -/
theorem sx_iff {c : Expr} {a : List Stmt} {e0 e1 : Env'} {o : Out} {k : Bool} (hc : TX X c (rd e1) k) (h1 : k = true → SX X a e1 o) (h2 : LeE e1 e0) : SX X [.If c a [] pos] e1 (if k = true then o else .nx e0) := by
  refine sx_one (s1_if hc (fun h => ?_) fun h => ?_)
  · rw [if_pos h]; exact h1 h
  · rw [if_neg (by rw [h]; simp)]; exact sx_nile h2
/-- a comprehension without tests, typed -/
theorem lc_mapc {α β : Type} (own : List (Str × Nat)) (N : List Str) (sc : Scope) (zs : List α) (f : α → D) (c : β → D) (h : α → β) (hi : IX X tg iter r (zs.map f)) (hN : X.N = N) (hsc : X.env.scope = sc) (hb : blkC N sc scope own = true) (hlv : LeV (relabel scope X.env) r rw_)
    (how : ∀ i ∈ own.map (·.2), ∃ n, rw_[i]? = some (n, none)) (hs : ∀ x, foldedSetIterable iter X.env x = pure x) (hz : zs.length < sizeLine) (body : ∀ z ∈ zs, Turn1 X elt tg [] scope own rw_ (f z) true (c (h z))) : FX X (.ListComp elt [⟨tg, iter, [], 0⟩] scope pos) r ((zs.map h).map c) := by
  have := lc_map (elt := elt) zs f (fun z => c (h z)) own hi hN hsc hb hlv how hz body
  rw [List.map_map]
  exact fx_lc this hs
/-- a comprehension with a test, typed -/
theorem lc_filc {α β : Type} {t : Expr} (own : List (Str × Nat)) (N : List Str) (sc : Scope) (zs : List α) (f : α → D) (pr : α → Bool) (c : β → D) (h : α → β) (hi : IX X tg iter r (zs.map f)) (hN : X.N = N) (hsc : X.env.scope = sc) (hb : blkC N sc scope own = true) (hlv : LeV (relabel scope X.env) r rw_)
    (how : ∀ i ∈ own.map (·.2), ∃ n, rw_[i]? = some (n, none)) (hs : ∀ x, foldedSetIterable iter X.env x = pure x) (hz : zs.length < sizeLine) (body : ∀ z ∈ zs, Turn1 X elt tg [t] scope own rw_ (f z) (pr z) (c (h z))) : FX X (.ListComp elt [⟨tg, iter, [t], 0⟩] scope pos) r (((zs.filter pr).map h).map c) := by
  have := lc_gen (elt := elt) zs f pr (fun z => c (h z)) own hi hN hsc hb hlv how hz body
  rw [List.map_map]
  exact fx_lc this hs
theorem ix_tupl {α : Type} {zs : List α} {f : α → D} (h : EX X iter r (.tup (zs.map f))) : IX X tg iter r (zs.map f) := ix_tup h
theorem ix_lstl {α : Type} {zs : List α} {f : α → D} (h : EX X iter r (.lst (zs.map f))) : IX X tg iter r (zs.map f) := ix_lst h
end
end SB
namespace SB
set_option maxRecDepth 100000
open PySem PySem.Spec PyProof.Rows L2
section
variable {X : Cx} {e : Expr} {es : List Expr} {x : Str} {r : Rho} {d d1 d2 : D} {ds ys : List D} {p pos : Pos} {elt tg iter : Expr} {ifs : List Expr} {scope sc : Scope} {N : List Str} {rw_ : Rho} {own : List (Str × Nat)}
theorem op2_F {f : Value → Value → Sem Value} (h : Op2F X f d1 d2 ds) : Op2 X f d1 d2 (.lst ds) := by
  obtain ⟨rr, h1, h2⟩ := h
  exact ⟨rr, h1, fun L H u v Q dm i j q => h2 L H u v Q dm i j fun p ys' H' n s hp l => q _ H' s (.lst (hid_of hp (dm.fresh n)) (l.mono hid_cons))⟩
/-- [x] * int(b) -/
theorem o_repb {b : Bool} : Op2F X (binaryOp .Mult) (.lst [d]) (.int (if b then 1 else 0)) (if b then [d] else []) := by
  have h := o_repl (X := X) (xs := [d]) (k := if b then 1 else 0) (by cases b <;> decide) (by cases b <;> decide) (by cases b <;> exact Nat.le_of_ble_eq_true rfl)
  cases b <;> exact h
theorem isNon_opt (o : Option Nat) : isNonD (optD o) = o.isNone := by cases o <;> rfl
theorem o_isNo {o : Option Nat} : Op2 X (compareOp .Is) (optD o) .non (.bl o.isNone) := by rw [← isNon_opt]; exact o_isN
theorem o_notNo {o : Option Nat} : Op2 X (compareOp .IsNot) (optD o) .non (.bl o.isSome) := by
  have h : o.isSome = !isNonD (optD o) := by cases o <;> rfl
  rw [h]; exact o_notN
theorem sl_mapc {α β : Type} {y : Str} {py spos : Pos} (own : List (Str × Nat)) (N : List Str) (sc : Scope) (zs : List α) (f : α → D) (c : β → D) (h : α → β) (hi : IX X tg iter r (zs.map f)) (hN : X.N = N) (hsc : X.env.scope = sc) (hb : blkC N sc scope own = true) (hlv : LeV (relabel scope X.env) r rw_)
    (how : ∀ i ∈ own.map (·.2), ∃ n, rw_[i]? = some (n, none)) (hs : ∀ x, foldedSetIterable iter X.env x = pure x) (hyl : X.env.scope.names.lookup y = some .local)
    (hsw : swapsWith (.ListComp elt [⟨tg, iter, [], 0⟩] scope pos) (some (.Name y py)) spos.line X.env = pure true) (hz : zs.length < sizeLine) (body : ∀ z ∈ zs, Turn1 X elt tg [] scope own rw_ (f z) true (c (h z))) : SLX X y py (.ListComp elt [⟨tg, iter, [], 0⟩] scope pos) spos r ((zs.map h).map c) := by
  have := lc_map (elt := elt) zs f (fun z => c (h z)) own hi hN hsc hb hlv how hz body
  rw [List.map_map]
  exact slx_lc this hs hyl hsw
theorem sl_filc {α β : Type} {t : Expr} {y : Str} {py spos : Pos} (own : List (Str × Nat)) (N : List Str) (sc : Scope) (zs : List α) (f : α → D) (pr : α → Bool) (c : β → D) (h : α → β) (hi : IX X tg iter r (zs.map f)) (hN : X.N = N) (hsc : X.env.scope = sc) (hb : blkC N sc scope own = true) (hlv : LeV (relabel scope X.env) r rw_)
    (how : ∀ i ∈ own.map (·.2), ∃ n, rw_[i]? = some (n, none)) (hs : ∀ x, foldedSetIterable iter X.env x = pure x) (hyl : X.env.scope.names.lookup y = some .local)
    (hsw : swapsWith (.ListComp elt [⟨tg, iter, [t], 0⟩] scope pos) (some (.Name y py)) spos.line X.env = pure true) (hz : zs.length < sizeLine) (body : ∀ z ∈ zs, Turn1 X elt tg [t] scope own rw_ (f z) (pr z) (c (h z))) : SLX X y py (.ListComp elt [⟨tg, iter, [t], 0⟩] scope pos) spos r (((zs.filter pr).map h).map c) := by
  have := lc_gen (elt := elt) zs f pr (fun z => c (h z)) own hi hN hsc hb hlv how hz body
  rw [List.map_map]
  exact slx_lc this hs hyl hsw
theorem slx_is {y : Str} {py spos : Pos} (h : SLX X y py e spos r ds) (e1 : ds = ys) : SLX X y py e spos r ys := e1 ▸ h
/-- the items with their places -/
def numb {α : Type} (f : α → D) (a : α) (xs : List α) (i : Nat) : D := .tup [natD i, f (xs.getD i a)]
theorem pairs_numb {α : Type} (f : α → D) (a : α) (xs : List α) : pairs (rngD (xs.map f).length) (xs.map f) = (List.range xs.length).map (numb f a xs) := by
  unfold pairs rngD numb
  apply List.ext_getElem?
  intro i
  rw [List.length_map, List.getElem?_zipWith, List.getElem?_map, List.getElem?_map, List.getElem?_map]
  by_cases h : i < xs.length
  · rw [List.getElem?_range h, List.getElem?_eq_getElem h]
    simp [h]
  · rw [List.getElem?_eq_none (by rw [List.length_range]; omega), List.getElem?_eq_none (by omega)]
    rfl
theorem ix_enumc {α : Type} {elts : List Expr} {kk : Nat} {tpos : Pos} (f : α → D) (a : α) (xs : List α) (h : EX X e r (.tup (xs.map f))) (hg : Gl X "enumerate") (hm : X.mg "enumerate" = none) (hs : starEach [e] X.env = [(false, eval e X.env)]) :
    IX X (.Tuple elts kk tpos) (.Call (.Name "enumerate" p) [e] [] pos) r ((List.range xs.length).map (numb f a xs)) := by
  rw [← pairs_numb]
  exact ix_enum h hg hm hs
theorem ix_rangec {n : Nat} (h : EX X e r (.int (n : Int))) (hz : n < 1000000) (hg : Gl X "range") (hm : X.mg "range" = none) (hs : starEach [e] X.env = [(false, eval e X.env)]) : IX X tg (.Call (.Name "range" p) [e] [] pos) r ((List.range n).map natD) := ix_range h hz hg hm hs
theorem zip_numb {α β : Type} (f : α → D) (g : β → D) (a : α) (b : β) (xs : List α) (ys : List β) (hl : xs.length = ys.length) : pairs (xs.map f) (ys.map g) = (List.range xs.length).map fun i => .tup [f (xs.getD i a), g (ys.getD i b)] := by
  unfold pairs
  apply List.ext_getElem?
  intro i
  rw [List.getElem?_zipWith, List.getElem?_map, List.getElem?_map, List.getElem?_map]
  by_cases h : i < xs.length
  · have h2 : i < ys.length := by omega
    rw [List.getElem?_range h, List.getElem?_eq_getElem h, List.getElem?_eq_getElem h2]
    simp [h, h2]
  · have h1 : xs[i]? = none := List.getElem?_eq_none (by omega)
    have h2 : ys[i]? = none := List.getElem?_eq_none (by omega)
    have h3 : (List.range xs.length)[i]? = none := List.getElem?_eq_none (by rw [List.length_range]; omega)
    rw [h1, h2, h3]
    rfl
theorem g_SL {y : Str} {py spos : Pos} (h : SLX X y py e spos r ds) : SLX X y py e spos r ds := h
end
theorem sx_pre {X : Cx} {sts : List Stmt} {e e' : Env'} {o : Out} (h : SX X sts e' o) (l : LeE e e') : SX X sts e o := by
  constructor
  intro C
  obtain ⟨C1, g⟩ := h (CxN.le C l.rd)
  refine ⟨C1, fun L A σ H E dm nd nl ow p => ?_⟩
  obtain ⟨A2, sub, ow2⟩ := ow.le l
  refine g L A2 σ H E dm (sub.nodup nd) (fun a ha => nl a (sub.subset ha)) (ow2.mono (sub_hide fun a ha => sub.subset ha) fun a _ o h => h) (p.next (Fram.refl A H) fun a ha => .inl (sub.subset ha))
theorem imm_ifl {b : Bool} {d : D} (h : Imm d = true) : ImmL (if b = true then [d] else []) = true := by
  cases b
  · rfl
  · simp [ImmL, h]
theorem imm_opt (o : Option Nat) : Imm (optD o) = true := by cases o <;> rfl
theorem imm_stp (t : Stp) : Imm (stpD t) = true := by
  cases t <;> simp [Imm, ImmL, imm_opt]
theorem imm_sta (S : Sta) : Imm (staD S) = true := by
  have h1 : ImmL (S.slots.map rowD) = true := immL_map (fun r => by simp only [rowD, Imm]; exact immL_map imm_opt r) _
  have h2 : ImmL (S.cols.map colD) = true := immL_map (fun _ => rfl) _
  have h3 : ImmL (S.held.map heldD) = true := immL_map (fun r => by simp only [heldD, Imm]; exact immL_map (fun _ => rfl) r) _
  have h4 : ImmL (S.sc.map D.bl) = true := immL_map (fun _ => rfl) _
  simp [staD, Imm, ImmL, h1, h2, h3, h4]
theorem immL_nat (l : List Nat) : ImmL (l.map natD) = true := immL_map (fun _ => rfl) _
theorem immL_opt (l : List (Option Nat)) : ImmL (l.map optD) = true := immL_map imm_opt _
theorem immL_stp (l : List Stp) : ImmL (l.map stpD) = true := immL_map imm_stp _
theorem immL_mk (l : List Mk) : ImmL (l.map mkD) = true := immL_map Cd.imm _
/-- a loop over what is known, one env for each turn -/
theorem sx_forc {X : Cx} {α : Type} {tg iter : Expr} {body rest : List Stmt} {pos : Pos} {o : Out} (zs : List α) (f : α → D) (es : Nat → Env') (hi : IX X tg iter (hd' (es 0)) (zs.map f)) (turn : ∀ k z, zs[k]? = some z → ∃ e1, GE X tg (es k) (f z) e1 ∧ SX X body e1 (.nx (es (k + 1))))
    (done : SX X rest (es zs.length) o) (hs : ∀ x, foldedSetIterable iter X.env x = pure x) (hpo : PassesOwn (model X.prog X.w) X.A X.env X.xe) : SX X (.For tg iter body [] pos :: rest) (es 0) o := by
  refine sx_for es hi (fun k d hd => ?_) (by rw [List.length_map]; exact done) hs hpo
  obtain ⟨z, hz, rfl⟩ := map_get hd
  exact turn k z hz
end SB
namespace SB
set_option maxRecDepth 100000
set_option maxHeartbeats 0
open PySem PySem.Spec PyProof.Rows L2
/-! ### a set that grows, item by item, whatever the items are -/
section
variable {P : Program} {w : World} {A : Around} {E : Value → Shared → Prop} {s : Shared}
abbrev Old (h0 h : Heap) : Prop := ∀ b o, h0.get? b = some o → h.get? b = some o
/-- T i: what the set is behind i items -/
structure Grows (P : Program) (w : World) (A : Around) (h0 : Heap) (S : Addr) (vs : List Value) (T : Nat → Heap → Prop) : Prop where
  keep : ∀ i h h', T i h → (∀ o, h.get? S = some o → h'.get? S = some o) → Old h0 h' → T i h'
  add : ∀ i v (s : Shared) (Q : Bool → Shared → Prop) (E : Value → Shared → Prop), vs[i]? = some v → T i s.heap → Old h0 s.heap →
    (∀ b h' tk, Heap.SameBut S s.heap h' → s.toks ≤ tk → T (i + 1) h' → Q b { s with heap := h', toks := tk }) → wpAny (model P w) A (setAdd S v) Q E s
theorem grow_loop {I : Addr} {fp wr : List Addr} {G : Array GenState → Array GenState → Prop} {Pv : Nat → Value → Prop} {St : Nat → Shared → Prop} {R : Result → Shared → Prop} {h0 : Heap} {S : Addr} {vs : List Value} {T : Nat → Heap → Prop}
    {n : Nat} (hn : n = vs.length) (W : WalksS P w A.in1 I fp wr G n Pv St) (gr : Grows P w A.in1 h0 S vs T) (apart : S ∉ fp) (items : ∀ i v, Pv i v → vs[i]? = some v) (fresh : h0.get? S = none) (own : ∀ b ∈ wr, h0.get? b = none) :
    ∀ (todo i : Nat) (s : Shared), vs.length - i = todo → i ≤ vs.length → St i s → Old h0 s.heap → T i s.heap →
      (∀ s', Moved (S :: wr) G s s' → Old h0 s'.heap → T vs.length s'.heap → R (.ok (.ret .none)) s') → codeAny (model P w) A (.builtin "set.update.loop" ⟨[.ref S, .ref I], []⟩) R s := by
  have wider : ∀ {s s' : Shared}, Moved wr G s s' → Moved (S :: wr) G s s' := fun m => m.mono fun b hb => List.mem_cons_of_mem _ hb
  have away : S ∉ wr := fun h => apart (W.sub _ h)
  have older : ∀ {s s' : Shared}, Moved wr G s s' → Old h0 s.heap → Old h0 s'.heap := fun {s s'} m o b x e => m.heap b x (fun hb => by have := own b hb; rw [e] at this; cases this) (o b x e)
  subst hn
  intro todo
  induction todo with
  | zero =>
    intro i s ht hi st od tt fin
    obtain rfl : i = vs.length := by omega
    refine codeAny_builtin F.entry_set_update_loop ?_
    rw [Around.under_plainId F.plain_set_update_loop _]
    refine wpAny_bind (m := pyNext (.ref I)) (W.done s _ _ st fun s' m => ?_)
    show wpAny _ _ (ret Value.none) _ _ _
    exact wpAny_pure (fin s' (wider m) (older m od) (gr.keep _ _ _ tt (fun o e => m.heap S o away e) (older m od)))
  | succ todo ih =>
    intro i s ht hi st od tt fin
    have lt : i < vs.length := by omega
    refine codeAny_builtin F.entry_set_update_loop ?_
    rw [Around.under_plainId F.plain_set_update_loop _]
    refine wpAny_bind (m := pyNext (.ref I)) (W.item i s _ _ lt st fun v s' hv st' m => ?_)
    have od' := older m od
    refine wpAny_bind (m := holding [v] (setAdd S v)) (wpAny_holding (gr.add i v s' _ _ (items i v hv) (gr.keep _ _ _ tt (fun o e => m.heap S o away e) od') od' fun b h' tk sb tl t' => ?_))
    have od2 : Old h0 h' := fun b o e => (sb.2 b fun z => by rw [z, fresh] at e; cases e).trans (od' b o e)
    refine wpAny_pure ⟨plainId_quiet F.plain_set_update_loop _, ih (i + 1) _ (by omega) lt (W.frame _ s' _ _ st' tl fun c hc o e => ?_) od2 t' fun s'' m2 od3 t3 => ?_⟩
    · exact (sb.2 c fun z => apart (z ▸ hc)).trans e
    · exact fin s'' (Moved.trans W.gtrans ((wider m).then_heap tl fun c o hc e => (sb.2 c fun z => hc (z ▸ List.mem_cons_self)).trans e) m2) od3 t3
abbrev newSet (w : World) : Obj := { cls := .type "set", dict := none, data := .set #[] 0 (.fresh 0 0 (!w.params.followText "set-order")) }
/-- set(xs), xs a list -/
theorem set_of_list {l : Addr} {items : Array Value} {T : Nat → Heap → Prop} {Q : Value → Shared → Prop} (hh : A.handled = none) (hl : s.heap.IsList l items) (gr : ∀ A' : Around, A'.units ≤ A.units + 4 → Grows P w A' s.heap s.heap.objs.size items.toList T)
    (start : ∀ h : Heap, h.get? s.heap.objs.size = some (newSet w) → Old s.heap h → T 0 h) (fin : ∀ (h' : Heap) (tk : Nat), T items.size h' → Old s.heap h' → Q (.ref s.heap.objs.size) { s with heap := h', toks := tk }) :
    wpAny (model P w) A (call (.type "set") [.ref l]) Q E s := by
  obtain ⟨c0, t0, mro⟩ := F.called_set.mro
  have made := F.called_set.made
  have sub := F.called_set.sub
  refine wpAny_call (codeAny_of_tree ?_)
  show wpAny _ _ (callAny (.type "set") _) _ _ _
  refine wpAny_pure ⟨Code.quiet_builtin _ (by decide +kernel), codeAny_builtin F.entry_type_call ?_⟩
  rw [Around.under_plain (weight_type_call_type "set" [.ref l] []) rfl]
  have q1 := F.called_set.notType
  have q2 := F.called_set.canCreate
  have q3 := F.typeCall_set_1 (.ref l)
  repeat (any_goals (first | assumption | wp_step))
  refine codeAny_mono (code_set_led1 (.ref l) (E := E) (Q₁ := fun obj s₁ => obj = .ref s.heap.objs.size ∧ s₁ = { s with heap := s.heap.push (newSet w) }) ⟨rfl, rfl⟩) fun r s₁ hr => ?_
  cases r with
  | error e => exact hr
  | ok fl =>
    cases fl with
    | ret obj =>
      obtain ⟨rfl, rfl⟩ := hr
      have at0 : (s.heap.push (newSet w)).get? s.heap.objs.size = some (newSet w) := Heap.get?_push_size _ rfl
      have ty0 : Shared.TypeIs { s with heap := s.heap.push (newSet w) } (.ref s.heap.objs.size) "set" := ⟨_, at0, rfl⟩
      have i1 := F.called_set.init.lookup
      have i2 := F.called_set.init.bind (.ref s.heap.objs.size)
      repeat (any_goals (first | assumption | wp_step))
      refine codeAny_mono (codeAny_call_builtin (R := wants (fun r s₂ => r = .none ∧ ∃ h' tk, s₂ = { s with heap := h', toks := tk } ∧ T items.size h' ∧ Old s.heap h') E) F.called_set.init.plain F.entry_set_init (check_set_init_1 ty0 ?_)) fun r₂ s₂ hr₂ => ?_
      · obtain ⟨ol, hol, hcl, nl, hdl⟩ := hl
        obtain ⟨ocls, odict, odata, oslots⟩ := ol
        simp only at hcl hdl
        subst hcl; subst hdl
        have hol' : (s.heap.push (newSet w)).get? l = some { cls := .type "list", dict := odict, data := .seq items nl, slots := oslots } := Heap.get?_push_of_some _ hol
        have n1 := F.sub_list_set
        have n2 := F.sub_list_frozenset
        have n3 : (Value.type "list" == Value.type "dict") = false := by decide
        have isl : (s.heap.push (newSet w)).IsList l items := ⟨_, hol', rfl, nl, rfl⟩
        unfold Builtin.«set.__init__» noKeywords Builtin.Frozenset.updateFrom
        generalize hPI : pyIter = PI
        wp_walk
        subst hPI
        refine wpAny_pyIter_list isl ?_
        refine wpAny_bind (wpAny_runValue ?_)
        have lS : l < s.heap.objs.size := Heap.lt_size hol
        have quiet : A.in1.in1.in1.handled = none := by simp [hh]
        have sz : (s.heap.push (newSet w)).objs.size = s.heap.objs.size + 1 := Heap.size_push ..
        have lI : l ≠ (s.heap.push (newSet w)).objs.size := by rw [sz]; exact Nat.ne_of_lt (Nat.lt_succ_of_lt lS)
        have noneAt : ∀ b, s.heap.objs.size ≤ b → s.heap.get? b = none := fun b hb => by
          cases q : s.heap.get? b with
          | none => rfl
          | some o => exact absurd (Nat.lt_of_lt_of_le (Heap.lt_size q) hb) (Nat.lt_irrefl _)
        have W := (Walks.list (prog := P) (w := w) quiet (s.heap.push (newSet w)).objs.size l lI items).toS
        refine grow_loop (Array.length_toList ..).symm W (gr _ (by simp)) (by rw [sz]; simp only [List.mem_cons, List.not_mem_nil, or_false, not_or]; exact ⟨Nat.ne_of_lt (Nat.lt_succ_self _), Nat.ne_of_gt lS⟩) (fun i v hv => by rw [Array.getElem?_toList]; exact hv) (noneAt _ (Nat.le_refl _)) (fun b hb => noneAt b (by rw [List.mem_singleton.mp hb, sz]; exact Nat.le_succ _))
          (items.toList.length - 0) 0 _ (by omega) (Nat.zero_le _) ⟨⟨_, Heap.get?_push_size _ rfl, rfl, rfl⟩, (isl.push _)⟩ (fun b o e => Heap.get?_push_of_some _ (Heap.get?_push_of_some _ e))
          (start _ (Heap.get?_push_of_some _ at0) fun b o e => Heap.get?_push_of_some _ (Heap.get?_push_of_some _ e)) fun s' m od t => ?_
        obtain ⟨h', g2, d', tk', os'⟩ := s'
        obtain rfl : g2 = s.gens := m.gens
        obtain rfl : d' = s.drawn := m.drawn
        obtain rfl : os' = s.os := m.os
        refine wpAny_pure ?_
        show wpAny _ _ (ret Value.none) _ _ _
        refine wpAny_pure ⟨rfl, h', tk', rfl, ?_, od⟩
        rw [Array.length_toList] at t
        exact t
      · cases r₂ with
        | error e => exact hr₂
        | ok fl₂ =>
          cases fl₂ with
          | ret r =>
            obtain ⟨rfl, h', tk, rfl, t, od⟩ := hr₂
            repeat (any_goals (first | assumption | wp_step))
            exact fin _ _ t od
          | _ => exact hr₂.elim
    | _ => exact hr.elim
end
end SB
namespace SB
set_option maxRecDepth 100000
set_option maxHeartbeats 0
open PySem PySem.Spec PyProof.Rows L2
/-! ### a set of tuples of plain keys (texts): fewer than 64 -/
section
variable {P : Program} {w : World} {κ : Type} [DecidableEq κ] {knd : KeyKind P w κ} {A : Around} {E : Value → Shared → Prop} {s : Shared}
/-- keys that no class statement made -/
structure Plain (knd : KeyKind P w κ) : Prop where
  cls : ∀ n k v, knd.is k v = true → ofAClassStatement n v = pure false
  val : ∀ n k v, knd.is k v = true → ∃ b, hashByValue n v = pure b
abbrev hk (knd : KeyKind P w κ) (k : List κ) : Int := tupleKeyHash knd k
abbrev TupAt (knd : KeyKind P w κ) (h : Heap) (k : List κ) (a : Addr) : Prop := IsTupleKey knd h k a
theorem each_is {k : List κ} {vs : List Value} (h : ItemsAre knd k vs) : ∀ v ∈ vs, ∃ x, knd.is x v = true := by
  induction h with
  | nil => intro v hv; cases hv
  | cons h1 _ ih =>
    intro v hv
    rcases List.mem_cons.mp hv with e | hv
    · exact ⟨_, e ▸ h1⟩
    · exact ih v hv
theorem cls_tup (pl : Plain knd) {k : List κ} {b : Addr} {Q : Bool → Shared → Prop} (x : TupAt knd s.heap k b) (h : Q false s) : wpAny (model P w) A (ofAClassStatement 8 (.ref b)) Q E s := by
  have ty := x.typeIs
  obtain ⟨o, items, n, ho, _, hd, hi⟩ := x
  unfold ofAClassStatement
  refine wpAny_bind (wpAny_typeOf ty ?_)
  dsimp only
  rw [show (("tuple" : String) == "tuple") = true by decide]
  simp only [if_true, Bool.not_true, Bool.false_eq_true, if_false]
  try refine wpAny_bind (wpAny_pure ?_)
  try simp only [Bool.not_true, Bool.false_eq_true, if_false]
  refine wpAny_bind (m := seqItems? (.ref b)) (wpAny_seqItems ho hd ?_)
  dsimp only
  refine wpAny_bind ?_
  rw [← Array.forIn_toList]
  refine wpAny_forIn_list _ (fun rest r s' => r.1 = none ∧ s' = s ∧ ∀ v ∈ rest, v ∈ items.toList) _ ?_ ?_ _ _ ⟨rfl, rfl, fun _ h => h⟩
  · rintro v rest r s' ⟨hr, rfl, sub⟩
    obtain ⟨y, hy⟩ := each_is hi v (sub v List.mem_cons_self)
    rw [pl.cls _ _ _ hy]
    refine wpAny_bind (wpAny_pure ?_)
    simp only [Bool.false_eq_true, if_false]
    exact wpAny_pure ⟨rfl, rfl, fun u hu => sub u (List.mem_cons_of_mem _ hu)⟩
  · rintro ⟨r1, r2⟩ s' ⟨hr, rfl, _⟩
    simp only at hr
    subst hr
    exact wpAny_pure h
theorem val_tup (pl : Plain knd) {k : List κ} {b : Addr} {Q : Bool → Shared → Prop} (x : TupAt knd s.heap k b) (h : ∀ r, Q r s) : wpAny (model P w) A (hashByValue 8 (.ref b)) Q E s := by
  have ty := x.typeIs
  obtain ⟨o, items, n, ho, _, hd, hi⟩ := x
  unfold hashByValue
  refine wpAny_bind (wpAny_specialOf ty F.slot_tuple_hash.lookup ?_)
  refine wpAny_bind (m := seqItems? (.ref b)) (wpAny_seqItems ho hd ?_)
  refine wpAny_bind ?_
  show wpAny _ _ (forIn items _ _) _ _ s
  rw [← Array.forIn_toList]
  refine wpAny_forIn_list _ (fun rest r s' => r.1 = none ∧ s' = s ∧ ∀ v ∈ rest, v ∈ items.toList) _ ?_ ?_ _ _ ⟨rfl, rfl, fun _ h => h⟩
  · rintro v rest r s' ⟨hr, rfl, sub⟩
    obtain ⟨y, hy⟩ := each_is hi v (sub v List.mem_cons_self)
    obtain ⟨b', e⟩ := pl.val 7 _ _ hy
    rw [e]
    refine wpAny_bind (wpAny_pure ?_)
    cases b' with
    | true =>
      simp only [Bool.not_true, Bool.false_eq_true, if_false]
      exact wpAny_pure ⟨rfl, rfl, fun u hu => sub u (List.mem_cons_of_mem _ hu)⟩
    | false =>
      simp only [Bool.not_false, if_true]
      refine wpAny_pure ?_
      exact wpAny_pure (h _)
  · rintro ⟨r1, r2⟩ s' ⟨hr, rfl, _⟩
    simp only at hr
    subst hr
    exact wpAny_pure (h _)
/-- a search shows nothing -/
theorem unseen (pl : Plain knd) {k : List κ} {b : Addr} {Q : Bool → Shared → Prop} (x : TupAt knd s.heap k b) {ys : List Value} (hy : ∀ y ∈ ys, ∃ k' c, y = Value.ref c ∧ TupAt knd s.heap k' c) (h : Q false s) :
    wpAny (model P w) A (searchCouldBeSeen (.ref b) ys) Q E s := by
  unfold searchCouldBeSeen
  refine wpAny_bind (wpAny_forIn_list _ (fun rest r s' => r.1 = none ∧ s' = s ∧ ∀ v ∈ rest, v ∈ ys) _ ?_ ?_ _ _ ⟨rfl, rfl, fun _ h => h⟩)
  · rintro v rest r s' ⟨hr, rfl, sub⟩
    obtain ⟨k', c, rfl, hc⟩ := hy v (sub v List.mem_cons_self)
    have next : ∀ v ∈ rest, v ∈ ys := fun u hu => sub u (List.mem_cons_of_mem _ hu)
    dsimp only
    by_cases very : (b == c || (carriedByValue (.ref b) && carriedByValue (.ref c))) = true
    · exact wp_if_pos very (wpAny_pure ⟨rfl, rfl, next⟩)
    · refine wp_if_neg very ?_
      refine wpAny_bind (wpAny_eqIsQuiet_tuple x ?_)
      simp only [Bool.not_true, Bool.false_eq_true, if_false]
      refine wpAny_bind (wpAny_eqIsQuiet_tuple hc ?_)
      simp only [Bool.not_true, Bool.false_eq_true, if_false]
      refine wpAny_bind (cls_tup pl x ?_)
      simp only [Bool.false_eq_true, if_false]
      refine wpAny_bind (cls_tup pl hc ?_)
      simp only [Bool.false_eq_true, if_false]
      exact wpAny_pure ⟨rfl, rfl, next⟩
  · rintro ⟨r1, r2⟩ s' ⟨hr, rfl, _⟩
    simp only at hr
    subst hr
    exact wpAny_pure h

/-! ### the set itself -/
abbrev Row (κ : Type) := Addr × List κ
def rows (knd : KeyKind P w κ) (L : List (Row κ)) : List (Int × Value) := L.map fun p => (hk knd p.2, Value.ref p.1)
/-- what is known of the set at a -/
structure Tab (knd : KeyKind P w κ) (h : Heap) (a : Addr) (L : List (Row κ)) (o : Obj) (es : Array (Int × Value)) (ep : Nat) (t : SetTable) : Prop where
  at_ : h.get? a = some o
  exact_ : o.ExactSet
  dat : o.data = .set es ep t
  rws : es.toList = rows knd L
  tab : TabOk t (L.map fun p => hk knd p.2)
  nd : (L.map (·.2)).Nodup
  tup : ∀ p ∈ L, TupAt knd h p.2 p.1
  led : w.params.followText "set-order" = true ∨ t.led = true
  room : L.length * 5 < t.mask * 3
  few : L.length < 64
variable {a : Addr} {L : List (Row κ)} {o : Obj} {es : Array (Int × Value)} {ep : Nat} {t : SetTable}
theorem rows_size {L : List (Row κ)} {es : Array (Int × Value)} (h : es.toList = rows knd L) : es.size = L.length := by
  rw [← Array.length_toList, h]
  exact List.length_map ..
theorem rows_get {L : List (Row κ)} {es : Array (Int × Value)} (h : es.toList = rows knd L) {i : Nat} {p : Row κ} (e : L[i]? = some p) : es[i]? = some (hk knd p.2, Value.ref p.1) := by
  rw [← Array.getElem?_toList, h, rows, List.getElem?_map, e]; rfl
theorem fits_of {t : SetTable} {n : Nat} (h1 : t.place.size = n) (h2 : t.dummies = #[]) (h3 : n ≤ t.mask) : t.fits n = true := by
  unfold SetTable.fits SetTable.fill
  rw [h2, Bool.and_eq_true, beq_iff_eq, decide_eq_true_eq]
  exact ⟨h1, by show t.place.size + 0 ≤ t.mask; omega⟩
theorem Tab.psz (R : Tab knd s.heap a L o es ep t) : t.place.size = L.length := by have := R.tab.sz; rwa [List.length_map] at this
theorem Tab.fits (R : Tab knd s.heap a L o es ep t) : t.fits es.size = true := by
  have h1 := R.psz
  have h2 := rows_size R.rws
  have h3 := R.room
  exact fits_of (by omega) R.tab.dm (by omega)
theorem way_dummy (m : Nat) (h : Int) (c : Nat) : (nth m (runAt m (SetTable.bits h % (m + 1)) (SetTable.bits h)) c).dummy = none := by
  have go : ∀ (n : Nat) (p : SetTable.Probe), p.dummy = none → (nth m p n).dummy = none := by
    intro n
    induction n with
    | zero => exact fun p h => h
    | succ n ih =>
      refine fun p h => ih (adv m p) ?_
      unfold adv
      split <;> exact h
  exact go c _ rfl
/-- the c-th step of the way -/
abbrev stp (m : Nat) (h : Int) (c : Nat) : SetTable.Probe := nth m (runAt m (SetTable.bits h % (m + 1)) (SetTable.bits h)) c
theorem stp_add (m : Nat) (h : Int) (c q : Nat) : nth m (stp m h c) q = stp m h (c + q) := (nth_add m c _ q).symm
/-- the search, from its c-th step on; K: the first empty slot of the way -/
theorem look_from (pl : Plain knd) (R : Tab knd s.heap a L o es ep t) {x : Addr} {k : List κ} (hx : TupAt knd s.heap k x) (hu : A.units < cLine) {K : Nat} (kf : K < 10 * SetTable.turns t.mask) (k1 : way t.mask (hk knd k) K ∉ t.place.toList)
    (k2 : ∀ c, c < K → way t.mask (hk knd k) c ∈ t.place.toList) {Q : SetFound → Shared → Prop} (hit : k ∈ L.map (·.2) → Q (.there none) s) (miss : k ∉ L.map (·.2) → Q (.free (way t.mask (hk knd k) K) false) s) :
    ∀ (f c : Nat) (stand : Option SetTable.Probe), stand.getD (t.probeStart (hk knd k)) = stp t.mask (hk knd k) c → c ≤ K → K - c < f →
      (∀ (i : Nat) p, L[i]? = some p → p.2 = k → ∃ c', c ≤ c' ∧ c' < K ∧ t.place.toList[i]? = some (way t.mask (hk knd k) c')) → wpAny (model P w) A (setSearchFrom a (.ref x) (hk knd k) true f stand) Q E s
  | 0, c, stand, _, _, hf, _ => absurd hf (Nat.not_lt_zero _)
  | f + 1, c, stand, hst, hc, hf, later => by
    have odd : ¬ t.gaveWay = true := by unfold SetTable.gaveWay; rw [mask_odd R.tab.mok]; decide
    rw [setSearchFrom_succ]
    refine wpAny_bind (wpAny_setState_of R.at_ R.dat R.fits ?_)
    dsimp only
    refine wp_if_neg odd ?_
    try refine wpAny_bind (wpAny_pure ?_)
    have e1 : ∀ q, (nth t.mask (stp t.mask (hk knd k) c) q).j = way t.mask (hk knd k) (c + q) := fun q => congrArg SetTable.Probe.j (stp_add _ _ c q)
    have hashOf : ∀ (i : Nat) p, L[i]? = some p → (fun i => (es[i]?.map (·.1)).getD 0) i = hk knd p.2 := fun i p hp => by
      show (es[i]?.map (·.1)).getD 0 = _
      rw [rows_get R.rws hp]; rfl
    rcases go_spec t R.tab.ris R.tab.dm (fun i => (es[i]?.map (·.1)).getD 0) (hk knd k) (10 * SetTable.turns t.mask) (K - c) _ (way_dummy t.mask (hk knd k) c) (by omega) (fun q hq => by rw [e1]; exact k2 (c + q) (by omega))
      (by rw [e1, show c + (K - c) = K by omega]; exact k1) with ⟨q, i, hq, hi, hh, hno, hpr⟩ | ⟨hno, hpr⟩
    · have hpr' : t.probe (fun i => (es[i]?.map (·.1)).getD 0) (hk knd k) (stand.getD (t.probeStart (hk knd k))) = some (.candidate (way t.mask (hk knd k) (c + q)) i (stp t.mask (hk knd k) (c + (q + 1)))) := by
        rw [hst, ← e1, ← stp_add]; exact hpr
      rw [hpr']
      dsimp only
      rw [e1] at hi
      have il : i < L.length := by
        have h1 := (List.getElem?_eq_some_iff.mp hi).1
        have h2 := R.psz
        rw [Array.length_toList] at h1; omega
      obtain ⟨p, hp⟩ : ∃ p, L[i]? = some p := ⟨_, List.getElem?_eq_getElem il⟩
      have pm : p ∈ L := List.mem_of_getElem? hp
      have rest : wpAny (model P w) A (searchRest a (.ref x) (hk knd k) true f es t (way t.mask (hk knd k) (c + q)) i (stp t.mask (hk knd k) (c + (q + 1)))) Q E s := by
        unfold searchRest
        rw [rows_get R.rws hp]
        dsimp only
        refine wpAny_bind (wpAny_holding (wpAny_eqBool_tuple hu (R.tup p pm) hx ?_))
        refine wpAny_bind (wpAny_setState_of R.at_ R.dat R.fits ?_)
        dsimp only
        by_cases same : p.2 = k
        · refine wp_if_pos (by simp [same]) ?_
          exact wpAny_pure (hit (List.mem_map.mpr ⟨p, pm, same⟩))
        · refine wp_if_neg (by simp [same]) ?_
          try refine wpAny_bind (wpAny_pure ?_)
          rw [sameMem]
          dsimp only
          have live : t.slot (way t.mask (hk knd k) (c + q)) = .live i := slot_live R.tab.ris hi
          simp only [if_true, live, rows_get R.rws hp]
          refine wpAny_bind (wpAny_isSame_ref_self (wpAny_bind (wpAny_pure ?_)))
          simp only [if_true]
          refine wp_if_neg (by simp [same]) ?_
          refine look_from pl R hx hu kf k1 k2 hit miss f (c + (q + 1)) _ rfl (by omega) (by omega) fun i0 p0 h0 e0 => ?_
          obtain ⟨c', a1, a2, a3⟩ := later i0 p0 h0 e0
          refine ⟨c', ?_, a2, a3⟩
          rcases Nat.lt_trichotomy c' (c + q) with z | z | z
          · exfalso
            exact hno (c' - c) i0 (by omega) (by rw [e1, show c + (c' - c) = c' by omega]; exact a3) ((hashOf i0 p0 h0).trans (congrArg (hk knd) e0))
          · exfalso
            rw [z] at a3
            have s0 := slot_live R.tab.ris a3
            rw [live] at s0
            injection s0 with s0
            rw [← s0, hp] at h0
            exact same ((congrArg Prod.snd (Option.some.inj h0)).trans e0)
          · omega
      by_cases hl : t.led = true
      · refine wp_if_neg (by simp [hl]) ?_
        try refine wpAny_bind (wpAny_pure ?_)
        exact rest
      · refine wp_if_pos (by simp [hl]) ?_
        refine wpAny_bind (unseen pl hx (fun y hy => ?_) ?_)
        · obtain ⟨e, he, ee⟩ := List.mem_map.mp hy
          have he1 : e ∈ es.toList := by have : e ∈ es ∧ e.1 = hk knd k := by simpa using he
                                         simpa using this.1
          rw [R.rws] at he1
          obtain ⟨p2, hp2, e2⟩ := List.mem_map.mp he1
          exact ⟨p2.2, p2.1, by rw [← ee, ← e2], R.tup p2 hp2⟩
        · refine wp_if_neg (by decide) ?_
          try refine wpAny_bind (wpAny_pure ?_)
          exact rest
    · have hpr' : t.probe (fun i => (es[i]?.map (·.1)).getD 0) (hk knd k) (stand.getD (t.probeStart (hk knd k))) = some (.empty (way t.mask (hk knd k) K) none) := by
        have e2 : way t.mask (hk knd k) K = (nth t.mask (stp t.mask (hk knd k) c) (K - c)).j := by rw [e1, show c + (K - c) = K by omega]
        rw [hst, e2]; exact hpr
      rw [hpr']
      dsimp only
      refine wpAny_pure (miss fun hm => ?_)
      obtain ⟨p0, h0, e0⟩ := List.mem_map.mp hm
      obtain ⟨i0, hi0, e0'⟩ := List.getElem_of_mem h0
      have h00 : L[i0]? = some p0 := by rw [List.getElem?_eq_getElem hi0, e0']
      obtain ⟨c', a1, a2, a3⟩ := later i0 p0 h00 e0
      exact hno (c' - c) i0 (by omega) (by rw [e1, show c + (c' - c) = c' by omega]; exact a3) ((hashOf i0 p0 h00).trans (congrArg (hk knd) e0))
theorem look_at (pl : Plain knd) (R : Tab knd s.heap a L o es ep t) {x : Addr} {k : List κ} (hx : TupAt knd s.heap k x) (hu : A.units < cLine) {Q : SetFound → Shared → Prop} (hit : k ∈ L.map (·.2) → Q (.there none) s)
    (miss : ∀ K, k ∉ L.map (·.2) → way t.mask (hk knd k) K ∉ t.place.toList → (∀ c, c < K → way t.mask (hk knd k) c ∈ t.place.toList) → Q (.free (way t.mask (hk knd k) K) false) s) :
    wpAny (model P w) A (setSearch a (.ref x) (hk knd k) true) Q E s := by
  have room := R.room
  obtain ⟨K, kf, k1, k2⟩ := R.tab.first (by rw [List.length_map]; omega) (hk knd k)
  have big : K < 100000 := by
    have : 10 * SetTable.turns t.mask ≤ 1420 := by
      unfold SetTable.turns
      rcases R.tab.mok with e | e | e <;> omega
    omega
  refine look_from pl R hx hu kf k1 k2 hit (fun hn => miss K hn k1 k2) 100000 0 none rfl (Nat.zero_le _) (by omega) fun i p hp e => ?_
  have hi : (L.map fun p => hk knd p.2)[i]? = some (hk knd k) := by rw [List.getElem?_map, hp, ← e]; rfl
  have il : i < t.place.toList.length := by
    rw [Array.length_toList, R.psz]; exact (List.getElem?_eq_some_iff.mp hp).1
  have hj := List.getElem?_eq_getElem il
  obtain ⟨c, hc, e2⟩ := R.tab.before k1 hi hj
  exact ⟨c, Nat.zero_le _, hc, by rw [hj, e2]⟩
end
end SB
namespace SB
set_option maxRecDepth 100000
set_option maxHeartbeats 0
open PySem PySem.Spec PyProof.Rows L2
section
variable {P : Program} {w : World} {κ : Type} [DecidableEq κ] {knd : KeyKind P w κ} {A : Around} {E : Value → Shared → Prop} {s : Shared} {a : Addr} {L : List (Row κ)} {o : Obj} {es : Array (Int × Value)} {ep : Nat} {t : SetTable}
theorem tup_same {h h' : Heap} {k : List κ} {a b : Addr} {o : Obj} {es : Array (Int × Value)} {ep : Nat} {t : SetTable} (x : TupAt knd h k b) (ho : h.get? a = some o) (hd : o.data = .set es ep t) (sb : Heap.SameBut a h h') : TupAt knd h' k b := by
  obtain ⟨o', items, n, ho', hc, hd', hi⟩ := x
  have ne : b ≠ a := fun z => by
    subst z
    rw [ho] at ho'
    obtain rfl := Option.some.inj ho'
    rw [hd] at hd'
    cases hd'
  exact ⟨o', items, n, (sb.2 b ne).trans ho', hc, hd', hi⟩
theorem tup_old {h h' : Heap} {k : List κ} {b : Addr} (x : TupAt knd h k b) (old : Old h h') : TupAt knd h' k b := by
  obtain ⟨o', items, n, ho', r⟩ := x
  exact ⟨o', items, n, old b o' ho', r⟩
/-- the entries in another order -/
theorem reorder {L : List (Row κ)} {es : Array (Int × Value)} {order : Array Nat} (hr : es.toList = rows knd L) (hp : order.toList.Perm (List.range L.length)) :
    ∃ L2, (order.filterMap (es[·]?)).toList = rows knd L2 ∧ L2.Perm L ∧ (L2.map fun p => hk knd p.2) = order.toList.map fun i => (es.map (·.1)).getD i 0 := by
  have bd : ∀ i ∈ order.toList, i < L.length := fun i hi => List.mem_range.mp (hp.mem_iff.mp hi)
  have go : ∀ l : List Nat, (∀ i ∈ l, i < L.length) → l.filterMap (fun i => es[i]?) = rows knd (l.filterMap fun i => L[i]?) ∧ ((l.filterMap fun i => L[i]?).map fun p => hk knd p.2) = l.map fun i => (es.map (·.1)).getD i 0 := by
    intro l
    induction l with
    | nil => exact fun _ => ⟨rfl, rfl⟩
    | cons i l ih =>
      intro hl
      obtain ⟨e1, e2⟩ := ih fun j hj => hl j (List.mem_cons_of_mem _ hj)
      obtain ⟨p, hp⟩ : ∃ p, L[i]? = some p := ⟨_, List.getElem?_eq_getElem (hl i List.mem_cons_self)⟩
      have g := rows_get (knd := knd) hr hp
      refine ⟨?_, ?_⟩
      · rw [List.filterMap_cons_some g, List.filterMap_cons_some hp, e1]; rfl
      · rw [List.filterMap_cons_some hp, List.map_cons, List.map_cons, e2]
        have e5 : (es.map (·.1))[i]? = some (hk knd p.2) := by rw [Array.getElem?_map, g]; rfl
        simp [Array.getD_eq_getD_getElem?, e5]
  obtain ⟨e1, e2⟩ := go order.toList bd
  refine ⟨_, by simpa using e1, ?_, e2⟩
  have h1 := hp.filterMap fun i => L[i]?
  have h2 : (List.range L.length).filterMap (fun i => L[i]?) = L := by
    apply List.ext_getElem?
    intro i
    have go2 : ∀ n, n ≤ L.length → (List.range n).filterMap (fun i => L[i]?) = L.take n := by
      intro n
      induction n with
      | zero => exact fun _ => rfl
      | succ n ih =>
        intro hn
        have lt : n < L.length := hn
        rw [List.range_succ, List.filterMap_append, ih (Nat.le_of_lt lt), List.take_succ, List.getElem?_eq_getElem lt, List.filterMap_cons_some (List.getElem?_eq_getElem lt)]
        rfl
    rw [go2 L.length (Nat.le_refl _), List.take_length]
  rwa [h2] at h1
abbrev Known (knd : KeyKind P w κ) (h : Heap) (a : Addr) (L : List (Row κ)) : Prop := ∃ o es ep t, Tab knd h a L o es ep t
/-- the larger table -/
theorem relay {o : Obj} (ho : s.heap.get? a = some o) (hex : o.ExactSet) (hd : o.data = .set es ep t) (hr : es.toList = rows knd L) (hsz : t.place.size = es.size) (hdm : t.dummies = #[]) (hfl : es.size ≤ t.mask) (nd : (L.map (·.2)).Nodup)
    (tup : ∀ p ∈ L, TupAt knd s.heap p.2 p.1) (ld : w.params.followText "set-order" = true ∨ t.led = true) (few : L.length < 64) {wanted M : Nat} (hw : SetTable.sizeAbove wanted - 1 = M) (hM : MaskOk M) (hw2 : SetTable.sizeAbove wanted ≤ 128) (hn : L.length * 5 < M * 3)
    {Q : Unit → Shared → Prop} (fin : ∀ h' L', Heap.SameBut a s.heap h' → Known knd h' a L' → L'.Perm L → Q () { s with heap := h' }) : wpAny (model P w) A (setRelay a wanted) Q E s := by
  have sl := rows_size hr
  obtain ⟨t', order, e, hp, T, em, el, _, ed⟩ := relaid_ok t (hs := es.map (·.1)) (wanted := wanted) hw hM (by rw [Array.size_map, sl]; omega)
  rw [Array.size_map, sl] at hp
  obtain ⟨L2, r1, r2, r3⟩ := reorder hr hp
  rw [← r3] at T
  have hs2 : (order.filterMap (es[·]?)).size = es.size := by rw [rows_size r1, r2.length_eq, sl]
  rw [setRelay_eq]
  refine wpAny_bind (wpAny_setState_of ho hd (fits_of hsz hdm hfl) ?_)
  dsimp only
  refine wp_if_neg (by rw [sizeLine_eq]; omega) ?_
  try refine wpAny_bind (wpAny_pure ?_)
  rw [e]
  dsimp only
  refine wpAny_bind (wp_if_neg (by rw [hs2]; simp) ?_)
  try refine wpAny_bind (wpAny_pure ?_)
  refine wpAny_pure ?_
  dsimp only
  refine wpAny_storeSet_of ho hd ?_ (by rw [hs2, sl, sizeLine_eq]; omega)
  have sb : Heap.SameBut a s.heap (s.heap.update a (Obj.putSet (order.filterMap (es[·]?)) t')) := Heap.SameBut.update ..
  refine fin _ L2 sb ⟨_, _, _, t', ⟨store_at ho hd, ⟨hex.1, hex.2.1, hex.2.2⟩, rfl, r1, T, (r2.map (·.2)).nodup_iff.mpr nd, fun p hp => tup_same (tup p (r2.mem_iff.mp hp)) ho hd sb, by rw [el]; exact ld, by rw [r2.length_eq, em]; exact hn, by rw [r2.length_eq]; exact few⟩⟩ r2
theorem ins_perm {α : Type} (L : List α) (p : Nat) (x : α) : (L.take p ++ x :: L.drop p).Perm (x :: L) := by
  have h : (L.take p ++ x :: L.drop p).Perm (x :: (L.take p ++ L.drop p)) := List.perm_middle
  rwa [List.take_append_drop] at h
theorem tab_eq {t u : SetTable} {hs : List Int} (T : TabOk t hs) (h1 : u.place = t.place) (h2 : u.dummies = t.dummies) (h3 : u.mask = t.mask) : TabOk u hs :=
  ⟨by rw [h1]; exact T.ris, by rw [h2]; exact T.dm, by rw [h1]; exact T.sz, by rw [h3]; exact T.mok, by rw [h1, h3]; exact T.bd, by rw [h1, h3]; exact T.reach⟩
/-- one more -/
theorem put_in (pl : Plain knd) (R : Tab knd s.heap a L o es ep t) {x : Addr} {k : List κ} (hx : TupAt knd s.heap k x) (hu : A.units < cLine) (few : L.length + 1 < 64) {Q : Bool → Shared → Prop}
    (fin : ∀ b h' L', Heap.SameBut a s.heap h' → Known knd h' a L' → (k ∈ L.map (·.2) → L' = L) → (k ∉ L.map (·.2) → L'.Perm ((x, k) :: L)) → Q b { s with heap := h' }) :
    wpAny (model P w) A (setAddHashed a (.ref x) (hk knd k)) Q E s := by
  have sl := rows_size R.rws
  have room := R.room
  unfold setAddHashed
  refine wpAny_holding ?_
  rw [show (100000 : Nat) = 99999 + 1 from rfl, setAddHashedIn_succ]
  refine wpAny_bind (wpAny_setState_of R.at_ R.dat R.fits ?_)
  dsimp only
  refine wp_if_neg (by simp [byScan, Value.scannable]) ?_
  try refine wpAny_bind (wpAny_pure ?_)
  refine wpAny_bind (look_at pl R hx hu (fun hm => ?_) fun K hm k1 k2 => ?_)
  · dsimp only
    exact wpAny_pure (fin false s.heap L (Heap.SameBut.refl a s.heap) ⟨_, _, _, _, R⟩ (fun _ => rfl) fun z => absurd hm z)
  dsimp only
  refine wpAny_bind (wpAny_setState_of R.at_ R.dat R.fits ?_)
  dsimp only
  obtain ⟨q1, q2, q3, q4, q5, q6, q7, q8, q9⟩ := R.tab.put k1 k2
  generalize hpt : t.put (way t.mask (hk knd k) K) = pt at q1 q3 q4 q5 q6 q7 q8 q9 ⊢
  obtain ⟨t1, p⟩ := pt
  dsimp only at q1 q3 q4 q5 q6 q7 q8 q9 ⊢
  subst q1
  -- whatever is said of the hash
  have rest : ∀ byValue : Bool, wpAny (model P w) A (do
      storeSet a (SetTable.insertAt es (SetTable.below t.place (way t.mask (hk knd k) K)) (hk knd k, Value.ref x)) (if byValue = true then t1 else { t1 with plain := false })
      if (!false && (if byValue = true then t1 else { t1 with plain := false }).tooFull) = true then do
        setRelay a (SetTable.grown (es.size + 1))
        pure true
      else pure true) Q E s := by
    intro byValue
    have hin : (SetTable.insertAt es (SetTable.below t.place (way t.mask (hk knd k) K)) (hk knd k, Value.ref x)).toList = rows knd (L.take (SetTable.below t.place (way t.mask (hk knd k) K)) ++ (x, k) :: L.drop (SetTable.below t.place (way t.mask (hk knd k) K))) := by
      rw [SetTable.toList_insertAt, R.rws]
      unfold rows
      rw [List.map_append, List.map_cons, List.map_take, List.map_drop]
    generalize SetTable.below t.place (way t.mask (hk knd k) K) = p at q2 q3 hin ⊢
    have pm := ins_perm L p (x, k)
    have len : (L.take p ++ (x, k) :: L.drop p).length = L.length + 1 := pm.length_eq
    have hhs : (L.take p ++ (x, k) :: L.drop p).map (fun p => hk knd p.2) = (L.map fun p => hk knd p.2).take p ++ hk knd k :: (L.map fun p => hk knd p.2).drop p := by
      rw [List.map_append, List.map_cons, List.map_take, List.map_drop]
    rw [← hhs] at q3
    have nd1 : ((L.take p ++ (x, k) :: L.drop p).map (·.2)).Nodup := (pm.map (·.2)).nodup_iff.mpr (by rw [List.map_cons]; exact List.nodup_cons.mpr ⟨hm, R.nd⟩)
    have es1 := rows_size hin
    rw [len] at es1
    generalize SetTable.insertAt es p (hk knd k, Value.ref x) = em at hin es1 ⊢
    generalize L.take p ++ (x, k) :: L.drop p = L1 at pm len q3 nd1 hin
    have T2 : TabOk (if byValue = true then t1 else { t1 with plain := false }) (L1.map fun p => hk knd p.2) := by cases byValue <;> exact tab_eq q3 rfl rfl rfl
    have m2 : (if byValue = true then t1 else { t1 with plain := false }).mask = t.mask := by cases byValue <;> exact q4
    have l2 : (if byValue = true then t1 else { t1 with plain := false }).led = t.led := by cases byValue <;> exact q5
    have f2 : (if byValue = true then t1 else { t1 with plain := false }).fill = L.length + 1 := by
      have : t1.fill = L.length + 1 := by rw [q9, List.length_map]
      cases byValue <;> exact this
    generalize (if byValue = true then t1 else { t1 with plain := false }) = t2 at T2 m2 l2 f2 ⊢
    refine wpAny_bind (wpAny_storeSet_of R.at_ R.dat ?_ (by rw [es1, sizeLine_eq]; omega))
    have sb : Heap.SameBut a s.heap (s.heap.update a (Obj.putSet em t2)) := Heap.SameBut.update ..
    have at1 := store_at (es' := em) (t' := t2) R.at_ R.dat
    generalize s.heap.update a (Obj.putSet em t2) = h1 at sb at1 ⊢
    have tup1 : ∀ p ∈ L1, TupAt knd h1 p.2 p.1 := fun p hp => by
      rcases List.mem_cons.mp (pm.mem_iff.mp hp) with e | hp
      · rw [e]; exact tup_same hx R.at_ R.dat sb
      · exact tup_same (R.tup p hp) R.at_ R.dat sb
    have ld1 : w.params.followText "set-order" = true ∨ t2.led = true := by rw [l2]; exact R.led
    have ex1 := R.exact_
    by_cases full : t2.tooFull = true
    · refine wp_if_pos (by simp [full]) ?_
      have hfull : (L.length + 1) * 5 ≥ t.mask * 3 := by
        have h := full
        unfold SetTable.tooFull at h
        rwa [decide_eq_true_eq, f2, m2] at h
      rw [sl]
      have sz1 : t2.place.size = em.size := by
        have h := T2.sz
        rw [List.length_map, len] at h
        rw [h, es1]
      have go : ∀ M, SetTable.sizeAbove (SetTable.grown (L.length + 1)) - 1 = M → MaskOk M → SetTable.sizeAbove (SetTable.grown (L.length + 1)) ≤ 128 → (L.length + 1) * 5 < M * 3 → L.length + 1 ≤ t.mask →
          wpAny (model P w) A (do setRelay a (SetTable.grown (L.length + 1)); pure true) Q E { s with heap := h1 } := fun M e1 e2 e3 e4 e5 => by
        refine wpAny_bind (relay (s := { s with heap := h1 }) at1 ⟨ex1.1, ex1.2.1, ex1.2.2⟩ rfl hin sz1 T2.dm (by rw [es1, m2]; exact e5) nd1 tup1 ld1 (by rw [len]; exact few) e1 e2 e3 (by rw [len]; exact e4) fun h2 L2 sb2 R2 pm2 => ?_)
        exact wpAny_pure (fin true h2 L2 (sb.trans sb2) R2 (fun z => absurd z hm) fun _ => pm2.trans pm)
      have two : (t.mask = 7 ∧ L.length = 4) ∨ (t.mask = 31 ∧ L.length = 18) := by
        rcases R.tab.mok with e | e | e
        · exact .inl ⟨e, by omega⟩
        · exact .inr ⟨e, by omega⟩
        · omega
      rcases two with ⟨e0, e2⟩ | ⟨e0, e2⟩
      · exact go 31 (by rw [e2, size_20]) (.inr (.inl rfl)) (by rw [e2, size_20]; decide) (by omega) (by omega)
      · exact go 127 (by rw [e2, size_76]) (.inr (.inr rfl)) (by rw [e2, size_76]; decide) (by omega) (by omega)
    · refine wp_if_neg (by simp [full]) ?_
      refine wpAny_pure (fin true h1 L1 sb ⟨_, _, _, _, ⟨at1, ⟨ex1.1, ex1.2.1, ex1.2.2⟩, rfl, hin, T2, nd1, tup1, ld1, ?_, by rw [len]; exact few⟩⟩ (fun z => absurd z hm) fun _ => pm)
      have h := full
      unfold SetTable.tooFull at h
      rw [decide_eq_true_eq, f2] at h
      rw [len]; omega
  by_cases hp : t1.plain = true
  · exact wp_if_pos hp (wpAny_bind (val_tup pl hx fun r => rest r))
  · exact wp_if_neg hp (wpAny_bind (wpAny_pure (rest true)))
/-- what the set has of the first i items -/
structure Has (ks : List (Row κ)) (i : Nat) (L : List (Row κ)) : Prop where
  sub : ∀ p ∈ L, p ∈ ks.take i
  all : ∀ p ∈ ks.take i, p.2 ∈ L.map (·.2)
  len : L.length ≤ i
theorem Has.next {ks L L' : List (Row κ)} {i : Nat} {x : Row κ} (g : Has ks i L) (h : ks[i]? = some x) (c1 : x.2 ∈ L.map (·.2) → L' = L) (c2 : x.2 ∉ L.map (·.2) → L'.Perm (x :: L)) : Has ks (i + 1) L' := by
  have e : ks.take (i + 1) = ks.take i ++ [x] := by rw [List.take_succ, h]; rfl
  rcases Classical.em (x.2 ∈ L.map (·.2)) with c | c
  · rw [c1 c]
    refine ⟨fun p hp => by rw [e]; exact List.mem_append_left _ (g.sub p hp), fun p hp => ?_, Nat.le_succ_of_le g.len⟩
    rw [e] at hp
    rcases List.mem_append.mp hp with z | z
    · exact g.all p z
    · rw [List.mem_singleton.mp z]; exact c
  · have pm := c2 c
    refine ⟨fun p hp => ?_, fun p hp => ?_, by rw [pm.length_eq, List.length_cons]; exact Nat.succ_le_succ g.len⟩
    · rw [e]
      rcases List.mem_cons.mp (pm.mem_iff.mp hp) with z | z
      · rw [z]; exact List.mem_append_right _ (List.mem_singleton.mpr rfl)
      · exact List.mem_append_left _ (g.sub p z)
    · rw [(pm.map (·.2)).mem_iff, List.map_cons]
      rw [e] at hp
      rcases List.mem_append.mp hp with z | z
      · exact List.mem_cons_of_mem _ (g.all p z)
      · rw [List.mem_singleton.mp z]; exact List.mem_cons_self
theorem Known.move {h h' : Heap} {a : Addr} {L : List (Row κ)} (R : Known knd h a L) (ha : ∀ o, h.get? a = some o → h'.get? a = some o) (ht : ∀ p ∈ L, TupAt knd h' p.2 p.1) : Known knd h' a L := by
  obtain ⟨o, es, ep, t, R⟩ := R
  exact ⟨o, es, ep, t, ⟨ha o R.at_, R.exact_, R.dat, R.rws, R.tab, R.nd, ht, R.led, R.room, R.few⟩⟩
theorem known_new {h : Heap} {a : Addr} (ho : h.get? a = some (newSet w)) : Known knd h a [] := by
  refine ⟨_, #[], 0, .fresh 0 0 (!w.params.followText "set-order"), ⟨ho, ⟨rfl, rfl, rfl⟩, rfl, rfl, ⟨List.Pairwise.nil, rfl, rfl, .inl rfl, fun x hx => (by cases hx), fun i h j hi => (by simp at hi)⟩, List.nodup_nil, fun p hp => (by cases hp), ?_, ?_, ?_⟩⟩
  · show _ ∨ (!w.params.followText "set-order") = true
    cases w.params.followText "set-order"
    · exact .inr rfl
    · exact .inl rfl
  · show 0 * 5 < 7 * 3
    decide
  · show 0 < 64
    decide
/-- set(xs), xs a list of tuples of such keys -/
theorem set_texts (pl : Plain knd) {l : Addr} {items : Array Value} (ks : List (Row κ)) {Q : Value → Shared → Prop} (hh : A.handled = none) (hl : s.heap.IsList l items) (hit : items.toList = ks.map fun p => Value.ref p.1) (hk' : ∀ p ∈ ks, TupAt knd s.heap p.2 p.1)
    (few : ks.length < 64) (hu : A.units + 5 < cLine) (fin : ∀ (h' : Heap) (tk : Nat) L, Known knd h' s.heap.objs.size L → Has ks ks.length L → Old s.heap h' → Q (.ref s.heap.objs.size) { s with heap := h', toks := tk }) :
    wpAny (model P w) A (call (.type "set") [.ref l]) Q E s := by
  have len : items.size = ks.length := by rw [← Array.length_toList, hit, List.length_map]
  refine set_of_list (T := fun i h => ∃ L, Known knd h s.heap.objs.size L ∧ Has ks i L ∧ Old s.heap h) hh hl (fun A' hA' => ⟨fun i h h' t k1 k2 => ?_, fun i v s' Q' E' hv t old go => ?_⟩) (fun h at_ old => ⟨[], known_new at_, ⟨fun p h => (by cases h), fun p h => (by simp at h), Nat.le_refl _⟩, old⟩) (fun h' tk t old => ?_)
  · obtain ⟨L, R, g, _⟩ := t
    exact ⟨L, R.move k1 fun p hp => tup_old (hk' p (List.mem_of_mem_take (g.sub p hp))) k2, g, k2⟩
  · obtain ⟨L, ⟨o, es, ep, t, R⟩, g, _⟩ := t
    rw [hit, List.getElem?_map] at hv
    cases hp : ks[i]? with
    | none => rw [hp] at hv; cases hv
    | some p =>
      rw [hp] at hv
      obtain rfl := Option.some.inj hv
      have hi : i < ks.length := (List.getElem?_eq_some_iff.mp hp).1
      have hx : TupAt knd s'.heap p.2 p.1 := tup_old (hk' p (List.mem_of_getElem? hp)) old
      have fresh : s.heap.get? s.heap.objs.size = none := by
        cases q : s.heap.get? s.heap.objs.size with
        | none => rfl
        | some o => exact absurd (Heap.lt_size q) (Nat.lt_irrefl _)
      unfold setAdd
      refine wpAny_holding ?_
      refine wpAny_bind (wpAny_pyHash_tuple (by omega) hx ?_)
      refine put_in (s := { s' with toks := s'.toks + (p.2.length + 1) }) pl R hx (by omega) (by have := g.len; omega) fun b h' L' sb R' c1 c2 => ?_
      exact go b h' _ sb (Nat.le_add_right _ _) ⟨L', R', g.next hp c1 c2, fun b o e => (sb.2 b fun z => by rw [z, fresh] at e; cases e).trans (old b o e)⟩
  · obtain ⟨L, R, g, _⟩ := t
    exact fin h' tk L R (len ▸ g) old
end
end SB
namespace SB
set_option maxRecDepth 100000
set_option maxHeartbeats 0
open PySem PySem.Spec PyProof.Rows L2
/-! ### tuples of texts, put in order -/
abbrev SK (P : Program) (w : World) : KeyKind P w Str := PySem.strKind P w
theorem str_shape {P : Program} {w : World} {k : Str} {v : Value} (h : (SK P w).is k v = true) : ∃ t, v = .str k t := by
  cases v with
  | str x t =>
    have e := (SK P w).inj _ _ _ h (strKind_is P w x t)
    exact ⟨t, by rw [e]⟩
  | _ => simp [PySem.strKind, Value.isStr, Value.isStrOf] at h
theorem plain_str (P : Program) (w : World) : Plain (SK P w) where
  cls := fun n k v h => by obtain ⟨t, rfl⟩ := str_shape h; cases n <;> rfl
  val := fun n k v h => by obtain ⟨t, rfl⟩ := str_shape h; exact ⟨false, by cases n <;> rfl⟩
abbrev TRow := Addr × List Str
/-- a row as data -/
def encR (r : TRow) : PyData := .tuple (r.2.map .str)
def encS (k : List Str) : PyData := .tuple (k.map .str)
theorem alike_strs : ∀ xs ys : List Str, PySem.W.alikeAll (xs.map .str) (ys.map .str) = true
  | [], _ => by simp [PySem.W.alikeAll]
  | _ :: _, [] => by simp [PySem.W.alikeAll]
  | x :: xs, y :: ys => by
    rw [List.map_cons, List.map_cons, PySem.W.alikeAll, alike_strs xs ys]
    simp [PySem.W.alike]
theorem depth_strs : ∀ xs : List Str, PyData.depthAll (xs.map .str) = 0
  | [] => by simp [PyData.depthAll]
  | x :: xs => by
    rw [List.map_cons, PyData.depthAll, depth_strs xs]
    simp [PyData.depth]
theorem depth_enc (k : List Str) : (encS k).depth = 1 := by simp [encS, PyData.depth, depth_strs]
theorem reads_items {P : Program} {w : World} {h : Heap} {k : List Str} {vs : List Value} (x : ItemsAre (SK P w) k vs) : ReadsAll h vs (k.map .str) [] := by
  induction x with
  | nil => exact .nil
  | cons h1 _ ih =>
    obtain ⟨t, rfl⟩ := str_shape h1
    exact .cons (as := []) (.str _ t) ih
theorem reads_tup {P : Program} {w : World} {h : Heap} {k : List Str} {a : Addr} (x : TupAt (SK P w) h k a) : Reads h (.ref a) (encS k) [] := by
  obtain ⟨o, items, n, ho, hc, hd, hi⟩ := x
  exact .tuple ho hc hd (reads_items hi)
def leS (k l : List Str) : Bool := PySem.W.dataLe false encS k l
theorem each_of {α : Type} {R : Value → α → Prop} {f : α → Value} (h : ∀ x : α, R (f x) x) : ∀ xs : List α, PySem.W.EachIs R (xs.map f) xs
  | [] => .nil
  | x :: xs => .cons (h x) (each_of h xs)
theorem each_ofm {α : Type} {R : Value → α → Prop} {f : α → Value} : ∀ xs : List α, (∀ x ∈ xs, R (f x) x) → PySem.W.EachIs R (xs.map f) xs
  | [], _ => .nil
  | x :: xs, h => .cons (h x List.mem_cons_self) (each_ofm xs fun y hy => h y (List.mem_cons_of_mem _ hy))
theorem each_eq {α : Type} {f : α → Value} : ∀ {vs : List Value} {xs : List α}, PySem.W.EachIs (fun v x => v = f x) vs xs → vs = xs.map f
  | _, _, .nil => rfl
  | _, _, .cons h t => by rw [h, each_eq t]; rfl
theorem alike_rows (L : List TRow) : PySem.W.AllAlike (L.map encR) := by
  intro d hd d' hd'
  obtain ⟨r, _, rfl⟩ := List.mem_map.mp hd
  obtain ⟨r', _, rfl⟩ := List.mem_map.mp hd'
  show PySem.W.alike (.tuple _) (.tuple _) = true
  rw [PySem.W.alike]; exact alike_strs _ _
theorem sortable_rows {L : List TRow} (h : ∀ r ∈ L, r.2 ≠ []) : PySem.W.Sortable (L.map encR) := .inl fun d hd => by
  obtain ⟨r, hr, rfl⟩ := List.mem_map.mp hd
  unfold encR
  cases q : r.2 with
  | nil => exact absurd q (h r hr)
  | cons x l => exact ⟨_, _, rfl⟩
theorem sort_rows (L : List TRow) : (L.mergeSort (PySem.W.dataLe false encR)).map (·.2) = (L.map (·.2)).mergeSort leS :=
  List.map_mergeSort fun a _ b _ => rfl
theorem leS_trans (a b c : List Str) (h1 : leS a b = true) (h2 : leS b c = true) : leS a c = true := by
  have n1 : PyProof.Rows.lexLt itemOrd (PySem.W.keyToks (encS b)) (PySem.W.keyToks (encS a)) = false := by simpa [leS, PySem.W.dataLe, PySem.W.sortLe] using h1
  have n2 : PyProof.Rows.lexLt itemOrd (PySem.W.keyToks (encS c)) (PySem.W.keyToks (encS b)) = false := by simpa [leS, PySem.W.dataLe, PySem.W.sortLe] using h2
  show (!PyProof.Rows.lexLt itemOrd (PySem.W.keyToks (encS c)) (PySem.W.keyToks (encS a))) = true
  cases q : PyProof.Rows.lexLt itemOrd (PySem.W.keyToks (encS c)) (PySem.W.keyToks (encS a)) with
  | false => rfl
  | true =>
    rcases (listOrd itemOrd).negTrans _ (PySem.W.keyToks (encS b)) _ q with z | z
    · have z : PyProof.Rows.lexLt itemOrd (PySem.W.keyToks (encS c)) (PySem.W.keyToks (encS b)) = true := z
      rw [n2] at z; cases z
    · have z : PyProof.Rows.lexLt itemOrd (PySem.W.keyToks (encS b)) (PySem.W.keyToks (encS a)) = true := z
      rw [n1] at z; cases z
theorem leS_total (a b : List Str) : (leS a b || leS b a) = true := by
  show (!PyProof.Rows.lexLt itemOrd (PySem.W.keyToks (encS b)) (PySem.W.keyToks (encS a)) || !PyProof.Rows.lexLt itemOrd (PySem.W.keyToks (encS a)) (PySem.W.keyToks (encS b))) = true
  cases q : PyProof.Rows.lexLt itemOrd (PySem.W.keyToks (encS b)) (PySem.W.keyToks (encS a)) with
  | false => rfl
  | true =>
    cases q2 : PyProof.Rows.lexLt itemOrd (PySem.W.keyToks (encS a)) (PySem.W.keyToks (encS b)) with
    | false => rfl
    | true =>
      have h := (listOrd itemOrd).trans _ _ _ q q2
      have i := (listOrd itemOrd).irrefl (PySem.W.keyToks (encS b))
      rw [i] at h; cases h
theorem toks_strs : ∀ a b : List Str, PySem.W.keyToksAll (a.map .str) = PySem.W.keyToksAll (b.map .str) → a = b
  | [], [], _ => rfl
  | [], b :: bs, h => by simp [PySem.W.keyToksAll] at h
  | a :: as, [], h => by simp [PySem.W.keyToksAll] at h
  | a :: as, b :: bs, h => by
    simp only [List.map_cons, PySem.W.keyToksAll, PySem.W.keyToks, List.cons_append, List.nil_append, List.cons.injEq, true_and, Sum.inr.injEq] at h
    rw [PySem.W.str_of_cps h.1, toks_strs as bs h.2]
theorem leS_anti {a b : List Str} (h1 : leS a b = true) (h2 : leS b a = true) : a = b := by
  have n1 : PyProof.Rows.lexLt itemOrd (PySem.W.keyToks (encS b)) (PySem.W.keyToks (encS a)) = false := by simpa [leS, PySem.W.dataLe, PySem.W.sortLe] using h1
  have n2 : PyProof.Rows.lexLt itemOrd (PySem.W.keyToks (encS a)) (PySem.W.keyToks (encS b)) = false := by simpa [leS, PySem.W.dataLe, PySem.W.sortLe] using h2
  have e := lex_total _ _ n2 n1
  simp only [encS, PySem.W.keyToks] at e
  exact toks_strs a b e
theorem sort_perm {xs ys : List (List Str)} (h : xs.Perm ys) : xs.mergeSort leS = ys.mergeSort leS :=
  List.Perm.eq_of_pairwise (le := fun a b => leS a b = true) (fun a b _ _ => leS_anti) (List.pairwise_mergeSort leS_trans leS_total xs) (List.pairwise_mergeSort leS_trans leS_total ys) ((List.mergeSort_perm _ _).trans (h.trans (List.mergeSort_perm _ _).symm))
section
variable {P : Program} {w : World} {A : Around} {E : Value → Shared → Prop} {s : Shared}
/-- sorted(xs), xs a list of such tuples -/
theorem sorted_rows {l : Addr} {items : Array Value} (ks : List TRow) {Q : Value → Shared → Prop} (hl : s.heap.IsList l items) (hit : items.toList = ks.map fun p => Value.ref p.1) (hk' : ∀ p ∈ ks, TupAt (SK P w) s.heap p.2 p.1) (ne : ∀ p ∈ ks, p.2 ≠ []) (hz : ks.length ≤ sizeLine)
    (hu : A.units + 3 < cLine) (fin : ∀ s' p (out : Array Value) (c : Nat), Old s.heap s'.heap → s'.gens = s.gens → s'.os = s.os → s.heap.objs.size ≤ p → s'.heap.get? p = some (seqObj "list" out c) → out.toList = (ks.mergeSort (PySem.W.dataLe false encR)).map (fun r => Value.ref r.1) → Q (.ref p) s') :
    wpAny (model P w) A (call (.builtin "sorted") [.ref l]) Q E s := by
  refine PySem.W.sorted_data (vs := ks.map fun p => Value.ref p.1) (bs := ks) (enc := encR) (R := fun v r => v = Value.ref r.1) (by rw [← hit, Array.toArray_toList]; exact hl) (each_of (f := fun r : TRow => Value.ref r.1) (fun _ => rfl) ks) (each_ofm (f := fun r : TRow => Value.ref r.1) ks fun r hr => ⟨[], reads_tup (hk' r hr)⟩) (alike_rows ks) (sortable_rows ne) hz
    (fun r _ => by rw [show (encR r).depth = 1 from depth_enc r.2]; omega) fun out ho eo => ?_
  obtain ⟨c, hc⟩ := sortedAll_at s.heap (ks.map fun p => Value.ref p.1) out.toArray
  exact fin _ _ out.toArray c (fun b o e => sortedAll_old e) rfl rfl (Nat.le_succ _) hc (by simpa using each_eq eo)
/-- sorted(set) -/
theorem sorted_texts {a : Addr} {L : List TRow} {Q : Value → Shared → Prop} (R : Known (SK P w) s.heap a L) (hh : A.handled = none) (ne : ∀ p ∈ L, p.2 ≠ []) (hu : A.units + 6 < cLine)
    (fin : ∀ s' p (out : Array Value) (c : Nat) (L' : List TRow), Old s.heap s'.heap → s'.gens = s.gens → s'.os = s.os → s.heap.objs.size ≤ p → s'.heap.get? p = some (seqObj "list" out c) → out.toList = L'.map (fun r => Value.ref r.1) → (∀ r ∈ L', r ∈ L) → L'.map (·.2) = (L.map (·.2)).mergeSort leS → Q (.ref p) s') :
    wpAny (model P w) A (call (.builtin "sorted") [.ref a]) Q E s := by
  obtain ⟨o, es, ep, t, R⟩ := R
  have few := R.few
  have sz := rows_size R.rws
  refine Calls.call_function_entry kind_sorted plain_sorted entry_sorted (args_sorted1 _) ?_
  unfold Builtin.«sorted»
  refine wpAny_bind (m := checkCount "sorted" 1 1 _) (wpAny_pure ?_)
  refine wpAny_bind (collect_set (A := A.in1) hh ⟨o, R.at_, R.exact_.1, R.dat⟩ R.fits (by unfold scanBound; omega) R.tab.ris R.led fun s1 vs k1 hz g1 o1 pm => ?_)
  rw [R.rws, show (rows (SK P w) L).map (·.2) = L.map fun r => Value.ref r.1 by unfold rows; rw [List.map_map]; rfl] at pm
  -- the rows in the order in which they come
  obtain ⟨L1, e1, p1⟩ : ∃ L1 : List TRow, vs = L1.map (fun r => Value.ref r.1) ∧ L1.Perm L := by
    have ord : ∀ us : List Value, (∀ v ∈ us, ∃ q ∈ L, v = Value.ref q.1) → ∃ L1 : List TRow, us = L1.map (fun q => Value.ref q.1) ∧ ∀ q ∈ L1, q ∈ L := by
      intro us
      induction us with
      | nil => exact fun _ => ⟨[], rfl, fun q hq => (by cases hq)⟩
      | cons v us ih =>
        intro hv
        obtain ⟨q, hq, e⟩ := hv v List.mem_cons_self
        obtain ⟨L1, e1, hs⟩ := ih fun u hu => hv u (List.mem_cons_of_mem _ hu)
        exact ⟨q :: L1, by rw [List.map_cons, e, e1], fun r hr => (List.mem_cons.mp hr).elim (fun z => z ▸ hq) (hs r)⟩
    obtain ⟨L1, e1, sub⟩ := ord vs fun v hv => by
      obtain ⟨q, hq, e⟩ := List.mem_map.mp (pm.mem_iff.mp hv)
      exact ⟨q, hq, e.symm⟩
    refine ⟨L1, e1, ?_⟩
    have one : ∀ q ∈ L, ∀ r ∈ L, q.1 = r.1 → q = r := fun q hq r hr e => by
      have a1 := R.tup q hq
      rw [e] at a1
      exact Prod.ext e (a1.inj (R.tup r hr))
    have nL : L.Nodup := List.Pairwise.of_map (·.2) (fun _ _ h e => h (congrArg (·.2) e)) R.nd
    have nref : (L.map fun q => Value.ref q.1).Nodup := List.pairwise_map.mpr (List.Pairwise.imp_of_mem (fun {q r} hq hr h e => by injection e with e; exact h (one q hq r hr e)) nL)
    rw [e1] at pm
    have n1 : L1.Nodup := List.Pairwise.of_map (fun q : TRow => Value.ref q.1) (fun _ _ h e => h (congrArg (fun q : TRow => Value.ref q.1) e)) (pm.nodup_iff.mpr nref)
    refine (List.perm_ext_iff_of_nodup n1 nL).mpr fun q => ⟨sub q, fun hq => ?_⟩
    obtain ⟨r, hr, e⟩ := List.mem_map.mp (pm.mem_iff.mpr (List.mem_map.mpr ⟨q, hq, rfl⟩))
    injection e with e
    rw [← one r (sub r hr) q hq e]
    exact hr
  subst e1
  have l1 : L1.length < 64 := by rw [p1.length_eq]; exact few
  have mem1 : ∀ r ∈ L1, r ∈ L := fun r hr => p1.mem_iff.mp hr
  refine wpAny_bind (wpAny_newList ?_ (by rw [List.length_map, sizeLine_eq]; omega))
  have hoL : (s1.heap.push (seqObj "list" (L1.map fun r => Value.ref r.1).toArray 0)).get? s1.heap.objs.size = some (seqObj "list" (L1.map fun r => Value.ref r.1).toArray 0) := Heap.get?_push_size _ rfl
  have tk : ∀ r ∈ L1, TupAt (SK P w) (s1.heap.push (seqObj "list" (L1.map fun r => Value.ref r.1).toArray 0)) r.2 r.1 := fun r hr => tup_old (R.tup r (mem1 r hr)) fun b o e => Heap.get?_push_of_some _ (k1 b o e)
  refine wpAny_bind (wpAny_holding (PySem.W.list_sort_data (s := { s1 with heap := s1.heap.push (seqObj "list" (L1.map fun r => Value.ref r.1).toArray 0) }) (bs := L1) (enc := encR) (R := fun v r => v = Value.ref r.1) hoL (each_of (f := fun r : TRow => Value.ref r.1) (fun _ => rfl) L1) (each_ofm (f := fun r : TRow => Value.ref r.1) L1 fun r hr => ⟨[], reads_tup (tk r hr), by simp⟩) (alike_rows L1) (sortable_rows fun r hr => ne r (mem1 r hr)) (by rw [sizeLine_eq]; omega)
    (fun r _ => by rw [show (encR r).depth = 1 from depth_enc r.2]; show A.units + 1 + 1 + 1 < cLine; omega) fun out ho eo => ?_))
  obtain ⟨c, hc⟩ := sortedHeap_at (vs := L1.map fun r => Value.ref r.1) (out := out.toArray) hoL
  refine wpAny_pure ⟨_, rfl, fin _ s1.heap.objs.size out.toArray c (L1.mergeSort (PySem.W.dataLe false encR)) (fun b u e => ?_) g1 o1 hz hc (by simpa using each_eq eo) (fun r hr => mem1 r ((List.mergeSort_perm _ _).mem_iff.mp hr)) ?_⟩
  · have q := k1 b u e
    have hlt := Heap.lt_size q
    show (sortedHeap (s1.heap.push (seqObj "list" (L1.map fun r => Value.ref r.1).toArray 0)) s1.heap.objs.size _ out.toArray).get? b = some u
    rw [sortedHeap_old (Nat.ne_of_lt hlt) (by rw [size_push']; exact Nat.lt_succ_of_lt hlt)]
    exact Heap.get?_push_of_some _ q
  · rw [sort_rows]
    exact sort_perm (p1.map (·.2))
end
end SB
namespace SB
set_option maxRecDepth 100000
set_option maxHeartbeats 0
open PySem PySem.Spec PyProof.Rows L2
/-! ### the numbers of a set, in order -/
def sortN (ns : List Nat) : List Nat := ns.foldr insN []
theorem mem_ins (n x : Nat) : ∀ l : List Nat, x ∈ insN n l ↔ x = n ∨ x ∈ l
  | [] => by simp [insN]
  | m :: l => by
    unfold insN
    split
    · simp
    · split
      · next h => subst h; simp
      · rw [List.mem_cons, mem_ins n x l, List.mem_cons]
        constructor
        · rintro (h | h | h) <;> simp [h]
        · rintro (h | h | h) <;> simp [h]
theorem asc_ins (n : Nat) : ∀ l : List Nat, l.Pairwise (· < ·) → (insN n l).Pairwise (· < ·)
  | [], _ => by simp [insN]
  | m :: l, h => by
    obtain ⟨h1, h2⟩ := List.pairwise_cons.mp h
    unfold insN
    split
    · next hlt =>
      refine List.pairwise_cons.mpr ⟨fun y hy => ?_, h⟩
      rcases List.mem_cons.mp hy with e | hy
      · omega
      · have := h1 y hy; omega
    · split
      · exact h
      · next hlt hne =>
        refine List.pairwise_cons.mpr ⟨fun y hy => ?_, asc_ins n l h2⟩
        rcases (mem_ins n y l).mp hy with e | hy
        · omega
        · exact h1 y hy
theorem mem_sortN (x : Nat) : ∀ ns : List Nat, x ∈ sortN ns ↔ x ∈ ns
  | [] => by simp [sortN]
  | n :: ns => by
    show x ∈ insN n (sortN ns) ↔ _
    rw [mem_ins, mem_sortN x ns, List.mem_cons]
theorem asc_sortN : ∀ ns : List Nat, (sortN ns).Pairwise (· < ·)
  | [] => List.Pairwise.nil
  | n :: ns => asc_ins n _ (asc_sortN ns)
theorem asc_eq {xs ys : List Int} (h1 : xs.Pairwise (· < ·)) (h2 : ys.Pairwise (· < ·)) (h : ∀ k, k ∈ xs ↔ k ∈ ys) : xs = ys := by
  have n1 : xs.Nodup := h1.imp fun h => Int.ne_of_lt h
  have n2 : ys.Nodup := h2.imp fun h => Int.ne_of_lt h
  exact List.Perm.eq_of_pairwise (le := fun a b => a < b) (fun a b _ _ p q => by omega) h1 h2 ((List.perm_ext_iff_of_nodup n1 n2).mpr h)
theorem asc_map {xs : List Nat} (h : xs.Pairwise (· < ·)) : (xs.map fun n : Nat => (n : Int)).Pairwise (· < ·) := List.pairwise_map.mpr (h.imp fun h => by omega)
theorem mem_mapI (k : Int) (xs : List Nat) : k ∈ (xs.map fun n : Nat => (n : Int)) ↔ ∃ n ∈ xs, (n : Int) = k := List.mem_map
section
variable {P : Program} {w : World} {A : Around} {E : Value → Shared → Prop} {s : Shared}
/-- a set's number of members, when all are small -/
theorem setR_few {h : Heap} {a : Addr} {S : Int → Bool} {n : Nat} (R : SetR w h a S n) {b : Nat} (hb : ∀ k, S k = true → 0 ≤ k ∧ k < b) : n ≤ b := by
  obtain ⟨o, es, ep, t, _, _, _, _, nd, hm, _, _, hn, _⟩ := R
  have h1 : (es.toList.map keyOf).length = n := by rw [List.length_map, Array.length_toList]; exact hn
  have h2 : ((es.toList.map keyOf).map Int.toNat).Nodup := List.pairwise_map.mpr (List.Pairwise.imp_of_mem (fun {x y} hx hy ne e => by
    have := hb x ((hm x).mpr hx)
    have := hb y ((hm y).mpr hy)
    exact ne (by omega)) nd)
  have h3 := h2.length_le_of_subset (l₂ := List.range b) fun x hx => by
    obtain ⟨k, hk, rfl⟩ := List.mem_map.mp hx
    have := hb k ((hm k).mpr hk)
    exact List.mem_range.mpr (by omega)
  rw [List.length_map, h1, List.length_range] at h3
  exact h3
theorem set_ints {l : Addr} {items : Array Value} (ns : List Int) {Q : Value → Shared → Prop} (hh : A.handled = none) (hl : s.heap.IsList l items) (hit : IntsAre items.toList ns) (hb : ns.length + 1 < scanBound)
    (fin : ∀ (h' : Heap) (tk c : Nat), SetR w h' s.heap.objs.size (fun j => decide (j ∈ ns)) c → Old s.heap h' → Q (.ref s.heap.objs.size) { s with heap := h', toks := tk }) : wpAny (model P w) A (call (.type "set") [.ref l]) Q E s := by
  have len : items.size = ns.length := by rw [← Array.length_toList]; exact IntsAre.length hit
  refine set_of_list (T := fun i h => (∃ c, c ≤ i ∧ SetR w h s.heap.objs.size (fun j => decide (j ∈ ns.take i)) c) ∧ Old s.heap h) hh hl (fun A' hA' => ⟨fun i h h' t k1 k2 => ?_, fun i v s' Q' E' hv t old go => ?_⟩) (fun h at_ old => ⟨⟨0, Nat.le_refl _, setR_new_at at_⟩, old⟩) (fun h' tk t old => ?_)
  · obtain ⟨⟨c, hc, R⟩, _⟩ := t
    exact ⟨⟨c, hc, R.at k1⟩, k2⟩
  · obtain ⟨⟨c, hc, R⟩, _⟩ := t
    have hi : i < ns.length := by rw [← len, ← Array.length_toList]; exact (List.getElem?_eq_some_iff.mp hv).1
    obtain ⟨tk, rfl⟩ := PyProof.Rows.IntsAre.int_at hit i v hv
    have hz : ns[i]? = some (ns.getD i 0) := by rw [List.getD_eq_getElem?_getD, List.getElem?_eq_getElem hi]; rfl
    generalize ns.getD i 0 = z at hz
    have fresh : s.heap.get? s.heap.objs.size = none := by
      cases q : s.heap.get? s.heap.objs.size with
      | none => rfl
      | some o => exact absurd (Heap.lt_size q) (Nat.lt_irrefl _)
    unfold setAdd
    refine wpAny_holding ?_
    refine wpAny_bind ((intKind P w).pyHash (k := z) (intKind_is _ _ _ _) ?_)
    refine setR_add_hashed (s := { s' with toks := s'.toks + 1 }) R (by omega) fun h' sb R2 => ?_
    refine go _ h' _ sb (Nat.le_add_right _ _) ⟨⟨_, ?_, R2.congr fun j => ?_⟩, fun b o e => (sb.2 b fun z => by rw [z, fresh] at e; cases e).trans (old b o e)⟩
    · split <;> omega
    · rw [List.take_add_one, hz]
      simp [List.mem_append]
  · obtain ⟨⟨c, hc, R⟩, _⟩ := t
    rw [List.take_of_length_le (by omega)] at R
    exact fin h' tk c R old
end
section
variable {X : Cx}
/-- set(xs), xs a list of ints -/
def rSetL (K : PySem.W.Frag) (w : World) : List V → Hp → VK → Prop := fun xs H Q => ∃ (l : Addr) (ns : List Int), xs = [V.ref l] ∧ SqL K H l (ns.map V.int) ∧ ns.length + 1 < scanBound ∧ ∀ a c, H a = none → ∀ S : Int → Bool, (∀ k, S k = true ↔ k ∈ ns) → (∀ b : Nat, (∀ k ∈ ns, 0 ≤ k ∧ k < (b : Int)) → c ≤ b) → Q (.ref a) (upd H a (SetO w a S c))
theorem ints_of_vals {ns : List Int} {us : List Value} (h : Vals (ns.map V.int) us) : IntsAre us ns := by
  induction ns generalizing us with
  | nil => cases h; exact .nil
  | cons n ns ih =>
    cases h with
    | cons r t =>
      obtain ⟨tk, rfl⟩ := r
      exact .cons n tk (ih t)
theorem cr_setL (hc : X.calm = true) : CallR X (.type "set") (rSetL X.K X.w) := by
  intro pins s σ H xs us Q I r h
  obtain ⟨l, ns, rfl, hl, hb, q⟩ := h
  rw [Vals.ref1 r]
  obtain ⟨its, rv, pl, hz⟩ := I.list hl
  refine set_ints (P := X.prog) (w := X.w) ns (I.ok.hd hc) pl.isList (by simpa using ints_of_vals rv) hb fun h' tk c R old => ?_
  refine ⟨.ref s.heap.objs.size, upd H s.heap.objs.size (SetO X.w s.heap.objs.size (fun j => decide (j ∈ ns)) c), I.laid (t' := tk) old (Nat.le_refl _) (setO_new R), rfl, q _ c (I.hok.fresh (Nat.le_refl _)) _ (fun k => decide_eq_true_iff) fun b hb => setR_few R fun k hk => hb k (of_decide_eq_true hk)⟩
variable {e : Expr} {r : Rho} {p1 p2 q1 q2 : Pos}
/-- sorted(set(e)), e a list of small numbers -/
theorem fx_sset {ns : List Nat} (h : EX X e r (.lst (ns.map natD))) (hb : ∀ n ∈ ns, n < 60) (hl : ns.length < 4000) (g1 : Gl X "sorted") (m1 : X.mg "sorted" = none) (g2 : Gl X "set") (m2 : X.mg "set" = none)
    (s1 : starEach [.Call (.Name "set" p2) [e] [] q2] X.env = [(false, eval (.Call (.Name "set" p2) [e] [] q2) X.env)]) (s2 : starEach [e] X.env = [(false, eval e X.env)]) :
    FX X (.Call (.Name "sorted" p1) [.Call (.Name "set" p2) [e] [] q2] [] q1) r ((sortN ns).map natD) := by
  constructor
  intro C L σ H Q dm I q
  refine we_of (pe_callB (cr_sortedSet C.calm) g1 m1 rfl (pa_cons (pe_callTy (cr_setL C.calm) g2 m2 rfl (pa_cons (pe_w X e) pa_nil s2) (by decide) (by decide) s2 rfl) pa_nil s1) (by decide) (by decide) s1 rfl) ?_
  refine h C L σ H _ dm I fun v H1 s1 i1 => ?_
  obtain ⟨a, xs, rfl, ha, l⟩ := is_lst i1
  have ex : xs = (ns.map fun n : Nat => (n : Int)).map V.int := isL_ints (ns := ns.map fun n : Nat => (n : Int)) (by rw [List.map_map]; exact l)
  rw [ex] at ha
  refine ⟨a, ns.map fun n : Nat => (n : Int), rfl, .inl (.inl (hid_sub _ _ ha)), by rw [List.length_map]; unfold scanBound; omega, fun S c hS U hU hc => ?_⟩
  have few : c ≤ 60 := hc 60 fun k hk => by
    obtain ⟨n, hn, rfl⟩ := (mem_mapI k ns).mp hk
    have := hb n hn
    omega
  refine ⟨S, U, c, rfl, upd_same, by omega, fun ns' p asc hm _ hp => ?_⟩
  have en : ns' = (sortN ns).map fun n : Nat => (n : Int) := asc_eq asc (asc_map (asc_sortN ns)) fun k => by
    rw [hm k, hU k, mem_mapI, mem_mapI]
    constructor
    · rintro ⟨n, h, e⟩; exact ⟨n, (mem_sortN n ns).mpr h, e⟩
    · rintro ⟨n, h, e⟩; exact ⟨n, (mem_sortN n ns).mp h, e⟩
  rw [en]
  have t1 : Same H1 (upd H1 S (SetO X.w S U c)) := same_new hS
  have t2 : Same (upd H1 S (SetO X.w S U c)) (upd (upd H1 S (SetO X.w S U c)) p (.lst (((sortN ns).map fun n : Nat => (n : Int)).map V.int))) := same_new hp
  refine q p _ _ (Same.free ((s1.trans t1)) hp) ((s1.trans t1).trans t2) upd_same ?_
  have := isL_of_ints (K := X.K) (H := hid (upd (upd H1 S (SetO X.w S U c)) p (.lst (((sortN ns).map fun n : Nat => (n : Int)).map V.int))) (p :: L)) ((sortN ns).map fun n : Nat => (n : Int))
  rwa [List.map_map (f := fun n : Nat => (n : Int)) (g := D.int)] at this
end
end SB
namespace SB
set_option maxRecDepth 100000
set_option maxHeartbeats 0
open PySem PySem.Spec PyProof.Rows L2
/-! ### sorted(set(..)), sorted(..) of tuples of texts, as rules -/
structure TxK (P : Program) (w : World) (h : Heap) (a : Addr) (L : List TRow) : Prop where
  ex : ∃ (o : Obj) (es : Array (Int × Value)) (ep : Nat) (t : SetTable), h.get? a = some o ∧ o.ExactSet ∧ o.data = .set es ep t ∧ es.toList = rows (SK P w) L ∧ TabOk t (L.map fun p => hk (SK P w) p.2) ∧ (L.map (·.2)).Nodup ∧ (w.params.followText "set-order" = true ∨ t.led = true) ∧ L.length * 5 < t.mask * 3 ∧ L.length < 64
def TxO (P : Program) (w : World) (a : Addr) (L : List TRow) : HO := .ext fun h => TxK P w h a L
theorem txk_of {P : Program} {w : World} {h : Heap} {a : Addr} {L : List TRow} (R : Known (SK P w) h a L) : TxK P w h a L := by
  obtain ⟨o, es, ep, t, R⟩ := R
  exact ⟨o, es, ep, t, R.at_, R.exact_, R.dat, R.rws, R.tab, R.nd, R.led, R.room, R.few⟩
theorem TxK.known {P : Program} {w : World} {h : Heap} {a : Addr} {L : List TRow} (R : TxK P w h a L) (ht : ∀ p ∈ L, TupAt (SK P w) h p.2 p.1) : Known (SK P w) h a L := by
  obtain ⟨o, es, ep, t, h1, h2, h3, h4, h5, h6, h7, h8, h9⟩ := R.ex
  exact ⟨o, es, ep, t, ⟨h1, h2, h3, h4, h5, h6, ht, h7, h8, h9⟩⟩
theorem txO_new {P : Program} {w : World} {H : Hp} {h : Heap} {a : Addr} {L : List TRow} (R : TxK P w h a L) : ObjOk P w H h a (TxO P w a L) := by
  have ⟨o, es, ep, t, ho, r⟩ := R.ex
  refine ⟨R, ⟨o, ho⟩, fun h1 h2 p k => ?_⟩
  have ⟨o', es', ep', t', ho', r'⟩ := TxK.ex p
  exact ⟨o', es', ep', t', k o' ho', r'⟩
theorem items_strs {P : Program} {w : World} : ∀ {k : List Str} {us : List Value}, Vals (k.map V.str) us → ItemsAre (SK P w) k us
  | [], _, .nil => .nil
  | n :: k, _, .cons r t => by
    obtain ⟨tk, rfl⟩ := r
    exact .cons (strKind_is P w n tk) (items_strs t)
theorem refs_vals : ∀ {ks : List TRow} {us : List Value}, Vals (ks.map fun p => V.ref p.1) us → us = ks.map fun p => Value.ref p.1
  | [], _, .nil => rfl
  | p :: ks, _, .cons r t => by
    cases r
    rw [refs_vals t]; rfl
theorem vals_refs : ∀ ks : List TRow, Vals (ks.map fun p => V.ref p.1) (ks.map fun p => Value.ref p.1)
  | [] => .nil
  | p :: ks => .cons rfl (vals_refs ks)
section
variable {X : Cx}
theorem inv_tup {pins : List (Addr × Obj)} {σ : L2.St} {H : Hp} {s : Shared} {b : Addr} {k : List Str} (I : Inv X pins σ H s) (h : SqT X.K H b (k.map V.str)) : TupAt (SK X.prog X.w) s.heap k b := by
  obtain ⟨its, r, ⟨o, ho, hc, n, hd⟩, _⟩ := I.tuple h
  exact ⟨o, its.toArray, n, ho, hc, hd, by simpa using items_strs r⟩
def rSetX (K : PySem.W.Frag) (P : Program) (w : World) : List V → Hp → VK → Prop := fun xs H Q => ∃ (l : Addr) (ks : List TRow), xs = [V.ref l] ∧ SqL K H l (ks.map fun p => V.ref p.1) ∧ (∀ p ∈ ks, SqT K H p.1 (p.2.map V.str)) ∧ ks.length < 64 ∧
  ∀ a L, H a = none → (∀ p ∈ L, p ∈ ks) → (∀ p ∈ ks, p.2 ∈ L.map (·.2)) → (L.map (·.2)).Nodup → Q (.ref a) (upd H a (TxO P w a L))
theorem cr_setX (hc : X.calm = true) (hu : X.A.units + 65 < cLine) : CallR X (.type "set") (rSetX X.K X.prog X.w) := by
  intro pins s σ H xs us Q I r h
  obtain ⟨l, ks, rfl, hl, hk', hf, q⟩ := h
  rw [Vals.ref1 r]
  obtain ⟨its, rv, pl, hz⟩ := I.list hl
  refine set_texts (P := X.prog) (w := X.w) (plain_str _ _) ks (I.ok.hd hc) pl.isList (by simpa using refs_vals rv) (fun p hp => inv_tup I (hk' p hp)) hf (by omega) fun h' tk L R g old => ?_
  have nd : (L.map (·.2)).Nodup := by obtain ⟨_, _, _, _, R⟩ := R; exact R.nd
  refine ⟨.ref s.heap.objs.size, upd H s.heap.objs.size (TxO X.prog X.w s.heap.objs.size L), I.laid (t' := tk) old (Nat.le_refl _) (txO_new (txk_of R)), rfl, q _ L (I.hok.fresh (Nat.le_refl _)) (fun p hp => List.mem_of_mem_take (g.sub p hp)) (fun p hp => g.all p (by rw [List.take_length]; exact hp)) nd⟩
theorem laid_list {pins : List (Addr × Obj)} {σ : L2.St} {H : Hp} {s s' : Shared} {p : Addr} {out : Array Value} {c : Nat} {L' : List TRow} {Q : VK} (I : Inv X pins σ H s) (k : Old s.heap s'.heap) (g : s'.gens = s.gens) (o : s'.os = s.os) (hp : s.heap.objs.size ≤ p)
    (hg : s'.heap.get? p = some (seqObj "list" out c)) (hout : out.toList = L'.map fun r => Value.ref r.1) (hz : L'.length ≤ sizeLine) (q : H p = none → Q (.ref p) (upd H p (.lst (L'.map fun r => V.ref r.1)))) : EP X pins σ Q (.ref p) s' := by
  have hn : H p = none := I.hok.fresh hp
  have hv : Vals (L'.map fun q => V.ref q.1) out.toList := by rw [hout]; exact vals_refs L'
  have J : Inv X pins σ (upd H p (.lst (L'.map fun q => V.ref q.1))) { s with heap := s'.heap, gens := s'.gens, drawn := s'.drawn, toks := s'.toks } :=
    I.call (ch := []) (Un.laid k hp hn) (I.hok.laid k hp ⟨by rw [List.length_map]; exact hz, out.toList, c, hv, hg⟩) (by rw [g]; exact I.bare) (fun _ z => nomatch z)
  have e : s' = { s with heap := s'.heap, gens := s'.gens, drawn := s'.drawn, toks := s'.toks } := by
    cases s'
    cases s
    cases o
    rfl
  rw [e]
  exact ⟨.ref p, _, J, rfl, q hn⟩
def rSortX (K : PySem.W.Frag) (P : Program) (w : World) : List V → Hp → VK → Prop := fun vs H Q => ∃ (a : Addr) (L : List TRow), vs = [V.ref a] ∧ H a = some (TxO P w a L) ∧ (∀ p ∈ L, SqT K H p.1 (p.2.map V.str) ∧ p.2 ≠ []) ∧
  ∀ (L' : List TRow) (p : Addr), (∀ r ∈ L', r ∈ L) → L'.map (·.2) = (L.map (·.2)).mergeSort leS → H p = none → Q (.ref p) (upd H p (.lst (L'.map fun q => V.ref q.1)))
theorem cr_sortX (hc : X.calm = true) (hu : X.A.units + 65 < cLine) : CallR X (.builtin "sorted") (rSortX X.K X.prog X.w) := by
  intro pins s σ H vs us Q I r h
  obtain ⟨a, L, rfl, ha, hk', q⟩ := h
  have R0 : TxK X.prog X.w s.heap a L := (I.hok a _ ha).1
  have few : L.length < 64 := by obtain ⟨_, _, _, _, _, _, _, _, _, _, _, _, h⟩ := R0.ex; exact h
  rw [Vals.ref1 r]
  refine sorted_texts (R0.known fun p hp => inv_tup I (hk' p hp).1) (I.ok.hd hc) (fun p hp => (hk' p hp).2) (by omega) fun s' p out c L' k g o hp hg hout sub srt => ?_
  have len : L'.length = L.length := by
    have := congrArg List.length srt
    rwa [List.length_map, List.length_mergeSort, List.length_map] at this
  exact laid_list I k g o hp hg hout (by rw [len, sizeLine_eq]; omega) fun hn => q L' p sub srt hn
def rSortY (K : PySem.W.Frag) : List V → Hp → VK → Prop := fun vs H Q => ∃ (l : Addr) (ks : List TRow), vs = [V.ref l] ∧ SqL K H l (ks.map fun p => V.ref p.1) ∧ (∀ p ∈ ks, SqT K H p.1 (p.2.map V.str) ∧ p.2 ≠ []) ∧ ks.length ≤ sizeLine ∧
  ∀ (L' : List TRow) (p : Addr), (∀ r ∈ L', r ∈ ks) → L'.map (·.2) = (ks.map (·.2)).mergeSort leS → H p = none → Q (.ref p) (upd H p (.lst (L'.map fun q => V.ref q.1)))
theorem cr_sortY (hu : X.A.units + 65 < cLine) : CallR X (.builtin "sorted") (rSortY X.K) := by
  intro pins s σ H vs us Q I r h
  obtain ⟨l, ks, rfl, hl, hk', hz, q⟩ := h
  rw [Vals.ref1 r]
  obtain ⟨its, rv, pl, hz2⟩ := I.list hl
  refine sorted_rows ks pl.isList (by simpa using refs_vals rv) (fun p hp => inv_tup I (hk' p hp).1) (fun p hp => (hk' p hp).2) hz (by omega) fun s' p out c k g o hp hg hout => ?_
  exact laid_list I k g o hp hg hout (by rw [List.length_mergeSort]; exact hz) fun hn => q _ p (fun r hr => (List.mergeSort_perm _ _).mem_iff.mp hr) (sort_rows ks) hn

/-! lists of marks as rows -/
theorem rows_isL {K : PySem.W.Frag} {G : Hp} : ∀ {xs : List V} {ms : List Mk}, IsL K G xs (ms.map mkD) → ∃ ks : List TRow, xs = ks.map (fun p => V.ref p.1) ∧ ks.map (·.2) = ms.map mkS ∧ ∀ p ∈ ks, SqT K G p.1 (p.2.map V.str)
  | _, [], h => by cases h; exact ⟨[], rfl, rfl, fun p hp => (by cases hp)⟩
  | _, m :: ms, h => by
    cases h with
    | cons h t =>
      obtain ⟨a, us, rfl, ha, l⟩ := is_tup h
      rw [isL_strs l] at ha
      obtain ⟨ks, rfl, e, f⟩ := rows_isL t
      refine ⟨(a, mkS m) :: ks, rfl, by rw [List.map_cons, e]; rfl, fun p hp => ?_⟩
      rcases List.mem_cons.mp hp with z | hp
      · rw [z]; exact ha
      · exact f p hp
theorem isL_rows {K : PySem.W.Frag} {G : Hp} : ∀ {ks : List TRow} {ms : List Mk}, ks.map (·.2) = ms.map mkS → (∀ p ∈ ks, SqT K G p.1 (p.2.map V.str)) → IsL K G (ks.map fun p => V.ref p.1) (ms.map mkD)
  | [], [], _, _ => .nil
  | [], _ :: _, h, _ => by cases h
  | _ :: _, [], h, _ => by cases h
  | p :: ks, m :: ms, h, f => by
    obtain ⟨h1, h2⟩ := List.cons.inj h
    refine .cons ?_ (isL_rows h2 fun q hq => f q (List.mem_cons_of_mem _ hq))
    have := f p List.mem_cons_self
    rw [show p.2 = mkS m from h1] at this
    exact .tup this (isL_of_strs _)
theorem mkS_ne (m : Mk) : mkS m ≠ [] := by cases m <;> simp [mkS]
theorem rows_ne {ks : List TRow} {ms : List Mk} (h : ks.map (·.2) = ms.map mkS) : ∀ p ∈ ks, p.2 ≠ [] := fun p hp => by
  have : p.2 ∈ ms.map mkS := h ▸ List.mem_map.mpr ⟨p, hp, rfl⟩
  obtain ⟨m, _, e⟩ := List.mem_map.mp this
  rw [← e]; exact mkS_ne m
def leM (a b : Mk) : Bool := leS (mkS a) (mkS b)
/-- marks in the program's order -/
def sortM (ms : List Mk) : List Mk := ms.mergeSort leM
theorem sortM_map (ms : List Mk) : (sortM ms).map mkS = (ms.map mkS).mergeSort leS := List.map_mergeSort fun a _ b _ => rfl
theorem mem_sortM (m : Mk) (ms : List Mk) : m ∈ sortM ms ↔ m ∈ ms := (List.mergeSort_perm ms leM).mem_iff
/-- without repeats -/
def dd : List Mk → List Mk
  | [] => []
  | m :: ms => if m ∈ ms then dd ms else m :: dd ms
theorem mem_dd (m : Mk) : ∀ ms : List Mk, m ∈ dd ms ↔ m ∈ ms
  | [] => Iff.rfl
  | x :: ms => by
    unfold dd
    split
    · next h =>
      rw [mem_dd m ms, List.mem_cons]
      exact ⟨.inr, fun h' => h'.elim (fun e => e ▸ h) id⟩
    · rw [List.mem_cons, List.mem_cons, mem_dd m ms]
theorem nd_dd : ∀ ms : List Mk, (dd ms).Nodup
  | [] => List.nodup_nil
  | x :: ms => by
    unfold dd
    split
    · exact nd_dd ms
    · next h => exact List.nodup_cons.mpr ⟨fun z => h ((mem_dd x ms).mp z), nd_dd ms⟩
theorem len_dd : ∀ ms : List Mk, (dd ms).length ≤ ms.length
  | [] => Nat.le_refl _
  | x :: ms => by
    have := len_dd ms
    unfold dd
    split <;> simp <;> omega
theorem nd_keys {ms : List Mk} (h : ms.Nodup) : (ms.map mkS).Nodup := List.pairwise_map.mpr (h.imp fun ne e => ne (mkS_inj.mp e))
def setM (ms : List Mk) : List Mk := sortM (dd ms)
theorem mem_setM (m : Mk) (ms : List Mk) : m ∈ setM ms ↔ m ∈ ms := by unfold setM; rw [mem_sortM, mem_dd]
theorem len_setM (ms : List Mk) : (setM ms).length ≤ ms.length := by unfold setM sortM; rw [List.length_mergeSort]; exact len_dd ms
theorem len_sortM (ms : List Mk) : (sortM ms).length = ms.length := List.length_mergeSort ..
variable {e : Expr} {r : Rho} {p1 p2 q1 q2 : Pos}
theorem fx_sortM {ms : List Mk} (h : EX X e r (.lst (ms.map mkD))) (hz : ms.length ≤ sizeLine) (hu : X.A.units + 65 < cLine) (g1 : Gl X "sorted") (m1 : X.mg "sorted" = none) (s2 : starEach [e] X.env = [(false, eval e X.env)]) : FX X (.Call (.Name "sorted" p1) [e] [] q1) r ((sortM ms).map mkD) := by
  constructor
  intro C L σ H Q dm I q
  refine we_of (pe_callB (cr_sortY hu) g1 m1 rfl (pa_cons (pe_w X e) pa_nil s2) (by decide) (by decide) s2 rfl) ?_
  refine h C L σ H _ dm I fun v H1 s1 i1 => ?_
  obtain ⟨a, xs, rfl, ha, l⟩ := is_lst i1
  obtain ⟨ks, rfl, ek, ft⟩ := rows_isL l
  have len : ks.length = ms.length := by have := congrArg List.length ek; rwa [List.length_map, List.length_map] at this
  refine ⟨a, ks, rfl, .inl (.inl (hid_sub _ _ ha)), fun p hp => ⟨same_t hid_sub (ft p hp), rows_ne ek p hp⟩, by rw [len]; exact hz, fun L' p sub srt hp => ?_⟩
  have t : Same H1 (upd H1 p (.lst (L'.map fun q => V.ref q.1))) := same_new hp
  refine q p _ _ (Same.free s1 hp) (s1.trans t) upd_same (isL_rows (by rw [srt, ek, sortM_map]) fun x hx => same_t (hid_new hp t) (ft x (sub x hx)))
theorem fx_setM {ms : List Mk} (h : EX X e r (.lst (ms.map mkD))) (hl : ms.length < 64) (hu : X.A.units + 65 < cLine) (g1 : Gl X "sorted") (m1 : X.mg "sorted" = none) (g2 : Gl X "set") (m2 : X.mg "set" = none)
    (s1 : starEach [.Call (.Name "set" p2) [e] [] q2] X.env = [(false, eval (.Call (.Name "set" p2) [e] [] q2) X.env)]) (s2 : starEach [e] X.env = [(false, eval e X.env)]) :
    FX X (.Call (.Name "sorted" p1) [.Call (.Name "set" p2) [e] [] q2] [] q1) r ((setM ms).map mkD) := by
  constructor
  intro C L σ H Q dm I q
  refine we_of (pe_callB (cr_sortX C.calm hu) g1 m1 rfl (pa_cons (pe_callTy (cr_setX C.calm hu) g2 m2 rfl (pa_cons (pe_w X e) pa_nil s2) (by decide) (by decide) s2 rfl) pa_nil s1) (by decide) (by decide) s1 rfl) ?_
  refine h C L σ H _ dm I fun v H1 s1 i1 => ?_
  obtain ⟨a, xs, rfl, ha, l⟩ := is_lst i1
  obtain ⟨ks, rfl, ek, ft⟩ := rows_isL l
  have len : ks.length = ms.length := by have := congrArg List.length ek; rwa [List.length_map, List.length_map] at this
  refine ⟨a, ks, rfl, .inl (.inl (hid_sub _ _ ha)), fun p hp => same_t hid_sub (ft p hp), by omega, fun S L1 hS sub all nd => ?_⟩
  have t1 : Same H1 (upd H1 S (TxO X.prog X.w S L1)) := same_new hS
  refine ⟨S, L1, rfl, upd_same, fun p hp => ⟨same_t (t1) (same_t hid_sub (ft p (sub p hp))), rows_ne ek p (sub p hp)⟩, fun L' p sub2 srt hp => ?_⟩
  have t2 : Same (upd H1 S (TxO X.prog X.w S L1)) (upd (upd H1 S (TxO X.prog X.w S L1)) p (.lst (L'.map fun q => V.ref q.1))) := same_new hp
  have pm : (L1.map (·.2)).Perm ((dd ms).map mkS) := (List.perm_ext_iff_of_nodup nd (nd_keys (nd_dd ms))).mpr fun k => by
    constructor
    · intro hk'
      obtain ⟨p, hp, rfl⟩ := List.mem_map.mp hk'
      have : p.2 ∈ ms.map mkS := ek ▸ List.mem_map.mpr ⟨p, sub p hp, rfl⟩
      obtain ⟨m, hm, e⟩ := List.mem_map.mp this
      exact List.mem_map.mpr ⟨m, (mem_dd m ms).mpr hm, e⟩
    · intro hk'
      obtain ⟨m, hm, rfl⟩ := List.mem_map.mp hk'
      have : mkS m ∈ ks.map (·.2) := ek ▸ List.mem_map.mpr ⟨m, (mem_dd m ms).mp hm, rfl⟩
      obtain ⟨p, hp, e⟩ := List.mem_map.mp this
      rw [← e]; exact all p hp
  refine q p _ _ (Same.free (s1.trans t1) hp) ((s1.trans t1).trans t2) upd_same (isL_rows (by rw [srt, sort_perm pm]; exact (sortM_map (dd ms)).symm) fun x hx => ?_)
  exact same_t ((hid_mono t1).trans (hid_new hp t2)) (ft x (sub x (sub2 x hx)))
end
end SB
namespace SB
set_option maxRecDepth 100000
open PySem PySem.Spec PyProof.Rows L2
def SeqD (d : D) (ds : List D) : Prop := d = .tup ds ∨ d = .lst ds
theorem sq_is {d : D} {ds : List D} (h : SeqD d ds) : SeqD d ds := h
theorem sq_t {ds : List D} : SeqD (.tup ds) ds := .inl rfl
theorem sq_l {ds : List D} : SeqD (.lst ds) ds := .inr rfl
section
variable {X : Cx} {a b iter tg : Expr} {r : Rho} {dd d : D} {ds ys : List D} {i : Int} {pos : Pos}
theorem ex_ix (ha : EX X a r dd) (hb : EX X b r (.int i)) (hd : SeqD dd ds) (h : atI ds i = some d) (hs : PlainIx b) : EX X (.Subscript a b pos) r d := by
  rcases hd with rfl | rfl
  · exact ex_ixT ha hb h hs
  · exact ex_ixL ha hb h hs
theorem ix_seq (h : EX X iter r dd) (hd : SeqD dd ys) : IX X tg iter r ys := by
  rcases hd with rfl | rfl
  · exact ix_tup h
  · exact ix_lst h
end
theorem ixn_is {n : Nat} {i : Int} {j : Nat} (h : ixN n i = some j) : ixN n i = some j := h
theorem ixn_nat {n i : Nat} (h : i < n) : ixN n (i : Int) = some i := by
  unfold ixN
  simp [h]
section
variable {X : Cx} {ex ix : Expr} {rest : List Stmt} {e e' : Env'} {o : Out} {pos p' sp py spos : Pos} {d : D} {ds es : List D} {x y : Str} {i : Nat} {r : Rho}
theorem as2_is {t : Expr} {f : Value → Sem Unit} (h : ∀ v, assign t X.env v = f v) : ∀ v, assign t X.env v = f v := h
theorem sx_item {n : Int} {j : Nat} (w : LkU e x ds (ds.set j d) e' i) (h : EX X ex (rd e) d) (im : Imm d = true) (hix : EX X ix (rd e) (.int n)) (hj : ixN ds.length n = some j) (hv : Vis X.env.scope x)
    (hasg : ∀ v, assign (.Subscript (.Name x p') ix sp) X.env v = (do
      let ov ← holding [v] (eval (.Name x p') X.env)
      let iv ← holding [v, ov] (eval ix X.env)
      standAt sp
      holding [v, ov, iv] (setItem ov iv v)
      release [v, ov, iv] []))
    (hs : swapsWithSole [.Subscript (.Name x p') ix sp] ex pos.line X.env = pure false) (hw : swappedStores [.Subscript (.Name x p') ix sp] ex X.env = pure none) (h1 : (assignEach [.Subscript (.Name x p') ix sp] X.env).map (·.2) = [assign (.Subscript (.Name x p') ix sp) X.env])
    (r : SX X rest e' o) : SX X (.Assign [.Subscript (.Name x p') ix sp] ex pos :: rest) e o := sx_cons (s1_item w h im hix hj hv hasg hs hw h1) r
theorem slx_fxl (h : FX X ex r es) (hx : Loc X.env.scope y) (hs : swapsWith ex (some (.Name y py)) spos.line X.env = pure false) (hf : X.fn y = true ∨ X.env.scope.names.lookup y = some .local) : SLX X y py ex spos r es := slx_fx h hx hs hf
end
theorem g_SLc {X : Cx} {y : Str} {py spos pos : Pos} {r : Rho} {es : List D} {elt : Expr} {gens} {sc : Scope} (h : SLX X y py (.ListComp elt gens sc pos) spos r es) : SLX X y py (.ListComp elt gens sc pos) spos r es := h
theorem some_map (h : List Nat) : h.map natD = (h.map some).map optD := by rw [List.map_map]; rfl
end SB
namespace SB
set_option maxRecDepth 100000
set_option maxHeartbeats 0
open PySem PySem.Spec PyProof.Rows L2
/-! ### (x,) * n -/
theorem tuple_mul1 (l : Addr) (items : Array Value) (n : Nat) (dd : Option Addr) (sl : Array (Option Value)) (u : Tok) :
    Meets (Builtin.«tuple.__mul__» ⟨[.ref l, .int 1 u], []⟩) (fun _ R s => s.heap.get? l = some { cls := .type "tuple", dict := dd, data := .seq items n, slots := sl } ∧ R (.ok (.ret (Value.ref l))) s) :=
  .of_wp fun prog w A R s h => by
    obtain ⟨hp, g, d, tk, os⟩ := s
    obtain ⟨hl, h⟩ := h
    have f1 := AutoSeq1.idx_int
    wp_walk using wpAny_loadPart' hl
    exact ⟨_, rfl, h⟩
theorem tuple_mul0 (l : Addr) (x : Value) (n : Nat) (dd : Option Addr) (sl : Array (Option Value)) (u : Tok) :
    Meets (Builtin.«tuple.__mul__» ⟨[.ref l, .int 0 u], []⟩) (fun _ R s => s.heap.get? l = some { cls := .type "tuple", dict := dd, data := .seq #[x] n, slots := sl } ∧
      R (.ok (.ret (Value.ref s.heap.objs.size))) { s with heap := s.heap.push { cls := Value.type "tuple", data := Data.seq #[] }, toks := s.toks }) :=
  .of_wp fun prog w A R s h => by
    obtain ⟨hp, g, d, tk, os⟩ := s
    obtain ⟨hl, h⟩ := h
    have f1 := AutoSeq1.idx_int
    wp_walk using wpAny_loadPart' hl
    exact ⟨_, rfl, h⟩
def rRep01 (K : PySem.W.Frag) : R2 := fun x y H Q => ∃ l k z, x = .ref l ∧ y = .int k ∧ SqT K H l [z] ∧ ((k = 1 ∧ Q (.ref l) H) ∨ (k = 0 ∧ ∀ p, H p = none → Q (.ref p) (upd H p (.tup []))))
section
variable {X : Cx}
theorem op_rep01 : OpR X (binaryOp .Mult) (rRep01 X.K) := by
  intro pins s σ H x y v u Q I rx ry h
  obtain ⟨l, k, z, rfl, rfl, hT, q⟩ := h
  cases rx
  obtain ⟨t, rfl⟩ := ry
  obtain ⟨its, r, ⟨⟨cls, dd, data, sl⟩, ho, hc, n, hd⟩, hs⟩ := I.tuple hT
  simp only at hc hd
  subst hc hd
  cases r with
  | cons r0 rt =>
    cases rt
    rename_i v0
    rcases q with ⟨rfl, q⟩ | ⟨rfl, q⟩
    · refine wpAny_binaryOp_repeat_ref (T := "tuple") (U := "int") (by decide) ⟨_, ho, rfl⟩ (fun s' => typeIs_int s' 1 t) noFill_tuple_mul F.fills_int_mul F.slot_int_rmul repeat_tuple F.slot_int_index.lookup
        (call_meets F.slot_int_rmul (typeIs_int s 1 t) F.entry_int_rmul (F.args_int_rmul_2 _ _) (int_rmul_tuple 1 t l _ n dd sl)
          ⟨ho, rfl, ⟨_, ho, rfl⟩, call_meets F.slot_tuple_mul ⟨_, ho, rfl⟩ F.entry_tuple_mul (F.args_tuple_mul_2 _ _) (tuple_mul1 l _ n dd sl t) ⟨ho, ?_⟩⟩)
      exact ⟨.ref l, H, I, rfl, q⟩
    · refine wpAny_binaryOp_repeat_ref (T := "tuple") (U := "int") (by decide) ⟨_, ho, rfl⟩ (fun s' => typeIs_int s' 0 t) noFill_tuple_mul F.fills_int_mul F.slot_int_rmul repeat_tuple F.slot_int_index.lookup
        (call_meets F.slot_int_rmul (typeIs_int s 0 t) F.entry_int_rmul (F.args_int_rmul_2 _ _) (int_rmul_tuple 0 t l _ n dd sl)
          ⟨ho, rfl, ⟨_, ho, rfl⟩, call_meets F.slot_tuple_mul ⟨_, ho, rfl⟩ F.entry_tuple_mul (F.args_tuple_mul_2 _ _) (tuple_mul0 l v0 n dd sl t) ⟨ho, ?_⟩⟩)
      refine ⟨.ref s.heap.objs.size, _, I.laid (t' := s.toks) (o := .tup []) (fun b ob q => Heap.get?_push_of_some _ q) (Nat.le_refl _) ?_, rfl, q _ (I.hok.fresh (Nat.le_refl _))⟩
      exact ⟨Nat.zero_le _, _, .nil, IsTup.new _ _⟩
theorem o_neNat {m n : Nat} : Op2 X (compareOp .NotEq) (natD m) (natD n) (.bl (m != n)) := by
  have h := o_nei (X := X) (a := (m : Int)) (b := (n : Int))
  have e : (m != n) = !decide ((m : Int) = (n : Int)) := by
    rw [Bool.eq_iff_iff, bne_iff_ne, Bool.not_eq_true', decide_eq_false_iff_not]; omega
  rw [e]; exact h
theorem o_eqNat {m n : Nat} : Op2 X (compareOp .Eq) (natD m) (natD n) (.bl (decide (m = n))) := by
  have h := o_eqi (X := X) (a := (m : Int)) (b := (n : Int))
  have e : decide (m = n) = decide ((m : Int) = (n : Int)) := decide_eq_decide.mpr (by omega)
  rw [e]; exact h
theorem o_inNew {T : List Mk} {s : Bool} (hu : X.A.units + 65 < cLine) : Op2 X (compareOp .In) (.tup [.str "new", .str (bif s then "scanned" else "unscanned")]) (.tup (T.map mkD)) (.bl (decide (Mk.new s ∈ T))) := o_inMk (m := .new s) hu
theorem o_inLoad {T : List Mk} {s : Bool} {c : Col} (hu : X.A.units + 65 < cLine) : Op2 X (compareOp .In) (.tup [.str "load", .str (bif s then "scanned" else "unscanned"), colD c]) (.tup (T.map mkD)) (.bl (decide (Mk.load s c ∈ T))) := o_inMk (m := .load s c) hu
theorem op2_catl {xs ys : List D} (c : xs.length + ys.length ≤ sizeLine) : Op2 X (binaryOp .Add) (.lst xs) (.lst ys) (.lst (xs ++ ys)) := op2_F (o_catl c)
theorem flat_one {α : Type} (v : α) : ∀ n : Nat, (List.replicate n [v]).flatten = List.replicate n v
  | 0 => rfl
  | n + 1 => by rw [List.replicate_succ, List.flatten_cons, flat_one v n]; rfl
/-- (x,) * n -/
theorem o_rept {d : D} {n : Nat} (hn : n ≤ 1000) : Op2 X (binaryOp .Mult) (.tup [d]) (.int (n : Int)) (.tup (List.replicate n d)) := by
  by_cases h2 : 2 ≤ n
  · refine ⟨_, op_repT, fun L H x y Q dm h1 hy q => ?_⟩
    obtain ⟨a, us, rfl, ha, la⟩ := is_tup h1
    obtain ⟨v, rfl, iv⟩ := isL1 la
    refine ⟨a, (n : Int), [v], rfl, is_int hy, same_t hid_sub ha, by simp, by omega, by omega, by simp, fun p hp => ?_⟩
    have e : (List.replicate ((n : Int).toNat) [v]).flatten = List.replicate n v := by
      rw [Int.toNat_natCast]; exact flat_one v n
    rw [e]
    have s2 : Same H (upd H p (.tup (List.replicate n v))) := same_new hp
    exact q _ _ s2 (.tup (.inl (.inl (is_new (K := X.K) dm hp))) (IsL.rep (iv.mono (hid_mono s2)) n))
  · refine ⟨_, op_rep01, fun L H x y Q dm h1 hy q => ?_⟩
    obtain ⟨a, us, rfl, ha, la⟩ := is_tup h1
    obtain ⟨v, rfl, iv⟩ := isL1 la
    refine ⟨a, (n : Int), v, rfl, is_int hy, same_t hid_sub ha, ?_⟩
    by_cases h1' : n = 1
    · subst h1'
      exact .inl ⟨rfl, q _ H (Same.refl H) (.tup ha la)⟩
    · obtain rfl : n = 0 := by omega
      refine .inr ⟨rfl, fun p hp => ?_⟩
      have s2 : Same H (upd H p (.tup [])) := same_new hp
      exact q _ _ s2 (.tup (.inl (.inl (is_new (K := X.K) dm hp))) .nil)
variable {e : Expr} {r : Rho} {dd : D} {p1 p2 q1 q2 : Pos} {c : Expr} {a rest : List Stmt} {en : Env'} {o : Out} {k : Bool} {pos : Pos}
section
variable {es : List Expr} {ds ys : List D} {d : D}
theorem ex_len (hg : Gl X "len") (hm : X.mg "len" = none) (he : starEach (e :: es) X.env = (false, eval e X.env) :: starEach es X.env) (hpl : (backTo pos (starEach es X.env)).any (·.1) = false) (ha : AX X (e :: es) r ds) (hc : CallD X (.builtin "len") ds d) :
    EX X (.Call (.Name "len" p1) (e :: es) [] pos) r d := ex_cB rfl hg hm (by decide) (by decide) he hpl ha hc
theorem ex_tuple (hg : Gl X "tuple") (hm : X.mg "tuple" = none) (he : starEach (e :: es) X.env = (false, eval e X.env) :: starEach es X.env) (hpl : (backTo pos (starEach es X.env)).any (·.1) = false) (ha : AX X (e :: es) r ds) (hc : CallD X (.type "tuple") ds d) :
    EX X (.Call (.Name "tuple" p1) (e :: es) [] pos) r d := ex_cT rfl hg hm (by decide) (by decide) he hpl ha hc
theorem ex_list (hg : Gl X "list") (hm : X.mg "list" = none) (he : starEach (e :: es) X.env = (false, eval e X.env) :: starEach es X.env) (hpl : (backTo pos (starEach es X.env)).any (·.1) = false) (ha : AX X (e :: es) r ds) (hc : CallD X (.type "list") ds d) :
    EX X (.Call (.Name "list" p1) (e :: es) [] pos) r d := ex_cT rfl hg hm (by decide) (by decide) he hpl ha hc
theorem ex_intc (hg : Gl X "int") (hm : X.mg "int" = none) (he : starEach (e :: es) X.env = (false, eval e X.env) :: starEach es X.env) (hpl : (backTo pos (starEach es X.env)).any (·.1) = false) (ha : AX X (e :: es) r ds) (hc : CallD X (.type "int") ds d) :
    EX X (.Call (.Name "int" p1) (e :: es) [] pos) r d := ex_cT rfl hg hm (by decide) (by decide) he hpl ha hc
theorem ex_any (hg : Gl X "any") (hm : X.mg "any" = none) (he : starEach (e :: es) X.env = (false, eval e X.env) :: starEach es X.env) (hpl : (backTo pos (starEach es X.env)).any (·.1) = false) (ha : AX X (e :: es) r ds) (hc : CallD X (.builtin "any") ds d) :
    EX X (.Call (.Name "any" p1) (e :: es) [] pos) r d := ex_cB rfl hg hm (by decide) (by decide) he hpl ha hc
theorem ex_all (hg : Gl X "all") (hm : X.mg "all" = none) (he : starEach (e :: es) X.env = (false, eval e X.env) :: starEach es X.env) (hpl : (backTo pos (starEach es X.env)).any (·.1) = false) (ha : AX X (e :: es) r ds) (hc : CallD X (.builtin "all") ds d) :
    EX X (.Call (.Name "all" p1) (e :: es) [] pos) r d := ex_cB rfl hg hm (by decide) (by decide) he hpl ha hc
theorem ex_sum (hg : Gl X "sum") (hm : X.mg "sum" = none) (he : starEach (e :: es) X.env = (false, eval e X.env) :: starEach es X.env) (hpl : (backTo pos (starEach es X.env)).any (·.1) = false) (ha : AX X (e :: es) r ds) (hc : CallD X (.builtin "sum") ds d) :
    EX X (.Call (.Name "sum" p1) (e :: es) [] pos) r d := ex_cB rfl hg hm (by decide) (by decide) he hpl ha hc
theorem ex_max (hg : Gl X "max") (hm : X.mg "max" = none) (he : starEach (e :: es) X.env = (false, eval e X.env) :: starEach es X.env) (hpl : (backTo pos (starEach es X.env)).any (·.1) = false) (ha : AX X (e :: es) r ds) (hc : CallD X (.builtin "max") ds d) :
    EX X (.Call (.Name "max" p1) (e :: es) [] pos) r d := ex_cB rfl hg hm (by decide) (by decide) he hpl ha hc
theorem ex_min (hg : Gl X "min") (hm : X.mg "min" = none) (he : starEach (e :: es) X.env = (false, eval e X.env) :: starEach es X.env) (hpl : (backTo pos (starEach es X.env)).any (·.1) = false) (ha : AX X (e :: es) r ds) (hc : CallD X (.builtin "min") ds d) :
    EX X (.Call (.Name "min" p1) (e :: es) [] pos) r d := ex_cB rfl hg hm (by decide) (by decide) he hpl ha hc
theorem ex_abs (hg : Gl X "abs") (hm : X.mg "abs" = none) (he : starEach (e :: es) X.env = (false, eval e X.env) :: starEach es X.env) (hpl : (backTo pos (starEach es X.env)).any (·.1) = false) (ha : AX X (e :: es) r ds) (hc : CallD X (.builtin "abs") ds d) :
    EX X (.Call (.Name "abs" p1) (e :: es) [] pos) r d := ex_cB rfl hg hm (by decide) (by decide) he hpl ha hc
theorem fx_list (hg : Gl X "list") (hm : X.mg "list" = none) (he : starEach (e :: es) X.env = (false, eval e X.env) :: starEach es X.env) (hpl : (backTo pos (starEach es X.env)).any (·.1) = false) (ha : AX X (e :: es) r ds) (hc : CallF X (.type "list") ds ys) :
    FX X (.Call (.Name "list" p1) (e :: es) [] pos) r ys := fx_cT rfl hg hm (by decide) (by decide) he hpl ha hc
end
theorem g_oEq {a b d : D} (h : Op2 X (compareOp .Eq) a b d) : Op2 X (compareOp .Eq) a b d := h
theorem g_oNe {a b d : D} (h : Op2 X (compareOp .NotEq) a b d) : Op2 X (compareOp .NotEq) a b d := h
theorem g_oIn {a b d : D} (h : Op2 X (compareOp .In) a b d) : Op2 X (compareOp .In) a b d := h
theorem g_oNi {a b d : D} (h : Op2 X (compareOp .NotIn) a b d) : Op2 X (compareOp .NotIn) a b d := h
theorem g_oIs {a b d : D} (h : Op2 X (compareOp .Is) a b d) : Op2 X (compareOp .Is) a b d := h
theorem g_oIn' {a b d : D} (h : Op2 X (compareOp .IsNot) a b d) : Op2 X (compareOp .IsNot) a b d := h
theorem g_oAdd {a b d : D} (h : Op2 X (binaryOp .Add) a b d) : Op2 X (binaryOp .Add) a b d := h
theorem g_oMul {a b d : D} (h : Op2 X (binaryOp .Mult) a b d) : Op2 X (binaryOp .Mult) a b d := h
theorem eq_is {α : Sort _} {a b : α} (h : a = b) : a = b := h
theorem g_UpE {e e' : Env'} {x : Str} {v : Ev} {i : Nat} (h : UpE e x v e' i) : UpE e x v e' i := h
theorem g_Up {r r' : Rho} {x : Str} {o : Option D} {i : Nat} (h : Up r x o r' i) : Up r x o r' i := h
theorem g_LkU {e e' : Env'} {x : Str} {ds es : List D} {i : Nat} (h : LkU e x ds es e' i) : LkU e x ds es e' i := h
theorem gl_is2 {x : Str} (h : X.env.kindOf x = some .globalImplicit) : Gl X x := h
/-- sorted(set(e)) as a value -/
theorem ex_sset {ns : List Nat} (h : EX X e r dd) (hd : dd = .lst (ns.map natD)) (hb : ∀ n ∈ ns, n < 60) (hl : ns.length < 4000) (g1 : Gl X "sorted") (m1 : X.mg "sorted" = none) (g2 : Gl X "set") (m2 : X.mg "set" = none)
    (s1 : starEach [.Call (.Name "set" p2) [e] [] q2] X.env = [(false, eval (.Call (.Name "set" p2) [e] [] q2) X.env)]) (s2 : starEach [e] X.env = [(false, eval e X.env)]) :
    EX X (.Call (.Name "sorted" p1) [.Call (.Name "set" p2) [e] [] q2] [] q1) r (.lst ((sortN ns).map natD)) := ex_of_fx (fx_sset (hd ▸ h) hb hl g1 m1 g2 m2 s1 s2)
theorem sx_no (hc : TX X c (rd en) k) (hk' : k = false) (r : SX X rest en o) : SX X (.If c a [] pos :: rest) en o :=
  sx_cons (s1_if hc (fun h => by rw [hk'] at h; cases h) fun _ => sx_nil) r
theorem sx_then {e1 : Env'} (hc : TX X c (rd en) k) (hk' : k = true) (h : SX X a en (.nx e1)) (r : SX X rest e1 o) : SX X (.If c a [] pos :: rest) en o :=
  sx_cons (s1_if hc (fun _ => h) fun z => by rw [hk'] at z; cases z) r
theorem sx_yes (hc : TX X c (rd en) k) (hk' : k = true) (hn : ∀ e, o ≠ .nx e) (h : SX X a en o) : SX X (.If c a [] pos :: rest) en o :=
  sx_stop (s1_if hc (fun _ => h) fun z => by rw [hk'] at z; cases z) hn
end
theorem bl_is {a b : Bool} (h : a = b) : a = b := h
theorem asc_eqN {xs ys : List Nat} (h1 : xs.Pairwise (· < ·)) (h2 : ys.Pairwise (· < ·)) (h : ∀ k, k ∈ xs ↔ k ∈ ys) : xs = ys := by
  have n1 : xs.Nodup := h1.imp fun h => Nat.ne_of_lt h
  have n2 : ys.Nodup := h2.imp fun h => Nat.ne_of_lt h
  exact List.Perm.eq_of_pairwise (le := fun a b => a < b) (fun a b _ _ p q => by omega) h1 h2 ((List.perm_ext_iff_of_nodup n1 n2).mpr h)
theorem sortN_add {h : List Nat} {n : Nat} (asc : h.Pairwise (· < ·)) : sortN (h ++ [n]) = insN n h :=
  asc_eqN (asc_sortN _) (asc_ins n h asc) fun k => by rw [mem_sortN, mem_ins, List.mem_append, List.mem_singleton]; exact Or.comm
/-- steps that can be asked for -/
def Stp.Good (S : Sta) : Stp → Prop
  | .scan n => n < S.slots.length
  | .visit t => t < S.held.length
  | .new t => t < S.held.length
  | .drop t _ => t < S.held.length
  | .load t n s => t < S.held.length ∧ n < S.slots.length ∧ s < S.w ∧ (S.at' n s).isSome = true
  | .store t b s o => t < S.held.length ∧ b < S.slots.length ∧ s < S.w ∧ ∀ n, o = some n → n < S.slots.length
end SB
namespace SB
set_option maxRecDepth 100000
open PySem PySem.Spec PyProof.Rows L2
/-! ### an owned list is to be changed no more -/
inductive LkZ : Env' → Str → List D → Env' → Prop
  | here {x : Str} {ds : List D} {r : Env'} : LkZ ((x, .o ds) :: r) x ds ((x, .d (.lst ds)) :: r)
  | next {x : Str} {ds : List D} {r r' : Env'} {p : Str × Ev} : LkZ r x ds r' → LkZ (p :: r) x ds (p :: r')
theorem LkZ.rd : ∀ {e e' : Env'} {x : Str} {ds : List D}, LkZ e x ds e' → SB.rd e' = SB.rd e
  | _, _, _, _, .here => rfl
  | _, _, _, _, .next w => by unfold SB.rd; rw [List.map_cons, List.map_cons]; congr 1; exact LkZ.rd w
theorem Ow.freeze {K : PySem.W.Frag} {G H : Hp} : ∀ {σ : L2.St} {e e' : Env'} {A : List Addr} {x : Str} {ds : List D}, Ow K G H σ e A → LkZ e x ds e' → A.Nodup →
    ∃ a xs A', a ∈ A ∧ A'.Sublist A ∧ a ∉ A' ∧ H a = some (.lst xs) ∧ ∀ {G' : Hp}, Same G G' → G' a = some (.lst xs) → Ow K G' H σ e' A'
  | _, _, _, _, _, _, .o (a := a) (xs := xs) (A := A) h l t, .here, nd => ⟨a, xs, A, List.mem_cons_self, List.sublist_cons_self _ _, (List.nodup_cons.mp nd).1, h, fun sg g => .d (.lst g (l.mono sg)) (t.mono sg fun _ _ _ h => h)⟩
  | _, _, _, _, _, _, .u t, .next w, nd => by
    obtain ⟨a, xs, A', m, s, n, h, k⟩ := Ow.freeze t w nd
    exact ⟨a, xs, A', m, s, n, h, fun sg g => .u (k sg g)⟩
  | _, _, _, _, _, _, .d i t, .next w, nd => by
    obtain ⟨a, xs, A', m, s, n, h, k⟩ := Ow.freeze t w nd
    exact ⟨a, xs, A', m, s, n, h, fun sg g => .d (i.mono sg) (k sg g)⟩
  | _, _, _, _, _, _, .o (a := b) i l t, .next w, nd => by
    obtain ⟨n1, n2⟩ := List.nodup_cons.mp nd
    obtain ⟨a, xs, A', m, s, n, h, k⟩ := Ow.freeze t w n2
    refine ⟨a, xs, b :: A', List.mem_cons_of_mem _ m, s.cons₂ _, fun z => ?_, h, fun sg g => .o i (l.mono sg) (k sg g)⟩
    rcases List.mem_cons.mp z with z | z
    · exact n1 (z ▸ m)
    · exact n z
  | _, _, _, _, _, _, .kd (a := b) i q l t, .next w, nd => by
    obtain ⟨n1, n2⟩ := List.nodup_cons.mp nd
    obtain ⟨a, xs, A', m, s, n, h, k⟩ := Ow.freeze t w n2
    refine ⟨a, xs, b :: A', List.mem_cons_of_mem _ m, s.cons₂ _, fun z => ?_, h, fun sg g => .kd i q (l.mono sg) (k sg g)⟩
    rcases List.mem_cons.mp z with z | z
    · exact n1 (z ▸ m)
    · exact n z
section
variable {X : Cx} {sts rest : List Stmt} {e ea e' : Env'} {o : Out} {x y : Str} {ds : List D} {d : D} {i j kk k2 : Nat} {e1 e2 : Expr} {p1 p2 p3 tp pos : Pos}
theorem sx_frz (w : LkZ e x ds e') (h : SX X sts e' o) : SX X sts e o := by
  constructor
  intro C
  obtain ⟨C1, g⟩ := h (by rw [w.rd]; exact C)
  refine ⟨C1, fun L A σ H E dm nd nl ow p => ?_⟩
  obtain ⟨a, xs, A', m, s, n, ha, k⟩ := ow.freeze w nd
  refine g L A' σ H E dm (s.nodup nd) (fun b hb => nl b (s.subset hb)) (k (sub_hide fun b hb => s.subset hb) (hid_of ha fun z => ?_)) (p.next (Fram.refl A H) fun b hb => .inl (s.subset hb))
  rcases List.mem_append.mp z with z | z
  · exact n z
  · exact nl a m z
/-- x, y = [..], e -/
theorem s1_asgO1 (h1 : FX X e1 (hd' e) ds) (h2 : EX X e2 (hd' e) d) (w1 : UpE e x (.o ds) ea i) (w2 : UpE ea y (.d d) e' j) (hx : Loc X.env.scope x) (hy : Loc X.env.scope y)
    (hfx : X.fn x = true ∨ X.env.scope.names.lookup x = some .local) (hfy : X.fn y = true ∨ X.env.scope.names.lookup y = some .local)
    (s1 : starEach [e1, e2] X.env = (false, eval e1 X.env) :: starEach [e2] X.env) (s2 : starEach [e2] X.env = (false, eval e2 X.env) :: starEach [] X.env)
    (a1 : (assignEach [.Name x p1, .Name y p2] X.env).map (·.2) = assign (.Name x p1) X.env :: (assignEach [.Name y p2] X.env).map (·.2)) (a2 : (assignEach [.Name y p2] X.env).map (·.2) = assign (.Name y p2) X.env :: (assignEach [] X.env).map (·.2))
    (hn : (assignEach [.Name x p1, .Name y p2] X.env).length = 2) (hst : (assignEach [.Name x p1, .Name y p2] X.env).findIdx? (·.1) = none)
    (hs : swapsWithSole [.Tuple [.Name x p1, .Name y p2] kk tp] (.Tuple [e1, e2] k2 p3) pos.line X.env = pure false) (hw : swappedStores [.Tuple [.Name x p1, .Name y p2] kk tp] (.Tuple [e1, e2] k2 p3) X.env = pure none)
    (ha : (assignEach [.Tuple [.Name x p1, .Name y p2] kk tp] X.env).map (·.2) = [assign (.Tuple [.Name x p1, .Name y p2] kk tp) X.env]) :
    S1 X (.Assign [.Tuple [.Name x p1, .Name y p2] kk tp] (.Tuple [e1, e2] k2 p3) pos) e (.nx e') := by
  constructor
  intro C
  have C1 : CxN X (rd ea) := C.up (rd_up w1) (vis_of_loc hx)
  have C2 : CxN X (rd e') := C1.up (rd_up w2) (vis_of_loc hy)
  refine ⟨C2, fun L A σ H E dm nd nl ow q => ?_⟩
  have hN : X.N[i]? = some x := by rw [C.names, rd_names]; exact w1.ix
  have hN2 : X.N[j]? = some y := by rw [C1.names, rd_names]; exact w2.ix
  refine w1_of (ps_asg (pe_tup (pa_cons (pe_w X e1) (pa_cons (pe_w X e2) pa_nil s2) s1)) (pg_tup C.calm (pgs_cons (pg_name C.nd hN hx hfx) (pgs_cons (pg_name C.nd hN2 hy hfy) pgs_nil a2) a1) hn hst) hs hw ha) ?_
  have dmA := dom_own dm ow
  refine h1 (C.le (hd_le e)) (A ++ L) σ H _ dmA ow.hd fun p xs H1 n sm hp hl => ?_
  have dm1 : Dom (p :: (A ++ L)) H1 := dom_cons (dmA.mono sm) hp
  refine h2 (C.le (hd_le e)) (p :: (A ++ L)) σ H1 _ dm1 (ow.hd.mono (hid_new n sm)) fun v H2 sm2 iv => ?_
  refine ⟨Nat.le_of_ble_eq_true rfl, fun t ht => ?_⟩
  have sm3 : Same H2 (upd H2 t (.tup [.ref p, v])) := same_new ht
  have hp3 := sm3 _ _ (sm2 _ _ hp)
  refine ⟨t, _, rfl, .inl (.inl upd_same), rfl, _, _, rfl, _, _, rfl, rfl, ?_⟩
  have sm13 := sm2.trans sm3
  have sm03 := sm.trans sm13
  have ow3 : Ow X.K (hid (upd H2 t (.tup [.ref p, v])) (p :: (A ++ L))) (upd H2 t (.tup [.ref p, v])) σ e A := ow.mono (hid_new n sm03) (fun a _ o h => sm03 a o h)
  have hpA : p ∉ A := fun z => by obtain ⟨ys, hy⟩ := ow.dom p z; rw [n] at hy; cases hy
  obtain ⟨A1, m, nd1, ow4⟩ := Ow.seto hp3 (hl.mono (hid_mono sm13)) ow3 hpA nd w1
  obtain ⟨A2, sub, ow5⟩ := Ow.setd (iv.mono (hid_mono sm3)) ow4 w2
  refine q A2 _ _ (Same.fram sm03) (sub.nodup nd1) (fun a ha => (m a (sub.subset ha)).imp id fun z => by rw [z]; exact n) (ow5.mono (fun b o hb => hid_of (hid_some hb).1 fun z => (hid_some hb).2 ?_) fun a _ o h => h)
  rcases List.mem_append.mp z with z | z
  · rcases m b (sub.subset z) with z | z
    · exact List.mem_cons_of_mem _ (List.mem_append_left _ z)
    · exact z ▸ List.mem_cons_self
  · exact List.mem_cons_of_mem _ (List.mem_append_right _ z)
/-- x, y = e, [..] -/
theorem s1_asgO2 (h1 : EX X e1 (hd' e) d) (h2 : FX X e2 (hd' e) ds) (w1 : UpE e x (.d d) ea i) (w2 : UpE ea y (.o ds) e' j) (hx : Loc X.env.scope x) (hy : Loc X.env.scope y)
    (hfx : X.fn x = true ∨ X.env.scope.names.lookup x = some .local) (hfy : X.fn y = true ∨ X.env.scope.names.lookup y = some .local)
    (s1 : starEach [e1, e2] X.env = (false, eval e1 X.env) :: starEach [e2] X.env) (s2 : starEach [e2] X.env = (false, eval e2 X.env) :: starEach [] X.env)
    (a1 : (assignEach [.Name x p1, .Name y p2] X.env).map (·.2) = assign (.Name x p1) X.env :: (assignEach [.Name y p2] X.env).map (·.2)) (a2 : (assignEach [.Name y p2] X.env).map (·.2) = assign (.Name y p2) X.env :: (assignEach [] X.env).map (·.2))
    (hn : (assignEach [.Name x p1, .Name y p2] X.env).length = 2) (hst : (assignEach [.Name x p1, .Name y p2] X.env).findIdx? (·.1) = none)
    (hs : swapsWithSole [.Tuple [.Name x p1, .Name y p2] kk tp] (.Tuple [e1, e2] k2 p3) pos.line X.env = pure false) (hw : swappedStores [.Tuple [.Name x p1, .Name y p2] kk tp] (.Tuple [e1, e2] k2 p3) X.env = pure none)
    (ha : (assignEach [.Tuple [.Name x p1, .Name y p2] kk tp] X.env).map (·.2) = [assign (.Tuple [.Name x p1, .Name y p2] kk tp) X.env]) :
    S1 X (.Assign [.Tuple [.Name x p1, .Name y p2] kk tp] (.Tuple [e1, e2] k2 p3) pos) e (.nx e') := by
  constructor
  intro C
  have C1 : CxN X (rd ea) := C.up (rd_up w1) (vis_of_loc hx)
  have C2 : CxN X (rd e') := C1.up (rd_up w2) (vis_of_loc hy)
  refine ⟨C2, fun L A σ H E dm nd nl ow q => ?_⟩
  have hN : X.N[i]? = some x := by rw [C.names, rd_names]; exact w1.ix
  have hN2 : X.N[j]? = some y := by rw [C1.names, rd_names]; exact w2.ix
  refine w1_of (ps_asg (pe_tup (pa_cons (pe_w X e1) (pa_cons (pe_w X e2) pa_nil s2) s1)) (pg_tup C.calm (pgs_cons (pg_name C.nd hN hx hfx) (pgs_cons (pg_name C.nd hN2 hy hfy) pgs_nil a2) a1) hn hst) hs hw ha) ?_
  have dmA := dom_own dm ow
  refine h1 (C.le (hd_le e)) (A ++ L) σ H _ dmA ow.hd fun v H1 sm iv => ?_
  refine h2 (C.le (hd_le e)) (A ++ L) σ H1 _ (dmA.mono sm) (ow.hd.mono (hid_mono sm)) fun p xs H2 n sm2 hp hl => ?_
  refine ⟨Nat.le_of_ble_eq_true rfl, fun t ht => ?_⟩
  have sm3 : Same H2 (upd H2 t (.tup [v, .ref p])) := same_new ht
  have hp3 := sm3 _ _ hp
  refine ⟨t, _, rfl, .inl (.inl upd_same), rfl, _, _, rfl, _, _, rfl, rfl, ?_⟩
  have sm13 := sm2.trans sm3
  have sm03 := sm.trans sm13
  have n0 : H p = none := Same.free sm n
  have ow3 : Ow X.K (hid (upd H2 t (.tup [v, .ref p])) (p :: (A ++ L))) (upd H2 t (.tup [v, .ref p])) σ e A := ow.mono (hid_new n0 sm03) (fun a _ o h => sm03 a o h)
  have hpA : p ∉ A := fun z => by obtain ⟨ys, hy⟩ := ow.dom p z; rw [n0] at hy; cases hy
  obtain ⟨A2, sub, ow4⟩ := Ow.setd (iv.mono (hid_new n sm13)) ow3 w1
  obtain ⟨A1, m, nd1, ow5⟩ := Ow.seto hp3 (hl.mono (hid_mono sm3)) ow4 (fun z => hpA (sub.subset z)) (sub.nodup nd) w2
  refine q A1 _ _ (Same.fram sm03) nd1 (fun a ha => (m a ha).imp (fun z => sub.subset z) fun z => by rw [z]; exact n0) (ow5.mono (fun b o hb => hid_of (hid_some hb).1 fun z => (hid_some hb).2 ?_) fun a _ o h => h)
  rcases List.mem_append.mp z with z | z
  · rcases m b z with z | z
    · exact List.mem_cons_of_mem _ (List.mem_append_left _ (sub.subset z))
    · exact z ▸ List.mem_cons_self
  · exact List.mem_cons_of_mem _ (List.mem_append_right _ z)
end
theorem lz_is {e e' : Env'} {x : Str} {ds : List D} (h : LkZ e x ds e') : LkZ e x ds e' := h
end SB
namespace SB
open PySem PySem.Spec PyProof.Rows L2
section
variable {X : Cx} {e : Expr} {r : Rho} {dd : D} {p1 p2 q1 q2 : Pos}
theorem fx_ss {ns : List Nat} (h : EX X e r dd) (hd : dd = .lst (ns.map natD)) (hb : ∀ n ∈ ns, n < 60) (hl : ns.length < 4000) (g1 : Gl X "sorted") (m1 : X.mg "sorted" = none) (g2 : Gl X "set") (m2 : X.mg "set" = none)
    (s1 : starEach [.Call (.Name "set" p2) [e] [] q2] X.env = [(false, eval (.Call (.Name "set" p2) [e] [] q2) X.env)]) (s2 : starEach [e] X.env = [(false, eval e X.env)]) :
    FX X (.Call (.Name "sorted" p1) [.Call (.Name "set" p2) [e] [] q2] [] q1) r ((sortN ns).map natD) := fx_sset (hd ▸ h) hb hl g1 m1 g2 m2 s1 s2
end
def vals (r : List (Option Nat)) : List Nat := r.filterMap id
theorem vals_map (r : List (Option Nat)) : ((r.filter (fun o => o.isSome)).map (fun o => o)).map optD = (vals r).map natD := by
  induction r with
  | nil => rfl
  | cons o r ih =>
    cases o with
    | none => simpa [vals] using ih
    | some n => simp only [vals, List.map_id'] at ih; simp [vals, ih]
theorem mem_vals {n : Nat} {r : List (Option Nat)} : n ∈ vals r ↔ some n ∈ r := by
  unfold vals
  rw [List.mem_filterMap]
  constructor
  · rintro ⟨o, h, e⟩
    have : o = some n := e
    rw [← this]; exact h
  · exact fun h => ⟨_, h, rfl⟩
theorem vals_len (r : List (Option Nat)) : (vals r).length ≤ r.length := List.length_filterMap_le _ _
/-! ### reached, covered, has: what the law reckons -/
def roundR (slots : List (List (Option Nat))) (found : List Nat) : List Nat := sortN (found ++ found.flatMap fun n => vals (slots.getD n []))
def reachK (slots : List (List (Option Nat))) (held : List (List Nat)) : Nat → List Nat
  | 0 => sortN held.flatten
  | k + 1 => roundR slots (reachK slots held k)
def reachedF (S : Sta) : List Nat := reachK S.slots S.held S.slots.length
/-- one object's turn -/
def coverAt (S : Sta) (found : List Nat) (k : Nat) : List Nat :=
  if decide (S.col k = .grey) || decide (k ∈ found) then found ++ ((vals (S.row k)).filter fun n => !decide (n ∈ found)).filter (isWhite S) else found
def coverJ (S : Sta) (found : List Nat) : Nat → List Nat
  | 0 => found
  | j + 1 => coverAt S (coverJ S found j) j
def coverK (S : Sta) : Nat → List Nat
  | 0 => []
  | k + 1 => coverJ S (coverK S k) S.slots.length
def coveredF (S : Sta) : List Nat := sortN (coverK S S.slots.length)
inductive Wd where
  | clean | covered | direct | safe | strong | weak
  deriving DecidableEq
def whites (S : Sta) (l : List Nat) : List Nat := l.filter (isWhite S)
def blackWs (S : Sta) : List Nat := (List.range S.slots.length).flatMap fun k => if S.col k = .black then whites S (vals (S.row k)) else []
def heldWs (S : Sta) : List Nat := (List.range S.held.length).flatMap fun t => if S.scn t = true then whites S (S.hold t) else []
def greyRow (S : Sta) : List (Option Nat) := (List.range S.slots.length).flatMap fun k => if S.col k = .grey then S.row k else []
def hasF (ag : Bool) (S : Sta) : Wd → Bool
  | .safe => !ended ag S || !(reachedF S).any (isWhite S)
  | .strong => decide (blackWs S = [])
  | .clean => decide (heldWs S = [])
  | .weak => (blackWs S).all fun n => decide (n ∈ coveredF S)
  | .covered => (heldWs S).all fun n => decide (n ∈ coveredF S)
  | .direct => (heldWs S).all fun n => decide (some n ∈ greyRow S)
theorem c_lenM {X : Cx} {α : Type} {f : α → D} {xs : List α} : CallD X (.builtin "len") [.tup (xs.map f)] (.int (xs.length : Int)) := by
  have := c_lenT (X := X) (ds := xs.map f)
  rwa [List.length_map] at this
theorem c_lenML {X : Cx} {α : Type} {f : α → D} {xs : List α} : CallD X (.builtin "len") [.lst (xs.map f)] (.int (xs.length : Int)) := by
  have := c_lenL (X := X) (ds := xs.map f)
  rwa [List.length_map] at this
/-! ### what a name of a property says -/
def wdS : Wd → Str
  | .clean => "clean"
  | .covered => "covered"
  | .direct => "direct"
  | .safe => "safe"
  | .strong => "strong"
  | .weak => "weak"
@[reducible] def wdD (t : Wd) : D := .str (wdS t)
theorem wdS_inj {a b : Wd} : wdS a = wdS b ↔ a = b := by cases a <;> cases b <;> decide +kernel
theorem strOk_wd (t : Wd) : PyData.strOk (wdS t) = true := by cases t <;> decide +kernel
instance : Cd Wd where
  enc := wdD
  nod _ := rfl
  imm _ := rfl
  lay c := by simp only [wdD, toPy, PyData.canLay0]; exact strOk_wd c
  dep _ := Nat.zero_le _
  eqv a b := by
    simp only [wdD, toPy, PyData.eqv]
    rw [Bool.eq_iff_iff, beq_iff_eq, decide_eq_true_eq, wdS_inj]
section
variable {X : Cx} {t : Wd} {o : Option Nat} {ns : List Nat}
theorem o_wdSafe : Op2 X (compareOp .Eq) (wdD t) (.str "safe") (.bl (decide (t = .safe))) := by
  have h : decide (wdS t = ("safe" : Str)) = decide (t = .safe) := by cases t <;> decide +kernel
  rw [← h]; exact o_eqs
theorem o_wdDirect : Op2 X (compareOp .Eq) (wdD t) (.str "direct") (.bl (decide (t = .direct))) := by
  have h : decide (wdS t = ("direct" : Str)) = decide (t = .direct) := by cases t <;> decide +kernel
  rw [← h]; exact o_eqs
theorem o_wdSW (hu : X.A.units + 65 < cLine) : Op2 X (compareOp .In) (wdD t) (.tup [.str "strong", .str "weak"]) (.bl (decide (t ∈ [Wd.strong, .weak]))) := o_inTE (α := Wd) (xs := [.strong, .weak]) hu
theorem o_wdSC (hu : X.A.units + 65 < cLine) : Op2 X (compareOp .In) (wdD t) (.tup [.str "strong", .str "clean"]) (.bl (decide (t ∈ [Wd.strong, .clean]))) := o_inTE (α := Wd) (xs := [.strong, .clean]) hu
theorem o_wdCCD (hu : X.A.units + 65 < cLine) : Op2 X (compareOp .In) (wdD t) (.tup [.str "clean", .str "covered", .str "direct"]) (.bl (decide (t ∈ [Wd.clean, .covered, .direct]))) := o_inTE (α := Wd) (xs := [.clean, .covered, .direct]) hu
theorem o_notInOptN (hu : X.A.units + 65 < cLine) : Op2 X (compareOp .NotIn) (optD o) (.lst (ns.map natD)) (.bl (!decide (o ∈ ns.map some))) := by
  rw [some_map]; exact o_notInOptL hu
/-- some == [] -/
theorem o_eqNil (hu : X.A.units + 64 < cLine) : Op2 X (compareOp .Eq) (.lst (ns.map natD)) (.lst []) (.bl (decide (ns = []))) := by
  have h := o_eqD (X := X) (cmp_list (α := Nat) ns) (cmp_list (α := Nat) []) hu
  have e : PyData.eqv (toPy (.lst (ns.map natD))) (toPy (.lst (([] : List Nat).map natD))) = decide (ns = []) := by
    show PyData.eqv (.list _) (.list _) = _
    rw [PyData.eqv]
    exact eqvL_map ns []
  exact e ▸ h
end
theorem vals_mapf (found : List Nat) (r : List (Option Nat)) : ((r.filter (fun o => o.isSome && !decide (o ∈ found.map some))).map (fun o => o)).map optD = ((vals r).filter fun n => !decide (n ∈ found)).map natD := by
  induction r with
  | nil => rfl
  | cons o r ih =>
    simp only [List.map_id'] at ih
    cases o with
    | none => simpa [vals] using ih
    | some n =>
      have e : decide (some n ∈ found.map some) = decide (n ∈ found) := decide_eq_decide.mpr (by simp)
      cases h : decide (n ∈ found) <;> simp_all [vals]
def oWhite (S : Sta) : Option Nat → Bool
  | none => false
  | some n => decide (S.col n = .white)
theorem vals_mapw (S : Sta) (r : List (Option Nat)) : ((r.filter (fun o => o.isSome && oWhite S o)).map (fun o => o)).map optD = (whites S (vals r)).map natD := by
  unfold whites isWhite
  induction r with
  | nil => rfl
  | cons o r ih =>
    simp only [List.map_id'] at ih
    cases o with
    | none => simpa [vals, oWhite] using ih
    | some n => cases h : decide (S.col n = .white) <;> simp_all [vals, oWhite]
section
variable {X : Cx} {sts rest : List Stmt} {e ea e' : Env'} {o : Out} {x y : Str} {ds : List D} {d : D} {i j kk k2 : Nat} {e1 e2 : Expr} {p1 p2 p3 tp pos : Pos}
theorem sx_asgO1 (h1 : FX X e1 (hd' e) ds) (h2 : EX X e2 (hd' e) d) (w1 : UpE e x (.o ds) ea i) (w2 : UpE ea y (.d d) e' j) (hx : Loc X.env.scope x) (hy : Loc X.env.scope y)
    (hfx : X.fn x = true ∨ X.env.scope.names.lookup x = some .local) (hfy : X.fn y = true ∨ X.env.scope.names.lookup y = some .local)
    (s1 : starEach [e1, e2] X.env = (false, eval e1 X.env) :: starEach [e2] X.env) (s2 : starEach [e2] X.env = (false, eval e2 X.env) :: starEach [] X.env)
    (a1 : (assignEach [.Name x p1, .Name y p2] X.env).map (·.2) = assign (.Name x p1) X.env :: (assignEach [.Name y p2] X.env).map (·.2)) (a2 : (assignEach [.Name y p2] X.env).map (·.2) = assign (.Name y p2) X.env :: (assignEach [] X.env).map (·.2))
    (hn : (assignEach [.Name x p1, .Name y p2] X.env).length = 2) (hst : (assignEach [.Name x p1, .Name y p2] X.env).findIdx? (·.1) = none)
    (hs : swapsWithSole [.Tuple [.Name x p1, .Name y p2] kk tp] (.Tuple [e1, e2] k2 p3) pos.line X.env = pure false) (hw : swappedStores [.Tuple [.Name x p1, .Name y p2] kk tp] (.Tuple [e1, e2] k2 p3) X.env = pure none)
    (ha : (assignEach [.Tuple [.Name x p1, .Name y p2] kk tp] X.env).map (·.2) = [assign (.Tuple [.Name x p1, .Name y p2] kk tp) X.env]) (r : SX X rest e' o) :
    SX X (.Assign [.Tuple [.Name x p1, .Name y p2] kk tp] (.Tuple [e1, e2] k2 p3) pos :: rest) e o := sx_cons (s1_asgO1 h1 h2 w1 w2 hx hy hfx hfy s1 s2 a1 a2 hn hst hs hw ha) r
theorem sx_asgO2 (h1 : EX X e1 (hd' e) d) (h2 : FX X e2 (hd' e) ds) (w1 : UpE e x (.d d) ea i) (w2 : UpE ea y (.o ds) e' j) (hx : Loc X.env.scope x) (hy : Loc X.env.scope y)
    (hfx : X.fn x = true ∨ X.env.scope.names.lookup x = some .local) (hfy : X.fn y = true ∨ X.env.scope.names.lookup y = some .local)
    (s1 : starEach [e1, e2] X.env = (false, eval e1 X.env) :: starEach [e2] X.env) (s2 : starEach [e2] X.env = (false, eval e2 X.env) :: starEach [] X.env)
    (a1 : (assignEach [.Name x p1, .Name y p2] X.env).map (·.2) = assign (.Name x p1) X.env :: (assignEach [.Name y p2] X.env).map (·.2)) (a2 : (assignEach [.Name y p2] X.env).map (·.2) = assign (.Name y p2) X.env :: (assignEach [] X.env).map (·.2))
    (hn : (assignEach [.Name x p1, .Name y p2] X.env).length = 2) (hst : (assignEach [.Name x p1, .Name y p2] X.env).findIdx? (·.1) = none)
    (hs : swapsWithSole [.Tuple [.Name x p1, .Name y p2] kk tp] (.Tuple [e1, e2] k2 p3) pos.line X.env = pure false) (hw : swappedStores [.Tuple [.Name x p1, .Name y p2] kk tp] (.Tuple [e1, e2] k2 p3) X.env = pure none)
    (ha : (assignEach [.Tuple [.Name x p1, .Name y p2] kk tp] X.env).map (·.2) = [assign (.Tuple [.Name x p1, .Name y p2] kk tp) X.env]) (r : SX X rest e' o) :
    SX X (.Assign [.Tuple [.Name x p1, .Name y p2] kk tp] (.Tuple [e1, e2] k2 p3) pos :: rest) e o := sx_cons (s1_asgO2 h1 h2 w1 w2 hx hy hfx hfy s1 s2 a1 a2 hn hst hs hw ha) r
theorem ix_zipc {α β : Type} {elts : List Expr} {r : Rho} {ex ez : Expr} {p : Pos} (f : α → D) (g : β → D) (a : α) (b : β) (xs : List α) (ys : List β) (h : EX X ex r (.tup (xs.map f))) (h2 : EX X ez r (.tup (ys.map g))) (hl : xs.length = ys.length) (hg : Gl X "zip") (hm : X.mg "zip" = none)
    (hs : starEach [ex, ez] X.env = (false, eval ex X.env) :: starEach [ez] X.env) (hs2 : starEach [ez] X.env = [(false, eval ez X.env)]) (hpl : (backTo pos (starEach [ez] X.env)).any (·.1) = false) :
    IX X (.Tuple elts kk tp) (.Call (.Name "zip" p) [ex, ez] [] pos) r ((List.range xs.length).map fun i => .tup [f (xs.getD i a), g (ys.getD i b)]) := by
  rw [← zip_numb f g a b xs ys hl]
  exact ix_zip h h2 (by rw [List.length_map, List.length_map]; exact hl) hg hm hs hs2 hpl
variable {n : Nat} {os : List (Option Nat)}
theorem o_inOptS (hu : X.A.units + 65 < cLine) : Op2 X (compareOp .In) (natD n) (.lst (os.map optD)) (.bl (decide (some n ∈ os))) := o_inOptL (o := some n) hu
end
end SB
namespace SB
set_option maxRecDepth 100000
open PySem PySem.Spec PyProof.Rows L2
/-! ### dicts: keys that are numbers or texts -/
@[reducible] def keyD : Key → D
  | .inl n => .int n
  | .inr s => .str s
theorem key_is {K : PySem.W.Frag} {H : Hp} {v : V} {k : Key} (h : Is K H v (keyD k)) : v = kV k := by
  cases k with
  | inl n => exact is_int h
  | inr s => exact is_str h
def lookD : List Key → List D → Key → Option D
  | k :: ks, d :: ds, x => if k = x then some d else lookD ks ds x
  | _, _, _ => none
theorem look_rel {K : PySem.W.Frag} {G : Hp} (x : Key) : ∀ {ks : List Key} {vs : List V} {ds : List D}, IsL K G vs ds → ks.length = vs.length →
    (∀ d, lookD ks ds x = some d → ∃ v, valV (ks.zip vs) x = some v ∧ Is K G v d) ∧ (lookD ks ds x = none → valV (ks.zip vs) x = none)
  | [], _, _, _, _ => ⟨fun d h => by simp [lookD] at h, fun _ => rfl⟩
  | k :: ks, [], _, _, z => by simp at z
  | k :: ks, v :: vs, _, .cons (d := d) (ds := ds) a t, z => by
    obtain ⟨h1, h2⟩ := look_rel x t (by simpa using z)
    have e : (k :: ks).zip (v :: vs) = (k, v) :: ks.zip vs := rfl
    rw [e]
    by_cases q : k = x
    · have e2 : lookD (k :: ks) (d :: ds) x = some d := by simp [lookD, q]
      rw [e2, valV_pos (p := (k, v)) q]
      exact ⟨fun d' h => ⟨v, rfl, Option.some.inj h ▸ a⟩, fun h => by cases h⟩
    · have e2 : lookD (k :: ks) (d :: ds) x = lookD ks ds x := by simp [lookD, q]
      rw [e2, valV_neg (p := (k, v)) q]
      exact ⟨h1, h2⟩
theorem is_dk {K : PySem.W.Frag} {H : Hp} {v : V} {ks : List Key} {ds : List D} (h : Is K H v (.dk ks ds)) : ∃ a vs, v = .ref a ∧ H a = some (.dK (ks.zip vs)) ∧ ks.length = vs.length ∧ IsL K H vs ds := by
  cases h with | dk a b c => exact ⟨_, _, rfl, a, b, c⟩
def rDIn : R2 := fun x y H Q => ∃ a o, y = .ref a ∧ DGet H a x o ∧ Q (.bl o.isSome) H
def rDNi : R2 := fun x y H Q => ∃ a o, y = .ref a ∧ DGet H a x o ∧ Q (.bl (!o.isSome)) H
section
variable {X : Cx} {o i : Expr} {r : Rho} {ks : List Key} {ds : List D} {d : D} {k : Key} {pos : Pos}
theorem op_dIn (hu : X.A.units + 65 < cLine) : OpR X (compareOp .In) rDIn := by
  intro pins s σ H x y v u Q I rx ry h
  obtain ⟨a, ov, rfl, g, q⟩ := h
  obtain rfl : u = Value.ref a := ry
  exact d_in (by omega) I g rx fun s3 I3 => ⟨.bl ov.isSome, H, I3, rfl, q⟩
theorem op_dNi (hu : X.A.units + 65 < cLine) : OpR X (compareOp .NotIn) rDNi := by
  intro pins s σ H x y v u Q I rx ry h
  obtain ⟨a, ov, rfl, g, q⟩ := h
  obtain rfl : u = Value.ref a := ry
  exact d_notIn (by omega) I g rx fun s3 I3 => ⟨.bl (!ov.isSome), H, I3, rfl, q⟩
theorem look_some {K : PySem.W.Frag} {G : Hp} {vs : List V} (l : IsL K G vs ds) (z : ks.length = vs.length) : (valV (ks.zip vs) k).isSome = (lookD ks ds k).isSome := by
  obtain ⟨h1, h2⟩ := look_rel k l z
  cases q : lookD ks ds k with
  | none => rw [h2 q]; rfl
  | some d => obtain ⟨v, e, _⟩ := h1 d q; rw [e]; rfl
theorem o_inDk (hu : X.A.units + 65 < cLine) : Op2 X (compareOp .In) (keyD k) (.dk ks ds) (.bl (lookD ks ds k).isSome) := by
  refine ⟨_, op_dIn hu, fun L H x y Q dm h1 h2 q => ?_⟩
  obtain ⟨a, vs, rfl, ha, z, l⟩ := is_dk h2
  refine ⟨a, _, rfl, by rw [key_is h1]; exact DGet.k (hid_sub _ _ ha), ?_⟩
  rw [look_some l z]
  exact q _ H (Same.refl H) (.bl _)
theorem o_niDk (hu : X.A.units + 65 < cLine) : Op2 X (compareOp .NotIn) (keyD k) (.dk ks ds) (.bl (!(lookD ks ds k).isSome)) := by
  refine ⟨_, op_dNi hu, fun L H x y Q dm h1 h2 q => ?_⟩
  obtain ⟨a, vs, rfl, ha, z, l⟩ := is_dk h2
  refine ⟨a, _, rfl, by rw [key_is h1]; exact DGet.k (hid_sub _ _ ha), ?_⟩
  rw [look_some l z]
  exact q _ H (Same.refl H) (.bl _)
/-- d[k] -/
theorem ex_dget (hu : X.A.units + 65 < cLine) (ho : EX X o r (.dk ks ds)) (hi : EX X i r (keyD k)) (h : lookD ks ds k = some d) (hs : NoSl i) : EX X (.Subscript o i pos) r d := by
  constructor
  intro C L σ H Q dm I q
  refine we_of (pe_dget (by omega) (pe_w X o) (pe_w X i) hs) ?_
  refine ho C L σ H _ dm I fun v H1 s1 i1 => hi C L σ H1 _ (dm.mono s1) (I.mono (hid_mono s1)) fun u H2 s2 i2 => ?_
  obtain ⟨a, vs, rfl, ha, z, l⟩ := is_dk i1
  obtain ⟨v, e, iv⟩ := (look_rel k l z).1 d h
  exact ⟨a, v, rfl, by rw [key_is i2, ← e]; exact DGet.k (s2 _ _ (hid_sub _ _ ha)), q v H2 (s1.trans s2) (iv.mono (hid_mono s2))⟩
end
theorem ex_dgets {X : Cx} {o i : Expr} {r : Rho} {ks : List Key} {ds : List D} {d : D} {z : Str} {pos : Pos} (hu : X.A.units + 65 < cLine) (ho : EX X o r (.dk ks ds)) (hi : EX X i r (.str z)) (h : lookD ks ds (.inr z) = some d) (hs : NoSl i) : EX X (.Subscript o i pos) r d := ex_dget (k := .inr z) hu ho hi h hs
theorem o_inDks {X : Cx} {z : Str} {ks : List Key} {ds : List D} (hu : X.A.units + 65 < cLine) : Op2 X (compareOp .In) (.str z) (.dk ks ds) (.bl (lookD ks ds (.inr z)).isSome) := o_inDk (k := .inr z) hu
theorem ex_callF {X : Cx} {e : Expr} {es : List Expr} {r : Rho} {ds ys : List D} {x : Str} {p pos : Pos} {k : Nat} {pre : List D → List D → Prop} (c : Cal X.prog X.w X.K X.mg X.base k x (spF X.K pre)) (hr : Room k X.A) (ha : AX X (e :: es) r ds) (hp : pre ds ys) (hg : Gl X x) (hdb : (x == ("__debug__" : Str)) = false)
    (he : starEach (e :: es) X.env = (false, eval e X.env) :: starEach es X.env) (hpl : (backTo pos (starEach es X.env)).any (·.1) = false) : EX X (.Call (.Name x p) (e :: es) [] pos) r (.lst ys) := ex_of_fx (fx_call c hr ha hp hg hdb he hpl)
theorem ex_callK {X : Cx} {e : Expr} {es : List Expr} {r : Rho} {ds ys : List D} {ks : List Key} {x : Str} {p pos : Pos} {k : Nat} {pre : List D → List Key → List D → Prop} (c : Cal X.prog X.w X.K X.mg X.base k x (spK X.K pre)) (hr : Room k X.A) (ha : AX X (e :: es) r ds) (hp : pre ds ks ys) (hg : Gl X x) (hdb : (x == ("__debug__" : Str)) = false)
    (he : starEach (e :: es) X.env = (false, eval e X.env) :: starEach es X.env) (hpl : (backTo pos (starEach es X.env)).any (·.1) = false) : EX X (.Call (.Name x p) (e :: es) [] pos) r (.dk ks ys) := ex_of_fk (fk_call c hr ha hp hg hdb he hpl)
theorem lk_is {ks : List Key} {ds : List D} {k : Key} {d : D} (h : lookD ks ds k = some d) : lookD ks ds k = some d := h
theorem ns_is {i : Expr} (h : NoSl i) : NoSl i := h
/-! ### {k: v for ..} -/
theorem valV_out {k : Key} : ∀ {ks : List Key} {vs : List V}, ks.length = vs.length → k ∉ ks → valV (ks.zip vs) k = none
  | [], _, _, _ => rfl
  | a :: ks, [], z, _ => by simp at z
  | a :: ks, v :: vs, z, h => by
    have e : (a :: ks).zip (v :: vs) = (a, v) :: ks.zip vs := rfl
    rw [e, valV_neg (p := (a, v)) (fun q : a = k => h (q ▸ List.mem_cons_self))]
    exact valV_out (by simpa using z) fun q => h (List.mem_cons_of_mem _ q)
theorem zip_snoc {α β : Type} {xs : List α} {ys : List β} (h : xs.length = ys.length) (x : α) (y : β) : (xs ++ [x]).zip (ys ++ [y]) = xs.zip ys ++ [(x, y)] := by
  rw [List.zip_append h]; rfl
section
variable {X : Cx} {kx vx tg iter : Expr} {scope sc : Scope} {N : List Str} {r rw_ : Rho} {own : List (Str × Nat)} {pos : Pos}
theorem fk_dc {α : Type} (own : List (Str × Nat)) (N : List Str) (sc : Scope) (zs : List α) (f : α → D) (key : α → Key) (val : α → D) (hi : IX X tg iter r (zs.map f)) (hN : X.N = N) (hsc : X.env.scope = sc) (hb : blkC N sc scope own = true) (hlv : LeV (relabel scope X.env) r rw_)
    (how : ∀ i ∈ own.map (·.2), ∃ n, rw_[i]? = some (n, none)) (hs : ∀ x, foldedSetIterable iter X.env x = pure x) (hz : zs.length < sizeLine) (nd : (zs.map key).Nodup)
    (body : ∀ z ∈ zs, ∃ r1, AllBlk X scope (fun Y => GX Y tg (own.map (·.2)) rw_ (f z) r1) ∧ AllBlk X scope (fun Y => EX Y kx r1 (keyD (key z))) ∧ AllBlk X scope (fun Y => EX Y vx r1 (val z))) :
    FKX X (.DictComp kx vx [⟨tg, iter, [], 0⟩] scope pos) r (zs.map key) (zs.map val) := by
  constructor
  intro C L σ H Q dm I q
  refine we_of (pe_dc C.calm C.nd (pi_w X tg iter) (own := own) (g := fun v σ H Q => AllBlk X scope fun Y => WG Y tg v σ H Q) (tt := fun σ H Q => Q true H) (tk := fun σ H Q => AllBlk X scope fun Y => WE Y kx σ H Q) (tv := fun σ H Q => AllBlk X scope fun Y => WE Y vx σ H Q)
    (by rw [hN, hsc]; exact blkOk_by hb) (fun s H C cl fp => ⟨fun pins s' σ H' v u Q I r h => h s H C cl fp pins s' u I r⟩) (fun s H C cl fp => pts_nil) (fun s H C cl fp => ⟨fun pins s' σ H' Q I h => h s H C cl fp pins s' I⟩) (fun s H C cl fp => ⟨fun pins s' σ H' Q I h => h s H C cl fp pins s' I⟩) hs) ?_
  have CB : AllBlk X scope fun Y => CxN Y rw_ := fun s H' c cl fp => ⟨by show X.N = _; rw [hlv.le.names]; exact C.names, C.nd, C.dbg, fun p hp hs => hlv.vis.mem p hp hs, C.calm⟩
  refine hi C L σ H _ dm I fun J H1 s1 W => ?_
  intro Dd hD
  have hlen : (zs.map f).length = zs.length := List.length_map ..
  let Pv : Nat → Hp → Prop := fun i H2 => Same H1 H2 ∧ ∃ acc, H2 Dd = some (.dK (((zs.take i).map key).zip acc)) ∧ ((zs.take i).map key).length = acc.length ∧ IsL X.K (hid H2 (Dd :: L)) acc ((zs.take i).map val)
  refine ⟨fun i m H2 => m = zs.length - i ∧ i ≤ zs.length ∧ Pv i H2, ⟨zs.length, by simp, Nat.zero_le _, same_new hD, [], by simpa using upd_same, by simp, by simp; exact .nil⟩, ?_⟩
  rintro i m H2 ⟨rfl, hle2, s2, acc, hacc, zacc, lacc⟩
  have w2 : Same (hid H1 L) (hid H2 (Dd :: L)) := hid_new hD s2
  by_cases hlt : i < zs.length
  · refine .inr ⟨W.go (Dd :: L) i H2 (by rw [hlen]; exact hlt) w2, Pv (i + 1), fun H' p' => ⟨zs.length - (i + 1), by omega, rfl, hlt, p'⟩, fun x H3 y3 => ?_⟩
    obtain ⟨r1, hg, hk, hv⟩ := body zs[i] (List.getElem_mem hlt)
    have hzi : zs[i]? = some zs[i] := List.getElem?_eq_getElem hlt
    have dm2 : Dom (Dd :: L) H2 := dom_cons (dm.mono (s1.trans s2)) hacc
    obtain ⟨s3, ix⟩ := W.yld (Dd :: L) i H2 x H3 (f zs[i]) dm2 w2 (by rw [List.getElem?_map, hzi]; rfl) y3
    have I3 : IsE X.K (hid H3 (Dd :: L)) (wipe σ (own.map (·.2))) rw_ := by
      have I1 : IsE X.K (hid H3 (Dd :: L)) σ r := I.mono ((hid_mono s1).trans (w2.trans (hid_mono s3)))
      exact (I1.le hlv.le).wipe _ how
    intro s0 H0 c cl fp
    refine (hg s0 H0 c cl fp (CB s0 H0 c cl fp)).2 (Dd :: L) _ H3 x _ I3 ix fun σ4 I4 w4 => ?_
    refine ⟨(w4 _ fun i hi => hi).trans (wipe_wipe _ _), ?_⟩
    have C4 : AllBlk X scope fun Y => CxN Y r1 := fun s H' c cl fp => (hg s H' c cl fp (CB s H' c cl fp)).1
    have dm3 := dm2.mono s3
    refine Eq.mpr (if_pos rfl) ?_
    intro s0 H0 c cl fp
    refine hk s0 H0 c cl fp (C4 s0 H0 c cl fp) (Dd :: L) σ4 H3 _ dm3 I4 fun y H4 s4 iy => ?_
    intro s0 H0 c cl fp
    refine hv s0 H0 c cl fp (C4 s0 H0 c cl fp) (Dd :: L) σ4 H4 _ (dm3.mono s4) (I4.mono (hid_mono s4)) fun u H5 s5 iu => ?_
    have hacc5 : H5 Dd = some (.dK (((zs.take i).map key).zip acc)) := s5 _ _ (s4 _ _ (s3 _ _ hacc))
    have hnew : key zs[i] ∉ (zs.take i).map key := fun z => by
      obtain ⟨j, hj, e⟩ := List.getElem_of_mem z
      have hj' : j < i := by rw [List.length_map, List.length_take] at hj; omega
      have e1 : (zs.map key)[j]? = some (key zs[i]) := by
        rw [List.getElem?_map, List.getElem?_eq_getElem (by omega : j < zs.length)]
        have : ((zs.take i).map key)[j] = key zs[j] := by simp
        rw [← e, this]; rfl
      have e2 : (zs.map key)[i]? = some (key zs[i]) := by rw [List.getElem?_map, hzi]; rfl
      have := (List.getElem?_inj (by rw [List.length_map]; omega) nd).mp (e1.trans e2.symm)
      omega
    have e1 : (zs.take (i + 1)).map key = (zs.take i).map key ++ [key zs[i]] := take_snoc key zs i _ hzi
    have e2 : (zs.take (i + 1)).map val = (zs.take i).map val ++ [val zs[i]] := take_snoc val zs i _ hzi
    refine ⟨_, key zs[i], key_is iy, hacc5, ?_, ?_, acc ++ [u], ?_, ?_, ?_⟩
    · rw [List.length_zip, ← zacc, List.length_map, List.length_take]; omega
    · intro a o ho
      have ha : a ≠ Dd := ne_of_none ho hD
      rw [upd_ne ha]
      exact s5 _ _ (s4 _ _ (s3 _ _ (s2 _ _ ho)))
    · rw [upd_same, putK_new u (valV_out zacc hnew), e1, zip_snoc zacc]
    · rw [e1, List.length_append, List.length_append, zacc]; rfl
    · rw [hid_upd List.mem_cons_self, e2]
      exact isL_snoc (lacc.mono (hid_mono (s3.trans (s4.trans s5)))) iu
  · have e : i = zs.length := by omega
    subst e
    refine .inl ⟨by have := W.stop (Dd :: L) H2 w2; rw [hlen] at this; exact this, ?_⟩
    rw [List.take_length] at hacc zacc lacc
    exact q Dd acc H2 (Same.free s1 hD) (s1.trans s2) hacc zacc lacc
theorem turnK {js : List Nat} {d dk dv : D} {r1 : Rho} (g : AllBlk X scope (fun Y => GX Y tg js rw_ d r1)) (k : AllBlk X scope (fun Y => EX Y kx r1 dk)) (v : AllBlk X scope (fun Y => EX Y vx r1 dv)) (m : ∀ i ∈ js, i ∈ own.map (·.2)) :
    ∃ r1, AllBlk X scope (fun Y => GX Y tg (own.map (·.2)) rw_ d r1) ∧ AllBlk X scope (fun Y => EX Y kx r1 dk) ∧ AllBlk X scope (fun Y => EX Y vx r1 dv) := ⟨r1, fun s H C cl fp => (g s H C cl fp).more m, k, v⟩
end
end SB
namespace SB
set_option maxRecDepth 100000
set_option maxHeartbeats 0
open PySem PySem.Spec PyProof.Rows L2
/-! ### dicts whose keys are marks -/
abbrev TK (P : Program) (w : World) : HeapKind P w (List Str) := tupleKind (SK P w)
structure MdK (P : Program) (w : World) (h : Heap) (a : Addr) (L : List (TRow × V)) : Prop where
  ex : ∃ (o : Obj) (es : Array DictEntry) (ep : Nat) (xs : List (List Str × Addr × Value)), h.get? a = some o ∧ o.ExactDict ∧ o.data = .dict es ep ∧ es.toList = xs.map (entryOfKey (TK P w)) ∧ xs.map (fun x => (x.2.1, x.1)) = L.map (·.1) ∧
    Vals (L.map (·.2)) (xs.map (·.2.2)) ∧ (xs.map (·.1)).Nodup ∧ L.length ≤ sizeLine ∧ (a == sysModules) = false
def MdO (P : Program) (w : World) (L : List (TRow × V)) (a : Addr) : HO := .ext fun h => MdK P w h a L
theorem mdO_new {P : Program} {w : World} {H : Hp} {h : Heap} {a : Addr} {L : List (TRow × V)} (R : MdK P w h a L) : ObjOk P w H h a (MdO P w L a) := by
  have ⟨o, es, ep, xs, ho, r⟩ := R.ex
  refine ⟨R, ⟨o, ho⟩, fun h1 h2 p k => ?_⟩
  have ⟨o', es', ep', xs', ho', r'⟩ := MdK.ex p
  exact ⟨o', es', ep', xs', k o' ho', r'⟩
def lookR (L : List (TRow × V)) (k : List Str) : Option V := (L.find? fun p => decide (p.1.2 = k)).map (·.2)
theorem MdK.known {P : Program} {w : World} {h : Heap} {a : Addr} {L : List (TRow × V)} (R : MdK P w h a L) (ht : ∀ p ∈ L, TupAt (SK P w) h p.1.2 p.1.1) :
    ∃ xs, h.DictOfH (TK P w) a xs ∧ xs.map (fun x => (x.2.1, x.1)) = L.map (·.1) ∧ Vals (L.map (·.2)) (xs.map (·.2.2)) ∧ (a == sysModules) = false := by
  obtain ⟨o, es, ep, xs, h1, h2, h3, h4, h5, h6, h7, h8, h9⟩ := R.ex
  refine ⟨xs, ⟨o, es, ep, h1, h2, h3, h4, fun x hx => ?_, h7⟩, h5, h6, h9⟩
  have hm : (x.2.1, x.1) ∈ L.map (·.1) := h5 ▸ List.mem_map.mpr ⟨x, hx, rfl⟩
  obtain ⟨p, hp, e⟩ := List.mem_map.mp hm
  have := ht p hp
  rw [e] at this
  exact this
theorem at_isSome (k : List Str) : ∀ {xs : List (List Str × Addr × Value)} {L : List (TRow × V)}, xs.map (fun x => (x.2.1, x.1)) = L.map (·.1) → (atKey xs k).isSome = decide (k ∈ L.map (·.1.2))
  | [], [], _ => rfl
  | [], _ :: _, e => by simp at e
  | _ :: _, [], e => by simp at e
  | x :: xs, p :: L, e => by
    simp only [List.map_cons, List.cons.injEq] at e
    have ih := at_isSome k e.2
    have e1 : x.1 = p.1.2 := by rw [← e.1]
    by_cases q : x.1 = k
    · have : atKey (x :: xs) k = some x.2 := by simp [atKey, List.find?_cons, q]
      rw [this]
      simp [← e1, q]
    · have : atKey (x :: xs) k = atKey xs k := by simp [atKey, List.find?_cons, q]
      rw [this, ih]
      have q' : ¬ k = p.1.2 := fun z => q (e1.trans z.symm)
      simp [q']
theorem at_look (k : List Str) (v : V) : ∀ {xs : List (List Str × Addr × Value)} {L : List (TRow × V)}, xs.map (fun x => (x.2.1, x.1)) = L.map (·.1) → Vals (L.map (·.2)) (xs.map (·.2.2)) → lookR L k = some v → ∃ p, atKey xs k = some p ∧ RelV v p.2
  | [], [], _, _, h => by simp [lookR] at h
  | [], _ :: _, e, _, _ => by simp at e
  | _ :: _, [], e, _, _ => by simp at e
  | x :: xs, p :: L, e, r, h => by
    simp only [List.map_cons, List.cons.injEq] at e
    have e1 : x.1 = p.1.2 := by rw [← e.1]
    rw [List.map_cons, List.map_cons] at r
    cases r with
    | cons r0 rt =>
      by_cases q : x.1 = k
      · have h1 : atKey (x :: xs) k = some x.2 := by simp [atKey, List.find?_cons, q]
        have q' : p.1.2 = k := e1.symm.trans q
        have h2 : lookR (p :: L) k = some p.2 := by simp [lookR, List.find?_cons, q']
        rw [h2] at h
        exact ⟨x.2, h1, Option.some.inj h ▸ r0⟩
      · have h1 : atKey (x :: xs) k = atKey xs k := by simp [atKey, List.find?_cons, q]
        have q' : ¬ p.1.2 = k := fun z => q (e1.trans z)
        have h2 : lookR (p :: L) k = lookR L k := by simp [lookR, List.find?_cons, q']
        rw [h1]
        rw [h2] at h
        exact at_look k v e.2 rt h
@[reducible] def mdD (P : Program) (w : World) (L : List (Mk × V)) : D := .dm (fun rows a => MdO P w (rows.zip (L.map (·.2))) a) (L.map fun p => mkS p.1)
theorem is_md {K : PySem.W.Frag} {H : Hp} {v : V} {P : Program} {w : World} {L : List (Mk × V)} (h : Is K H v (mdD P w L)) : ∃ a R, v = .ref a ∧ H a = some (MdO P w R a) ∧ R.map (fun p => (p.1.2, p.2)) = L.map (fun p => (mkS p.1, p.2)) ∧ ∀ p ∈ R, SqT K H p.1.1 (p.1.2.map V.str) := by
  cases h with
  | dm h1 h2 h3 =>
    rename_i a rows
    refine ⟨a, _, rfl, h1, ?_, fun p hp => ?_⟩
    · have hl : rows.length = L.length := by have := congrArg List.length h2; simpa using this
      clear h1 h3
      induction rows generalizing L with
      | nil => cases L with
        | nil => rfl
        | cons _ _ => simp at hl
      | cons r rows ih =>
        cases L with
        | nil => simp at hl
        | cons p L =>
          simp only [List.map_cons, List.cons.injEq] at h2
          simp only [List.map_cons, List.zip_cons_cons, List.cons.injEq]
          exact ⟨by rw [h2.1], ih h2.2 (by simpa using hl)⟩
    · have hz : p.1 ∈ rows := (List.of_mem_zip (a := p.1) (b := p.2) hp).1
      exact h3 _ hz
theorem is_mk {K : PySem.W.Frag} {H : Hp} {v : V} {m : Mk} (h : Is K H v (mkD m)) : ∃ b, v = .ref b ∧ SqT K H b ((mkS m).map V.str) := by
  obtain ⟨b, xs, rfl, hb, l⟩ := is_tup h
  rw [isL_strs l] at hb
  exact ⟨b, rfl, hb⟩
def rMdIn (K : PySem.W.Frag) (P : Program) (w : World) : R2 := fun x y H Q => ∃ b k a L, x = .ref b ∧ SqT K H b (k.map V.str) ∧ y = .ref a ∧ H a = some (MdO P w L a) ∧ (∀ p ∈ L, SqT K H p.1.1 (p.1.2.map V.str)) ∧ Q (.bl (decide (k ∈ L.map (·.1.2)))) H
def rMdIx (K : PySem.W.Frag) (P : Program) (w : World) : R2 := fun x y H Q => ∃ b k a L v, x = .ref a ∧ H a = some (MdO P w L a) ∧ y = .ref b ∧ SqT K H b (k.map V.str) ∧ (∀ p ∈ L, SqT K H p.1.1 (p.1.2.map V.str)) ∧ lookR L k = some v ∧ Q v H
section
variable {X : Cx}
theorem op_mdIn (hu : X.A.units + 65 < cLine) : OpR X (compareOp .In) (rMdIn X.K X.prog X.w) := by
  intro pins s σ H x y v u Q I rx ry h
  obtain ⟨b, k, a, L, rfl, hb, rfl, ha, hL, q⟩ := h
  obtain rfl : v = Value.ref b := rx
  obtain rfl : u = Value.ref a := ry
  obtain ⟨xs, hm, e1, e2, hd⟩ := (show MdK X.prog X.w s.heap a L from (I.hok a _ ha).1).known fun p hp => inv_tup I (hL p hp)
  refine wpAny_in_heap (k := k) (tupleKind_room_in1 (by omega)) (inv_tup I hb) hd hm ?_
  rw [at_isSome k e1]
  exact ⟨.bl _, H, I.tok _, rfl, q⟩
theorem ix_md (hu : X.A.units + 65 < cLine) : IxR X (rMdIx X.K X.prog X.w) := by
  intro value slice pins s σ H x y v u Q I rx ry h hs
  obtain ⟨b, k, a, L, r, rfl, ha, rfl, hb, hL, hv, q⟩ := h
  obtain rfl : v = Value.ref a := rx
  obtain rfl : u = Value.ref b := ry
  obtain ⟨xs, hm, e1, e2, hd⟩ := (show MdK X.prog X.w s.heap a L from (I.hok a _ ha).1).known fun p hp => inv_tup I (hL p hp)
  obtain ⟨p, hp, rp⟩ := at_look k r e1 e2 hv
  exact tail_any hm.typeIs slot_dict_getitem.lookup (wpAny_getItem_heap (tupleKind_room_in1 (by omega)) (inv_tup I hb) hm hp ⟨r, H, I.tok _, rp, q⟩) hs
variable {m : Mk} {L : List (Mk × V)} {o i : Expr} {r : Rho} {d : D} {pos : Pos}
theorem o_inMd (hu : X.A.units + 65 < cLine) : Op2 X (compareOp .In) (mkD m) (mdD X.prog X.w L) (.bl (decide (m ∈ L.map (·.1)))) := by
  refine ⟨_, op_mdIn hu, fun L0 H x y Q dm h1 h2 q => ?_⟩
  obtain ⟨b, rfl, hb⟩ := is_mk h1
  obtain ⟨a, R, rfl, ha, e, hR⟩ := is_md h2
  refine ⟨b, mkS m, a, R, rfl, same_t hid_sub hb, rfl, hid_sub _ _ ha, fun p hp => same_t hid_sub (hR p hp), ?_⟩
  have e2 : R.map (·.1.2) = L.map (fun p => mkS p.1) := by
    have := congrArg (List.map Prod.fst) e
    simpa [List.map_map, Function.comp_def] using this
  have e3 : decide (mkS m ∈ R.map (·.1.2)) = decide (m ∈ L.map (·.1)) := by
    rw [e2]
    refine decide_eq_decide.mpr ⟨fun h => ?_, fun h => ?_⟩
    · obtain ⟨p, hp, z⟩ := List.mem_map.mp h
      exact List.mem_map.mpr ⟨p, hp, mkS_inj.mp z⟩
    · obtain ⟨p, hp, z⟩ := List.mem_map.mp h
      exact List.mem_map.mpr ⟨p, hp, by rw [z]⟩
  rw [e3]
  exact q _ H (Same.refl H) (.bl _)
def lookM (L : List (Mk × V)) (m : Mk) : Option V := (L.find? fun p => decide (p.1 = m)).map (·.2)
theorem lookR_M (m : Mk) : ∀ {R : List (TRow × V)} {L : List (Mk × V)}, R.map (fun p => (p.1.2, p.2)) = L.map (fun p => (mkS p.1, p.2)) → lookR R (mkS m) = lookM L m
  | [], [], _ => rfl
  | [], _ :: _, e => by simp at e
  | _ :: _, [], e => by simp at e
  | p :: R, q :: L, e => by
    simp only [List.map_cons, List.cons.injEq, Prod.mk.injEq] at e
    have ih := lookR_M m e.2
    by_cases z : q.1 = m
    · have h1 : lookR (p :: R) (mkS m) = some p.2 := by simp [lookR, List.find?_cons, e.1.1, z]
      have h2 : lookM (q :: L) m = some q.2 := by simp [lookM, List.find?_cons, z]
      rw [h1, h2, e.1.2]
    · have z' : ¬ mkS q.1 = mkS m := fun y => z (mkS_inj.mp y)
      have h1 : lookR (p :: R) (mkS m) = lookR R (mkS m) := by simp [lookR, List.find?_cons, e.1.1, z']
      have h2 : lookM (q :: L) m = lookM L m := by simp [lookM, List.find?_cons, z]
      rw [h1, h2, ih]
theorem ex_mdget {v : V} (hu : X.A.units + 65 < cLine) (ho : EX X o r (mdD X.prog X.w L)) (hi : EX X i r (mkD m)) (h : lookM L m = some v) (hd : sv d = some v) (hs : PlainIx i) : EX X (.Subscript o i pos) r d := by
  constructor
  intro C L0 σ H Q dm I q
  refine we_of (pe_ix (ix_md hu) (pe_w X o) (pe_w X i) hs) ?_
  refine ho C L0 σ H _ dm I fun v1 H1 s1 i1 => hi C L0 σ H1 _ (dm.mono s1) (I.mono (hid_mono s1)) fun u H2 s2 i2 => ?_
  obtain ⟨b, rfl, hb⟩ := is_mk i2
  obtain ⟨a, R, rfl, ha, e, hR⟩ := is_md i1
  exact ⟨b, mkS m, a, R, v, rfl, s2 _ _ (hid_sub _ _ ha), rfl, same_t hid_sub hb, fun p hp => same_t s2 (same_t hid_sub (hR p hp)), by rw [lookR_M m e]; exact h, q v H2 (s1.trans s2) (is_sv hd)⟩
end
end SB
namespace SB
set_option maxRecDepth 100000
set_option maxHeartbeats 0
open PySem PySem.Spec PyProof.Rows L2
theorem dictH_keep {P : Program} {w : World} {h h' : Heap} {a : Addr} {xs : List (List Str × Addr × Value)} (m : h.DictOfH (TK P w) a xs) (e : ∀ o, h.get? a = some o → h'.get? a = some o) (ht : ∀ x ∈ xs, TupAt (SK P w) h' x.1 x.2.1) : h'.DictOfH (TK P w) a xs := by
  obtain ⟨o, es, ep, h1, h2, h3, h4, h5, h6⟩ := m
  exact ⟨o, es, ep, e o h1, h2, h3, h4, fun x hx => ht x hx, h6⟩
/-- the entries of the first i rows -/
def entT (rows : List TRow) : List (List Str × Addr × Value) := rows.map fun p => (p.2, p.1, Value.bool true)
theorem entT_mem {rows : List TRow} {x : List Str × Addr × Value} (h : x ∈ entT rows) : (x.2.1, x.1) ∈ rows := by
  obtain ⟨p, hp, rfl⟩ := List.mem_map.mp h
  exact hp
theorem at_out (k : List Str) : ∀ {rows : List TRow}, k ∉ rows.map (·.2) → atKey (entT rows) k = none
  | [], _ => rfl
  | p :: rows, h => by
    have h' : ¬ k = p.2 ∧ k ∉ rows.map (·.2) := by simpa using h
    have q : ¬ p.2 = k := fun z => h'.1 z.symm
    have : atKey (entT (p :: rows)) k = atKey (entT rows) k := by simp [atKey, entT, List.find?_cons, q]
    rw [this, at_out k h'.2]
section
variable {X : Cx} {x : Str} {p1 p2 p3 pos : Pos} {j : Nat} {iter : Expr} {scope : Scope} {T : List Mk} {r : Rho}
theorem ex_mdc (hi : EX X iter r (.tup (T.map mkD))) (nd : T.Nodup) (hz : T.length ≤ 1000) (hu : X.A.units + 65 < cLine) (hcl : closureFor scope X.env = pure []) (hcell : ∀ y ∈ scope.names, y.2 ≠ .cell) (hkind : scope.kind = .function)
    (hnm : ∀ y ∈ scope.names, y.2 = .local → scope.names.lookup y.1 = some .local) (hk : ∀ C, (compEnvC scope [] C X.env).kindOf x = some .local) (hsk : ∀ C, (compEnvC scope [] C X.env).scope.kind = .function) (hdb : (x == ("__debug__" : Str)) = false)
    (hs : ∀ x, foldedSetIterable iter X.env x = pure x) :
    EX X (.DictComp (.Name x p1) (.Constant (.bool true) j p2) [⟨.Name x p3, iter, [], 0⟩] scope pos) r (mdD X.prog X.w (T.map fun m => (m, V.bl true))) := by
  constructor
  intro C L σ H Q dm I q pins s J
  refine DictComp_goes (cl := []) hcl hcell hkind hnm ?_ hs
  refine thn (hi C L σ H (fun v H' => Same H H' ∧ Is X.K (hid H' L) v (.tup (T.map mkD))) dm I (fun v H' s i => ⟨s, i⟩) pins s J) fun u s1 ⟨v, H1, I1, rv, sm, iv⟩ => ?_
  obtain ⟨a, xs, rfl, ha, l⟩ := is_tup iv
  obtain ⟨rows, rfl, hrows, hat⟩ := rows_isL l
  obtain rfl : u = Value.ref a := rv
  obtain ⟨its, rvals, pt, hzi⟩ := I1.tuple (same_t hid_sub ha)
  have hits : its = rows.map fun p => Value.ref p.1 := refs_vals rvals
  have hlen : rows.length = T.length := by have := congrArg List.length hrows; simpa using this
  have ndr : (rows.map (·.2)).Nodup := by rw [hrows]; exact nd_keys nd
  refine wpAny_pyIter_tuple pt ?_
  have hal : a < s1.heap.objs.size := by obtain ⟨_, q, _⟩ := pt; exact Heap.lt_size q
  have hne : a ≠ s1.heap.objs.size := Nat.ne_of_lt hal
  have tup1 : ∀ p ∈ rows, TupAt (SK X.prog X.w) s1.heap p.2 p.1 := fun p hp => inv_tup I1 (same_t hid_sub (hat p hp))
  refine ⟨s1.heap.objs.size, _, _, its.toArray.size, _, _, rfl, Goes.tuple (I1.ok.hd C.calm) s1.heap.objs.size a hne its.toArray, ⟨⟨_, Heap.get?_push_size _ rfl, rfl, rfl⟩, ?_⟩, fun D Cc s3 B hD => ?_⟩
  · obtain ⟨o, ho, r⟩ := pt
    exact ⟨o, Heap.get?_push_of_some _ ho, r⟩
  have old3 : ∀ b o, s1.heap.get? b = some o → s3.heap.get? b = some o := fun b o e => B.old b o (Heap.get?_push_of_some _ e)
  have newD : s1.heap.objs.size < D := by have := B.newD; rw [Heap.size_push] at this; exact this
  have newC : s1.heap.objs.size < Cc := by have := B.newC; rw [Heap.size_push] at this; exact this
  obtain ⟨h3, tk3, e3⟩ := B.only
  refine ⟨fun i s' => (∃ h tk, s' = { s1 with heap := h, toks := tk }) ∧ (∀ b o, s1.heap.get? b = some o → s'.heap.get? b = some o) ∧ s'.heap.DictOfH (TK X.prog X.w) D (entT (rows.take i)) ∧ ∃ m, s'.heap.Ns Cc m, ⟨⟨h3, tk3, e3⟩, old3, ⟨_, #[], 0, hD, ⟨rfl, rfl, rfl⟩, rfl, rfl, fun x hx => by simp [entT] at hx, by simp [entT]⟩, _, B.names⟩, ?_, ?_, ?_⟩
  · rintro i s' h' tk ⟨⟨h, t, rfl⟩, g2, g3, m, g4⟩ k ht
    have notI : ∀ {b : Addr}, s1.heap.objs.size ≠ b → b ∉ [s1.heap.objs.size] := fun hb z => hb (List.mem_singleton.mp z).symm
    refine ⟨⟨h', tk, rfl⟩, fun b o e => k b o (notI fun z => absurd (Heap.lt_size e) (by rw [z]; exact Nat.lt_irrefl _)) (g2 b o e), dictH_keep g3 (fun o e => k D o (notI (Nat.ne_of_lt newD)) e) fun x hx => ?_, m, g4.at fun o e => k Cc o (notI (Nat.ne_of_lt newC)) e⟩
    have hm := List.mem_of_mem_take (entT_mem hx)
    exact tup_old (tup1 _ hm) fun b o e => k b o (notI fun z => absurd (Heap.lt_size e) (by rw [z]; exact Nat.lt_irrefl _)) (g2 b o e)
  · rintro i v s' hi Y st ⟨⟨h, t, rfl⟩, g2, g3, m, g4⟩
    have hi' : i < rows.length := by rw [hits] at hi; simpa using hi
    have hri : rows[i]? = some rows[i] := List.getElem?_eq_getElem hi'
    have hv : v = Value.ref rows[i].1 := by
      have Y' : its.toArray[i]? = some v := Y
      rw [hits] at Y'
      simp only [List.getElem?_toArray, List.getElem?_map, hri, Option.map_some] at Y'
      exact (Option.some.inj Y').symm
    subst hv
    have hm : rows[i] ∈ rows := List.getElem_mem hi'
    refine wpAny_assign_Name (wpAny_storeName_local (hk Cc) g4 (fun h4 n4 s4 => ?_) (by rw [hsk]; rfl))
    refine wpAny_tests_nil ?_
    refine Eq.mpr (if_pos rfl) ?_
    refine wpAny_Name (wpAny_loadName_local (hsk Cc) (hk Cc) n4 (if_pos rfl) ?_) hdb
    refine wpAny_Constant_bool ?_
    have ne1 : ∀ {b : Addr} {o : Obj}, s1.heap.get? b = some o → b ≠ Cc := fun e z => absurd (Heap.lt_size e) (by rw [z]; exact Nat.not_lt.mpr (Nat.le_of_lt newC))
    have ne2 : ∀ {b : Addr} {o : Obj}, s1.heap.get? b = some o → b ≠ D := fun e z => absurd (Heap.lt_size e) (by rw [z]; exact Nat.not_lt.mpr (Nat.le_of_lt newD))
    have old4 : ∀ b o, s1.heap.get? b = some o → h4.get? b = some o := fun b o e => (s4.2 b (ne1 e)).trans (g2 b o e)
    have m4 : h4.DictOfH (TK X.prog X.w) D (entT (rows.take i)) := dictH_keep g3 (fun o e => (s4.2 D B.ne).trans e) fun x hx => tup_old (tup1 _ (List.mem_of_mem_take (entT_mem hx))) old4
    have hout : rows[i].2 ∉ (rows.take i).map (·.2) := fun z => by
      obtain ⟨j, hj, e⟩ := List.getElem_of_mem z
      have hj' : j < i := by rw [List.length_map, List.length_take] at hj; omega
      have e1 : (rows.map (·.2))[j]? = some rows[i].2 := by
        rw [List.getElem?_map, List.getElem?_eq_getElem (by omega : j < rows.length)]
        have : ((rows.take i).map (·.2))[j] = rows[j].2 := by simp
        rw [← e, this]; rfl
      have e2 : (rows.map (·.2))[i]? = some rows[i].2 := by rw [List.getElem?_map, hri]; rfl
      have := (List.getElem?_inj (by rw [List.length_map]; omega) ndr).mp (e1.trans e2.symm)
      omega
    refine wpAny_dictSet_heap (knd := TK X.prog X.w) (k := rows[i].2) (xs := entT (rows.take i)) (show X.A.units < cLine by omega) (tup_old (tup1 _ hm) old4) m4 (fun h5 m5 s5 => ?_) (by unfold entT; rw [List.length_map, List.length_take, sizeLine_eq]; omega)
    have e3 : storedH (entT (rows.take i)) rows[i].2 rows[i].1 (Value.bool true) = entT (rows.take (i + 1)) := by
      rw [storedH_new (at_out _ hout)]
      unfold entT
      rw [take_snoc _ rows i _ hri]
    have m5' : h5.DictOfH (TK X.prog X.w) D (entT (rows.take (i + 1))) := e3 ▸ m5
    refine ⟨⟨⟨h5, _, rfl⟩, fun b o e => (s5.2 b (ne2 e)).trans (old4 b o e), m5', _, n4.sameBut s5 (Ne.symm B.ne)⟩, ?_⟩
    obtain ⟨⟨oi, hoi, ri⟩, ⟨oa, hoa, ra⟩⟩ := st
    have k45 : ∀ b o, b ≠ Cc → b ≠ D → h.get? b = some o → h5.get? b = some o := fun b o n1 n2 e => (s5.2 b n2).trans ((s4.2 b n1).trans e)
    exact ⟨⟨oi, k45 _ _ (Nat.ne_of_lt newC) (Nat.ne_of_lt newD) hoi, ri⟩, ⟨oa, k45 _ _ (Nat.ne_of_lt (Nat.lt_trans hal newC)) (Nat.ne_of_lt (Nat.lt_trans hal newD)) hoa, ra⟩⟩
  · rintro s' ⟨⟨h, t, rfl⟩, g2, g3, m, g4⟩
    have hsz : its.toArray.size = rows.length := by rw [hits]; simp
    rw [hsz, List.take_length] at g3
    refine ⟨m, g4, fun h' sb => ?_⟩
    have ne1 : ∀ {b : Addr} {o : Obj}, s1.heap.get? b = some o → b ≠ Cc := fun e z => absurd (Heap.lt_size e) (by rw [z]; exact Nat.not_lt.mpr (Nat.le_of_lt newC))
    have old' : ∀ b o, s1.heap.get? b = some o → h'.get? b = some o := fun b o e => (sb.2 b (ne1 e)).trans (g2 b o e)
    obtain ⟨o, es, ep, d1, d2, d3, d4, d5, d6⟩ := g3
    have hlz : rows.length = (T.map fun _ => V.bl true).length := by rw [List.length_map]; exact hlen
    have vv : ∀ (rs : List TRow) (vs : List V), rs.length = vs.length → (∀ v ∈ vs, v = V.bl true) → Vals vs ((entT rs).map (·.2.2)) := by
      intro rs
      induction rs with
      | nil => intro vs hl _; cases vs with
        | nil => exact .nil
        | cons _ _ => simp at hl
      | cons r rs ih => intro vs hl hv; cases vs with
        | nil => simp at hl
        | cons v vs =>
          rw [hv v List.mem_cons_self]
          exact .cons rfl (ih vs (by simpa using hl) fun u hu => hv u (List.mem_cons_of_mem _ hu))
    have R : MdK X.prog X.w h' D (rows.zip (T.map fun _ => V.bl true)) := by
      refine ⟨o, es, ep, entT rows, (sb.2 D B.ne).trans d1, d2, d3, d4, ?_, ?_, d6, ?_, ?_⟩
      · rw [List.map_fst_zip (Nat.le_of_eq hlz)]
        unfold entT
        rw [List.map_map]
        exact List.map_id' rows
      · rw [List.map_snd_zip (Nat.le_of_eq hlz.symm)]
        exact vv _ _ hlz fun v hv => by
          obtain ⟨_, _, e⟩ := List.mem_map.mp hv
          exact e.symm
      · rw [List.length_zip, ← hlz, sizeLine_eq]; omega
      · have := I1.big
        rw [beq_eq_false_iff_ne]
        exact fun z => absurd this (by rw [← z]; exact Nat.not_lt.mpr (Nat.le_of_lt newD))
    have I2 : Inv X pins σ (upd H1 D (MdO X.prog X.w (rows.zip (T.map fun _ => V.bl true)) D)) { s1 with heap := h', toks := t } := I1.laid old' (Nat.le_of_lt newD) (mdO_new R)
    have hn : H1 D = none := I1.hok.fresh (Nat.le_of_lt newD)
    have sn := same_new (o := MdO X.prog X.w (rows.zip (T.map fun _ => V.bl true)) D) hn
    refine ⟨.ref D, _, I2, rfl, q _ _ (sm.trans sn) ?_⟩
    refine .dm (rows := rows) (hid_of ?_ ((dm.mono sm).fresh hn)) ?_ fun p hp => same_t (hid_mono sn) (hat p hp)
    · rw [upd_same, List.map_map]; rfl
    · rw [List.map_map]; exact hrows
end
end SB
namespace SB
set_option maxRecDepth 100000
set_option maxHeartbeats 0
open PySem PySem.Spec PyProof.Rows L2
/-! ### tuple(a list), told with its object; dict(pairs) -/
def rTpl (K : PySem.W.Frag) : List V → Hp → VK → Prop := fun xs H Q => ∃ p ys, xs = [.ref p] ∧ SqL K H p ys ∧ ∀ l o, H l = none → o.dict = none → Q (.ref l) (upd H l (.frz o (.tup ys)))
theorem cr_tpl {X : Cx} : CallR X (.type "tuple") (rTpl X.K) := by
  intro pins s σ H xs us Q I r h
  obtain ⟨p, ys, rfl, hq, q⟩ := h
  rw [Vals.ref1 r]
  obtain ⟨its, rv, pl, hz⟩ := I.list hq
  have hlen := rv.length
  refine call_tuple_list pl.isList (fun h' kp => ?_) (by simp only [List.size_toArray] <;> omega)
  have I1 : Inv X pins σ H { s with heap := h' } := I.kept (t' := s.toks) kp
  refine ⟨.ref h'.objs.size, upd H h'.objs.size (.frz { cls := .type "tuple", data := .seq its.toArray } (.tup ys)), ?_, rfl, q _ _ (I1.hok.fresh (Nat.le_refl _)) rfl⟩
  exact I1.laid (t' := s.toks) (fun b o e => Heap.get?_push_of_some _ e) (Nat.le_refl _) ⟨Heap.get?_push_size _ rfl, hz, its, rv, IsTup.new _ _⟩
theorem c_tplL {X : Cx} {ds : List D} : CallD X (.type "tuple") [.lst ds] (.tpl ds) := ⟨_, cr_tpl, fun L H xs Q dm i0 q => by
  obtain ⟨v, rfl, i⟩ := isL1 i0
  obtain ⟨a, us, rfl, ha, l⟩ := is_lst i
  refine ⟨a, us, rfl, .inl (.inl (hid_sub _ _ ha)), fun t o ht ho => ?_⟩
  have s2 : Same H (upd H t (.frz o (.tup us))) := same_new ht
  exact q _ _ s2 (.tpl (is_new (K := X.K) dm ht) ho (l.mono (hid_mono s2)))⟩
theorem tup_of_tpl {X : Cx} {e : Expr} {r : Rho} {ds : List D} (h : EX X e r (.tpl ds)) : EX X e r (.tup ds) := by
  constructor
  intro C L σ H Q dm I q
  refine h C L σ H Q dm I fun v H' s i => q v H' s ?_
  cases i with
  | tpl h1 h2 l => exact .tup (.inl (.inr ⟨_, h1⟩)) l
/-- a price list's entries -/
@[reducible] def priD (p : Mk × Int) : D := .tup [mkD p.1, .int p.2]
theorem pri_isL {K : PySem.W.Frag} {G : Hp} : ∀ {xs : List V} {L : List (Mk × Int)}, IsL K G xs (L.map priD) → ∃ ts : List (Addr × Addr), ts.length = L.length ∧ xs = ts.map (fun q => V.ref q.1) ∧
    ∀ (i : Nat) (p : Mk × Int) (q : Addr × Addr), L[i]? = some p → ts[i]? = some q → SqT K G q.1 [V.ref q.2, V.int p.2] ∧ SqT K G q.2 ((mkS p.1).map V.str)
  | _, [], .nil => ⟨[], rfl, rfl, fun i p q h => by simp at h⟩
  | _, p :: L, .cons a t => by
    obtain ⟨ts, h1, h2, h3⟩ := pri_isL t
    obtain ⟨c, us, rfl, hc, l⟩ := is_tup a
    obtain ⟨v, u, rfl, iv, iu⟩ := isL2 l
    obtain ⟨b, rfl, hb⟩ := is_mk iv
    rw [is_int iu] at hc
    refine ⟨(c, b) :: ts, by simp [h1], by rw [h2]; rfl, fun i p' q hp hq => ?_⟩
    cases i with
    | zero =>
      have e1 : p = p' := by simpa using hp
      have e2 : (c, b) = q := by simpa using hq
      subst e1 e2
      exact ⟨hc, hb⟩
    | succ i => exact h3 i p' q (by simpa using hp) (by simpa using hq)
theorem pri_heap {X : Cx} {pins : List (Addr × Obj)} {σ : L2.St} {H : Hp} {s : Shared} (I : Inv X pins σ H s) : ∀ (L : List (Mk × Int)) (ts : List (Addr × Addr)), ts.length = L.length →
    (∀ (i : Nat) (p : Mk × Int) (q : Addr × Addr), L[i]? = some p → ts[i]? = some q → SqT X.K H q.1 [V.ref q.2, V.int p.2] ∧ SqT X.K H q.2 ((mkS p.1).map V.str)) →
    ∃ xs : List (List Str × Addr × Value), xs.map (·.1) = L.map (fun p => mkS p.1) ∧ xs.map (·.2.1) = ts.map (·.2) ∧ Vals (L.map fun p => V.int p.2) (xs.map (·.2.2)) ∧ ∀ (i : Nat) (x : List Str × Addr × Value) (q : Addr × Addr), xs[i]? = some x → ts[i]? = some q → PairAt s.heap q.1 (.ref x.2.1) x.2.2 ∧ TupAt (SK X.prog X.w) s.heap x.1 x.2.1
  | [], [], _, _ => ⟨[], rfl, rfl, .nil, fun i x q h => by simp at h⟩
  | [], _ :: _, z, _ => by simp at z
  | _ :: _, [], z, _ => by simp at z
  | p :: L, t :: ts, z, h => by
    obtain ⟨xs, h1, h2, h3, h4⟩ := pri_heap I L ts (by simpa using z) fun i p q hp hq => h (i + 1) p q (by simpa using hp) (by simpa using hq)
    obtain ⟨q1, q2⟩ := h 0 p t rfl rfl
    obtain ⟨its, rv, pt, _⟩ := I.tuple q1
    cases rv with
    | cons r0 rt =>
      cases rt with
      | cons r1 rt =>
        cases rt
        cases r0
        rename_i u
        refine ⟨(mkS p.1, t.2, u) :: xs, by simp [h1], by simp [h2], .cons r1 h3, fun i x q hx hq => ?_⟩
        cases i with
        | zero =>
          have e1 : (mkS p.1, t.2, u) = x := by simpa using hx
          have e2 : t = q := by simpa using hq
          subst e1 e2
          exact ⟨.inl pt, inv_tup I q2⟩
        | succ i => exact h4 i x q (by simpa using hx) (by simpa using hq)
theorem stored_all : ∀ (ps acc : List (List Str × Addr × Value)), (acc.map (·.1) ++ ps.map (·.1)).Nodup → storedAllH acc ps = acc ++ ps
  | [], acc, _ => by simp [storedAllH]
  | p :: ps, acc, h => by
    have hn : atKey acc p.1 = none := by
      cases q : atKey acc p.1 with
      | none => rfl
      | some v =>
        exfalso
        unfold atKey at q
        obtain ⟨x, hx, _⟩ := Option.map_eq_some_iff.mp q
        have h1 := List.mem_of_find?_eq_some hx
        have h2 := List.find?_some hx
        have e : x.1 = p.1 := of_decide_eq_true h2
        rw [List.nodup_append] at h
        exact h.2.2 x.1 (List.mem_map.mpr ⟨x, h1, rfl⟩) p.1 (by simp) e
    have e1 : storedAllH acc (p :: ps) = storedAllH (storedH acc p.1 p.2.1 p.2.2) ps := rfl
    rw [e1, storedH_new hn, stored_all ps]
    · simp
    · simpa using h
def rDictMd (K : PySem.W.Frag) (P : Program) (w : World) : List V → Hp → VK → Prop := fun vs H Q => ∃ (a : Addr) (o : Obj) (ts : List (Addr × Addr)) (L : List (Mk × Int)), vs = [V.ref a] ∧ H a = some (.frz o (.tup (ts.map fun q => V.ref q.1))) ∧ o.dict = none ∧ ts.length = L.length ∧ (L.map (·.1)).Nodup ∧ L.length ≤ 1000 ∧
  (∀ (i : Nat) (p : Mk × Int) (q : Addr × Addr), L[i]? = some p → ts[i]? = some q → SqT K H q.1 [V.ref q.2, V.int p.2] ∧ SqT K H q.2 ((mkS p.1).map V.str)) ∧
  ∀ (R : List (TRow × V)) (d : Addr), H d = none → R.map (·.1) = (ts.zip L).map (fun z => (z.1.2, mkS z.2.1)) → R.map (·.2) = L.map (fun p => V.int p.2) → Q (.ref d) (upd H d (MdO P w R d))
theorem cr_dictMd {X : Cx} (hc : X.calm = true) (hu : X.A.units + 65 < cLine) : CallR X (.type "dict") (rDictMd X.K X.prog X.w) := by
  intro pins s σ H vs us Q I r h
  obtain ⟨a, o, ts, L, rfl, ha, ho, hl, nd, hz, hat, q⟩ := h
  rw [Vals.ref1 r]
  obtain ⟨e1, _, its, rv, ⟨o', e2, c1, n, c2⟩⟩ := (show ObjOk X.prog X.w H s.heap a (.frz o (.tup _)) from I.hok a _ ha)
  rw [e1] at e2
  obtain rfl := Option.some.inj e2
  have hits : its = ts.map fun q => Value.ref q.1 := by
    have : ∀ {ks : List (Addr × Addr)} {us : List Value}, Vals (ks.map fun p => V.ref p.1) us → us = ks.map fun p => Value.ref p.1 := by
      intro ks
      induction ks with
      | nil => intro us h; cases h; rfl
      | cons p ks ih => intro us h; cases h with | cons r t => cases r; rw [ih t]; rfl
    exact this rv
  subst hits
  obtain ⟨xs, x1, x2, x3, x4⟩ := pri_heap I L ts hl hat
  have hlx : xs.length = ts.length := by have := congrArg List.length x2; simpa using this
  have xat : ∀ x ∈ xs, TupAt (SK X.prog X.w) s.heap x.1 x.2.1 := fun x hx => by
    obtain ⟨i, hi⟩ := List.mem_iff_getElem?.mp hx
    have hi' : i < ts.length := by rw [← hlx]; exact (List.getElem?_eq_some_iff.mp hi).1
    exact (x4 i x ts[i] hi (List.getElem?_eq_getElem hi')).2
  have ndx : (xs.map (·.1)).Nodup := by
    rw [x1]
    have : (L.map fun p => mkS p.1) = (L.map (·.1)).map mkS := by rw [List.map_map]; rfl
    rw [this]; exact nd_keys nd
  refine call_dict_pairsH (knd := TK X.prog X.w) (ps := xs) (PairArg.tuple a (ts.map fun q => Value.ref q.1).toArray (fun j => (ts.getD j (0, 0)).1) (xs.map fun x => (Value.ref x.2.1, x.2.2))) (I.ok.hd hc) (show X.A.units + 2 < cLine by omega) ⟨⟨o, n, e1, c1, ho, c2⟩, ?_, fun j k v hj => ?_⟩ ⟨by simp, fun i k v hi => ?_⟩ (fun h' hk x hx => ?_) ?_ fun h' tk hd old => ?_
  · simp [hlx]
  · rw [List.getElem?_map] at hj
    obtain ⟨x, hx, e⟩ := Option.map_eq_some_iff.mp hj
    have hjl : j < ts.length := by rw [← hlx]; exact (List.getElem?_eq_some_iff.mp hx).1
    have ht : ts[j]? = some ts[j] := List.getElem?_eq_getElem hjl
    have ed : ts.getD j (0, 0) = ts[j] := by rw [List.getD_eq_getElem?_getD, ht]; rfl
    simp only [Prod.mk.injEq] at e
    refine ⟨by simp [ht], ?_⟩
    show PairAt s.heap (ts.getD j (0, 0)).1 k v
    rw [ed, ← e.1, ← e.2]
    exact (x4 j x _ hx ht).1
  · have hi : (xs.map fun x => (Value.ref x.2.1, x.2.2))[i]? = some (k, v) := hi
    rw [List.getElem?_map] at hi
    obtain ⟨x, hx, e⟩ := Option.map_eq_some_iff.mp hi
    simp only [Prod.mk.injEq] at e
    exact ⟨x.1, x.2.1, by rw [hx, ← e.2], e.1.symm⟩
  · exact tup_old (xat x hx) fun b o e => hk b o (fun z => absurd (Heap.lt_size e) (by rw [z]; exact Nat.lt_irrefl _)) (by simp) e
  · rw [List.length_map, hlx, hl, sizeLine_eq]; omega
  · rw [stored_all xs [] (by simpa using ndx), List.nil_append] at hd
    obtain ⟨od, es, ep, d1, d2, d3, d4, d5, d6⟩ := hd
    have old' : ∀ b o, s.heap.get? b = some o → h'.get? b = some o := fun b o e => old b o (by simp) e
    let R : List (TRow × V) := (xs.map fun x => (x.2.1, x.1)).zip (L.map fun p => V.int p.2)
    have hlr : (xs.map fun x => (x.2.1, x.1)).length = (L.map fun p => V.int p.2).length := by simp [hlx, hl]
    have r1 : R.map (·.1) = xs.map fun x => (x.2.1, x.1) := List.map_fst_zip (Nat.le_of_eq hlr)
    have r2 : R.map (·.2) = L.map fun p => V.int p.2 := List.map_snd_zip (Nat.le_of_eq hlr.symm)
    have M : MdK X.prog X.w h' s.heap.objs.size R := by
      refine ⟨od, es, ep, xs, d1, d2, d3, d4, r1.symm, by rw [r2]; exact x3, d6, ?_, ?_⟩
      · have : R.length = L.length := by show (List.zip _ _).length = _; rw [List.length_zip]; simp [hlx, hl]
        rw [this, sizeLine_eq]; omega
      · rw [beq_eq_false_iff_ne]
        exact Nat.ne_of_gt I.big
    refine ⟨.ref s.heap.objs.size, upd H s.heap.objs.size (MdO X.prog X.w R s.heap.objs.size), I.laid (t' := tk) old' (Nat.le_refl _) (mdO_new M), rfl, q R _ (I.hok.fresh (Nat.le_refl _)) ?_ r2⟩
    rw [r1]
    -- addresses and keys, one by one
    apply List.ext_getElem?
    intro i
    have h1 := congrArg (fun l => l[i]?) x1
    have h2 := congrArg (fun l => l[i]?) x2
    simp only [List.getElem?_map] at h1 h2
    rw [List.getElem?_map, List.getElem?_map]
    by_cases hi : i < ts.length
    · have hx : xs[i]? = some (xs[i]'(by omega)) := List.getElem?_eq_getElem (by omega)
      have hL : L[i]? = some (L[i]'(by omega)) := List.getElem?_eq_getElem (by omega)
      have ht : ts[i]? = some ts[i] := List.getElem?_eq_getElem hi
      have hzp : (ts.zip L)[i]? = some (ts[i], L[i]'(by omega)) := by rw [List.getElem?_zip_eq_some]; exact ⟨ht, hL⟩
      rw [hx, hL] at h1
      rw [hx, ht] at h2
      rw [hx, hzp]
      simp only [Option.map_some, Option.some.injEq] at h1 h2 ⊢
      rw [h1, h2]
    · rw [List.getElem?_eq_none (by omega), List.getElem?_eq_none (by rw [List.length_zip]; omega)]
      rfl
theorem c_dictMd {X : Cx} {L : List (Mk × Int)} (hc : X.calm = true) (hu : X.A.units + 65 < cLine) (nd : (L.map (·.1)).Nodup) (hz : L.length ≤ 1000) : CallD X (.type "dict") [.tpl (L.map priD)] (mdD X.prog X.w (L.map fun p => (p.1, V.int p.2))) :=
  ⟨_, cr_dictMd hc hu, fun L0 H xs Q dm i0 q => by
  obtain ⟨v, rfl, i⟩ := isL1 i0
  cases i with
  | tpl h1 h2 l =>
    rename_i a o us
    obtain ⟨ts, t1, rfl, t3⟩ := pri_isL l
    refine ⟨a, o, ts, L, rfl, hid_sub _ _ h1, h2, t1, nd, hz, fun i p q hp hq => ⟨same_t hid_sub (t3 i p q hp hq).1, same_t hid_sub (t3 i p q hp hq).2⟩, fun R d hd r1 r2 => ?_⟩
    have sn := same_new (o := MdO X.prog X.w R d) hd
    have hlz : (R.map (·.1)).length = (R.map (·.2)).length := by simp
    have hR : R = (R.map (·.1)).zip ((L.map fun p => (p.1, V.int p.2)).map (·.2)) := by
      rw [List.map_map]
      have e : (L.map ((fun x => x.2) ∘ fun p : Mk × Int => (p.1, V.int p.2))) = R.map (·.2) := by rw [r2]; rfl
      rw [e]
      exact List.zip_of_prod rfl rfl
    refine q _ _ sn (.dm (rows := R.map (·.1)) ?_ ?_ fun p hp => ?_)
    · rw [← hR]
      exact hid_of upd_same (dm.fresh hd)
    · rw [r1, List.map_map, List.map_map]
      have : ∀ (ts : List (Addr × Addr)) (L : List (Mk × Int)), ts.length = L.length → (ts.zip L).map ((fun x => x.2) ∘ fun z => (z.1.2, mkS z.2.1)) = L.map ((fun p : Mk × V => mkS p.1) ∘ fun p => (p.1, V.int p.2)) := by
        intro ts
        induction ts with
        | nil => intro L h; cases L with
          | nil => rfl
          | cons _ _ => simp at h
        | cons t ts ih => intro L h; cases L with
          | nil => simp at h
          | cons p L => simp only [List.zip_cons_cons, List.map_cons]; rw [ih L (by simpa using h)]; rfl
      exact this ts L t1
    · rw [r1] at hp
      obtain ⟨z, hz, rfl⟩ := List.mem_map.mp hp
      obtain ⟨i, hi⟩ := List.mem_iff_getElem?.mp hz
      obtain ⟨h1, h2⟩ := List.getElem?_zip_eq_some.mp hi
      exact same_t (hid_mono sn) (t3 i z.2 z.1 h2 h1).2⟩
end SB
namespace SB
set_option maxRecDepth 100000
open PySem PySem.Spec PyProof.Rows L2
@[reducible] def phD (s : Bool) : D := .str (phS s)
@[reducible] def ocolD (o : Option Col) : D := .str (ocolS o)
@[reducible] def whoD (w : Who) : D := .str (whoS w)
section
variable {X : Cx} {elt tg iter tg1 iter1 : Expr} {scope sc : Scope} {N : List Str} {r rw_ : Rho} {own : List (Str × Nat)} {js vs1 : List Nat} {pos : Pos}
/-- an inner turn -/
structure In2 (X : Cx) (elt tg1 : Expr) (scope : Scope) (vs1 : List Nat) (r1 : Rho) (d out : D) : Prop where
  ex : ∃ r2, AllBlk X scope (fun Y => GX Y tg1 vs1 r1 d r2) ∧ AllBlk X scope (fun Y => EX Y elt r2 out)
theorem in2 {r1 r2 : Rho} {d out : D} (g : AllBlk X scope (fun Y => GX Y tg1 js r1 d r2)) (h : AllBlk X scope (fun Y => EX Y elt r2 out)) (m : ∀ i ∈ js, i ∈ vs1) : In2 X elt tg1 scope vs1 r1 d out := ⟨r2, fun s H C cl fp => (g s H C cl fp).more m, h⟩
theorem turn2 {β : Type} {us : List β} {f1 g : β → D} {d : D} {r1 : Rho} (g0 : AllBlk X scope (fun Y => GX Y tg js rw_ d r1)) (m : ∀ i ∈ js, i ∈ own.map (·.2)) (how : ∀ i ∈ vs1, ∃ n, r1[i]? = some (n, none)) (hi : AllBlk X scope (fun Y => IX Y tg1 iter1 r1 (us.map f1)))
    (b : ∀ y ∈ us, In2 X elt tg1 scope vs1 r1 (f1 y) (g y)) : Turn2 X elt tg tg1 iter1 scope own vs1 rw_ d us f1 g :=
  ⟨r1, fun s H C cl fp => (g0 s H C cl fp).more m, how, hi, fun y hy => (b y hy).ex⟩
theorem lc2c {α β : Type} (own : List (Str × Nat)) (vs1 : List Nat) (N : List Str) (sc : Scope) (zs : List α) (f : α → D) (us : α → List β) (f1 : α → β → D) (g : α → β → D) (hi : IX X tg iter r (zs.map f)) (hN : X.N = N) (hsc : X.env.scope = sc) (hb : blkC N sc scope own = true) (hlv : LeV (relabel scope X.env) r rw_)
    (how : ∀ i ∈ own.map (·.2), ∃ n, rw_[i]? = some (n, none)) (hs : ∀ x, foldedSetIterable iter X.env x = pure x) (hv1 : ∀ i ∈ vs1, i ∈ own.map (·.2)) (hs1 : ∀ env x, foldedSetIterable iter1 env x = pure x) (hz : (zs.flatMap us).length < sizeLine)
    (body : ∀ z ∈ zs, Turn2 X elt tg tg1 iter1 scope own vs1 rw_ (f z) (us z) (f1 z) (g z)) : FX X (.ListComp elt [⟨tg, iter, [], 0⟩, ⟨tg1, iter1, [], 0⟩] scope pos) r (zs.flatMap fun z => (us z).map (g z)) :=
  fx_lc2 (lcx2 zs f us f1 g own vs1 hi hN hsc hb hv1 hlv how hz body) hs hs1
theorem g_T2 {β : Type} {us : List β} {f1 g : β → D} {d : D} (h : Turn2 X elt tg tg1 iter1 scope own vs1 rw_ d us f1 g) : Turn2 X elt tg tg1 iter1 scope own vs1 rw_ d us f1 g := h
theorem g_I2 {d out : D} (h : In2 X elt tg1 scope vs1 rw_ d out) : In2 X elt tg1 scope vs1 rw_ d out := h
end
theorem fo2_is {iter : Expr} (h : ∀ env x, foldedSetIterable iter env x = pure x) : ∀ env x, foldedSetIterable iter env x = pure x := h
/-! ### the marks of the package -/
def loadMs : List Mk := [true, false].flatMap fun s => [Col.black, .grey, .white].map fun c => Mk.load s c
def ocols : List (Option Col) := [some .black, some .grey, some .white, none]
def cshade (h : Col) (o n : Option Col) : Who → Bool
  | .holder => !decide (h = .grey)
  | .old => decide (o = some .white)
  | .new => decide (n = some .white)
def storeAt (s : Bool) (h : Col) (o n : Option Col) : List Mk := ([Who.holder, .old, .new].filter (cshade h o n)).map fun wh => Mk.store s h o n wh
def storeMs : List Mk := [true, false].flatMap fun s => [Col.black, .grey, .white].flatMap fun h => ocols.flatMap fun o => ocols.flatMap fun n => storeAt s h o n
def allMs : List Mk := sortM (loadMs ++ [true, false].map Mk.new ++ storeMs)
end SB
namespace SB
set_option maxRecDepth 100000
open PySem PySem.Spec PyProof.Rows L2
section
variable {X : Cx} {e : Expr} {r : Rho} {z : Str} {p p1 pos : Pos} {d : D}
/-- isinstance(a text, str) -/
theorem ex_isstr (h : EX X e r (.str z)) (g1 : Gl X "isinstance") (m1 : X.mg "isinstance" = none) (g2 : Gl X "str") (m2 : X.mg "str" = none) (he : starEach [e, .Name "str" p1] X.env = (false, eval e X.env) :: starEach [.Name "str" p1] X.env)
    (he2 : starEach [.Name "str" p1] X.env = (false, eval (.Name "str" p1) X.env) :: starEach [] X.env) (hpl : (backTo pos (starEach [.Name "str" p1] X.env)).any (·.1) = false) :
    EX X (.Call (.Name "isinstance" p) [e, .Name "str" p1] [] pos) r (.bl true) := by
  constructor
  intro C L σ H Q dm I q
  refine we_of (pe_callB RZ.call_isTy g1 m1 rfl (pa_cons (pe_w X e) (pa_cons (pe_bltn (v := .ty "str") g2 m2 rfl rfl) pa_nil he2) he) (by decide) (by decide) he hpl) ?_
  refine h C L σ H _ dm I fun v H1 s1 i1 => ?_
  exact ⟨v, "str", rfl, by rw [is_str i1]; exact .str z, q _ H1 s1 (.bl true)⟩
/-- a negative index of a tuple -/
theorem ex_ixn {a b : Expr} {dd : D} {ds : List D} {i : Int} (ha : EX X a r dd) (hb : EX X b r (.int i)) (hd : SeqD dd ds) (h : atI ds i = some d) (hs : PlainIx b) : EX X (.Subscript a b pos) r d := ex_ix ha hb hd h hs
end
@[reducible] def sttD : Option Bool → D
  | none => .non
  | some s => .str (phS s)
inductive Kw where
  | value | holder | old | both | load
  deriving DecidableEq
def kwS : Kw → Str
  | .value => "value"
  | .holder => "holder"
  | .old => "old"
  | .both => "both"
  | .load => "load"
@[reducible] def kwD (k : Kw) : D := .str (kwS k)
def isBy (m : Mk) (wh : Who) (st : Option Bool) : Bool := match m with
  | .store s _ _ _ w' => decide (w' = wh) && (match st with | none => true | some s' => decide (s' = s))
  | _ => false
def knownBy (k : Kw) (m : Mk) : Bool := match m with
  | .new _ => true
  | .load _ _ => match k with
    | .load => true
    | _ => false
  | .store s h o n wh => match k with
    | .holder => decide (wh = .holder) && decide (h = .black) && decide (n = some .white)
    | .value => decide (wh = .new)
    | .load => decide (wh = .new) && !s
    | .both => decide (wh = .old) || (decide (wh = .new) && !s)
    | .old => decide (wh = .old)
theorem kwS_inj {a b : Kw} : kwS a = kwS b ↔ a = b := by cases a <;> cases b <;> decide +kernel
theorem strOk_kw (t : Kw) : PyData.strOk (kwS t) = true := by cases t <;> decide +kernel
instance : Cd Kw where
  enc := kwD
  nod _ := rfl
  imm _ := rfl
  lay c := by simp only [kwD, toPy, PyData.canLay0]; exact strOk_kw c
  dep _ := Nat.zero_le _
  eqv a b := by
    simp only [kwD, toPy, PyData.eqv]
    rw [Bool.eq_iff_iff, beq_iff_eq, decide_eq_true_eq, kwS_inj]
instance : Cd (Option Bool) where
  enc := sttD
  nod a := by cases a <;> rfl
  imm a := by cases a <;> rfl
  lay a := by
    cases a with
    | none => rfl
    | some s => simp only [sttD, toPy, PyData.canLay0]; exact strOk_ph s
  dep a := by cases a <;> exact Nat.zero_le _
  eqv a b := by
    cases a <;> cases b <;> simp only [sttD, toPy, PyData.eqv]
    · rfl
    · rfl
    · rfl
    · rw [Bool.eq_iff_iff, beq_iff_eq, decide_eq_true_eq, Option.some.injEq, phS_inj]
section
variable {X : Cx} {st : Option Bool} {s : Bool} {k : Kw} {t : Wd}
/-- state in (None, mark[1]) -/
theorem o_stIn (hu : X.A.units + 65 < cLine) : Op2 X (compareOp .In) (sttD st) (.tup [.non, .str (phS s)]) (.bl (decide (st ∈ [none, some s]))) := Eq.mp (congrArg (fun b => Op2 X (compareOp .In) (sttD st) (.tup [.non, .str (phS s)]) (.bl b)) (decide_eq_decide.mpr Iff.rfl)) (o_inTE (α := Option Bool) (a := st) (xs := [none, some s]) hu)
theorem o_kwNi (hu : X.A.units + 65 < cLine) : Op2 X (compareOp .NotIn) (kwD k) (.tup [.str "value", .str "holder", .str "old", .str "both", .str "load"]) (.bl (!decide (k ∈ [Kw.value, .holder, .old, .both, .load]))) := o_notInTE (α := Kw) (xs := [.value, .holder, .old, .both, .load]) hu
theorem o_kwIn (hu : X.A.units + 65 < cLine) : Op2 X (compareOp .In) (kwD k) (.tup [.str "value", .str "holder"]) (.bl (decide (k ∈ [Kw.value, .holder]))) := o_inTE (α := Kw) (xs := [.value, .holder]) hu
theorem o_wdNi (hu : X.A.units + 65 < cLine) : Op2 X (compareOp .NotIn) (wdD t) (.tup ([Wd.clean, .covered, .direct, .safe, .strong, .weak].map wdD)) (.bl (!decide (t ∈ [Wd.clean, .covered, .direct, .safe, .strong, .weak]))) := o_notInTE (α := Wd) hu
variable {rest : List Stmt} {e : Env'} {o : Out} {ex : Expr} {d : D} {pos : Pos}
theorem sx_expr (h : EX X ex (rd e) d) (hs : swapsWith ex none pos.line X.env = pure false) (r : SX X rest e o) : SX X (.Expr ex pos :: rest) e o := by
  refine sx_cons (.mk fun C => ⟨C, fun L A σ H E dm nd nl ow q => ?_⟩) r
  refine w1_of (ps_expr (pe_w X ex) hs) ?_
  refine h C L σ H _ dm (ow_rd nl ow) fun v H1 s iv => ?_
  exact q A σ H1 (Same.fram s) nd (fun a ha => .inl ha) (ow.mono (hid_mono s) fun a _ o h => s a o h)
end
section
variable {P : Program} {w : World} {K : PySem.W.Frag} {mg : Str → Option Value} {base : Heap} {x qual : Str} {st : Stmt} {f : Addr} {fd : FuncData} {N ps : List Str} {k : Nat}
theorem def_u {pre : List D → D → Prop} (F : Fun K x qual st f fd) (S : Sc N ps st) (hl : ∀ ds d, pre ds d → ds.length = ps.length) (h0 : ∀ ds d, pre ds d → d = .non)
    (h : ∀ (cdv : Value) (A : Around) (outer : List Env) (s : Shared) (H : Hp) (E : XK), Room k (A.deeper (envOfC qual (defScope st) s.heap.objs.size f cdv)) →
      ∀ ds d, pre ds d → ∃ e, SX (Bdy P w K mg base N qual (defScope st) f cdv A outer s H E) (defBody st) (st0 N ds) (.nx e)) :
    FnOk P w K mg base CX0 (k + 1) f fd ps (spD K pre) := by
  refine fn_core F S.fn S.dbg (fun vs H Q E ⟨L, ds, d, hp, dm, i, q⟩ => by rw [i.length]; exact hl ds d hp) fun cdv A outer s H vs Q E hr ⟨L, ds, d, hp, dm, i, q⟩ => ?_
  obtain ⟨e, b⟩ := h cdv A outer s H E hr ds d hp
  have hd := h0 ds d hp
  subst hd
  exact ⟨L, ds, .nx e, hl ds _ hp, dm, i, fun A' σ H' f _ _ _ => q .non H' (fun a o h => f a o (by simp) h) .non, by rw [start_st0]; exact b⟩
end
end SB
namespace SB
set_option maxRecDepth 100000
open PySem PySem.Spec PyProof.Rows L2
/-! ### dicts of the module -/
def GDs (K : PySem.W.Frag) (w : World) (mg : Str → Option Value) (x z : Str) (d : D) : Prop := ∃ a v, mg x = some (.ref a) ∧ KDct K w a z v ∧ Is K (fun _ => none) v d
def GDi (K : PySem.W.Frag) (w : World) (mg : Str → Option Value) (x z : Str) (b : Bool) : Prop := ∃ a es n r, mg x = some (.ref a) ∧ KDict K w a es n ∧ PySem.W.nsIn K a z = some r ∧ r.isSome = b
def bnum (b : Bool) : Int := bif b then 1 else 0
def GDb (K : PySem.W.Frag) (w : World) (mg : Str → Option Value) (x : Str) (b : Bool) (d : D) : Prop := ∃ a es n v u, mg x = some (.ref a) ∧ K.lookup a = some ⟨.type "dict", none, .dict es n, #[]⟩ ∧
  (∀ e ∈ es, ∃ c, e.key = .bool c ∧ e.hash = (Leaf.num (bnum c)).key.hash w) ∧ findBy Leaf.isOf es (.num (bnum b)) = some u ∧ RelV v u ∧ Is K (fun _ => none) v d
section
variable {X : Cx} {x z : Str} {d : D} {i : Expr} {r : Rho} {p pos : Pos} {b : Bool}
theorem ex_gds (h : GDs X.K X.w X.mg x z d) (hg : Gl X x) (hdb : (x == ("__debug__" : Str)) = false) (hi : EX X i r (.str z)) (hs : PlainIx i) : EX X (.Subscript (.Name x p) i pos) r d := by
  constructor
  intro C L σ H Q dm I q
  obtain ⟨a, v, hm, hk, iv⟩ := h
  refine we_of (pe_ix ix_kdict (pe_glob (v := .ref a) hg hm rfl hdb) (pe_w X i) hs) ?_
  refine hi C L σ H _ dm I fun u H1 s1 i1 => ?_
  exact ⟨a, z, v, rfl, is_str i1, hk, q v H1 s1 (iv.mono fun b o e => (by cases e))⟩
/-- z in a dict of the module -/
theorem ex_gdi (h : GDi X.K X.w X.mg x z b) (hg : Gl X x) (hdb : (x == ("__debug__" : Str)) = false) (hi : EX X i r (.str z)) (hm : behindInMarks .In (.Name x p) = false) : TX X (.Compare i [.In] [.Name x p] pos) r b := by
  constructor
  intro C L σ H Q dm I q
  obtain ⟨a, es, n, o, hmg, hk, ho, hb⟩ := h
  refine wt_of (pt_cmpR (op_in_kd hk) (pe_w X i) (pe_glob (v := .ref a) hg hmg rfl hdb) hm) ?_
  refine hi C L σ H _ dm I fun u H1 s1 i1 => ?_
  exact ⟨z, o, is_str i1, rfl, ho, o.isSome, rfl, hb ▸ q H1 s1⟩
def rIxB (K : PySem.W.Frag) (w : World) : R2 := fun x y H Q => ∃ a b es n v u, x = .ref a ∧ y = .bl b ∧ K.lookup a = some ⟨.type "dict", none, .dict es n, #[]⟩ ∧ (∀ e ∈ es, ∃ c, e.key = .bool c ∧ e.hash = (Leaf.num (bnum c)).key.hash w) ∧ findBy Leaf.isOf es (.num (bnum b)) = some u ∧ RelV v u ∧ Q v H
theorem leaf_b (P : Program) (w : World) (c : Bool) : (leafKind P w).is (.num (bnum c)) (.bool c) = true := by cases c <;> rfl
theorem ix_kbool : IxR X (rIxB X.K X.w) := by
  intro value slice pins s σ H x y v u Q I rx ry h hs
  obtain ⟨a, b, es, n, vv, uu, rfl, rfl, hl, he, hf, ru, q⟩ := h
  obtain rfl : v = Value.ref a := rx
  obtain rfl : u = Value.bool b := ry
  have hm : s.heap.MapOf (leafKind X.prog X.w) a (fun k => findBy Leaf.isOf es k) := by
    refine ⟨_, es, n, I.kIn a _ hl, ⟨rfl, rfl, rfl⟩, rfl, fun e hm => ?_, fun _ => rfl⟩
    obtain ⟨c, h1, h2⟩ := he e hm
    exact ⟨.num (bnum c), by rw [h1]; exact leaf_b _ _ c, h2⟩
  exact tail_any hm.typeIs slot_dict_getitem.lookup (wpAny_getItem_of (leaf_b X.prog X.w b) hm hf ⟨vv, H, I.tok _, ru, q⟩) hs
theorem ex_gdb (h : GDb X.K X.w X.mg x b d) (hg : Gl X x) (hdb : (x == ("__debug__" : Str)) = false) (hi : EX X i r (.bl b)) (hs : PlainIx i) : EX X (.Subscript (.Name x p) i pos) r d := by
  constructor
  intro C L σ H Q dm I q
  obtain ⟨a, es, n, v, u, hm, hl, he, hf, ru, iv⟩ := h
  refine we_of (pe_ix ix_kbool (pe_glob (v := .ref a) hg hm rfl hdb) (pe_w X i) hs) ?_
  refine hi C L σ H _ dm I fun y H1 s1 i1 => ?_
  exact ⟨a, b, es, n, v, u, rfl, is_bl i1, hl, he, hf, ru, q v H1 s1 (iv.mono fun b o e => (by cases e))⟩
end
end SB
namespace SB
set_option maxRecDepth 100000
open PySem PySem.Spec PyProof.Rows L2
/-! ### gaps -/
inductive Gap where
  | newWhite | loadGrey | loadWhite | loadBlack | byUn | overWhite | bySc | cutGrey | cutWhite
  deriving DecidableEq
def gapS : Gap → Str
  | .newWhite => "new_white"
  | .loadGrey => "load_grey"
  | .loadWhite => "load_white"
  | .loadBlack => "load_black"
  | .byUn => "by_unscanned"
  | .overWhite => "by_unscanned_over_white"
  | .bySc => "by_scanned"
  | .cutGrey => "cut_grey"
  | .cutWhite => "cut_white"
@[reducible] def gapD (g : Gap) : D := .str (gapS g)
@[reducible] def gapK (g : Gap) : Key := .inr (gapS g)
abbrev gaps9 : List Gap := [.newWhite, .loadGrey, .loadWhite, .loadBlack, .byUn, .overWhite, .bySc, .cutGrey, .cutWhite]
theorem gapS_inj {a b : Gap} : gapS a = gapS b ↔ a = b := by cases a <;> cases b <;> decide +kernel
theorem gapK_inj {a b : Gap} : gapK a = gapK b ↔ a = b := by
  show (Sum.inr (gapS a) : Key) = Sum.inr (gapS b) ↔ _
  rw [Sum.inr.injEq]; exact gapS_inj
theorem strOk_gap (t : Gap) : PyData.strOk (gapS t) = true := by cases t <;> decide +kernel
instance : Cd Gap where
  enc := gapD
  nod _ := rfl
  imm _ := rfl
  lay c := by simp only [gapD, toPy, PyData.canLay0]; exact strOk_gap c
  dep _ := Nat.zero_le _
  eqv a b := by
    simp only [gapD, toPy, PyData.eqv]
    rw [Bool.eq_iff_iff, beq_iff_eq, decide_eq_true_eq, gapS_inj]
def into (s : Bool) (o : Option Col) : List Mk := [Who.new, .holder].map fun wh => Mk.store s .black o (some .white) wh
abbrev newVs : List (Option Col) := [none, some .grey, some .black, some .white]
abbrev oldVs : List (Option Col) := [none, some .grey, some .black]
def cutMs (h : Col) : List Mk := [true, false].flatMap fun s => newVs.map fun n => Mk.store s h (some .white) n .old
def closeG : Gap → List (List Mk)
  | .newWhite => [[.new true]]
  | .loadGrey => [[.load true .grey]]
  | .loadWhite => [[.load true .white]]
  | .loadBlack => [[.load true .black]]
  | .overWhite => [into false (some .white)]
  | .cutGrey => (cutMs .grey).map fun m => [m]
  | .cutWhite => (cutMs .white).map fun m => [m]
  | .bySc => oldVs.map (into true)
  | .byUn => oldVs.map (into false)
@[reducible] def mksD (l : List Mk) : D := .tup (l.map mkD)
def openM (T : List Mk) (g : Gap) : List (List Mk) := (closeG g).filter fun l => !(l.any fun m => decide (m ∈ T))
def openG (T : List Mk) (g : Gap) : Bool := !decide (openM T g = [])
def ways (b : Bool) : Wd → List (List Gap × Int)
  | .clean => [([.newWhite], 1), ([.loadGrey], 1), ([.byUn, .loadBlack], 2)]
  | .covered => [([.newWhite], 1), ([.loadGrey, .cutGrey], 2), ([.byUn, .loadBlack], 2), ([.loadGrey, .loadWhite, .cutWhite], 3), ([.loadGrey, .bySc, .overWhite, .loadBlack], 4)]
  | .direct => [([.newWhite], 1), ([.loadGrey, .cutGrey], 2), ([.loadGrey, .loadWhite], 2), ([.byUn, .loadBlack], 2), ([.loadGrey, .bySc, .overWhite, .loadBlack], 4)]
  | .strong => [([.byUn], 1), ([.newWhite, .bySc], 2), ([.loadGrey, .bySc], 2)]
  | .weak => [([.byUn], 1), ([.newWhite, .bySc], 2), ([.loadGrey, .bySc, .cutGrey], 3), ([.loadGrey, .bySc, .overWhite], 3), ([.loadGrey, .loadWhite, .bySc, .cutWhite], 4)]
  | .safe => bif b then [([.byUn], 2), ([.newWhite, .bySc], 3), ([.loadGrey, .bySc, .cutGrey], 4), ([.loadGrey, .bySc, .overWhite], 4), ([.loadGrey, .loadWhite, .bySc, .cutWhite], 5)]
    else [([.newWhite], 1), ([.byUn], 2), ([.loadGrey, .cutGrey], 2), ([.loadGrey, .loadWhite, .cutWhite], 3), ([.loadGrey, .bySc, .overWhite], 4)]
@[reducible] def wayD (p : List Gap × Int) : D := .tup [.tup (p.1.map gapD), .int p.2]
@[reducible] def gapsDk (o : Gap → Bool) : D := .dk (gaps9.map gapK) (gaps9.map fun g => D.bl (o g))
def breaksF (o : Gap → Bool) (b : Bool) (t : Wd) : Bool := (ways b t).any fun p => p.1.all o
def holdsF (T : List Mk) (b : Bool) (t : Wd) : Bool := !breaksF (openG T) b t
theorem look_gap (v : Gap → D) (g : Gap) : lookD (gaps9.map gapK) (gaps9.map v) (gapK g) = some (v g) := by
  have e : ∀ (l : List Gap), g ∈ l → lookD (l.map gapK) (l.map v) (gapK g) = some (v g) := by
    intro l
    induction l with
    | nil => exact fun h => by simp at h
    | cons a l ih =>
      intro h
      rw [List.map_cons, List.map_cons, lookD]
      by_cases q : a = g
      · rw [q, if_pos rfl]
      · rw [if_neg (fun z => q (gapK_inj.mp z))]
        exact ih ((List.mem_cons.mp h).resolve_left fun z => q z.symm)
  exact e gaps9 (by cases g <;> decide)
theorem depth_mks (l : List Mk) : (toPy (mksD l)).depth ≤ 2 := by
  simp only [mksD, toPy, PyData.depth]
  exact Nat.succ_le_succ (depL_map (f := mkD) (n := 1) (fun m => Cd.dep (α := Mk) m) l)
section
variable {X : Cx}
/-- x != [], x a list of tuples of marks -/
theorem o_neMks {ls : List (List Mk)} (hu : X.A.units + 65 < cLine) : Op2 X (compareOp .NotEq) (.lst (ls.map mksD)) (.lst []) (.bl (!decide (ls = []))) := by
  have c1 : Cmp (.lst (ls.map mksD)) := ⟨noDkL_map (f := mksD) (fun l => noDkL_map (f := mkD) (fun m => Cd.nod (α := Mk) m) l) ls, by
    unfold SeqAt.shaped
    have h1 : PyData.canLayAll0 (toPyL (ls.map mksD)) = true := layL_map (f := mksD) (fun l => by simp only [mksD, toPy, PyData.canLay0]; exact layL_map (f := mkD) (fun m => Cd.lay (α := Mk) m) l) ls
    rw [toPy, PyData.canLay0, h1, Bool.true_and, decide_eq_true_eq, PyData.depth]
    exact Nat.le_trans (Nat.succ_le_succ (depL_map (f := mksD) (n := 2) depth_mks ls)) (by decide)⟩
  have h := o_neD (X := X) c1 (cmp_list (α := Nat) []) (by omega)
  have e : PyData.eqv (toPy (.lst (ls.map mksD))) (toPy (.lst (([] : List Nat).map Cd.enc))) = decide (ls = []) := by
    cases ls with
    | nil => rfl
    | cons l ls => rfl
  rw [e] at h
  exact h
end
theorem o_gapIn3 {X : Cx} {g : Gap} (hu : X.A.units + 65 < cLine) : Op2 X (compareOp .In) (gapD g) (.tup [.str "load_grey", .str "load_white", .str "load_black"]) (.bl (decide (g ∈ [Gap.loadGrey, .loadWhite, .loadBlack]))) := o_inTE (α := Gap) (xs := [.loadGrey, .loadWhite, .loadBlack]) hu
theorem ex_sls {X : Cx} {a : Expr} {r : Rho} {z z' : Str} {lo hi : Option Expr} {i j : Option Int} {p2 pos : Pos} (ha : EX X a r (.str z)) (hl : PX X lo r i) (hh : PX X hi r j) (hz : z.length ≤ sizeLine) (he : cutS z i j = z') : EX X (.Subscript a (.Slice lo hi none p2) pos) r (.str z') := he ▸ ex_slS ha hl hh hz
theorem cs_is {z z' : Str} {i j : Option Int} (h : cutS z i j = z') : cutS z i j = z' := h
end SB
namespace SB
set_option maxRecDepth 100000
open PySem PySem.Spec PyProof.Rows L2
/-! ### is a list empty? -/
theorem cmp_lstG {α : Type} {f : α → D} (nod : ∀ a, noDk (f a) = true) (lay : ∀ a, (toPy (f a)).canLay0 = true) (dep : ∀ a, (toPy (f a)).depth ≤ 2) (ls : List α) : Cmp (.lst (ls.map f)) := ⟨noDkL_map (f := f) nod ls, by
  unfold SeqAt.shaped
  have h1 : PyData.canLayAll0 (toPyL (ls.map f)) = true := layL_map (f := f) lay ls
  rw [toPy, PyData.canLay0, h1, Bool.true_and, decide_eq_true_eq, PyData.depth]
  exact Nat.le_trans (Nat.succ_le_succ (depL_map (f := f) (n := 2) dep ls)) (by decide)⟩
theorem eqv_nil {α : Type} {f : α → D} (ls : List α) : PyData.eqv (toPy (.lst (ls.map f))) (toPy (.lst (([] : List Nat).map natD))) = ls.isEmpty := by
  cases ls with
  | nil => rfl
  | cons l ls => rfl
theorem o_eqNilG {X : Cx} {α : Type} {f : α → D} {ls : List α} (nod : ∀ a, noDk (f a) = true) (lay : ∀ a, (toPy (f a)).canLay0 = true) (dep : ∀ a, (toPy (f a)).depth ≤ 2) (hu : X.A.units + 65 < cLine) : Op2 X (compareOp .Eq) (.lst (ls.map f)) (.lst []) (.bl ls.isEmpty) := by
  have h := o_eqD (X := X) (cmp_lstG nod lay dep ls) (cmp_list (α := Nat) []) (by omega)
  rw [show PyData.eqv (toPy (.lst (ls.map f))) (toPy (.lst (([] : List Nat).map Cd.enc))) = ls.isEmpty from eqv_nil ls] at h
  exact h
theorem o_neNilG {X : Cx} {α : Type} {f : α → D} {ls : List α} (nod : ∀ a, noDk (f a) = true) (lay : ∀ a, (toPy (f a)).canLay0 = true) (dep : ∀ a, (toPy (f a)).depth ≤ 2) (hu : X.A.units + 65 < cLine) : Op2 X (compareOp .NotEq) (.lst (ls.map f)) (.lst []) (.bl (!ls.isEmpty)) := by
  have h := o_neD (X := X) (cmp_lstG nod lay dep ls) (cmp_list (α := Nat) []) (by omega)
  rw [show PyData.eqv (toPy (.lst (ls.map f))) (toPy (.lst (([] : List Nat).map Cd.enc))) = ls.isEmpty from eqv_nil ls] at h
  exact h
/-! ### kinds of steps -/
inductive Kd where
  | scan | visit | new | drop | load | store
  deriving DecidableEq
def kdS : Kd → Str
  | .scan => "scan"
  | .visit => "visit"
  | .new => "new"
  | .drop => "drop"
  | .load => "load"
  | .store => "store"
@[reducible] def kdD (k : Kd) : D := .str (kdS k)
theorem kdS_inj {a b : Kd} : kdS a = kdS b ↔ a = b := by cases a <;> cases b <;> decide +kernel
theorem strOk_kd (t : Kd) : PyData.strOk (kdS t) = true := by cases t <;> decide +kernel
instance : Cd Kd where
  enc := kdD
  nod _ := rfl
  imm _ := rfl
  lay c := by simp only [kdD, toPy, PyData.canLay0]; exact strOk_kd c
  dep _ := Nat.zero_le _
  eqv a b := by
    simp only [kdD, toPy, PyData.eqv]
    rw [Bool.eq_iff_iff, beq_iff_eq, decide_eq_true_eq, kdS_inj]
def Stp.kd : Stp → Kd
  | .scan _ => .scan
  | .visit _ => .visit
  | .new _ => .new
  | .drop _ _ => .drop
  | .load _ _ _ => .load
  | .store _ _ _ _ => .store
def Stp.rest : Stp → List D
  | .scan n => [natD n]
  | .visit t => [natD t]
  | .new t => [natD t]
  | .drop t n => [natD t, natD n]
  | .load t n s => [natD t, natD n, natD s]
  | .store t n s o => [natD t, natD n, natD s, optD o]
theorem stpD_k (z : Stp) : stpD z = .tup (kdD z.kd :: z.rest) := by cases z <;> rfl
theorem nod_stp (z : Stp) : noDk (stpD z) = true := by cases z <;> simp [stpD, noDk, noDkL] <;> rename_i o <;> cases o <;> rfl
theorem nod_opt (o : Option Nat) : noDk (optD o) = true := by cases o <;> rfl
theorem lay_stp (z : Stp) : (toPy (stpD z)).canLay0 = true := by
  rw [stpD_k]
  cases z <;> simp only [Stp.kd, Stp.rest, toPy, toPyL, PyData.canLay0, PyData.canLayAll0, Bool.and_true]
  iterate 5 exact strOk_kd _
  rw [strOk_kd]
  exact Cd.lay (α := Option Nat) _
theorem dep_stp (z : Stp) : (toPy (stpD z)).depth ≤ 2 := by
  cases z <;> simp [stpD, toPy, toPyL, PyData.depth, PyData.depthAll]
  rename_i o; cases o <;> exact Nat.zero_le _
section
variable {X : Cx} {k : Kd} {zs : List Stp}
theorem o_kdSV (hu : X.A.units + 65 < cLine) : Op2 X (compareOp .In) (kdD k) (.tup [.str "scan", .str "visit"]) (.bl (decide (k ∈ [Kd.scan, .visit]))) := o_inTE (α := Kd) (xs := [.scan, .visit]) hu
theorem o_kdLS (hu : X.A.units + 65 < cLine) : Op2 X (compareOp .In) (kdD k) (.tup [.str "load", .str "store"]) (.bl (decide (k ∈ [Kd.load, .store]))) := o_inTE (α := Kd) (xs := [.load, .store]) hu
theorem o_stpEq (hu : X.A.units + 65 < cLine) : Op2 X (compareOp .Eq) (.lst (zs.map stpD)) (.lst []) (.bl zs.isEmpty) := o_eqNilG nod_stp lay_stp dep_stp hu
theorem o_stpNe (hu : X.A.units + 65 < cLine) : Op2 X (compareOp .NotEq) (.lst (zs.map stpD)) (.lst []) (.bl (!zs.isEmpty)) := o_neNilG nod_stp lay_stp dep_stp hu
end
end SB
namespace SB
set_option maxRecDepth 100000
open PySem PySem.Spec PyProof.Rows L2
/-! ### what may change: some addresses, kept to a rule that counts -/
/-- how often all in all -/
def nMax : Nat := 100000
structure Rsc where
  Z : List Addr
  Φ : Nat → Hp → Prop
  stb : ∀ {n : Nat} {H H' : Hp}, Φ n H → (∀ b o, H b = some o → (b ∈ Z ∨ ¬ Mut o) → H' b = some o) → Φ n H'
  up : ∀ {n m : Nat} {H : Hp}, n ≤ m → Φ n H → Φ m H
theorem Rsc.st (R : Rsc) {n : Nat} {H H' : Hp} (h : R.Φ n H) (s : Same H H') : R.Φ n H' := R.stb h fun b o e _ => s b o e
def FrZ (Z : List Addr) (H H' : Hp) : Prop := (∀ a o, a ∉ Z → H a = some o → H' a = some o) ∧ ∀ a, H a ≠ none → H' a ≠ none
theorem FrZ.refl (Z : List Addr) (H : Hp) : FrZ Z H H := ⟨fun _ _ _ h => h, fun _ h => h⟩
theorem FrZ.trans {Z : List Addr} {H H1 H2 : Hp} (f : FrZ Z H H1) (g : FrZ Z H1 H2) : FrZ Z H H2 := ⟨fun a o n h => g.1 a o n (f.1 a o n h), fun a h => g.2 a (f.2 a h)⟩
theorem FrZ.of {Z : List Addr} {H H1 : Hp} (s : Same H H1) : FrZ Z H H1 := ⟨fun a o _ h => s a o h, fun a h z => by
  cases q : H a with
  | none => exact h q
  | some o => rw [s a o q] at z; cases z⟩
theorem FrZ.hid {Z L : List Addr} {H H1 : Hp} (f : FrZ Z H H1) (z : ∀ a ∈ Z, a ∈ L) : Same (hid H L) (SB.hid H1 L) := fun a o h => hid_of (f.1 a o (fun q => (hid_some h).2 (z a q)) (hid_some h).1) (hid_some h).2
theorem FrZ.dom {Z L : List Addr} {H H1 : Hp} (f : FrZ Z H H1) (d : Dom L H) : Dom L H1 := fun a ha => f.2 a (d a ha)
theorem FrZ.free {Z : List Addr} {H H1 : Hp} (f : FrZ Z H H1) {p : Addr} (n : H1 p = none) : H p = none := by
  cases q : H p with
  | none => rfl
  | some o => exact absurd n (f.2 p (by rw [q]; simp))
section
variable {X : Cx} {R : Rsc} {e e' a b : Expr} {es : List Expr} {r : Rho} {d d1 d2 : D} {ds : List D} {x : Str} {pos p : Pos} {c c1 c2 : Nat} {O O' O1 O2 : D → Prop}
/-- e gives something of O; n grows by c at most -/
def NXd (R : Rsc) (X : Cx) (e : Expr) (r : Rho) (c : Nat) (O : D → Prop) : Prop := CxN X r →
  ∀ (L : List Addr) (σ : L2.St) (H : Hp) (Q : VK) (n : Nat), n + c ≤ nMax → Dom L H → (∀ a ∈ R.Z, a ∈ L) → R.Φ n H → IsE X.K (hid H L) σ r → (∀ d v H', FrZ R.Z H H' → R.Φ (n + c) H' → O d → Is X.K (hid H' L) v d → Q v H') → WE X e σ H Q
structure NX (R : Rsc) (X : Cx) (e : Expr) (r : Rho) (c : Nat) (O : D → Prop) : Prop where mk ::
  run : NXd R X e r c O
def NTd (R : Rsc) (X : Cx) (e : Expr) (r : Rho) (c : Nat) (O : Bool → Prop) : Prop := CxN X r →
  ∀ (L : List Addr) (σ : L2.St) (H : Hp) (Q : Bool → Hp → Prop) (n : Nat), n + c ≤ nMax → Dom L H → (∀ a ∈ R.Z, a ∈ L) → R.Φ n H → IsE X.K (hid H L) σ r → (∀ k H', FrZ R.Z H H' → R.Φ (n + c) H' → O k → Q k H') → WT X e σ H Q
structure NT (R : Rsc) (X : Cx) (e : Expr) (r : Rho) (c : Nat) (O : Bool → Prop) : Prop where mk ::
  run : NTd R X e r c O
def NAd (R : Rsc) (X : Cx) (es : List Expr) (r : Rho) (c : Nat) (O : List D → Prop) : Prop := CxN X r →
  ∀ (L : List Addr) (σ : L2.St) (H : Hp) (Q : List V → Hp → Prop) (n : Nat), n + c ≤ nMax → Dom L H → (∀ a ∈ R.Z, a ∈ L) → R.Φ n H → IsE X.K (hid H L) σ r → (∀ ds vs H', FrZ R.Z H H' → R.Φ (n + c) H' → O ds → IsL X.K (hid H' L) vs ds → Q vs H') → WA X es σ H Q
structure NA (R : Rsc) (X : Cx) (es : List Expr) (r : Rho) (c : Nat) (O : List D → Prop) : Prop where mk ::
  run : NAd R X es r c O
theorem nx_ex (h : EX X e r d) : NX R X e r 0 (fun x => x = d) := .mk fun C L σ H Q n hM dm z ph I q => h C L σ H Q dm I fun v H' s i => q d v H' (FrZ.of s) (R.st ph s) rfl i
theorem nx_le (h : NX R X e r c O) (hc : c ≤ c1) (ho : ∀ d, O d → O' d) : NX R X e r c1 O' := .mk fun C L σ H Q n hM dm z ph I q => h.run C L σ H Q n (by omega) dm z ph I fun d v H' f p o i => q d v H' f (R.up (by omega) p) (ho d o) i
theorem nt_tx {k : Bool} (h : TX X e r k) : NT R X e r 0 (fun x => x = k) := .mk fun C L σ H Q n hM dm z ph I q => h C L σ H Q dm I fun H' s => q k H' (FrZ.of s) (R.st ph s) rfl
theorem nt_le {O O' : Bool → Prop} (h : NT R X e r c O) (hc : c ≤ c1) (ho : ∀ d, O d → O' d) : NT R X e r c1 O' := .mk fun C L σ H Q n hM dm z ph I q => h.run C L σ H Q n (by omega) dm z ph I fun k H' f p o => q k H' f (R.up (by omega) p) (ho k o)
/-! operations, calls, items: whatever values -/
def rAll (X : Cx) (f : Value → Value → Sem Value) : R2 := fun x y H Q => ∀ (pins : List (Addr × Obj)) (s : Shared) (σ : L2.St) (v u : Value), Inv X pins σ H s → RelV x v → RelV y u → wpAny (model X.prog X.w) X.A (f v u) (EP X pins σ Q) X.xe s
theorem opr_all (f : Value → Value → Sem Value) : OpR X f (rAll X f) := fun pins s σ H x y v u Q I rx ry h => h pins s σ v u I rx ry
theorem op2_all {f : Value → Value → Sem Value} (h : Op2 X f d1 d2 d) {L : List Addr} {H : Hp} {u v : V} {Q : VK} (dm : Dom L H) (i1 : Is X.K (hid H L) u d1) (i2 : Is X.K (hid H L) v d2) (q : ∀ v H', Same H H' → Is X.K (hid H' L) v d → Q v H') : rAll X f u v H Q := by
  obtain ⟨rr, h1, h2⟩ := h
  exact fun pins s σ a b I ra rb => h1 pins s σ H u v a b Q I ra rb (h2 L H u v Q dm i1 i2 q)
def rAllC (X : Cx) (f : Value) : List V → Hp → VK → Prop := fun xs H Q => ∀ (pins : List (Addr × Obj)) (s : Shared) (σ : L2.St) (us : List Value), Inv X pins σ H s → Vals xs us → wpAny (model X.prog X.w) X.A (call f us) (EP X pins σ Q) X.xe s
theorem callr_all (f : Value) : CallR X f (rAllC X f) := fun pins s σ H xs us Q I r h => h pins s σ us I r
theorem call_all {f : Value} (h : CallD X f ds d) {L : List Addr} {H : Hp} {xs : List V} {Q : VK} (dm : Dom L H) (i1 : IsL X.K (hid H L) xs ds) (q : ∀ v H', Same H H' → Is X.K (hid H' L) v d → Q v H') : rAllC X f xs H Q := by
  obtain ⟨rr, h1, h2⟩ := h
  exact fun pins s σ us I r => h1 pins s σ H xs us Q I r (h2 L H xs Q dm i1 q)
theorem nx_bin {op : Operator} (ha : NX R X a r c1 O1) (hb : NX R X b r c2 O2) (ho : ∀ d1 d2, O1 d1 → O2 d2 → ∃ d, Op2 X (binaryOp op) d1 d2 d ∧ O d) : NX R X (.BinOp a op b pos) r (c1 + c2) O := by
  refine .mk fun C L σ H Q n hM dm z ph I q => ?_
  refine we_of (pe_op (opr_all _) (pe_w X a) (pe_w X b)) ?_
  refine ha.run C L σ H _ n (by omega) dm z ph I fun e1 u H1 f1 p1 o1 i1 => hb.run C L σ H1 _ _ (by omega) (f1.dom dm) z p1 (I.mono (f1.hid z)) fun e2 v H2 f2 p2 o2 i2 => ?_
  obtain ⟨d, op, o⟩ := ho e1 e2 o1 o2
  have dm2 := f2.dom (f1.dom dm)
  exact op2_all op dm2 (i1.mono (f2.hid z)) i2 fun w H3 s3 i3 => q d w H3 ((f1.trans f2).trans (FrZ.of s3)) (R.up (by omega) (R.st p2 s3)) o i3
theorem nx_cmp {op : CmpOp} (ha : NX R X a r c1 O1) (hb : NX R X b r c2 O2) (hm : behindInMarks op b = false) (ho : ∀ d1 d2, O1 d1 → O2 d2 → ∃ d, Op2 X (compareOp op) d1 d2 d ∧ O d) : NX R X (.Compare a [op] [b] pos) r (c1 + c2) O := by
  refine .mk fun C L σ H Q n hM dm z ph I q => ?_
  refine we_of (pe_cmpR (opr_all _) (pe_w X a) (pe_w X b) hm) ?_
  refine ha.run C L σ H _ n (by omega) dm z ph I fun e1 u H1 f1 p1 o1 i1 => hb.run C L σ H1 _ _ (by omega) (f1.dom dm) z p1 (I.mono (f1.hid z)) fun e2 v H2 f2 p2 o2 i2 => ?_
  obtain ⟨d, op, o⟩ := ho e1 e2 o1 o2
  have dm2 := f2.dom (f1.dom dm)
  exact op2_all op dm2 (i1.mono (f2.hid z)) i2 fun w H3 s3 i3 => q d w H3 ((f1.trans f2).trans (FrZ.of s3)) (R.up (by omega) (R.st p2 s3)) o i3
theorem nt_val {B : Bool → Prop} (h : NX R X e r c (fun d => ∃ k, d = .bl k ∧ B k)) (he : ∀ whole, isTrue e X.env whole = (do let v ← whole; standAt e.pos; holding [v] (truthy v))) : NT R X e r c B := by
  refine .mk fun C L σ H Q n hM dm z ph I q => ?_
  refine wt_of (pt_val (pe_w X e) he) ?_
  refine h.run C L σ H _ n (by omega) dm z ph I fun d v H1 f1 p1 o1 i1 => ?_
  obtain ⟨k, rfl, hk⟩ := o1
  exact ⟨k, is_bl i1, q k H1 f1 p1 hk⟩
theorem nt_cmp {op : CmpOp} {B : Bool → Prop} (ha : NX R X a r c1 O1) (hb : NX R X b r c2 O2) (hm : behindInMarks op b = false) (ho : ∀ d1 d2, O1 d1 → O2 d2 → ∃ k, Op2 X (compareOp op) d1 d2 (.bl k) ∧ B k) : NT R X (.Compare a [op] [b] pos) r (c1 + c2) B := by
  refine .mk fun C L σ H Q n hM dm z ph I q => ?_
  refine wt_of (pt_cmpR (opr_all _) (pe_w X a) (pe_w X b) hm) ?_
  refine ha.run C L σ H _ n (by omega) dm z ph I fun e1 u H1 f1 p1 o1 i1 => hb.run C L σ H1 _ _ (by omega) (f1.dom dm) z p1 (I.mono (f1.hid z)) fun e2 v H2 f2 p2 o2 i2 => ?_
  obtain ⟨k, op, o⟩ := ho e1 e2 o1 o2
  have dm2 := f2.dom (f1.dom dm)
  exact op2_all op dm2 (i1.mono (f2.hid z)) i2 fun w H3 s3 i3 => ⟨k, is_bl i3, q k H3 ((f1.trans f2).trans (FrZ.of s3)) (R.up (by omega) (R.st p2 s3)) o⟩
theorem nt_not {B : Bool → Prop} (h : NT R X e r c B) : NT R X (.UnaryOp .Not e pos) r c (fun k => B (!k)) := by
  refine .mk fun C L σ H Q n hM dm z ph I q => ?_
  refine wt_of (pt_not (pt_w X e)) ?_
  exact h.run C L σ H _ n (by omega) dm z ph I fun k H1 f1 p1 o1 => q (!k) H1 f1 p1 (by rw [Bool.not_not]; exact o1)
/-- a or b as a test -/
theorem nt_or {B B1 B2 : Bool → Prop} (ha : NT R X a r c1 B1) (hb : NT R X b r c2 B2) (ho : (B1 true → B true) ∧ ∀ k, B1 false → B2 k → B k) : NT R X (.BoolOp .Or [a, b] pos) r (c1 + c2) B := by
  refine .mk fun C L σ H Q n hM dm z ph I q => ?_
  intro pins s J
  refine (pw_or (pt_w X a) (pw_w X _)).run _ pins s σ H Q J ?_
  refine ha.run C L σ H _ n (by omega) dm z ph I fun k H1 f1 p1 o1 => ?_
  cases k with
  | true => exact q true H1 f1 (R.up (by omega) p1) (ho.1 o1)
  | false =>
    intro wh2 pins s J
    refine (pw_or1 (pt_w X b)).run wh2 pins s σ H1 Q J ?_
    exact hb.run C L σ H1 _ _ (by omega) (f1.dom dm) z p1 (I.mono (f1.hid z)) fun k H2 f2 p2 o2 => q k H2 (f1.trans f2) (R.up (by omega) p2) (ho.2 k o1 o2)
/-- a and b as a value -/
theorem nx_and {k1 : Bool} {B : Bool → Prop} (ha : EX X a r (.bl k1)) (hb : k1 = true → NX R X b r c (fun d => ∃ k, d = .bl k ∧ B k)) (h0 : k1 = false → B false) : NX R X (.BoolOp .And [a, b] pos) r c (fun d => ∃ k, d = .bl k ∧ B k) := by
  refine .mk fun C L σ H Q n hM dm z ph I q => ?_
  refine we_of (pe_and (pe_w X a) (pe_w X _)) ?_
  refine ha C L σ H _ dm I fun v H1 s1 i1 => ⟨k1, is_bl i1, ?_⟩
  cases k1 with
  | false => exact q _ _ H1 (FrZ.of s1) (R.up (by omega) (R.st ph s1)) ⟨false, rfl, h0 rfl⟩ (.bl _)
  | true =>
    refine we_of (pe_one (pe_w X b)) ?_
    exact (hb rfl).run C L σ H1 Q n (by omega) (dm.mono s1) z (R.st ph s1) (I.mono (hid_mono s1)) fun d v H2 f2 p2 o2 i2 => q d v H2 ((FrZ.of s1).trans f2) p2 o2 i2
theorem na_nil : NA R X [] r 0 (fun ds => ds = []) := .mk fun C L σ H Q n hM dm z ph I q => wa_of pa_nil (q [] [] H (FrZ.refl _ _) ph rfl .nil)
theorem na_cons {OL OL' : List D → Prop} (h : NX R X e r c1 O1) (t : NA R X es r c2 OL) (hs : starEach (e :: es) X.env = (false, eval e X.env) :: starEach es X.env) (ho : ∀ d ds, O1 d → OL ds → OL' (d :: ds)) : NA R X (e :: es) r (c1 + c2) OL' := by
  refine .mk fun C L σ H Q n hM dm z ph I q => ?_
  refine wa_of (pa_cons (pe_w X e) (pa_w X es) hs) ?_
  refine h.run C L σ H _ n (by omega) dm z ph I fun d v H1 f1 p1 o1 i1 => t.run C L σ H1 _ _ (by omega) (f1.dom dm) z p1 (I.mono (f1.hid z)) fun ds vs H2 f2 p2 o2 i2 => ?_
  exact q (d :: ds) _ H2 (f1.trans f2) (R.up (by omega) p2) (ho d ds o1 o2) (.cons (i1.mono (f2.hid z)) i2)
theorem na_ax (h : AX X es r ds) : NA R X es r 0 (fun x => x = ds) := .mk fun C L σ H Q n hM dm z ph I q => h C L σ H Q dm I fun vs H' s i => q ds vs H' (FrZ.of s) (R.st ph s) rfl i
theorem nx_tup {k : Nat} {OL : List D → Prop} (h : NA R X es r c OL) (ho : ∀ ds, OL ds → ds.length ≤ sizeLine ∧ O (.tup ds)) : NX R X (.Tuple es k pos) r c O := by
  refine .mk fun C L σ H Q n hM dm z ph I q => ?_
  refine we_of (pe_tup (pa_w X es)) ?_
  refine h.run C L σ H _ n (by omega) dm z ph I fun ds vs H1 f1 p1 o1 i1 => ⟨by rw [i1.length]; exact (ho ds o1).1, fun t ht => ?_⟩
  have s2 : Same H1 (upd H1 t (.tup vs)) := same_new ht
  exact q (.tup ds) _ _ (f1.trans (FrZ.of s2)) (R.st p1 s2) (ho ds o1).2 (.tup (.inl (.inl (is_new (K := X.K) (f1.dom dm) ht))) (i1.mono (hid_mono s2)))
/-- xs[e] -/
theorem nx_ix {dd : D} (ha : EX X a r dd) (hb : NX R X b r c O2) (hs : PlainIx b) (ho : ∀ d2, O2 d2 → ∃ ds i d, SeqD dd ds ∧ d2 = .int i ∧ atI ds i = some d ∧ O d) : NX R X (.Subscript a b pos) r c O := by
  refine .mk fun C L σ H Q n hM dm z ph I q => ?_
  by_cases ht : ∃ ds, dd = .tup ds
  · obtain ⟨ds0, rfl⟩ := ht
    refine we_of (pe_ix L2.ix_tup (pe_w X a) (pe_w X b) hs) ?_
    refine ha C L σ H _ dm I fun v H1 s1 i1 => hb.run C L σ H1 _ n (by omega) (dm.mono s1) z (R.st ph s1) (I.mono (hid_mono s1)) fun d2 u H2 f2 p2 o2 i2 => ?_
    obtain ⟨ds, i, d, sq, rfl, hi, o⟩ := ho d2 o2
    rcases sq with e | e
    · cases e
      obtain ⟨p, xs, rfl, hp, l⟩ := is_tup (i1.mono (f2.hid z))
      obtain ⟨j, hj, hx⟩ := atI_len l.length hi
      obtain ⟨x, hxj, ix⟩ := l.get hj
      exact ⟨p, xs, i, x, rfl, is_int i2, same_t hid_sub hp, hx x hxj, q d x H2 ((FrZ.of s1).trans f2) p2 o ix⟩
    · cases e
  · refine we_of (pe_ix L2.ix_list (pe_w X a) (pe_w X b) hs) ?_
    refine ha C L σ H _ dm I fun v H1 s1 i1 => hb.run C L σ H1 _ n (by omega) (dm.mono s1) z (R.st ph s1) (I.mono (hid_mono s1)) fun d2 u H2 f2 p2 o2 i2 => ?_
    obtain ⟨ds, i, d, sq, rfl, hi, o⟩ := ho d2 o2
    rcases sq with e | e
    · exact absurd ⟨ds, e⟩ ht
    · subst e
      obtain ⟨p, xs, rfl, hp, l⟩ := is_lst (i1.mono (f2.hid z))
      obtain ⟨j, hj, hx⟩ := atI_len l.length hi
      obtain ⟨x, hxj, ix⟩ := l.get hj
      exact ⟨p, xs, i, x, rfl, is_int i2, .inl (.inl (hid_sub _ _ hp)), hx x hxj, q d x H2 ((FrZ.of s1).trans f2) p2 o ix⟩
/-- item 1 of what comes -/
theorem nx_ixp {i : Int} (ha : NX R X a r c O1) (hb : EX X b r (.int i)) (hs : PlainIx b) (ho : ∀ d1, O1 d1 → ∃ ds d, d1 = .tup ds ∧ atI ds i = some d ∧ O d) : NX R X (.Subscript a b pos) r c O := by
  refine .mk fun C L σ H Q n hM dm z ph I q => ?_
  refine we_of (pe_ix L2.ix_tup (pe_w X a) (pe_w X b) hs) ?_
  refine ha.run C L σ H _ n (by omega) dm z ph I fun d1 v H1 f1 p1 o1 i1 => hb C L σ H1 _ (f1.dom dm) (I.mono (f1.hid z)) fun u H2 s2 i2 => ?_
  obtain ⟨ds, d, rfl, hi, o⟩ := ho d1 o1
  obtain ⟨p, xs, rfl, hp, l⟩ := is_tup (i1.mono (hid_mono s2))
  obtain ⟨j, hj, hx⟩ := atI_len l.length hi
  obtain ⟨x, hxj, ix⟩ := l.get hj
  exact ⟨p, xs, i, x, rfl, is_int i2, same_t hid_sub hp, hx x hxj, q d x H2 (f1.trans (FrZ.of s2)) (R.st p1 s2) o ix⟩
/-- what a def with effects promises -/
def spN (K : PySem.W.Frag) (pre : Rsc → List D → Nat → (D → Prop) → Prop) : Sp := fun vs H Q _ => ∃ (R : Rsc) (L : List Addr) (ds : List D) (c : Nat) (O : D → Prop) (n : Nat), pre R ds c O ∧ n + c ≤ nMax ∧ Dom L H ∧ (∀ a ∈ R.Z, a ∈ L) ∧ R.Φ n H ∧ IsL K (hid H L) vs ds ∧
  ∀ d v H', FrZ R.Z H H' → R.Φ (n + c) H' → O d → Is K (hid H' L) v d → Q v H'
theorem nx_call {k : Nat} {OL : List D → Prop} {pre : Rsc → List D → Nat → (D → Prop) → Prop} (cl : Cal X.prog X.w X.K X.mg X.base k x (spN X.K pre)) (hr : Room k X.A) (ha : NA R X (e :: es) r c1 OL) (hp : ∀ ds, OL ds → ∃ O1, pre R ds c2 O1 ∧ ∀ d, O1 d → O d) (hg : Gl X x) (hdb : (x == ("__debug__" : Str)) = false)
    (he : starEach (e :: es) X.env = (false, eval e X.env) :: starEach es X.env) (hpl : (backTo pos (starEach es X.env)).any (·.1) = false) : NX R X (.Call (.Name x p) (e :: es) [] pos) r (c1 + c2) O := by
  refine .mk fun C L σ H Q n hM dm z ph I q => ?_
  obtain ⟨f, fd, ps, F, hm, hk, hb⟩ := cl.ex
  refine we_of (pe_call F hr hg hm hk hb .nil pass0 (pa_w X (e :: es)) hdb he hpl) ?_
  refine ha.run C L σ H _ n (by omega) dm z ph I fun ds vs H1 f1 p1 o1 i1 => ?_
  rw [List.append_nil]
  obtain ⟨O1, h1, h2⟩ := hp ds o1
  exact ⟨R, L, ds, c2, O1, n + c1, h1, by omega, f1.dom dm, z, p1, i1, fun d v H2 f2 p2 o2 i2 => q d v H2 (f1.trans f2) (R.up (by omega) p2) (h2 d o2) i2⟩
/-- a pure def, its arguments with effects -/
theorem nx_callP {k : Nat} {OL : List D → Prop} {pre : List D → D → Prop} (cl : Cal X.prog X.w X.K X.mg X.base k x (spD X.K pre)) (hr : Room k X.A) (ha : NA R X (e :: es) r c OL) (hp : ∀ ds, OL ds → ∃ d, pre ds d ∧ O d) (hg : Gl X x) (hdb : (x == ("__debug__" : Str)) = false)
    (he : starEach (e :: es) X.env = (false, eval e X.env) :: starEach es X.env) (hpl : (backTo pos (starEach es X.env)).any (·.1) = false) : NX R X (.Call (.Name x p) (e :: es) [] pos) r c O := by
  refine .mk fun C L σ H Q n hM dm z ph I q => ?_
  obtain ⟨f, fd, ps, F, hm, hk, hb⟩ := cl.ex
  refine we_of (pe_call F hr hg hm hk hb .nil pass0 (pa_w X (e :: es)) hdb he hpl) ?_
  refine ha.run C L σ H _ n (by omega) dm z ph I fun ds vs H1 f1 p1 o1 i1 => ?_
  rw [List.append_nil]
  obtain ⟨d, h1, h2⟩ := hp ds o1
  exact ⟨L, ds, d, h1, f1.dom dm, i1, fun v H2 s2 i2 => q d v H2 (f1.trans (FrZ.of s2)) (R.st p1 s2) h2 i2⟩
theorem nx_callTy {T : String} {OL : List D → Prop} (ha : NA R X (e :: es) r c OL) (hc : ∀ ds, OL ds → ∃ d, CallD X (.type T) ds d ∧ O d) (hg : Gl X x) (hm : X.mg x = none) (hv : bootBuiltins x = some (.type T)) (hn : x ≠ "__name__") (hdb : (x == ("__debug__" : Str)) = false)
    (he : starEach (e :: es) X.env = (false, eval e X.env) :: starEach es X.env) (hpl : (backTo pos (starEach es X.env)).any (·.1) = false) : NX R X (.Call (.Name x p) (e :: es) [] pos) r c O := by
  refine .mk fun C L σ H Q n hM dm z ph I q => ?_
  refine we_of (pe_callTy (callr_all _) hg hm hv (pa_w X (e :: es)) hn hdb he hpl) ?_
  refine ha.run C L σ H _ n (by omega) dm z ph I fun ds vs H1 f1 p1 o1 i1 => ?_
  obtain ⟨d, h1, h2⟩ := hc ds o1
  exact call_all h1 (f1.dom dm) i1 fun v H2 s2 i2 => q d v H2 (f1.trans (FrZ.of s2)) (R.st p1 s2) h2 i2
end
end SB
namespace SB
set_option maxRecDepth 100000
open PySem PySem.Spec PyProof.Rows L2
/-! ### comprehensions with effects -/
inductive All2 {α β : Type} (p : α → β → Prop) : List α → List β → Prop
  | nil : All2 p [] []
  | cons {a : α} {b : β} {as : List α} {bs : List β} : p a b → All2 p as bs → All2 p (a :: as) (b :: bs)
theorem All2.snoc {α β : Type} {p : α → β → Prop} {a : α} {b : β} (h : p a b) : ∀ {as : List α} {bs : List β}, All2 p as bs → All2 p (as ++ [a]) (bs ++ [b])
  | _, _, .nil => .cons h .nil
  | _, _, .cons x t => .cons x (All2.snoc h t)
theorem All2.len {α β : Type} {p : α → β → Prop} : ∀ {as : List α} {bs : List β}, All2 p as bs → as.length = bs.length
  | _, _, .nil => rfl
  | _, _, .cons _ t => by rw [List.length_cons, List.length_cons, All2.len t]
theorem frz_put {Z : List Addr} {H H6 : Hp} {p : Addr} {o : HO} (f : FrZ Z H H6) (n : H p = none) : FrZ Z H (upd H6 p o) := ⟨fun a q nz h => by
  have ha : a ≠ p := ne_of_none h n
  rw [upd_ne ha]; exact f.1 a q nz h, fun a h => by
  by_cases e : a = p
  · rw [e] at h; exact absurd n h
  · rw [upd_ne e]; exact f.2 a h⟩
theorem mut_lst {xs : List V} : Mut (.lst xs) := .inl ⟨xs, rfl⟩
theorem Rsc.put (R : Rsc) {n : Nat} {H : Hp} {p : Addr} {o : HO} (h : R.Φ n H) (hp : H p = some o) (m : Mut o) (z : p ∉ R.Z) (o' : HO) : R.Φ n (upd H p o') := R.stb h fun b q e c => by
  have hb : b ≠ p := fun w => by
    subst w
    rw [hp] at e
    cases e
    rcases c with c | c
    · exact z c
    · exact c m
  rw [upd_ne hb]; exact e
section
variable {X : Cx} {R : Rsc} {elt tg iter t : Expr} {scope sc : Scope} {N : List Str} {r rw_ : Rho} {own : List (Str × Nat)} {pos : Pos}
theorem lcE_run {α : Type} (own : List (Str × Nat)) (N : List Str) (sc : Scope) (zs : List α) (f : α → D) (out : α → D → Prop) (c : Nat) (hi : IX X tg iter r (zs.map f)) (hN : X.N = N) (hsc : X.env.scope = sc) (hb : blkC N sc scope own = true) (hlv : LeV (relabel scope X.env) r rw_)
    (how : ∀ i ∈ own.map (·.2), ∃ n, rw_[i]? = some (n, none)) (hs : ∀ x, foldedSetIterable iter X.env x = pure x) (hz : zs.length < sizeLine)
    (body : ∀ z ∈ zs, ∃ r1, AllBlk X scope (fun Y => GX Y tg (own.map (·.2)) rw_ (f z) r1) ∧ AllBlk X scope (fun Y => NX R Y elt r1 c (out z)))
    (C : CxN X r) (L : List Addr) (σ : L2.St) (H : Hp) (Q : VK) (n : Nat) (hM : n + zs.length * c ≤ nMax) (dm : Dom L H) (z0 : ∀ a ∈ R.Z, a ∈ L) (ph : R.Φ n H) (I : IsE X.K (hid H L) σ r)
    (q : ∀ d v H', FrZ R.Z H H' → R.Φ (n + zs.length * c) H' → (∃ ds, d = .lst ds ∧ All2 out zs ds) → Is X.K (hid H' L) v d → Q v H') :
    tLc (WI X tg iter) (fun v σ H Q => AllBlk X scope fun Y => WG Y tg v σ H Q) (fun σ H Q => Q true H) (fun σ H Q => AllBlk X scope fun Y => WE Y elt σ H Q) (own.map (·.2)) σ H Q := by
  have CB : AllBlk X scope fun Y => CxN Y rw_ := fun s H' c cl fp => ⟨by show X.N = _; rw [hlv.le.names]; exact C.names, C.nd, C.dbg, fun p hp hs => hlv.vis.mem p hp hs, C.calm⟩
  refine hi C L σ H _ dm I fun J H1 s1 W => ?_
  intro Dd hD
  have dm1 := dm.mono s1
  have hDL : Dd ∉ L := dm1.fresh hD
  have hDZ : Dd ∉ R.Z := fun z => hDL (z0 Dd z)
  have hlen : (zs.map f).length = zs.length := List.length_map ..
  let Pv : Nat → Hp → Prop := fun i H2 => FrZ R.Z H1 H2 ∧ R.Φ (n + i * c) H2 ∧ ∃ acc ds, H2 Dd = some (.lst acc) ∧ IsL X.K (hid H2 (Dd :: L)) acc ds ∧ All2 out (zs.take i) ds
  have s0 := same_new (o := .lst []) hD
  refine ⟨fun i m H2 => m = zs.length - i ∧ i ≤ zs.length ∧ Pv i H2, ⟨zs.length, by simp, Nat.zero_le _, FrZ.of s0, R.up (by omega) (R.st (R.st ph s1) s0), [], [], upd_same, .nil, .nil⟩, ?_⟩
  rintro i m H2 ⟨rfl, hle2, f2, p2, acc, ds, hacc, lacc, hall⟩
  have w2 : Same (hid H1 L) (hid H2 (Dd :: L)) := fun a o h => by
    obtain ⟨h1, h2⟩ := hid_some h
    refine hid_of (f2.1 a o (fun z => h2 (z0 a z)) h1) fun z => ?_
    rcases List.mem_cons.mp z with z | z
    · rw [z, hD] at h1; cases h1
    · exact h2 z
  have z2 : ∀ a ∈ R.Z, a ∈ Dd :: L := fun a ha => List.mem_cons_of_mem _ (z0 a ha)
  by_cases hlt : i < zs.length
  · refine .inr ⟨W.go (Dd :: L) i H2 (by rw [hlen]; exact hlt) w2, Pv (i + 1), fun H' p' => ⟨zs.length - (i + 1), by omega, rfl, hlt, p'⟩, fun x H3 y3 => ?_⟩
    obtain ⟨r1, hg, hel⟩ := body zs[i] (List.getElem_mem hlt)
    have hzi : zs[i]? = some zs[i] := List.getElem?_eq_getElem hlt
    have hic : i * c + c ≤ zs.length * c := by
      have := Nat.mul_le_mul_right c (show i + 1 ≤ zs.length from hlt)
      rwa [Nat.add_mul, Nat.one_mul] at this
    have dm2 : Dom (Dd :: L) H2 := dom_cons (f2.dom dm1) hacc
    obtain ⟨s3, ix⟩ := W.yld (Dd :: L) i H2 x H3 (f zs[i]) dm2 w2 (by rw [List.getElem?_map, hzi]; rfl) y3
    have I3 : IsE X.K (hid H3 (Dd :: L)) (wipe σ (own.map (·.2))) rw_ := by
      have I1 : IsE X.K (hid H3 (Dd :: L)) σ r := I.mono ((hid_mono s1).trans (w2.trans (hid_mono s3)))
      exact (I1.le hlv.le).wipe _ how
    intro s0 H0 cC cl fp
    refine (hg s0 H0 cC cl fp (CB s0 H0 cC cl fp)).2 (Dd :: L) _ H3 x _ I3 ix fun σ4 I4 w4 => ?_
    refine ⟨(w4 _ fun i hi => hi).trans (wipe_wipe _ _), ?_⟩
    have C4 : AllBlk X scope fun Y => CxN Y r1 := fun s H' c cl fp => (hg s H' c cl fp (CB s H' c cl fp)).1
    have dm3 := dm2.mono s3
    refine Eq.mpr (if_pos rfl) ?_
    intro s0 H0 cC cl fp
    refine (hel s0 H0 cC cl fp).run (C4 s0 H0 cC cl fp) (Dd :: L) σ4 H3 _ (n + i * c) (by omega) dm3 z2 (R.st p2 s3) I4 fun d u H6 f6 p6 o6 iu => ?_
    have hacc6 : H6 Dd = some (.lst acc) := f6.1 _ _ hDZ (s3 _ _ hacc)
    have e1 : zs.take (i + 1) = zs.take i ++ [zs[i]] := by rw [List.take_add_one, hzi]; rfl
    refine ⟨acc, hacc6, ?_, frz_put ((f2.trans (FrZ.of s3)).trans f6) hD, ?_, acc ++ [u], ds ++ [d], upd_same, ?_, ?_⟩
    · have h1 := lacc.length
      have h2 := hall.len
      have h3 : (zs.take i).length ≤ zs.length := List.length_take_le' ..
      rw [List.length_take] at h2
      omega
    · refine R.put (R.up ?_ p6) hacc6 mut_lst hDZ _
      rw [Nat.add_mul, Nat.one_mul]; omega
    · rw [hid_upd List.mem_cons_self]
      exact isL_snoc (lacc.mono ((hid_mono s3).trans (f6.hid z2))) iu
    · rw [e1]
      exact hall.snoc o6
  · have e : i = zs.length := by omega
    subst e
    rw [List.take_length] at hall
    refine .inl ⟨by have := W.stop (Dd :: L) H2 w2; rw [hlen] at this; exact this, ?_⟩
    exact q (.lst ds) (.ref Dd) H2 ((FrZ.of s1).trans f2) p2 ⟨ds, rfl, hall⟩ (.lst (hid_of hacc hDL) (lacc.mono hid_cons))
theorem nx_lcE {α : Type} (own : List (Str × Nat)) (N : List Str) (sc : Scope) (zs : List α) (f : α → D) (out : α → D → Prop) (c : Nat) (hi : IX X tg iter r (zs.map f)) (hN : X.N = N) (hsc : X.env.scope = sc) (hb : blkC N sc scope own = true) (hlv : LeV (relabel scope X.env) r rw_)
    (how : ∀ i ∈ own.map (·.2), ∃ n, rw_[i]? = some (n, none)) (hs : ∀ x, foldedSetIterable iter X.env x = pure x) (hz : zs.length < sizeLine)
    (body : ∀ z ∈ zs, ∃ r1, AllBlk X scope (fun Y => GX Y tg (own.map (·.2)) rw_ (f z) r1) ∧ AllBlk X scope (fun Y => NX R Y elt r1 c (out z))) :
    NX R X (.ListComp elt [⟨tg, iter, [], 0⟩] scope pos) r (zs.length * c) (fun d => ∃ ds, d = .lst ds ∧ All2 out zs ds) := by
  refine .mk fun C L σ H Q n hM dm z0 ph I q => ?_
  refine we_of (pe_lc C.calm C.nd (pi_w X tg iter) (own := own) (g := fun v σ H Q => AllBlk X scope fun Y => WG Y tg v σ H Q) (tt := fun σ H Q => Q true H) (te := fun σ H Q => AllBlk X scope fun Y => WE Y elt σ H Q)
    (by rw [hN, hsc]; exact blkOk_by hb) (fun s H C cl fp => ⟨fun pins s' σ H' v u Q I r h => h s H C cl fp pins s' u I r⟩) (fun s H C cl fp => pts_nil) (fun s H C cl fp => ⟨fun pins s' σ H' Q I h => h s H C cl fp pins s' I⟩) hs) ?_
  exact lcE_run own N sc zs f out c hi hN hsc hb hlv how hs hz body C L σ H Q n hM dm z0 ph I q
/-- the test has effects -/
theorem nx_lcT {α : Type} (own : List (Str × Nat)) (N : List Str) (sc : Scope) (zs : List α) (f g : α → D) (c : Nat) (hi : IX X tg iter r (zs.map f)) (hN : X.N = N) (hsc : X.env.scope = sc) (hb : blkC N sc scope own = true) (hlv : LeV (relabel scope X.env) r rw_)
    (how : ∀ i ∈ own.map (·.2), ∃ n, rw_[i]? = some (n, none)) (hs : ∀ x, foldedSetIterable iter X.env x = pure x) (hz : zs.length < sizeLine)
    (body : ∀ z ∈ zs, ∃ r1, AllBlk X scope (fun Y => GX Y tg (own.map (·.2)) rw_ (f z) r1) ∧ AllBlk X scope (fun Y => NT R Y t r1 c (fun _ => True)) ∧ AllBlk X scope (fun Y => EX Y elt r1 (g z))) :
    NX R X (.ListComp elt [⟨tg, iter, [t], 0⟩] scope pos) r (zs.length * c) (fun d => ∃ ws : List α, ws.Sublist zs ∧ d = .lst (ws.map g)) := by
  refine .mk fun C L σ H Q n hM dm z0 ph I q => ?_
  refine we_of (pe_lc C.calm C.nd (pi_w X tg iter) (own := own) (g := fun v σ H Q => AllBlk X scope fun Y => WG Y tg v σ H Q) (tt := fun σ H Q => AllBlk X scope fun Y => WT Y t σ H Q) (te := fun σ H Q => AllBlk X scope fun Y => WE Y elt σ H Q)
    (by rw [hN, hsc]; exact blkOk_by hb) (fun s H C cl fp => ⟨fun pins s' σ H' v u Q I r h => h s H C cl fp pins s' u I r⟩) (fun s H C cl fp => pts_one ⟨fun pins s' σ H' Q I h => h s H C cl fp pins s' I⟩) (fun s H C cl fp => ⟨fun pins s' σ H' Q I h => h s H C cl fp pins s' I⟩) hs) ?_
  have CB : AllBlk X scope fun Y => CxN Y rw_ := fun s H' c cl fp => ⟨by show X.N = _; rw [hlv.le.names]; exact C.names, C.nd, C.dbg, fun p hp hs => hlv.vis.mem p hp hs, C.calm⟩
  refine hi C L σ H _ dm I fun J H1 s1 W => ?_
  intro Dd hD
  have dm1 := dm.mono s1
  have hDL : Dd ∉ L := dm1.fresh hD
  have hDZ : Dd ∉ R.Z := fun z => hDL (z0 Dd z)
  have hlen : (zs.map f).length = zs.length := List.length_map ..
  let Pv : Nat → Hp → Prop := fun i H2 => FrZ R.Z H1 H2 ∧ R.Φ (n + i * c) H2 ∧ ∃ (acc : List V) (ws : List α), H2 Dd = some (.lst acc) ∧ IsL X.K (hid H2 (Dd :: L)) acc (ws.map g) ∧ ws.Sublist (zs.take i)
  have s0 := same_new (o := .lst []) hD
  refine ⟨fun i m H2 => m = zs.length - i ∧ i ≤ zs.length ∧ Pv i H2, ⟨zs.length, by simp, Nat.zero_le _, FrZ.of s0, R.up (by omega) (R.st (R.st ph s1) s0), [], [], upd_same, .nil, List.Sublist.refl _⟩, ?_⟩
  rintro i m H2 ⟨rfl, hle2, f2, p2, acc, ws, hacc, lacc, hall⟩
  have w2 : Same (hid H1 L) (hid H2 (Dd :: L)) := fun a o h => by
    obtain ⟨h1, h2⟩ := hid_some h
    refine hid_of (f2.1 a o (fun z => h2 (z0 a z)) h1) fun z => ?_
    rcases List.mem_cons.mp z with z | z
    · rw [z, hD] at h1; cases h1
    · exact h2 z
  have z2 : ∀ a ∈ R.Z, a ∈ Dd :: L := fun a ha => List.mem_cons_of_mem _ (z0 a ha)
  by_cases hlt : i < zs.length
  · refine .inr ⟨W.go (Dd :: L) i H2 (by rw [hlen]; exact hlt) w2, Pv (i + 1), fun H' p' => ⟨zs.length - (i + 1), by omega, rfl, hlt, p'⟩, fun x H3 y3 => ?_⟩
    obtain ⟨r1, hg, htst, hel⟩ := body zs[i] (List.getElem_mem hlt)
    have hzi : zs[i]? = some zs[i] := List.getElem?_eq_getElem hlt
    have hic : i * c + c ≤ zs.length * c := by
      have := Nat.mul_le_mul_right c (show i + 1 ≤ zs.length from hlt)
      rwa [Nat.add_mul, Nat.one_mul] at this
    have e1 : zs.take (i + 1) = zs.take i ++ [zs[i]] := by rw [List.take_add_one, hzi]; rfl
    have dm2 : Dom (Dd :: L) H2 := dom_cons (f2.dom dm1) hacc
    obtain ⟨s3, ix⟩ := W.yld (Dd :: L) i H2 x H3 (f zs[i]) dm2 w2 (by rw [List.getElem?_map, hzi]; rfl) y3
    have I3 : IsE X.K (hid H3 (Dd :: L)) (wipe σ (own.map (·.2))) rw_ := by
      have I1 : IsE X.K (hid H3 (Dd :: L)) σ r := I.mono ((hid_mono s1).trans (w2.trans (hid_mono s3)))
      exact (I1.le hlv.le).wipe _ how
    intro s0 H0 cC cl fp
    refine (hg s0 H0 cC cl fp (CB s0 H0 cC cl fp)).2 (Dd :: L) _ H3 x _ I3 ix fun σ4 I4 w4 => ?_
    refine ⟨(w4 _ fun i hi => hi).trans (wipe_wipe _ _), ?_⟩
    have C4 : AllBlk X scope fun Y => CxN Y r1 := fun s H' c cl fp => (hg s H' c cl fp (CB s H' c cl fp)).1
    have dm3 := dm2.mono s3
    intro s0 H0 cC cl fp
    refine (htst s0 H0 cC cl fp).run (C4 s0 H0 cC cl fp) (Dd :: L) σ4 H3 _ (n + i * c) (by omega) dm3 z2 (R.st p2 s3) I4 fun k H5 f5 p5 _ => ?_
    have hacc5 : H5 Dd = some (.lst acc) := f5.1 _ _ hDZ (s3 _ _ hacc)
    have l5 : IsL X.K (hid H5 (Dd :: L)) acc (ws.map g) := lacc.mono ((hid_mono s3).trans (f5.hid z2))
    have fr5 := (f2.trans (FrZ.of s3)).trans f5
    have p5' : R.Φ (n + (i + 1) * c) H5 := R.up (by rw [Nat.add_mul, Nat.one_mul]; omega) p5
    cases k with
    | false =>
      refine ⟨fr5, p5', acc, ws, hacc5, l5, ?_⟩
      rw [e1]
      exact hall.trans (List.sublist_append_left _ _)
    | true =>
      intro s0 H0 cC cl fp
      refine hel s0 H0 cC cl fp (C4 s0 H0 cC cl fp) (Dd :: L) σ4 H5 _ (f5.dom dm3) (I4.mono (f5.hid z2)) fun u H6 s6 iu => ?_
      have hacc6 := s6 _ _ hacc5
      refine ⟨acc, hacc6, ?_, frz_put (fr5.trans (FrZ.of s6)) hD, R.put (R.st p5' s6) hacc6 mut_lst hDZ _, acc ++ [u], ws ++ [zs[i]], upd_same, ?_, ?_⟩
      · have h1 := lacc.length
        have h2 := hall.length_le
        rw [List.length_map] at h1
        have h3 : (zs.take i).length ≤ zs.length := List.length_take_le' ..
        omega
      · rw [hid_upd List.mem_cons_self, List.map_append]
        exact isL_snoc (l5.mono (hid_mono s6)) iu
      · rw [e1]
        exact hall.append (List.Sublist.refl _)
  · have e : i = zs.length := by omega
    subst e
    rw [List.take_length] at hall
    refine .inl ⟨by have := W.stop (Dd :: L) H2 w2; rw [hlen] at this; exact this, ?_⟩
    exact q (.lst (ws.map g)) (.ref Dd) H2 ((FrZ.of s1).trans f2) p2 ⟨ws, hall, rfl⟩ (.lst (hid_of hacc hDL) (lacc.mono hid_cons))
end
end SB
namespace SB
set_option maxRecDepth 100000
open PySem PySem.Spec PyProof.Rows L2
/-! ### statements with effects -/
def FramZ (Z A : List Addr) (H H' : Hp) : Prop := (∀ a o, a ∉ Z → a ∉ A → H a = some o → H' a = some o) ∧ ∀ a, a ∉ A → H a ≠ none → H' a ≠ none
theorem FramZ.refl (Z A : List Addr) (H : Hp) : FramZ Z A H H := ⟨fun _ _ _ _ h => h, fun _ _ h => h⟩
theorem FrZ.framZ {Z A : List Addr} {H H' : Hp} (f : FrZ Z H H') : FramZ Z A H H' := ⟨fun a o nz _ h => f.1 a o nz h, fun a _ h => f.2 a h⟩
theorem Fram.framZ {Z A : List Addr} {H H' : Hp} (f : Fram A H H') : FramZ Z A H H' := ⟨fun a o _ n h => f a o n h, fun a n h z => by
  cases q : H a with
  | none => exact h q
  | some o => rw [f a o n q] at z; cases z⟩
def PostN (R : Rsc) (K : PySem.W.Frag) (L A : List Addr) (n : Nat) (H : Hp) (E : Ends) : Out → Prop
  | .nx e => ∀ A' σ H', FramZ R.Z A H H' → R.Φ n H' → A'.Nodup → (∀ a ∈ A', a ∈ A ∨ H a = none) → Ow K (hid H' (A' ++ L)) H' σ e A' → E.nx σ H'
  | .rt d => ∀ v H', FramZ R.Z A H H' → R.Φ n H' → Is K (hid H' L) v d → E.rt v H'
  | .rf ds => ∀ p ys H', FramZ R.Z A H H' → R.Φ n H' → (p ∈ A ∨ H p = none) → H' p = some (.lst ys) → IsL K (hid H' (p :: L)) ys ds → E.rt (.ref p) H'
  | .rk ks ds => False
theorem framZ_next {Z A A1 : List Addr} {H H1 H' : Hp} (f : FramZ Z A H H1) (m : ∀ a ∈ A1, a ∈ A ∨ H a = none) (g : FramZ Z A1 H1 H') : FramZ Z A H H' := ⟨fun a o nz n h =>
  g.1 a o nz (fun z => by rcases m a z with z | z; exact n z; rw [h] at z; cases z) (f.1 a o nz n h), fun a n h => g.2 a (fun z => by rcases m a z with z | z; exact n z; exact h z) (f.2 a n h)⟩
theorem ownZ_next {Z A A1 A' : List Addr} {H H1 : Hp} (f : FramZ Z A H H1) (m : ∀ a ∈ A1, a ∈ A ∨ H a = none) (m' : ∀ a ∈ A', a ∈ A1 ∨ H1 a = none) : ∀ a ∈ A', a ∈ A ∨ H a = none := fun a ha => by
  rcases m' a ha with z | z
  · exact m a z
  · by_cases h : a ∈ A
    · exact .inl h
    · cases q : H a with
      | none => exact .inr rfl
      | some o => exact absurd z (f.2 a h (by rw [q]; simp))
theorem PostN.next {R : Rsc} {K : PySem.W.Frag} {L A A1 : List Addr} {n : Nat} {H H1 : Hp} {E : Ends} {o : Out} (f : FramZ R.Z A H H1) (m : ∀ a ∈ A1, a ∈ A ∨ H a = none) (p : PostN R K L A n H E o) : PostN R K L A1 n H1 E o := by
  cases o with
  | nx e => exact fun A' σ H' g ph nd m' ow => p A' σ H' (framZ_next f m g) ph nd (ownZ_next f m m') ow
  | rt d => exact fun v H' g ph i => p v H' (framZ_next f m g) ph i
  | rf ds => exact fun q ys H' g ph n h i => p q ys H' (framZ_next f m g) ph (ownZ_next (A' := [q]) f m (fun a ha => by rw [List.mem_singleton.mp ha]; exact n) q (by simp)) h i
  | rk ks ds => exact p
theorem PostN.ends {R : Rsc} {K : PySem.W.Frag} {L A : List Addr} {n : Nat} {H : Hp} {E E' : Ends} {o : Out} (h : E'.rt = E.rt) (hn : ∀ e, o ≠ .nx e) (p : PostN R K L A n H E o) : PostN R K L A n H E' o := by
  cases o with
  | nx e => exact absurd rfl (hn e)
  | rt d => intro v H' f ph i; rw [h]; exact p v H' f ph i
  | rf ds => intro q ys H' f ph n h' i; rw [h]; exact p q ys H' f ph n h' i
  | rk ks ds => exact p
theorem PostN.up {R : Rsc} {K : PySem.W.Frag} {L A : List Addr} {n m : Nat} {H : Hp} {E : Ends} {o : Out} (h : m ≤ n) (p : PostN R K L A n H E o) : PostN R K L A m H E o := by
  cases o with
  | nx e => exact fun A' σ H' f ph => p A' σ H' f (R.up h ph)
  | rt d => exact fun v H' f ph => p v H' f (R.up h ph)
  | rf ds => exact fun q ys H' f ph => p q ys H' f (R.up h ph)
  | rk ks ds => exact p
theorem domZ_next {Z A L : List Addr} {H H' : Hp} (dm : Dom L H) (n : ∀ a ∈ A, a ∉ L) (f : FramZ Z A H H') : Dom L H' := fun a ha => f.2 a (fun z => n a z ha) (dm a ha)
def SNd (R : Rsc) (X : Cx) (sts : List Stmt) (e : Env') (c : Nat) (O : Out → Prop) : Prop := CxN X (rd e) →
  ∀ (L A : List Addr) (σ : L2.St) (H : Hp) (E : Ends) (n : Nat), n + c ≤ nMax → Dom L H → (∀ a ∈ R.Z, a ∈ L) → A.Nodup → (∀ a ∈ A, a ∉ L) → R.Φ n H → Ow X.K (hid H (A ++ L)) H σ e A → (∀ o, O o → CxO X o → PostN R X.K L A (n + c) H E o) → WS X sts E σ H
structure SN (R : Rsc) (X : Cx) (sts : List Stmt) (e : Env') (c : Nat) (O : Out → Prop) : Prop where mk ::
  run : SNd R X sts e c O
theorem rsc_fram {R : Rsc} {K : PySem.W.Frag} {G H H' : Hp} {σ : L2.St} {e : Env'} {A L : List Addr} {n : Nat} (h : R.Φ n H) (ow : Ow K G H σ e A) (f : Fram A H H') (z : ∀ a ∈ R.Z, a ∈ L) (nl : ∀ a ∈ A, a ∉ L) : R.Φ n H' := R.stb h fun b o q c => by
  refine f b o (fun hb => ?_) q
  rcases c with c | c
  · exact nl b hb (z b c)
  · obtain ⟨o', e', m⟩ := ow.domM b hb
    rw [q] at e'
    cases e'
    exact c m
section
variable {X : Cx} {R : Rsc} {st : Stmt} {rest sts a b : List Stmt} {e e1 e' : Env'} {o : Out} {pos p' apos cpos : Pos} {ex t tg iter : Expr} {d : D} {ds ys : List D} {x : Str} {i : Nat} {c c1 c2 c3 : Nat} {O O' O1 : Out → Prop} {OD : D → Prop} {B : Bool → Prop}
theorem sn_nil : SN R X [] e 0 (fun o => o = .nx e) := .mk fun C L A σ H E n hM dm z nd nl ph ow p =>
  ws_of pss_nil (p _ rfl C A σ H (FramZ.refl _ _ _) ph nd (fun a ha => .inl ha) ow)
theorem sn_le (h : SN R X sts e c1 O) (hc : c1 ≤ c) (ho : ∀ o, O o → O' o) : SN R X sts e c O' := .mk fun C L A σ H E n hM dm z nd nl ph ow p =>
  h.run C L A σ H E n (by omega) dm z nd nl ph ow fun o o1 cx => (p o (ho o o1) cx).up (by omega)
theorem sn_sx (h : SX X sts e o) (ho : ∀ ks ds, o ≠ .rk ks ds) : SN R X sts e 0 (fun o' => o' = o) := .mk fun C L A σ H E n hM dm z nd nl ph ow p => by
  obtain ⟨cx, g⟩ := h C
  refine g L A σ H E dm nd nl ow ?_
  have p := p o rfl cx
  cases o with
  | nx e1 => exact fun A' σ' H' f nd' m ow' => p A' σ' H' f.framZ (rsc_fram ph ow f z nl) nd' m ow'
  | rt d => exact fun v H' f i => p v H' f.framZ (rsc_fram ph ow f z nl) i
  | rf ds => exact fun q ys H' f n h i => p q ys H' f.framZ (rsc_fram ph ow f z nl) n h i
  | rk ks ds => exact absurd rfl (ho ks ds)
/-- a statement without effects ahead -/
theorem sn_pure (h1 : S1 X st e (.nx e1)) (h2 : SN R X rest e1 c O) : SN R X (st :: rest) e c O := .mk fun C L A σ H E n hM dm z nd nl ph ow p => by
  obtain ⟨C1, g1⟩ := h1 C
  refine ws_cons (g1 L A σ H _ dm nd nl ow fun A1 σ1 H1 f nd1 m ow1 => ?_)
  exact h2.run C1 L A1 σ1 H1 E n (by omega) (dom_next dm nl f) z nd1 (apart_next dm nl m) (rsc_fram ph ow f z nl) ow1 fun o oo cx => (p o oo cx).next f.framZ m
theorem ow_fr {K : PySem.W.Frag} {σ : L2.St} {A L : List Addr} {H H1 : Hp} (z : ∀ a ∈ R.Z, a ∈ L) (nl : ∀ a ∈ A, a ∉ L) (ow : Ow K (hid H (A ++ L)) H σ e A) (f : FrZ R.Z H H1) : Ow K (hid H1 (A ++ L)) H1 σ e A :=
  ow.mono (f.hid fun a ha => List.mem_append_right _ (z a ha)) fun a ha o h => f.1 a o (fun q => nl a ha (z a q)) h
/-- x = e, mode two -/
theorem sn_set {e0 : Env'} (w0 : UpE e x .u e0 i) (h : NX R X ex (rd e) c1 OD) (hx : Loc X.env.scope x) (hs : swapsWith ex (some (.Name x p')) pos.line X.env = pure false) (hf : X.fn x = true ∨ X.env.scope.names.lookup x = some .local)
    (r : ∀ d, OD d → ∃ e', UpE e x (.d d) e' i ∧ Imm d = true ∧ SN R X rest e' c2 O) : SN R X (.Assign [.Name x p'] ex pos :: rest) e (c1 + c2) O := .mk fun C L A σ H E n hM dm z nd nl ph ow p => by
  have hN : X.N[i]? = some x := by rw [C.names, rd_names]; exact w0.ix
  refine ws_cons (w1_of (ps_set C.nd hN hx (pe_w X ex) hs hf) ?_)
  refine h.run C L σ H _ n (by omega) dm z ph (ow_rd nl ow) fun d v H1 f p1 o1 iv => ?_
  obtain ⟨e', w, im, r⟩ := r d o1
  have C1 : CxN X (rd e') := C.up (rd_up w) (vis_of_loc hx)
  have ow1 := ow_fr z nl ow f
  have iv' := iv.imm (hide_lists (A := A) (L := L) fun a ha => ow1.domM a ha) im
  obtain ⟨A', sub, ow'⟩ := Ow.setd iv' ow1 w
  refine r.run C1 L A' _ H1 E (n + c1) (by omega) (f.dom dm) z (sub.nodup nd) (fun a ha => nl a (sub.subset ha)) p1 (ow'.mono (sub_hide fun a ha => sub.subset ha) fun a _ o h => h) fun o oo cx => ?_
  exact ((p o oo cx).up (by omega)).next f.framZ fun a ha => .inl (sub.subset ha)
/-- x = e, mode one -/
theorem sn_set1 {e0 : Env'} (w0 : UpE e x .u e0 i) (h : NX R X ex (hd' e) c1 OD) (hx : Loc X.env.scope x) (hs : swapsWith ex (some (.Name x p')) pos.line X.env = pure false) (hf : X.fn x = true ∨ X.env.scope.names.lookup x = some .local)
    (r : ∀ d, OD d → ∃ e', UpE e x (.d d) e' i ∧ SN R X rest e' c2 O) : SN R X (.Assign [.Name x p'] ex pos :: rest) e (c1 + c2) O := .mk fun C L A σ H E n hM dm z nd nl ph ow p => by
  have hN : X.N[i]? = some x := by rw [C.names, rd_names]; exact w0.ix
  refine ws_cons (w1_of (ps_set C.nd hN hx (pe_w X ex) hs hf) ?_)
  refine h.run (C.le (hd_le e)) (A ++ L) σ H _ n (by omega) (dom_own dm ow) (fun a ha => List.mem_append_right _ (z a ha)) ph ow.hd fun d v H1 f p1 o1 iv => ?_
  obtain ⟨e', w, r⟩ := r d o1
  have C1 : CxN X (rd e') := C.up (rd_up w) (vis_of_loc hx)
  obtain ⟨A', sub, ow'⟩ := Ow.setd iv (ow_fr z nl ow f) w
  refine r.run C1 L A' _ H1 E (n + c1) (by omega) (f.dom dm) z (sub.nodup nd) (fun a ha => nl a (sub.subset ha)) p1 (ow'.mono (sub_hide fun a ha => sub.subset ha) fun a _ o h => h) fun o oo cx => ?_
  exact ((p o oo cx).up (by omega)).next f.framZ fun a ha => .inl (sub.subset ha)
theorem sn_ret (h : NX R X ex (rd e) c OD) : SN R X [.Return (some ex) pos] e c (fun o => ∃ d, o = .rt d ∧ OD d) := .mk fun C L A σ H E n hM dm z nd nl ph ow p =>
  ws_one (w1_of (ps_ret (pe_w X ex)) (h.run C L σ H _ n (by omega) dm z ph (ow_rd nl ow) fun d v H' f p1 o1 i => p (.rt d) ⟨d, rfl, o1⟩ trivial v H' f.framZ p1 i))
/-- an if, and what comes behind it -/
theorem sn_if {cd : Expr} (hc : NT R X cd (rd e) c1 B) (h1 : B true → SN R X a e c2 O1) (h2 : B false → SN R X b e c2 O1) (r : ∀ e1, O1 (.nx e1) → SN R X rest e1 c3 O) (ho : ∀ o, O1 o → (∀ e1, o ≠ .nx e1) → O o) : SN R X (.If cd a b pos :: rest) e (c1 + (c2 + c3)) O := .mk fun C L A σ H E n hM dm z nd nl ph ow p => by
  refine ws_cons (w1_of (ps_if (pt_w X cd) (pss_w X a) (pss_w X b)) ?_)
  refine hc.run C L σ H _ n (by omega) dm z ph (ow_rd nl ow) fun k H1 f p1 o1 => ?_
  have ow1 := ow_fr z nl ow f
  have fin : ∀ sts, SN R X sts e c2 O1 → WS X sts { E with nx := WS X rest E } σ H1 := fun sts hs => hs.run C L A σ H1 _ (n + c1) (by omega) (f.dom dm) z nd nl p1 ow1 fun o oo cx => by
    by_cases hn : ∃ e1, o = .nx e1
    · obtain ⟨e1, rfl⟩ := hn
      refine fun A' σ' H' g ph' nd' m ow' => ?_
      have fz : FramZ R.Z A H H' := framZ_next f.framZ (fun a ha => .inl ha) g
      have m' : ∀ a ∈ A', a ∈ A ∨ H a = none := ownZ_next (f.framZ) (fun a ha => .inl ha) m
      exact (r e1 oo).run cx L A' σ' H' E (n + c1 + c2) (by omega) (domZ_next dm nl fz) z nd' (apart_next dm nl m') ph' ow' fun o oo cx => PostN.up (by omega) ((p o oo cx).next fz m')
    · have hn' : ∀ e1, o ≠ .nx e1 := fun e1 h => hn ⟨e1, h⟩
      exact PostN.ends (E := E) rfl hn' (PostN.up (n := n + (c1 + (c2 + c3))) (by omega) ((p o (ho o oo hn') cx).next f.framZ fun a ha => .inl ha))
  cases k with
  | true => exact fin a (h1 o1)
  | false => exact fin b (h2 o1)
/-- what is walked, found with effects -/
def NIXd (R : Rsc) (X : Cx) (tg iter : Expr) (r : Rho) (c : Nat) (OL : List D → Prop) : Prop := CxN X r →
  ∀ (L : List Addr) (σ : L2.St) (H : Hp) (S : It → Hp → Prop) (n : Nat), n + c ≤ nMax → Dom L H → (∀ a ∈ R.Z, a ∈ L) → R.Φ n H → IsE X.K (hid H L) σ r → (∀ ys J H', FrZ R.Z H H' → R.Φ (n + c) H' → OL ys → WalkD X.K J L H' ys → S J H') → WI X tg iter σ H S
structure NIX (R : Rsc) (X : Cx) (tg iter : Expr) (r : Rho) (c : Nat) (OL : List D → Prop) : Prop where mk ::
  run : NIXd R X tg iter r c OL
theorem nix_ix {r : Rho} (h : IX X tg iter r ys) : NIX R X tg iter r 0 (fun zs => zs = ys) := .mk fun C L σ H S n hM dm z ph I q => h C L σ H S dm I fun J H' s w => q ys J H' (FrZ.of s) (R.st ph s) rfl w
/-- a loop: I holds ahead of each turn; c: of one turn -/
theorem sn_for {body : List Stmt} {OL : List D → Prop} {m : Nat} (I : List D → Nat → Env' → Prop) (hi : NIX R X tg iter (hd' e) c1 OL) (hm : ∀ ys, OL ys → ys.length ≤ m) (start : ∀ ys, OL ys → I ys 0 e)
    (turn : ∀ ys k d e0, OL ys → ys[k]? = some d → I ys k e0 → ∃ e1, GE X tg e0 d e1 ∧ SN R X body e1 c2 (fun o => (∃ e2, o = .nx e2 ∧ I ys (k + 1) e2) ∨ ((∀ e2, o ≠ .nx e2) ∧ O o)))
    (done : ∀ ys e0, OL ys → I ys ys.length e0 → SN R X rest e0 c3 O) (hs : ∀ x, foldedSetIterable iter X.env x = pure x) (hpo : PassesOwn (model X.prog X.w) X.A X.env X.xe) :
    SN R X (.For tg iter body [] pos :: rest) e (c1 + m * c2 + c3) O := .mk fun C L A σ H E n hM dm z nd nl ph ow p => by
  refine ws_cons (w1_of (ps_for hpo C.calm (pi_w X tg iter) (pg_w X tg) (pss_w X body) hs) ?_)
  have dmA := dom_own dm ow
  have zA : ∀ a ∈ R.Z, a ∈ A ++ L := fun a ha => List.mem_append_right _ (z a ha)
  refine hi.run (C.le (hd_le _)) (A ++ L) σ H _ n (by omega) dmA zA ph ow.hd fun ys J H1 f1 p1 ol W => ?_
  have hml := hm ys ol
  have ow1 := ow_fr z nl ow f1
  have dm1 : Dom L H1 := f1.dom dm
  refine ⟨fun i k σ2 H2 => k = ys.length - i ∧ i ≤ ys.length ∧ ∃ e0 B, I ys i e0 ∧ CxN X (rd e0) ∧ FramZ R.Z A H1 H2 ∧ R.Φ (n + c1 + i * c2) H2 ∧ B.Nodup ∧ (∀ a ∈ B, a ∈ A ∨ H1 a = none) ∧ Ow X.K (hid H2 (B ++ L)) H2 σ2 e0 B,
    ⟨ys.length, rfl, Nat.zero_le _, e, A, start ys ol, C, FramZ.refl _ _ _, R.up (by omega) p1, nd, fun a ha => .inl ha, ow1⟩, ?_⟩
  rintro i k σ2 H2 ⟨rfl, hil, e0, B, hI, C0, f, p2, ndB, mB, owB⟩
  have nlB := apart_next dm1 nl mB
  have dmB : Dom L H2 := domZ_next dm1 nl f
  have zB : ∀ a ∈ R.Z, a ∈ B ++ L := fun a ha => List.mem_append_right _ (z a ha)
  have sw : Same (hid H1 (A ++ L)) (hid H2 (B ++ L)) := fun b o hb => by
    obtain ⟨h1, h2⟩ := hid_some hb
    refine hid_of (f.1 b o (fun q => h2 (zA b q)) (fun q => h2 (List.mem_append_left _ q)) h1) fun q => ?_
    rcases List.mem_append.mp q with q | q
    · rcases mB b q with q | q
      · exact h2 (List.mem_append_left _ q)
      · rw [q] at h1; cases h1
    · exact h2 (List.mem_append_right _ q)
  have q1 : ∀ o, O o → CxO X o → PostN R X.K L A (n + (c1 + m * c2 + c3)) H1 E o := fun o oo cx => (p o oo cx).next f1.framZ fun a ha => .inl ha
  by_cases hlt : i < ys.length
  · refine .inr ⟨W.go _ i H2 hlt sw, ?_⟩
    have hic : i * c2 + c2 ≤ m * c2 := by
      have := Nat.mul_le_mul_right c2 (show i + 1 ≤ m by omega)
      rwa [Nat.add_mul, Nat.one_mul] at this
    have hyi : ys[i]? = some ys[i] := List.getElem?_eq_getElem hlt
    have dmBL := dom_own dmB owB
    obtain ⟨e1, g, b⟩ := turn ys i ys[i] e0 ol hyi hI
    obtain ⟨C1, g1⟩ := g C0
    refine ⟨fun σ' H' => (i + 1) ≤ ys.length ∧ ∃ e0 B, I ys (i + 1) e0 ∧ CxN X (rd e0) ∧ FramZ R.Z A H1 H' ∧ R.Φ (n + c1 + (i + 1) * c2) H' ∧ B.Nodup ∧ (∀ a ∈ B, a ∈ A ∨ H1 a = none) ∧ Ow X.K (hid H' (B ++ L)) H' σ' e0 B, fun σ' H' h => ⟨ys.length - (i + 1), by omega, rfl, h⟩, fun x H3 y3 => ?_⟩
    obtain ⟨s3, ix⟩ := W.yld _ i H2 x H3 ys[i] dmBL sw hyi y3
    have ow3 : Ow X.K (hid H3 (B ++ L)) H3 σ2 e0 B := owB.mono (hid_mono s3) fun a _ o h => s3 a o h
    refine g1 L B σ2 H3 x _ ndB ow3 ix fun B' σ4 sub ow4 => ?_
    have f3 : FramZ R.Z A H1 H3 := framZ_next f mB (Fram.framZ (Same.fram s3))
    have mB' : ∀ a ∈ B', a ∈ A ∨ H1 a = none := fun a ha => mB a (sub.subset ha)
    refine b.run C1 L B' σ4 H3 _ (n + c1 + i * c2) (by omega) (dmB.mono s3) z (sub.nodup ndB) (fun a ha => nlB a (sub.subset ha)) (R.st p2 s3) ow4 fun o oo cx => ?_
    rcases oo with ⟨e2, rfl, hI2⟩ | ⟨hn, oo⟩
    · refine fun A' σ5 H5 f5 p5 nd5 m5 ow5 => ?_
      exact ⟨hlt, e2, A', hI2, cx, framZ_next f3 mB' f5, R.up (by rw [Nat.add_mul, Nat.one_mul]; omega) p5, nd5, ownZ_next f3 mB' m5, ow5⟩
    · refine PostN.ends (E := E) rfl hn (((q1 o oo cx).up ?_).next f3 mB')
      have : (i + 1) * c2 ≤ m * c2 := Nat.mul_le_mul_right _ (by omega)
      rw [Nat.add_mul, Nat.one_mul] at this
      omega
  · have hi2 : i = ys.length := by omega
    subst hi2
    have hic : ys.length * c2 ≤ m * c2 := Nat.mul_le_mul_right _ hml
    refine .inl ⟨W.stop _ H2 sw, ?_⟩
    refine (done ys e0 ol hI).run C0 L B σ2 H2 E _ (by omega) dmB z ndB nlB p2 owB fun o oo cx => ((q1 o oo cx).up ?_).next f mB
    have : ys.length * c2 ≤ m * c2 := Nat.mul_le_mul_right _ hml
    omega
end
end SB
namespace SB
set_option maxRecDepth 100000
open PySem PySem.Spec PyProof.Rows L2
section
variable {X : Cx} {R : Rsc} {st : Stmt} {rest sts a b : List Stmt} {e e1 e' : Env'} {o : Out} {pos p' apos cpos : Pos} {ex t tg iter : Expr} {es : List Expr} {d : D} {ds ys : List D} {x : Str} {i : Nat} {c c1 c2 c3 : Nat} {O O' O1 : Out → Prop} {OD : D → Prop} {B : Bool → Prop} {r : Rho} {p : Pos}
/-- x.append(e): e with effects, mode two -/
theorem sn_append (w0 : LkU e x ds ds e i) (h : NX R X ex (rd e) c1 OD) (hz : ds.length < sizeLine) (hv : Vis X.env.scope x) (hbase : attributeBase (.Name x p') "append" X.env (eval (.Name x p') X.env) = eval (.Name x p') X.env)
    (hfew : ((backTo cpos (starEach [ex] X.env)).all (fun x => !x.1) && (backToKw cpos (keywordEach [] X.env)).all (fun x => x.1.isSome) && decide ([ex].length + ([] : List Keyword).length + (if ([] : List Keyword).isEmpty then 0 else 1) < 30)) = true)
    (hline : (apos.endLine == cpos.line) = true) (hs : starEach [ex] X.env = (false, eval ex X.env) :: starEach [] X.env) (hplain : (backTo cpos (starEach [] X.env)).any (·.1) = false) (hsw : swapsWith (.Call (.Attribute (.Name x p') "append" apos) [ex] [] cpos) none pos.line X.env = pure false)
    (r : ∀ d, OD d → ∃ e', LkU e x ds (ds ++ [d]) e' i ∧ Imm d = true ∧ SN R X rest e' c2 O) : SN R X (.Expr (.Call (.Attribute (.Name x p') "append" apos) [ex] [] cpos) pos :: rest) e (c1 + c2) O := .mk fun C L A σ H E n hM dm z nd nl ph ow p => by
  obtain ⟨a, xs, m, hi, ha, l, k⟩ := ow.list w0 nd
  have hN : X.N[i]? = some x := by rw [C.names, rd_names]; exact w0.ix
  have hm : x ∈ X.N := List.mem_of_getElem? hN
  refine ws_cons (w1_of (ps_expr (pe_bm PySem.F.plainAttrs_list PySem.F.slot_list_append PySem.F.type_list_append mt_append (pe_var hN hv (C.dbg _ hm).1 (C.dbg _ hm).2) (pa_cons (pe_w X ex) pa_nil hs) hbase hfew hline hs hplain) hsw) ?_)
  refine ⟨.ref a, hi, .inl ⟨rfl, xs, .inl (.inl ha)⟩, ?_⟩
  refine h.run C L σ H _ n (by omega) dm z ph (ow_rd nl ow) fun d v H1 f p1 o1 iv => ?_
  obtain ⟨e', w, im, r⟩ := r d o1
  have C1 : CxN X (rd e') := C.up w.up hv
  have ow1 := ow_fr z nl ow f
  have iv' := iv.imm (hide_lists (A := A) (L := L) fun a ha => ow1.domM a ha) im
  obtain ⟨a2, xs2, m2, hi2, ha2, l2, k2⟩ := ow1.list w nd
  cases hi.symm.trans hi2
  have nz : a ∉ R.Z := fun q => nl a m (z a q)
  have e0 := f.1 a _ nz ha
  cases e0.symm.trans ha2
  refine ⟨a, xs, v, rfl, rfl, ha2, by rw [l2.length]; exact hz, ?_⟩
  have hh : hid (upd H1 a (.lst (xs ++ [v]))) (A ++ L) = hid H1 (A ++ L) := hid_upd (List.mem_append_left _ m)
  have fz : FramZ R.Z A H (upd H1 a (.lst (xs ++ [v]))) := ⟨fun b q n1 n2 hb => by
    have hne : b ≠ a := fun y => n2 (by rw [y]; exact m)
    rw [upd_ne hne]; exact f.1 b q n1 hb, fun b n hb => by
    by_cases hba : b = a
    · exact absurd (hba ▸ m) n
    · rw [upd_ne hba]; exact f.2 b hb⟩
  refine r.run C1 L A σ _ E (n + c1) (by omega) (domZ_next dm nl fz) z nd nl (R.put p1 ha2 mut_lst nz _) ?_ fun o oo cx => PostN.up (by omega) ((p o oo cx).next fz fun a ha => .inl ha)
  rw [hh]
  exact k2 (Same.refl _) (fun b hb hne o ho => by rw [upd_ne hne]; exact ho) upd_same (isL_snoc l2 iv')
/-- target = e, mode one -/
theorem sn_asg (h : NX R X ex (hd' e) c1 OD) (g : ∀ d, OD d → ∃ e', GE X t e d e' ∧ SN R X rest e' c2 O) (hs : swapsWithSole [t] ex pos.line X.env = pure false) (hw : swappedStores [t] ex X.env = pure none) (h1 : (assignEach [t] X.env).map (·.2) = [assign t X.env]) :
    SN R X (.Assign [t] ex pos :: rest) e (c1 + c2) O := .mk fun C L A σ H E n hM dm z nd nl ph ow p => by
  refine ws_cons (w1_of (ps_asg (pe_w X ex) (pg_w X t) hs hw h1) ?_)
  refine h.run (C.le (hd_le e)) (A ++ L) σ H _ n (by omega) (dom_own dm ow) (fun a ha => List.mem_append_right _ (z a ha)) ph ow.hd fun d v H1 f p1 o1 iv => ?_
  obtain ⟨e', g, r⟩ := g d o1
  obtain ⟨C1, g1⟩ := g C
  refine g1 L A σ H1 v _ nd (ow_fr z nl ow f) iv fun A' σ' sub ow' => ?_
  refine r.run C1 L A' σ' H1 E (n + c1) (by omega) (f.dom dm) z (sub.nodup nd) (fun a ha => nl a (sub.subset ha)) p1 ow' fun o oo cx => ?_
  exact PostN.up (by omega) ((p o oo cx).next f.framZ fun a ha => .inl (sub.subset ha))
/-- x = [..]: a comprehension with effects that goes to a plain local name; mode one -/
theorem sn_setLc {α : Type} {elt : Expr} {scope : Scope} {lpos : Pos} {rw_ : Rho} (own : List (Str × Nat)) (N : List Str) (sc : Scope) (zs : List α) (f : α → D) (out : α → D → Prop) (c : Nat) {e0 : Env'} (w0 : UpE e x .u e0 i) (hi : IX X tg iter (hd' e) (zs.map f)) (hN : X.N = N) (hsc : X.env.scope = sc) (hb : blkC N sc scope own = true) (hlv : LeV (relabel scope X.env) (hd' e) rw_)
    (how : ∀ i ∈ own.map (·.2), ∃ n, rw_[i]? = some (n, none)) (hs : ∀ x, foldedSetIterable iter X.env x = pure x) (hyl : X.env.scope.names.lookup x = some .local)
    (hsw : swapsWith (.ListComp elt [⟨tg, iter, [], 0⟩] scope lpos) (some (.Name x p')) pos.line X.env = pure true) (hz : zs.length < sizeLine)
    (body : ∀ z ∈ zs, ∃ r1, AllBlk X scope (fun Y => GX Y tg (own.map (·.2)) rw_ (f z) r1) ∧ AllBlk X scope (fun Y => NX R Y elt r1 c (out z)))
    (r : ∀ ds, All2 out zs ds → ∃ e', UpE e x (.d (.lst ds)) e' i ∧ SN R X rest e' c2 O) : SN R X (.Assign [.Name x p'] (.ListComp elt [⟨tg, iter, [], 0⟩] scope lpos) pos :: rest) e (zs.length * c + c2) O := .mk fun C L A σ H E n hM dm z nd nl ph ow p => by
  have hy : X.N[i]? = some x := by rw [C.names, rd_names]; exact w0.ix
  refine ws_cons (w1_of (ps_setLc C.calm C.nd hy hyl hsw (pi_w X tg iter) (own := own) (g := fun v σ H Q => AllBlk X scope fun Y => WG Y tg v σ H Q) (tt := fun σ H Q => Q true H) (te := fun σ H Q => AllBlk X scope fun Y => WE Y elt σ H Q)
    (by rw [hN, hsc]; exact blkOk_by hb) (fun s H C cl fp => ⟨fun pins s' σ H' v u Q I r h => h s H C cl fp pins s' u I r⟩) (fun s H C cl fp => pts_nil) (fun s H C cl fp => ⟨fun pins s' σ H' Q I h => h s H C cl fp pins s' I⟩) hs) ?_)
  refine lcE_run own N sc zs f out c hi hN hsc hb hlv how hs hz body (C.le (hd_le e)) (A ++ L) σ H _ n (by omega) (dom_own dm ow) (fun a ha => List.mem_append_right _ (z a ha)) ph ow.hd fun d v H1 f p1 o1 iv => ?_
  obtain ⟨ds, rfl, o1⟩ := o1
  obtain ⟨e', w, r⟩ := r ds o1
  have C1 : CxN X (rd e') := C.up (rd_up w) (.inl hyl)
  obtain ⟨A', sub, ow'⟩ := Ow.setd iv (ow_fr z nl ow f) w
  refine r.run C1 L A' _ H1 E (n + zs.length * c) (by omega) (f.dom dm) z (sub.nodup nd) (fun a ha => nl a (sub.subset ha)) p1 (ow'.mono (sub_hide fun a ha => sub.subset ha) fun a _ o h => h) fun o oo cx => ?_
  exact PostN.up (by omega) ((p o oo cx).next f.framZ fun a ha => .inl (sub.subset ha))
/-- an owned list is handed back as a value -/
theorem sn_reto (w : LkU e x ds ds e i) : SN R X [.Return (some (.Name x p')) pos] e 0 (fun o => o = .rt (.lst ds)) := .mk fun C L A σ H E n hM dm z nd nl ph ow q => by
  obtain ⟨a, xs, m, hi, h, l, k⟩ := ow.list w nd
  have hN : X.N[i]? = some x := by rw [C.names, rd_names]; exact w.ix
  have hm : x ∈ X.N := List.mem_of_getElem? hN
  have hv : Vis X.env.scope x := by
    obtain ⟨p, hp, rfl, hs⟩ := w.known
    exact C.vis p hp hs
  refine ws_one (w1_of (ps_ret (pe_var hN hv (C.dbg _ hm).1 (C.dbg _ hm).2)) ⟨_, hi, ?_⟩)
  refine q _ rfl trivial _ H (FramZ.refl _ _ _) ph (.lst (hid_of h (nl a m)) (l.mono fun b o hb => hid_of (hid_some hb).1 fun z => (hid_some hb).2 (List.mem_append_right _ z)))
theorem sn_retko {ks : List Key} (w : LkK e x ks ds ks ds e i) : SN R X [.Return (some (.Name x p')) pos] e 0 (fun o => o = .rt (.dk ks ds)) := .mk fun C L A σ H E n hM dm z nd nl ph ow q => by
  obtain ⟨a, xs, m, hi, h, hz, l, k⟩ := ow.dict w nd
  have hN : X.N[i]? = some x := by rw [C.names, rd_names]; exact w.ix
  have hm : x ∈ X.N := List.mem_of_getElem? hN
  have hv : Vis X.env.scope x := by
    obtain ⟨p, hp, rfl, hs⟩ := w.known
    exact C.vis p hp hs
  refine ws_one (w1_of (ps_ret (pe_var hN hv (C.dbg _ hm).1 (C.dbg _ hm).2)) ⟨_, hi, ?_⟩)
  refine q _ rfl trivial _ H (FramZ.refl _ _ _) ph (.dk (hid_of h (nl a m)) hz (l.mono fun b o hb => hid_of (hid_some hb).1 fun z => (hid_some hb).2 (List.mem_append_right _ z)))
theorem nix_range {N : Nat → Prop} (h : NX R X ex r c (fun d => ∃ n : Nat, d = .int (n : Int) ∧ N n)) (hz : ∀ n, N n → n < 1000000) (hg : Gl X "range") (hm : X.mg "range" = none) (hs : starEach [ex] X.env = [(false, eval ex X.env)]) : NIX R X tg (.Call (.Name "range" p) [ex] [] pos) r c (fun ys => ∃ n, ys = rngD n ∧ N n) := .mk fun C L σ H S n hM dm z ph I q => by
  refine wi_of (pi_range1 hg hm (pa_cons (pe_w X ex) pa_nil hs) hs) ?_
  refine h.run C L σ H _ n hM dm z ph I fun d v H1 f1 p1 o1 i1 => ?_
  obtain ⟨n, rfl, hn⟩ := o1
  have hz := hz n hn
  refine ⟨n, by rw [is_int i1], by omega, by omega, ?_⟩
  have hl : (rngD n).length = n := by unfold rngD; rw [List.length_map, List.length_range]
  refine q _ _ H1 f1 p1 ⟨n, rfl, hn⟩ ⟨fun M i H2 hi s2 => ?_, fun M H2 s2 => ?_, fun M i H2 x H3 d dm2 s2 hd hy => ?_⟩
  · show i < (n : Int).toNat
    rw [hl] at hi; omega
  · show (n : Int).toNat ≤ (rngD n).length
    rw [hl]; omega
  · obtain ⟨rfl, rfl⟩ := hy
    refine ⟨Same.refl _, ?_⟩
    have hi : i < n := by rw [← hl]; exact (List.getElem?_eq_some_iff.mp hd).1
    have e : d = .int ((i : Nat) : Int) := by
      unfold rngD at hd
      rw [List.getElem?_map, List.getElem?_range hi] at hd
      exact (Option.some.inj hd).symm
    rw [e, Int.zero_add]
    exact .int _
theorem nix_lst {OL : List D → Prop} (h : NX R X iter r c (fun d => ∃ ys, d = .lst ys ∧ OL ys)) : NIX R X tg iter r c OL := .mk fun C L σ H S n hM dm z ph I q => by
  refine wi_of (pi_list (pe_w X iter)) ?_
  refine h.run C L σ H _ n hM dm z ph I fun d v H1 f1 p1 o1 i1 => ?_
  obtain ⟨ys, rfl, oy⟩ := o1
  obtain ⟨a, xs, rfl, ha, l⟩ := is_lst i1
  have at_ : ∀ {M : List Addr} {H2 : Hp}, Same (hid H1 L) (hid H2 M) → SqL X.K H2 a xs := fun s2 => .inl (.inl (hid_sub _ _ (s2 _ _ ha)))
  refine ⟨a, rfl, ⟨xs, .inl (.inl (hid_sub _ _ ha))⟩, q _ _ H1 f1 p1 oy ⟨fun M i H2 hi s2 => ?_, fun M H2 s2 => ?_, fun M i H2 x H3 d dm2 s2 hd hy => ?_⟩⟩
  · obtain ⟨x, hx, _⟩ := l.get (List.getElem?_eq_getElem hi)
    exact ⟨xs, x, at_ s2, hx⟩
  · exact ⟨xs, at_ s2, by rw [l.length]; exact Nat.le_refl _⟩
  · obtain ⟨rfl, hy⟩ := hy
    obtain ⟨y, hyi, iy⟩ := l.get hd
    have e := (hy xs (at_ s2)).symm.trans hyi
    obtain rfl := Option.some.inj e
    exact ⟨Same.refl _, iy.mono s2⟩
end
section
variable {X : Cx} {R : Rsc} {rest a : List Stmt} {e : Env'} {c c1 c2 : Nat} {O : Out → Prop} {B : Bool → Prop} {pos : Pos}
theorem ge_sn {X : Cx} {R : Rsc} {t : Expr} {e e' : Env'} {d : D} {sts : List Stmt} {c : Nat} {O : Out → Prop} (h1 : GE X t e d e') (h2 : SN R X sts e' c O) : ∃ e', GE X t e d e' ∧ SN R X sts e' c O := ⟨e', h1, h2⟩
theorem up_sn {X : Cx} {R : Rsc} {e e' : Env'} {d : D} {x : Str} {i : Nat} {sts : List Stmt} {c : Nat} {O : Out → Prop} (h1 : UpE e x (.d d) e' i) (hi : Imm d = true) (h2 : SN R X sts e' c O) : ∃ e', UpE e x (.d d) e' i ∧ Imm d = true ∧ SN R X sts e' c O := ⟨e', h1, hi, h2⟩
theorem up_sn1 {X : Cx} {R : Rsc} {e e' : Env'} {d : D} {x : Str} {i : Nat} {sts : List Stmt} {c : Nat} {O : Out → Prop} (h1 : UpE e x (.d d) e' i) (h2 : SN R X sts e' c O) : ∃ e', UpE e x (.d d) e' i ∧ SN R X sts e' c O := ⟨e', h1, h2⟩
theorem lk_sn {X : Cx} {R : Rsc} {e e' : Env'} {ds es : List D} {d : D} {x : Str} {i : Nat} {sts : List Stmt} {c : Nat} {O : Out → Prop} (h1 : LkU e x ds es e' i) (hi : Imm d = true) (h2 : SN R X sts e' c O) : ∃ e', LkU e x ds es e' i ∧ Imm d = true ∧ SN R X sts e' c O := ⟨e', h1, hi, h2⟩
/-- nothing is left to do; what is known may be less -/
theorem sn_nile {X : Cx} {R : Rsc} {e e2 : Env'} (l : LeE e e2) : SN R X [] e 0 (fun o => o = .nx e2) := sn_sx (sx_nile l) fun _ _ h => nomatch h
theorem gx_nx {X : Cx} {R : Rsc} {tg elt : Expr} {scope : Scope} {own : List (Str × Nat)} {js : List Nat} {rw_ r1 : Rho} {d : D} {c : Nat} {O : D → Prop} (h1 : AllBlk X scope fun Y => GX Y tg js rw_ d r1) (m : ∀ i ∈ js, i ∈ own.map (·.2)) (h2 : AllBlk X scope fun Y => NX R Y elt r1 c O) :
    ∃ r1, AllBlk X scope (fun Y => GX Y tg (own.map (·.2)) rw_ d r1) ∧ AllBlk X scope (fun Y => NX R Y elt r1 c O) := ⟨r1, fun s H C cl fp => (h1 s H C cl fp).more m, h2⟩
theorem gx_nt {X : Cx} {R : Rsc} {tg elt t : Expr} {scope : Scope} {own : List (Str × Nat)} {js : List Nat} {rw_ r1 : Rho} {d d2 : D} {c : Nat} {O : Bool → Prop} (h1 : AllBlk X scope fun Y => GX Y tg js rw_ d r1) (h3 : AllBlk X scope fun Y => EX Y elt r1 d2) (m : ∀ i ∈ js, i ∈ own.map (·.2)) (h2 : AllBlk X scope fun Y => NT R Y t r1 c O) :
    ∃ r1, AllBlk X scope (fun Y => GX Y tg (own.map (·.2)) rw_ d r1) ∧ AllBlk X scope (fun Y => NT R Y t r1 c O) ∧ AllBlk X scope (fun Y => EX Y elt r1 d2) := ⟨r1, fun s H C cl fp => (h1 s H C cl fp).more m, h2, h3⟩
/-- if c: .. return -/
theorem sn_ifret {c3 : Nat} {O2 : Out → Prop} {cd : Expr} (hc : NT R X cd (rd e) c1 B) (h1 : B true → SN R X a e c2 O2) (hn : ∀ e1, ¬ O2 (.nx e1)) (h12 : ∀ o, O2 o → O o) (h2 : B false → SN R X rest e c3 O) : SN R X (.If cd a [] pos :: rest) e (c1 + (c2 + c3)) O := by
  refine sn_if (O1 := fun o => O2 o ∨ (o = .nx e ∧ B false)) hc (fun b => sn_le (h1 b) (Nat.le_refl _) fun o h => .inl h) (fun b => sn_le sn_nil (Nat.zero_le _) fun o h => .inr ⟨h, b⟩) (fun e1 h => ?_) fun o h hne => ?_
  · rcases h with h | ⟨h, b⟩
    · exact absurd h (hn e1)
    · cases h; exact h2 b
  · rcases h with h | ⟨h, b⟩
    · exact h12 o h
    · exact absurd h (hne _)
end
section
variable {P : Program} {w : World} {K : PySem.W.Frag} {mg : Str → Option Value} {base : Heap}
theorem def_n {x qual : Str} {st : Stmt} {f : Addr} {fd : FuncData} {N ps : List Str} {k : Nat} {pre : Rsc → List D → Nat → (D → Prop) → Prop} (F : Fun K x qual st f fd) (S : Sc N ps st) (hl : ∀ R ds c O, pre R ds c O → ds.length = ps.length)
    (h : ∀ (cdv : Value) (A : Around) (outer : List Env) (s : Shared) (H : Hp) (E : XK), Room k (A.deeper (envOfC qual (defScope st) s.heap.objs.size f cdv)) →
      ∀ R ds c O, pre R ds c O → SN R (Bdy P w K mg base N qual (defScope st) f cdv A outer s H E) (defBody st) (st0 N ds) c (fun o => ∃ d, o = .rt d ∧ O d)) :
    FnOk P w K mg base CX0 (k + 1) f fd ps (spN K pre) := by
  refine F.ok S.fn (fun vs H Q E ⟨R, L, ds, c, O, n, hp, hM, dm, z, ph, i, q⟩ => by rw [i.length]; exact hl R ds c O hp) fun cdv A outer s H vs Q E hr hsp => ?_
  obtain ⟨R, L, ds, c, O, n, hp, hM, dm, z, ph, i, q⟩ := hsp
  have hl := hl R ds c O hp
  have hle : ds.length ≤ N.length := by
    rw [hl]
    have := congrArg List.length S.fn.pre
    rw [List.length_take] at this; omega
  refine ⟨WS (Bdy P w K mg base N qual (defScope st) f cdv A outer s H E) (defBody st), pss_w _ _, ?_⟩
  have b := h cdv A outer s H E hr R ds c O hp
  rw [← start_st0] at b
  refine b.run (cxn_start S.fn hl S.dbg) L [] _ H _ n hM dm z List.nodup_nil (fun a ha => by simp at ha) ph (ow_start (N := N) (K := K) (H := H) i hle) fun o oo cx => ?_
  obtain ⟨d, rfl, hd⟩ := oo
  exact fun v H' f ph i => q d v H' ⟨fun a o nz h => f.1 a o nz (by simp) h, fun a h => f.2 a (by simp) h⟩ ph hd i
end
end SB
namespace SB
set_option maxRecDepth 100000
open PySem PySem.Spec PyProof.Rows L2
/-! ### a pot: a list of three numbers that changes -/
def Pot (a : Addr) (n : Nat) (H : Hp) : Prop := ∃ own base cnt : Int, H a = some (.lst [.int own, .int base, .int cnt]) ∧ 0 ≤ own ∧ 0 ≤ base ∧ base < 2305843009213693907 ∧ 0 ≤ cnt ∧ cnt ≤ n
structure PotR (R : Rsc) (a : Addr) : Prop where
  z : a ∈ R.Z
  get : ∀ {n : Nat} {H : Hp}, R.Φ n H → Pot a n H
  put : ∀ {n m : Nat} {H H' : Hp}, R.Φ n H → n ≤ m → Pot a m H' → (∀ b o, b ≠ a → H b = some o → H' b = some o) → R.Φ m H'
inductive PotV : Int → Int → Prop
  | own {v : Int} : 0 ≤ v → PotV 0 v
  | base {v : Int} : 0 ≤ v → v < 2305843009213693907 → PotV 1 v
  | cnt {v : Int} : 0 ≤ v → v ≤ nMax → PotV 2 v
theorem is_adr {K : PySem.W.Frag} {H : Hp} {v : V} {a : Addr} (h : Is K H v (.adr a)) : v = .ref a := by
  cases h; rfl
section
variable {X : Cx} {R : Rsc} {rest : List Stmt} {e : Env'} {pos p' sp p ap bp ip cp : Pos} {ex ix : Expr} {x : Str} {c c1 c2 : Nat} {O : Out → Prop} {r : Rho} {a : Addr} {j : Int}
/-- pot[j] -/
theorem nx_pot (P : PotR R a) (ha : EX X (.Name x p) r (.adr a)) (hb : EX X ix r (.int j)) (hs : PlainIx ix) (hj : j = 0 ∨ j = 1 ∨ j = 2) : NX R X (.Subscript (.Name x p) ix pos) r 0 (fun d => ∃ v, d = .int v ∧ PotV j v) := by
  refine .mk fun C L σ H Q n hM dm z ph I q => ?_
  refine we_of (pe_ix L2.ix_list (pe_w X _) (pe_w X ix) hs) ?_
  refine ha C L σ H _ dm I fun v H1 s1 i1 => hb C L σ H1 _ (dm.mono s1) (I.mono (hid_mono s1)) fun u H2 s2 i2 => ?_
  have p2 := R.st (R.st ph s1) s2
  obtain ⟨own, base, cnt, h, h0, h1, h1', h2, h2'⟩ := P.get p2
  have fr := (FrZ.of (Z := R.Z) s1).trans (FrZ.of s2)
  rcases hj with rfl | rfl | rfl
  · exact ⟨a, _, 0, .int own, is_adr i1, is_int i2, .inl (.inl h), rfl, q (.int own) _ H2 fr p2 ⟨_, rfl, .own h0⟩ (.int _)⟩
  · exact ⟨a, _, 1, .int base, is_adr i1, is_int i2, .inl (.inl h), rfl, q (.int base) _ H2 fr p2 ⟨_, rfl, .base h1 h1'⟩ (.int _)⟩
  · exact ⟨a, _, 2, .int cnt, is_adr i1, is_int i2, .inl (.inl h), rfl, q (.int cnt) _ H2 fr p2 ⟨_, rfl, .cnt h2 (by omega)⟩ (.int _)⟩
theorem pot_fram {Z A L : List Addr} {H H3 : Hp} {o : HO} (f : FrZ Z H H3) (za : a ∈ Z) (o0 : H a ≠ none) : FramZ Z A H (upd H3 a o) := ⟨fun b q n1 _ hb => by
  have hne : b ≠ a := fun y => n1 (by rw [y]; exact za)
  rw [upd_ne hne]; exact f.1 b q n1 hb, fun b _ hb => by
  by_cases hba : b = a
  · rw [hba, upd_same]; simp
  · rw [upd_ne hba]; exact f.2 b hb⟩
theorem pot_set {n c : Nat} {L A : List Addr} {σ : L2.St} {H H3 : Hp} {o : HO} {K : PySem.W.Frag} (z : ∀ a ∈ R.Z, a ∈ L) (nl : ∀ a ∈ A, a ∉ L) (za : a ∈ R.Z) (ow : Ow K (hid H (A ++ L)) H σ e A) (f : FrZ R.Z H H3) : Ow K (hid (upd H3 a o) (A ++ L)) (upd H3 a o) σ e A := by
  rw [hid_upd (List.mem_append_right _ (z a za))]
  have ow1 := ow_fr z nl ow f
  refine ow1.mono (Same.refl _) fun b hb q hq => ?_
  rw [upd_ne fun y => nl b hb (by rw [y]; exact z a za)]; exact hq
/-- pot[0] = e -/
theorem sn_pot0 (P : PotR R a) (ho : EX X (.Name x p') (rd e) (.adr a)) (hix : EX X ix (rd e) (.int 0)) (h : NX R X ex (rd e) c1 (fun d => ∃ v : Int, d = .int v ∧ 0 ≤ v))
    (hasg : ∀ v, assign (.Subscript (.Name x p') ix sp) X.env v = (do
      let ov ← holding [v] (eval (.Name x p') X.env)
      let iv ← holding [v, ov] (eval ix X.env)
      standAt sp
      holding [v, ov, iv] (setItem ov iv v)
      release [v, ov, iv] []))
    (hs : swapsWithSole [.Subscript (.Name x p') ix sp] ex pos.line X.env = pure false) (hw : swappedStores [.Subscript (.Name x p') ix sp] ex X.env = pure none) (h1 : (assignEach [.Subscript (.Name x p') ix sp] X.env).map (·.2) = [assign (.Subscript (.Name x p') ix sp) X.env])
    (r : SN R X rest e c2 O) : SN R X (.Assign [.Subscript (.Name x p') ix sp] ex pos :: rest) e (c1 + c2) O := .mk fun C L A σ H E n hM dm z nd nl ph ow q => by
  refine ws_cons (w1_of (ps_asg (pe_w X ex) (pg_sub (pe_w X _) (pe_w X ix) set_list hasg) hs hw h1) ?_)
  refine h.run C L σ H _ n (by omega) dm z ph (ow_rd nl ow) fun d v H1 f1 p1 o1 iv => ?_
  obtain ⟨v0, rfl, hv0⟩ := o1
  have ow1 := ow_fr z nl ow f1
  refine ho C L σ H1 _ (f1.dom dm) (ow_rd nl ow1) fun y H2 s2 i2 => ?_
  have f2 := f1.trans (FrZ.of s2)
  have ow2 := ow_fr z nl ow f2
  refine hix C L σ H2 _ (f2.dom dm) (ow_rd nl ow2) fun u H3 s3 i3 => ?_
  have f3 := f2.trans (FrZ.of s3)
  have p3 := R.st (R.st p1 s2) s3
  obtain ⟨own, base, cnt, hp, h0, hb, hb', h2, h2'⟩ := P.get p3
  refine ⟨a, [.int own, .int base, .int cnt], 0, 0, is_adr i2, is_int i3, hp, rfl, ?_⟩
  rw [is_int iv]
  obtain ⟨_, _, _, hp0, _⟩ := P.get ph
  have fz : FramZ R.Z A H (upd H3 a (.lst ([.int own, .int base, .int cnt].set 0 (.int v0)))) := pot_fram (L := L) f3 P.z (by rw [hp0]; simp)
  refine r.run C L A σ _ E (n + c1) (by omega) (domZ_next dm nl fz) z nd nl (P.put p3 (Nat.le_refl _) ⟨v0, base, cnt, upd_same, hv0, hb, hb', h2, h2'⟩ fun b o hne hb => by rw [upd_ne hne]; exact hb) (pot_set (n := n) (c := c1) z nl P.z ow f3) fun o oo cx => ?_
  exact PostN.up (by omega) ((q o oo cx).next fz fun a ha => .inl ha)
/-- pot[2] = pot[2] + 1 -/
theorem sn_pot2 {ix2 : Expr} (P : PotR R a) (ho : EX X (.Name x p') (rd e) (.adr a)) (hix : EX X ix (rd e) (.int 2)) (ho2 : EX X (.Name x p) (rd e) (.adr a)) (hix2 : EX X ix2 (rd e) (.int 2)) (hone : EX X ex (rd e) (.int 1)) (hpl : PlainIx ix2)
    (hasg : ∀ v, assign (.Subscript (.Name x p') ix sp) X.env v = (do
      let ov ← holding [v] (eval (.Name x p') X.env)
      let iv ← holding [v, ov] (eval ix X.env)
      standAt sp
      holding [v, ov, iv] (setItem ov iv v)
      release [v, ov, iv] []))
    (hs : swapsWithSole [.Subscript (.Name x p') ix sp] (.BinOp (.Subscript (.Name x p) ix2 ip) .Add ex bp) pos.line X.env = pure false) (hw : swappedStores [.Subscript (.Name x p') ix sp] (.BinOp (.Subscript (.Name x p) ix2 ip) .Add ex bp) X.env = pure none) (h1 : (assignEach [.Subscript (.Name x p') ix sp] X.env).map (·.2) = [assign (.Subscript (.Name x p') ix sp) X.env])
    (r : SN R X rest e c2 O) : SN R X (.Assign [.Subscript (.Name x p') ix sp] (.BinOp (.Subscript (.Name x p) ix2 ip) .Add ex bp) pos :: rest) e (1 + c2) O := .mk fun C L A σ H E n hM dm z nd nl ph ow q => by
  refine ws_cons (w1_of (ps_asg (pe_op (opr_all _) (pe_ix L2.ix_list (pe_w X _) (pe_w X ix2) hpl) (pe_w X ex)) (pg_sub (pe_w X _) (pe_w X ix) set_list hasg) hs hw h1) ?_)
  refine ho2 C L σ H _ dm (ow_rd nl ow) fun y1 H1 s1 i1 => ?_
  have ow1 := ow_fr z nl ow (FrZ.of s1)
  refine hix2 C L σ H1 _ (dm.mono s1) (ow_rd nl ow1) fun u1 H2 s2 i2 => ?_
  have s12 := s1.trans s2
  have ow2 := ow_fr z nl ow (FrZ.of s12)
  obtain ⟨own, base, cnt, hp, h0, hb, hb', h2, h2'⟩ := P.get (R.st ph s12)
  refine ⟨a, _, 2, .int cnt, is_adr i1, is_int i2, .inl (.inl hp), rfl, ?_⟩
  refine hone C L σ H2 _ (dm.mono s12) (ow_rd nl ow2) fun v H3 s3 i3 => ?_
  have dm3 := dm.mono (s12.trans s3)
  refine op2_all o_add dm3 (.int cnt) i3 fun w H4 s4 i4 => ?_
  have s14 := (s12.trans s3).trans s4
  have ow4 := ow_fr z nl ow (FrZ.of s14)
  refine ho C L σ H4 _ (dm.mono s14) (ow_rd nl ow4) fun y5 H5 s5 i5 => ?_
  have s15 := s14.trans s5
  have ow5 := ow_fr z nl ow (FrZ.of s15)
  refine hix C L σ H5 _ (dm.mono s15) (ow_rd nl ow5) fun u6 H6 s6 i6 => ?_
  have s26 := ((s3.trans s4).trans s5).trans s6
  have s16 := s15.trans s6
  have f6 : FrZ R.Z H H6 := FrZ.of s16
  have hp6 := s26 _ _ hp
  have p6 := R.st ph s16
  refine ⟨a, [.int own, .int base, .int cnt], 2, 2, is_adr i5, is_int i6, hp6, rfl, ?_⟩
  rw [is_int i4]
  obtain ⟨_, _, _, hp0, _⟩ := P.get ph
  have fz : FramZ R.Z A H (upd H6 a (.lst ([.int own, .int base, .int cnt].set 2 (.int (cnt + 1))))) := pot_fram (L := L) f6 P.z (by rw [hp0]; simp)
  refine r.run C L A σ _ E (n + 1) (by omega) (domZ_next dm nl fz) z nd nl (P.put p6 (Nat.le_succ _) ⟨own, base, cnt + 1, upd_same, h0, hb, hb', by omega, by omega⟩ fun b o hne hb => by rw [upd_ne hne]; exact hb) (pot_set (n := n) (c := 1) z nl P.z ow f6) fun o oo cx => ?_
  exact PostN.up (by omega) ((q o oo cx).next fz fun a ha => .inl ha)
end
/-! ### numbers within bounds -/
def IB (l h : Int) : D → Prop := fun d => ∃ v : Int, d = .int v ∧ l ≤ v ∧ v ≤ h
section
variable {X : Cx} {R : Rsc} {pos p : Pos} {a b : Expr} {r : Rho} {c c1 c2 : Nat} {l1 l2 h1 h2 : Int}
theorem ib_le (h : NX R X a r c (IB l1 h1)) (hl : l2 ≤ l1) (hh : h1 ≤ h2) : NX R X a r c (IB l2 h2) := nx_le h (Nat.le_refl _) fun d ⟨v, e, q1, q2⟩ => ⟨v, e, by omega, by omega⟩
theorem ib_ex {v : Int} (h : EX X a r (.int v)) (hl : l1 ≤ v) (hh : v ≤ h1) : NX R X a r 0 (IB l1 h1) := nx_le (nx_ex h) (Nat.le_refl _) fun d e => ⟨v, e, hl, hh⟩
theorem ib_add (ha : NX R X a r c1 (IB l1 h1)) (hb : NX R X b r c2 (IB l2 h2)) : NX R X (.BinOp a .Add b pos) r (c1 + c2) (IB (l1 + l2) (h1 + h2)) :=
  nx_bin ha hb fun d1 d2 ⟨v, e, q1, q2⟩ ⟨u, e2, q3, q4⟩ => ⟨.int (v + u), by rw [e, e2]; exact o_add, v + u, rfl, by omega, by omega⟩
theorem ib_mul (ha : NX R X a r c1 (IB 0 h1)) (hb : NX R X b r c2 (IB 0 h2)) (hh : h1 < 18446744073709551616) (h2' : 0 ≤ h2) : NX R X (.BinOp a .Mult b pos) r (c1 + c2) (IB 0 (h1 * h2)) :=
  nx_bin ha hb fun d1 d2 ⟨v, e, q1, q2⟩ ⟨u, e2, q3, q4⟩ => ⟨.int (v * u), by rw [e, e2]; exact o_mul (.inl ⟨by omega, by omega⟩), v * u, rfl, Int.mul_nonneg q1 q3, Int.le_trans (Int.mul_le_mul_of_nonneg_right q2 q3) (Int.mul_le_mul_of_nonneg_left q4 (by omega))⟩
theorem ib_pow3 (ha : NX R X a r c1 (IB 0 h1)) (hb : EX X b r (.int 3)) (hh : h1 < 18446744073709551616) : NX R X (.BinOp a .Pow b pos) r c1 (fun d => ∃ v : Int, d = .int v) :=
  nx_bin ha (nx_ex hb) fun d1 d2 ⟨v, e, q1, q2⟩ e2 => ⟨.int (v ^ 3), by rw [e, e2]; exact o_pow ⟨by omega, by omega, by omega⟩, v ^ 3, rfl⟩
theorem ib_mod {A : D → Prop} (ha : NX R X a r c1 A) (hA : ∀ d, A d → ∃ v : Int, d = .int v) (hb : NX R X b r c2 (IB 1 h2)) : NX R X (.BinOp a .Mod b pos) r (c1 + c2) (IB 0 (h2 - 1)) :=
  nx_bin ha hb fun d1 d2 a1 ⟨u, e2, q3, q4⟩ => by
    obtain ⟨v, e⟩ := hA d1 a1
    have h1 := Int.emod_nonneg v (show u ≠ 0 by omega)
    have h2 := Int.emod_lt_of_pos v (show 0 < u by omega)
    exact ⟨.int (v % u), by rw [e, e2]; exact o_mod (by omega), v % u, rfl, h1, by omega⟩
theorem ib_fdiv (ha : NX R X a r c1 (IB 0 h1)) (hb : NX R X b r c2 (IB 1 h2)) (hh : h2 < 1073741824) : NX R X (.BinOp a .FloorDiv b pos) r (c1 + c2) (IB 0 h1) :=
  nx_bin ha hb fun d1 d2 ⟨v, e, q1, q2⟩ ⟨u, e2, q3, q4⟩ => by
    have h1 := Int.ediv_nonneg q1 (show 0 ≤ u by omega)
    have h2 := Int.ediv_le_self u q1
    exact ⟨.int (v / u), by rw [e, e2]; exact o_fdiv ⟨by omega, by omega⟩, v / u, rfl, h1, by omega⟩
theorem ib_int {l h : Int} : ∀ d, IB l h d → ∃ v : Int, d = .int v := fun d ⟨v, e, _⟩ => ⟨v, e⟩
theorem nx_potC {x : Str} {ix : Expr} {ad : Addr} (P : PotR R ad) (ha : EX X (.Name x p) r (.adr ad)) (hb : EX X ix r (.int 2)) (hs : PlainIx ix) : NX R X (.Subscript (.Name x p) ix pos) r 0 (IB 0 100000) :=
  nx_le (nx_pot P ha hb hs (.inr (.inr rfl))) (Nat.le_refl _) fun d ⟨v, e, q⟩ => by cases q; rename_i q1 q2; exact ⟨v, e, q1, q2⟩
theorem nx_potB {x : Str} {ix : Expr} {ad : Addr} (P : PotR R ad) (ha : EX X (.Name x p) r (.adr ad)) (hb : EX X ix r (.int 1)) (hs : PlainIx ix) : NX R X (.Subscript (.Name x p) ix pos) r 0 (IB 0 2305843009213693906) :=
  nx_le (nx_pot P ha hb hs (.inr (.inl rfl))) (Nat.le_refl _) fun d ⟨v, e, q⟩ => by cases q; rename_i q1 q2; exact ⟨v, e, q1, by omega⟩
theorem nx_potO {x : Str} {ix : Expr} {ad : Addr} (P : PotR R ad) (ha : EX X (.Name x p) r (.adr ad)) (hb : EX X ix r (.int 0)) (hs : PlainIx ix) : NX R X (.Subscript (.Name x p) ix pos) r 0 (fun d => ∃ v : Int, d = .int v ∧ 0 ≤ v) :=
  nx_le (nx_pot P ha hb hs (.inl rfl)) (Nat.le_refl _) fun d ⟨v, e, q⟩ => by cases q; rename_i q1; exact ⟨v, e, q1⟩
end
end SB
namespace SB
set_option maxRecDepth 100000
open PySem PySem.Spec PyProof.Rows L2
/-! ### own dicts: made, written -/
theorem hid_into {H : Hp} {L : List Addr} {p : Addr} {o : HO} (n : H p = none) : Same (hid H L) (hid (upd H p o) (p :: L)) := fun b u h => by
  obtain ⟨h1, h2⟩ := hid_some h
  have hne : b ≠ p := ne_of_none h1 n
  refine hid_of (by rw [upd_ne hne]; exact h1) fun z => ?_
  rcases List.mem_cons.mp z with z | z
  · exact hne z
  · exact h2 z
theorem lkk_up : ∀ {e e' : Env'} {x : Str} {ks ls : List Key} {ds es : List D} {i : Nat}, LkK e x ks ds ls es e' i → Up (rd e) x (some (.dk ls es)) (rd e') i
  | _, _, _, _, _, _, _, _, .here => .here
  | _, _, _, _, _, _, _, _, .next w => .next (lkk_up w)
section
variable {X : Cx} {ex ix k v : Expr} {e e' : Env'} {pos p' sp : Pos} {d : D} {ds : List D} {ks : List Key} {x : Str} {i : Nat} {r : Rho} {s : Str} {rest : List Stmt} {o : Out}
theorem fk_new : FKX X (.Dict [] [] pos) r [] [] := by
  constructor
  intro C L σ H Q dm I q
  exact we_of pe_dnewK fun p hp => q p [] _ hp (same_new hp) upd_same rfl .nil
theorem fk_one (hk : EX X k r (.str s)) (hv : EX X v r d) : FKX X (.Dict [some k] [v] pos) r [.inr s] [d] := by
  constructor
  intro C L σ H Q dm I q
  refine we_of (pe_disp (pps_cons (pe_w X k) (pe_w X v) pps_nil) rfl rfl (by simp) (Nat.le_of_ble_eq_true rfl)) ?_
  intro p hp
  have s0 : Same H (upd H p (.dK [])) := same_new hp
  have dm0 : Dom (p :: L) (upd H p (.dK [])) := dom_cons (dm.mono s0) upd_same
  refine hk C (p :: L) σ _ _ dm0 (I.mono (hid_into hp)) fun u1 H1 s1 i1 => ?_
  refine hv C (p :: L) σ _ _ (dm0.mono s1) (I.mono ((hid_into hp).trans (hid_mono s1))) fun u H2 s2 i2 => ?_
  have hp2 : H2 p = some (.dK []) := s2 _ _ (s1 _ _ upd_same)
  refine ⟨hp2, [(.inr s, u)], by rw [is_str i1]; rfl, Nat.le_of_ble_eq_true rfl, ?_⟩
  refine q p [u] _ hp (fun b o hb => ?_) upd_same rfl ?_
  · rw [upd_ne (ne_of_none hb hp)]; exact s2 _ _ (s1 _ _ (s0 _ _ hb))
  · rw [hid_upd List.mem_cons_self]; exact .cons i2 .nil
/-- x = a new dict, kept as its own; mode one -/
theorem s1_setk (h : FKX X ex (hd' e) ks ds) (w : UpE e x (.k ks ds) e' i) (hx : Loc X.env.scope x) (hs : swapsWith ex (some (.Name x p')) pos.line X.env = pure false) (hf : X.fn x = true ∨ X.env.scope.names.lookup x = some .local) : S1 X (.Assign [.Name x p'] ex pos) e (.nx e') := by
  constructor
  intro C
  have C' : CxN X (rd e') := C.up (rd_up w) (vis_of_loc hx)
  refine ⟨C', fun L A σ H E dm nd nl ow q => ?_⟩
  have hN : X.N[i]? = some x := by rw [C.names, rd_names]; exact w.ix
  refine w1_of (ps_set C.nd hN hx (pe_w X ex) hs hf) ?_
  refine h.run (C.le (hd_le e)) (A ++ L) σ H _ (dom_own dm ow) ow.hd fun p vs H1 n s hp hl l => ?_
  have dmA := dom_own dm ow
  have hpA : p ∉ A := fun z => dmA.fresh n (List.mem_append_left _ z)
  have ow1 := ow.mono (G' := hid H1 (p :: (A ++ L))) (H' := H1) (fun b o hb => hid_of (s _ _ (hid_some hb).1) fun z => by
    rcases List.mem_cons.mp z with z | z
    · exact ne_of_none (hid_some hb).1 n z
    · exact (hid_some hb).2 z) fun a _ o h => s a o h
  obtain ⟨A', s', nd', ow'⟩ := Ow.setk hp hl l ow1 hpA nd w
  refine q A' _ H1 (Same.fram s) nd' (fun a ha => (s' a ha).imp id fun z => by rw [z]; exact n) (ow'.mono (fun b o hb => hid_of (hid_some hb).1 fun z => (hid_some hb).2 ?_) fun a _ o h => h)
  rcases List.mem_append.mp z with z | z
  · rcases s' b z with z | z
    · exact List.mem_cons_of_mem _ (List.mem_append_left _ z)
    · exact z ▸ List.mem_cons_self
  · exact List.mem_cons_of_mem _ (List.mem_append_right _ z)
theorem putK_new {ks : List Key} {vs : List V} {k : Key} {u : V} (hl : ks.length = vs.length) (hn : k ∉ ks) : putK (ks.zip vs) k u = (ks ++ [k]).zip (vs ++ [u]) := by
  unfold putK
  rw [if_neg (fun z => ?_), List.zip_append hl]
  · rfl
  · obtain ⟨p, hp, e⟩ := List.any_eq_true.mp z
    have := (List.of_mem_zip hp).1
    rw [of_decide_eq_true e] at this
    exact hn this
/-- x[k] = v: a new key; mode one -/
theorem s1_kput (w : LkK e x ks ds (ks ++ [.inr s]) (ds ++ [d]) e' i) (h : EX X ex (hd' e) d) (hix : EX X ix (hd' e) (.str s)) (hn : (.inr s : Key) ∉ ks) (hz : ks.length < sizeLine) (hu : X.A.units + 1 < cLine) (hv : Vis X.env.scope x)
    (hasg : ∀ v, assign (.Subscript (.Name x p') ix sp) X.env v = (do
      let ov ← holding [v] (eval (.Name x p') X.env)
      let iv ← holding [v, ov] (eval ix X.env)
      standAt sp
      holding [v, ov, iv] (setItem ov iv v)
      release [v, ov, iv] []))
    (hs : swapsWithSole [.Subscript (.Name x p') ix sp] ex pos.line X.env = pure false) (hw : swappedStores [.Subscript (.Name x p') ix sp] ex X.env = pure none) (h1 : (assignEach [.Subscript (.Name x p') ix sp] X.env).map (·.2) = [assign (.Subscript (.Name x p') ix sp) X.env]) :
    S1 X (.Assign [.Subscript (.Name x p') ix sp] ex pos) e (.nx e') := by
  constructor
  intro C
  have C' : CxN X (rd e') := C.up (lkk_up w) hv
  refine ⟨C', fun L A σ H E dm nd nl ow q => ?_⟩
  obtain ⟨a, vs, m, hi, ha, hl, l, k⟩ := ow.dict w nd
  have hN : X.N[i]? = some x := by rw [C.names, rd_names]; exact w.ix
  have hm : x ∈ X.N := List.mem_of_getElem? hN
  refine w1_of (ps_asg (pe_w X ex) (pg_sub (pe_var hN hv (C.dbg _ hm).1 (C.dbg _ hm).2) (pe_w X ix) (set_dict hu) hasg) hs hw h1) ?_
  have dmA := dom_own dm ow
  refine h (C.le (hd_le e)) (A ++ L) σ H _ dmA ow.hd fun v H1 s1 iv => ?_
  have ow1 := ow.mono (hid_mono (L := A ++ L) s1) (fun a _ o h => s1 a o h)
  refine ⟨.ref a, hi, ?_⟩
  refine hix (C.le (hd_le e)) (A ++ L) σ H1 _ (dmA.mono s1) ow1.hd fun u H2 s2 iu => ?_
  have s12 := s1.trans s2
  have ha2 := s12 _ _ ha
  rw [is_str iu]
  refine ⟨a, _, rfl, DPut.k (k := .inr s) ha2 (by rw [List.length_zip, ← hl, Nat.min_self]; exact hz), ?_⟩
  rw [putK_new hl hn]
  have hh : hid (upd H2 a (.dK ((ks ++ [(.inr s : Key)]).zip (vs ++ [v])))) (A ++ L) = hid H2 (A ++ L) := hid_upd (List.mem_append_left _ m)
  refine q A σ _ (fun b o n hb => by rw [upd_ne (fun z => n (by rw [z]; exact m))]; exact s12 b o hb) nd (fun b hb => .inl hb) ?_
  rw [hh]
  exact k (hid_mono s12) (fun b hb hne o ho => by rw [upd_ne hne]; exact s12 b o ho) upd_same (by rw [List.length_append, List.length_append, hl]; rfl) (isL_snoc (l.mono (hid_mono s12)) (iv.mono (hid_mono s2)))
theorem sx_setk (h : FKX X ex (hd' e) ks ds) (w : UpE e x (.k ks ds) e' i) (hx : Loc X.env.scope x) (hs : swapsWith ex (some (.Name x p')) pos.line X.env = pure false) (hf : X.fn x = true ∨ X.env.scope.names.lookup x = some .local) (r : SX X rest e' o) : SX X (.Assign [.Name x p'] ex pos :: rest) e o := sx_cons (s1_setk h w hx hs hf) r
theorem sx_kput (w : LkK e x ks ds (ks ++ [.inr s]) (ds ++ [d]) e' i) (h : EX X ex (hd' e) d) (hix : EX X ix (hd' e) (.str s)) (hn : (.inr s : Key) ∉ ks) (hz : ks.length < sizeLine) (hu : X.A.units + 1 < cLine) (hv : Vis X.env.scope x)
    (hasg : ∀ v, assign (.Subscript (.Name x p') ix sp) X.env v = (do
      let ov ← holding [v] (eval (.Name x p') X.env)
      let iv ← holding [v, ov] (eval ix X.env)
      standAt sp
      holding [v, ov, iv] (setItem ov iv v)
      release [v, ov, iv] []))
    (hs : swapsWithSole [.Subscript (.Name x p') ix sp] ex pos.line X.env = pure false) (hw : swappedStores [.Subscript (.Name x p') ix sp] ex X.env = pure none) (h1 : (assignEach [.Subscript (.Name x p') ix sp] X.env).map (·.2) = [assign (.Subscript (.Name x p') ix sp) X.env])
    (r : SX X rest e' o) : SX X (.Assign [.Subscript (.Name x p') ix sp] ex pos :: rest) e o := sx_cons (s1_kput w h hix hn hz hu hv hasg hs hw h1) r
end
end SB
namespace SB
set_option maxRecDepth 100000
open PySem PySem.Spec PyProof.Rows L2
/-! ### list.remove over what may be compared -/
theorem toPyL_at : ∀ (ds : List D) (j : Nat), (toPyL ds)[j]? = ds[j]?.map toPy
  | [], j => by cases j <;> rfl
  | d :: ds, 0 => rfl
  | d :: ds, j + 1 => by
    show (toPyL ds)[j]? = _
    rw [toPyL_at ds j]; rfl
def rRemD (K : PySem.W.Frag) : V → List V → Hp → VK → Prop := fun x vs H Q => ∃ (l : Addr) (xs : List V) (y : V) (d : PyData) (ds : List PyData) (j : Nat) (z : PyData), x = .ref l ∧ vs = [y] ∧ H l = some (.lst xs) ∧ DpAll K H xs ds ∧ Dp K H y d ∧ PyData.canLayAll0 ds = true ∧ d.canLay0 = true ∧ d.depth ≤ 2 ∧
  ds[j]? = some z ∧ PyData.eqv z d = true ∧ (∀ (m : Nat) (z' : PyData), m < j → ds[m]? = some z' → PyData.eqv z' d = false) ∧ Q .non (upd H l (.lst (xs.eraseIdx j)))
theorem mt_remD {X : Cx} (hu : X.A.units + 65 < cLine) : MtM X "list.remove" (rRemD X.K) := by
  intro pins s σ H x vs v us Q I rx rv h
  obtain ⟨l, xs, y, d, ds, j, z, rfl, rfl, hH, hds, hd, c1, c2, c3, hz, hzj, hno, q⟩ := h
  cases rx
  obtain ⟨u, rfl, ru⟩ := rv.one
  obtain ⟨zl, its, n, r, hl, e⟩ := I.lstM hH
  obtain ⟨bs, r1⟩ := Dp.reads I d y u hd ru
  obtain ⟨as, h4⟩ := Dp.readsAll I ds xs its hds r
  have hroom : X.A.units + 1 + min (PyData.depthAll ds) d.depth < cLine := by
    have := Nat.min_le_right (PyData.depthAll ds) d.depth
    omega
  have hn : its.length = ds.length := SeqAt.ReadsAll.length ds its as h4
  have hmap : its.map (SeqAt.readOf s.heap) = ds := SeqAt.readsAll_map ds its as c1 h4
  obtain ⟨hjd, _⟩ := List.getElem?_eq_some_iff.mp hz
  have hjl : j < its.length := by omega
  have hj : j < its.toArray.size := by simpa using hjl
  have at_ : ∀ (m : Nat) (hm : m < its.toArray.size) (z' : PyData), ds[m]? = some z' → SeqAt.readOf s.heap its.toArray[m] = z' := by
    intro m hm z' hz'
    have hml : m < its.length := by simpa using hm
    rw [← hmap, List.getElem?_map, List.getElem?_eq_getElem hml] at hz'
    have e1 : SeqAt.readOf s.heap its[m] = z' := Option.some.inj (show some (SeqAt.readOf s.heap its[m]) = some z' from hz')
    simpa using e1
  refine call_meets PySem.F.slot_list_remove ⟨_, e, rfl⟩ PySem.F.entry_list_remove (PySem.F.args_list_remove_2 _ _)
    (PySem.SeqAt.list_removeAt l its.toArray n none #[] u (fun u => PyData.eqv (SeqAt.readOf s.heap u) d) j hj ?_ ?_ (by rw [List.size_toArray, ← hl]; exact zl)) ⟨e, SeqAt.items_eqAt (vs := its.toArray) (show ReadsAll s.heap its.toArray.toList ds as from h4) r1 c1 c2 hroom, ?_⟩
  · show PyData.eqv (SeqAt.readOf s.heap its.toArray[j]) d = true
    rw [at_ j hj z hz]
    exact hzj
  · intro m hm hmj
    have hmd : m < ds.length := by omega
    have hz' : ds[m]? = some ds[m] := List.getElem?_eq_getElem hmd
    show PyData.eqv (SeqAt.readOf s.heap its.toArray[m]) d = false
    rw [at_ m hm _ hz']
    exact hno m _ hmj hz'
  · refine ⟨.non, _, I.lset (its' := its.eraseIdx j) hH e ?_ (r.eraseIdx j) ?_, rfl, q⟩
    · show its.toArray.eraseIdxIfInBounds j = (its.eraseIdx j).toArray
      rw [List.eraseIdxIfInBounds_toArray]
    · have := len_erase xs j
      omega
theorem first_mk {α : Type} : ∀ {ms : List α} {m : α}, m ∈ ms → ∃ j : Nat, j < ms.length ∧ ms[j]? = some m ∧ ∀ i, i < j → ms[i]? ≠ some m
  | a :: ms, m, h => by
    by_cases e : a = m
    · exact ⟨0, Nat.succ_pos _, by rw [e]; rfl, fun i hi => absurd hi (Nat.not_lt_zero _)⟩
    · obtain ⟨j, h1, h2, h3⟩ := first_mk ((List.mem_cons.mp h).resolve_left fun z => e z.symm)
      refine ⟨j + 1, Nat.succ_lt_succ h1, h2, fun i hi => ?_⟩
      cases i with
      | zero => exact fun z => e (Option.some.inj z)
      | succ i => exact h3 i (by omega)
theorem isL_erase {K : PySem.W.Frag} {G : Hp} : ∀ {xs : List V} {ds : List D} (j : Nat), IsL K G xs ds → IsL K G (xs.eraseIdx j) (ds.eraseIdx j)
  | _, _, _, .nil => .nil
  | _, _, 0, .cons _ t => t
  | _, _, j + 1, .cons h t => .cons h (isL_erase j t)
theorem map_erase' {α β : Type} (f : α → β) : ∀ (l : List α) (j : Nat), (l.map f).eraseIdx j = (l.eraseIdx j).map f
  | [], _ => rfl
  | _ :: _, 0 => rfl
  | a :: l, j + 1 => by
    show f a :: (l.map f).eraseIdx j = _
    rw [map_erase' f l j]; rfl
section
variable {X : Cx} {R : Rsc} {rest : List Stmt} {e : Env'} {pos p' apos cpos : Pos} {ex : Expr} {x : Str} {i : Nat} {c c1 c2 : Nat} {O : Out → Prop} {ms : List Mk}
/-- x.remove(e): e one of x -/
theorem sn_remove (w0 : LkU e x (ms.map mkD) (ms.map mkD) e i) (h : NX R X ex (rd e) c1 (fun d => ∃ m ∈ ms, d = mkD m)) (hu : X.A.units + 65 < cLine) (hv : Vis X.env.scope x) (hbase : attributeBase (.Name x p') "remove" X.env (eval (.Name x p') X.env) = eval (.Name x p') X.env)
    (hfew : ((backTo cpos (starEach [ex] X.env)).all (fun x => !x.1) && (backToKw cpos (keywordEach [] X.env)).all (fun x => x.1.isSome) && decide ([ex].length + ([] : List Keyword).length + (if ([] : List Keyword).isEmpty then 0 else 1) < 30)) = true)
    (hline : (apos.endLine == cpos.line) = true) (hs : starEach [ex] X.env = (false, eval ex X.env) :: starEach [] X.env) (hplain : (backTo cpos (starEach [] X.env)).any (·.1) = false) (hsw : swapsWith (.Call (.Attribute (.Name x p') "remove" apos) [ex] [] cpos) none pos.line X.env = pure false)
    (r : ∀ j, j < ms.length → ∃ e', LkU e x (ms.map mkD) ((ms.eraseIdx j).map mkD) e' i ∧ SN R X rest e' c2 O) : SN R X (.Expr (.Call (.Attribute (.Name x p') "remove" apos) [ex] [] cpos) pos :: rest) e (c1 + c2) O := .mk fun C L A σ H E n hM dm z nd nl ph ow p => by
  obtain ⟨a, xs, m, hi, ha, l, k⟩ := ow.list w0 nd
  have hN : X.N[i]? = some x := by rw [C.names, rd_names]; exact w0.ix
  have hm : x ∈ X.N := List.mem_of_getElem? hN
  refine ws_cons (w1_of (ps_expr (pe_bm PySem.F.plainAttrs_list PySem.F.slot_list_remove PySem.F.type_list_remove (mt_remD hu) (pe_var hN hv (C.dbg _ hm).1 (C.dbg _ hm).2) (pa_cons (pe_w X ex) pa_nil hs) hbase hfew hline hs hplain) hsw) ?_)
  refine ⟨.ref a, hi, .inl ⟨rfl, xs, .inl (.inl ha)⟩, ?_⟩
  refine h.run C L σ H _ n (by omega) dm z ph (ow_rd nl ow) fun d v H1 f p1 o1 iv => ?_
  obtain ⟨mk, hmk, rfl⟩ := o1
  obtain ⟨j, hj, hj1, hj2⟩ := first_mk hmk
  obtain ⟨e', w, r⟩ := r j hj
  have C1 : CxN X (rd e') := C.up w.up hv
  have ow1 := ow_fr z nl ow f
  obtain ⟨a2, xs2, m2, hi2, ha2, l2, k2⟩ := ow1.list w nd
  cases hi.symm.trans hi2
  have nz : a ∉ R.Z := fun q => nl a m (z a q)
  have e0 := f.1 a _ nz ha
  cases e0.symm.trans ha2
  have q1 : DpAll X.K H1 xs (toPyL (ms.map mkD)) := dp_isL (l2.mono hid_sub) (noDkL_map (f := mkD) (fun m => Cd.nod (α := Mk) m) ms)
  have at_ : ∀ i : Nat, (toPyL (ms.map mkD))[i]? = ms[i]?.map fun m => toPy (mkD m) := fun i => by rw [toPyL_at, List.getElem?_map, Option.map_map]; rfl
  refine ⟨a, xs, v, toPy (mkD mk), toPyL (ms.map mkD), j, toPy (mkD mk), rfl, rfl, ha2, q1, Dp.mono' iv (Cd.nod (α := Mk) mk), layL_map (f := mkD) (fun m => Cd.lay (α := Mk) m) ms, Cd.lay (α := Mk) mk, Nat.le_trans (Cd.dep (α := Mk) mk) (by decide), by rw [at_, hj1]; rfl, ?_, fun i z' hi hz => ?_, ?_⟩
  · rw [show PyData.eqv (toPy (mkD mk)) (toPy (mkD mk)) = decide (mk = mk) from Cd.eqv (α := Mk) mk mk]; exact decide_eq_true rfl
  · rw [at_] at hz
    cases q : ms[i]? with
    | none => rw [q] at hz; cases hz
    | some m' =>
      rw [q] at hz
      cases hz
      rw [show PyData.eqv (toPy (mkD m')) (toPy (mkD mk)) = decide (m' = mk) from Cd.eqv (α := Mk) m' mk]
      exact decide_eq_false fun z => hj2 i hi (by rw [q, z])
  have hh : hid (upd H1 a (.lst (xs.eraseIdx j))) (A ++ L) = hid H1 (A ++ L) := hid_upd (List.mem_append_left _ m)
  have fz : FramZ R.Z A H (upd H1 a (.lst (xs.eraseIdx j))) := ⟨fun b q n1 n2 hb => by
    have hne : b ≠ a := fun y => n2 (by rw [y]; exact m)
    rw [upd_ne hne]; exact f.1 b q n1 hb, fun b n hb => by
    by_cases hba : b = a
    · exact absurd (hba ▸ m) n
    · rw [upd_ne hba]; exact f.2 b hb⟩
  refine r.run C1 L A σ _ E (n + c1) (by omega) (domZ_next dm nl fz) z nd nl (R.put p1 ha2 mut_lst nz _) ?_ fun o oo cx => PostN.up (by omega) ((p o oo cx).next fz fun a ha => .inl ha)
  rw [hh]
  refine k2 (Same.refl _) (fun b hb hne o ho => by rw [upd_ne hne]; exact ho) upd_same ?_
  rw [← map_erase']
  exact isL_erase j l2
end
section
variable {X : Cx} {R : Rsc} {tg e : Expr} {r : Rho} {ds : List D} {p pos : Pos}
/-- for .. in sorted(d): the keys in some order -/
theorem nix_sortD {ns : List Str} (h : EX X e r (.dk (ns.map Sum.inr) ds)) (hl : ns.length < 64) (hg : Gl X "sorted") (hm : X.mg "sorted" = none) (hs : starEach [e] X.env = [(false, eval e X.env)]) :
    NIX R X tg (.Call (.Name "sorted" p) [e] [] pos) r 0 (fun ys => ∃ zs : List Str, zs.Perm ns ∧ ys = zs.map D.str) := .mk fun C L σ H S n hM dm z ph I q => by
  refine wi_of (pi_list (pe_callB (call_sortedD C.calm) hg hm rfl (pa_cons (pe_w X e) pa_nil hs) (by decide) (by decide) hs rfl)) ?_
  refine h C L σ H _ dm I fun v H1 s1 i1 => ?_
  obtain ⟨a, vs, rfl, ha, hz, l⟩ := is_dk i1
  refine ⟨a, (ns.map Sum.inr).zip vs, ns, rfl, .inl (hid_sub _ _ ha), ?_, hl, fun ys p hp hsrt hn => ?_⟩
  · rw [List.map_fst_zip]; exact Nat.le_of_eq hz
  have s2 : Same H1 (upd H1 p (.lst (ys.map V.str))) := same_new hn
  have hpL : p ∉ L := (dm.mono s1).fresh hn
  have lI : ∀ (G : Hp) (l : List Str), IsL X.K G (l.map V.str) (l.map D.str) := fun G l => by
    induction l with
    | nil => exact .nil
    | cons x l ih => exact .cons (.str _) ih
  have at_ : ∀ {M : List Addr} {H2 : Hp}, Same (hid (upd H1 p (.lst (ys.map V.str))) L) (hid H2 M) → SqL X.K H2 p (ys.map V.str) := fun s3 => .inl (.inl (hid_sub _ _ (s3 _ _ (hid_of upd_same hpL))))
  refine ⟨p, rfl, ⟨_, .inl (.inl upd_same)⟩, q (ys.map D.str) _ _ (FrZ.of (s1.trans s2)) (R.st ph (s1.trans s2)) ⟨ys, hp, rfl⟩ ⟨fun M i H2 hi s3 => ?_, fun M H2 s3 => ?_, fun M i H2 x H3 d dm2 s3 hd hy => ?_⟩⟩
  · rw [List.length_map] at hi
    exact ⟨_, V.str ys[i], at_ s3, by rw [List.getElem?_map, List.getElem?_eq_getElem hi]; rfl⟩
  · exact ⟨_, at_ s3, by rw [List.length_map, List.length_map]; exact Nat.le_refl _⟩
  · obtain ⟨rfl, hy⟩ := hy
    obtain ⟨y, hyi, iy⟩ := (lI (hid _ M) ys).get hd
    have e := (hy _ (at_ s3)).symm.trans hyi
    obtain rfl := Option.some.inj e
    exact ⟨Same.refl _, iy⟩
end
section
variable {X : Cx} {e ea e' : Env'} {e1 e2 : Expr} {d : D} {ds : List D} {x y : Str} {i j : Nat} {p1 p2 p3 pos tp : Pos} {kk k2 : Nat}
/-- x, y = e, [..] with plain local names -/
theorem s1_parO2 (h1 : EX X e1 (hd' e) d) (h2 : FX X e2 (hd' e) ds) (w1 : UpE e x (.d d) ea i) (w2 : UpE ea y (.o ds) e' j) (hij : i ≠ j) (hx : X.env.scope.names.lookup x = some .local) (hy : X.env.scope.names.lookup y = some .local)
    (s1 : starEach [e1, e2] X.env = (false, eval e1 X.env) :: starEach [e2] X.env) (s2 : starEach [e2] X.env = (false, eval e2 X.env) :: starEach [] X.env)
    (hw : swappedStores [.Tuple [.Name x p1, .Name y p2] kk tp] (.Tuple [e1, e2] k2 p3) X.env = pure (some [x, y])) (hs : swapsWithSole [.Tuple [.Name x p1, .Name y p2] kk tp] (.Tuple [e1, e2] k2 p3) pos.line X.env = pure false) :
    S1 X (.Assign [.Tuple [.Name x p1, .Name y p2] kk tp] (.Tuple [e1, e2] k2 p3) pos) e (.nx e') := by
  constructor
  intro C
  have C1 : CxN X (rd ea) := C.up (rd_up w1) (.inl hx)
  have C2 : CxN X (rd e') := C1.up (rd_up w2) (.inl hy)
  refine ⟨C2, fun L A σ H E dm nd nl ow q => ?_⟩
  have hN : X.N[i]? = some x := by rw [C.names, rd_names]; exact w1.ix
  have hN2 : X.N[j]? = some y := by rw [C1.names, rd_names]; exact w2.ix
  refine w1_of (ps_par C.calm C.nd hN hN2 hij hx hy (pa_cons (pe_w X e1) (pa_cons (pe_w X e2) pa_nil s2) s1) hw hs) ?_
  have dmA := dom_own dm ow
  refine h1 (C.le (hd_le e)) (A ++ L) σ H _ dmA ow.hd fun v H1 sm iv => ?_
  refine h2 (C.le (hd_le e)) (A ++ L) σ H1 _ (dmA.mono sm) (ow.hd.mono (hid_mono sm)) fun p xs H2 n sm2 hp hl => ?_
  have sm03 := sm.trans sm2
  have n0 : H p = none := Same.free sm n
  refine ⟨v, .ref p, rfl, ?_⟩
  have ow3 : Ow X.K (hid H2 (p :: (A ++ L))) H2 σ e A := ow.mono (hid_new n0 sm03) (fun a _ o h => sm03 a o h)
  have hpA : p ∉ A := fun z => by obtain ⟨o, hy, _⟩ := ow.domM p z; rw [n0] at hy; cases hy
  obtain ⟨A2, sub, ow4⟩ := Ow.setd (iv.mono (hid_new n sm2)) ow3 w1
  obtain ⟨A1, m, nd1, ow5⟩ := Ow.seto hp hl ow4 (fun z => hpA (sub.subset z)) (sub.nodup nd) w2
  refine q A1 _ _ (Same.fram sm03) nd1 (fun a ha => (m a ha).imp (fun z => sub.subset z) fun z => by rw [z]; exact n0) (ow5.mono (fun b o hb => hid_of (hid_some hb).1 fun z => (hid_some hb).2 ?_) fun a _ o h => h)
  rcases List.mem_append.mp z with z | z
  · rcases m b z with z | z
    · exact List.mem_cons_of_mem _ (List.mem_append_left _ (sub.subset z))
    · exact z ▸ List.mem_cons_self
  · exact List.mem_cons_of_mem _ (List.mem_append_right _ z)
end
end SB
namespace SB
/-! ### which whites are good -/
inductive GK where
  | emp | dir | cov | all
  deriving DecidableEq
def Edge (S : Sta) (m n : Nat) : Prop := some n ∈ S.row m
inductive Cov (S : Sta) : Nat → Prop
  | grey {m n : Nat} : S.col m = .grey → Edge S m n → S.col n = .white → Cov S n
  | cov {m n : Nat} : Cov S m → Edge S m n → S.col n = .white → Cov S n
theorem Cov.white {S : Sta} {n : Nat} : Cov S n → S.col n = .white
  | .grey _ _ h => h
  | .cov _ _ h => h
def Dir (S : Sta) (n : Nat) : Prop := S.col n = .white ∧ ∃ m, S.col m = .grey ∧ Edge S m n
theorem Dir.cov {S : Sta} {n : Nat} (h : Dir S n) : Cov S n := let ⟨w, m, g, e⟩ := h; .grey g e w
def Good : GK → Sta → Nat → Prop
  | .emp => fun _ _ => False
  | .dir => Dir
  | .cov => Cov
  | .all => fun _ _ => True
/-! ### colours behind a step -/
theorem col_greyN (cs : List Col) (o : Option Nat) (x : Nat) : (greyN cs o).getD x .black = if o = some x ∧ cs.getD x .black = .white then .grey else cs.getD x .black := by
  unfold greyN
  cases o with
  | none => simp
  | some n =>
    by_cases h : cs.getD n .black = .white
    · simp only [h, if_true]
      rw [List.getD_eq_getElem?_getD, List.getElem?_set]
      by_cases e : n = x
      · subst e
        have hl : n < cs.length := by
          apply Classical.byContradiction
          intro hn
          rw [List.getD_eq_getElem?_getD, List.getElem?_eq_none (by omega)] at h
          cases h
        have h2 : cs[n] = .white := by simpa [List.getD_eq_getElem?_getD, hl] using h
        simp [hl, h2]
      · have e2 : ¬ (some n = some x) := fun z => e (Option.some.inj z)
        simp [e, e2, List.getD_eq_getElem?_getD]
    · simp only [h, if_false]
      by_cases e : some n = some x
      · have := Option.some.inj e
        subst this
        rw [if_neg (fun z => h z.2)]
      · rw [if_neg (fun z => e z.1)]
theorem col_greys : ∀ (ns : List (Option Nat)) (cs : List Col) (x : Nat), (greys cs ns).getD x .black = if some x ∈ ns ∧ cs.getD x .black = .white then .grey else cs.getD x .black
  | [], cs, x => by simp [greys]
  | o :: ns, cs, x => by
    show (greys (greyN cs o) ns).getD x .black = _
    rw [col_greys ns, col_greyN]
    by_cases h : cs.getD x .black = .white
    · by_cases h1 : o = some x <;> by_cases h2 : some x ∈ ns <;> simp [h, h1, h2, eq_comm] <;> simp_all
    · by_cases h1 : o = some x <;> by_cases h2 : some x ∈ ns <;> simp_all
theorem col_shade (cs : List Col) (n : Nat) (h : Bool) (x : Nat) : (shade cs n h).getD x .black = cs.getD x .black ∨ (shade cs n h).getD x .black = .grey := by
  unfold shade
  rw [List.getD_eq_getElem?_getD, List.getElem?_set]
  by_cases e : n = x
  · subst e
    by_cases hl : n < cs.length
    · simp only [if_true, hl]
      split
      · exact .inr rfl
      · exact .inl rfl
    · simp [hl, List.getD_eq_getElem?_getD, List.getElem?_eq_none (Nat.le_of_not_lt hl)]
  · simp [e, List.getD_eq_getElem?_getD]
theorem col_shade_at (cs : List Col) (n : Nat) (h : Bool) (hw : h = true ∨ cs.getD n .black = .white) (hl : n < cs.length) : (shade cs n h).getD n .black = .grey := by
  unfold shade
  rw [List.getD_eq_getElem?_getD, List.getElem?_set]
  have hc : cs.getD n .black = .white ∨ h = true := hw.symm
  simp only [if_true, hl, hc, Option.getD_some]
theorem col_oshade (cs : List Col) (o : Option Nat) (x : Nat) : (oshade cs o).getD x .black = cs.getD x .black ∨ (oshade cs o).getD x .black = .grey := by
  cases o with
  | none => exact .inl rfl
  | some n => exact col_shade cs n false x
theorem col_oshade_at (cs : List Col) (x : Nat) : (oshade cs (some x)).getD x .black ≠ .white := by
  show (shade cs x false).getD x .black ≠ .white
  by_cases h : cs.getD x .black = .white
  · have hl : x < cs.length := by
      apply Classical.byContradiction
      intro hn
      rw [List.getD_eq_getElem?_getD, List.getElem?_eq_none (by omega)] at h
      cases h
    rw [col_shade_at cs x false (.inr h) hl]
    simp
  · rcases col_shade cs x false x with e | e
    · rw [e]; exact h
    · rw [e]; simp
/-- a colour goes to grey or stays -/
def To (a b : Col) : Prop := b = a ∨ b = .grey
theorem To.trans {a b c : Col} (h : To a b) (g : To b c) : To a c := by
  rcases g with g | g
  · rw [g]; exact h
  · exact .inr g
theorem To.refl (a : Col) : To a a := .inl rfl
theorem To.white {a b : Col} (h : To a b) (w : b = .white) : a = .white := by
  rcases h with h | h
  · rw [← h, w]
  · rw [h] at w; cases w
theorem To.black {a b : Col} (h : To a b) (w : b = .black) : a = .black := by
  rcases h with h | h
  · rw [← h, w]
  · rw [h] at w; cases w
theorem To.grey {a b : Col} (h : To a b) (w : a = .grey) : b = .grey := by
  rcases h with h | h
  · rw [h, w]
  · exact h
theorem To.nwhite {a b : Col} (h : To a b) (w : a ≠ .white) : b ≠ .white := fun z => w (h.white z)
section
variable {T : List Mk} {S : Sta} {t b s : Nat} {o : Option Nat}
def key (T : List Mk) (S : Sta) (t b s : Nat) (o : Option Nat) (w : Who) : Prop := Mk.store (S.scn t) (S.col b) (S.ocol (S.at' b s)) (S.ocol o) w ∈ T
theorem store_col (x : Nat) : To (S.col x) ((storeCols T S t b s o).getD x .black) := by
  unfold storeCols
  simp only []
  have h1 : To (S.col x) ((if decide (Mk.store (S.scn t) (S.col b) (S.ocol (S.at' b s)) (S.ocol o) .holder ∈ T) = true then shade S.cols b true else S.cols).getD x .black) := by
    split
    · exact col_shade _ _ _ _
    · exact .inl rfl
  generalize (if decide (Mk.store (S.scn t) (S.col b) (S.ocol (S.at' b s)) (S.ocol o) .holder ∈ T) = true then shade S.cols b true else S.cols) = c1 at h1
  have h2 : To (S.col x) ((if decide (Mk.store (S.scn t) (S.col b) (S.ocol (S.at' b s)) (S.ocol o) .old ∈ T) = true then oshade c1 (S.at' b s) else c1).getD x .black) := by
    split
    · exact h1.trans (col_oshade _ _ _)
    · exact h1
  generalize (if decide (Mk.store (S.scn t) (S.col b) (S.ocol (S.at' b s)) (S.ocol o) .old ∈ T) = true then oshade c1 (S.at' b s) else c1) = c2 at h2
  split
  · exact h2.trans (col_oshade _ _ _)
  · exact h2
theorem store_new {x : Nat} (k : key T S t b s (some x) .new) : (storeCols T S t b s (some x)).getD x .black ≠ .white := by
  unfold storeCols
  simp only []
  have k' : decide (Mk.store (S.scn t) (S.col b) (S.ocol (S.at' b s)) (S.ocol (some x)) .new ∈ T) = true := decide_eq_true k
  rw [if_pos k']
  exact col_oshade_at _ _
theorem store_old {x : Nat} (k : key T S t b s o .old) (e : S.at' b s = some x) : (storeCols T S t b s o).getD x .black ≠ .white := by
  unfold storeCols
  simp only []
  have k' : decide (Mk.store (S.scn t) (S.col b) (S.ocol (S.at' b s)) (S.ocol o) .old ∈ T) = true := decide_eq_true k
  rw [if_pos k', e]
  split
  · exact To.nwhite (col_oshade _ _ _) (col_oshade_at _ _)
  · exact col_oshade_at _ _
theorem store_holder (k : key T S t b s o .holder) (hl : b < S.cols.length) : (storeCols T S t b s o).getD b .black = .grey := by
  unfold storeCols
  simp only []
  have k' : decide (Mk.store (S.scn t) (S.col b) (S.ocol (S.at' b s)) (S.ocol o) .holder ∈ T) = true := decide_eq_true k
  rw [if_pos k']
  have h1 := col_shade_at S.cols b true (.inl rfl) hl
  have h2 : ∀ q, (if q = true then oshade (shade S.cols b true) (S.at' b s) else shade S.cols b true).getD b .black = .grey := fun q => by
    split
    · exact To.grey (col_oshade _ _ _) h1
    · exact h1
  split
  · exact To.grey (col_oshade _ _ _) (h2 _)
  · exact h2 _
end
/-! ### steps that are possible -/
def Poss (S : Sta) : Stp → Prop
  | .scan n => S.col n = .grey ∧ n < S.slots.length
  | .visit t => t < S.held.length
  | .new t => t < S.held.length ∧ S.slots.length < 12
  | .drop t _ => t < S.held.length
  | .load t n s => t < S.held.length ∧ n ∈ S.hold t ∧ s < S.w ∧ (S.at' n s).isSome = true
  | .store t b s o => t < S.held.length ∧ b ∈ S.hold t ∧ s < S.w ∧ ∀ m, o = some m → m ∈ S.hold t
/-! ### what else changes -/
theorem mem_insN (n x : Nat) : ∀ l : List Nat, x ∈ insN n l → x = n ∨ x ∈ l
  | [], h => by simp [insN] at h; exact .inl h
  | m :: l, h => by
    unfold insN at h
    split at h
    · simpa using h
    · split at h
      · exact .inr h
      · rcases List.mem_cons.mp h with h | h
        · exact .inr (h ▸ List.mem_cons_self)
        · exact (mem_insN n x l h).imp id (List.mem_cons_of_mem _)
theorem hold_set (S : Sta) (hs : List (List Nat)) (t u : Nat) (l : List Nat) (x : Nat) (h : x ∈ (S.held.set t l).getD u []) : x ∈ S.hold u ∨ (u = t ∧ x ∈ l) := by
  rw [List.getD_eq_getElem?_getD, List.getElem?_set] at h
  by_cases e : t = u
  · subst e
    simp only [if_true] at h
    split at h
    · exact .inr ⟨rfl, h⟩
    · simp at h
  · rw [if_neg e] at h
    refine .inl ?_
    unfold Sta.hold
    rw [List.getD_eq_getElem?_getD]; exact h
theorem hold_next {T : List Mk} {S : Sta} {st : Stp} (u x : Nat) (h : x ∈ (next T S st).hold u) : x ∈ S.hold u ∨ (∃ t, st = .new t ∧ u = t ∧ x = S.slots.length) ∨ (∃ t n s, st = .load t n s ∧ u = t ∧ S.at' n s = some x) := by
  cases st with
  | scan n => exact .inl h
  | visit t => exact .inl h
  | store t b s o => exact .inl h
  | new t =>
    have h : x ∈ (S.held.set t (insN S.slots.length (S.held.getD t []))).getD u [] := h
    rcases hold_set S S.held t u _ x h with h | ⟨rfl, h⟩
    · exact .inl h
    · rcases mem_insN _ _ _ h with h | h
      · exact .inr (.inl ⟨u, rfl, rfl, h⟩)
      · exact .inl h
  | drop t n =>
    have h : x ∈ (S.held.set t ((S.hold t).filter fun m => m != n)).getD u [] := h
    rcases hold_set S S.held t u _ x h with h | ⟨rfl, h⟩
    · exact .inl h
    · exact .inl ((List.mem_filter.mp h).1)
  | load t n s =>
    cases q : S.at' n s with
    | none => simp only [next, q] at h; exact .inl h
    | some m =>
      simp only [next, q] at h
      have h : x ∈ (S.held.set t (insN m (S.held.getD t []))).getD u [] := h
      rcases hold_set S S.held t u _ x h with h | ⟨rfl, h⟩
      · exact .inl h
      · rcases mem_insN _ _ _ h with h | h
        · exact .inr (.inr ⟨u, n, s, rfl, rfl, by rw [q, h]⟩)
        · exact .inl h
theorem row_put (S : Sta) (b s : Nat) (o : Option Nat) (m : Nat) : (putRow S.slots b s o).getD m [] = if m = b then (S.row b).set s o else S.row m := by
  unfold putRow
  rw [List.getD_eq_getElem?_getD, List.getElem?_set]
  by_cases e : b = m
  · subst e
    simp only [if_true]
    by_cases hl : b < S.slots.length
    · rw [if_pos hl]; rfl
    · rw [if_neg hl]
      have : S.row b = [] := by unfold Sta.row; rw [List.getD_eq_getElem?_getD, List.getElem?_eq_none (by omega)]; rfl
      rw [this]; rfl
  · have e' : ¬ m = b := fun z => e z.symm
    simp only [e, e', if_false]
    unfold Sta.row
    rw [List.getD_eq_getElem?_getD]
/-- an edge behind a store is old or the new one; an edge that is lost is the old one -/
theorem edge_put {S : Sta} {b s : Nat} {o : Option Nat} {m x : Nat} (h : some x ∈ (putRow S.slots b s o).getD m []) : Edge S m x ∨ (m = b ∧ o = some x) := by
  rw [row_put] at h
  split at h
  · rename_i e
    subst e
    rcases List.mem_or_eq_of_mem_set h with h | h
    · exact .inl h
    · exact .inr ⟨rfl, h.symm⟩
  · exact .inl h
theorem edge_kept {S : Sta} {b s : Nat} {o : Option Nat} {m x : Nat} (h : Edge S m x) : some x ∈ (putRow S.slots b s o).getD m [] ∨ (m = b ∧ S.at' b s = some x) := by
  rw [row_put]
  split
  · rename_i e
    subst e
    have h : some x ∈ S.row m := h
    obtain ⟨i, hi⟩ := List.mem_iff_getElem?.mp h
    by_cases e : s = i
    · subst e
      right
      refine ⟨rfl, ?_⟩
      unfold Sta.at'
      rw [List.getD_eq_getElem?_getD, hi]; rfl
    · left
      refine List.mem_iff_getElem?.mpr ⟨i, ?_⟩
      rw [List.getElem?_set_ne e]; exact hi
  · exact .inl h
theorem row_new (S : Sta) (m x : Nat) : some x ∈ (S.slots ++ [List.replicate S.w none]).getD m [] ↔ Edge S m x := by
  unfold Edge Sta.row
  rw [List.getD_eq_getElem?_getD, List.getD_eq_getElem?_getD, List.getElem?_append]
  split
  · exact Iff.rfl
  · rename_i h
    rw [List.getElem?_eq_none (Nat.le_of_not_lt h)]
    constructor
    · intro z
      cases q : m - S.slots.length with
      | zero =>
        rw [q] at z
        simp [List.mem_replicate] at z
      | succ k => rw [q] at z; simp at z
    · intro z; simp at z
end SB
namespace SB
/-! ### what is asked of a table -/
def olds : List (Option Col) := [none, some .grey, some .black]
def TN (T : List Mk) : Prop := Mk.new true ∈ T
def TL (T : List Mk) (c : Col) : Prop := Mk.load true c ∈ T
def TInto (T : List Mk) (s : Bool) (o : Option Col) : Prop := Mk.store s .black o (some .white) .new ∈ T ∨ Mk.store s .black o (some .white) .holder ∈ T
def TB (T : List Mk) (s : Bool) : Prop := ∀ o ∈ olds, TInto T s o
def TO (T : List Mk) : Prop := TInto T false (some .white)
def TC (T : List Mk) (h : Col) : Prop := ∀ (s : Bool) (n : Option Col), Mk.store s h (some .white) n .old ∈ T
def GK.le : GK → GK → Bool
  | .emp, _ => true
  | .dir, .emp => false
  | .dir, _ => true
  | .cov, .cov => true
  | .cov, .all => true
  | .cov, _ => false
  | .all, .all => true
  | .all, _ => false
theorem Good.le {S : Sta} {x : Nat} : ∀ {a b : GK}, a.le b = true → Good a S x → Good b S x
  | .emp, _, _, h => h.elim
  | .dir, .dir, _, h => h
  | .dir, .cov, _, h => h.cov
  | .dir, .all, _, _ => trivial
  | .cov, .cov, _, h => h
  | .cov, .all, _, _ => trivial
  | .all, .all, _, h => h
  | .dir, .emp, l, _ => by cases l
  | .cov, .emp, l, _ => by cases l
  | .cov, .dir, l, _ => by cases l
  | .all, .emp, l, _ => by cases l
  | .all, .dir, l, _ => by cases l
  | .all, .cov, l, _ => by cases l
def Keep (T : List Mk) : GK → Prop
  | .emp => True
  | .dir => TC T .grey
  | .cov => TC T .grey ∧ TC T .white
  | .all => True
structure Fit (T : List Mk) (gh gb : GK) : Prop where
  kh : Keep T gh
  kb : Keep T gb
  n : gh = .all ∨ TN T
  lg : gh = .all ∨ TL T .grey ∨ gh = .dir ∨ gh = .cov
  lw : gh = .all ∨ TL T .white ∨ gh = .cov ∨ gh = .emp
  lb : gh = .all ∨ TL T .black ∨ gb.le gh = true
  bu : gb = .all ∨ TB T false
  ow : gb = .all ∨ TO T ∨ gb = .emp
  bs : gb = .all ∨ (TB T true ∧ gb = .emp) ∨ gh.le gb = true
structure Inv2 (gh gb : GK) (S : Sta) : Prop where
  held : ∀ t x, S.scn t = true → x ∈ S.hold t → S.col x = .white → Good gh S x
  black : ∀ m x, S.col m = .black → Edge S m x → S.col x = .white → Good gb S x
section
variable {T : List Mk} {S S' : Sta} {g gh gb : GK} {st : Stp}
theorem keep_dir (h1 : ∀ m x, S.col m = .grey → Edge S m x → S'.col x = .white → S'.col m = .grey ∧ Edge S' m x) {x : Nat} (h : Dir S x) (w : S'.col x = .white) : Dir S' x := by
  obtain ⟨_, m, hm, e⟩ := h
  exact ⟨w, m, h1 m x hm e w⟩
theorem keep_cov (h1 : ∀ m x, S.col m = .grey → Edge S m x → S'.col x = .white → S'.col m = .grey ∧ Edge S' m x) (h2 : ∀ m x, S.col m = .white → Edge S m x → S'.col x = .white → Edge S' m x)
    (h3 : ∀ m, S.col m = .white → S'.col m = .white ∨ S'.col m = .grey) {x : Nat} (h : Cov S x) : S'.col x = .white → Cov S' x := by
  induction h with
  | grey hm e _ => exact fun w => let ⟨a, b⟩ := h1 _ _ hm e w; .grey a b w
  | cov hm e _ ih =>
    intro w
    have e' := h2 _ _ hm.white e w
    rcases h3 _ hm.white with q | q
    · exact .cov (ih q) e' w
    · exact .grey q e' w
theorem keep_of (h1 : g = .dir ∨ g = .cov → ∀ m x, S.col m = .grey → Edge S m x → S'.col x = .white → S'.col m = .grey ∧ Edge S' m x) (h2 : g = .cov → ∀ m x, S.col m = .white → Edge S m x → S'.col x = .white → Edge S' m x)
    (h3 : ∀ m, S.col m = .white → S'.col m = .white ∨ S'.col m = .grey) {x : Nat} (h : Good g S x) (w : S'.col x = .white) : Good g S' x := by
  cases g with
  | emp => exact h
  | all => trivial
  | dir => exact keep_dir (h1 (.inl rfl)) h w
  | cov => exact keep_cov (h1 (.inr rfl)) (h2 rfl) h3 h w
theorem col_len {x : Nat} (O : S.Ok) (h : S.col x ≠ .black) : x < S.slots.length := by
  apply Classical.byContradiction
  intro hn
  refine h ?_
  unfold Sta.col
  rw [List.getD_eq_getElem?_getD, List.getElem?_eq_none (by rw [O.cl]; omega)]
  rfl
theorem edge_lt {m x : Nat} (O : S.Ok) (h : Edge S m x) : x < S.slots.length := by
  unfold Edge Sta.row at h
  rw [List.getD_eq_getElem?_getD] at h
  cases q : S.slots[m]? with
  | none => rw [q] at h; simp at h
  | some r =>
    rw [q] at h
    exact (O.row r (List.mem_of_getElem? q)).2 x h
theorem at_edge {n s m : Nat} (h : S.at' n s = some m) : Edge S n m := by
  unfold Sta.at' at h
  rw [List.getD_eq_getElem?_getD] at h
  cases q : (S.row n)[s]? with
  | none => rw [q] at h; cases h
  | some o =>
    rw [q] at h
    have e : o = some m := h
    subst e
    exact List.mem_of_getElem? q
/-- steps other than scan and new: what a step does to the colours -/
theorem col_same (O : S.Ok) (hs : ∀ n, st ≠ .scan n) (hn : ∀ t, st ≠ .new t) (x : Nat) : To (S.col x) ((next T S st).col x) := by
  cases st with
  | scan n => exact absurd rfl (hs n)
  | new t => exact absurd rfl (hn t)
  | visit t =>
    show To _ ((greys S.cols _).getD x .black)
    rw [col_greys]
    split
    · exact .inr rfl
    · exact .inl rfl
  | drop t n => exact .inl rfl
  | load t n s =>
    cases q : S.at' n s with
    | none => simp only [next, q]; exact .inl rfl
    | some m =>
      simp only [next, q]
      show To _ ((if Mk.load (S.scn t) (S.col n) ∈ T then greyN S.cols (some m) else S.cols).getD x .black)
      split
      · rw [col_greyN]
        split
        · exact .inr rfl
        · exact .inl rfl
      · exact .inl rfl
  | store t b s o => exact store_col x
theorem scan_col (n x : Nat) (O : S.Ok) (hn : n < S.slots.length) : (next T S (.scan n)).col x = if x = n then .black else if some x ∈ S.row n ∧ S.col x = .white then .grey else S.col x := by
  show ((greys S.cols (S.row n)).set n .black).getD x .black = _
  rw [List.getD_eq_getElem?_getD, List.getElem?_set]
  have hl : ∀ (ns : List (Option Nat)) (cs : List Col), (greys cs ns).length = cs.length := by
    intro ns
    induction ns with
    | nil => exact fun _ => rfl
    | cons o ns ih =>
      intro cs
      show (greys (greyN cs o) ns).length = _
      rw [ih]
      unfold greyN
      cases o with
      | none => rfl
      | some n => simp only []; split <;> simp
  by_cases e : n = x
  · subst e
    have : n < (greys S.cols (S.row n)).length := by rw [hl, O.cl]; exact hn
    simp [this]
  · have e' : ¬ x = n := fun z => e z.symm
    simp only [e, e', if_false]
    rw [← List.getD_eq_getElem?_getD, col_greys]
    rfl
theorem new_col (t x : Nat) (O : S.Ok) : (next T S (.new t)).col x = if x = S.slots.length then (if Mk.new (S.scn t) ∈ T then .black else .white) else S.col x := by
  show (S.cols ++ [_]).getD x .black = _
  unfold Sta.col
  rw [List.getD_eq_getElem?_getD, List.getElem?_append, O.cl, List.getD_eq_getElem?_getD]
  by_cases h : x < S.slots.length
  · rw [if_pos h, if_neg (by omega)]
  · rw [if_neg h, List.getElem?_eq_none (l := S.cols) (by rw [O.cl]; omega)]
    by_cases e : x = S.slots.length
    · subst e; simp
    · rw [if_neg e]
      have : x - S.slots.length = (x - S.slots.length - 1) + 1 := by omega
      rw [this]; rfl
/-- goodness is kept -/
theorem keep_next (O : S.Ok) (P : Poss S st) (K : Keep T g) {x : Nat} (h : Good g S x) (w : (next T S st).col x = .white) : Good g (next T S st) x := by
  cases st with
  | scan n =>
    obtain ⟨hg, hn⟩ := P
    have hc := fun x => scan_col (T := T) n x O hn
    have edge : ∀ m x, Edge S m x → Edge (next T S (.scan n)) m x := fun _ _ h => h
    refine keep_of (fun _ m x hm e w => ⟨?_, edge _ _ e⟩) (fun _ m x _ e _ => edge _ _ e) (fun m hm => ?_) h w
    · have hx := hc x
      rw [w] at hx
      have hm' := hc m
      by_cases e1 : m = n
      · subst e1
        exfalso
        by_cases e2 : x = m
        · rw [if_pos e2] at hx; cases hx
        · rw [if_neg e2] at hx
          by_cases q : S.col x = .white
          · rw [if_pos ⟨e, q⟩] at hx; cases hx
          · rw [if_neg (fun z => q z.2)] at hx; exact q hx.symm
      · rw [hm', if_neg e1, if_neg (fun z => by rw [z.2] at hm; cases hm)]; exact hm
    · have hm' := hc m
      have e1 : m ≠ n := fun z => by rw [z, hg] at hm; cases hm
      rw [if_neg e1] at hm'
      by_cases q : some m ∈ S.row n ∧ S.col m = .white
      · rw [if_pos q] at hm'; exact .inr hm'
      · rw [if_neg q, hm] at hm'; exact .inl hm'
  | new t =>
    have hc := fun x => new_col (T := T) t x O
    have edge : ∀ m x, Edge S m x → Edge (next T S (.new t)) m x := fun m x h => (row_new S m x).mpr h
    have old : ∀ m, S.col m ≠ .black → (next T S (.new t)).col m = S.col m := fun m hm => by
      have := col_len O hm
      rw [hc m, if_neg (by omega)]
    refine keep_of (fun _ m x hm e w => ⟨?_, edge _ _ e⟩) (fun _ m x _ e _ => edge _ _ e) (fun m hm => .inl ?_) h w
    · rw [old m (by rw [hm]; simp), hm]
    · rw [old m (by rw [hm]; simp), hm]
  | visit t =>
    have hc := fun x => col_same (T := T) (st := .visit t) O (fun _ z => nomatch z) (fun _ z => nomatch z) x
    exact keep_of (fun _ m x hm e w => ⟨(hc m).grey hm, e⟩) (fun _ m x _ e _ => e) (fun m hm => by rcases hc m with q | q; exact .inl (q.trans hm); exact .inr q) h w
  | drop t n => exact keep_of (S := S) (S' := next T S (.drop t n)) (fun _ m x hm e w => ⟨hm, e⟩) (fun _ m x _ e _ => e) (fun m hm => .inl hm) h w
  | load t n s =>
    have hc := fun x => col_same (T := T) (st := .load t n s) O (fun _ z => nomatch z) (fun _ z => nomatch z) x
    have edge : ∀ m x, Edge S m x → Edge (next T S (.load t n s)) m x := fun m x h => by
      cases q : S.at' n s with
      | none => simp only [next, q]; exact h
      | some k => simp only [next, q]; exact h
    exact keep_of (fun _ m x hm e w => ⟨(hc m).grey hm, edge _ _ e⟩) (fun _ m x _ e _ => edge _ _ e) (fun m hm => by rcases hc m with q | q; exact .inl (q.trans hm); exact .inr q) h w
  | store t b s o =>
    have hc := fun x => col_same (T := T) (st := .store t b s o) O (fun _ z => nomatch z) (fun _ z => nomatch z) x
    have edge : ∀ m x, TC T (S.col m) → Edge S m x → (next T S (.store t b s o)).col x = .white → Edge (next T S (.store t b s o)) m x := fun m x c h w => by
      rcases edge_kept (b := b) (s := s) (o := o) h with q | ⟨rfl, q⟩
      · exact q
      · exfalso
        have hx : S.col x = .white := (hc x).white w
        refine store_old (T := T) (S := S) (t := t) (b := m) (s := s) (o := o) ?_ q w
        unfold key
        have e1 : S.ocol (S.at' m s) = some .white := by rw [q]; show some (S.col x) = _; rw [hx]
        rw [e1]
        exact c _ _
    refine keep_of (fun hg m x hm e w => ⟨(hc m).grey hm, edge m x ?_ e w⟩) (fun hg m x hm e w => edge m x ?_ e w) (fun m hm => by rcases hc m with q | q; exact .inl (q.trans hm); exact .inr q) h w
    · rw [hm]
      rcases hg with rfl | rfl
      · exact K
      · exact K.1
    · rw [hm]
      subst hg
      exact K.2
theorem scn_next (u : Nat) (h : (next T S st).scn u = true) : S.scn u = true ∨ st = .visit u := by
  cases st with
  | visit t =>
    have h : (S.sc.set t true).getD u false = true := h
    rw [List.getD_eq_getElem?_getD, List.getElem?_set] at h
    by_cases e : t = u
    · exact .inr (by rw [e])
    · rw [if_neg e] at h
      refine .inl ?_
      unfold Sta.scn
      rw [List.getD_eq_getElem?_getD]; exact h
  | load t n s =>
    cases q : S.at' n s with
    | none => simp only [next, q] at h; exact .inl h
    | some m => simp only [next, q] at h; exact .inl h
  | scan n => exact .inl h
  | new t => exact .inl h
  | drop t n => exact .inl h
  | store t b s o => exact .inl h
/-- whites come from whites, but for the new -/
theorem white_next (O : S.Ok) (P : Poss S st) {x : Nat} (w : (next T S st).col x = .white) : S.col x = .white ∨ ∃ t, st = .new t ∧ x = S.slots.length ∧ Mk.new (S.scn t) ∉ T := by
  cases st with
  | scan n =>
    rw [scan_col n x O P.2] at w
    split at w
    · cases w
    · split at w
      · cases w
      · exact .inl w
  | new t =>
    rw [new_col t x O] at w
    split at w
    · split at w
      · cases w
      · exact .inr ⟨t, rfl, by assumption, by assumption⟩
    · exact .inl w
  | visit t => exact .inl ((col_same (T := T) (st := .visit t) O (fun _ z => nomatch z) (fun _ z => nomatch z) x).white w)
  | drop t n => exact .inl w
  | load t n s => exact .inl ((col_same (T := T) (st := .load t n s) O (fun _ z => nomatch z) (fun _ z => nomatch z) x).white w)
  | store t b s o => exact .inl ((col_same (T := T) (st := .store t b s o) O (fun _ z => nomatch z) (fun _ z => nomatch z) x).white w)
end
end SB
namespace SB
section
variable {T : List Mk} {S : Sta} {gh gb : GK} {st : Stp}
theorem load_shaded {t n s x : Nat} (q : S.at' n s = some x) (k : Mk.load (S.scn t) (S.col n) ∈ T) : (next T S (.load t n s)).col x ≠ .white := by
  simp only [next, q]
  show (if Mk.load (S.scn t) (S.col n) ∈ T then greyN S.cols (some x) else S.cols).getD x .black ≠ .white
  rw [if_pos k, col_greyN]
  split
  · simp
  · rename_i h
    exact fun z => h ⟨rfl, z⟩
theorem ocol_olds (o : Option Nat) : S.ocol o ∈ olds ∨ ∃ y, o = some y ∧ S.col y = .white := by
  cases o with
  | none => left; simp [olds, Sta.ocol]
  | some y =>
    cases q : S.col y with
    | white => exact .inr ⟨y, rfl, q⟩
    | grey => left; simp [olds, Sta.ocol, q]
    | black => left; simp [olds, Sta.ocol, q]
theorem into_shaded {t b s x : Nat} (O : S.Ok) (hb : S.col b = .black) (hl : b < S.slots.length) (hx : S.col x = .white) (k : TInto T (S.scn t) (S.ocol (S.at' b s)))
    (c : (next T S (.store t b s (some x))).col b = .black) (w : (next T S (.store t b s (some x))).col x = .white) : False := by
  have e : S.ocol (some x) = some .white := by show some (S.col x) = _; rw [hx]
  rcases k with k | k
  · exact store_new (T := T) (S := S) (t := t) (b := b) (s := s) (by unfold key; rw [hb, e]; exact k) w
  · have := store_holder (T := T) (S := S) (t := t) (b := b) (s := s) (o := some x) (by unfold key; rw [hb, e]; exact k) (by rw [O.cl]; exact hl)
    have c' : (storeCols T S t b s (some x)).getD b .black = .black := c
    rw [this] at c'
    cases c'
theorem hold_mem_lt (O : S.Ok) {t x : Nat} (h : x ∈ S.hold t) : x < S.slots.length := by
  unfold Sta.hold at h
  rw [List.getD_eq_getElem?_getD] at h
  cases q : S.held[t]? with
  | none => rw [q] at h; simp at h
  | some l =>
    rw [q] at h
    exact (O.held l (List.mem_of_getElem? q)).2 x h
theorem held_next (O : S.Ok) (P : Poss S st) (F : Fit T gh gb) (I : Inv2 gh gb S) (u x : Nat) (sc : (next T S st).scn u = true) (hm : x ∈ (next T S st).hold u) (w : (next T S st).col x = .white) : Good gh (next T S st) x := by
  by_cases hall : gh = .all
  · subst hall; trivial
  rcases white_next O P w with hw | ⟨t, rfl, hx, hN⟩
  · rcases hold_next u x hm with h | ⟨t, rfl, rfl, hx⟩ | ⟨t, n, s, rfl, rfl, q⟩
    · rcases scn_next u sc with h1 | rfl
      · exact keep_next O P F.kh (I.held u x h1 h hw) w
      · exfalso
        have w' : (greys S.cols ((S.hold u).map some)).getD x .black = .white := w
        rw [col_greys, if_pos ⟨List.mem_map.mpr ⟨x, h, rfl⟩, hw⟩] at w'
        cases w'
    · have := col_len O (x := x) (by rw [hw]; simp)
      omega
    · have h1 : S.scn u = true := (scn_next u sc).elim id fun z => nomatch z
      have P' := P
      obtain ⟨_, hn, _, _⟩ := P
      have e := at_edge q
      have sh : ∀ c, S.col n = c → TL T c → False := fun c hc k => load_shaded (T := T) (S := S) (t := u) q (by rw [h1, hc]; exact k) w
      cases hc : S.col n with
      | grey =>
        rcases F.lg with h | h | h | h
        · exact absurd h hall
        · exact (sh _ hc h).elim
        · subst h; exact keep_next (g := .dir) O P' F.kh ⟨hw, n, hc, e⟩ w
        · subst h; exact keep_next (g := .cov) O P' F.kh (.grey hc e hw) w
      | white =>
        rcases F.lw with h | h | h | h
        · exact absurd h hall
        · exact (sh _ hc h).elim
        · subst h; exact keep_next (g := .cov) O P' F.kh (.cov (I.held u n h1 hn hc) e hw) w
        · subst h; exact (I.held u n h1 hn hc).elim
      | black =>
        rcases F.lb with h | h | h
        · exact absurd h hall
        · exact (sh _ hc h).elim
        · exact keep_next O P' F.kh (Good.le h (I.black n x hc e hw)) w
  · rcases hold_next u x hm with h | ⟨t', h1, rfl, _⟩ | ⟨t', n, s, h1, _⟩
    · have := hold_mem_lt O h
      omega
    · cases h1
      have h1 : S.scn u = true := (scn_next u sc).elim id fun z => nomatch z
      rw [h1] at hN
      rcases F.n with h | h
      · exact absurd h hall
      · exact absurd h hN
    · cases h1
theorem black_next (O : S.Ok) (P : Poss S st) (F : Fit T gh gb) (I : Inv2 gh gb S) (m x : Nat) (hm : (next T S st).col m = .black) (e : Edge (next T S st) m x) (w : (next T S st).col x = .white) : Good gb (next T S st) x := by
  by_cases hall : gb = .all
  · subst hall; trivial
  cases st with
  | scan n =>
    have e' : Edge S m x := e
    have hx := scan_col (T := T) n x O P.2
    rw [w] at hx
    have hxn : x ≠ n := fun z => by rw [if_pos z] at hx; cases hx
    rw [if_neg hxn] at hx
    have hw : S.col x = .white := by
      split at hx
      · cases hx
      · exact hx.symm
    have hcm := scan_col (T := T) n m O P.2
    rw [hm] at hcm
    by_cases hmn : m = n
    · subst hmn
      rw [if_pos ⟨e', hw⟩] at hx
      cases hx
    · rw [if_neg hmn] at hcm
      have hmb : S.col m = .black := by
        split at hcm
        · cases hcm
        · exact hcm.symm
      exact keep_next O P F.kb (I.black m x hmb e' hw) w
  | new t =>
    have e' : Edge S m x := (row_new S m x).mp e
    have hxl := edge_lt O e'
    have hx := new_col (T := T) t x O
    rw [w, if_neg (by omega)] at hx
    have hml : m < S.slots.length := by
      apply Classical.byContradiction
      intro hn
      unfold Edge Sta.row at e'
      rw [List.getD_eq_getElem?_getD, List.getElem?_eq_none (by omega)] at e'
      simp at e'
    have hcm := new_col (T := T) t m O
    rw [hm, if_neg (by omega)] at hcm
    exact keep_next O P F.kb (I.black m x hcm.symm e' hx.symm) w
  | visit t =>
    have c := fun x => col_same (T := T) (st := .visit t) O (fun _ z => nomatch z) (fun _ z => nomatch z) x
    exact keep_next O P F.kb (I.black m x ((c m).black hm) e ((c x).white w)) w
  | drop t n => exact keep_next (st := .drop t n) O P F.kb (I.black m x hm e w) w
  | load t n s =>
    have c := fun x => col_same (T := T) (st := .load t n s) O (fun _ z => nomatch z) (fun _ z => nomatch z) x
    have e' : Edge S m x := by
      cases q : S.at' n s with
      | none => simp only [next, q] at e; exact e
      | some k => simp only [next, q] at e; exact e
    exact keep_next O P F.kb (I.black m x ((c m).black hm) e' ((c x).white w)) w
  | store t b s o =>
    have c := fun x => col_same (T := T) (st := .store t b s o) O (fun _ z => nomatch z) (fun _ z => nomatch z) x
    have hmb := (c m).black hm
    have hw := (c x).white w
    have P' := P
    obtain ⟨_, hb, _, ho⟩ := P
    rcases edge_put e with e' | ⟨rfl, rfl⟩
    · exact keep_next O P' F.kb (I.black m x hmb e' hw) w
    · have hml := hold_mem_lt O hb
      have bad : ∀ sc, S.scn t = sc → TInto T sc (S.ocol (S.at' m s)) → False := fun sc h k => into_shaded (T := T) O hmb hml hw (by rw [h]; exact k) hm w
      have emp : gb = .emp → S.ocol (S.at' m s) ∈ olds := fun h => by
        rcases ocol_olds (S := S) (S.at' m s) with q | ⟨y, q, wy⟩
        · exact q
        · subst h; exact (I.black m y hmb (at_edge q) wy).elim
      cases sc : S.scn t with
      | true =>
        rcases F.bs with h | ⟨h, h'⟩ | h
        · exact absurd h hall
        · exact (bad _ sc (h _ (emp h'))).elim
        · exact keep_next O P' F.kb (Good.le h (I.held t x sc (ho x rfl) hw)) w
      | false =>
        have bu : TB T false := F.bu.elim (fun h => absurd h hall) id
        rcases ocol_olds (S := S) (S.at' m s) with q | ⟨y, q, wy⟩
        · exact (bad _ sc (bu _ q)).elim
        · rcases F.ow with h | h | h
          · exact absurd h hall
          · refine (bad _ sc ?_).elim
            rw [q]
            show TInto T false (some (S.col y))
            rw [wy]; exact h
          · subst h; exact (I.black m y hmb (at_edge q) wy).elim
theorem inv_next (O : S.Ok) (P : Poss S st) (F : Fit T gh gb) (I : Inv2 gh gb S) : Inv2 gh gb (next T S st) := ⟨held_next O P F I, black_next O P F I⟩
/-! ### what was out of reach -/
structure Away (R : Nat → Prop) (S : Sta) : Prop where
  held : ∀ t x, x ∈ S.hold t → R x
  slots : ∀ m x, R m → Edge S m x → R x
  col : ∀ x, x < S.slots.length → S.col x ≠ .white → R x
  big : ∀ x, S.slots.length ≤ x → R x
theorem shade_src (cs : List Col) (n : Nat) (h : Bool) (x : Nat) (c : (shade cs n h).getD x .black ≠ cs.getD x .black) : x = n := by
  apply Classical.byContradiction
  intro e
  refine c ?_
  unfold shade
  rw [List.getD_eq_getElem?_getD, List.getElem?_set_ne (fun z => e z.symm), ← List.getD_eq_getElem?_getD]
theorem oshade_src (cs : List Col) (o : Option Nat) (x : Nat) (c : (oshade cs o).getD x .black ≠ cs.getD x .black) : o = some x := by
  cases o with
  | none => exact absurd rfl c
  | some n => rw [shade_src cs n false x c]
theorem store_src {t b s : Nat} {o : Option Nat} (x : Nat) (c : (storeCols T S t b s o).getD x .black ≠ S.col x) : x = b ∨ S.at' b s = some x ∨ o = some x := by
  apply Classical.byContradiction
  intro h
  simp only [not_or] at h
  obtain ⟨h1, h2, h3⟩ := h
  refine c ?_
  unfold storeCols
  simp only []
  have q1 : (if decide (Mk.store (S.scn t) (S.col b) (S.ocol (S.at' b s)) (S.ocol o) .holder ∈ T) = true then shade S.cols b true else S.cols).getD x .black = S.col x := by
    split
    · exact Classical.byContradiction fun z => h1 (shade_src _ _ _ _ z)
    · rfl
  generalize (if decide (Mk.store (S.scn t) (S.col b) (S.ocol (S.at' b s)) (S.ocol o) .holder ∈ T) = true then shade S.cols b true else S.cols) = c1 at q1
  have q2 : (if decide (Mk.store (S.scn t) (S.col b) (S.ocol (S.at' b s)) (S.ocol o) .old ∈ T) = true then oshade c1 (S.at' b s) else c1).getD x .black = S.col x := by
    split
    · exact (Classical.byContradiction fun z => h2 (oshade_src _ _ _ z)).trans q1
    · exact q1
  generalize (if decide (Mk.store (S.scn t) (S.col b) (S.ocol (S.at' b s)) (S.ocol o) .old ∈ T) = true then oshade c1 (S.at' b s) else c1) = c2 at q2
  split
  · exact (Classical.byContradiction fun z => h3 (oshade_src _ _ _ z)).trans q2
  · exact q2
theorem len_next (st : Stp) : S.slots.length ≤ (next T S st).slots.length := by
  cases st with
  | new t => show _ ≤ (S.slots ++ [_]).length; rw [List.length_append]; omega
  | load t n s => simp only [next]; split <;> exact Nat.le_refl _
  | store t b s o => show _ ≤ (putRow S.slots b s o).length; unfold putRow; rw [List.length_set]; exact Nat.le_refl _
  | scan n => exact Nat.le_refl _
  | visit n => exact Nat.le_refl _
  | drop t n => exact Nat.le_refl _
theorem away_next {R : Nat → Prop} (O : S.Ok) (P : Poss S st) (W : Away R S) : Away R (next T S st) := by
  refine ⟨fun u x hm => ?_, fun m x hm e => ?_, fun x hl hc => ?_, fun x h => W.big x (Nat.le_trans (len_next st) h)⟩
  · rcases hold_next u x hm with h | ⟨t, rfl, rfl, hx⟩ | ⟨t, n, s, rfl, rfl, q⟩
    · exact W.held u x h
    · exact W.big x (by omega)
    · exact W.slots n x (W.held u n P.2.1) (at_edge q)
  · cases st with
    | new t => exact W.slots m x hm ((row_new S m x).mp e)
    | load t n s =>
      refine W.slots m x hm ?_
      cases q : S.at' n s with
      | none => simp only [next, q] at e; exact e
      | some k => simp only [next, q] at e; exact e
    | store t b s o =>
      rcases edge_put e with e' | ⟨rfl, rfl⟩
      · exact W.slots m x hm e'
      · exact W.held t x (P.2.2.2 x rfl)
    | scan n => exact W.slots m x hm e
    | visit n => exact W.slots m x hm e
    | drop t n => exact W.slots m x hm e
  · cases st with
    | scan n =>
      have hx := scan_col (T := T) n x O P.2
      have hn : R n := W.col n P.2 (by rw [P.1]; simp)
      by_cases e : x = n
      · rw [e]; exact hn
      · rw [if_neg e] at hx
        split at hx
        · rename_i h; exact W.slots n x hn h.1
        · exact W.col x hl (by rw [← hx]; exact hc)
    | visit t =>
      have hc' : (greys S.cols ((S.hold t).map some)).getD x .black ≠ .white := hc
      rw [col_greys] at hc'
      split at hc'
      · rename_i h
        obtain ⟨y, hy, ey⟩ := List.mem_map.mp h.1
        rw [← Option.some.inj ey]; exact W.held t y hy
      · exact W.col x hl hc'
    | new t =>
      have hx := new_col (T := T) t x O
      by_cases e : x = S.slots.length
      · exact W.big x (by omega)
      · rw [if_neg e] at hx
        refine W.col x ?_ (by rw [← hx]; exact hc)
        have hl : x < (S.slots ++ [List.replicate S.w none]).length := hl
        rw [List.length_append, List.length_singleton] at hl
        omega
    | drop t n => exact W.col x hl hc
    | load t n s =>
      cases q : S.at' n s with
      | none => simp only [next, q] at hc hl; exact W.col x hl hc
      | some k =>
        simp only [next, q] at hc hl
        have hc' : (if Mk.load (S.scn t) (S.col n) ∈ T then greyN S.cols (some k) else S.cols).getD x .black ≠ .white := hc
        split at hc'
        · rw [col_greyN] at hc'
          split at hc'
          · rename_i h
            rw [← Option.some.inj h.1]
            exact W.slots n k (W.held t n P.2.1) (at_edge q)
          · exact W.col x hl hc'
        · exact W.col x hl hc'
    | store t b s o =>
      have hl' : x < S.slots.length := by
        have hl : x < (putRow S.slots b s o).length := hl
        unfold putRow at hl
        rwa [List.length_set] at hl
      by_cases q : (storeCols T S t b s o).getD x .black = S.col x
      · refine W.col x hl' ?_
        rw [← q]; exact hc
      · have hb := W.held t b P.2.1
        rcases store_src x q with h | h | h
        · rw [h]; exact hb
        · exact W.slots b x hb (at_edge h)
        · exact W.held t x (P.2.2.2 x h)
end
end SB
namespace SB
/-! ### possible steps, as the law lists them -/
theorem greyN_lenm (cs : List Col) (o : Option Nat) : (greyN cs o).length = cs.length := by
  cases o with
  | none => rfl
  | some n =>
    show (if cs.getD n .black = .white then cs.set n .grey else cs).length = _
    by_cases h : cs.getD n .black = .white
    · rw [if_pos h, List.length_set]
    · rw [if_neg h]
theorem greys_lenm : ∀ (ns : List (Option Nat)) (cs : List Col), (greys cs ns).length = cs.length
  | [], _ => rfl
  | o :: ns, cs => by
    show (greys (greyN cs o) ns).length = _
    rw [greys_lenm ns, greyN_lenm]
theorem oshade_lenm (cs : List Col) (o : Option Nat) : (oshade cs o).length = cs.length := by
  cases o with
  | none => rfl
  | some n => exact List.length_set
theorem storeCols_lenm (T : List Mk) (S : Sta) (t b s : Nat) (o : Option Nat) : (storeCols T S t b s o).length = S.cols.length := by
  have h1 : ∀ (q : Bool) (cs : List Col) (o : Option Nat), (if q = true then oshade cs o else cs).length = cs.length := fun q cs o => by cases q; rfl; exact oshade_lenm cs o
  have h2 : ∀ (q : Bool), (if q = true then shade S.cols b true else S.cols).length = S.cols.length := fun q => by cases q; rfl; exact List.length_set
  unfold storeCols
  simp only []
  rw [h1, h1, h2]
theorem hold_ok {S : Sta} (O : S.Ok) (t : Nat) : (S.hold t).Pairwise (· < ·) ∧ ∀ n ∈ S.hold t, n < S.slots.length := by
  unfold Sta.hold
  rw [List.getD_eq_getElem?_getD]
  cases h : S.held[t]? with
  | none => exact ⟨List.Pairwise.nil, fun n hn => by simp at hn⟩
  | some l => exact O.held l (List.mem_of_getElem? h)
theorem row_ok {S : Sta} (O : S.Ok) (b : Nat) (n : Nat) (h : some n ∈ S.row b) : n < S.slots.length := by
  unfold Sta.row at h
  rw [List.getD_eq_getElem?_getD] at h
  cases e : S.slots[b]? with
  | none => rw [e] at h; simp at h
  | some l => rw [e] at h; exact (O.row l (List.mem_of_getElem? e)).2 n h
theorem addH_ok {S : Sta} (O : S.Ok) {t n m : Nat} (hm : S.slots.length ≤ m) (hn : n < m) : ∀ h ∈ addH S.held t n, h.Pairwise (· < ·) ∧ ∀ k ∈ h, k < m := by
  intro h hh
  rcases List.mem_or_eq_of_mem_set hh with q | q
  · exact ⟨(O.held h q).1, fun k hk => Nat.lt_of_lt_of_le ((O.held h q).2 k hk) hm⟩
  · have := hold_ok O t
    rw [q]
    refine ⟨asc_ins n _ this.1, fun k hk => ?_⟩
    rcases mem_insN n k _ hk with z | z
    · omega
    · exact Nat.lt_of_lt_of_le (this.2 k z) hm
theorem at_mem {S : Sta} {n s m : Nat} (h : S.at' n s = some m) : some m ∈ S.row n := by
  unfold Sta.at' at h
  rw [List.getD_eq_getElem?_getD] at h
  cases e : (S.row n)[s]? with
  | none => rw [e] at h; cases h
  | some o => rw [e] at h; cases h; exact List.mem_of_getElem? e
theorem ok_next {T : List Mk} {S : Sta} {st : Stp} (O : S.Ok) (P : Poss S st) : (next T S st).Ok := by
  cases st with
  | scan n => exact ⟨O.w1, O.w4, O.n12, O.t4, by show (List.set _ _ _).length = _; rw [List.length_set, greys_lenm]; exact O.cl, O.sl, O.row, O.held⟩
  | visit t => exact ⟨O.w1, O.w4, O.n12, O.t4, by show (greys _ _).length = _; rw [greys_lenm]; exact O.cl, by show (List.set _ _ _).length = _; rw [List.length_set]; exact O.sl, O.row, O.held⟩
  | new t =>
    obtain ⟨ht, hl⟩ := P
    refine ⟨O.w1, O.w4, ?_, ?_, ?_, ?_, ?_, ?_⟩
    · show (S.slots ++ _).length ≤ 12; rw [List.length_append]; exact hl
    · show (addH _ _ _).length ≤ 4; unfold addH; rw [List.length_set]; exact O.t4
    · show (S.cols ++ _).length = (S.slots ++ _).length; rw [List.length_append, List.length_append, O.cl]; rfl
    · show _ = (addH _ _ _).length; unfold addH; rw [List.length_set]; exact O.sl
    · intro r hr
      show _ ∧ ∀ n, some n ∈ r → n < (S.slots ++ _).length
      rw [List.length_append]
      rcases List.mem_append.mp hr with q | q
      · exact ⟨(O.row r q).1, fun n hn => Nat.lt_of_lt_of_le ((O.row r q).2 n hn) (Nat.le_add_right ..)⟩
      · rw [List.mem_singleton.mp q]
        exact ⟨List.length_replicate, fun n hn => by have := List.eq_of_mem_replicate hn; cases this⟩
    · intro h hh
      have : (next T S (.new t)).slots.length = S.slots.length + 1 := by show (S.slots ++ _).length = _; rw [List.length_append]; rfl
      rw [this]
      exact addH_ok O (Nat.le_succ _) (Nat.lt_succ_self _) h hh
  | drop t n =>
    refine ⟨O.w1, O.w4, O.n12, ?_, O.cl, ?_, O.row, ?_⟩
    · show (List.set _ _ _).length ≤ 4; rw [List.length_set]; exact O.t4
    · show _ = (List.set _ _ _).length; rw [List.length_set]; exact O.sl
    · intro h hh
      rcases List.mem_or_eq_of_mem_set hh with q | q
      · exact O.held h q
      · rw [q]
        have := hold_ok O t
        exact ⟨this.1.sublist List.filter_sublist, fun k hk => this.2 k (List.mem_filter.mp hk).1⟩
  | load t n s =>
    obtain ⟨ht, hn, hs, hi⟩ := P
    obtain ⟨m, hm⟩ := Option.isSome_iff_exists.mp hi
    have hml := row_ok O n m (at_mem hm)
    show (match S.at' n s with | none => S | some m => _).Ok
    rw [hm]
    refine ⟨O.w1, O.w4, O.n12, ?_, ?_, ?_, O.row, addH_ok O (Nat.le_refl _) hml⟩
    · show (addH _ _ _).length ≤ 4; unfold addH; rw [List.length_set]; exact O.t4
    · show (if Mk.load (S.scn t) (S.col n) ∈ T then greyN S.cols (some m) else S.cols).length = _
      split
      · rw [greyN_lenm]; exact O.cl
      · exact O.cl
    · show _ = (addH _ _ _).length; unfold addH; rw [List.length_set]; exact O.sl
  | store t b s o =>
    obtain ⟨ht, hb, hs, ho⟩ := P
    have hH := hold_ok O t
    have e : (next T S (.store t b s o)).slots.length = S.slots.length := by show (putRow _ _ _ _).length = _; unfold putRow; rw [List.length_set]
    refine ⟨O.w1, O.w4, by rw [e]; exact O.n12, O.t4, ?_, O.sl, ?_, ?_⟩
    · rw [e]; show (storeCols T S t b s o).length = _; rw [storeCols_lenm]; exact O.cl
    · intro r hr
      rw [e]
      rcases List.mem_or_eq_of_mem_set hr with q | q
      · exact O.row r q
      · have hbl := hH.2 b hb
        have hrow := O.row (S.slots.getD b []) (by rw [List.getD_eq_getElem?_getD, List.getElem?_eq_getElem hbl]; exact List.getElem_mem hbl)
        rw [q]
        refine ⟨by rw [List.length_set]; exact hrow.1, fun n hn => ?_⟩
        rcases List.mem_or_eq_of_mem_set hn with z | z
        · exact hrow.2 n z
        · exact hH.2 n (ho n z.symm)
    · intro h hh
      rw [e]; exact O.held h hh
theorem poss_of_steps {ag : Bool} {S : Sta} {st : Stp} (O : S.Ok) (h : st ∈ steps ag S) : Poss S st := by
  unfold steps at h
  split at h
  · simp at h
  rcases List.mem_append.mp h with h | h
  · obtain ⟨n, hn, rfl⟩ := List.mem_map.mp h
    obtain ⟨h1, h2⟩ := List.mem_filter.mp hn
    have h1 := List.mem_range.mp h1
    rw [O.cl] at h1
    exact ⟨of_decide_eq_true h2, h1⟩
  · obtain ⟨t, ht, h⟩ := List.mem_flatMap.mp h
    have ht := List.mem_range.mp ht
    unfold stepsOf at h
    rcases List.mem_append.mp h with h | h
    · rcases List.mem_append.mp h with h | h
      · split at h
        · rw [List.mem_singleton.mp h]; exact ht
        · simp at h
      · split at h
        · rename_i q
          rw [List.mem_singleton.mp h]; exact ⟨ht, q⟩
        · simp at h
    · obtain ⟨n, hn, h⟩ := List.mem_flatMap.mp h
      unfold stepsAt at h
      rcases List.mem_cons.mp h with rfl | h
      · exact ht
      · obtain ⟨s, hs, h⟩ := List.mem_flatMap.mp h
        have hs := List.mem_range.mp hs
        rcases List.mem_append.mp h with h | h
        · split at h
          · rename_i q
            rw [List.mem_singleton.mp h]; exact ⟨ht, hn, hs, q⟩
          · simp at h
        · obtain ⟨o, ho, rfl⟩ := List.mem_map.mp h
          refine ⟨ht, hn, hs, fun m e => ?_⟩
          rcases List.mem_cons.mp ho with z | z
          · rw [e] at z; cases z
          · obtain ⟨k, hk, z⟩ := List.mem_map.mp z
            rw [e] at z; cases z; exact hk
theorem good_of_poss {S : Sta} {st : Stp} (O : S.Ok) (P : Poss S st) : st.Good S := by
  cases st with
  | scan n => exact P.2
  | visit t => exact P
  | new t => exact P.1
  | drop t n => exact P
  | load t n s => exact ⟨P.1, (hold_ok O t).2 n P.2.1, P.2.2.1, P.2.2.2⟩
  | store t b s o => exact ⟨P.1, (hold_ok O t).2 b P.2.1, P.2.2.1, fun n e => (hold_ok O t).2 n (P.2.2.2 n e)⟩
/-- the states of all runs -/
inductive Run (T : List Mk) (ag : Bool) (S0 : Sta) : Sta → Prop
  | start : Run T ag S0 S0
  | step {S : Sta} {st : Stp} : Run T ag S0 S → st ∈ steps ag S → Run T ag S0 (next T S st)
theorem Run.ok {T : List Mk} {ag : Bool} {S0 S : Sta} (O : S0.Ok) : Run T ag S0 S → S.Ok
  | .start => O
  | .step r h => ok_next (r.ok O) (poss_of_steps (r.ok O) h)
end SB
namespace SB
open PySem PySem.Spec PyProof.Rows L2
local macro_rules
  | `(tactic| walk_at "lkr") => `(tactic| with_reducible first | exact lkr_d | (apply lkr_n; walk_at "lkr") | exact lkr_o | exact lkr_k)
local macro_rules
  | `(tactic| walk_at "lkh") => `(tactic| with_reducible first | exact lkh_d | (apply lkh_n; walk_at "lkh"))
local macro_rules
  | `(tactic| walk_at "lk0") => `(tactic| with_reducible first | exact Lk.here | (apply Lk.next; walk_at "lk0"))
local macro_rules
  | `(tactic| walk_at "lk") => `(tactic| first | ((with_reducible apply g_rd); walk_at "lkr") | ((with_reducible apply g_hd); walk_at "lkh") | walk_at "lk0")
local macro_rules
  | `(tactic| walk_at "up") => `(tactic| with_reducible first | exact UpE.here | exact LkU.here | exact Up.here | (apply UpE.next; walk_at "up") | (apply LkU.next; walk_at "up") | (apply Up.next; walk_at "up"))
local macro_rules
  | `(tactic| walk_at "le") => `(tactic| with_reducible first | exact LeE.nil | (apply LeE.same; walk_at "le") | (apply LeE.u; walk_at "le") | ((apply LeE.eqd) <;> first | walk_at "le" | skip) | ((apply LeE.eqo) <;> first | walk_at "le" | skip) | ((apply LeE.eqk) <;> first | walk_at "le" | skip))
local macro_rules
  | `(tactic| walk_at "eq") => `(tactic| first
    | ((with_reducible apply at_is); first | assumption | exact rfl)
    | ((with_reducible apply st_is); kernel_rfl)
    | ((with_reducible apply bh_is); first | exact nomark _ | kernel_rfl)
    | ((with_reducible apply bk_is); kernel_rfl)
    | ((with_reducible apply sw_is); kernel_rfl)
    | ((with_reducible apply mg_is); assumption)
    | ((with_reducible apply im_is); first | rfl | exact imm_opt _ | exact imm_stp _ | exact imm_sta _)
    | ((with_reducible apply il_is); first | rfl | (exact imm_ifl rfl) | exact immL_nat _ | exact immL_opt _ | exact immL_stp _ | exact immL_mk _ | exact imm_ifl (imm_stp _))
    | ((with_reducible apply sp_is); kernel_rfl)
    | ((with_reducible apply as_is); rfl)
    | ((with_reducible apply an_is); rfl)
    | ((with_reducible apply ai_is); kernel_rfl)
    | ((with_reducible apply ss_is); kernel_rfl)
    | ((with_reducible apply ll_is); kernel_rfl)
    | ((with_reducible apply ab_is); kernel_rfl)
    | ((with_reducible apply fw_is); kernel_rfl)
    | ((with_reducible apply ln_is); kernel_rfl)
    | ((with_reducible apply bb_is); rfl)
    | ((with_reducible apply db_is); decide)
    | ((with_reducible apply ixn_is); assumption)
    | ((with_reducible apply bc_is); decide +kernel)
    | ((with_reducible apply nm_is); rfl)
    | ((with_reducible apply cs_is); decide +kernel)
    | ((with_reducible apply lk_is); first | assumption | rfl)
    | ((with_reducible apply sc_is); rfl)
    | with_reducible exact kx_nil
    | ((with_reducible apply bl_is); first | assumption | rfl | decide +kernel)
    | with_reducible assumption)
local macro_rules
  | `(tactic| walk_at "sy") => `(tactic| first
    | ((with_reducible apply eq_is); first | walk_at "eq" | skip)
    | ((with_reducible apply g_UpE); walk_at "up")
    | ((with_reducible apply g_LkU); walk_at "up")
    | ((with_reducible apply g_Up); walk_at "up")
    | ((with_reducible apply sq_is); first | exact sq_t | exact sq_l)
    | ((with_reducible apply gl_is2); kernel_rfl)
    | ((with_reducible apply lc_is); first | exact .inl rfl | exact .inr rfl)
    | ((with_reducible apply fn_is); first | exact .inr rfl | exact .inl rfl)
    | ((with_reducible apply px_is); intro _ _; rfl)
    | ((with_reducible apply ns_is); intro _ _; rfl)
    | ((with_reducible apply cal_is); assumption)
    | ((with_reducible apply room_is); assumption)
    | ((with_reducible apply sz_is); first | assumption | exact Nat.le_of_ble_eq_true rfl)
    | ((with_reducible apply sl_is); first | assumption | exact Nat.le_of_ble_eq_true rfl)
    | ((with_reducible apply lt_is); assumption)
    | ((with_reducible apply le_is); assumption)
    | ((with_reducible apply vs_is); first | exact .inl rfl | exact .inr (.inl rfl) | exact .inr (.inr rfl))
    | ((with_reducible apply gc_is); assumption)
    | ((with_reducible refine' iw_is ?_); intro _; rfl)
    | ((with_reducible refine' fo_is ?_); intro _; rfl)
    | ((with_reducible refine' as2_is ?_); intro _; rfl)
    | ((with_reducible apply nn_is); decide))
local macro_rules
  | `(tactic| walk_at "op") => `(tactic| first
    | ((with_reducible apply g_oEq); first | exact o_white | exact o_grey | exact o_black | exact o_eqs | exact o_eqNat | exact o_eqi | exact o_stpEq (ru (by assumption)) | skip)
    | ((with_reducible apply g_oAdd); first | exact o_add | (apply o_cat; walk_at "sy") | apply o_cat | apply op2_catl | apply o_adds | skip)
    | ((with_reducible apply g_oNe); first | exact o_nwhite | exact o_nes | exact o_neNat | exact o_nei | exact o_stpNe (ru (by assumption)) | skip)
    | ((with_reducible apply g_oIn); first | exact o_inNew (ru (by assumption)) | exact o_inLoad (ru (by assumption)) | exact o_inNatL (ru (by assumption)) | exact o_wdSW (ru (by assumption)) | exact o_wdSC (ru (by assumption)) | exact o_wdCCD (ru (by assumption)) | exact o_stIn (ru (by assumption)) | exact o_kdSV (ru (by assumption)) | exact o_kdLS (ru (by assumption)) | exact o_gapIn3 (ru (by assumption)) | exact o_inMd (ru (by assumption)) | exact o_kwIn (ru (by assumption)) | skip)
    | ((with_reducible apply g_oNi); first | exact o_notInNatL (ru (by assumption)) | exact o_notInOptN (ru (by assumption)) | exact o_kwNi (ru (by assumption)) | exact o_wdNi (ru (by assumption)) | skip)
    | ((with_reducible apply g_oIs); first | exact o_isNo | exact o_isN)
    | ((with_reducible apply g_oIn'); first | exact o_notNo | exact o_notN)
    | with_reducible exact o_lt | with_reducible exact o_le | with_reducible exact o_gt | with_reducible exact o_ge
    | ((with_reducible apply g_oMul); first | exact op2_F o_repb | apply o_rept | apply o_mul | skip)
    | with_reducible exact o_sub
    | with_reducible apply o_mod
    | with_reducible apply o_fdiv
    | with_reducible apply o_pow
    | with_reducible apply o_catl
    | with_reducible apply o_repl
    | skip)
local macro_rules
  | `(tactic| walk_at "evC") => `(tactic| ((with_reducible apply g_call); first
    | ((with_reducible apply ex_isstr) <;> walk_at "ev")
    | ((with_reducible apply ex_len) <;> walk_at "ev")
    | ((with_reducible apply ex_tuple) <;> walk_at "ev")
    | ((with_reducible apply ex_sset) <;> walk_at "ev")
    | ((with_reducible apply ex_lrange) <;> walk_at "ev")
    | ((with_reducible apply ex_list) <;> walk_at "ev")
    | ((with_reducible apply ex_intc) <;> walk_at "ev")
    | ((with_reducible apply ex_any) <;> walk_at "ev")
    | ((with_reducible apply ex_all) <;> walk_at "ev")
    | ((with_reducible apply ex_sum) <;> walk_at "ev")
    | ((with_reducible apply ex_max) <;> walk_at "ev")
    | ((with_reducible apply ex_min) <;> walk_at "ev")
    | ((with_reducible apply ex_abs) <;> walk_at "ev")
    | (((with_reducible refine' ex_call ?cc ?_ ?_ ?_ ?_ ?_ ?_ ?_); (case cc => assumption)) <;> walk_at "ev")
    | (((with_reducible refine' ex_callF ?cc ?_ ?_ ?_ ?_ ?_ ?_ ?_); (case cc => assumption)) <;> walk_at "ev")
    | (((with_reducible refine' ex_callK ?cc ?_ ?_ ?_ ?_ ?_ ?_ ?_); (case cc => assumption)) <;> walk_at "ev")
    | ((with_reducible apply ex_call) <;> walk_at "ev")))
local macro_rules
  | `(tactic| walk_at "evE") => `(tactic| first
    | ((with_reducible apply ex_var); walk_at "lk")
    | with_reducible exact ex_str
    | with_reducible exact ex_int
    | (((with_reducible refine' ex_dgets ?hu ?ho ?_ ?_ ?_); (case ho => ((with_reducible apply ex_var); walk_at "lk")); (case hu => exact ru (by assumption))) <;> walk_at "ev")
    | (((with_reducible refine' ex_gds ?gd ?_ ?_ ?_ ?_); (case gd => assumption)) <;> walk_at "ev")
    | ((with_reducible apply ex_sls) <;> walk_at "ev")
    | ((with_reducible apply ex_slT) <;> walk_at "ev")
    | ((with_reducible apply ex_ix) <;> walk_at "ev")
    | ((with_reducible apply ex_cmp) <;> walk_at "ev")
    | ((with_reducible apply ex_put) <;> walk_at "ev")
    | ((with_reducible apply ex_bin) <;> walk_at "ev")
    | ((with_reducible apply ex_tup) <;> walk_at "ev")
    | walk_at "evC"
    | with_reducible exact ex_non
    | with_reducible exact ex_bl
    | ((with_reducible apply ex_glob) <;> walk_at "ev")
    | ((with_reducible apply ex_not) <;> walk_at "ev")
    | ((with_reducible apply ex_ifs) <;> walk_at "ev")
    | ((with_reducible apply ex_lst) <;> walk_at "ev")
    | ((with_reducible apply ex_or) <;> walk_at "ev")
    | ((with_reducible apply ex_and) <;> walk_at "ev")
    | ((with_reducible apply ex_one) <;> walk_at "ev")
    | with_reducible apply ex_lc
    | ((with_reducible apply ex_neg) <;> walk_at "ev")
    | ((with_reducible refine' ex_intv ?_); rfl)
    | skip)
local macro_rules
  | `(tactic| walk_at "ev1") => `(tactic| first
    | ((with_reducible apply g_EX); walk_at "evE")
    | ((with_reducible apply g_Op); walk_at "op")
    | ((with_reducible apply g_AX); first | (with_reducible exact ax_nil) | ((with_reducible apply ax_cons) <;> walk_at "ev") | skip)
    | walk_at "sy"
    | ((with_reducible apply g_TX); first | ((with_reducible apply tx_cmp) <;> walk_at "ev") | ((with_reducible apply tx_not) <;> walk_at "ev") | ((with_reducible apply tx_o); first | ((with_reducible apply ox_and) <;> walk_at "ev") | ((with_reducible apply ox_or) <;> walk_at "ev")) | ((with_reducible apply tx_val) <;> walk_at "ev"))
    | ((with_reducible apply g_CD); first | refine' c_any rfl | refine' c_all rfl | refine' c_lenT | refine' c_lenM | refine' c_lenL | refine' c_lenML | refine' c_tupL | refine' c_intB | refine' c_sum rfl | refine' c_abs | refine' c_max2 rfl | refine' c_min2 rfl | refine' c_lenS ?_ | refine' callD_F c_lstT | refine' callD_F c_lstL | skip)
    | ((with_reducible apply g_CF); first | exact c_lstT | exact c_lstL | skip)
    | ((with_reducible apply g_GE); first | ((with_reducible apply ge_name) <;> walk_at "ev") | ((with_reducible apply ge_tup) <;> walk_at "ev"))
    | ((with_reducible apply ges_cons) <;> walk_at "ev")
    | with_reducible exact ges_nil
    | ((with_reducible apply g_OX); first | ((with_reducible apply ox_and1) <;> walk_at "ev") | ((with_reducible apply ox_or1) <;> walk_at "ev") | ((with_reducible apply ox_and) <;> walk_at "ev") | ((with_reducible apply ox_or) <;> walk_at "ev"))
    | ((with_reducible apply g_FX); first | ((with_reducible apply fx_lrange) <;> walk_at "ev") | ((with_reducible apply fx_lst) <;> walk_at "ev") | ((with_reducible apply fx_bin) <;> walk_at "ev") | ((with_reducible apply fx_list) <;> walk_at "ev") | ((with_reducible apply fx_call) <;> walk_at "ev") | skip)
    | ((with_reducible apply g_Of); walk_at "op")
    | ((with_reducible apply g_PX); first | (with_reducible exact px_none) | ((with_reducible apply px_some) <;> walk_at "ev"))
    | ((with_reducible apply gx_name) <;> walk_at "ev")
    | ((with_reducible apply gx_tup) <;> walk_at "ev")
    | ((with_reducible apply gxs_cons) <;> walk_at "ev")
    | with_reducible exact gxs_nil
    | ((with_reducible refine' imp_is ?_); intro _; walk_at "ev")
    | ((with_reducible apply lv_is); walk_at "lv")
    | ((with_reducible refine' hw_is ?_); walk_at "how")
    | ((with_reducible refine' sj_is ?_); decide)
    | ((with_reducible apply g_IX); first | ((with_reducible apply ix_rangec) <;> walk_at "ev") | ((with_reducible apply ix_enumc) <;> walk_at "ev") | ((with_reducible apply ix_range) <;> walk_at "ev") | ((with_reducible apply ix_enum) <;> walk_at "ev") | ((with_reducible apply ix_zip) <;> walk_at "ev") | ((with_reducible apply ix_seq) <;> walk_at "ev"))
    | with_reducible exact kx_nil
    | ((with_reducible apply kx_one); walk_at "ev")
    | ((with_reducible apply g_T1); ((with_reducible apply turn1) <;> walk_at "ev"))
    | ((with_reducible refine' ab_is' ?_); intro _ _ _ _ _; walk_at "ev")
    | ((with_reducible apply g_SL); first | with_reducible apply g_SLc | ((with_reducible apply slx_fxl) <;> walk_at "ev") | skip)
    | with_reducible assumption
    | skip)
local macro_rules
  | `(tactic| walk_at "ev") => `(tactic| first | ((with_reducible apply prop_is); walk_at "ev1") | skip)
local macro_rules
  | `(tactic| walk_at "set1") => `(tactic| ((with_reducible apply sx_set1) <;> walk_at "ev"))
local macro_rules
  | `(tactic| walk_at "set") => `(tactic| ((with_reducible apply sx_set) <;> walk_at "ev"))
local macro_rules
  | `(tactic| walk_at "seto") => `(tactic| ((with_reducible apply sx_seto) <;> walk_at "ev"))
local macro_rules
  | `(tactic| walk_at "seto1") => `(tactic| ((with_reducible apply sx_seto1) <;> walk_at "ev"))
local macro_rules
  | `(tactic| walk_at "setl") => `(tactic| ((with_reducible apply sx_setl) <;> walk_at "ev"))
local macro_rules
  | `(tactic| walk_at "asg") => `(tactic| ((with_reducible apply sx_asg1) <;> walk_at "ev"))
local macro_rules
  | `(tactic| walk_at "app") => `(tactic| ((with_reducible apply sx_append) <;> walk_at "ev"))
local macro_rules
  | `(tactic| walk_at "app1") => `(tactic| ((with_reducible apply sx_append1) <;> walk_at "ev"))
local macro_rules
  | `(tactic| walk_at "ext") => `(tactic| ((with_reducible apply sx_extend) <;> walk_at "ev"))
local macro_rules
  | `(tactic| walk_at "ret") => `(tactic| ((with_reducible apply sx_ret); (with_reducible apply ex_is); walk_at "ev"))
local macro_rules
  | `(tactic| walk_at "is") => `(tactic| (first | (with_reducible apply ex_is) | (with_reducible apply tx_is) | (with_reducible apply fx_is)) <;> walk_at "ev")
local macro_rules
  | `(tactic| walk_at "turn") => `(tactic| ((with_reducible apply turn_of) <;> walk_at "ev"))
local macro_rules
  | `(tactic| walk_at "nil") => `(tactic| ((with_reducible apply sx_nile); walk_at "le"))
local macro_rules
  | `(tactic| walk_at "go") => `(tactic| (dsimp only [st0]; show SX _ (_ :: _) _ _))
local macro_rules
  | `(tactic| walk_at "vs") => `(tactic| ((with_reducible apply vs_is); with_unfolding_all (first | exact .inl rfl | exact .inr (.inl rfl) | exact .inr (.inr rfl))))
local macro_rules
  | `(tactic| walk_at "lvr") => `(tactic| with_reducible first | exact lv_rn | (apply lv_ru; walk_at "lvr") | (apply lv_rd; walk_at "vs"; walk_at "lvr") | (apply lv_ro; walk_at "vs"; walk_at "lvr") | (apply lv_rx; walk_at "lvr"))
local macro_rules
  | `(tactic| walk_at "lvh") => `(tactic| with_reducible first | exact lv_hn | (apply lv_hu; walk_at "lvh") | (apply lv_hd; walk_at "vs"; walk_at "lvh") | (apply lv_hx; walk_at "lvh"))
local macro_rules
  | `(tactic| walk_at "lv0") => `(tactic| with_reducible first | exact LeV.nil | (apply LeV.keep; walk_at "vs"; walk_at "lv0") | (apply LeV.drop; walk_at "lv0"))
local macro_rules
  | `(tactic| walk_at "lv") => `(tactic| first | ((with_reducible apply g_lvr); walk_at "lvr") | ((with_reducible apply g_lvh); walk_at "lvh") | walk_at "lv0")
local macro_rules
  | `(tactic| walk_at "how") => `(tactic| (intro i hi; simp only [List.map_cons, List.map_nil, List.mem_cons, List.mem_singleton, List.not_mem_nil, or_false] at hi; first | (subst hi; exact ⟨_, rfl⟩) | (rcases hi with hi | hi <;> (subst hi; exact ⟨_, rfl⟩)) | (rcases hi with hi | hi | hi <;> (subst hi; exact ⟨_, rfl⟩))))
local macro_rules
  | `(tactic| walk_at "t1") => `(tactic| ((with_reducible apply turn1) <;> walk_at "ev"))
local macro_rules
  | `(tactic| walk_at "reto") => `(tactic| ((with_reducible apply sx_one); (with_reducible apply s1_reto); walk_at "up"))
local macro_rules
  | `(tactic| walk_at "item") => `(tactic| ((with_reducible apply sx_item) <;> walk_at "ev"))
local macro_rules
  | `(tactic| walk_at "no") => `(tactic| ((with_reducible apply sx_no) <;> walk_at "ev"))
local macro_rules
  | `(tactic| walk_at "yes") => `(tactic| ((refine' sx_yes ?_ ?_ (fun e z => nomatch z) ?_) <;> walk_at "ev"))
local macro_rules
  | `(tactic| walk_at "then") => `(tactic| ((with_reducible apply sx_then) <;> walk_at "ev"))
local macro_rules
  | `(tactic| walk_at "lz") => `(tactic| with_reducible first | exact LkZ.here | (apply LkZ.next; walk_at "lz"))
local macro_rules
  | `(tactic| walk_at "rest") => `(tactic| first | walk_at "sy" | exact PassesOwn.never)
local macro_rules
  | `(tactic| walk_at "how1") => `(tactic| (intro i hi; simp only [List.mem_cons, List.not_mem_nil, or_false] at hi; first | (subst hi; exact ⟨_, rfl⟩) | (rcases hi with hi | hi <;> (subst hi; exact ⟨_, rfl⟩))))
local macro_rules
  | `(tactic| walk_at "t2") => `(tactic| ((with_reducible apply turn2) <;> first | walk_at "how1" | walk_at "ev"))
local macro_rules
  | `(tactic| walk_at "i2") => `(tactic| ((with_reducible apply in2) <;> walk_at "ev"))
local macro_rules
  | `(tactic| walk_at "expr") => `(tactic| ((with_reducible apply sx_expr) <;> walk_at "ev"))
local macro_rules
  | `(tactic| walk_at "tk") => `(tactic| ((with_reducible apply turnK) <;> walk_at "ev"))
local macro_rules
  | `(tactic| walk_at "nset") => `(tactic| ((with_reducible refine' sn_set ?w ?h ?hx ?hs ?hf ?r); (case w => walk_at "sy"); (case hx => walk_at "sy"); (case hs => walk_at "sy"); (case hf => walk_at "sy")))
local macro_rules
  | `(tactic| walk_at "nset1") => `(tactic| ((with_reducible refine' sn_set1 ?w ?h ?hx ?hs ?hf ?r); (case w => walk_at "sy"); (case hx => walk_at "sy"); (case hs => walk_at "sy"); (case hf => walk_at "sy")))
local macro_rules
  | `(tactic| walk_at "napp") => `(tactic| ((with_reducible refine' sn_append ?w ?h ?hz ?h1 ?h2 ?h3 ?h4 ?h5 ?h6 ?h7 ?r); (case w => walk_at "sy"); (case h1 => walk_at "ev"); (case h2 => walk_at "ev"); (case h3 => walk_at "ev"); (case h4 => walk_at "ev"); (case h5 => walk_at "ev"); (case h6 => walk_at "ev"); (case h7 => walk_at "ev")))
local macro_rules
  | `(tactic| walk_at "gsn") => `(tactic| (first | (with_reducible apply ge_sn) | (with_reducible apply up_sn) | (with_reducible apply up_sn1) | (with_reducible apply lk_sn) | (with_reducible apply gx_nx) | (with_reducible apply gx_nt)) <;> walk_at "ev")
local macro_rules
  | `(tactic| walk_at "pure") => `(tactic| (with_reducible apply sn_pure))
local macro_rules
  | `(tactic| walk_at "gn") => `(tactic| (dsimp only [st0]; show SN _ _ (_ :: _) _ _ _))
set_option maxRecDepth 100000
set_option maxHeartbeats 4000000
section
variable {P : Program} {w : World} {K : PySem.W.Frag} {mg : Str → Option Value} {base : Heap} {k : Nat} {f : Addr} {fd : FuncData}
theorem sc79 : Sc ["_law_here", "_law_number"] ["_law_here", "_law_number"] (topS 79) := ⟨⟨rfl, rfl, rfl, by decide +kernel, rfl, by decide +kernel, by decide +kernel⟩, by decide +kernel⟩
theorem sc80 : Sc ["_law_colours", "_law_number", "_law_is_holder", "_law_own"] ["_law_colours", "_law_number", "_law_is_holder"] (topS 80) := ⟨⟨rfl, rfl, rfl, by decide +kernel, rfl, by decide +kernel, by decide +kernel⟩, by decide +kernel⟩
theorem col_at {S : Sta} {n : Nat} (h : n < S.cols.length) : S.cols[n]? = some (S.col n) := by
  unfold Sta.col
  rw [List.getD_eq_getElem?_getD, List.getElem?_eq_getElem h]; rfl
def pre79 (ds : List D) (d : D) : Prop := ∃ (S : Sta) (o : Option Nat), (∀ n, o = some n → n < S.cols.length) ∧ ds = [staD S, optD o] ∧ d = .str (ocolS (S.ocol o))
theorem ok79 (F : Fun K "_law_colour" "_law_colour" (topS 79) f fd) : FnOk P w K mg base CX0 (k + 1) f fd ["_law_here", "_law_number"] (spD K pre79) := by
  refine def_d F sc79 (fun ds d ⟨S, o, ho, h, _⟩ => by rw [h]; rfl) fun cdv A outer s H E hr ds d ⟨S, o, ho, h, hd⟩ => ?_
  subst h hd
  walk_at "go"
  refine sx_one (s1_ret (ex_if (k := o.isNone) ?_ ?_ ?_))
  · apply tx_is
    walk_at "ev"
    cases o <;> rfl
  · intro h
    cases o with
    | none => exact ex_str
    | some n => cases h
  · intro h
    cases o with
    | none => cases h
    | some n =>
      have hn := at_map (f := colD) (col_at (ho n rfl))
      walk_at "ev"
theorem shade_map {cs : List Col} {n : Nat} {b : Bool} (h : n < cs.length) : (cs.map colD).set n (.str (bif decide (cs[n] = .white) || b then "grey" else colS cs[n])) = (shade cs n b).map colD := by
  unfold shade
  rw [col_grey, colS_bif, set_map]
  congr 2
  rw [List.getD_eq_getElem?_getD, List.getElem?_eq_getElem h]
  show _ = if cs[n] = .white ∨ b = true then Col.grey else cs[n]
  by_cases h1 : cs[n] = .white <;> cases b <;> simp [h1]
def pre80 (ds : List D) (d : D) : Prop := ∃ (cs : List Col) (n : Nat) (b : Bool), n < cs.length ∧ cs.length ≤ 12 ∧ ds = [.tup (cs.map colD), natD n, .bl b] ∧ d = .tup ((shade cs n b).map colD)
theorem ok80 (F : Fun K "_law_shade" "_law_shade" (topS 80) f fd) : FnOk P w K mg base CX0 (k + 1) f fd ["_law_colours", "_law_number", "_law_is_holder"] (spD K pre80) := by
  refine def_d F sc80 (fun ds d ⟨S, n, b, ho, h2, h, _⟩ => by rw [h]; rfl) fun cdv A outer s H E hr ds d ⟨cs, n, b, hn, hl, h, hd⟩ => ?_
  subst h hd
  walk_at "go"
  have ha := at_map (f := colD) (List.getElem?_eq_getElem hn)
  walk_at "set1"
  walk_at "ret"
  · simpa using hn
  · simpa using (by omega)
  rw [shade_map hn]
end
set_option maxRecDepth 100000
set_option maxHeartbeats 0
section
variable {P : Program} {w : World} {K : PySem.W.Frag} {mg : Str → Option Value} {base : Heap} {k : Nat} {f : Addr} {fd : FuncData}
theorem sc81 : Sc ["_law_marks_here", "_law_here", "_law_step", "_law_width", "_law_slots", "_law_colours", "_law_held", "_law_scanned", "_law_term", "_law_thread", "_law_box", "_law_slot", "_law_thing", "_law_was", "_law_row", "_law_key", "_law_later", "_law_who", "_law_number"] ["_law_marks_here", "_law_here", "_law_step"] (topS 81) := ⟨⟨rfl, rfl, rfl, by decide +kernel, rfl, by decide +kernel, by decide +kernel⟩, by decide +kernel⟩
def pre81 (ds : List D) (d : D) : Prop := ∃ (T : List Mk) (S : Sta) (t b s : Nat) (o : Option Nat), (∀ m ∈ T, m.ok = true) ∧ S.Ok ∧ t < S.held.length ∧ b < S.slots.length ∧ s < S.w ∧ (∀ n, o = some n → n < S.slots.length) ∧ ds = [.tup (T.map mkD), staD S, stpD (.store t b s o)] ∧ d = staD (next T S (.store t b s o))
theorem row_at {S : Sta} {b : Nat} (h : b < S.slots.length) : atI (S.slots.map rowD) (b : Int) = some (rowD (S.row b)) := at_map (f := rowD) (by
  unfold Sta.row
  rw [List.getD_eq_getElem?_getD, List.getElem?_eq_getElem h]; rfl)
theorem row_mem {S : Sta} {b : Nat} (h : b < S.slots.length) : S.row b ∈ S.slots := by
  unfold Sta.row
  rw [List.getD_eq_getElem?_getD, List.getElem?_eq_getElem h]
  exact List.getElem_mem h
theorem row_len {S : Sta} (O : S.Ok) {b : Nat} (h : b < S.slots.length) : (S.row b).length = S.w := (O.row _ (row_mem h)).1
theorem slot_at {S : Sta} (O : S.Ok) {b s : Nat} (h : b < S.slots.length) (hs : s < S.w) : atI ((S.row b).map optD) (s : Int) = some (optD (S.at' b s)) := at_map (f := optD) (by
  unfold Sta.at'
  have hl : s < (S.row b).length := by rw [row_len O h]; exact hs
  rw [List.getD_eq_getElem?_getD, List.getElem?_eq_getElem hl]; rfl)
theorem slot_lt {S : Sta} (O : S.Ok) {b s n : Nat} (h : b < S.slots.length) (e : S.at' b s = some n) : n < S.slots.length := by
  unfold Sta.at' at e
  rw [List.getD_eq_getElem?_getD] at e
  cases q : (S.row b)[s]? with
  | none => rw [q] at e; cases e
  | some o =>
    rw [q] at e
    have e' : o = some n := e
    subst e'
    exact (O.row _ (row_mem h)).2 n (List.mem_of_getElem? q)
theorem colD_at {S : Sta} (O : S.Ok) {b : Nat} (h : b < S.slots.length) : atI (S.cols.map colD) (b : Int) = some (colD (S.col b)) := at_map (f := colD) (col_at (by rw [O.cl]; exact h))
theorem scn_at {S : Sta} (O : S.Ok) {t : Nat} (h : t < S.held.length) : atI (S.sc.map D.bl) (t : Int) = some (.bl (S.scn t)) := at_map (f := D.bl) (by
  have hl : t < S.sc.length := by rw [O.sl]; exact h
  unfold Sta.scn
  rw [List.getD_eq_getElem?_getD, List.getElem?_eq_getElem hl]; rfl)
theorem hold_at {S : Sta} {t : Nat} (h : t < S.held.length) : atI (S.held.map heldD) (t : Int) = some (heldD (S.hold t)) := at_map (f := heldD) (by
  unfold Sta.hold
  rw [List.getD_eq_getElem?_getD, List.getElem?_eq_getElem h]; rfl)
/-- the colours behind the first i of the three -/
def stK (T : List Mk) (S : Sta) (t b s : Nat) (o : Option Nat) (wh : Who) : Bool := decide (Mk.store (S.scn t) (S.col b) (S.ocol (S.at' b s)) (S.ocol o) wh ∈ T)
def st1 (k : Bool) (cs : List Col) (wh : Who) : Option Nat → List Col
  | none => cs
  | some n => if k then shade cs n (decide (wh = .holder)) else cs
def whN : Nat → Who
  | 0 => .holder
  | 1 => .old
  | _ => .new
def obN (S : Sta) (b s : Nat) (o : Option Nat) : Nat → Option Nat
  | 0 => some b
  | 1 => S.at' b s
  | _ => o
def stC (T : List Mk) (S : Sta) (t b s : Nat) (o : Option Nat) : Nat → List Col
  | 0 => S.cols
  | i + 1 => st1 (stK T S t b s o (whN i)) (stC T S t b s o i) (whN i) (obN S b s o i)
theorem stC_end (T : List Mk) (S : Sta) (t b s : Nat) (o : Option Nat) : stC T S t b s o 3 = storeCols T S t b s o := by
  unfold storeCols
  simp only [stC, whN, obN]
  unfold st1 stK oshade
  cases S.at' b s <;> cases o <;> simp
theorem shade_len (cs : List Col) (n : Nat) (h : Bool) : (shade cs n h).length = cs.length := by unfold shade; rw [List.length_set]
theorem st1_len (k : Bool) (cs : List Col) (wh : Who) (n : Option Nat) : (st1 k cs wh n).length = cs.length := by
  unfold st1
  cases n with
  | none => rfl
  | some n => cases k <;> simp [shade_len]
theorem stC_len (T : List Mk) (S : Sta) (t b s : Nat) (o : Option Nat) : ∀ i, (stC T S t b s o i).length = S.cols.length
  | 0 => rfl
  | i + 1 => by rw [stC, st1_len, stC_len]
theorem st_step (T : List Mk) (S : Sta) (t b s : Nat) (o : Option Nat) {i : Nat} {d : D} (h : [D.tup [.str (whoS .holder), optD (some b)], .tup [.str (whoS .old), optD (S.at' b s)], .tup [.str (whoS .new), optD o]][i]? = some d) :
    ∃ wh n, d = .tup [.str (whoS wh), optD n] ∧ (wh = .holder ∧ n = some b ∨ wh = .old ∧ n = S.at' b s ∨ wh = .new ∧ n = o) ∧ stC T S t b s o (i + 1) = st1 (stK T S t b s o wh) (stC T S t b s o i) wh n := by
  match i, h with
  | 0, h => exact ⟨.holder, some b, (Option.some.inj h).symm, .inl ⟨rfl, rfl⟩, rfl⟩
  | 1, h => exact ⟨.old, S.at' b s, (Option.some.inj h).symm, .inr (.inl ⟨rfl, rfl⟩), rfl⟩
  | 2, h => exact ⟨.new, o, (Option.some.inj h).symm, .inr (.inr ⟨rfl, rfl⟩), rfl⟩
theorem whoS_holder (wh : Who) : decide (whoS wh = ("holder" : Str)) = decide (wh = .holder) := by cases wh <;> decide +kernel
theorem st_some {T : List Mk} {S : Sta} {t b s : Nat} {o n : Option Nat} {wh : Who} (O : S.Ok) (hT : ∀ m ∈ T, m.ok = true) (hb : b < S.slots.length) (ho : ∀ n, o = some n → n < S.slots.length)
    (hn : wh = .holder ∧ n = some b ∨ wh = .old ∧ n = S.at' b s ∨ wh = .new ∧ n = o) (hm : stK T S t b s o wh = true) : ∃ m, n = some m ∧ m < S.slots.length := by
  have h1 := hT _ (of_decide_eq_true hm)
  rcases hn with ⟨rfl, rfl⟩ | ⟨rfl, rfl⟩ | ⟨rfl, rfl⟩
  · exact ⟨b, rfl, hb⟩
  · cases q : S.at' b s with
    | none => rw [q] at h1; simp [Mk.ok, Sta.ocol] at h1
    | some m => exact ⟨m, rfl, slot_lt O hb q⟩
  · cases n with
    | none => simp [Mk.ok, Sta.ocol] at h1
    | some m => exact ⟨m, rfl, ho m rfl⟩
theorem ok81 (F : Fun K "_law_stored" "_law_stored" (topS 81) f fd) (c79 : Cal P w K mg base k "_law_colour" (spD K pre79)) (c80 : Cal P w K mg base k "_law_shade" (spD K pre80)) : FnOk P w K mg base CX0 (k + 1) f fd ["_law_marks_here", "_law_here", "_law_step"] (spD K pre81) := by
  refine def_d F sc81 (fun ds d ⟨T, S, t, b, s, o, _, _, _, _, _, _, h, _⟩ => by rw [h]; rfl) fun cdv A outer s0 H E hr ds d ⟨T, S, t, b, s, o, hT, hS, ht, hb, hs, ho, h, hd⟩ => ?_
  subst h hd
  walk_at "go"
  walk_at "asg"
  walk_at "asg"
  have h1 := row_at hb
  have h2 := slot_at hS hb hs
  have h3 := colD_at hS hb
  have h4 := scn_at hS ht
  have p1 : pre79 [staD S, optD (S.at' b s)] (.str (ocolS (S.ocol (S.at' b s)))) := ⟨S, _, fun n e => by rw [hS.cl]; exact slot_lt hS hb e, rfl, rfl⟩
  have p2 : pre79 [staD S, optD o] (.str (ocolS (S.ocol o))) := ⟨S, _, fun n e => by rw [hS.cl]; exact ho n e, rfl, rfl⟩
  have z1 : s < ((S.row b).map optD).length := by rw [List.length_map, row_len hS hb]; exact hs
  have z2 : ((S.row b).map optD).length ≤ 1000 := by rw [List.length_map, row_len hS hb]; have := hS.w4; omega
  walk_at "set1"
  walk_at "set1"
  walk_at "set1"
  walk_at "set1"
  walk_at "set1"
  -- the loop
  have z3 : b < (S.slots.map rowD).length := by rw [List.length_map]; exact hb
  have z4 : (S.slots.map rowD).length ≤ 1000 := by rw [List.length_map]; have := hS.n12; omega
  refine sx_for (ys := [.tup [.str (whoS .holder), optD (some b)], .tup [.str (whoS .old), optD (S.at' b s)], .tup [.str (whoS .new), optD o]]) (fun i => [("_law_marks_here", .d (.tup (T.map mkD))), ("_law_here", .d (staD S)), ("_law_step", .d (stpD (.store t b s o))), ("_law_width", .d (.int S.w)),
    ("_law_slots", .d (.tup (S.slots.map rowD))), ("_law_colours", .d (.tup (S.cols.map colD))), ("_law_held", .d (.tup (S.held.map heldD))), ("_law_scanned", .d (.tup (S.sc.map D.bl))), ("_law_term", .d (.str "store")), ("_law_thread", .d (natD t)), ("_law_box", .d (natD b)), ("_law_slot", .d (natD s)),
    ("_law_thing", .d (optD o)), ("_law_was", .d (optD (S.at' b s))), ("_law_row", .d (.tup (((S.row b).map optD).set s (optD o)))), ("_law_key", .d (.tup [.str "store", .str (phS (S.scn t)), colD (S.col b), .str (ocolS (S.ocol (S.at' b s))), .str (ocolS (S.ocol o))])),
    ("_law_later", .d (.tup ((stC T S t b s o i).map colD))), ("_law_who", .u), ("_law_number", .u)]) ?_ ?_ ?_ ?_ ?_
  · refine ix_tup ?_
    walk_at "is"
    rfl
  rotate_left 2
  · intro x; rfl
  · exact PassesOwn.never
  · intro i d hd
    obtain ⟨wh, n, rfl, hn, hst⟩ := st_step T S t b s o hd
    walk_at "turn"
    refine sx_one (s1_if (k := stK T S t b s o wh) (tx_cmp (d1 := mkD (Mk.store (S.scn t) (S.col b) (S.ocol (S.at' b s)) (S.ocol o) wh)) ?_ ?_ (o_inMk (ru hr)) ?_) ?_ ?_)
    · walk_at "is"
      rfl
    · walk_at "ev"
    · walk_at "ev"
    · intro hm
      obtain ⟨m, rfl, hml⟩ := st_some hS hT hb ho hn hm
      have p3 : pre80 [.tup ((stC T S t b s o i).map colD), natD m, .bl (decide (wh = .holder))] (.tup ((shade (stC T S t b s o i) m (decide (wh = .holder))).map colD)) :=
        ⟨_, m, _, by rw [stC_len, hS.cl]; exact hml, by rw [stC_len, hS.cl]; exact hS.n12, rfl, rfl⟩
      rw [← whoS_holder] at p3
      walk_at "set1"
      walk_at "nil"
      rw [hst, hm, whoS_holder]; rfl
    · intro hm
      walk_at "nil"
      rw [hst, hm]
      cases n <;> rfl
  · walk_at "ret"
    simp only [List.length_cons, List.length_nil, Nat.zero_add, Nat.reduceAdd]
    rw [stC_end]
    simp only [staD, next, putRow, rowD, List.map_set]
    rfl
end
set_option maxRecDepth 100000
set_option maxHeartbeats 0
section
variable {P : Program} {w : World} {K : PySem.W.Frag} {mg : Str → Option Value} {base : Heap} {k : Nat} {f : Addr} {fd : FuncData}
abbrev N77 : List Str := ["_law_again", "_law_here", "_law_some", "_law_one"]
theorem sc77 : Sc N77 ["_law_again", "_law_here"] (topS 77) := ⟨⟨rfl, rfl, rfl, by decide +kernel, rfl, by decide +kernel, by decide +kernel⟩, by decide +kernel⟩
def pre77 (ds : List D) (d : D) : Prop := ∃ (ag : Bool) (S : Sta), S.Ok ∧ ds = [.bl ag, staD S] ∧ d = .bl (ended ag S)
theorem ended_no {ag : Bool} {S : Sta} (h : (decide (Col.grey ∈ S.cols) || !(S.sc.all id)) = true ∨ ∃ h ∈ S.held, (ag && h.any (isWhite S)) = true) : ended ag S = false := by
  unfold ended
  rcases h with h | ⟨h, hm, e⟩
  · rcases Bool.or_eq_true _ _ ▸ h with h | h
    · have : (S.cols.any fun c => decide (c = .grey)) = true := List.any_eq_true.mpr ⟨_, of_decide_eq_true h, by simp⟩
      rw [this]; rfl
    · rw [Bool.not_eq_true'] at h
      rw [h]; simp
  · have : (S.held.all fun h => !(ag && h.any (isWhite S))) = false := by
      rw [List.all_eq_false]
      exact ⟨h, hm, by rw [e]; simp⟩
    rw [this]; simp
theorem ended_yes {ag : Bool} {S : Sta} (h : (decide (Col.grey ∈ S.cols) || !(S.sc.all id)) = false) (h2 : ∀ h ∈ S.held, (ag && h.any (isWhite S)) = false) : ended ag S = true := by
  unfold ended
  rw [Bool.or_eq_false_iff, Bool.not_eq_false'] at h
  have h1 : (S.cols.any fun c => decide (c = .grey)) = false := by
    rw [List.any_eq_false]
    intro c hc
    rw [decide_eq_true_eq]
    rintro rfl
    exact of_decide_eq_false h.1 hc
  rw [h1, h.2, Bool.not_false, Bool.true_and, Bool.true_and, List.all_eq_true]
  intro x hx
  rw [h2 x hx]; rfl
theorem any_map_id {α : Type} (p : α → Bool) (xs : List α) : (xs.map p).any id = xs.any p := by rw [List.any_map]; rfl
theorem all_map_id {α : Type} (p : α → Bool) (xs : List α) : (xs.map p).all id = xs.all p := by rw [List.all_map]; rfl
theorem asc_len {l : List Nat} {n : Nat} (h : l.Pairwise (· < ·)) (b : ∀ x ∈ l, x < n) : l.length ≤ n := by
  have hn : l.Nodup := h.imp fun h => Nat.ne_of_lt h
  have := hn.length_le_of_subset (l₂ := List.range n) fun x hx => List.mem_range.mpr (b x hx)
  rwa [List.length_range] at this
theorem len_held {S : Sta} (O : S.Ok) {h : List Nat} (hh : h ∈ S.held) : h.length < sizeLine := by
  have h1 := asc_len (O.held h hh).1 (O.held h hh).2
  have h2 := O.n12
  rw [sizeLine_eq]; omega
theorem ok77 (F : Fun K "_law_ended" "_law_ended" (topS 77) f fd) (m1 : mg "all" = none) (m2 : mg "list" = none) (m3 : mg "any" = none) : FnOk P w K mg base CX0 (k + 1) f fd ["_law_again", "_law_here"] (spD K pre77) := by
  refine def_d F sc77 (fun ds d ⟨ag, S, _, h, _⟩ => by rw [h]; rfl) fun cdv A outer s0 H E hr ds d ⟨ag, S, hS, h, hd⟩ => ?_
  subst h hd
  walk_at "go"
  refine sx_ifret (k := decide (Col.grey ∈ S.cols) || !(S.sc.all id)) ?_ (fun e z => nomatch z) ?_ ?_
  · with_reducible apply tx_o
    refine ox_or (tx_cmp (d1 := colD .grey) ?_ ?_ (o_inCol (cs := S.cols) (ru hr)) ?_) ?_ <;> walk_at "ev"
    exact ex_str
  · intro hk
    walk_at "ret"
    rw [ended_no (.inl hk)]
  · intro hk
    refine sx_find S.held heldD (fun h => ag && h.any (isWhite S)) (fun e z => nomatch z) ?_ ?_ ?_ ?_ ?_
    · walk_at "ev"
    · intro h hh
      walk_at "turn"
      refine sx_iff (k := ag && h.any (isWhite S)) ?_ ?_ ?_
      · walk_at "is"
        · (with_reducible apply lc_mapc [("_law_one", 3)] N77 (defScope (topS 77)) h natD D.bl (isWhite S)) <;> walk_at "ev"
          · exact len_held hS hh
          · intro z hz
            have hc := colD_at hS ((hS.held h hh).2 z hz)
            walk_at "t1"
        · rw [any_map_id]
      · intro hq
        walk_at "ret"
        rw [ended_no (.inr ⟨h, hh, hq⟩)]
      · walk_at "le"
    · intro hq
      walk_at "ret"
      rw [ended_yes hk hq]
    · walk_at "sy"
    · exact PassesOwn.never
end
set_option maxRecDepth 100000
set_option maxHeartbeats 0
section
variable {P : Program} {w : World} {K : PySem.W.Frag} {mg : Str → Option Value} {base : Heap} {k : Nat} {f : Addr} {fd : FuncData}
abbrev N78 : List Str := ["_law_again", "_law_here", "_law_width", "_law_slots", "_law_colours", "_law_held", "_law_scanned", "_law_found", "_law_thread", "_law_some", "_law_number", "_law_slot", "_law_at", "_law_one", "_law_thing"]
theorem sc78 : Sc N78 ["_law_again", "_law_here"] (topS 78) := ⟨⟨rfl, rfl, rfl, by decide +kernel, rfl, by decide +kernel, by decide +kernel⟩, by decide +kernel⟩
def pre78 (ds es : List D) : Prop := ∃ (ag : Bool) (S : Sta), S.Ok ∧ ds = [.bl ag, staD S] ∧ es = (steps ag S).map stpD
theorem range_get {n i z : Nat} (h : (List.range n)[i]? = some z) : z < n ∧ i = z := by
  have hi : i < n := by have := (List.getElem?_eq_some_iff.mp h).1; rwa [List.length_range] at this
  rw [List.getElem?_range hi] at h
  have e := Option.some.inj h
  exact ⟨by omega, e⟩
theorem flat_len {α β : Type} {f : α → List β} {c : Nat} : ∀ {l : List α}, (∀ x ∈ l, (f x).length ≤ c) → (l.flatMap f).length ≤ l.length * c
  | [], _ => by simp
  | x :: l, h => by
    rw [List.flatMap_cons, List.length_append, List.length_cons, Nat.add_mul, Nat.one_mul]
    have h1 := h x List.mem_cons_self
    have h2 := flat_len (l := l) fun y hy => h y (List.mem_cons_of_mem _ hy)
    omega
theorem range_len {β : Type} {f : Nat → List β} {c : Nat} (h : ∀ x, (f x).length ≤ c) (j : Nat) : ((List.range j).flatMap f).length ≤ j * c := by
  have := flat_len (l := List.range j) (f := f) (c := c) fun x _ => h x
  rwa [List.length_range] at this
theorem scans_len {S : Sta} (O : S.Ok) : (scans S).length ≤ 12 := by
  unfold scans
  rw [List.length_map]
  have h1 := List.length_filter_le (fun n => decide (S.col n = .grey)) (List.range S.cols.length)
  rw [List.length_range] at h1
  have h2 := O.n12
  have h3 := O.cl
  omega
theorem hold_len {S : Sta} (O : S.Ok) (t : Nat) : (S.hold t).length ≤ 12 := by
  unfold Sta.hold
  rw [List.getD_eq_getElem?_getD]
  cases q : S.held[t]? with
  | none => exact Nat.zero_le _
  | some h =>
    have hh : h ∈ S.held := List.mem_of_getElem? q
    have h1 := asc_len (O.held h hh).1 (O.held h hh).2
    have h2 := O.n12
    show h.length ≤ 12
    omega
theorem slotSteps_len {S : Sta} (h : List Nat) (hl : h.length ≤ 12) (t n s : Nat) : ((if (S.at' n s).isSome then [Stp.load t n s] else []) ++ (none :: h.map some).map fun o => Stp.store t n s o).length ≤ 14 := by
  rw [List.length_append, List.length_map, List.length_cons, List.length_map]
  cases (S.at' n s).isSome <;> simp <;> omega
theorem stepsAt_len {S : Sta} (O : S.Ok) (h : List Nat) (hl : h.length ≤ 12) (t n : Nat) : (stepsAt S h t n).length ≤ 57 := by
  unfold stepsAt
  rw [List.length_cons]
  have h1 := range_len (f := fun s => (if (S.at' n s).isSome then [Stp.load t n s] else []) ++ (none :: h.map some).map fun o => Stp.store t n s o) (slotSteps_len h hl t n) S.w
  have h2 := O.w4
  omega
theorem stepsOf_len {S : Sta} {ag : Bool} (O : S.Ok) (t : Nat) : (stepsOf ag S t).length ≤ 700 := by
  unfold stepsOf
  rw [List.length_append, List.length_append]
  have h1 := hold_len O t
  have h2 := flat_len (l := S.hold t) (f := stepsAt S (S.hold t) t) (c := 57) fun x _ => stepsAt_len O _ h1 t x
  have h3 : (if ag || !S.scn t then [Stp.visit t] else []).length ≤ 1 := by split <;> simp
  have h4 : (if S.slots.length < 12 then [Stp.new t] else []).length ≤ 1 := by split <;> simp
  omega
theorem if_len {α : Type} (b : Bool) (x : α) : (if b = true then [x] else []).length ≤ 1 := by cases b <;> simp
/-- the steps of thread t up to its j-th number -/
def stepsJ (ag : Bool) (S : Sta) (t j : Nat) : List Stp := (if ag || !S.scn t then [Stp.visit t] else []) ++ (if S.slots.length < 12 then [Stp.new t] else []) ++ ((S.hold t).take j).flatMap (stepsAt S (S.hold t) t)
/-- the steps with number n up to its i-th slot -/
def stepsI (S : Sta) (h : List Nat) (t n i : Nat) : List Stp := .drop t n :: (List.range i).flatMap fun s => (if (S.at' n s).isSome then [Stp.load t n s] else []) ++ (none :: h.map some).map fun o => Stp.store t n s o
theorem stepsI_len (h : List Nat) (hl : h.length ≤ 12) (S : Sta) (t n i : Nat) : (stepsI S h t n i).length ≤ 1 + i * 14 := by
  unfold stepsI
  rw [List.length_cons]
  have h1 := range_len (f := fun s => (if (S.at' n s).isSome then [Stp.load t n s] else []) ++ (none :: h.map some).map fun o => Stp.store t n s o) (slotSteps_len h hl t n) i
  omega
theorem stepsJ_len {S : Sta} {ag : Bool} (O : S.Ok) (t j : Nat) : (stepsJ ag S t j).length ≤ 700 := by
  unfold stepsJ
  rw [List.length_append, List.length_append]
  have h1 := hold_len O t
  have h5 : ((S.hold t).take j).length ≤ (S.hold t).length := List.length_take_le' ..
  have h2 := flat_len (l := (S.hold t).take j) (f := stepsAt S (S.hold t) t) (c := 57) fun x _ => stepsAt_len O _ h1 t x
  have h3 := if_len (ag || !S.scn t) (Stp.visit t)
  have h4 : (if S.slots.length < 12 then [Stp.new t] else []).length ≤ 1 := by split <;> simp
  omega
theorem hold_lt {S : Sta} (O : S.Ok) {t n : Nat} (h : n ∈ S.hold t) : n < S.slots.length := by
  unfold Sta.hold at h
  rw [List.getD_eq_getElem?_getD] at h
  cases q : S.held[t]? with
  | none => rw [q] at h; simp at h
  | some x => rw [q] at h; exact (O.held x (List.mem_of_getElem? q)).2 n h
theorem map_if {α β : Type} (f : α → β) (b : Bool) (x : α) : (if b = true then [x] else []).map f = if b = true then [f x] else [] := by cases b <;> rfl
theorem stepsI_succ (S : Sta) (h : List Nat) (t n i : Nat) : stepsI S h t n (i + 1) = stepsI S h t n i ++ ((if (S.at' n i).isSome then [Stp.load t n i] else []) ++ (none :: h.map some).map fun o => Stp.store t n i o) := by
  unfold stepsI
  rw [List.range_succ, List.flatMap_append, List.flatMap_cons, List.flatMap_nil, List.append_nil, List.cons_append]
theorem stepsJ_succ {ag : Bool} {S : Sta} {t j n : Nat} (h : (S.hold t)[j]? = some n) : stepsJ ag S t (j + 1) = stepsJ ag S t j ++ stepsI S (S.hold t) t n S.w := by
  unfold stepsJ
  rw [flat_snoc _ _ _ _ h]
  simp only [List.append_assoc]
  rfl
theorem stepsJ_all (ag : Bool) (S : Sta) (t : Nat) : stepsJ ag S t (S.hold t).length = stepsOf ag S t := by
  unfold stepsJ stepsOf
  rw [List.take_length]
theorem ok78 (F : Fun K "_law_steps" "_law_steps" (topS 78) f fd) (c77 : Cal P w K mg base k "_law_ended" (spD K pre77)) (m1 : mg "enumerate" = none) (m2 : mg "int" = none) (m3 : mg "len" = none) (m4 : mg "range" = none) : FnOk P w K mg base CX0 (k + 1) f fd ["_law_again", "_law_here"] (spF K pre78) := by
  refine def_f F sc78 (fun ds d ⟨ag, S, _, h, _⟩ => by rw [h]; rfl) fun cdv A outer s0 H E hr ds d ⟨ag, S, hS, h, hd⟩ => ?_
  subst h hd
  have p1 : pre77 [.bl ag, staD S] (.bl (ended ag S)) := ⟨ag, S, hS, rfl, rfl⟩
  walk_at "go"
  walk_at "asg"
  refine sx_ifret (k := ended ag S) ?_ (fun e z => nomatch z) ?_ ?_
  · walk_at "ev"
  · intro he
    with_reducible apply sx_retf
    walk_at "is"
    rw [steps, if_pos he]; rfl
  · intro he
    rw [steps, if_neg (by rw [he]; simp)]
    walk_at "seto1"
    · (with_reducible apply sl_filc [("_law_at", 12), ("_law_one", 13)] N78 (defScope (topS 78)) (List.range S.cols.length) (numb colD .black S.cols) (fun n => decide (S.col n = .grey)) stpD Stp.scan) <;> walk_at "ev"
      · rw [List.length_range, hS.cl, sizeLine_eq]; have := hS.n12; omega
      · intro z hz
        unfold numb
        walk_at "t1"
    have hA : (scans S).length ≤ 12 := scans_len hS
    have hB := fun j => range_len (stepsOf_len (ag := ag) hS) j
    refine sx_pre (sx_forc (List.range S.held.length) (numb heldD [] S.held) (fun j => [("_law_again", .d (.bl ag)), ("_law_here", .d (staD S)), ("_law_width", .d (.int S.w)), ("_law_slots", .d (.tup (S.slots.map rowD))), ("_law_colours", .d (.tup (S.cols.map colD))), ("_law_held", .d (.tup (S.held.map heldD))), ("_law_scanned", .d (.tup (S.sc.map D.bl))),
      ("_law_found", .o ((scans S ++ (List.range j).flatMap (stepsOf ag S)).map stpD)), ("_law_thread", .u), ("_law_some", .u), ("_law_number", .u), ("_law_slot", .u), ("_law_at", .u), ("_law_one", .u), ("_law_thing", .u)]) ?_ ?_ ?_ ?_ ?_) ?_
    · walk_at "ev"
    · intro t z hz
      obtain ⟨ht, rfl⟩ := range_get hz
      have h1 := scn_at hS ht
      unfold numb
      walk_at "turn"
      have hj := hB t
      have ht4 : t < 4 := Nat.lt_of_lt_of_le ht hS.t4
      have hl := hold_len hS t
      have hm : S.held.getD t [] = S.hold t := rfl
      rw [hm]
      walk_at "ext"
      · rw [sizeLine_eq, List.length_map, List.length_append]; have := if_len (ag || !S.scn t) (D.tup [.str "visit", natD t]); omega
      walk_at "ext"
      · rw [sizeLine_eq, List.length_append, List.length_map, List.length_append]; have q1 := if_len (ag || !S.scn t) (D.tup [.str "visit", natD t]); have q2 := if_len (decide (((S.slots.map rowD).length : Int) < 12)) (D.tup [.str "new", natD t]); omega
      refine sx_pre (sx_forc (S.hold t) natD (fun j => [("_law_again", .d (.bl ag)), ("_law_here", .d (staD S)), ("_law_width", .d (.int S.w)), ("_law_slots", .d (.tup (S.slots.map rowD))), ("_law_colours", .d (.tup (S.cols.map colD))), ("_law_held", .d (.tup (S.held.map heldD))), ("_law_scanned", .d (.tup (S.sc.map D.bl))),
        ("_law_found", .o ((scans S ++ (List.range t).flatMap (stepsOf ag S) ++ stepsJ ag S t j).map stpD)), ("_law_thread", .d (natD t)), ("_law_some", .d (heldD (S.hold t))), ("_law_number", .u), ("_law_slot", .u), ("_law_at", .u), ("_law_one", .u), ("_law_thing", .u)]) ?_ ?_ ?_ ?_ ?_) ?_
      · walk_at "ev"
      · intro j n hn
        have hJ := stepsJ_len (ag := ag) hS t j
        have hns : n < S.slots.length := hold_lt hS (List.mem_of_getElem? hn)
        have h2 := row_at hns
        walk_at "turn"
        walk_at "app"
        · rw [sizeLine_eq, List.length_map, List.length_append, List.length_append]; omega
        refine sx_pre (sx_forc (List.range S.w) natD (fun i => [("_law_again", .d (.bl ag)), ("_law_here", .d (staD S)), ("_law_width", .d (.int S.w)), ("_law_slots", .d (.tup (S.slots.map rowD))), ("_law_colours", .d (.tup (S.cols.map colD))), ("_law_held", .d (.tup (S.held.map heldD))), ("_law_scanned", .d (.tup (S.sc.map D.bl))),
          ("_law_found", .o ((scans S ++ (List.range t).flatMap (stepsOf ag S) ++ stepsJ ag S t j ++ stepsI S (S.hold t) t n i).map stpD)), ("_law_thread", .d (natD t)), ("_law_some", .d (heldD (S.hold t))), ("_law_number", .d (natD n)), ("_law_slot", .u), ("_law_at", .u), ("_law_one", .u), ("_law_thing", .u)]) ?_ ?_ ?_ ?_ ?_) ?_
        · walk_at "ev"
          have := hS.w4; omega
        · intro i z hz
          obtain ⟨hi, rfl⟩ := range_get hz
          have hi4 := hS.w4
          have hI := stepsI_len (S.hold t) hl S t n i
          have h3 := slot_at hS hns hi
          walk_at "turn"
          walk_at "ext"
          · rw [sizeLine_eq, List.length_map, List.length_append, List.length_append, List.length_append]; have := if_len (S.at' n i).isSome (D.tup [.str "load", natD t, natD n, natD i]); omega
          walk_at "ext"
          · (with_reducible apply lc_mapc [("_law_thing", 14)] N78 (defScope (topS 78)) (none :: (S.hold t).map some) optD stpD (fun o => Stp.store t n i o)) <;> walk_at "ev"
            · rw [sizeLine_eq, List.length_map]; show 1 + _ ≤ _; omega
            · exact .inl (by simp [optD])
            · rw [sizeLine_eq, List.length_cons, List.length_map]; omega
            · intro z hz
              walk_at "t1"
          · exact immL_stp _
          · have := if_len (S.at' n i).isSome (D.tup [.str "load", natD t, natD n, natD i])
            simp only [sizeLine_eq, List.length_map, List.length_append, List.length_cons]; omega
          walk_at "nil"
          rw [show stepsI S (S.hold t) t n (i + 1) = stepsI S (S.hold t) t n i ++ ((if (S.at' n i).isSome then [Stp.load t n i] else []) ++ (none :: (S.hold t).map some).map fun o => Stp.store t n i o) from stepsI_succ _ _ _ _ _]
          simp only [List.map_append, List.append_assoc, map_if, List.map_map]
        · refine sx_nile ?_
          walk_at "le"
          rw [List.length_range, stepsJ_succ hn]
          simp only [List.append_assoc]
        · walk_at "sy"
        · exact PassesOwn.never
        · walk_at "le"
          unfold stepsI
          simp [stpD]
      · refine sx_nile ?_
        walk_at "le"
        rw [List.range_succ, List.flatMap_append, List.flatMap_cons, List.flatMap_nil, List.append_nil, stepsJ_all, List.append_assoc]
      · walk_at "sy"
      · exact PassesOwn.never
      · walk_at "le"
        unfold stepsJ
        simp only [List.take_zero, List.flatMap_nil, List.append_nil, List.map_append, List.append_assoc, map_if, List.length_map]
        by_cases hq : S.slots.length < 12
        · have hq' : ((S.slots.length : Int) < 12) := by omega
          simp [hq, hq']
        · have hq' : ¬ ((S.slots.length : Int) < 12) := by omega
          simp [hq, hq']
    · rw [List.length_range]
      walk_at "reto"
    · walk_at "sy"
    · exact PassesOwn.never
    · walk_at "le"
      rw [List.range_zero, List.flatMap_nil, List.append_nil]
      unfold scans
      rfl
end
set_option maxRecDepth 100000
set_option maxHeartbeats 0
section
variable {P : Program} {w : World} {K : PySem.W.Frag} {mg : Str → Option Value} {base : Heap} {k : Nat} {f : Addr} {fd : FuncData}
theorem sc82 : Sc ["_law_colours", "_law_numbers", "_law_later", "_law_number"] ["_law_colours", "_law_numbers"] (topS 82) := ⟨⟨rfl, rfl, rfl, by decide +kernel, rfl, by decide +kernel, by decide +kernel⟩, by decide +kernel⟩
def pre82 (ds : List D) (d : D) : Prop := ∃ (cs : List Col) (ns : List (Option Nat)) (q : D), SeqD q (ns.map optD) ∧ (∀ n, some n ∈ ns → n < cs.length) ∧ cs.length ≤ 12 ∧ ds = [.tup (cs.map colD), q] ∧ d = .tup ((greys cs ns).map colD)
theorem greyN_len (cs : List Col) (o : Option Nat) : (greyN cs o).length = cs.length := by
  unfold greyN
  cases o with
  | none => rfl
  | some n => simp only []; split <;> simp
theorem greys_len : ∀ (ns : List (Option Nat)) (cs : List Col), (greys cs ns).length = cs.length
  | [], cs => rfl
  | o :: ns, cs => by
    show (greys (greyN cs o) ns).length = _
    rw [greys_len ns, greyN_len]
theorem greys_snoc {cs : List Col} {ns : List (Option Nat)} {i : Nat} {o : Option Nat} (h : ns[i]? = some o) : greys cs (ns.take (i + 1)) = greyN (greys cs (ns.take i)) o := by
  unfold greys
  rw [List.take_add_one, h]
  simp
theorem ok82 (F : Fun K "_law_grey" "_law_grey" (topS 82) f fd) (m1 : mg "list" = none) (m2 : mg "tuple" = none) : FnOk P w K mg base CX0 (k + 1) f fd ["_law_colours", "_law_numbers"] (spD K pre82) := by
  refine def_d F sc82 (fun ds d ⟨cs, ns, q, _, _, _, h, _⟩ => by rw [h]; rfl) fun cdv A outer s0 H E hr ds d ⟨cs, ns, q, hq, hb, hl, h, hd⟩ => ?_
  subst h hd
  walk_at "go"
  walk_at "seto1"
  refine sx_pre (sx_forc ns optD (fun i => [("_law_colours", .d (.tup (cs.map colD))), ("_law_numbers", .d q), ("_law_later", .o ((greys cs (ns.take i)).map colD)), ("_law_number", .u)]) ?_ ?_ ?_ ?_ ?_) ?_
  · refine ix_seq ?_ hq
    walk_at "ev"
  · intro i o ho
    walk_at "turn"
    cases o with
    | none =>
      refine sx_one (s1_if (k := false) (tx_is (tx_o (ox_and (k1 := false) (k2 := true) ?_ (fun h => nomatch h))) rfl) (fun h => nomatch h) fun _ => ?_)
      · walk_at "is"
      · walk_at "nil"
        rw [greys_snoc ho]; rfl
    | some n =>
      have hn : n < (greys cs (ns.take i)).length := by rw [greys_len]; exact hb n (List.mem_of_getElem? ho)
      have ha := at_map (f := colD) (List.getElem?_eq_getElem hn)
      have hx : ixN ((greys cs (ns.take i)).map colD).length (n : Int) = some n := ixn_nat (by rw [List.length_map]; exact hn)
      have e : (greys cs (ns.take i)).getD n .black = (greys cs (ns.take i))[n] := by rw [List.getD_eq_getElem?_getD, List.getElem?_eq_getElem hn]; rfl
      refine sx_one (s1_if (k := decide ((greys cs (ns.take i))[n] = .white)) (tx_is (tx_o (ox_and (k1 := true) (k2 := decide ((greys cs (ns.take i))[n] = .white)) ?_ ?_)) rfl) ?_ ?_)
      · walk_at "is"
      · intro _
        walk_at "ev"
      · intro hw
        walk_at "item"
        walk_at "nil"
        rw [greys_snoc ho]
        unfold greyN
        simp only []
        rw [e, if_pos (of_decide_eq_true hw), col_grey, List.map_set]
      · intro hw
        walk_at "nil"
        rw [greys_snoc ho]
        unfold greyN
        simp only []
        rw [e, if_neg (of_decide_eq_false hw)]
  · walk_at "ret"
    rw [List.take_length]
  · walk_at "sy"
  · exact PassesOwn.never
  · walk_at "le"
    rfl
theorem sc83 : Sc ["_law_held", "_law_thread", "_law_number"] ["_law_held", "_law_thread", "_law_number"] (topS 83) := ⟨⟨rfl, rfl, rfl, by decide +kernel, rfl, by decide +kernel, by decide +kernel⟩, by decide +kernel⟩
def pre83 (ds : List D) (d : D) : Prop := ∃ (S : Sta) (t n : Nat), S.Ok ∧ t < S.held.length ∧ n < 13 ∧ ds = [.tup (S.held.map heldD), natD t, natD n] ∧ d = .tup ((addH S.held t n).map heldD)
theorem hold_asc {S : Sta} (O : S.Ok) (t : Nat) : (S.hold t).Pairwise (· < ·) := by
  unfold Sta.hold
  rw [List.getD_eq_getElem?_getD]
  cases q : S.held[t]? with
  | none => exact List.Pairwise.nil
  | some x => exact (O.held x (List.mem_of_getElem? q)).1
theorem ok83 (F : Fun K "_law_add" "_law_add" (topS 83) f fd) (m1 : mg "list" = none) (m2 : mg "tuple" = none) (m3 : mg "sorted" = none) (m4 : mg "set" = none) : FnOk P w K mg base CX0 (k + 1) f fd ["_law_held", "_law_thread", "_law_number"] (spD K pre83) := by
  refine def_d F sc83 (fun ds d ⟨S, t, n, _, _, _, h, _⟩ => by rw [h]; rfl) fun cdv A outer s0 H E hr ds d ⟨S, t, n, hS, ht, hn, h, hd⟩ => ?_
  subst h hd
  have h1 := hold_at ht
  have h2 := hold_len hS t
  walk_at "go"
  walk_at "ret"
  · rw [sizeLine_eq, List.length_map]; show _ + 1 ≤ _; omega
  · show _ = D.lst ((S.hold t ++ [n]).map natD)
    rw [List.map_append]; rfl
  · intro x hx
    rcases List.mem_append.mp hx with hx | hx
    · have := hold_lt hS hx
      have := hS.n12
      omega
    · rw [List.mem_singleton.mp hx]; omega
  · rw [List.length_append]; show _ + 1 < _; omega
  · rw [List.length_map]; exact ht
  · rw [List.length_map]; have := hS.t4; omega
  · rw [sortN_add (hold_asc hS t)]
    unfold addH
    rw [List.map_set]
    rfl
end
set_option maxRecDepth 100000
set_option maxHeartbeats 0
section
variable {P : Program} {w : World} {K : PySem.W.Frag} {mg : Str → Option Value} {base : Heap} {k : Nat} {f : Addr} {fd : FuncData}
abbrev N84 : List Str := ["_law_marks_here", "_law_here", "_law_step", "_law_width", "_law_slots", "_law_colours", "_law_held", "_law_scanned", "_law_later", "_law_thread", "_law_met", "_law_less", "_law_phase", "_law_own", "_law_number"]
theorem sc84 : Sc N84 ["_law_marks_here", "_law_here", "_law_step"] (topS 84) := ⟨⟨rfl, rfl, rfl, by decide +kernel, rfl, by decide +kernel, by decide +kernel⟩, by decide +kernel⟩
def pre84 (ds : List D) (d : D) : Prop := ∃ (T : List Mk) (S : Sta) (st : Stp), (∀ m ∈ T, m.ok = true) ∧ S.Ok ∧ st.Good S ∧ ds = [.tup (T.map mkD), staD S, stpD st] ∧ d = staD (next T S st)
theorem next_new (T : List Mk) (S : Sta) (t : Nat) : next T S (.new t) = ⟨S.w, S.slots ++ [List.replicate S.w none], S.cols ++ [bif decide (Mk.new (S.scn t) ∈ T) then Col.black else Col.white], addH S.held t S.slots.length, S.sc⟩ := by
  unfold next
  by_cases h : Mk.new (S.scn t) ∈ T <;> simp [h]
theorem next_load {T : List Mk} {S : Sta} {t n s m : Nat} (h : S.at' n s = some m) : next T S (.load t n s) = { S with cols := if Mk.load (S.scn t) (S.col n) ∈ T then greyN S.cols (some m) else S.cols, held := addH S.held t m } := by
  simp only [next, h]
theorem ok84 (F : Fun K "_law_next" "_law_next" (topS 84) f fd) (c81 : Cal P w K mg base k "_law_stored" (spD K pre81)) (c82 : Cal P w K mg base k "_law_grey" (spD K pre82)) (c83 : Cal P w K mg base k "_law_add" (spD K pre83)) (m1 : mg "tuple" = none) (m2 : mg "len" = none) :
    FnOk P w K mg base CX0 (k + 1) f fd ["_law_marks_here", "_law_here", "_law_step"] (spD K pre84) := by
  refine def_d F sc84 (fun ds d ⟨T, S, st, _, _, _, h, _⟩ => by rw [h]; rfl) fun cdv A outer s0 H E hr ds d ⟨T, S, st, hT, hS, hg, h, hd⟩ => ?_
  subst h hd
  walk_at "go"
  have n12 := hS.n12
  have z1 : ∀ n, n < S.slots.length → n < (S.cols.map colD).length := fun n h => by rw [List.length_map, hS.cl]; exact h
  have z2 : (S.cols.map colD).length ≤ 1000 := by rw [List.length_map, hS.cl]; omega
  have z3 : ∀ t, t < S.held.length → t < (S.sc.map D.bl).length := fun n h => by rw [List.length_map, hS.sl]; exact h
  have z4 : (S.sc.map D.bl).length ≤ 1000 := by rw [List.length_map, hS.sl]; have := hS.t4; omega
  have z5 : ∀ t, t < S.held.length → t < (S.held.map heldD).length := fun n h => by rw [List.length_map]; exact h
  have z6 : (S.held.map heldD).length ≤ 1000 := by rw [List.length_map]; have := hS.t4; omega
  cases st with
  | store t b s o =>
    obtain ⟨g1, g2, g3, g4⟩ := hg
    have p : pre81 [.tup (T.map mkD), staD S, stpD (.store t b s o)] (staD (next T S (.store t b s o))) := ⟨T, S, t, b, s, o, hT, hS, g1, g2, g3, g4, rfl, rfl⟩
    walk_at "asg"
    walk_at "yes"
    with_reducible apply sx_ret
    walk_at "ev"
  | scan n =>
    have hg : n < S.slots.length := hg
    have h1 := row_at hg
    have p : pre82 [.tup (S.cols.map colD), rowD (S.row n)] (.tup ((greys S.cols (S.row n)).map colD)) := ⟨_, _, _, .inl rfl, fun m hm => by rw [hS.cl]; exact (hS.row _ (row_mem hg)).2 m hm, by rw [hS.cl]; exact n12, rfl, rfl⟩
    have y1 : n < ((greys S.cols (S.row n)).map colD).length := by rw [List.length_map, greys_len, hS.cl]; exact hg
    have y2 : ((greys S.cols (S.row n)).map colD).length ≤ 1000 := by rw [List.length_map, greys_len, hS.cl]; omega
    walk_at "asg"
    walk_at "no"
    walk_at "yes"
    walk_at "set1"
    walk_at "ret"
    rw [col_black, ← List.map_set]
    rfl
  | visit t =>
    have hg : t < S.held.length := hg
    have h1 := hold_at hg
    have y1 := z3 t hg
    have p : pre82 [.tup (S.cols.map colD), heldD (S.hold t)] (.tup ((greys S.cols ((S.hold t).map some)).map colD)) := ⟨_, _, _, .inl (by rw [← some_map]), fun m hm => by
      obtain ⟨x, hx, e⟩ := List.mem_map.mp hm
      rw [hS.cl, ← Option.some.inj e]; exact hold_lt hS hx, by rw [hS.cl]; exact n12, rfl, rfl⟩
    walk_at "asg"
    walk_at "no"
    walk_at "no"
    walk_at "set1"
    walk_at "yes"
    walk_at "set1"
    walk_at "ret"
    rw [← List.map_set]
    rfl
  | drop t n =>
    have hg : t < S.held.length := hg
    have h1 := hold_at hg
    have y1 := z5 t hg
    have h2 := hold_len hS t
    walk_at "asg"
    walk_at "no"
    walk_at "no"
    walk_at "set1"
    walk_at "no"
    walk_at "yes"
    walk_at "set1"
    · (with_reducible apply lc_filc [("_law_number", 14)] N84 (defScope (topS 84)) (S.hold t) natD (fun m => m != n) natD (fun m => m)) <;> walk_at "ev"
      · rw [sizeLine_eq]; omega
      · intro m hm
        walk_at "t1"
    walk_at "ret"
    rw [List.map_id', ← List.map_set (f := heldD)]
    rfl
  | new t =>
    have hg : t < S.held.length := hg
    have h1 := scn_at hS hg
    have p : pre83 [.tup (S.held.map heldD), natD t, natD S.slots.length] (.tup ((addH S.held t S.slots.length).map heldD)) := ⟨S, t, _, hS, hg, by omega, rfl, rfl⟩
    walk_at "asg"
    walk_at "no"
    walk_at "no"
    walk_at "set1"
    walk_at "no"
    walk_at "no"
    walk_at "set1"
    walk_at "yes"
    walk_at "set1"
    have len : (S.slots.map rowD).length = S.slots.length := List.length_map ..
    rw [← len] at p
    walk_at "ret"
    · have := hS.w4; omega
    · rw [sizeLine_eq, len]; show _ + 1 ≤ _; omega
    · rw [sizeLine_eq, List.length_map, hS.cl]; show _ + 1 ≤ _; omega
    · rw [len, col_black, col_white, colS_bif, next_new]
      simp only [staD, List.map_append, List.map_cons, List.map_nil, rowD, List.map_replicate]
  | load t n s =>
    obtain ⟨g1, g2, g3, g4⟩ := hg
    obtain ⟨m, hm⟩ := Option.isSome_iff_exists.mp g4
    have h1 := scn_at hS g1
    have h2 := row_at g2
    have h3 := slot_at hS g2 g3
    have h4 := colD_at hS g2
    rw [hm] at h3
    have hml := slot_lt hS g2 hm
    have p : pre83 [.tup (S.held.map heldD), natD t, natD m] (.tup ((addH S.held t m).map heldD)) := ⟨S, t, _, hS, g1, by omega, rfl, rfl⟩
    have p2 : pre82 [.tup (S.cols.map colD), .lst [natD m]] (.tup ((greys S.cols [some m]).map colD)) := ⟨_, [some m], _, .inr rfl, fun x hx => by
      have e : x = m := by simpa using hx
      rw [e, hS.cl]; exact hml, by rw [hS.cl]; exact n12, rfl, rfl⟩
    walk_at "asg"
    walk_at "no"
    walk_at "no"
    walk_at "set1"
    walk_at "no"
    walk_at "no"
    walk_at "set1"
    walk_at "no"
    walk_at "set1"
    cases hk : decide (Mk.load (S.scn t) (S.col n) ∈ T) with
    | true =>
      walk_at "then"
      · walk_at "set1"
        exact sx_nil
      walk_at "ret"
      rw [next_load hm, if_pos (of_decide_eq_true hk)]
      rfl
    | false =>
      walk_at "no"
      walk_at "ret"
      rw [next_load hm, if_neg (of_decide_eq_false hk)]
end
set_option maxRecDepth 100000
set_option maxHeartbeats 0
section
variable {P : Program} {w : World} {K : PySem.W.Frag} {mg : Str → Option Value} {base : Heap} {k : Nat} {f : Addr} {fd : FuncData}
abbrev N87 : List Str := ["_law_slots", "_law_held", "_law_found", "_law_some", "_law_turn", "_law_more", "_law_number", "_law_one"]
theorem sc87 : Sc N87 ["_law_slots", "_law_held"] (topS 87) := ⟨⟨rfl, rfl, rfl, by decide +kernel, rfl, by decide +kernel, by decide +kernel⟩, by decide +kernel⟩
def pre87 (ds : List D) (d : D) : Prop := ∃ S : Sta, S.Ok ∧ ds = [.tup (S.slots.map rowD), .tup (S.held.map heldD)] ∧ d = .lst ((reachedF S).map natD)
theorem reachK_lt {S : Sta} (O : S.Ok) : ∀ (k : Nat), ∀ n ∈ reachK S.slots S.held k, n < S.slots.length
  | 0, n, h => by
    obtain ⟨l, hl, hn⟩ := List.mem_flatten.mp ((mem_sortN n _).mp h)
    exact (O.held l hl).2 n hn
  | k + 1, n, h => by
    rcases List.mem_append.mp ((mem_sortN n _).mp h) with h | h
    · exact reachK_lt O k n h
    · obtain ⟨m, hm, h⟩ := List.mem_flatMap.mp h
      have hm' := reachK_lt O k m hm
      exact (O.row _ (row_mem hm')).2 n (mem_vals.mp h)
theorem reachK_asc (slots : List (List (Option Nat))) (held : List (List Nat)) : ∀ k, (reachK slots held k).Pairwise (· < ·)
  | 0 => asc_sortN _
  | k + 1 => asc_sortN _
theorem reachK_len {S : Sta} (O : S.Ok) (k : Nat) : (reachK S.slots S.held k).length ≤ 12 := Nat.le_trans (asc_len (reachK_asc _ _ k) (reachK_lt O k)) O.n12
theorem flatten_len {α : Type} {c : Nat} : ∀ {l : List (List α)}, (∀ x ∈ l, x.length ≤ c) → l.flatten.length ≤ l.length * c
  | [], _ => by simp
  | x :: l, h => by
    rw [List.flatten_cons, List.length_append, List.length_cons, Nat.add_mul, Nat.one_mul]
    have h1 := h x List.mem_cons_self
    have h2 := flatten_len (l := l) fun y hy => h y (List.mem_cons_of_mem _ hy)
    omega
theorem held_len {S : Sta} (O : S.Ok) {h : List Nat} (hh : h ∈ S.held) : h.length ≤ 12 := Nat.le_trans (asc_len (O.held h hh).1 (O.held h hh).2) O.n12
theorem take_flat_succ {α : Type} {l : List (List α)} {i : Nat} {h : List α} (e : l[i]? = some h) : (l.take (i + 1)).flatten = (l.take i).flatten ++ h := by
  rw [List.take_add_one, e]; simp
theorem heldF_len {S : Sta} (O : S.Ok) (i : Nat) : (S.held.take i).flatten.length ≤ 48 := by
  have h1 : ((S.held.take i).length) ≤ S.held.length := List.length_take_le' ..
  have h2 := flatten_len (l := S.held.take i) (c := 12) fun x hx => held_len O (List.mem_of_mem_take hx)
  have := O.t4
  omega
theorem ok87 (F : Fun K "_law_reached" "_law_reached" (topS 87) f fd) (m1 : mg "list" = none) (m2 : mg "sorted" = none) (m3 : mg "set" = none) (m4 : mg "range" = none) (m5 : mg "len" = none) :
    FnOk P w K mg base CX0 (k + 1) f fd ["_law_slots", "_law_held"] (spD K pre87) := by
  refine def_d F sc87 (fun ds d ⟨S, _, h, _⟩ => by rw [h]; rfl) fun cdv A outer s0 H E hr ds d ⟨S, hS, h, hd⟩ => ?_
  subst h hd
  have n12 := hS.n12
  walk_at "go"
  walk_at "seto1"
  refine sx_pre (sx_forc S.held heldD (fun i => [("_law_slots", .d (.tup (S.slots.map rowD))), ("_law_held", .d (.tup (S.held.map heldD))), ("_law_found", .o ((S.held.take i).flatten.map natD)), ("_law_some", .u), ("_law_turn", .u), ("_law_more", .u), ("_law_number", .u), ("_law_one", .u)]) ?_ ?_ ?_ ?_ ?_) ?_
  · walk_at "ev"
  · intro i h hh
    have h1 := heldF_len hS i
    have h2 := held_len hS (List.mem_of_getElem? hh)
    walk_at "turn"
    walk_at "ext"
    · rw [sizeLine_eq, List.length_map, List.length_map]; omega
    walk_at "nil"
    rw [take_flat_succ hh, List.map_append]
  · rw [List.take_length]
    have h1 : S.held.flatten.length ≤ 48 := by have := heldF_len hS S.held.length; rwa [List.take_length] at this
    with_reducible apply sx_seto
    · with_reducible apply slx_fxl
      · (with_reducible apply fx_ss) <;> walk_at "ev"
        · rfl
        · intro n hn
          obtain ⟨l, hl, hn⟩ := List.mem_flatten.mp hn
          have := (hS.held l hl).2 n hn
          omega
        · omega
      · walk_at "ev"
      · walk_at "ev"
      · walk_at "ev"
    · walk_at "ev"
    · walk_at "ev"
    · walk_at "ev"
    refine sx_frz (x := "_law_found") (by walk_at "lz") ?_
    refine sx_pre (sx_forc (List.range S.slots.length) natD (fun j => [("_law_slots", .d (.tup (S.slots.map rowD))), ("_law_held", .d (.tup (S.held.map heldD))), ("_law_found", .d (.lst ((reachK S.slots S.held j).map natD))), ("_law_some", .u), ("_law_turn", .u), ("_law_more", .u), ("_law_number", .u), ("_law_one", .u)]) ?_ ?_ ?_ ?_ ?_) ?_
    · walk_at "ev"
      omega
    · intro j z hz
      obtain ⟨hj, rfl⟩ := range_get hz
      have r1 := reachK_len hS j
      have r2 := reachK_lt hS j
      walk_at "turn"
      walk_at "seto1"
      refine sx_pre (sx_forc (reachK S.slots S.held j) natD (fun i => [("_law_slots", .d (.tup (S.slots.map rowD))), ("_law_held", .d (.tup (S.held.map heldD))), ("_law_found", .d (.lst ((reachK S.slots S.held j).map natD))), ("_law_some", .u), ("_law_turn", .u), ("_law_more", .o ((reachK S.slots S.held j ++ ((reachK S.slots S.held j).take i).flatMap fun n => vals (S.slots.getD n [])).map natD)), ("_law_number", .u), ("_law_one", .u)]) ?_ ?_ ?_ ?_ ?_) ?_
      · walk_at "ev"
      · intro i n hn
        have hns := r2 n (List.mem_of_getElem? hn)
        have h2 := row_at hns
        have h3 := row_len hS hns
        have w4 := hS.w4
        have hv := vals_len (S.row n)
        have hl := flat_len (l := (reachK S.slots S.held j).take i) (f := fun n => vals (S.slots.getD n [])) (c := 4) fun x hx => by
          have := r2 x (List.mem_of_mem_take hx)
          have := row_len hS this
          have := vals_len (S.row x)
          show (vals (S.row x)).length ≤ 4
          omega
        have hl2 : ((reachK S.slots S.held j).take i).length ≤ (reachK S.slots S.held j).length := List.length_take_le' ..
        walk_at "turn"
        walk_at "ext"
        · refine fx_is (ds' := (vals (S.row n)).map natD) ?_ (vals_map _)
          (with_reducible apply lc_filc [("_law_one", 7)] N87 (defScope (topS 87)) (S.row n) optD (fun o => o.isSome) optD (fun o => o)) <;> walk_at "ev"
          · rw [h3, sizeLine_eq]; omega
          · intro o ho
            walk_at "t1"
        · exact immL_nat _
        · rw [sizeLine_eq, List.length_map, List.length_map, List.length_append]; omega
        walk_at "nil"
        rw [List.take_add_one, hn, Option.toList_some, List.flatMap_append, List.flatMap_cons, List.flatMap_nil, List.append_nil, ← List.append_assoc]
        simp only [List.map_append]
        rfl
      · rw [List.take_length]
        have hl := flat_len (l := reachK S.slots S.held j) (f := fun n => vals (S.slots.getD n [])) (c := 4) fun x hx => by
          have := r2 x hx
          have := row_len hS this
          have := vals_len (S.row x)
          have w4 := hS.w4
          show (vals (S.row x)).length ≤ 4
          omega
        with_reducible apply sx_seto
        · with_reducible apply slx_fxl
          · (with_reducible apply fx_ss) <;> walk_at "ev"
            · rfl
            · intro n hn
              have := reachK_lt hS (j + 1) n ((mem_sortN n _).mpr hn)
              omega
            · rw [List.length_append]; omega
          · walk_at "ev"
          · walk_at "ev"
          · walk_at "ev"
        · walk_at "ev"
        · walk_at "ev"
        · walk_at "ev"
        refine sx_frz (x := "_law_found") (by walk_at "lz") ?_
        walk_at "nil"
        rfl
      · walk_at "sy"
      · exact PassesOwn.never
      · walk_at "le"
        simp
    · rw [List.length_range]
      walk_at "ret"
      rfl
    · walk_at "sy"
    · exact PassesOwn.never
    · walk_at "le"
      rfl
  · walk_at "sy"
  · exact PassesOwn.never
  · walk_at "le"
    rfl
end
set_option maxRecDepth 100000
set_option maxHeartbeats 0
section
variable {P : Program} {w : World} {K : PySem.W.Frag} {mg : Str → Option Value} {base : Heap} {k : Nat} {f : Addr} {fd : FuncData}
abbrev N88 : List Str := ["_law_here", "_law_found", "_law_turn", "_law_number", "_law_row", "_law_some", "_law_one"]
theorem sc88 : Sc N88 ["_law_here"] (topS 88) := ⟨⟨rfl, rfl, rfl, by decide +kernel, rfl, by decide +kernel, by decide +kernel⟩, by decide +kernel⟩
def pre88 (ds : List D) (d : D) : Prop := ∃ S : Sta, S.Ok ∧ ds = [staD S] ∧ d = .lst ((coveredF S).map natD)
theorem coverAt_mem {S : Sta} {F : List Nat} {i n : Nat} (h : n ∈ coverAt S F i) : n ∈ F ∨ some n ∈ S.row i := by
  unfold coverAt at h
  split at h
  · rcases List.mem_append.mp h with h | h
    · exact .inl h
    · exact .inr (mem_vals.mp (List.mem_filter.mp (List.mem_filter.mp h).1).1)
  · exact .inl h
theorem coverAt_lt {S : Sta} (O : S.Ok) {F : List Nat} (hF : ∀ n ∈ F, n < S.slots.length) {i : Nat} (hi : i < S.slots.length) : ∀ n ∈ coverAt S F i, n < S.slots.length := fun n h => by
  rcases coverAt_mem h with h | h
  · exact hF n h
  · exact (O.row _ (row_mem hi)).2 n h
theorem coverJ_lt {S : Sta} (O : S.Ok) {F : List Nat} (hF : ∀ n ∈ F, n < S.slots.length) : ∀ j, j ≤ S.slots.length → ∀ n ∈ coverJ S F j, n < S.slots.length
  | 0, _ => hF
  | j + 1, h => coverAt_lt O (coverJ_lt O hF j (by omega)) (by omega)
theorem coverK_lt {S : Sta} (O : S.Ok) : ∀ k, ∀ n ∈ coverK S k, n < S.slots.length
  | 0 => fun n h => by simp [coverK] at h
  | k + 1 => coverJ_lt O (coverK_lt O k) _ (Nat.le_refl _)
theorem coverAt_len {S : Sta} (O : S.Ok) (F : List Nat) {i : Nat} (hi : i < S.slots.length) : (coverAt S F i).length ≤ F.length + 4 := by
  unfold coverAt
  split
  · rw [List.length_append]
    have h1 := List.length_filter_le (isWhite S) ((vals (S.row i)).filter fun n => !decide (n ∈ F))
    have h2 := List.length_filter_le (fun n => !decide (n ∈ F)) (vals (S.row i))
    have h3 := vals_len (S.row i)
    have h4 := row_len O hi
    have h5 := O.w4
    omega
  · omega
theorem coverJ_len {S : Sta} (O : S.Ok) (F : List Nat) : ∀ j, j ≤ S.slots.length → (coverJ S F j).length ≤ F.length + j * 4
  | 0, _ => by show F.length ≤ _; omega
  | j + 1, h => by
    have h1 := coverJ_len O F j (by omega)
    have h2 := coverAt_len O (coverJ S F j) (i := j) (by omega)
    show (coverAt S (coverJ S F j) j).length ≤ _
    omega
theorem coverK_len {S : Sta} (O : S.Ok) : ∀ k, (coverK S k).length ≤ k * 48
  | 0 => Nat.zero_le _
  | k + 1 => by
    have h1 := coverK_len O k
    have h2 := coverJ_len O (coverK S k) S.slots.length (Nat.le_refl _)
    have h3 := O.n12
    show (coverJ S (coverK S k) S.slots.length).length ≤ _
    omega
theorem ok88 (F : Fun K "_law_covered" "_law_covered" (topS 88) f fd) (m2 : mg "sorted" = none) (m3 : mg "set" = none) (m4 : mg "range" = none) (m5 : mg "len" = none) (m6 : mg "enumerate" = none) :
    FnOk P w K mg base CX0 (k + 1) f fd ["_law_here"] (spD K pre88) := by
  refine def_d F sc88 (fun ds d ⟨S, _, h, _⟩ => by rw [h]; rfl) fun cdv A outer s0 H E hr ds d ⟨S, hS, h, hd⟩ => ?_
  subst h hd
  have n12 := hS.n12
  walk_at "go"
  walk_at "seto1"
  refine sx_pre (sx_forc (List.range S.slots.length) natD (fun i => [("_law_here", .d (staD S)), ("_law_found", .o ((coverK S i).map natD)), ("_law_turn", .u), ("_law_number", .u), ("_law_row", .u), ("_law_some", .u), ("_law_one", .u)]) ?_ ?_ ?_ ?_ ?_) ?_
  · walk_at "ev"
    omega
  · intro i z hz
    obtain ⟨hi, rfl⟩ := range_get hz
    have q1 := coverK_len hS i
    have q2 := coverK_lt hS i
    walk_at "turn"
    refine sx_pre (sx_forc (List.range S.slots.length) (numb rowD [] S.slots) (fun j => [("_law_here", .d (staD S)), ("_law_found", .o ((coverJ S (coverK S i) j).map natD)), ("_law_turn", .u), ("_law_number", .u), ("_law_row", .u), ("_law_some", .u), ("_law_one", .u)]) ?_ ?_ ?_ ?_ ?_) ?_
    · walk_at "ev"
    · intro j z hz
      obtain ⟨hj, rfl⟩ := range_get hz
      have q3 := coverJ_len hS (coverK S i) j (by omega)
      have q4 := coverJ_lt hS q2 j (by omega)
      have h1 := colD_at hS hj
      have h3 := row_len hS hj
      have w4 := hS.w4
      have hv := vals_len (S.row j)
      have hR : S.slots.getD j [] = S.row j := rfl
      unfold numb
      walk_at "turn"
      rw [hR]
      refine sx_one (s1_if (k := decide (S.col j = .grey) || decide (j ∈ coverJ S (coverK S i) j)) (tx_o (ox_or ?_ ?_)) ?_ ?_)
      · walk_at "ev"
      · intro _
        walk_at "ev"
      · intro hk
        with_reducible apply sx_seto
        · with_reducible apply g_SLc
          refine slx_is (ds := ((((S.row j).filter (fun o => o.isSome && !decide (o ∈ (coverJ S (coverK S i) j).map some))).map (fun o => o)).map optD)) ?_ (vals_mapf _ _)
          (with_reducible apply sl_filc [("_law_one", 6)] N88 (defScope (topS 88)) (S.row j) optD (fun o => o.isSome && !decide (o ∈ (coverJ S (coverK S i) j).map some)) optD (fun o => o)) <;> walk_at "ev"
          · rw [h3, sizeLine_eq]; omega
          · intro o ho
            walk_at "t1"
        · walk_at "ev"
        · exact immL_nat _
        · walk_at "ev"
        have hf := List.length_filter_le (fun n => !decide (n ∈ coverJ S (coverK S i) j)) (vals (S.row j))
        have hf2 := List.length_filter_le (isWhite S) ((vals (S.row j)).filter fun n => !decide (n ∈ coverJ S (coverK S i) j))
        walk_at "ext"
        · (with_reducible apply lc_filc [("_law_one", 6)] N88 (defScope (topS 88)) ((vals (S.row j)).filter fun n => !decide (n ∈ coverJ S (coverK S i) j)) natD (isWhite S) natD (fun n => n)) <;> walk_at "ev"
          · rw [sizeLine_eq]; omega
          · intro n hn
            have hc := colD_at hS ((hS.row _ (row_mem hj)).2 n (mem_vals.mp (List.mem_filter.mp hn).1))
            walk_at "t1"
        · exact immL_nat _
        · rw [sizeLine_eq, List.length_map, List.length_map, List.length_map]; omega
        walk_at "nil"
        show _ = List.map natD (coverAt S (coverJ S (coverK S i) j) j)
        unfold coverAt
        rw [if_pos hk, List.map_append, List.map_id']
      · intro hk
        walk_at "nil"
        show _ = List.map natD (coverAt S (coverJ S (coverK S i) j) j)
        unfold coverAt
        rw [if_neg (by rw [hk]; simp)]
    · rw [List.length_range]
      walk_at "nil"
      rfl
    · walk_at "sy"
    · exact PassesOwn.never
    · walk_at "le"
      rfl
  · rw [List.length_range]
    have q1 := coverK_len hS S.slots.length
    have q2 := coverK_lt hS S.slots.length
    walk_at "ret"
    · rfl
    · intro n hn
      have := q2 n hn
      omega
    · omega
    · rfl
  · walk_at "sy"
  · exact PassesOwn.never
  · walk_at "le"
    rfl
end
set_option maxRecDepth 100000
set_option maxHeartbeats 0
section
variable {P : Program} {w : World} {K : PySem.W.Frag} {mg : Str → Option Value} {base : Heap} {k : Nat} {f : Addr} {fd : FuncData}
abbrev N89 : List Str := ["_law_again", "_law_here", "_law_term", "_law_width", "_law_slots", "_law_colours", "_law_held", "_law_scanned", "_law_some", "_law_kept", "_law_number", "_law_row", "_law_mine", "_law_is_scanned", "_law_one"]
theorem sc89 : Sc N89 ["_law_again", "_law_here", "_law_term"] (topS 89) := ⟨⟨rfl, rfl, rfl, by decide +kernel, rfl, by decide +kernel, by decide +kernel⟩, by decide +kernel⟩
def pre89 (ds : List D) (d : D) : Prop := ∃ (ag : Bool) (S : Sta) (t : Wd), S.Ok ∧ ds = [.bl ag, staD S, wdD t] ∧ d = .bl (hasF ag S t)
/-- whites of black ones, up to object i -/
def bwI (p : Bool) (S : Sta) (i : Nat) : List Nat := (List.range i).flatMap fun k => if (decide (S.col k = .black) && p) = true then whites S (vals (S.row k)) else []
def hwI (p : Bool) (S : Sta) (i : Nat) : List Nat := (List.range i).flatMap fun t => if (S.scn t && p) = true then whites S (S.hold t) else []
def grI (S : Sta) (i : Nat) : List (Option Nat) := (List.range i).flatMap fun k => if S.col k = .grey then S.row k else []
theorem bwI_succ (p : Bool) (S : Sta) (i : Nat) : bwI p S (i + 1) = bwI p S i ++ (if (decide (S.col i = .black) && p) = true then whites S (vals (S.row i)) else []) := by
  unfold bwI; rw [List.range_succ, List.flatMap_append, List.flatMap_cons, List.flatMap_nil, List.append_nil]
theorem hwI_succ (p : Bool) (S : Sta) (i : Nat) : hwI p S (i + 1) = hwI p S i ++ (if (S.scn i && p) = true then whites S (S.hold i) else []) := by
  unfold hwI; rw [List.range_succ, List.flatMap_append, List.flatMap_cons, List.flatMap_nil, List.append_nil]
theorem grI_succ (S : Sta) (i : Nat) : grI S (i + 1) = grI S i ++ (if S.col i = .grey then S.row i else []) := by
  unfold grI; rw [List.range_succ, List.flatMap_append, List.flatMap_cons, List.flatMap_nil, List.append_nil]
theorem bwI_len (p : Bool) {S : Sta} (O : S.Ok) (i : Nat) (h : i ≤ S.slots.length) : (bwI p S i).length ≤ i * 4 := by
  have := flat_len (l := List.range i) (f := fun k => if (decide (S.col k = .black) && p) = true then whites S (vals (S.row k)) else []) (c := 4) fun x hx => by
    split
    · have h1 := List.length_filter_le (isWhite S) (vals (S.row x))
      have h2 := vals_len (S.row x)
      have h3 := row_len O (Nat.lt_of_lt_of_le (List.mem_range.mp hx) h)
      have := O.w4
      show (List.filter _ _).length ≤ 4
      omega
    · exact Nat.zero_le _
  rwa [List.length_range] at this
theorem hwI_len (p : Bool) {S : Sta} (O : S.Ok) (i : Nat) : (hwI p S i).length ≤ i * 12 := by
  have := flat_len (l := List.range i) (f := fun t => if (S.scn t && p) = true then whites S (S.hold t) else []) (c := 12) fun x hx => by
    split
    · have h1 := List.length_filter_le (isWhite S) (S.hold x)
      have h2 := hold_len O x
      show (List.filter _ _).length ≤ 12
      omega
    · exact Nat.zero_le _
  rwa [List.length_range] at this
theorem grI_len {S : Sta} (O : S.Ok) (i : Nat) (h : i ≤ S.slots.length) : (grI S i).length ≤ i * 4 := by
  have := flat_len (l := List.range i) (f := fun k => if S.col k = .grey then S.row k else []) (c := 4) fun x hx => by
    split
    · have h3 := row_len O (Nat.lt_of_lt_of_le (List.mem_range.mp hx) h)
      have := O.w4
      omega
    · exact Nat.zero_le _
  rwa [List.length_range] at this
theorem bwI_all (p : Bool) (S : Sta) : bwI p S S.slots.length = if p = true then blackWs S else [] := by
  cases p
  · unfold bwI; simp
  · unfold bwI blackWs; simp
theorem hwI_all (p : Bool) (S : Sta) : hwI p S S.held.length = if p = true then heldWs S else [] := by
  cases p
  · unfold hwI; simp
  · unfold hwI heldWs; simp
theorem ok89 (F : Fun K "_law_has" "_law_has" (topS 89) f fd) (c77 : Cal P w K mg base k "_law_ended" (spD K pre77)) (c87 : Cal P w K mg base k "_law_reached" (spD K pre87)) (c88 : Cal P w K mg base k "_law_covered" (spD K pre88))
    (m1 : mg "any" = none) (m2 : mg "all" = none) (m3 : mg "zip" = none) (m4 : mg "list" = none) (m6 : mg "enumerate" = none) :
    FnOk P w K mg base CX0 (k + 1) f fd ["_law_again", "_law_here", "_law_term"] (spD K pre89) := by
  refine def_d F sc89 (fun ds d ⟨ag, S, t, _, h, _⟩ => by rw [h]; rfl) fun cdv A outer s0 H E hr ds d ⟨ag, S, t, hS, h, hd⟩ => ?_
  subst h hd
  have n12 := hS.n12
  have t4 := hS.t4
  have w4 := hS.w4
  have p1 : pre77 [.bl ag, staD S] (.bl (ended ag S)) := ⟨ag, S, hS, rfl, rfl⟩
  have p2 : pre87 [.tup (S.slots.map rowD), .tup (S.held.map heldD)] (.lst ((reachedF S).map natD)) := ⟨S, hS, rfl, rfl⟩
  have p3 : pre88 [staD S] (.lst ((coveredF S).map natD)) := ⟨S, hS, rfl, rfl⟩
  walk_at "go"
  walk_at "asg"
  refine sx_ifret (k := decide (t = .safe)) ?_ (fun e z => nomatch z) ?_ ?_
  · refine tx_cmp (d1 := wdD t) (d2 := .str "safe") ?_ ?_ o_wdSafe ?_ <;> walk_at "ev"
  · intro ht
    have ht := of_decide_eq_true ht
    subst ht
    have hrl := reachK_len hS S.slots.length
    walk_at "ret"
    · (with_reducible apply lc_mapc [("_law_one", 14)] N89 (defScope (topS 89)) (reachedF S) natD D.bl (isWhite S)) <;> walk_at "ev"
      · rw [sizeLine_eq]; show (reachK _ _ _).length < _; omega
      · intro n hn
        have hc := colD_at hS (reachK_lt hS _ n hn)
        walk_at "t1"
    · rw [any_map_id]; rfl
  · intro ht
    have ht := of_decide_eq_false ht
    (with_reducible apply sx_asgO1) <;> walk_at "ev"
    refine sx_pre (sx_forc (List.range S.slots.length) (numb rowD [] S.slots) (fun i => [("_law_again", .d (.bl ag)), ("_law_here", .d (staD S)), ("_law_term", .d (wdD t)), ("_law_width", .d (.int S.w)), ("_law_slots", .d (.tup (S.slots.map rowD))), ("_law_colours", .d (.tup (S.cols.map colD))), ("_law_held", .d (.tup (S.held.map heldD))), ("_law_scanned", .d (.tup (S.sc.map D.bl))),
      ("_law_some", .o ((bwI (decide (t ∈ [Wd.strong, .weak])) S i).map natD)), ("_law_kept", .d (.lst ((coveredF S).map natD))), ("_law_number", .u), ("_law_row", .u), ("_law_mine", .u), ("_law_is_scanned", .u), ("_law_one", .u)]) ?_ ?_ ?_ ?_ ?_) ?_
    · walk_at "ev"
    · intro j z hz
      obtain ⟨hj, rfl⟩ := range_get hz
      have h1 := colD_at hS hj
      have h3 := row_len hS hj
      have hv := vals_len (S.row j)
      have hR : S.slots.getD j [] = S.row j := rfl
      have hb := bwI_len (decide (t ∈ [Wd.strong, .weak])) hS j (by omega)
      have hw := List.length_filter_le (isWhite S) (vals (S.row j))
      unfold numb
      walk_at "turn"
      rw [hR]
      refine sx_one (s1_if (k := decide (S.col j = .black) && decide (t ∈ [Wd.strong, .weak])) (tx_o (ox_and ?_ ?_)) ?_ ?_)
      · walk_at "ev"
      · intro _
        walk_at "ev"
      · intro hk
        walk_at "ext"
        · refine fx_is (ds' := (whites S (vals (S.row j))).map natD) ?_ (vals_mapw S _)
          (with_reducible apply lc_filc [("_law_one", 14)] N89 (defScope (topS 89)) (S.row j) optD (fun o => o.isSome && oWhite S o) optD (fun o => o)) <;> walk_at "ev"
          · rw [h3, sizeLine_eq]; omega
          · intro o ho
            cases o with
            | none =>
              with_reducible apply turn1
              · walk_at "ev"
              · refine ab_is' ?_
                intro _ _ _ _ _
                with_reducible apply kx_one
                with_reducible apply tx_o
                with_reducible apply ox_and
                · walk_at "ev"
                · exact fun h => nomatch h
              · exact fun h => nomatch h
              · walk_at "ev"
            | some n =>
              have hc := colD_at hS ((hS.row _ (row_mem hj)).2 n ho)
              walk_at "t1"
        · exact immL_nat _
        · rw [sizeLine_eq, List.length_map, List.length_map]; show _ + (List.filter _ _).length ≤ _; omega
        walk_at "nil"
        show _ = List.map natD (bwI _ S (j + 1))
        rw [bwI_succ, if_pos hk, List.map_append]
      · intro hk
        walk_at "nil"
        show _ = List.map natD (bwI _ S (j + 1))
        rw [bwI_succ, if_neg (by rw [hk]; simp), List.append_nil]
    · rw [List.length_range, bwI_all]
      generalize hBW : (if decide (t ∈ [Wd.strong, .weak]) = true then blackWs S else []) = BW
      have hBL : BW.length ≤ 48 := by
        have := bwI_len (decide (t ∈ [Wd.strong, .weak])) hS S.slots.length (Nat.le_refl _)
        rw [bwI_all, hBW] at this
        omega
      refine sx_pre (sx_forc (List.range S.held.length) (fun i => .tup [heldD (S.held.getD i []), .bl (S.sc.getD i false)]) (fun i => [("_law_again", .d (.bl ag)), ("_law_here", .d (staD S)), ("_law_term", .d (wdD t)), ("_law_width", .d (.int S.w)), ("_law_slots", .d (.tup (S.slots.map rowD))), ("_law_colours", .d (.tup (S.cols.map colD))), ("_law_held", .d (.tup (S.held.map heldD))), ("_law_scanned", .d (.tup (S.sc.map D.bl))),
      ("_law_some", .o ((BW ++ hwI (decide (t ∈ [Wd.clean, .covered, .direct])) S i).map natD)), ("_law_kept", .d (.lst ((coveredF S).map natD))), ("_law_number", .u), ("_law_row", .u), ("_law_mine", .u), ("_law_is_scanned", .u), ("_law_one", .u)]) ?_ ?_ ?_ ?_ ?_) ?_
      · (with_reducible apply ix_zipc heldD D.bl [] false S.held S.sc) <;> walk_at "ev"
        exact hS.sl.symm
      · intro j z hz
        obtain ⟨hj, rfl⟩ := range_get hz
        have hh := hwI_len (decide (t ∈ [Wd.clean, .covered, .direct])) hS j
        have hl := hold_len hS j
        have hw := List.length_filter_le (isWhite S) (S.hold j)
        have hR : S.held.getD j [] = S.hold j := rfl
        have hR2 : S.sc.getD j false = S.scn j := rfl
        rw [hR, hR2]
        walk_at "turn"
        refine sx_one (s1_if (k := S.scn j && decide (t ∈ [Wd.clean, .covered, .direct])) (tx_o (ox_and ?_ ?_)) ?_ ?_)
        · walk_at "ev"
        · intro _
          walk_at "ev"
        · intro hk
          walk_at "ext"
          · (with_reducible apply lc_filc [("_law_one", 14)] N89 (defScope (topS 89)) (S.hold j) natD (isWhite S) natD (fun n => n)) <;> walk_at "ev"
            · rw [sizeLine_eq]; omega
            · intro n hn
              have hc := colD_at hS (hold_lt hS hn)
              walk_at "t1"
          · exact immL_nat _
          · rw [sizeLine_eq, List.length_map, List.length_map, List.length_map, List.length_append]; omega
          walk_at "nil"
          show _ = List.map natD (BW ++ hwI _ S (j + 1))
          rw [hwI_succ, if_pos hk, List.map_id', ← List.append_assoc]
          simp only [List.map_append]
          rfl
        · intro hk
          walk_at "nil"
          show _ = List.map natD (BW ++ hwI _ S (j + 1))
          rw [hwI_succ, if_neg (by rw [hk]; simp), List.append_nil]
      · rw [List.length_range, hwI_all]
        generalize hHW : (if decide (t ∈ [Wd.clean, .covered, .direct]) = true then heldWs S else []) = HW
        have hHL : HW.length ≤ 48 := by
          have := hwI_len (decide (t ∈ [Wd.clean, .covered, .direct])) hS S.held.length
          rw [hwI_all, hHW] at this
          omega
        have hSL : (BW ++ HW).length ≤ 96 := by rw [List.length_append]; omega
        refine sx_ifret (k := decide (t ∈ [Wd.strong, .clean])) ?_ (fun e z => nomatch z) ?_ ?_
        · refine tx_cmp (d1 := wdD t) (d2 := .tup [.str "strong", .str "clean"]) ?_ ?_ (o_wdSC (ru hr)) ?_ <;> walk_at "ev"
        · intro hk
          with_reducible apply sx_ret
          refine ex_is (ex_cmp (d1 := .lst ((BW ++ HW).map natD)) (d2 := .lst []) (d := .bl (decide (BW ++ HW = []))) ?_ ?_ (o_eqNil ?_) ?_) ?_
          · walk_at "ev"
          · walk_at "ev"
          · exact Nat.lt_of_succ_lt (ru hr)
          · walk_at "ev"
          · rw [← hBW, ← hHW]
            cases t <;> simp at hk ⊢ <;> rfl
        · intro hk
          have hb0 : t = .direct → BW = [] := fun h => by subst h; rw [← hBW]; rfl
          cases hd : decide (t = Wd.direct) with
          | true =>
            have htd := of_decide_eq_true hd
            refine sx_then (e1 := [("_law_again", .d (.bl ag)), ("_law_here", .d (staD S)), ("_law_term", .d (wdD t)), ("_law_width", .d (.int S.w)), ("_law_slots", .d (.tup (S.slots.map rowD))), ("_law_colours", .d (.tup (S.cols.map colD))), ("_law_held", .d (.tup (S.held.map heldD))), ("_law_scanned", .d (.tup (S.sc.map D.bl))),
      ("_law_some", .o ((BW ++ HW).map natD)), ("_law_kept", .o ((greyRow S).map optD)), ("_law_number", .u), ("_law_row", .u), ("_law_mine", .u), ("_law_is_scanned", .u), ("_law_one", .u)]) (k := decide (t = .direct)) (tx_cmp (d1 := wdD t) (d2 := .str "direct") ?_ ?_ o_wdDirect ?_) hd ?_ ?_
            · walk_at "ev"
            · walk_at "ev"
            · walk_at "ev"
            · walk_at "seto"
              refine sx_pre (sx_forc (List.range S.slots.length) (numb rowD [] S.slots) (fun i => [("_law_again", .d (.bl ag)), ("_law_here", .d (staD S)), ("_law_term", .d (wdD t)), ("_law_width", .d (.int S.w)), ("_law_slots", .d (.tup (S.slots.map rowD))), ("_law_colours", .d (.tup (S.cols.map colD))), ("_law_held", .d (.tup (S.held.map heldD))), ("_law_scanned", .d (.tup (S.sc.map D.bl))),
      ("_law_some", .o ((BW ++ HW).map natD)), ("_law_kept", .o ((grI S i).map optD)), ("_law_number", .u), ("_law_row", .u), ("_law_mine", .u), ("_law_is_scanned", .u), ("_law_one", .u)]) ?_ ?_ ?_ ?_ ?_) ?_
              · walk_at "ev"
              · intro j z hz
                obtain ⟨hj, rfl⟩ := range_get hz
                have h1 := colD_at hS hj
                have h3 := row_len hS hj
                have hg := grI_len hS j (by omega)
                have hR : S.slots.getD j [] = S.row j := rfl
                unfold numb
                rw [hR]
                walk_at "turn"
                (with_reducible apply sx_extend (es := (if S.col j = .grey then S.row j else []).map optD)) <;> walk_at "ev"
                · refine ex_if (k := decide (S.col j = .grey)) ?_ ?_ ?_
                  · walk_at "ev"
                  · intro h
                    rw [if_pos (of_decide_eq_true h)]
                    walk_at "ev"
                  · intro h
                    rw [if_neg (of_decide_eq_false h)]
                    show EX _ _ _ (.lst [])
                    walk_at "ev"
                · have : (if S.col j = .grey then S.row j else []).length ≤ 4 := by
                    split
                    · omega
                    · exact Nat.zero_le _
                  rw [sizeLine_eq, List.length_map, List.length_map]; omega
                walk_at "nil"
                show _ = List.map optD (grI S (j + 1))
                rw [grI_succ, List.map_append]
              · rw [List.length_range]
                walk_at "nil"
                rfl
              · walk_at "sy"
              · exact PassesOwn.never
              · walk_at "le"
                rfl
            · walk_at "ret"
              · (with_reducible apply lc_mapc [("_law_one", 14)] N89 (defScope (topS 89)) (BW ++ HW) natD D.bl (fun n => decide (some n ∈ greyRow S))) <;> walk_at "ev"
                · rw [sizeLine_eq]; omega
                · intro n hn
                  walk_at "t1"
                  exact o_inOptS (ru hr)
              · rw [all_map_id, hb0 htd, List.nil_append, ← hHW, htd]; rfl
          | false =>
            have htd := of_decide_eq_false hd
            refine sx_no (k := decide (t = .direct)) (tx_cmp (d1 := wdD t) (d2 := .str "direct") ?_ ?_ o_wdDirect ?_) hd ?_
            · walk_at "ev"
            · walk_at "ev"
            · walk_at "ev"
            · walk_at "ret"
              · (with_reducible apply lc_mapc [("_law_one", 14)] N89 (defScope (topS 89)) (BW ++ HW) natD D.bl (fun n => decide (n ∈ coveredF S))) <;> walk_at "ev"
                · rw [sizeLine_eq]; omega
                · intro n hn
                  walk_at "t1"
              · rw [all_map_id, ← hBW, ← hHW]
                cases t <;> simp at hk ht htd ⊢ <;> rfl
      · walk_at "sy"
      · exact PassesOwn.never
      · walk_at "le"
        show _ = List.map natD (BW ++ [])
        rw [List.append_nil]
    · walk_at "sy"
    · exact PassesOwn.never
    · walk_at "le"
      rfl
end
set_option maxRecDepth 100000
set_option maxHeartbeats 0
section
variable {P : Program} {w : World} {K : PySem.W.Frag} {mg : Str → Option Value} {base : Heap} {k : Nat} {f : Addr} {fd : FuncData}
abbrev N18 : List Str := ["state", "colour"]
theorem sc18 : Sc N18 [] (topS 18) := ⟨⟨rfl, rfl, rfl, by decide +kernel, rfl, by decide +kernel, by decide +kernel⟩, by decide +kernel⟩
def pre18 (ds es : List D) : Prop := ds = [] ∧ es = loadMs.map mkD
theorem ok18 (F : Fun K "load_marks" "load_marks" (topS 18) f fd) (g1 : GC K mg "STATES_marks" (.tup ([true, false].map phD))) (g2 : GC K mg "COLOURS" (.tup ([Col.black, .grey, .white].map colD))) (g3 : GC K mg "LOAD" (.str "load")) :
    FnOk P w K mg base CX0 (k + 1) f fd [] (spF K pre18) := by
  refine def_f F sc18 (fun ds d ⟨h, _⟩ => by rw [h]; rfl) fun cdv A outer s0 H E hr ds d ⟨h, hd⟩ => ?_
  subst h hd
  walk_at "go"
  with_reducible apply sx_retf
  refine fx_is (ds := [true, false].flatMap fun s => [Col.black, .grey, .white].map fun c => .tup [.str "load", phD s, colD c]) ?_ rfl
  (with_reducible apply lc2c [("state", 0), ("colour", 1)] [1] N18 (defScope (topS 18)) [true, false] phD (fun _ => [Col.black, .grey, .white]) (fun _ c => colD c) (fun s c => .tup [.str "load", phD s, colD c])) <;> walk_at "ev"
  · exact fun _ _ => rfl
  · intro s hs
    walk_at "t2"
    intro c hc
    walk_at "i2"
theorem whoS_old (wh : Who) : decide (whoS wh = ("old" : Str)) = decide (wh = .old) := by cases wh <;> decide +kernel
abbrev N19 : List Str := ["holder", "old", "new", "who"]
theorem sc19 : Sc N19 ["holder", "old", "new", "who"] (topS 19) := ⟨⟨rfl, rfl, rfl, by decide +kernel, rfl, by decide +kernel, by decide +kernel⟩, by decide +kernel⟩
def pre19 (ds : List D) (d : D) : Prop := ∃ (h : Col) (o n : Option Col) (wh : Who), ds = [colD h, ocolD o, ocolD n, whoD wh] ∧ d = .bl (cshade h o n wh)
theorem ok19 (F : Fun K "can_be_shaded" "can_be_shaded" (topS 19) f fd) (g1 : GC K mg "HOLDER" (.str "holder")) (g2 : GC K mg "GREY_marks" (.str "grey")) (g3 : GC K mg "OLD" (.str "old")) (g4 : GC K mg "WHITE_marks" (.str "white")) :
    FnOk P w K mg base CX0 (k + 1) f fd ["holder", "old", "new", "who"] (spD K pre19) := by
  refine def_d F sc19 (fun ds d ⟨_, _, _, _, h, _⟩ => by rw [h]; rfl) fun cdv A outer s0 H E hr ds d ⟨h, o, n, wh, hds, hd⟩ => ?_
  subst hds hd
  walk_at "go"
  refine sx_ifret (k := decide (whoS wh = ("holder" : Str))) ?_ (fun e z => nomatch z) ?_ ?_
  · walk_at "ev"
  · intro hk
    walk_at "ret"
    rw [whoS_holder] at hk
    rw [of_decide_eq_true hk]
    show D.bl (!decide (colS h = ("grey" : Str))) = _
    rw [colS_grey]; rfl
  · intro hk
    with_reducible apply sx_ret
    have e1 : ∀ x : Option Col, decide (ocolS x = ("white" : Str)) = decide (x = some .white) := fun x => decide_eq_decide.mpr (ocolS_inj (b := some .white))
    refine ex_if (k := decide (whoS wh = ("old" : Str))) ?_ ?_ ?_
    · walk_at "ev"
    · intro h2
      walk_at "is"
      cases wh with
      | old => show D.bl (decide (ocolS o = ("white" : Str))) = _; rw [e1]; rfl
      | _ => rw [whoS_old] at h2; simp at h2
    · intro h2
      walk_at "is"
      cases wh with
      | new => show D.bl (decide (ocolS n = ("white" : Str))) = _; rw [e1]; rfl
      | holder => rw [whoS_holder] at hk; simp at hk
      | old => rw [whoS_old] at h2; simp at h2
end
set_option maxRecDepth 100000
set_option maxHeartbeats 0
section
variable {P : Program} {w : World} {K : PySem.W.Frag} {mg : Str → Option Value} {base : Heap} {k : Nat} {f : Addr} {fd : FuncData}
abbrev N20 : List Str := ["found", "state", "holder", "old", "new", "some", "who"]
theorem sc20 : Sc N20 [] (topS 20) := ⟨⟨rfl, rfl, rfl, by decide +kernel, rfl, by decide +kernel, by decide +kernel⟩, by decide +kernel⟩
def pre20 (ds es : List D) : Prop := ds = [] ∧ es = storeMs.map mkD
theorem take_flat_len {α β : Type} {F : α → List β} {c : Nat} (h : ∀ x, (F x).length ≤ c) (l : List α) (i : Nat) : ((l.take i).flatMap F).length ≤ l.length * c := by
  have h1 := flat_len (l := l.take i) (f := F) (c := c) fun x _ => h x
  have h2 : (l.take i).length ≤ l.length := List.length_take_le' ..
  exact Nat.le_trans h1 (Nat.mul_le_mul_right _ h2)
theorem flat_len' {α β : Type} {F : α → List β} {c : Nat} (h : ∀ x, (F x).length ≤ c) (l : List α) : (l.flatMap F).length ≤ l.length * c := flat_len fun x _ => h x
abbrev cols3 : List Col := [.black, .grey, .white]
def stF3 (s : Bool) (h : Col) (o : Option Col) : List Mk := ocols.flatMap fun n => storeAt s h o n
def stF2 (s : Bool) (h : Col) : List Mk := ocols.flatMap fun o => stF3 s h o
def stF1 (s : Bool) : List Mk := cols3.flatMap fun h => stF2 s h
theorem stAt_map (s : Bool) (h : Col) (o n : Option Col) : (((([Who.holder, .old, .new].filter (cshade h o n)).map fun x => x).map fun x => x).map fun wh => D.tup [.str "store", phD s, colD h, ocolD o, ocolD n, whoD wh]) = (storeAt s h o n).map mkD := by
  unfold storeAt
  rw [List.map_id', List.map_id', List.map_map]
  rfl
theorem stF4_len (s : Bool) (h : Col) (o n : Option Col) : (storeAt s h o n).length ≤ 3 := by
  unfold storeAt
  rw [List.length_map]
  exact List.length_filter_le _ [Who.holder, .old, .new]
theorem stF3_len (s : Bool) (h : Col) (o : Option Col) : (stF3 s h o).length ≤ 12 := flat_len' (fun n => stF4_len s h o n) ocols
theorem stF2_len (s : Bool) (h : Col) : (stF2 s h).length ≤ 48 := flat_len' (fun n => stF3_len s h n) ocols
theorem stF1_len (s : Bool) : (stF1 s).length ≤ 144 := flat_len' (fun n => stF2_len s n) cols3
theorem ok20 (F : Fun K "store_marks" "store_marks" (topS 20) f fd) (c19 : Cal P w K mg base k "can_be_shaded" (spD K pre19)) (g1 : GC K mg "STATES_marks" (.tup ([true, false].map phD))) (g2 : GC K mg "COLOURS" (.tup (cols3.map colD))) (g3 : GC K mg "NONE_marks" (.str "none"))
    (g4 : GC K mg "HOLDER" (.str "holder")) (g5 : GC K mg "OLD" (.str "old")) (g6 : GC K mg "NEW" (.str "new")) (g7 : GC K mg "STORE" (.str "store")) :
    FnOk P w K mg base CX0 (k + 1) f fd [] (spF K pre20) := by
  refine def_f F sc20 (fun ds d ⟨h, _⟩ => by rw [h]; rfl) fun cdv A outer s0 H E hr ds d ⟨h, hd⟩ => ?_
  subst h hd
  walk_at "go"
  walk_at "seto1"
  have l1 := fun i => take_flat_len stF1_len [true, false] i
  refine sx_pre (sx_forc [true, false] phD (fun i => [("found", .o ((([true, false].take i).flatMap stF1).map mkD)), ("state", .u), ("holder", .u), ("old", .u), ("new", .u), ("some", .u), ("who", .u)]) ?_ ?_ ?_ ?_ ?_) ?_
  · walk_at "ev"
  · intro i s hs
    have l1' := l1 i
    have l2 := fun j => take_flat_len (stF2_len s) cols3 j
    walk_at "turn"
    refine sx_pre (sx_forc cols3 colD (fun j => [("found", .o ((([true, false].take i).flatMap stF1 ++ (cols3.take j).flatMap (stF2 s)).map mkD)), ("state", .d (phD s)), ("holder", .u), ("old", .u), ("new", .u), ("some", .u), ("who", .u)]) ?_ ?_ ?_ ?_ ?_) ?_
    · walk_at "ev"
    · intro j h hh
      have l2' := l2 j
      have l3 := fun m => take_flat_len (stF3_len s h) ocols m
      walk_at "turn"
      refine sx_pre (sx_forc ocols ocolD (fun m => [("found", .o ((([true, false].take i).flatMap stF1 ++ (cols3.take j).flatMap (stF2 s) ++ (ocols.take m).flatMap (stF3 s h)).map mkD)), ("state", .d (phD s)), ("holder", .d (colD h)), ("old", .u), ("new", .u), ("some", .u), ("who", .u)]) ?_ ?_ ?_ ?_ ?_) ?_
      · refine ix_tup ?_
        walk_at "is"
        rfl
      · intro m o ho
        have l3' := l3 m
        have l4 := fun q => take_flat_len (stF4_len s h o) ocols q
        walk_at "turn"
        refine sx_pre (sx_forc ocols ocolD (fun q => [("found", .o ((([true, false].take i).flatMap stF1 ++ (cols3.take j).flatMap (stF2 s) ++ (ocols.take m).flatMap (stF3 s h) ++ (ocols.take q).flatMap (storeAt s h o)).map mkD)), ("state", .d (phD s)), ("holder", .d (colD h)), ("old", .d (ocolD o)), ("new", .u), ("some", .u), ("who", .u)]) ?_ ?_ ?_ ?_ ?_) ?_
        · refine ix_tup ?_
          walk_at "is"
          rfl
        · intro q n hn
          have l4' := l4 q
          have l5 := stF4_len s h o n
          walk_at "turn"
          with_reducible apply sx_seto
          · with_reducible apply g_SLc
            (with_reducible apply sl_filc [("who", 6)] N20 (defScope (topS 20)) [Who.holder, .old, .new] whoD (cshade h o n) whoD (fun x => x)) <;> walk_at "ev"
            · intro x hx
              have p : pre19 [colD h, ocolD o, ocolD n, whoD x] (.bl (cshade h o n x)) := ⟨h, o, n, x, rfl, rfl⟩
              walk_at "t1"
          · walk_at "ev"
          · exact immL_map (fun _ => rfl) _
          · walk_at "ev"
          walk_at "ext"
          · refine fx_is (ds' := (storeAt s h o n).map mkD) ?_ (stAt_map s h o n)
            (with_reducible apply lc_mapc [("who", 6)] N20 (defScope (topS 20)) (([Who.holder, .old, .new].filter (cshade h o n)).map fun x => x) whoD (fun wh => .tup [.str "store", phD s, colD h, ocolD o, ocolD n, whoD wh]) (fun x => x)) <;> walk_at "ev"
            · rw [sizeLine_eq, List.length_map]; have := List.length_filter_le (cshade h o n) [Who.holder, .old, .new]; simp at this; omega
            · intro x hx
              walk_at "t1"
          · exact immL_mk _
          · rw [sizeLine_eq, List.length_map, List.length_map, List.length_append, List.length_append, List.length_append]
            have := List.length_filter_le (cshade h o n) [Who.holder, .old, .new]
            have e1 : [true, false].length = 2 := rfl
            have e2 : cols3.length = 3 := rfl
            have e3 : ocols.length = 4 := rfl
            simp only [List.length_cons, List.length_nil] at this
            omega
          walk_at "nil"
          rw [flat_snoc _ _ _ _ hn]
          simp only [List.map_append, List.append_assoc]
        · rw [List.take_length]
          walk_at "nil"
          rw [flat_snoc _ _ _ _ ho]
          unfold stF3
          simp only [List.map_append, List.append_assoc]
        · walk_at "sy"
        · exact PassesOwn.never
        · walk_at "le"
          simp
      · rw [List.take_length]
        walk_at "nil"
        rw [flat_snoc _ _ _ _ hh]
        unfold stF2
        simp only [List.map_append, List.append_assoc]
      · walk_at "sy"
      · exact PassesOwn.never
      · walk_at "le"
        simp
    · rw [List.take_length]
      walk_at "nil"
      rw [flat_snoc _ _ _ _ hs]
      unfold stF1
      simp only [List.map_append, List.append_assoc]
    · walk_at "sy"
    · exact PassesOwn.never
    · walk_at "le"
      simp
  · rw [List.take_length]
    show SX _ _ _ (.rf (([true, false].flatMap stF1).map mkD))
    walk_at "reto"
  · walk_at "sy"
  · exact PassesOwn.never
  · walk_at "le"
    rfl
abbrev N21 : List Str := ["state"]
theorem sc21 : Sc N21 [] (topS 21) := ⟨⟨rfl, rfl, rfl, by decide +kernel, rfl, by decide +kernel, by decide +kernel⟩, by decide +kernel⟩
def pre21 (ds : List D) (d : D) : Prop := ds = [] ∧ d = .tup (allMs.map mkD)
theorem ok21 (F : Fun K "all_marks" "all_marks" (topS 21) f fd) (c18 : Cal P w K mg base k "load_marks" (spF K pre18)) (c20 : Cal P w K mg base k "store_marks" (spF K pre20)) (g1 : GC K mg "STATES_marks" (.tup ([true, false].map phD))) (g2 : GC K mg "NEW" (.str "new"))
    (m1 : mg "tuple" = none) (m2 : mg "sorted" = none) : FnOk P w K mg base CX0 (k + 1) f fd [] (spD K pre21) := by
  refine def_d F sc21 (fun ds d ⟨h, _⟩ => by rw [h]; rfl) fun cdv A outer s0 H E hr ds d ⟨h, hd⟩ => ?_
  subst h hd
  have p18 : pre18 [] (loadMs.map mkD) := ⟨rfl, rfl⟩
  have p20 : pre20 [] (storeMs.map mkD) := ⟨rfl, rfl⟩
  walk_at "go"
  with_reducible apply sx_ret
  with_reducible apply ex_tuple
  rotate_left 4
  · refine ax_cons (ex_of_fx (fx_sortM (ms := loadMs ++ [true, false].map Mk.new ++ storeMs) ?_ ?_ (ru hr) ?_ m2 ?_)) ax_nil ?_
    · refine ex_is (d := .lst (loadMs.map mkD ++ [true, false].map (fun s => D.tup [.str "new", phD s]) ++ storeMs.map mkD)) ?_ (by simp only [List.map_append]; rfl)
      refine ex_of_fx (fx_bin (d1 := .lst (loadMs.map mkD ++ [true, false].map (fun s => D.tup [.str "new", phD s]))) (d2 := .lst (storeMs.map mkD)) (ex_of_fx (fx_bin (d1 := .lst (loadMs.map mkD)) (d2 := .lst ([true, false].map (fun s => D.tup [.str "new", phD s]))) ?_ ?_ (o_catl ?_))) ?_ (o_catl ?_))
      · refine ex_of_fx (fx_call0 c18 hr p18 ?_ ?_) <;> walk_at "ev"
      · refine ex_of_fx ?_
        refine fx_is (ds := ([true, false].map fun s => s).map fun s => D.tup [.str "new", phD s]) ?_ rfl
        (with_reducible apply lc_mapc [("state", 0)] N21 (defScope (topS 21)) [true, false] phD (fun s => D.tup [.str "new", phD s]) (fun s => s)) <;> walk_at "ev"
        intro s hs
        walk_at "t1"
      · walk_at "ev"
      · refine ex_of_fx (fx_call0 c20 hr p20 ?_ ?_) <;> walk_at "ev"
      · walk_at "ev"
    · walk_at "ev"
    · walk_at "ev"
    · walk_at "ev"
    · walk_at "ev"
  · exact c_tupL
  · walk_at "ev"
  · walk_at "ev"
  · walk_at "ev"
  · walk_at "ev"
end
set_option maxRecDepth 100000
set_option maxHeartbeats 0
section
variable {P : Program} {w : World} {K : PySem.W.Frag} {mg : Str → Option Value} {base : Heap} {k : Nat} {f : Addr} {fd : FuncData}
theorem sc23 : Sc ["mark", "who", "state"] ["mark", "who", "state"] (topS 23) := ⟨⟨rfl, rfl, rfl, by decide +kernel, rfl, by decide +kernel, by decide +kernel⟩, by decide +kernel⟩
def pre23 (ds : List D) (d : D) : Prop := ∃ (m : Mk) (wh : Who) (st : Option Bool), ds = [mkD m, whoD wh, sttD st] ∧ d = .bl (isBy m wh st)
theorem who_eq (a b : Who) : decide (whoS a = whoS b) = decide (a = b) := decide_eq_decide.mpr whoS_inj
theorem ok23 (F : Fun K "is_by" "is_by" (topS 23) f fd) (g1 : GC K mg "STORE" (.str "store")) : FnOk P w K mg base CX0 (k + 1) f fd ["mark", "who", "state"] (spD K pre23) := by
  refine def_d F sc23 (fun ds d ⟨_, _, _, h, _⟩ => by rw [h]; rfl) fun cdv A outer s0 H E hr ds d ⟨m, wh, st, h, hd⟩ => ?_
  subst h hd
  walk_at "go"
  with_reducible apply sx_ret
  cases m with
  | load s c =>
    refine ex_is (ex_and (k1 := false) (k2 := false) ?_ (fun z => nomatch z)) rfl
    walk_at "is"
    rfl
  | new s =>
    refine ex_is (ex_and (k1 := false) (k2 := false) ?_ (fun z => nomatch z)) rfl
    walk_at "is"
    rfl
  | store s h o n w' =>
    refine ex_is (ex_and (k1 := true) (k2 := decide (whoS w' = whoS wh) && decide (st ∈ [none, some s])) ?_ fun _ => ex_and ?_ fun _ => ?_) ?_
    · walk_at "is"
      rfl
    · refine ex_cmp (ex_ix (i := -1) (dd := mkD (.store s h o n w')) (d := whoD w') ?_ (ex_neg ex_int) sq_t rfl ?_) ?_ o_eqs ?_ <;> walk_at "ev"
    · walk_at "ev"
    · rw [who_eq]
      show D.bl (_ && (_ && _)) = .bl (_ && _)
      cases st <;> simp
theorem sc24 : Sc ["word", "mark"] ["word", "mark"] (topS 24) := ⟨⟨rfl, rfl, rfl, by decide +kernel, rfl, by decide +kernel, by decide +kernel⟩, by decide +kernel⟩
def pre24 (ds : List D) (d : D) : Prop := ∃ (kw : Kw) (m : Mk), ds = [kwD kw, mkD m] ∧ d = .bl (knownBy kw m)
theorem kw_eq (a b : Kw) : decide (kwS a = kwS b) = decide (a = b) := decide_eq_decide.mpr kwS_inj
theorem ok24 (F : Fun K "is_known_by" "is_known_by" (topS 24) f fd) (c23 : Cal P w K mg base k "is_by" (spD K pre23)) (g1 : GC K mg "NEW" (.str "new")) (g2 : GC K mg "HOLDER" (.str "holder")) (g3 : GC K mg "BLACK_marks" (.str "black")) (g4 : GC K mg "WHITE_marks" (.str "white"))
    (g5 : GC K mg "LOAD" (.str "load")) (g6 : GC K mg "UNSCANNED_marks" (.str "unscanned")) (g7 : GC K mg "OLD" (.str "old")) : FnOk P w K mg base CX0 (k + 1) f fd ["word", "mark"] (spD K pre24) := by
  refine def_d F sc24 (fun ds d ⟨_, _, h, _⟩ => by rw [h]; rfl) fun cdv A outer s0 H E hr ds d ⟨kw, m, h, hd⟩ => ?_
  subst h hd
  have pH : pre23 [mkD m, .str "holder", .non] (.bl (isBy m .holder none)) := ⟨m, .holder, none, rfl, rfl⟩
  have pN : pre23 [mkD m, .str "new", .non] (.bl (isBy m .new none)) := ⟨m, .new, none, rfl, rfl⟩
  have pU : pre23 [mkD m, .str "new", .str "unscanned"] (.bl (isBy m .new (some false))) := ⟨m, .new, some false, rfl, rfl⟩
  have pO : pre23 [mkD m, .str "old", .non] (.bl (isBy m .old none)) := ⟨m, .old, none, rfl, rfl⟩
  walk_at "go"
  cases m with
  | new s =>
    walk_at "yes"
    walk_at "ret"
    rfl
  | load s c =>
    refine sx_no (k := false) ?_ rfl ?_
    · walk_at "is"
    cases kw with
    | holder =>
      walk_at "yes"
      with_reducible apply sx_ret
      refine ex_is (ex_and (k1 := false) (k2 := false) ?_ (fun z => nomatch z)) rfl
      walk_at "is"
      rfl
    | value =>
      walk_at "no"
      walk_at "yes"
      walk_at "ret"
      rfl
    | load =>
      walk_at "no"
      walk_at "no"
      walk_at "yes"
      with_reducible apply sx_ret
      refine ex_is (ex_or (k1 := true) (k2 := true) ?_ (fun z => nomatch z)) rfl
      walk_at "is"
      rfl
    | both =>
      walk_at "no"
      walk_at "no"
      walk_at "no"
      walk_at "ret"
      rfl
    | old =>
      walk_at "no"
      walk_at "no"
      walk_at "no"
      with_reducible apply sx_ret
      refine ex_is (ex_or (k1 := false) (k2 := false) ?_ (fun _ => ex_one (ex_and (k1 := false) (k2 := false) ?_ (fun z => nomatch z)))) rfl
      · walk_at "is"
        rfl
      · walk_at "is"
        rfl
  | store s h o n wh =>
    refine sx_no (k := false) ?_ rfl ?_
    · walk_at "is"
    cases kw with
    | holder =>
      walk_at "yes"
      walk_at "ret"
      have e1 : decide (ocolS n = ("white" : Str)) = decide (n = some .white) := decide_eq_decide.mpr (ocolS_inj (b := some .white))
      rw [e1]
      simp only [isBy, knownBy, Bool.and_true, Bool.and_assoc]
    | value =>
      walk_at "no"
      walk_at "yes"
      walk_at "ret"
      simp only [isBy, knownBy, Bool.and_true]
    | load =>
      walk_at "no"
      walk_at "no"
      walk_at "yes"
      with_reducible apply sx_ret
      refine ex_is (ex_or (k1 := false) (k2 := isBy (.store s h o n wh) .new (some false)) ?_ (fun _ => ex_one ?_)) ?_
      · walk_at "is"
        rfl
      · walk_at "ev"
      · cases s <;> simp [isBy, knownBy]
    | both =>
      walk_at "no"
      walk_at "no"
      walk_at "no"
      with_reducible apply sx_ret
      refine ex_is (ex_or (k1 := isBy (.store s h o n wh) .old none) (k2 := true && isBy (.store s h o n wh) .new (some false)) ?_ (fun _ => ex_one (ex_and ?_ fun _ => ex_one ?_))) ?_
      · walk_at "ev"
      · walk_at "is"
        rfl
      · walk_at "ev"
      · cases s <;> simp [isBy, knownBy]
    | old =>
      walk_at "no"
      walk_at "no"
      walk_at "no"
      with_reducible apply sx_ret
      refine ex_is (ex_or (k1 := isBy (.store s h o n wh) .old none) (k2 := false) ?_ (fun _ => ex_one (ex_and (k1 := false) (k2 := false) ?_ (fun z => nomatch z)))) ?_
      · walk_at "ev"
      · walk_at "is"
        rfl
      · simp [isBy, knownBy]
abbrev N25 : List Str := ["word", "mark"]
theorem sc25 : Sc N25 ["word"] (topS 25) := ⟨⟨rfl, rfl, rfl, by decide +kernel, rfl, by decide +kernel, by decide +kernel⟩, by decide +kernel⟩
def knownT (kw : Kw) : List Mk := allMs.filter (knownBy kw)
def pre25 (ds : List D) (d : D) : Prop := ∃ (kw : Kw), ds = [kwD kw] ∧ d = tabD (knownT kw) (decide (kw ∈ [Kw.value, .holder]))
theorem allMs_len : allMs.length ≤ 1000 := by
  unfold allMs
  rw [len_sortM]
  decide +kernel
theorem ok25 (F : Fun K "known_table" "known_table" (topS 25) f fd) (c21 : Cal P w K mg base k "all_marks" (spD K pre21)) (c24 : Cal P w K mg base k "is_known_by" (spD K pre24)) (m1 : mg "isinstance" = none) (m2 : mg "str" = none) (m3 : mg "tuple" = none) : FnOk P w K mg base CX0 (k + 1) f fd ["word"] (spD K pre25) := by
  refine def_d F sc25 (fun ds d ⟨_, h, _⟩ => by rw [h]; rfl) fun cdv A outer s0 H E hr ds d ⟨kw, h, hd⟩ => ?_
  subst h hd
  have p21 : pre21 [] (.tup (allMs.map mkD)) := ⟨rfl, rfl⟩
  have hl := allMs_len
  walk_at "go"
  refine sx_no (k := (!true) || (!decide (kw ∈ [Kw.value, .holder, .old, .both, .load]))) (tx_o (ox_or ?_ fun _ => ?_)) (by cases kw <;> decide) ?_
  · walk_at "ev"
  · walk_at "ev"
  walk_at "ret"
  · (with_reducible apply lc_filc [("mark", 1)] N25 (defScope (topS 25)) allMs mkD (knownBy kw) mkD (fun m => m)) <;> walk_at "ev"
    · refine ex_call0 c21 hr p21 ?_ ?_ <;> walk_at "ev"
    · rw [sizeLine_eq]; omega
    · intro m hm
      have p24 : pre24 [kwD kw, mkD m] (.bl (knownBy kw m)) := ⟨kw, m, rfl, rfl⟩
      walk_at "t1"
  · rw [List.map_id']
    rfl
theorem sc34 : Sc ["word"] ["word"] (topS 34) := ⟨⟨rfl, rfl, rfl, by decide +kernel, rfl, by decide +kernel, by decide +kernel⟩, by decide +kernel⟩
abbrev wds : List Wd := [.clean, .covered, .direct, .safe, .strong, .weak]
def pre34 (ds : List D) (d : D) : Prop := ∃ (t : Wd), ds = [wdD t] ∧ d = .non
theorem ok34 (F : Fun K "check_word" "check_word" (topS 34) f fd) (g1 : GC K mg "PROPERTIES" (.tup (wds.map wdD))) (m1 : mg "isinstance" = none) (m2 : mg "str" = none) : FnOk P w K mg base CX0 (k + 1) f fd ["word"] (spD K pre34) := by
  refine def_u F sc34 (fun ds d ⟨_, h, _⟩ => by rw [h]; rfl) (fun ds d ⟨_, _, h⟩ => h) fun cdv A outer s0 H E hr ds d ⟨t, h, hd⟩ => ?_
  subst h hd
  refine ⟨st0 ["word"] [wdD t], ?_⟩
  walk_at "go"
  refine sx_no (k := (!true) || (!decide (t ∈ wds))) (tx_o (ox_or ?_ fun _ => ?_)) (by cases t <;> decide) sx_nil
  · walk_at "ev"
  · walk_at "ev"
end
set_option maxRecDepth 100000
set_option maxHeartbeats 0
section
variable {P : Program} {w : World} {K : PySem.W.Frag} {mg : Str → Option Value} {base : Heap} {k : Nat} {f : Addr} {fd : FuncData}
abbrev N60 : List Str := ["state", "old", "who"]
theorem sc60 : Sc N60 ["state", "old"] (topS 60) := ⟨⟨rfl, rfl, rfl, by decide +kernel, rfl, by decide +kernel, by decide +kernel⟩, by decide +kernel⟩
def pre60 (ds : List D) (d : D) : Prop := ∃ (s : Bool) (o : Option Col), ds = [phD s, ocolD o] ∧ d = mksD (into s o)
theorem ok60 (F : Fun K "marks_into_black" "marks_into_black" (topS 60) f fd) (g1 : GC K mg "BLACK_judging" (.str "black")) (g2 : GC K mg "WHITE_judging" (.str "white")) (m1 : mg "tuple" = none) : FnOk P w K mg base CX0 (k + 1) f fd ["state", "old"] (spD K pre60) := by
  refine def_d F sc60 (fun ds d ⟨_, _, h, _⟩ => by rw [h]; rfl) fun cdv A outer s0 H E hr ds d ⟨s, o, h, hd⟩ => ?_
  subst h hd
  walk_at "go"
  with_reducible apply sx_ret
  refine ex_is (d := .tup (([Who.new, .holder].map fun x => x).map fun wh => D.tup [.str "store", phD s, .str "black", ocolD o, .str "white", whoD wh])) ?_ rfl
  walk_at "ev"
  (with_reducible apply lc_mapc [("who", 2)] N60 (defScope (topS 60)) [Who.new, .holder] whoD (fun wh => D.tup [.str "store", phD s, .str "black", ocolD o, .str "white", whoD wh]) (fun x => x)) <;> walk_at "ev"
  · intro x hx
    walk_at "t1"
abbrev N61 : List Str := ["holder", "state", "new"]
theorem sc61 : Sc N61 ["holder"] (topS 61) := ⟨⟨rfl, rfl, rfl, by decide +kernel, rfl, by decide +kernel, by decide +kernel⟩, by decide +kernel⟩
def pre61 (ds : List D) (d : D) : Prop := ∃ (h : Col), ds = [colD h] ∧ d = mksD (cutMs h)
theorem ok61 (F : Fun K "cuts" "cuts" (topS 61) f fd) (g1 : GC K mg "STATES_judging" (.tup ([true, false].map phD))) (g2 : GC K mg "NEW_VALUES" (.tup (newVs.map ocolD))) (g3 : GC K mg "WHITE_judging" (.str "white")) (m1 : mg "tuple" = none) : FnOk P w K mg base CX0 (k + 1) f fd ["holder"] (spD K pre61) := by
  refine def_d F sc61 (fun ds d ⟨_, h, _⟩ => by rw [h]; rfl) fun cdv A outer s0 H E hr ds d ⟨h, hds, hd⟩ => ?_
  subst hds hd
  walk_at "go"
  with_reducible apply sx_ret
  refine ex_is (d := .tup ([true, false].flatMap fun s => newVs.map fun n => D.tup [.str "store", phD s, colD h, .str "white", ocolD n, .str "old"])) ?_ rfl
  walk_at "ev"
  (with_reducible apply lc2c [("state", 1), ("new", 2)] [2] N61 (defScope (topS 61)) [true, false] phD (fun _ => newVs) (fun _ n => ocolD n) (fun s n => D.tup [.str "store", phD s, colD h, .str "white", ocolD n, .str "old"])) <;> walk_at "ev"
  · exact fun _ _ => rfl
  · intro s hs
    walk_at "t2"
    intro n hn
    walk_at "i2"
theorem sc59 : Sc ["rescans", "word"] ["rescans", "word"] (topS 59) := ⟨⟨rfl, rfl, rfl, by decide +kernel, rfl, by decide +kernel, by decide +kernel⟩, by decide +kernel⟩
@[reducible] def waysD (b : Bool) (t : Wd) : D := .tup ((ways b t).map wayD)
def pre59 (ds : List D) (d : D) : Prop := ∃ (b : Bool) (t : Wd), ds = [.bl b, wdD t] ∧ d = waysD b t
theorem ok59 (F : Fun K "ways_to_break" "ways_to_break" (topS 59) f fd) (g1 : GC K mg "SAFE_judging" (.str "safe")) (g2 : ∀ b, GDb K w mg "SAFE_WAYS" b (waysD b .safe)) (g3 : ∀ t, t ≠ .safe → GDs K w mg "WAYS" (wdS t) (waysD false t)) : FnOk P w K mg base CX0 (k + 1) f fd ["rescans", "word"] (spD K pre59) := by
  refine def_d F sc59 (fun ds d ⟨_, _, h, _⟩ => by rw [h]; rfl) fun cdv A outer s0 H E hr ds d ⟨b, t, hds, hd⟩ => ?_
  subst hds hd
  walk_at "go"
  with_reducible apply sx_ret
  refine ex_if (k := decide (t = .safe)) ?_ ?_ ?_
  · refine tx_cmp (d1 := wdD t) (d2 := .str "safe") ?_ ?_ o_wdSafe ?_ <;> walk_at "ev"
  · intro h
    have h := of_decide_eq_true h
    subst h
    refine ex_gdb (g2 b) ?_ ?_ ?_ ?_ <;> walk_at "ev"
  · intro h
    have h := of_decide_eq_false h
    refine ex_is (ex_gds (g3 t h) ?_ ?_ ?_ ?_) ?_
    · walk_at "ev"
    · walk_at "ev"
    · walk_at "ev"
    · walk_at "ev"
    · cases t <;> first | rfl | exact absurd rfl h
abbrev N62 : List Str := ["gap", "state", "mark", "old"]
theorem sc62 : Sc N62 ["gap"] (topS 62) := ⟨⟨rfl, rfl, rfl, by decide +kernel, rfl, by decide +kernel, by decide +kernel⟩, by decide +kernel⟩
def pre62 (ds : List D) (d : D) : Prop := ∃ (g : Gap), ds = [gapD g] ∧ d = .tup ((closeG g).map mksD)
theorem ok62 (F : Fun K "marks_that_close" "marks_that_close" (topS 62) f fd) (c60 : Cal P w K mg base k "marks_into_black" (spD K pre60)) (c61 : Cal P w K mg base k "cuts" (spD K pre61)) (g1 : GC K mg "NEW_WHITE" (.str "new_white")) (g2 : GC K mg "SCANNED_judging" (.str "scanned")) (g3 : GC K mg "LOAD_GREY" (.str "load_grey"))
    (g4 : GC K mg "LOAD_WHITE" (.str "load_white")) (g5 : GC K mg "LOAD_BLACK" (.str "load_black")) (g6 : GC K mg "OVER_WHITE" (.str "by_unscanned_over_white")) (g7 : GC K mg "UNSCANNED_judging" (.str "unscanned")) (g8 : GC K mg "WHITE_judging" (.str "white")) (g9 : GC K mg "BY_SCANNED" (.str "by_scanned"))
    (g10 : GC K mg "OLD_VALUES" (.tup (oldVs.map ocolD))) (hC : ∀ g, GDi K w mg "HOLDER_OF_CUT" (gapS g) (decide (g ∈ [Gap.cutGrey, .cutWhite]))) (hG : GDs K w mg "HOLDER_OF_CUT" (gapS .cutGrey) (colD .grey)) (hW : GDs K w mg "HOLDER_OF_CUT" (gapS .cutWhite) (colD .white)) (m1 : mg "tuple" = none) (m2 : mg "len" = none) :
    FnOk P w K mg base CX0 (k + 1) f fd ["gap"] (spD K pre62) := by
  refine def_d F sc62 (fun ds d ⟨_, h, _⟩ => by rw [h]; rfl) fun cdv A outer s0 H E hr ds d ⟨g, h, hd⟩ => ?_
  subst h hd
  have pB : ∀ s o, pre60 [phD s, ocolD o] (mksD (into s o)) := fun s o => ⟨s, o, rfl, rfl⟩
  have pW : pre60 [.str "unscanned", .str "white"] (mksD (into false (some .white))) := pB false (some .white)
  have cut : ∀ h, pre61 [colD h] (mksD (cutMs h)) := fun h => ⟨h, rfl, rfl⟩
  have cG := cut .grey
  have cW := cut .white
  walk_at "go"
  refine sx_ifret (k := decide (g = .newWhite)) ?_ (fun e z => nomatch z) ?_ ?_
  · refine tx_is (k := decide (gapS g = ("new_white" : Str))) ?_ (decide_eq_decide.mpr (gapS_inj (b := .newWhite)))
    walk_at "ev"
  · intro h
    rw [of_decide_eq_true h]
    with_reducible apply sx_ret
    refine ex_is (d := .tup [.tup [.tup [.str "new", .str "scanned"]]]) ?_ rfl
    walk_at "ev"
  intro n1
  refine sx_ifret (k := decide (g ∈ [Gap.loadGrey, .loadWhite, .loadBlack])) ?_ (fun e z => nomatch z) ?_ ?_
  · walk_at "ev"
  · intro h
    with_reducible apply sx_ret
    cases g with
    | loadGrey =>
      refine ex_is (d := .tup [.tup [.tup [.str "load", .str "scanned", .str "grey"]]]) ?_ rfl
      walk_at "ev"
      rw [sizeLine_eq]; decide +kernel
    | loadWhite =>
      refine ex_is (d := .tup [.tup [.tup [.str "load", .str "scanned", .str "white"]]]) ?_ rfl
      walk_at "ev"
      rw [sizeLine_eq]; decide +kernel
    | loadBlack =>
      refine ex_is (d := .tup [.tup [.tup [.str "load", .str "scanned", .str "black"]]]) ?_ rfl
      walk_at "ev"
      rw [sizeLine_eq]; decide +kernel
    | _ => exact absurd h (by decide)
  intro n2
  refine sx_ifret (k := decide (g = .overWhite)) ?_ (fun e z => nomatch z) ?_ ?_
  · refine tx_is (k := decide (gapS g = ("by_unscanned_over_white" : Str))) ?_ (decide_eq_decide.mpr (gapS_inj (b := .overWhite)))
    walk_at "ev"
  · intro h
    rw [of_decide_eq_true h]
    with_reducible apply sx_ret
    refine ex_is (d := .tup [mksD (into false (some .white))]) ?_ rfl
    walk_at "ev"
  intro n3
  refine sx_ifret (k := decide (g ∈ [Gap.cutGrey, .cutWhite])) ?_ (fun e z => nomatch z) ?_ ?_
  · refine ex_gdi (hC g) ?_ ?_ ?_ ?_ <;> walk_at "ev"
  · intro h
    with_reducible apply sx_ret
    cases g with
    | cutGrey =>
      clear hW
      refine ex_is (d := .tup (((cutMs .grey).map fun m => m).map fun m => D.tup [mkD m])) ?_ (by rw [List.map_id']; simp only [closeG, List.map_map]; rfl)
      walk_at "ev"
      (with_reducible apply lc_mapc [("mark", 2)] N62 (defScope (topS 62)) (cutMs .grey) mkD (fun m => D.tup [mkD m]) (fun m => m)) <;> walk_at "ev"
      · intro m hm
        walk_at "t1"
    | cutWhite =>
      clear hG
      refine ex_is (d := .tup (((cutMs .white).map fun m => m).map fun m => D.tup [mkD m])) ?_ (by rw [List.map_id']; simp only [closeG, List.map_map]; rfl)
      walk_at "ev"
      (with_reducible apply lc_mapc [("mark", 2)] N62 (defScope (topS 62)) (cutMs .white) mkD (fun m => D.tup [mkD m]) (fun m => m)) <;> walk_at "ev"
      · intro m hm
        walk_at "t1"
    | _ => exact absurd h (by decide)
  intro n4
  obtain ⟨s, rfl⟩ : ∃ s : Bool, g = (bif s then Gap.bySc else .byUn) := by
    cases g with
    | bySc => exact ⟨true, rfl⟩
    | byUn => exact ⟨false, rfl⟩
    | newWhite => simp at n1
    | overWhite => simp at n3
    | cutGrey => simp at n4
    | cutWhite => simp at n4
    | _ => simp at n2
  with_reducible apply sx_set1 (d := phD s)
  · refine ex_is (d := .str (bif decide (gapS (bif s then Gap.bySc else .byUn) = ("by_scanned" : Str)) then "scanned" else "unscanned")) ?_ ?_
    · walk_at "ev"
    · cases s <;> rfl
  · walk_at "ev"
  · walk_at "ev"
  · walk_at "ev"
  · walk_at "ev"
  have pS := fun o => pB s o
  with_reducible apply sx_ret
  refine ex_is (d := .tup ((oldVs.map fun o => o).map fun o => mksD (into s o))) ?_ (by cases s <;> rfl)
  walk_at "ev"
  (with_reducible apply lc_mapc [("old", 3)] N62 (defScope (topS 62)) oldVs ocolD (fun o => mksD (into s o)) (fun o => o)) <;> walk_at "ev"
  intro o ho
  have pO := pS o
  walk_at "t1"
theorem sc63 : Sc ["table", "mark"] ["table"] (topS 63) := ⟨⟨rfl, rfl, rfl, by decide +kernel, rfl, by decide +kernel, by decide +kernel⟩, by decide +kernel⟩
@[reducible] def knownD (P : Program) (w : World) (T : List Mk) : D := mdD P w (T.map fun m => (m, V.bl true))
def pre63 (P : Program) (w : World) (ds : List D) (d : D) : Prop := ∃ (T : List Mk) (b : Bool), T.Nodup ∧ T.length ≤ 1000 ∧ ds = [tabD T b] ∧ d = knownD P w T
theorem ok63 (F : Fun K "known_marks" "known_marks" (topS 63) f fd) : FnOk P w K mg base CX0 (k + 1) f fd ["table"] (spD K (pre63 P w)) := by
  refine def_d F sc63 (fun ds d ⟨_, _, _, _, h, _⟩ => by rw [h]; rfl) fun cdv A outer s0 H E hr ds d ⟨T, b, hn, hl, h, hd⟩ => ?_
  subst h hd
  walk_at "go"
  with_reducible apply sx_ret
  refine ex_mdc (T := T) ?_ hn hl (ru hr) ?_ ?_ ?_ ?_ ?_ ?_ ?_ ?_
  · walk_at "ev"
  · rfl
  · decide +kernel
  · rfl
  · decide +kernel
  · intro C; rfl
  · intro C; rfl
  · decide +kernel
  · intro x; rfl
abbrev N64 : List Str := ["known", "gap", "some", "mark"]
theorem sc64 : Sc N64 ["known", "gap"] (topS 64) := ⟨⟨rfl, rfl, rfl, by decide +kernel, rfl, by decide +kernel, by decide +kernel⟩, by decide +kernel⟩
def pre64 (P : Program) (w : World) (ds es : List D) : Prop := ∃ (T : List Mk) (g : Gap), ds = [knownD P w T, gapD g] ∧ es = (openM T g).map mksD
theorem known_fst (T : List Mk) : (T.map fun m => (m, V.bl true)).map (·.1) = T := by
  rw [List.map_map]; exact List.map_id' T
theorem closeG_len (g : Gap) : (closeG g).length ≤ 8 := by cases g <;> decide
theorem closeG_in (g : Gap) : ∀ l ∈ closeG g, l.length ≤ 2 := by cases g <;> decide
theorem ok64 (F : Fun K "open_marks" "open_marks" (topS 64) f fd) (c62 : Cal P w K mg base k "marks_that_close" (spD K pre62)) (m1 : mg "any" = none) : FnOk P w K mg base CX0 (k + 1) f fd ["known", "gap"] (spF K (pre64 P w)) := by
  refine def_f F sc64 (fun ds d ⟨_, _, h, _⟩ => by rw [h]; rfl) fun cdv A outer s0 H E hr ds d ⟨T, g, h, hd⟩ => ?_
  subst h hd
  have p62 : pre62 [gapD g] (.tup ((closeG g).map mksD)) := ⟨g, rfl, rfl⟩
  walk_at "go"
  with_reducible apply sx_retf
  refine fx_is (ds := (((closeG g).filter fun l => !((l.map fun m => decide (m ∈ (T.map fun m => (m, V.bl true)).map (·.1))).any id)).map fun l => l).map mksD) ?_ (by rw [List.map_id', known_fst]; simp only [any_map_id]; rfl)
  (with_reducible apply lc_filc [("some", 2)] N64 (defScope (topS 64)) (closeG g) mksD (fun l => !((l.map fun m => decide (m ∈ (T.map fun m => (m, V.bl true)).map (·.1))).any id)) mksD (fun l => l)) <;> walk_at "ev"
  · have := closeG_len g; rw [sizeLine_eq]; omega
  · intro l hl
    walk_at "t1"
    · (with_reducible apply lc_mapc [("mark", 3)] N64 (relabel _ _) l mkD D.bl (fun m => decide (m ∈ (T.map fun m => (m, V.bl true)).map (·.1)))) <;> walk_at "ev"
      · have := closeG_in g l hl; rw [sizeLine_eq]; omega
      · intro m hm
        walk_at "t1"
end
set_option maxRecDepth 100000
set_option maxHeartbeats 0
section
variable {P : Program} {w : World} {K : PySem.W.Frag} {mg : Str → Option Value} {base : Heap} {k : Nat} {f : Addr} {fd : FuncData}
abbrev N65 : List Str := ["table", "known", "gap"]
theorem sc65 : Sc N65 ["table"] (topS 65) := ⟨⟨rfl, rfl, rfl, by decide +kernel, rfl, by decide +kernel, by decide +kernel⟩, by decide +kernel⟩
def pre65 (ds : List D) (ks : List Key) (es : List D) : Prop := ∃ (T : List Mk) (b : Bool), T.Nodup ∧ T.length ≤ 1000 ∧ ds = [tabD T b] ∧ ks = gaps9.map gapK ∧ es = gaps9.map fun g => .bl (openG T g)
theorem gaps_nd : (gaps9.map gapK).Nodup := by decide +kernel
theorem ok65 (F : Fun K "gaps_of" "gaps_of" (topS 65) f fd) (c63 : Cal P w K mg base k "known_marks" (spD K (pre63 P w))) (c64 : Cal P w K mg base k "open_marks" (spF K (pre64 P w))) (g1 : GC K mg "GAPS" (.tup (gaps9.map gapD))) : FnOk P w K mg base CX0 (k + 1) f fd ["table"] (spK K pre65) := by
  refine def_k F sc65 (fun ds ks d ⟨_, _, _, _, h, _⟩ => by rw [h]; rfl) fun cdv A outer s0 H E hr ds ks d ⟨T, b, hn, hl, h, hk, hd⟩ => ?_
  subst h hk hd
  have p63 : pre63 P w [tabD T b] (knownD P w T) := ⟨T, b, hn, hl, rfl, rfl⟩
  walk_at "go"
  walk_at "set1"
  with_reducible apply sx_retk
  (with_reducible apply fk_dc [("gap", 2)] N65 (defScope (topS 65)) gaps9 gapD gapK (fun g => .bl (openG T g))) <;> walk_at "ev"
  · exact gaps_nd
  · intro g hg
    have p64 : pre64 P w [knownD P w T, gapD g] ((openM T g).map mksD) := ⟨T, g, rfl, rfl⟩
    walk_at "tk"
    exact o_neMks (ru hr)
abbrev N66 : List Str := ["gaps", "rescans", "word", "needed", "count", "gap"]
theorem sc66 : Sc N66 ["gaps", "rescans", "word"] (topS 66) := ⟨⟨rfl, rfl, rfl, by decide +kernel, rfl, by decide +kernel, by decide +kernel⟩, by decide +kernel⟩
def pre66 (ds : List D) (d : D) : Prop := ∃ (o : Gap → Bool) (b : Bool) (t : Wd), ds = [gapsDk o, .bl b, wdD t] ∧ d = .bl (breaksF o b t)
theorem ways_len (b : Bool) (t : Wd) : (ways b t).length ≤ 5 := by cases b <;> cases t <;> decide
theorem ways_in (b : Bool) (t : Wd) : ∀ p ∈ ways b t, p.1.length ≤ 4 := by cases b <;> cases t <;> decide
theorem ok66 (F : Fun K "breaks" "breaks" (topS 66) f fd) (c59 : Cal P w K mg base k "ways_to_break" (spD K pre59)) (m1 : mg "any" = none) (m2 : mg "all" = none) : FnOk P w K mg base CX0 (k + 1) f fd ["gaps", "rescans", "word"] (spD K pre66) := by
  refine def_d F sc66 (fun ds d ⟨_, _, _, h, _⟩ => by rw [h]; rfl) fun cdv A outer s0 H E hr ds d ⟨o, b, t, h, hd⟩ => ?_
  subst h hd
  have p59 : pre59 [.bl b, wdD t] (waysD b t) := ⟨b, t, rfl, rfl⟩
  walk_at "go"
  walk_at "ret"
  · (with_reducible apply lc_mapc [("needed", 3), ("count", 4)] N66 (defScope (topS 66)) (ways b t) wayD D.bl (fun p => (p.1.map o).all id)) <;> walk_at "ev"
    · have := ways_len b t; rw [sizeLine_eq]; omega
    · intro p hp
      walk_at "t1"
      (with_reducible apply lc_mapc [("gap", 5)] N66 (relabel _ _) p.1 gapD D.bl o) <;> walk_at "ev"
      · have := ways_in b t p hp; rw [sizeLine_eq]; omega
      · intro g hg
        have hlk := look_gap (fun g => D.bl (o g)) g
        walk_at "t1"
  · rw [any_map_id]
    simp only [all_map_id]
    rfl
theorem sc67 : Sc ["table", "word"] ["table", "word"] (topS 67) := ⟨⟨rfl, rfl, rfl, by decide +kernel, rfl, by decide +kernel, by decide +kernel⟩, by decide +kernel⟩
def pre67 (ds : List D) (d : D) : Prop := ∃ (T : List Mk) (b : Bool) (t : Wd), T.Nodup ∧ T.length ≤ 1000 ∧ ds = [tabD T b, wdD t] ∧ d = .bl (holdsF T b t)
theorem ok67 (F : Fun K "holds" "holds" (topS 67) f fd) (c34 : Cal P w K mg base k "check_word" (spD K pre34)) (c65 : Cal P w K mg base k "gaps_of" (spK K pre65)) (c66 : Cal P w K mg base k "breaks" (spD K pre66)) : FnOk P w K mg base CX0 (k + 1) f fd ["table", "word"] (spD K pre67) := by
  refine def_d F sc67 (fun ds d ⟨_, _, _, _, _, h, _⟩ => by rw [h]; rfl) fun cdv A outer s0 H E hr ds d ⟨T, b, t, hn, hl, h, hd⟩ => ?_
  subst h hd
  have p34 : pre34 [wdD t] .non := ⟨t, rfl, rfl⟩
  have p65 : pre65 [tabD T b] (gaps9.map gapK) (gaps9.map fun g => .bl (openG T g)) := ⟨T, b, hn, hl, rfl, rfl, rfl⟩
  have p66 : pre66 [gapsDk (openG T), .bl b, wdD t] (.bl (breaksF (openG T) b t)) := ⟨openG T, b, t, rfl, rfl⟩
  walk_at "go"
  walk_at "expr"
  with_reducible apply sx_ret
  refine ex_is (d := .bl (!breaksF (openG T) b t)) ?_ rfl
  walk_at "ev"
theorem sc68 : Sc ["table", "word"] ["table"] (topS 68) := ⟨⟨rfl, rfl, rfl, by decide +kernel, rfl, by decide +kernel, by decide +kernel⟩, by decide +kernel⟩
def propsF (T : List Mk) (b : Bool) : List Wd := wds.filter (holdsF T b)
def pre68 (ds : List D) (d : D) : Prop := ∃ (T : List Mk) (b : Bool), T.Nodup ∧ T.length ≤ 1000 ∧ ds = [tabD T b] ∧ d = .tup ((propsF T b).map wdD)
theorem ok68 (F : Fun K "properties_of" "properties_of" (topS 68) f fd) (c67 : Cal P w K mg base k "holds" (spD K pre67)) (g1 : GC K mg "PROPERTIES" (.tup (wds.map wdD))) (m1 : mg "tuple" = none) : FnOk P w K mg base CX0 (k + 1) f fd ["table"] (spD K pre68) := by
  refine def_d F sc68 (fun ds d ⟨_, _, _, _, h, _⟩ => by rw [h]; rfl) fun cdv A outer s0 H E hr ds d ⟨T, b, hn, hl, h, hd⟩ => ?_
  subst h hd
  walk_at "go"
  with_reducible apply sx_ret
  refine ex_is (d := .tup (((wds.filter (holdsF T b)).map fun t => t).map wdD)) ?_ (by rw [List.map_id']; rfl)
  walk_at "ev"
  (with_reducible apply lc_filc [("word", 1)] ["table", "word"] (defScope (topS 68)) wds wdD (holdsF T b) wdD (fun t => t)) <;> walk_at "ev"
  intro t ht
  have p67 : pre67 [tabD T b, wdD t] (.bl (holdsF T b t)) := ⟨T, b, t, hn, hl, rfl, rfl⟩
  walk_at "t1"
end
set_option maxRecDepth 100000
set_option maxHeartbeats 4000000
section
variable {P : Program} {w : World} {K : PySem.W.Frag} {mg : Str → Option Value} {base : Heap} {k : Nat} {f : Addr} {fd : FuncData}
theorem sc76 : Sc ["_law_pot_here", "_law_many", "_law_digit", "_law_prime", "_law_mixed"] ["_law_pot_here", "_law_many"] (topS 76) := ⟨⟨rfl, rfl, rfl, by decide +kernel, rfl, by decide +kernel, by decide +kernel⟩, by decide +kernel⟩
def pre76 (R : Rsc) (ds : List D) (c : Nat) (O : D → Prop) : Prop := ∃ (a : Addr) (many : Nat), PotR R a ∧ 0 < many ∧ many < 1000000 ∧ ds = [.adr a, natD many] ∧ c = 1 ∧ O = fun d => ∃ v : Nat, d = natD v ∧ v < many
theorem ok76 (F : Fun K "_law_take" "_law_take" (topS 76) f fd) : FnOk P w K mg base CX0 (k + 1) f fd ["_law_pot_here", "_law_many"] (spN K pre76) := by
  refine def_n F sc76 (fun R ds c O ⟨a, many, _, _, _, h, _⟩ => by rw [h]; rfl) fun cdv A outer s H E hr R ds c O ⟨a, many, PR, h0, h1, hds, hc, hO⟩ => ?_
  subst hds hc hO
  walk_at "gn"
  refine sn_le (c1 := 0 + (0 + (1 + 0))) (sn_ifret (B := fun _ => True) (c1 := 0) (c2 := 0) (c3 := 1 + 0) (nt_cmp (nx_potO PR ?_ ?_ ?_) (nx_ex (d := .int 0) ?_) ?_ ?_) (fun _ => ?_) (fun e1 ⟨d, h, _⟩ => nomatch h) (fun _ h => h) fun _ => ?_) (by omega) fun _ h => h
  iterate 5 walk_at "ev"
  · rintro _ _ ⟨v, rfl, hv⟩ rfl
    exact ⟨_, o_gt, trivial⟩
  · refine sn_le (c1 := 0 + 0) ?_ (Nat.le_refl _) fun _ h => h
    walk_at "nset"
    case h =>
      refine' nx_le (c := 0) (O := fun d => ∃ v : Nat, d = natD v ∧ v < many) (nx_bin (c1 := 0) (c2 := 0) (nx_potO PR ?_ ?_ ?_) (nx_ex (d := natD many) ?_) ?_) (Nat.le_refl _) fun _ h => h
      iterate 4 walk_at "ev"
      rintro _ _ ⟨v, rfl, hv⟩ rfl
      have h2 := Int.emod_nonneg v (show (many : Int) ≠ 0 by omega)
      have h3 := Int.emod_lt_of_pos v (show 0 < (many : Int) by omega)
      exact ⟨_, o_mod (by omega), (v % many).toNat, by show D.int _ = D.int _; congr 1; omega, by omega⟩
    rintro _ ⟨v, rfl, hv⟩
    refine ⟨_, by walk_at "sy", rfl, ?_⟩
    refine' sn_pot0 (c1 := 0) (c2 := 0) PR ?_ ?_ (nx_bin (c1 := 0) (c2 := 0) (nx_potO PR ?_ ?_ ?_) (nx_ex (d := natD many) ?_) ?_) ?_ ?_ ?_ ?_ ?_
    iterate 6 walk_at "ev"
    · rintro _ _ ⟨v, rfl, hv⟩ rfl
      exact ⟨_, o_fdiv ⟨by omega, by omega⟩, _, rfl, Int.ediv_nonneg hv (by omega)⟩
    iterate 4 walk_at "ev"
    refine sn_le (sn_ret (nx_ex (d := natD v) ?_)) (Nat.le_refl _) ?_
    walk_at "ev"
    rintro _ ⟨_, rfl, rfl⟩
    exact ⟨_, rfl, v, rfl, hv⟩
  · refine' sn_pot2 (c2 := 0) PR ?_ ?_ ?_ ?_ ?_ ?_ ?_ ?_ ?_ ?_ ?_
    iterate 10 walk_at "ev"
    refine sn_le (c1 := 0 + 0) ?_ (Nat.le_refl _) fun _ h => h
    walk_at "nset"
    case h =>
      refine' nx_le (c := 0) (O := IB 1 2147483647) (nx_ix (ha := ?_) (ib_mod (c1 := 0) (c2 := 0) (nx_potC PR ?_ ?_ ?_) ib_int (ib_ex (v := 5) (h1 := 5) ?_ (by omega) (by omega))) ?_ ?_) (Nat.le_refl _) fun _ h => h
      all_goals walk_at "ev"
      rintro _ ⟨v, rfl, h3, h4⟩
      have : v = 0 ∨ v = 1 ∨ v = 2 ∨ v = 3 ∨ v = 4 := by omega
      rcases this with rfl | rfl | rfl | rfl | rfl <;> exact ⟨_, _, _, sq_l, rfl, rfl, _, rfl, by omega, by omega⟩
    rintro _ ⟨v, rfl, h3, h4⟩
    refine ⟨_, by walk_at "sy", rfl, ?_⟩
    refine sn_le (c1 := 0 + 0) ?_ (Nat.le_refl _) fun _ h => h
    walk_at "nset"
    case h =>
      refine' nx_le (c := 0) (O := IB 0 2147483647) (ib_le (ib_mod (c1 := 0) (c2 := 0) (ib_pow3 (c1 := 0) (ib_add (c1 := 0) (c2 := 0) (ib_add (c1 := 0) (c2 := 0) (nx_potB PR ?_ ?_ ?_) (ib_mul (c1 := 0) (c2 := 0) (ib_mul (c1 := 0) (c2 := 0) (ib_ex (v := 65537) (l1 := 0) (h1 := 65537) ?_ (by omega) (by omega)) (nx_potC PR ?_ ?_ ?_) (by omega) (by omega)) (nx_potC PR ?_ ?_ ?_) (by omega) (by omega))) (ib_ex (v := 41) (l1 := 0) (h1 := 41) ?_ (by omega) (by omega))) ?_ (by omega)) (fun _ h => h) (ib_ex (v := v) (l1 := 1) (h1 := 2147483647) ?_ h3 h4)) (by omega) (by omega)) (Nat.le_refl _) fun _ h => h
      all_goals walk_at "ev"
    rintro _ ⟨v, rfl, h3, h4⟩
    refine ⟨_, by walk_at "sy", rfl, ?_⟩
    refine' sn_ret (nx_le (c := 0) (ib_mod (c1 := 0) (c2 := 0) (ib_fdiv (c1 := 0) (c2 := 0) (ib_mod (c1 := 0) (c2 := 0) (ib_mul (c1 := 0) (c2 := 0) (ib_ex (v := v) (l1 := 0) (h1 := 2147483647) ?_ h3 h4) (ib_add (c1 := 0) (c2 := 0) (ib_mod (c1 := 0) (c2 := 0) (ib_ex (v := v) (l1 := 0) (h1 := 2147483647) ?_ h3 h4) ib_int (ib_ex (v := 10007) (l1 := 1) (h1 := 10007) ?_ (by omega) (by omega))) (ib_mul (c1 := 0) (c2 := 0) (ib_ex (v := 89) (l1 := 0) (h1 := 89) ?_ (by omega) (by omega)) (nx_potC PR ?_ ?_ ?_) (by omega) (by omega))) (by omega) (by omega)) ib_int (ib_ex (v := 2305843009213693921) (l1 := 1) (h1 := 2305843009213693921) ?_ (by omega) (by omega))) (ib_ex (v := 101) (l1 := 1) (h1 := 101) ?_ (by omega) (by omega)) (by omega)) ib_int (ib_ex (v := many) (l1 := 1) (h1 := many) ?_ (by omega) (by omega))) (Nat.le_refl _) ?_)
    all_goals walk_at "ev"
    rintro _ ⟨u, rfl, h5, h6⟩
    exact ⟨u.toNat, by show D.int _ = D.int _; congr 1; omega, by omega⟩
end
set_option maxRecDepth 100000
set_option maxHeartbeats 4000000
section
variable {P : Program} {w : World} {K : PySem.W.Frag} {mg : Str → Option Value} {base : Heap} {k : Nat} {f : Addr} {fd : FuncData}
theorem sc85 : Sc ["_law_pot_here", "_law_some"] ["_law_pot_here", "_law_some"] (topS 85) := ⟨⟨rfl, rfl, rfl, by decide +kernel, rfl, by decide +kernel, by decide +kernel⟩, by decide +kernel⟩
def pre85 (R : Rsc) (ds : List D) (c : Nat) (O : D → Prop) : Prop := ∃ (a : Addr) (dd : D) (xs : List D), PotR R a ∧ SeqD dd xs ∧ 0 < xs.length ∧ xs.length < 1000000 ∧ ds = [.adr a, dd] ∧ c = 1 ∧ O = fun d => d ∈ xs
theorem ok85 (F : Fun K "_law_of" "_law_of" (topS 85) f fd) (c76 : Cal P w K mg base k "_law_take" (spN K pre76)) (m1 : mg "len" = none) : FnOk P w K mg base CX0 (k + 1) f fd ["_law_pot_here", "_law_some"] (spN K pre85) := by
  refine def_n F sc85 (fun R ds c O ⟨a, dd, xs, _, _, _, _, h, _⟩ => by rw [h]; rfl) fun cdv A outer s H E hr R ds c O ⟨a, dd, xs, PR, hd, h0, h1, hds, hc, hO⟩ => ?_
  subst hds hc hO
  walk_at "gn"
  refine' sn_ret (nx_ix (dd := dd) ?_ (nx_call (c1 := 0) (c2 := 1) (OL := fun ds => ds = [.adr a, natD xs.length]) (O := fun d => ∃ v : Nat, d = natD v ∧ v < xs.length) c76 ?_ (na_ax ?_) ?_ ?_ ?_ ?_ ?_) ?_ ?_)
  all_goals try walk_at "ev"
  · rcases hd with rfl | rfl <;> walk_at "ev"
  · rintro _ rfl
    exact ⟨_, ⟨a, xs.length, PR, h0, h1, rfl, rfl, rfl⟩, fun _ h => h⟩
  · rintro _ ⟨v, rfl, hv⟩
    exact ⟨xs, v, xs[v], hd, rfl, by have := at_map (f := id) (List.getElem?_eq_getElem hv); rwa [List.map_id] at this, List.getElem_mem hv⟩
end
section
variable {X : Cx} {R : Rsc} {e : Expr} {es : List Expr} {r : Rho} {p pos : Pos} {a : Addr} {k : Nat}
theorem ex_intv {X : Cx} {r : Rho} {i : Int} {n : Nat} {pos : Pos} {d : D} (h : d = .int i) : EX X (.Constant (.int i) n pos) r d := by rw [h]; exact ex_int
theorem rgV_is {K : PySem.W.Frag} {H : Hp} (n : Nat) : IsL K H (rgV 0 (n : Int)) ((List.range n).map natD) := by
  have key : ∀ l : List Nat, IsL K H (l.map fun i => V.int (0 + (i : Nat))) (l.map natD) := fun l => by
    induction l with
    | nil => exact .nil
    | cons a l ih =>
      refine .cons ?_ ih
      show Is K H (.int (0 + (a : Int))) _
      rw [Int.zero_add]
      exact .int _
  have := key (List.range n)
  unfold rgV
  rw [show ((n : Int) - 0).toNat = n by omega]
  exact this
theorem fx_lrange {X : Cx} {e : Expr} {r : Rho} {n : Nat} {p p2 pos pos2 : Pos} (h : EX X e r (.int (n : Int))) (hz : n ≤ 1000000) (hg : Gl X "list") (hm : X.mg "list" = none) (hg2 : Gl X "range") (hm2 : X.mg "range" = none)
    (na : starEach [e] X.env = (false, eval e X.env) :: starEach [] X.env) (na2 : starEach [.Call (.Name "range" p2) [e] [] pos2] X.env = (false, eval (.Call (.Name "range" p2) [e] [] pos2) X.env) :: starEach [] X.env) : FX X (.Call (.Name "list" p) [.Call (.Name "range" p2) [e] [] pos2] [] pos) r ((List.range n).map natD) := by
  constructor
  intro C L σ H Q dm I q
  refine we_of (pe_listRg C.calm hg hm (prg_1 hg2 hm2 (pe_w X e) na) na2) ?_
  refine h C L σ H _ dm I fun v H1 s1 i1 => ⟨n, is_int i1, RgOk.of_le (by omega) (by omega) (by omega) (by omega), fun t ht => ?_⟩
  have s2 : Same H1 (upd H1 t (.lst (rgV 0 (n : Int)))) := same_new ht
  exact q t _ _ ((FrZ.of (Z := []) s1).free ht) (s1.trans s2) upd_same (rgV_is n)
theorem ex_lrange {X : Cx} {e : Expr} {r : Rho} {n : Nat} {p p2 pos pos2 : Pos} (h : EX X e r (.int (n : Int))) (hz : n ≤ 1000000) (hg : Gl X "list") (hm : X.mg "list" = none) (hg2 : Gl X "range") (hm2 : X.mg "range" = none)
    (na : starEach [e] X.env = (false, eval e X.env) :: starEach [] X.env) (na2 : starEach [.Call (.Name "range" p2) [e] [] pos2] X.env = (false, eval (.Call (.Name "range" p2) [e] [] pos2) X.env) :: starEach [] X.env) : EX X (.Call (.Name "list" p) [.Call (.Name "range" p2) [e] [] pos2] [] pos) r (.lst ((List.range n).map natD)) := ex_of_fx (fx_lrange h hz hg hm hg2 hm2 na na2)
theorem nx_take {many : Nat} (c76 : Cal X.prog X.w X.K X.mg X.base k "_law_take" (spN X.K pre76)) (PR : PotR R a) (h0 : 0 < many) (h1 : many < 1000000) (hr : Room k X.A) (ha : AX X (e :: es) r [.adr a, natD many]) (hg : Gl X "_law_take") (hdb : (("_law_take" : Str) == ("__debug__" : Str)) = false)
    (he : starEach (e :: es) X.env = (false, eval e X.env) :: starEach es X.env) (hpl : (backTo pos (starEach es X.env)).any (·.1) = false) : NX R X (.Call (.Name "_law_take" p) (e :: es) [] pos) r 1 (fun d => ∃ v : Nat, d = natD v ∧ v < many) := by
  refine nx_call (c1 := 0) (c2 := 1) (OL := fun ds => ds = [.adr a, natD many]) c76 hr (na_ax ha) ?_ hg hdb he hpl
  rintro _ rfl
  exact ⟨_, ⟨a, many, PR, h0, h1, rfl, rfl, rfl⟩, fun _ h => h⟩
theorem nx_of {dd : D} {xs : List D} (c85 : Cal X.prog X.w X.K X.mg X.base k "_law_of" (spN X.K pre85)) (PR : PotR R a) (hd : SeqD dd xs) (h0 : 0 < xs.length) (h1 : xs.length < 1000000) (hr : Room k X.A) (ha : AX X (e :: es) r [.adr a, dd]) (hg : Gl X "_law_of") (hdb : (("_law_of" : Str) == ("__debug__" : Str)) = false)
    (he : starEach (e :: es) X.env = (false, eval e X.env) :: starEach es X.env) (hpl : (backTo pos (starEach es X.env)).any (·.1) = false) : NX R X (.Call (.Name "_law_of" p) (e :: es) [] pos) r 1 (fun d => d ∈ xs) := by
  refine nx_call (c1 := 0) (c2 := 1) (OL := fun ds => ds = [.adr a, dd]) c85 hr (na_ax ha) ?_ hg hdb he hpl
  rintro _ rfl
  exact ⟨_, ⟨a, dd, xs, PR, hd, h0, h1, rfl, rfl, rfl⟩, fun _ h => h⟩
end
end SB
namespace SB
open PySem PySem.Spec PyProof.Rows L2
local macro_rules
  | `(tactic| walk_at "lkr") => `(tactic| with_reducible first | exact lkr_d | (apply lkr_n; walk_at "lkr") | exact lkr_o | exact lkr_k)
local macro_rules
  | `(tactic| walk_at "lkh") => `(tactic| with_reducible first | exact lkh_d | (apply lkh_n; walk_at "lkh"))
local macro_rules
  | `(tactic| walk_at "lk0") => `(tactic| with_reducible first | exact Lk.here | (apply Lk.next; walk_at "lk0"))
local macro_rules
  | `(tactic| walk_at "lk") => `(tactic| first | ((with_reducible apply g_rd); walk_at "lkr") | ((with_reducible apply g_hd); walk_at "lkh") | walk_at "lk0")
local macro_rules
  | `(tactic| walk_at "up") => `(tactic| with_reducible first | exact UpE.here | exact LkU.here | exact Up.here | (apply UpE.next; walk_at "up") | (apply LkU.next; walk_at "up") | (apply Up.next; walk_at "up"))
local macro_rules
  | `(tactic| walk_at "le") => `(tactic| with_reducible first | exact LeE.nil | (apply LeE.same; walk_at "le") | (apply LeE.u; walk_at "le") | ((apply LeE.eqd) <;> first | walk_at "le" | skip) | ((apply LeE.eqo) <;> first | walk_at "le" | skip) | ((apply LeE.eqk) <;> first | walk_at "le" | skip))
local macro_rules
  | `(tactic| walk_at "eq") => `(tactic| first
    | ((with_reducible apply at_is); first | assumption | exact rfl)
    | ((with_reducible apply st_is); kernel_rfl)
    | ((with_reducible apply bh_is); first | exact nomark _ | kernel_rfl)
    | ((with_reducible apply bk_is); kernel_rfl)
    | ((with_reducible apply sw_is); kernel_rfl)
    | ((with_reducible apply mg_is); assumption)
    | ((with_reducible apply im_is); first | rfl | exact imm_opt _ | exact imm_stp _ | exact imm_sta _)
    | ((with_reducible apply il_is); first | rfl | (exact imm_ifl rfl) | exact immL_nat _ | exact immL_opt _ | exact immL_stp _ | exact immL_mk _ | exact imm_ifl (imm_stp _))
    | ((with_reducible apply sp_is); kernel_rfl)
    | ((with_reducible apply as_is); rfl)
    | ((with_reducible apply an_is); rfl)
    | ((with_reducible apply ai_is); kernel_rfl)
    | ((with_reducible apply ss_is); kernel_rfl)
    | ((with_reducible apply ll_is); kernel_rfl)
    | ((with_reducible apply ab_is); kernel_rfl)
    | ((with_reducible apply fw_is); kernel_rfl)
    | ((with_reducible apply ln_is); kernel_rfl)
    | ((with_reducible apply bb_is); rfl)
    | ((with_reducible apply db_is); decide)
    | ((with_reducible apply ixn_is); assumption)
    | ((with_reducible apply bc_is); decide +kernel)
    | ((with_reducible apply nm_is); rfl)
    | ((with_reducible apply cs_is); decide +kernel)
    | ((with_reducible apply lk_is); first | assumption | rfl)
    | ((with_reducible apply sc_is); rfl)
    | with_reducible exact kx_nil
    | ((with_reducible apply bl_is); first | assumption | rfl | decide +kernel)
    | with_reducible assumption)
local macro_rules
  | `(tactic| walk_at "sy") => `(tactic| first
    | ((with_reducible apply eq_is); first | walk_at "eq" | skip)
    | ((with_reducible apply g_UpE); walk_at "up")
    | ((with_reducible apply g_LkU); walk_at "up")
    | ((with_reducible apply g_Up); walk_at "up")
    | ((with_reducible apply sq_is); first | exact sq_t | exact sq_l)
    | ((with_reducible apply gl_is2); kernel_rfl)
    | ((with_reducible apply lc_is); first | exact .inl rfl | exact .inr rfl)
    | ((with_reducible apply fn_is); first | exact .inr rfl | exact .inl rfl)
    | ((with_reducible apply px_is); intro _ _; rfl)
    | ((with_reducible apply ns_is); intro _ _; rfl)
    | ((with_reducible apply cal_is); assumption)
    | ((with_reducible apply room_is); assumption)
    | ((with_reducible apply sz_is); first | assumption | exact Nat.le_of_ble_eq_true rfl)
    | ((with_reducible apply sl_is); first | assumption | exact Nat.le_of_ble_eq_true rfl)
    | ((with_reducible apply lt_is); assumption)
    | ((with_reducible apply le_is); assumption)
    | ((with_reducible apply vs_is); first | exact .inl rfl | exact .inr (.inl rfl) | exact .inr (.inr rfl))
    | ((with_reducible apply gc_is); assumption)
    | ((with_reducible refine' iw_is ?_); intro _; rfl)
    | ((with_reducible refine' fo_is ?_); intro _; rfl)
    | ((with_reducible refine' as2_is ?_); intro _; rfl)
    | ((with_reducible apply nn_is); decide))
local macro_rules
  | `(tactic| walk_at "op") => `(tactic| first
    | ((with_reducible apply g_oEq); first | exact o_white | exact o_grey | exact o_black | exact o_eqs | exact o_eqNat | exact o_eqi | exact o_stpEq (ru (by assumption)) | skip)
    | ((with_reducible apply g_oAdd); first | exact o_add | (apply o_cat; walk_at "sy") | apply o_cat | apply op2_catl | apply o_adds | skip)
    | ((with_reducible apply g_oNe); first | exact o_nwhite | exact o_nes | exact o_neNat | exact o_nei | exact o_stpNe (ru (by assumption)) | skip)
    | ((with_reducible apply g_oIn); first | exact o_inNew (ru (by assumption)) | exact o_inLoad (ru (by assumption)) | exact o_inNatL (ru (by assumption)) | exact o_wdSW (ru (by assumption)) | exact o_wdSC (ru (by assumption)) | exact o_wdCCD (ru (by assumption)) | exact o_stIn (ru (by assumption)) | exact o_kdSV (ru (by assumption)) | exact o_kdLS (ru (by assumption)) | exact o_gapIn3 (ru (by assumption)) | exact o_inMd (ru (by assumption)) | exact o_kwIn (ru (by assumption)) | skip)
    | ((with_reducible apply g_oNi); first | exact o_notInNatL (ru (by assumption)) | exact o_notInOptN (ru (by assumption)) | exact o_kwNi (ru (by assumption)) | exact o_wdNi (ru (by assumption)) | skip)
    | ((with_reducible apply g_oIs); first | exact o_isNo | exact o_isN)
    | ((with_reducible apply g_oIn'); first | exact o_notNo | exact o_notN)
    | with_reducible exact o_lt | with_reducible exact o_le | with_reducible exact o_gt | with_reducible exact o_ge
    | ((with_reducible apply g_oMul); first | exact op2_F o_repb | apply o_rept | apply o_mul | skip)
    | with_reducible exact o_sub
    | with_reducible apply o_mod
    | with_reducible apply o_fdiv
    | with_reducible apply o_pow
    | with_reducible apply o_catl
    | with_reducible apply o_repl
    | skip)
local macro_rules
  | `(tactic| walk_at "evC") => `(tactic| ((with_reducible apply g_call); first
    | ((with_reducible apply ex_isstr) <;> walk_at "ev")
    | ((with_reducible apply ex_len) <;> walk_at "ev")
    | ((with_reducible apply ex_tuple) <;> walk_at "ev")
    | ((with_reducible apply ex_sset) <;> walk_at "ev")
    | ((with_reducible apply ex_lrange) <;> walk_at "ev")
    | ((with_reducible apply ex_list) <;> walk_at "ev")
    | ((with_reducible apply ex_intc) <;> walk_at "ev")
    | ((with_reducible apply ex_any) <;> walk_at "ev")
    | ((with_reducible apply ex_all) <;> walk_at "ev")
    | ((with_reducible apply ex_sum) <;> walk_at "ev")
    | ((with_reducible apply ex_max) <;> walk_at "ev")
    | ((with_reducible apply ex_min) <;> walk_at "ev")
    | ((with_reducible apply ex_abs) <;> walk_at "ev")
    | (((with_reducible refine' ex_call ?cc ?_ ?_ ?_ ?_ ?_ ?_ ?_); (case cc => assumption)) <;> walk_at "ev")
    | (((with_reducible refine' ex_callF ?cc ?_ ?_ ?_ ?_ ?_ ?_ ?_); (case cc => assumption)) <;> walk_at "ev")
    | (((with_reducible refine' ex_callK ?cc ?_ ?_ ?_ ?_ ?_ ?_ ?_); (case cc => assumption)) <;> walk_at "ev")
    | ((with_reducible apply ex_call) <;> walk_at "ev")))
local macro_rules
  | `(tactic| walk_at "evE") => `(tactic| first
    | ((with_reducible apply ex_var); walk_at "lk")
    | with_reducible exact ex_str
    | with_reducible exact ex_int
    | (((with_reducible refine' ex_dgets ?hu ?ho ?_ ?_ ?_); (case ho => ((with_reducible apply ex_var); walk_at "lk")); (case hu => exact ru (by assumption))) <;> walk_at "ev")
    | (((with_reducible refine' ex_gds ?gd ?_ ?_ ?_ ?_); (case gd => assumption)) <;> walk_at "ev")
    | ((with_reducible apply ex_sls) <;> walk_at "ev")
    | ((with_reducible apply ex_slT) <;> walk_at "ev")
    | ((with_reducible apply ex_ix) <;> walk_at "ev")
    | ((with_reducible apply ex_cmp) <;> walk_at "ev")
    | ((with_reducible apply ex_put) <;> walk_at "ev")
    | ((with_reducible apply ex_bin) <;> walk_at "ev")
    | ((with_reducible apply ex_tup) <;> walk_at "ev")
    | walk_at "evC"
    | with_reducible exact ex_non
    | with_reducible exact ex_bl
    | ((with_reducible apply ex_glob) <;> walk_at "ev")
    | ((with_reducible apply ex_not) <;> walk_at "ev")
    | ((with_reducible apply ex_ifs) <;> walk_at "ev")
    | ((with_reducible apply ex_lst) <;> walk_at "ev")
    | ((with_reducible apply ex_or) <;> walk_at "ev")
    | ((with_reducible apply ex_and) <;> walk_at "ev")
    | ((with_reducible apply ex_one) <;> walk_at "ev")
    | with_reducible apply ex_lc
    | ((with_reducible apply ex_neg) <;> walk_at "ev")
    | ((with_reducible refine' ex_intv ?_); rfl)
    | skip)
local macro_rules
  | `(tactic| walk_at "ev1") => `(tactic| first
    | ((with_reducible apply g_EX); walk_at "evE")
    | ((with_reducible apply g_Op); walk_at "op")
    | ((with_reducible apply g_AX); first | (with_reducible exact ax_nil) | ((with_reducible apply ax_cons) <;> walk_at "ev") | skip)
    | walk_at "sy"
    | ((with_reducible apply g_TX); first | ((with_reducible apply tx_cmp) <;> walk_at "ev") | ((with_reducible apply tx_not) <;> walk_at "ev") | ((with_reducible apply tx_o); first | ((with_reducible apply ox_and) <;> walk_at "ev") | ((with_reducible apply ox_or) <;> walk_at "ev")) | ((with_reducible apply tx_val) <;> walk_at "ev"))
    | ((with_reducible apply g_CD); first | refine' c_any rfl | refine' c_all rfl | refine' c_lenT | refine' c_lenM | refine' c_lenL | refine' c_lenML | refine' c_tupL | refine' c_intB | refine' c_sum rfl | refine' c_abs | refine' c_max2 rfl | refine' c_min2 rfl | refine' c_lenS ?_ | refine' callD_F c_lstT | refine' callD_F c_lstL | skip)
    | ((with_reducible apply g_CF); first | exact c_lstT | exact c_lstL | skip)
    | ((with_reducible apply g_GE); first | ((with_reducible apply ge_name) <;> walk_at "ev") | ((with_reducible apply ge_tup) <;> walk_at "ev"))
    | ((with_reducible apply ges_cons) <;> walk_at "ev")
    | with_reducible exact ges_nil
    | ((with_reducible apply g_OX); first | ((with_reducible apply ox_and1) <;> walk_at "ev") | ((with_reducible apply ox_or1) <;> walk_at "ev") | ((with_reducible apply ox_and) <;> walk_at "ev") | ((with_reducible apply ox_or) <;> walk_at "ev"))
    | ((with_reducible apply g_FX); first | ((with_reducible apply fx_lrange) <;> walk_at "ev") | ((with_reducible apply fx_lst) <;> walk_at "ev") | ((with_reducible apply fx_bin) <;> walk_at "ev") | ((with_reducible apply fx_list) <;> walk_at "ev") | ((with_reducible apply fx_call) <;> walk_at "ev") | skip)
    | ((with_reducible apply g_Of); walk_at "op")
    | ((with_reducible apply g_PX); first | (with_reducible exact px_none) | ((with_reducible apply px_some) <;> walk_at "ev"))
    | ((with_reducible apply gx_name) <;> walk_at "ev")
    | ((with_reducible apply gx_tup) <;> walk_at "ev")
    | ((with_reducible apply gxs_cons) <;> walk_at "ev")
    | with_reducible exact gxs_nil
    | ((with_reducible refine' imp_is ?_); intro _; walk_at "ev")
    | ((with_reducible apply lv_is); walk_at "lv")
    | ((with_reducible refine' hw_is ?_); walk_at "how")
    | ((with_reducible refine' sj_is ?_); decide)
    | ((with_reducible apply g_IX); first | ((with_reducible apply ix_rangec) <;> walk_at "ev") | ((with_reducible apply ix_enumc) <;> walk_at "ev") | ((with_reducible apply ix_range) <;> walk_at "ev") | ((with_reducible apply ix_enum) <;> walk_at "ev") | ((with_reducible apply ix_zip) <;> walk_at "ev") | ((with_reducible apply ix_seq) <;> walk_at "ev"))
    | with_reducible exact kx_nil
    | ((with_reducible apply kx_one); walk_at "ev")
    | ((with_reducible apply g_T1); ((with_reducible apply turn1) <;> walk_at "ev"))
    | ((with_reducible refine' ab_is' ?_); intro _ _ _ _ _; walk_at "ev")
    | ((with_reducible apply g_SL); first | with_reducible apply g_SLc | ((with_reducible apply slx_fxl) <;> walk_at "ev") | skip)
    | with_reducible assumption
    | skip)
local macro_rules
  | `(tactic| walk_at "ev") => `(tactic| first | ((with_reducible apply prop_is); walk_at "ev1") | skip)
local macro_rules
  | `(tactic| walk_at "set1") => `(tactic| ((with_reducible apply sx_set1) <;> walk_at "ev"))
local macro_rules
  | `(tactic| walk_at "set") => `(tactic| ((with_reducible apply sx_set) <;> walk_at "ev"))
local macro_rules
  | `(tactic| walk_at "seto") => `(tactic| ((with_reducible apply sx_seto) <;> walk_at "ev"))
local macro_rules
  | `(tactic| walk_at "seto1") => `(tactic| ((with_reducible apply sx_seto1) <;> walk_at "ev"))
local macro_rules
  | `(tactic| walk_at "setl") => `(tactic| ((with_reducible apply sx_setl) <;> walk_at "ev"))
local macro_rules
  | `(tactic| walk_at "asg") => `(tactic| ((with_reducible apply sx_asg1) <;> walk_at "ev"))
local macro_rules
  | `(tactic| walk_at "app") => `(tactic| ((with_reducible apply sx_append) <;> walk_at "ev"))
local macro_rules
  | `(tactic| walk_at "app1") => `(tactic| ((with_reducible apply sx_append1) <;> walk_at "ev"))
local macro_rules
  | `(tactic| walk_at "ext") => `(tactic| ((with_reducible apply sx_extend) <;> walk_at "ev"))
local macro_rules
  | `(tactic| walk_at "ret") => `(tactic| ((with_reducible apply sx_ret); (with_reducible apply ex_is); walk_at "ev"))
local macro_rules
  | `(tactic| walk_at "is") => `(tactic| (first | (with_reducible apply ex_is) | (with_reducible apply tx_is) | (with_reducible apply fx_is)) <;> walk_at "ev")
local macro_rules
  | `(tactic| walk_at "turn") => `(tactic| ((with_reducible apply turn_of) <;> walk_at "ev"))
local macro_rules
  | `(tactic| walk_at "nil") => `(tactic| ((with_reducible apply sx_nile); walk_at "le"))
local macro_rules
  | `(tactic| walk_at "go") => `(tactic| (dsimp only [st0]; show SX _ (_ :: _) _ _))
local macro_rules
  | `(tactic| walk_at "vs") => `(tactic| ((with_reducible apply vs_is); with_unfolding_all (first | exact .inl rfl | exact .inr (.inl rfl) | exact .inr (.inr rfl))))
local macro_rules
  | `(tactic| walk_at "lvr") => `(tactic| with_reducible first | exact lv_rn | (apply lv_ru; walk_at "lvr") | (apply lv_rd; walk_at "vs"; walk_at "lvr") | (apply lv_ro; walk_at "vs"; walk_at "lvr") | (apply lv_rx; walk_at "lvr"))
local macro_rules
  | `(tactic| walk_at "lvh") => `(tactic| with_reducible first | exact lv_hn | (apply lv_hu; walk_at "lvh") | (apply lv_hd; walk_at "vs"; walk_at "lvh") | (apply lv_hx; walk_at "lvh"))
local macro_rules
  | `(tactic| walk_at "lv0") => `(tactic| with_reducible first | exact LeV.nil | (apply LeV.keep; walk_at "vs"; walk_at "lv0") | (apply LeV.drop; walk_at "lv0"))
local macro_rules
  | `(tactic| walk_at "lv") => `(tactic| first | ((with_reducible apply g_lvr); walk_at "lvr") | ((with_reducible apply g_lvh); walk_at "lvh") | walk_at "lv0")
local macro_rules
  | `(tactic| walk_at "how") => `(tactic| (intro i hi; simp only [List.map_cons, List.map_nil, List.mem_cons, List.mem_singleton, List.not_mem_nil, or_false] at hi; first | (subst hi; exact ⟨_, rfl⟩) | (rcases hi with hi | hi <;> (subst hi; exact ⟨_, rfl⟩)) | (rcases hi with hi | hi | hi <;> (subst hi; exact ⟨_, rfl⟩))))
local macro_rules
  | `(tactic| walk_at "t1") => `(tactic| ((with_reducible apply turn1) <;> walk_at "ev"))
local macro_rules
  | `(tactic| walk_at "reto") => `(tactic| ((with_reducible apply sx_one); (with_reducible apply s1_reto); walk_at "up"))
local macro_rules
  | `(tactic| walk_at "item") => `(tactic| ((with_reducible apply sx_item) <;> walk_at "ev"))
local macro_rules
  | `(tactic| walk_at "no") => `(tactic| ((with_reducible apply sx_no) <;> walk_at "ev"))
local macro_rules
  | `(tactic| walk_at "yes") => `(tactic| ((refine' sx_yes ?_ ?_ (fun e z => nomatch z) ?_) <;> walk_at "ev"))
local macro_rules
  | `(tactic| walk_at "then") => `(tactic| ((with_reducible apply sx_then) <;> walk_at "ev"))
local macro_rules
  | `(tactic| walk_at "lz") => `(tactic| with_reducible first | exact LkZ.here | (apply LkZ.next; walk_at "lz"))
local macro_rules
  | `(tactic| walk_at "rest") => `(tactic| first | walk_at "sy" | exact PassesOwn.never)
local macro_rules
  | `(tactic| walk_at "how1") => `(tactic| (intro i hi; simp only [List.mem_cons, List.not_mem_nil, or_false] at hi; first | (subst hi; exact ⟨_, rfl⟩) | (rcases hi with hi | hi <;> (subst hi; exact ⟨_, rfl⟩))))
local macro_rules
  | `(tactic| walk_at "t2") => `(tactic| ((with_reducible apply turn2) <;> first | walk_at "how1" | walk_at "ev"))
local macro_rules
  | `(tactic| walk_at "i2") => `(tactic| ((with_reducible apply in2) <;> walk_at "ev"))
local macro_rules
  | `(tactic| walk_at "expr") => `(tactic| ((with_reducible apply sx_expr) <;> walk_at "ev"))
local macro_rules
  | `(tactic| walk_at "tk") => `(tactic| ((with_reducible apply turnK) <;> walk_at "ev"))
local macro_rules
  | `(tactic| walk_at "nset") => `(tactic| ((with_reducible refine' sn_set ?w ?h ?hx ?hs ?hf ?r); (case w => walk_at "sy"); (case hx => walk_at "sy"); (case hs => walk_at "sy"); (case hf => walk_at "sy")))
local macro_rules
  | `(tactic| walk_at "nset1") => `(tactic| ((with_reducible refine' sn_set1 ?w ?h ?hx ?hs ?hf ?r); (case w => walk_at "sy"); (case hx => walk_at "sy"); (case hs => walk_at "sy"); (case hf => walk_at "sy")))
local macro_rules
  | `(tactic| walk_at "napp") => `(tactic| ((with_reducible refine' sn_append ?w ?h ?hz ?h1 ?h2 ?h3 ?h4 ?h5 ?h6 ?h7 ?r); (case w => walk_at "sy"); (case h1 => walk_at "ev"); (case h2 => walk_at "ev"); (case h3 => walk_at "ev"); (case h4 => walk_at "ev"); (case h5 => walk_at "ev"); (case h6 => walk_at "ev"); (case h7 => walk_at "ev")))
local macro_rules
  | `(tactic| walk_at "gsn") => `(tactic| (first | (with_reducible apply ge_sn) | (with_reducible apply up_sn) | (with_reducible apply up_sn1) | (with_reducible apply lk_sn) | (with_reducible apply gx_nx) | (with_reducible apply gx_nt)) <;> walk_at "ev")
local macro_rules
  | `(tactic| walk_at "pure") => `(tactic| (with_reducible apply sn_pure))
local macro_rules
  | `(tactic| walk_at "gn") => `(tactic| (dsimp only [st0]; show SN _ _ (_ :: _) _ _ _))
set_option maxRecDepth 100000
set_option maxHeartbeats 4000000
section
variable {P : Program} {w : World} {K : PySem.W.Frag} {mg : Str → Option Value} {base : Heap} {k : Nat} {f : Addr} {fd : FuncData}
@[reducible] def N86 : List Str := ["_law_pot_here", "_law_objects", "_law_threads", "_law_width", "_law_count", "_law_slots", "_law_number", "_law_held", "_law_thread", "_law_turn"]
theorem sc86 : Sc N86 ["_law_pot_here", "_law_objects", "_law_threads"] (topS 86) := ⟨⟨rfl, rfl, rfl, by decide +kernel, rfl, by decide +kernel, by decide +kernel⟩, by decide +kernel⟩
/-- a drawn heap -/
structure Hea where
  w : Nat
  slots : List (List (Option Nat))
  held : List (List Nat)
structure Hea.Ok (h : Hea) : Prop where
  w1 : 1 ≤ h.w
  w4 : h.w ≤ 4
  n7 : h.slots.length ≤ 7
  t4 : h.held.length ≤ 4
  row : ∀ r ∈ h.slots, r.length = h.w ∧ ∀ n, some n ∈ r → n < h.slots.length
  held : ∀ g ∈ h.held, g.Pairwise (· < ·) ∧ ∀ n ∈ g, n < h.slots.length
@[reducible] def heaD (h : Hea) : D := .tup [natD h.w, .tup (h.slots.map rowD), .tup (h.held.map heldD)]
def pre86 (R : Rsc) (ds : List D) (c : Nat) (O : D → Prop) : Prop := ∃ a : Addr, PotR R a ∧ ds = [.adr a, natD 7, natD 4] ∧ c = 59 ∧ O = fun d => ∃ h : Hea, h.Ok ∧ d = heaD h
theorem all2_opt {c : Nat} : ∀ {zs : List Nat} {ds : List D}, All2 (fun _ d => ∃ o : Option Nat, d = optD o ∧ ∀ n, o = some n → n < c) zs ds → ∃ row : List (Option Nat), ds = row.map optD ∧ row.length = zs.length ∧ ∀ n, some n ∈ row → n < c
  | _, _, .nil => ⟨[], rfl, rfl, fun n h => by simp at h⟩
  | _, _, .cons ⟨o, e, h⟩ t => by
    obtain ⟨row, e2, l, h2⟩ := all2_opt t
    exact ⟨o :: row, by rw [e, e2]; rfl, by rw [List.length_cons, List.length_cons, l], fun n hn => by
      rcases List.mem_cons.mp hn with z | z
      · exact h n z.symm
      · exact h2 n z⟩
@[reducible] def E86 (a : Addr) (wi ct : Nat) (x y : Ev) : Env' := [("_law_pot_here", .d (.adr a)), ("_law_objects", .d (natD 7)), ("_law_threads", .d (natD 4)), ("_law_width", .d (natD (1 + wi))), ("_law_count", .d (natD ct)), ("_law_slots", x), ("_law_number", .u), ("_law_held", y), ("_law_thread", .u), ("_law_turn", .u)]
theorem natD_1add (v : Nat) : D.int (1 + (v : Int)) = natD (1 + v) := by show D.int _ = D.int _; rw [Int.natCast_add]; rfl
theorem ok86 (F : Fun K "_law_heap" "_law_heap" (topS 86) f fd) (c76 : Cal P w K mg base k "_law_take" (spN K pre76)) (c85 : Cal P w K mg base k "_law_of" (spN K pre85)) (m1 : mg "range" = none) (m2 : mg "list" = none) (m3 : mg "tuple" = none) : FnOk P w K mg base CX0 (k + 1) f fd ["_law_pot_here", "_law_objects", "_law_threads"] (spN K pre86) := by
  refine def_n F sc86 (fun R ds c O ⟨a, _, h, _⟩ => by rw [h]; rfl) fun cdv A outer s H E hr R ds c O ⟨a, PR, hds, hc, hO⟩ => ?_
  subst hds hc hO
  walk_at "gn"
  refine sn_le (c1 := 2 + 57) ?_ (Nat.le_refl _) fun _ h => h
  refine' sn_asg (OD := fun d => ∃ wi ct : Nat, d = .tup [natD (1 + wi), natD ct] ∧ wi < 4 ∧ ct < 8) (nx_tup (OL := fun ds => ∃ wi ct : Nat, ds = [natD (1 + wi), natD ct] ∧ wi < 4 ∧ ct < 8) (na_cons (c1 := 1) (c2 := 1) (O1 := fun d => ∃ wi : Nat, d = natD (1 + wi) ∧ wi < 4) (OL := fun ds => ∃ ct : Nat, ds = [natD ct] ∧ ct < 8) (nx_bin (c1 := 0) (c2 := 1) (nx_ex (d := .int 1) ?_) (nx_take (many := 4) c76 PR (by omega) (by omega) ?_ ?_ ?_ ?_ ?_ ?_) ?_) (na_cons (c1 := 1) (c2 := 0) (nx_take (many := 8) c76 PR (by omega) (by omega) ?_ ?_ ?_ ?_ ?_ ?_) na_nil ?_ ?_) ?_ ?_) ?_) ?_ ?_ ?_ ?_
  all_goals try walk_at "ev"
  · rintro _ _ rfl ⟨v, rfl, hv⟩
    exact ⟨_, o_add, v, natD_1add v, hv⟩
  · rintro _ _ ⟨v, rfl, hv⟩ rfl
    exact ⟨v, rfl, hv⟩
  · rintro _ _ ⟨v, rfl, hv⟩ ⟨u, rfl, hu⟩
    exact ⟨v, u, rfl, hv, hu⟩
  · rintro _ ⟨v, u, rfl, hv, hu⟩
    exact ⟨by rw [sizeLine_eq]; exact Nat.le_of_ble_eq_true rfl, v, u, rfl, hv, hu⟩
  rintro _ ⟨wi, ct, rfl, hw, hct⟩
  walk_at "gsn"
  (with_reducible apply sn_pure)
  (with_reducible apply s1_seto) <;> walk_at "ev"
  refine sn_le (c1 := 0 + 7 * 4 + 29) ?_ (Nat.le_refl _) fun _ h => h
  refine sn_for (c1 := 0) (c2 := 4) (c3 := 29) (m := 7) (OL := fun ys => ys = (List.range ct).map natD) (fun _ k e0 => ∃ rows : List (List (Option Nat)), rows.length = k ∧ (∀ r ∈ rows, r.length = 1 + wi ∧ ∀ n, some n ∈ r → n < ct) ∧
    e0 = E86 a wi ct (.o (rows.map rowD)) .u) ?_ ?_ ?_ ?_ ?_ ?_ ?_
  · refine' nix_ix (ix_rangec (n := ct) ?_ ?_ ?_ ?_ ?_)
    all_goals walk_at "ev"
    omega
  · rintro _ rfl
    rw [List.length_map, List.length_range]; omega
  · rintro _ rfl
    exact ⟨[], rfl, fun r h => by simp at h, rfl⟩
  · rintro _ k d _ rfl hk ⟨rows, hl, hrows, rfl⟩
    dsimp only [E86]
    walk_at "gsn"
    refine sn_le (c1 := 4 + 0) ?_ (Nat.le_refl _) fun _ h => h
    walk_at "napp"
    case h =>
      refine' nx_callTy (T := "tuple") (OL := fun ds => ∃ row : List (Option Nat), ds = [.lst (row.map optD)] ∧ row.length = 1 + wi ∧ ∀ n, some n ∈ row → n < ct) (O := fun d => ∃ row : List (Option Nat), d = rowD row ∧ row.length = 1 + wi ∧ ∀ n, some n ∈ row → n < ct) (c := 4) (na_cons (c1 := 4) (c2 := 0) (O1 := fun d => ∃ row : List (Option Nat), d = .lst (row.map optD) ∧ row.length = 1 + wi ∧ ∀ n, some n ∈ row → n < ct) (nx_le (nx_lcE [("_law_turn", 9)] N86 (defScope (topS 86)) (List.range (1 + wi)) natD (fun _ d => ∃ o : Option Nat, d = optD o ∧ ∀ n, o = some n → n < ct) 1 ?_ ?_ ?_ ?_ ?_ ?_ ?_ ?_ ?_) ?_ ?_) na_nil ?_ ?_) ?_ ?_ ?_ ?_ ?_ ?_ ?_ ?_
      all_goals try walk_at "ev"
      · omega
      · rw [List.length_range, sizeLine_eq]; omega
      · intro z hz
        walk_at "gsn"
        refine' nx_le (nx_of (xs := .non :: (List.range ct).map natD) ?_ PR sq_l ?_ ?_ ?_ ?_ ?_ ?_ ?_ ?_) (Nat.le_refl _) ?_
        all_goals try walk_at "ev"
        · exact Nat.succ_pos _
        · rw [List.length_cons, List.length_map, List.length_range]; omega
        · omega
        · rw [List.length_map, List.length_range, sizeLine_eq, List.length_cons, List.length_nil]; omega
        · intro d hd
          rcases List.mem_cons.mp hd with rfl | hd
          · exact ⟨none, rfl, fun n h => nomatch h⟩
          · obtain ⟨n, hn, rfl⟩ := List.mem_map.mp hd
            exact ⟨some n, rfl, fun m h => by cases h; exact List.mem_range.mp hn⟩
      · rw [List.length_range]; omega
      · rintro _ ⟨ds, rfl, h⟩
        obtain ⟨row, rfl, h1, h2⟩ := all2_opt h
        exact ⟨row, rfl, by rw [h1, List.length_range], h2⟩
      · rintro _ _ ⟨row, rfl, h⟩ rfl
        exact ⟨row, rfl, h⟩
      · rintro _ ⟨row, rfl, h⟩
        exact ⟨_, c_tupL, row, rfl, h⟩
    case hz =>
      have := (List.getElem?_eq_some_iff.mp hk).1
      rw [List.length_map, List.length_range] at this
      rw [List.length_map, sizeLine_eq]; omega
    rintro _ ⟨row, rfl, h1, h2⟩
    walk_at "gsn"
    · exact immL_opt _
    refine sn_le (sn_nile (e2 := E86 a wi ct (.o ((rows ++ [row]).map rowD)) .u) ?_) (Nat.le_refl _) fun o h => .inl ⟨_, h, rows ++ [row], by rw [List.length_append, hl]; rfl, fun r hr => ?_, rfl⟩
    · dsimp only [E86]
      rw [List.map_append]; walk_at "le"
      rfl
    · rcases List.mem_append.mp hr with hr | hr
      · exact hrows r hr
      · rw [List.mem_singleton.mp hr]; exact ⟨h1, h2⟩
  · rintro _ _ rfl ⟨rows, hl, hrows, rfl⟩
    rw [List.length_map, List.length_range] at hl
    dsimp only [E86]
    (with_reducible apply sn_pure)
    (with_reducible apply s1_seto) <;> walk_at "ev"
    refine sn_le (c1 := 1 + 4 * 7 + 0) ?_ (Nat.le_refl _) fun _ h => h
    refine sn_for (c1 := 1) (c2 := 7) (c3 := 0) (m := 4) (OL := fun ys => ∃ n, ys = rngD n ∧ n ≤ 4) (fun _ k e0 => ∃ hs : List (List Nat), hs.length = k ∧ (∀ g ∈ hs, g.Pairwise (· < ·) ∧ ∀ n ∈ g, n < ct) ∧
      e0 = E86 a wi ct (.o (rows.map rowD)) (.o (hs.map heldD))) ?_ ?_ ?_ ?_ ?_ ?_ ?_
    · refine' nix_range (N := fun n => n ≤ 4) (nx_le (nx_bin (c1 := 0) (c2 := 1) (nx_ex (d := .int 1) ?_) (nx_take (many := 4) c76 PR (by omega) (by omega) ?_ ?_ ?_ ?_ ?_ ?_) ?_) (Nat.le_refl _) (fun d h => h)) ?_ ?_ ?_ ?_
      all_goals try walk_at "ev"
      · rintro _ _ rfl ⟨v, rfl, hv⟩
        exact ⟨_, o_add, 1 + v, by show D.int _ = D.int _; congr 1, by omega⟩
      · intro n h; omega
    · rintro _ ⟨n, rfl, hn⟩
      unfold rngD
      rw [List.length_map, List.length_range]; exact hn
    · rintro _ ⟨n, rfl, hn⟩
      exact ⟨[], rfl, fun r h => by simp at h, rfl⟩
    · rintro _ k d _ ⟨n, rfl, hn⟩ hk ⟨hs, hl2, hhs, rfl⟩
      dsimp only [E86]
      walk_at "gsn"
      refine sn_le (c1 := 7 + 0) ?_ (Nat.le_refl _) fun _ h => h
      walk_at "napp"
      case h =>
        refine' nx_callTy (T := "tuple") (OL := fun ds => ∃ g : List Nat, ds = [.lst (g.map natD)] ∧ g.Sublist (List.range ct)) (O := fun d => ∃ g : List Nat, d = heldD g ∧ g.Sublist (List.range ct)) (c := 7) (na_cons (c1 := 7) (c2 := 0) (O1 := fun d => ∃ g : List Nat, d = .lst (g.map natD) ∧ g.Sublist (List.range ct)) (nx_le (nx_lcT [("_law_number", 6)] N86 (defScope (topS 86)) (List.range ct) natD natD 1 ?_ ?_ ?_ ?_ ?_ ?_ ?_ ?_ ?_) ?_ ?_) na_nil ?_ ?_) ?_ ?_ ?_ ?_ ?_ ?_ ?_ ?_
        all_goals try walk_at "ev"
        · omega
        · rw [List.length_range, sizeLine_eq]; omega
        · intro z hz
          walk_at "gsn"
          refine' nt_cmp (c1 := 1) (c2 := 0) (nx_take (many := 3) ?_ PR (by omega) (by omega) ?_ ?_ ?_ ?_ ?_ ?_) (nx_ex (d := .int 0) ?_) ?_ ?_
          all_goals try walk_at "ev"
          rintro _ _ ⟨v, rfl, hv⟩ rfl
          exact ⟨_, o_eqi, trivial⟩
        · rw [List.length_range]; omega
        · rintro _ ⟨ws, h, rfl⟩
          exact ⟨ws, rfl, h⟩
        · rintro _ _ ⟨g, rfl, h⟩ rfl
          exact ⟨g, rfl, h⟩
        · rintro _ ⟨g, rfl, h⟩
          exact ⟨_, c_tupL, g, rfl, h⟩
      case hz =>
        have := (List.getElem?_eq_some_iff.mp hk).1
        unfold rngD at this
        rw [List.length_map, List.length_range] at this
        rw [List.length_map, sizeLine_eq]; omega
      rintro _ ⟨g, rfl, hg⟩
      walk_at "gsn"
      · exact immL_nat _
      refine sn_le (sn_nile (e2 := E86 a wi ct (.o (rows.map rowD)) (.o ((hs ++ [g]).map heldD))) ?_) (Nat.le_refl _) fun o h => .inl ⟨_, h, hs ++ [g], by rw [List.length_append, hl2]; rfl, fun q hq => ?_, rfl⟩
      · dsimp only [E86]
        rw [List.map_append]; walk_at "le"
        rfl
      · rcases List.mem_append.mp hq with hq | hq
        · exact hhs q hq
        · rw [List.mem_singleton.mp hq]
          exact ⟨List.Pairwise.sublist hg List.pairwise_lt_range, fun n hn => List.mem_range.mp (hg.subset hn)⟩
    · rintro _ _ ⟨n, rfl, hn⟩ ⟨hs, hl2, hhs, rfl⟩
      unfold rngD at hl2
      rw [List.length_map, List.length_range] at hl2
      refine sn_le (sn_sx (sx_ret (d := heaD ⟨1 + wi, rows, hs⟩) ?_) fun _ _ h => nomatch h) (Nat.le_refl _) fun o h => ⟨_, h, _, ⟨?_, ?_, ?_, ?_, ?_, ?_⟩, rfl⟩
      · walk_at "ev"
      · exact Nat.le_add_right 1 wi
      · show 1 + wi ≤ 4; omega
      · show rows.length ≤ 7; omega
      · show hs.length ≤ 4; omega
      · rw [hl]; exact hrows
      · rw [hl]; exact hhs
    · walk_at "sy"
    · exact PassesOwn.never
  · walk_at "sy"
  · exact PassesOwn.never
end
set_option maxRecDepth 100000
set_option maxHeartbeats 4000000
section
variable {P : Program} {w : World} {K : PySem.W.Frag} {mg : Str → Option Value} {base : Heap} {k : Nat} {f : Addr} {fd : FuncData}
theorem sl_fil1 {X : Cx} {elt tg iter t : Expr} {scope : Scope} {r rw_ : Rho} {pos : Pos} {α : Type} {y : Str} {py spos : Pos} (own : List (Str × Nat)) (N : List Str) (sc : Scope) (zs : List α) (f : α → D) (pr : α → Bool) (hi : IX X tg iter r (zs.map f)) (hN : X.N = N) (hsc : X.env.scope = sc) (hb : blkC N sc scope own = true) (hlv : LeV (relabel scope X.env) r rw_)
    (how : ∀ i ∈ own.map (·.2), ∃ n, rw_[i]? = some (n, none)) (hs : ∀ x, foldedSetIterable iter X.env x = pure x) (hyl : X.env.scope.names.lookup y = some .local)
    (hsw : swapsWith (.ListComp elt [⟨tg, iter, [t], 0⟩] scope pos) (some (.Name y py)) spos.line X.env = pure true) (hz : zs.length < sizeLine) (body : ∀ z ∈ zs, Turn1 X elt tg [t] scope own rw_ (f z) (pr z) (f z)) : SLX X y py (.ListComp elt [⟨tg, iter, [t], 0⟩] scope pos) spos r ((zs.filter pr).map f) := by
  have h := sl_filc own N sc zs f pr f (fun z => z) hi hN hsc hb hlv how hs hyl hsw hz body
  rwa [List.map_id'] at h
theorem ox_orT {X : Cx} {a b : Expr} {rest : List Expr} {r : Rho} {pos : Pos} {k1 : Bool} (h : TX X a r k1) (e : k1 = true) : OX X (.BoolOp .Or (a :: b :: rest) pos) r true := by
  subst e
  exact ox_or (k2 := true) h fun h => nomatch h
theorem ox_orF {X : Cx} {a b : Expr} {rest : List Expr} {r : Rho} {pos : Pos} {k1 k2 : Bool} (h : TX X a r k1) (e : k1 = false) (h2 : OX X (.BoolOp .Or (b :: rest) pos) r k2) : OX X (.BoolOp .Or (a :: b :: rest) pos) r k2 := by
  subst e
  have := ox_or h fun _ => h2
  exact this
def pickV (S : Sta) : Stp → Bool
  | .scan _ => true
  | .visit t => !S.scn t
  | _ => false
def pickN (S : Sta) : Stp → Bool
  | .load _ _ _ => true
  | .store _ b _ _ => !decide (S.col b = .white)
  | _ => false
@[reducible] def N94 : List Str := ["_law_pot_here", "_law_grid", "_law_place", "_law_states", "_law_many", "_law_turn", "_law_here", "_law_some", "_law_busy", "_law_near", "_law_one"]
theorem sc94 : Sc N94 ["_law_pot_here", "_law_grid", "_law_place"] (topS 94) := ⟨⟨rfl, rfl, rfl, by decide +kernel, rfl, by decide +kernel, by decide +kernel⟩, by decide +kernel⟩
def Hea.start (h : Hea) : Sta := ⟨h.w, h.slots, List.replicate h.slots.length .white, h.held, List.replicate h.held.length false⟩
theorem Hea.start_ok {h : Hea} (O : h.Ok) : h.start.Ok := ⟨O.w1, O.w4, Nat.le_trans O.n7 (by decide), O.t4, List.length_replicate, List.length_replicate, O.row, O.held⟩
@[reducible] def E94 (a : Addr) (T : List Mk) (b : Bool) (h : Hea) (m : Nat) (Ss : List Sta) (x y z u v : Ev) : Env' := [("_law_pot_here", .d (.adr a)), ("_law_grid", .d (tabD T b)), ("_law_place", .d (heaD h)), ("_law_states", .o (Ss.map staD)), ("_law_many", .d (natD m)), ("_law_turn", x), ("_law_here", y), ("_law_some", z), ("_law_busy", u), ("_law_near", v), ("_law_one", .u)]
def pre94 (R : Rsc) (ds : List D) (c : Nat) (O : D → Prop) : Prop := ∃ (a : Addr) (T : List Mk) (b : Bool) (h : Hea), PotR R a ∧ (∀ m ∈ T, m.ok = true) ∧ h.Ok ∧ ds = [.adr a, tabD T b, heaD h] ∧ c = 281 ∧ O = fun d => ∃ Ss : List Sta, d = .lst (Ss.map staD) ∧ Ss.length ≤ 141 ∧ ∀ S ∈ Ss, Run T b h.start S
theorem at_kd (z : Stp) : atI (kdD z.kd :: z.rest) 0 = some (kdD z.kd) := by cases z <;> rfl
theorem steps_len {ag : Bool} {S : Sta} (O : S.Ok) : (steps ag S).length ≤ 100000 := by
  unfold steps
  split
  · exact Nat.zero_le _
  · have h1 := scans_len O
    have h2 := flat_len (l := List.range S.held.length) (f := stepsOf ag S) (c := 700) fun x _ => stepsOf_len O x
    have h3 := O.t4
    rw [List.length_range] at h2
    rw [List.length_append]
    omega
theorem at_last {α : Type} {f : α → D} {xs : List α} {S : α} (h : xs.getLast? = some S) : atI (xs.map f) (-1) = some (f S) := by
  have e : xs[xs.length - 1]? = some S := by rw [← List.getLast?_eq_getElem?]; exact h
  have hl : xs.length - 1 < xs.length := (List.getElem?_eq_some_iff.mp e).1
  unfold atI ixN
  rw [if_neg (by omega), if_pos (by rw [List.length_map]; omega)]
  show (List.map f xs)[_]? = _
  rw [List.length_map, show (-1 + (xs.length : Int)).toNat = xs.length - 1 by omega, List.getElem?_map, e]
  rfl
theorem ok94 (F : Fun K "_law_tour" "_law_tour" (topS 94) f fd) (c76 : Cal P w K mg base k "_law_take" (spN K pre76)) (c85 : Cal P w K mg base k "_law_of" (spN K pre85)) (c78 : Cal P w K mg base k "_law_steps" (spF K pre78)) (c84 : Cal P w K mg base k "_law_next" (spD K pre84)) (m1 : mg "range" = none) (m2 : mg "len" = none) : FnOk P w K mg base CX0 (k + 1) f fd ["_law_pot_here", "_law_grid", "_law_place"] (spN K pre94) := by
  refine def_n F sc94 (fun R ds c O ⟨a, _, _, _, _, _, _, h, _⟩ => by rw [h]; rfl) fun cdv A outer s H E hr R ds c O ⟨a, T, ag, h, PR, hT, hO, hds, hc, hQ⟩ => ?_
  subst hds hc hQ
  walk_at "gn"
  have e0 : List.map staD [h.start] = [D.tup [natD h.w, .tup (h.slots.map rowD), .tup (List.replicate (h.slots.map rowD).length (D.str "white")), .tup (h.held.map heldD), .tup (List.replicate (h.held.map heldD).length (D.bl false))]] := by
    rw [List.length_map, List.length_map]
    show [D.tup [_, _, .tup (List.map colD (List.replicate _ _)), _, .tup (List.map D.bl (List.replicate _ _))]] = _
    rw [List.map_replicate, List.map_replicate]
    rfl
  (with_reducible apply sn_pure)
  (with_reducible apply s1_seto (ds := List.map staD [h.start])) <;> walk_at "ev"
  · rw [e0]
    walk_at "ev"
    · rw [List.length_map]; exact Nat.le_trans hO.n7 (by decide)
    · rw [List.length_map]; exact Nat.le_trans hO.t4 (by decide)
  · exact immL_map imm_sta _
  refine sn_le (c1 := 1 + 280) ?_ (Nat.le_refl _) fun _ h => h
  walk_at "nset"
  case h =>
    refine' nx_le (c := 1) (O := fun d => ∃ m : Nat, d = natD m ∧ m ≤ 60) (nx_bin (c1 := 0) (c2 := 1) (nx_ex (d := .int 20) ?_) (nx_take (many := 41) ?_ PR (by omega) (by omega) ?_ ?_ ?_ ?_ ?_ ?_) ?_) (Nat.le_refl _) fun _ h => h
    all_goals try walk_at "ev"
    rintro _ _ rfl ⟨v, rfl, hv⟩
    exact ⟨_, o_add, 20 + v, by show D.int _ = D.int _; congr 1, by omega⟩
  rintro _ ⟨m, rfl, hm⟩
  walk_at "gsn"
  refine sn_le (c1 := 0 + 140 * 2 + 0) ?_ (Nat.le_refl _) fun _ h => h
  refine sn_for (c1 := 0) (c2 := 2) (c3 := 0) (m := 140) (OL := fun ys => ys = (List.range (m + 80)).map natD) (fun _ k e0 => ∃ Ss : List Sta, Ss.length = k + 1 ∧ (∀ S ∈ Ss, Run T ag h.start S) ∧ e0 = E94 a T ag h m Ss .u .u .u .u .u) ?_ ?_ ?_ ?_ ?_ ?_ ?_
  · refine' nix_ix (ix_rangec (n := m + 80) ?_ ?_ ?_ ?_ ?_)
    · show EX _ _ _ (.int ((m : Int) + 80))
      walk_at "ev"
    all_goals walk_at "ev"
    omega
  · rintro _ rfl
    rw [List.length_map, List.length_range]; omega
  · rintro _ rfl
    exact ⟨[h.start], rfl, fun S hS => by rw [List.mem_singleton.mp hS]; exact .start, rfl⟩
  · rintro _ k d _ rfl hk ⟨Ss, hl, hSs, rfl⟩
    obtain ⟨S, hS⟩ : ∃ S, Ss.getLast? = some S := by
      cases e : Ss.getLast? with
      | some S => exact ⟨S, rfl⟩
      | none => rw [List.getLast?_eq_none_iff] at e; rw [e] at hl; cases hl
    have hRun : Run T ag h.start S := hSs S (List.mem_of_getLast? hS)
    have O := hRun.ok (Hea.start_ok hO)
    have hA := at_last (f := staD) hS
    have hkl : k < m + 80 := by
      have := (List.getElem?_eq_some_iff.mp hk).1
      rwa [List.length_map, List.length_range] at this
    have hd : d = natD k := by
      rw [List.getElem?_map, List.getElem?_range hkl] at hk
      exact (Option.some.inj hk).symm
    subst hd
    dsimp only [E94]
    walk_at "gsn"
    (with_reducible apply sn_pure)
    (with_reducible apply s1_set) <;> walk_at "ev"
    have p78 : pre78 [.bl ag, staD S] ((steps ag S).map stpD) := ⟨ag, S, O, rfl, rfl⟩
    (with_reducible apply sn_pure)
    (with_reducible apply s1_setl) <;> walk_at "ev"
    have hsz : (steps ag S).length ≤ 100000 := steps_len O
    (with_reducible apply sn_pure)
    (with_reducible apply s1_setl) <;> walk_at "ev"
    · (with_reducible apply sl_fil1 [("_law_one", 10)] N94 (defScope (topS 94)) (steps ag S) stpD (fun z => decide (z.kd ∈ [Kd.scan, .visit]))) <;> walk_at "ev"
      · rw [sizeLine_eq]; omega
      · intro z hz
        have hK := at_kd z
        rw [stpD_k z]
        walk_at "t1"
    have hbz : ∀ z ∈ (steps ag S).filter (fun z => decide (z.kd ∈ [Kd.scan, .visit])), z ∈ steps ag S ∧ (z.kd = .scan ∨ z.kd = .visit) := fun z hz => by
      obtain ⟨h1, h2⟩ := List.mem_filter.mp hz
      have h2 := of_decide_eq_true h2
      simp at h2
      exact ⟨h1, h2⟩
    have hbl : ((steps ag S).filter fun z => decide (z.kd ∈ [Kd.scan, .visit])).length ≤ 100000 := Nat.le_trans (List.length_filter_le _ _) hsz
    generalize (steps ag S).filter (fun z => decide (z.kd ∈ [Kd.scan, .visit])) = busy at hbz hbl
    refine sn_le (c1 := 0 + (1 + 1)) ?_ (Nat.le_refl _) fun _ h => h
    refine sn_if (B := fun _ => True) (c1 := 0) (c2 := 1) (c3 := 1) (O1 := fun o => ∃ zs : List Stp, (∀ z ∈ zs, z ∈ steps ag S) ∧ zs.length ≤ 100000 ∧ o = .nx (E94 a T ag h m Ss (.d (natD k)) (.d (staD S)) (.d (.lst (zs.map stpD))) .u .u)) (nt_le (nt_tx (k := decide ((m : Int) ≤ (k : Int))) ?_) (Nat.le_refl _) fun _ _ => trivial) (fun _ => ?_) (fun _ => ?_) ?_ ?_
    · apply tx_is
      walk_at "ev"
      rfl
    · refine sn_le (sn_sx (o := .nx (E94 a T ag h m Ss (.d (natD k)) (.d (staD S)) (.d (.lst ((if (busy.filter (pickV S)).isEmpty then busy else busy.filter (pickV S)).map stpD))) .u .u)) ?_ fun _ _ h => nomatch h) (Nat.zero_le _) fun o ho => ⟨_, fun z hz => ?_, ?_, ho⟩
      · walk_at "setl"
        · (with_reducible apply sl_fil1 [("_law_one", 10)] N94 (defScope (topS 94)) busy stpD (pickV S)) <;> walk_at "ev"
          · rw [sizeLine_eq]; omega
          · intro z hz
            obtain ⟨h1, h2⟩ := hbz z hz
            have PS := poss_of_steps O h1
            cases z with
            | scan n =>
              (with_reducible apply turn1)
              case g => walk_at "ev"
              case h => walk_at "ev"
              case m => walk_at "ev"
              refine ab_is' fun _ _ _ _ _ => kx_one (tx_o (ox_orT (k1 := decide (("scan" : Str) = "scan")) ?_ (by decide)))
              walk_at "ev"
            | visit t =>
              have htl : t < S.sc.length := by rw [O.sl]; exact PS
              have hsc := at_map (f := D.bl) (show S.sc[t]? = some (S.scn t) by rw [List.getElem?_eq_getElem htl]; unfold Sta.scn; rw [List.getD_eq_getElem?_getD, List.getElem?_eq_getElem htl]; rfl)
              (with_reducible apply turn1)
              case g => walk_at "ev"
              case h => walk_at "ev"
              case m => walk_at "ev"
              refine ab_is' fun _ _ _ _ _ => kx_one (tx_o (ox_orF (k1 := decide (("visit" : Str) = "scan")) ?_ (by decide +kernel) (k2 := !S.scn t) ?_))
              walk_at "ev"
              walk_at "ev"
            | _ => rcases h2 with h2 | h2 <;> cases h2
        · (with_reducible apply sx_set1 (d := .lst ((if (busy.filter (pickV S)).isEmpty then busy else busy.filter (pickV S)).map stpD))) <;> walk_at "ev"
          · refine ex_if (k := !(busy.filter (pickV S)).isEmpty) ?_ (fun h => ?_) (fun h => ?_)
            · walk_at "ev"
            · rw [if_neg (by intro h2; rw [h2] at h; cases h)]; walk_at "ev"
            · rw [if_pos (by cases h2 : (busy.filter (pickV S)).isEmpty; rw [h2] at h; cases h; rfl)]; walk_at "ev"
          · dsimp only [E94]
            walk_at "nil"
      · split at hz
        · exact (hbz z hz).1
        · exact (hbz z (List.mem_filter.mp hz).1).1
      · split
        · exact hbl
        · exact Nat.le_trans (List.length_filter_le _ _) hbl
    · refine sn_le (c1 := 1 + (0 + 0)) ?_ (Nat.le_refl _) fun _ h => h
      refine sn_if (B := fun _ => True) (c1 := 1) (c2 := 0) (c3 := 0) (O1 := fun o => ∃ zs : List Stp, (∀ z ∈ zs, z ∈ steps ag S) ∧ zs.length ≤ 100000 ∧ o = .nx (E94 a T ag h m Ss (.d (natD k)) (.d (staD S)) (.d (.lst (zs.map stpD))) .u .u)) (nt_le (nt_cmp (c1 := 1) (c2 := 0) (nx_take (many := 3) c76 PR (by omega) (by omega) ?_ ?_ ?_ ?_ ?_ ?_) (nx_ex (d := .int 0) ?_) ?_ ?_) (Nat.le_refl _) fun _ h => h) (fun _ => ?_) (fun _ => ?_) ?_ ?_
      all_goals try walk_at "ev"
      · rintro _ _ ⟨v, rfl, hv⟩ rfl
        exact ⟨_, o_gt, trivial⟩
      · have hnz : ∀ z ∈ (steps ag S).filter (fun z => decide (z.kd ∈ [Kd.load, .store])), z ∈ steps ag S ∧ (z.kd = .load ∨ z.kd = .store) := fun z hz => by
          obtain ⟨h1, h2⟩ := List.mem_filter.mp hz
          have h2 := of_decide_eq_true h2
          simp at h2
          exact ⟨h1, h2⟩
        have hnl : ((steps ag S).filter fun z => decide (z.kd ∈ [Kd.load, .store])).length ≤ 100000 := Nat.le_trans (List.length_filter_le _ _) hsz
        (with_reducible apply sn_pure)
        (with_reducible apply s1_setl) <;> walk_at "ev"
        · (with_reducible apply sl_fil1 [("_law_one", 10)] N94 (defScope (topS 94)) (steps ag S) stpD (fun z => decide (z.kd ∈ [Kd.load, .store]))) <;> walk_at "ev"
          · rw [sizeLine_eq]; omega
          · intro z hz
            have hK := at_kd z
            rw [stpD_k z]
            walk_at "t1"
        generalize (steps ag S).filter (fun z => decide (z.kd ∈ [Kd.load, .store])) = near at hnz hnl
        refine sn_le (sn_sx (o := .nx (E94 a T ag h m Ss (.d (natD k)) (.d (staD S)) (.d (.lst ((if (near.filter (pickN S)).isEmpty then steps ag S else near.filter (pickN S)).map stpD))) .u .u)) ?_ fun _ _ h => nomatch h) (Nat.zero_le _) fun o ho => ⟨_, fun z hz => ?_, ?_, ho⟩
        · walk_at "setl"
          · (with_reducible apply sl_fil1 [("_law_one", 10)] N94 (defScope (topS 94)) near stpD (pickN S)) <;> walk_at "ev"
            · rw [sizeLine_eq]; omega
            · intro z hz
              obtain ⟨h1, h2⟩ := hnz z hz
              have PS := poss_of_steps O h1
              cases z with
              | load t n s =>
                (with_reducible apply turn1)
                case g => walk_at "ev"
                case h => walk_at "ev"
                case m => walk_at "ev"
                refine ab_is' fun _ _ _ _ _ => kx_one (tx_o (ox_orT (k1 := decide (("load" : Str) = "load")) ?_ (by decide)))
                walk_at "ev"
              | store t b s o =>
                have hbl : b < S.cols.length := by rw [O.cl]; exact (hold_ok O t).2 b PS.2.1
                have hsc := at_map (f := colD) (col_at hbl)
                (with_reducible apply turn1)
                case g => walk_at "ev"
                case h => walk_at "ev"
                case m => walk_at "ev"
                refine ab_is' fun _ _ _ _ _ => kx_one (tx_o (ox_orF (k1 := decide (("store" : Str) = "load")) ?_ (by decide +kernel) (k2 := !decide (S.col b = .white)) ?_))
                walk_at "ev"
                walk_at "ev"
              | _ => rcases h2 with h2 | h2 <;> cases h2
          · (with_reducible apply sx_set1 (d := .lst ((if (near.filter (pickN S)).isEmpty then steps ag S else near.filter (pickN S)).map stpD))) <;> walk_at "ev"
            · refine ex_if (k := !(near.filter (pickN S)).isEmpty) ?_ (fun h => ?_) (fun h => ?_)
              · walk_at "ev"
              · rw [if_neg (by intro h2; rw [h2] at h; cases h)]; walk_at "ev"
              · rw [if_pos (by cases h2 : (near.filter (pickN S)).isEmpty; rw [h2] at h; cases h; rfl)]; walk_at "ev"
            · dsimp only [E94]
              walk_at "nil"
        · split at hz
          · exact hz
          · exact (hnz z (List.mem_filter.mp hz).1).1
        · split
          · exact hsz
          · exact Nat.le_trans (List.length_filter_le _ _) hnl
      · refine sn_le (sn_nile (e2 := E94 a T ag h m Ss (.d (natD k)) (.d (staD S)) (.d (.lst ((steps ag S).map stpD))) .u .u) ?_) (Nat.le_refl _) fun o ho => ⟨_, fun z hz => hz, hsz, ho⟩
        dsimp only [E94]
        walk_at "le"
      · rintro e1 h1
        exact sn_le sn_nil (Nat.le_refl _) fun o ho => by rw [ho]; exact h1
      · exact fun o h1 _ => h1
    · rintro _ ⟨zs, hz, hzl, h⟩
      cases h
      dsimp only [E94]
      refine sn_le (c1 := 0 + (0 + (1 + 0))) ?_ (Nat.le_refl _) fun _ h => h
      refine sn_ifret (O2 := fun o => o = .rt (.lst (Ss.map staD))) (c1 := 0) (c2 := 0) (c3 := 1 + 0) (nt_tx (k := zs.isEmpty) ?_) (fun _ => ?_) (fun e1 h => nomatch h) (fun o ho => ?_) fun hb => ?_
      · walk_at "ev"
      · (with_reducible apply sn_reto) <;> walk_at "sy"
      · exact .inr ⟨fun e2 h => (by rw [h] at ho; cases ho), _, ho, Ss, rfl, by omega, hSs⟩
      have hne : 0 < zs.length := by
        cases zs with
        | nil => cases hb
        | cons a l => exact Nat.succ_pos _
      walk_at "napp"
      case h =>
        refine' nx_callP (c := 1) (OL := fun ds => ∃ st ∈ steps ag S, ds = [.tup (T.map mkD), staD S, stpD st]) (O := fun d => ∃ st ∈ steps ag S, d = staD (next T S st)) c84 ?_ (na_cons (c1 := 0) (c2 := 1) (nx_ex (d := .tup (T.map mkD)) ?_) (na_cons (c1 := 0) (c2 := 1) (OL' := fun ds => ∃ st ∈ steps ag S, ds = [staD S, stpD st]) (nx_ex (d := staD S) ?_) (na_cons (c1 := 1) (c2 := 0) (OL' := fun ds => ∃ st ∈ steps ag S, ds = [stpD st]) (nx_of (dd := .lst (zs.map stpD)) ?_ PR sq_l (by rw [List.length_map]; exact hne) (by rw [List.length_map]; omega) ?_ ?_ ?_ ?_ ?_ ?_) na_nil ?_ ?_) ?_ ?_) ?_ ?_) ?_ ?_ ?_ ?_ ?_
        all_goals try walk_at "ev"
        · rintro d _ hd rfl
          obtain ⟨st, hst, rfl⟩ := List.mem_map.mp hd
          exact ⟨st, hz st hst, rfl⟩
        · rintro _ _ rfl ⟨st, hst, rfl⟩
          exact ⟨st, hst, rfl⟩
        · rintro _ _ rfl ⟨st, hst, rfl⟩
          exact ⟨st, hst, rfl⟩
        · rintro _ ⟨st, hst, rfl⟩
          exact ⟨_, ⟨T, S, st, hT, O, good_of_poss O (poss_of_steps O hst), rfl, rfl⟩, st, hst, rfl⟩
      case hz => rw [List.length_map, sizeLine_eq]; omega
      rintro _ ⟨st, hst, rfl⟩
      walk_at "gsn"
      refine sn_le (sn_nile (e2 := E94 a T ag h m (Ss ++ [next T S st]) .u .u .u .u .u) ?_) (Nat.le_refl _) fun o ho => .inl ⟨_, ho, Ss ++ [next T S st], by rw [List.length_append, hl]; rfl, fun S' hS' => ?_, rfl⟩
      · dsimp only [E94]
        rw [List.map_append]; walk_at "le"
        rfl
      · rcases List.mem_append.mp hS' with q | q
        · exact hSs S' q
        · rw [List.mem_singleton.mp q]; exact .step hRun hst
    · rintro _ ⟨zs, hz, hzl, rfl⟩ hn
      exact absurd rfl (hn _)
  · rintro _ _ rfl ⟨Ss, hl, hSs, rfl⟩
    refine' sn_le (c1 := 0) (O := fun o => o = .rt (.lst (Ss.map staD))) ?_ (Nat.le_refl _) fun o ho => ⟨_, ho, Ss, rfl, by rw [List.length_map, List.length_range] at hl; omega, hSs⟩
    dsimp only [E94]
    (with_reducible apply sn_reto) <;> walk_at "sy"
  · walk_at "sy"
  · exact PassesOwn.never
end
set_option maxRecDepth 100000
set_option maxHeartbeats 4000000
theorem sl2c {X : Cx} {elt tg iter tg1 iter1 : Expr} {scope : Scope} {r rw_ : Rho} {pos : Pos} {y : Str} {py spos : Pos} {α β : Type} (own : List (Str × Nat)) (vs1 : List Nat) (N : List Str) (sc : Scope) (zs : List α) (f : α → D) (us : α → List β) (f1 : α → β → D) (g : α → β → D) (hi : IX X tg iter r (zs.map f)) (hN : X.N = N) (hsc : X.env.scope = sc) (hb : blkC N sc scope own = true) (hlv : LeV (relabel scope X.env) r rw_)
    (how : ∀ i ∈ own.map (·.2), ∃ n, rw_[i]? = some (n, none)) (hs : ∀ x, foldedSetIterable iter X.env x = pure x) (hv1 : ∀ i ∈ vs1, i ∈ own.map (·.2)) (hs1 : ∀ env x, foldedSetIterable iter1 env x = pure x) (hyl : X.env.scope.names.lookup y = some .local)
    (hsw : swapsWith (.ListComp elt [⟨tg, iter, [], 0⟩, ⟨tg1, iter1, [], 0⟩] scope pos) (some (.Name y py)) spos.line X.env = pure true) (hz : (zs.flatMap us).length < sizeLine)
    (body : ∀ z ∈ zs, Turn2 X elt tg tg1 iter1 scope own vs1 rw_ (f z) (us z) (f1 z) (g z)) : SLX X y py (.ListComp elt [⟨tg, iter, [], 0⟩, ⟨tg1, iter1, [], 0⟩] scope pos) spos r (zs.flatMap fun z => (us z).map (g z)) :=
  slx_lc2 (lcx2 zs f us f1 g own vs1 hi hN hsc hb hv1 hlv how hz body) hs hs1 hyl hsw
/-! ### a def with a star parameter alone -/
structure CalR (P : Program) (w : World) (K : PySem.W.Frag) (mg : Str → Option Value) (base : Heap) (k : Nat) (x : Str) (sp : Sp) : Prop where
  ex : ∃ f : Addr, FnR P w K mg base CX0 k f sp ∧ mg x = some (.ref f) ∧ PySem.W.keepIn K (.ref f) = true
section
variable {X : Cx} {e : Expr} {es : List Expr} {x : Str} {r : Rho} {d : D} {ds : List D} {p pos : Pos} {k : Nat}
theorem ex_callR {pre : List D → D → Prop} (c : CalR X.prog X.w X.K X.mg X.base k x (spD X.K pre)) (hr : Room k X.A) (ha : AX X (e :: es) r ds) (hp : pre ds d) (hg : Gl X x) (hdb : (x == ("__debug__" : Str)) = false)
    (he : starEach (e :: es) X.env = (false, eval e X.env) :: starEach es X.env) (hpl : (backTo pos (starEach es X.env)).any (·.1) = false) : EX X (.Call (.Name x p) (e :: es) [] pos) r d := by
  constructor
  intro C L σ H Q dm I q
  obtain ⟨f, F, hm, hk⟩ := c.ex
  have pe : PE X (.Call (.Name x p) (e :: es) [] pos) (fun σ H Q => WA X (e :: es) σ H fun vs H1 => spD X.K pre vs H1 Q (fun _ _ _ => False)) := by
    refine ⟨fun pins s σ H Q I h => ?_⟩
    refine wpAny_Call_Name_kw (ld_glob I hg hm ?_ hdb)
    refine PySem.W.callWith_K (h₀ := X.base) I.ok.mod.kin hk (thn ((pa_w X (e :: es)).run pos pins s σ H _ I h) fun us s1 ⟨vs, H1, I1, r, q⟩ => ⟨I1.kIn, ?_⟩) he hpl
    exact wpAny_call (run_fnR F hr pass0 I1 r q)
  refine we_of pe ?_
  refine ha C L σ H _ dm I fun vs H1 s1 i1 => ?_
  exact ⟨L, ds, d, hp, dm.mono s1, i1, fun v H2 s2 i2 => q v H2 (s1.trans s2) i2⟩
end
section
variable {P : Program} {w : World} {K : PySem.W.Frag} {mg : Str → Option Value} {base : Heap} {k : Nat} {f : Addr} {fd : FuncData}
@[reducible] def N22 : List Str := ["tables", "marks", "own", "rescans", "mark"]
theorem sc22 : Sc N22 ["tables"] (topS 22) := ⟨⟨rfl, rfl, rfl, by decide +kernel, rfl, by decide +kernel, by decide +kernel⟩, by decide +kernel⟩
def pre22 (ds : List D) (d : D) : Prop := ∃ (T1 T2 : List Mk) (b1 b2 : Bool), T1.length + T2.length < 64 ∧ ds = [tabD T1 b1, tabD T2 b2] ∧ d = tabD (setM (T1 ++ T2)) (b1 || b2)
theorem body22 (m1 : mg "sorted" = none) (m2 : mg "set" = none) (m3 : mg "tuple" = none) (m4 : mg "any" = none) (cdv : Value) (A : Around) (outer : List Env) (s : Shared) (H : Hp) (E : XK) (hr : Room k (A.deeper (envOfC "joined" (defScope (topS 22)) s.heap.objs.size f cdv))) (T1 T2 : List Mk) (b1 b2 : Bool) (hl : T1.length + T2.length < 64) :
    SX (Bdy P w K mg base N22 "joined" (defScope (topS 22)) f cdv A outer s H E) (defBody (topS 22)) (st0 N22 [.tup [tabD T1 b1, tabD T2 b2]]) (.rt (tabD (setM (T1 ++ T2)) (b1 || b2))) := by
  walk_at "go"
  show SX _ _ [("tables", .d (.tup ([(T1, b1), (T2, b2)].map fun t : List Mk × Bool => tabD t.1 t.2))), ("marks", .u), ("own", .u), ("rescans", .u), ("mark", .u)] _
  have e1 : ([(T1, b1), (T2, b2)].flatMap fun t : List Mk × Bool => t.1.map mkD) = (T1 ++ T2).map mkD := by
    rw [List.map_append]
    simp [List.flatMap_cons]
  walk_at "setl"
  · (with_reducible apply sl2c [("own", 2), ("rescans", 3), ("mark", 4)] [4] N22 (defScope (topS 22)) [(T1, b1), (T2, b2)] (fun t : List Mk × Bool => tabD t.1 t.2) (fun t => t.1) (fun t m => mkD m) (fun t m => mkD m)) <;> walk_at "ev"
    · intro _ _; rfl
    · rw [sizeLine_eq]
      simp
      omega
    · intro z hz
      walk_at "t2"
      intro m hm
      walk_at "i2"
  rw [e1, show (b1 || b2) = [b1, b2].any id by cases b1 <;> cases b2 <;> rfl]
  (with_reducible apply sx_ret)
  (with_reducible apply ex_tup)
  · (with_reducible apply ax_cons)
    · (with_reducible apply ex_tuple)
      case ha =>
        refine ax_cons (ex_of_fx (fx_setM (ms := T1 ++ T2) ?_ (by rw [List.length_append]; exact hl) (ru hr) ?_ m1 ?_ m2 ?_ ?_)) ax_nil ?_
        all_goals walk_at "ev"
      all_goals walk_at "ev"
    · (with_reducible apply ax_cons)
      · (with_reducible apply ex_any)
        case ha =>
          refine ax_cons (ex_of_fx (fx_is (ds := ([(T1, b1), (T2, b2)].map fun t => t.2).map D.bl) ?_ (ds' := [b1, b2].map D.bl) rfl)) ax_nil ?_
          · (with_reducible apply lc_mapc [("own", 2), ("rescans", 3)] N22 (defScope (topS 22)) [(T1, b1), (T2, b2)] (fun t : List Mk × Bool => tabD t.1 t.2) D.bl (fun t => t.2)) <;> walk_at "ev"
            intro z hz
            walk_at "t1"
          all_goals walk_at "ev"
        case hc => exact c_any rfl
        all_goals walk_at "ev"
      · exact ax_nil
      · walk_at "ev"
    · walk_at "ev"
  · rw [sizeLine_eq]; exact Nat.le_of_ble_eq_true rfl
theorem ok22 (F : Fun K "joined" "joined" (topS 22) f fd) (m1 : mg "sorted" = none) (m2 : mg "set" = none) (m3 : mg "tuple" = none) (m4 : mg "any" = none) : FnR P w K mg base CX0 (k + 1) f (spD K pre22) := by
  obtain ⟨oc, od, kV, doc, pm, an, cdv, ct, osl, rfl, lk, hcd⟩ := F.ex
  have h := StX.fn_star (CX := CX0) (P := P) (w := w) (mg := mg) (base := base) (k := k) (ps := []) (pv := "tables") (N := N22) (sp := spD K fun ds d => ∃ (T1 T2 : List Mk) (b1 b2 : Bool), T1.length + T2.length < 64 ∧ ds = [.tup [tabD T1 b1, tabD T2 b2]] ∧ d = tabD (setM (T1 ++ T2)) (b1 || b2)) lk hcd sc22.fn StX.cxUp_none (fun us rest hu => ?_) fun A outer s H vs Q E hr hsp => ?_
  · intro A outer s H us vs Q E hr e0 r hsp
    refine h A outer s H us vs Q E hr e0 r ?_
    obtain ⟨L, ds, d, ⟨T1, T2, b1, b2, hl, hds, hd⟩, dm, i, q⟩ := hsp
    subst hds
    refine ⟨[], vs, rfl, rfl, by rw [i.length, sizeLine_eq]; exact Nat.le_of_ble_eq_true rfl, fun p hp => ?_⟩
    have s2 : Same H (upd H p (.tup vs)) := same_new hp
    refine ⟨L, _, d, ⟨T1, T2, b1, b2, hl, rfl, hd⟩, dm.mono s2, .cons (.tup (.inl (.inl (is_new (K := K) dm hp))) (i.mono (hid_mono s2))) .nil, fun v H' s3 i3 => q v H' (s2.trans s3) i3⟩
  · match us, rest, hu with
    | [], [], _ => rfl
    | [], r :: rs, _ => rfl
  · obtain ⟨L, ds, d, ⟨T1, T2, b1, b2, hl, hds, hd⟩, dm, i, q⟩ := hsp
    subst hds hd
    have b := body22 (P := P) (w := w) (K := K) (mg := mg) (base := base) (f := f) m1 m2 m3 m4 cdv A outer s H E hr T1 T2 b1 b2 hl
    rw [← start_st0] at b
    refine ⟨WS (Bdy P w K mg base N22 "joined" (defScope (topS 22)) f cdv A outer s H E) (defBody (topS 22)), (pss_w _ _).nox, ?_⟩
    exact (b (cxn_start sc22.fn rfl sc22.dbg)).2 L [] _ H _ dm List.nodup_nil (fun a ha => by simp at ha) (ow_start (N := N22) (K := K) (H := H) i (Nat.le_of_ble_eq_true rfl)) fun v H' f i => q v H' (fun a o h => f a o (by simp) h) i
end
set_option maxRecDepth 100000
set_option maxHeartbeats 4000000
section
variable {P : Program} {w : World} {K : PySem.W.Frag} {mg : Str → Option Value} {base : Heap} {k : Nat} {f : Addr} {fd : FuncData}
@[reducible] def N72 : List Str := ["gaps", "found", "gap", "some"]
theorem sc72 : Sc N72 ["gaps"] (topS 72) := ⟨⟨rfl, rfl, rfl, by decide +kernel, rfl, by decide +kernel, by decide +kernel⟩, by decide +kernel⟩
@[reducible] def gsD (l : List Gap) : D := .lst (l.map gapD)
def choicesF (gs : List Gap) : List (List Gap) := gs.foldl (fun found g => found ++ found.map fun l => l ++ [g]) [[]]
theorem choicesF_snoc (gs : List Gap) (g : Gap) : choicesF (gs ++ [g]) = choicesF gs ++ (choicesF gs).map fun l => l ++ [g] := by
  unfold choicesF; rw [List.foldl_append]; rfl
def pre72 (ds : List D) (d : D) : Prop := ∃ gs : List Gap, gs.length ≤ 9 ∧ ds = [.lst (gs.map gapD)] ∧ d = .lst ((choicesF gs).map gsD)
theorem choicesF_take {gs : List Gap} {i : Nat} {g : Gap} (h : gs[i]? = some g) : choicesF (gs.take (i + 1)) = choicesF (gs.take i) ++ (choicesF (gs.take i)).map fun l => l ++ [g] := by
  rw [List.take_add_one, h]; exact choicesF_snoc _ g
theorem choicesF_mem : ∀ (gs : List Gap) (i : Nat), i ≤ gs.length → ∀ l ∈ choicesF (gs.take i), l.length ≤ i ∧ ∀ g ∈ l, g ∈ gs
  | gs, 0, _ => fun l h => by
    have : l = [] := by simpa [choicesF] using h
    rw [this]; exact ⟨Nat.le_refl _, fun g h => by simp at h⟩
  | gs, i + 1, hi => fun l h => by
    have hg : gs[i]? = some gs[i] := List.getElem?_eq_getElem hi
    rw [choicesF_take hg] at h
    rcases List.mem_append.mp h with h | h
    · have := choicesF_mem gs i (by omega) l h
      exact ⟨by omega, this.2⟩
    · obtain ⟨l', h', rfl⟩ := List.mem_map.mp h
      have := choicesF_mem gs i (by omega) l' h'
      refine ⟨by rw [List.length_append]; exact Nat.succ_le_succ this.1, fun g hg => ?_⟩
      rcases List.mem_append.mp hg with q | q
      · exact this.2 g q
      · rw [List.mem_singleton.mp q]; exact List.getElem_mem hi
theorem choicesF_len : ∀ (gs : List Gap) (i : Nat), i ≤ gs.length → (choicesF (gs.take i)).length = 2 ^ i
  | gs, 0, _ => rfl
  | gs, i + 1, hi => by
    have hg : gs[i]? = some gs[i] := List.getElem?_eq_getElem hi
    rw [choicesF_take hg, List.length_append, List.length_map, choicesF_len gs i (by omega), Nat.pow_succ]; omega
theorem ok72 (F : Fun K "choices" "choices" (topS 72) f fd) : FnOk P w K mg base CX0 (k + 1) f fd ["gaps"] (spD K pre72) := by
  refine def_d F sc72 (fun ds d ⟨_, _, h, _⟩ => by rw [h]; rfl) fun cdv A outer s H E hr ds d ⟨gs, hl, h, hd⟩ => ?_
  subst h hd
  walk_at "go"
  have e0 : (choicesF []).map gsD = [D.lst []] := rfl
  (with_reducible apply sx_setl (ds := (choicesF []).map gsD)) <;> walk_at "ev"
  · rw [e0]; walk_at "ev"
  refine sx_pre (sx_forc gs gapD (fun i => [("gaps", .d (.lst (gs.map gapD))), ("found", .d (.lst ((choicesF (gs.take i)).map gsD))), ("gap", .u), ("some", .u)]) ?_ ?_ ?_ ?_ ?_) ?_
  · walk_at "ev"
  · intro i g hg
    have hi := (List.getElem?_eq_some_iff.mp hg).1
    have hm := choicesF_mem gs i (by omega)
    have hcl := choicesF_len gs i (by omega)
    have hp : 2 ^ i ≤ 2 ^ 9 := Nat.pow_le_pow_right (by decide) (by omega)
    rw [choicesF_take hg, List.map_append]
    walk_at "turn"
    (with_reducible apply sx_setl) <;> walk_at "ev"
    · (with_reducible apply lc_mapc [("some", 3)] N72 (defScope (topS 72)) (choicesF (gs.take i)) gsD gsD (fun l => l ++ [g])) <;> walk_at "ev"
      · rw [hcl, sizeLine_eq]; omega
      · intro l hl2
        have := (hm l hl2).1
        rw [show gsD (l ++ [g]) = .lst (l.map gapD ++ [gapD g]) by show D.lst _ = _; rw [List.map_append]; rfl]
        walk_at "t1"
        rw [List.length_map, List.length_cons, List.length_nil, sizeLine_eq]; omega
    · rw [List.length_map, List.length_map, List.length_map, hcl, sizeLine_eq]; omega
    · walk_at "nil"
  · rw [List.take_length]
    walk_at "ret"
    rfl
  · walk_at "sy"
  · exact PassesOwn.never
  · walk_at "le"
    rfl
end
set_option maxRecDepth 100000
set_option maxHeartbeats 4000000
section
variable {P : Program} {w : World} {K : PySem.W.Frag} {mg : Str → Option Value} {base : Heap} {k : Nat} {f : Addr} {fd : FuncData}
@[reducible] def N90 : List Str := ["_law_found", "_law_colour_here", "_law_thread", "_law_was", "_law_box", "_law_some", "_law_now", "_law_who"]
theorem sc90 : Sc N90 [] (topS 90) := ⟨⟨rfl, rfl, rfl, by decide +kernel, rfl, by decide +kernel, by decide +kernel⟩, by decide +kernel⟩
abbrev was4 : List (Option Col) := [some .black, some .grey, none, some .white]
abbrev box2 : List Col := [.grey, .white]
abbrev th2 : List Bool := [true, false]
def gCol (c : Col) : Str × List (List Mk) := (("l" : Str) ++ colS c, [[Mk.load true c]])
def gSt (s : Bool) (o : Option Col) : Str × List (List Mk) := (phS s ++ ocolS o, [[Mk.store s .black o (some .white) .holder, Mk.store s .black o (some .white) .new]])
def gBox (b : Col) : Str × List (List Mk) := (("c" : Str) ++ colS b, th2.flatMap fun s => was4.map fun n => [Mk.store s b (some .white) n .old])
/-- the groups of marks that matter, by name -/
def groupsL : List (Str × List (List Mk)) := (("n" : Str), [[Mk.new true]]) :: cols3.map gCol ++ (th2.flatMap fun s => was4.map fun o => gSt s o) ++ box2.map gBox
def grpK (p : Str × List (List Mk)) : Key := .inr p.1
@[reducible] def mksL (l : List Mk) : D := .lst (l.map mkD)
@[reducible] def grpD (p : Str × List (List Mk)) : D := .lst (p.2.map mksL)
theorem groups_nd : (groupsL.map grpK).Nodup := by decide +kernel
theorem groups_fresh {m : Nat} {p : Str × List (List Mk)} (h : groupsL[m]? = some p) : grpK p ∉ (groupsL.take m).map grpK := fun z => by
  have hn := groups_nd
  have hm := (List.getElem?_eq_some_iff.mp h).1
  rw [← List.take_append_drop m groupsL, List.map_append, List.nodup_append] at hn
  refine hn.2.2 _ z _ (List.mem_map_of_mem (f := grpK) ?_) rfl
  rw [List.mem_iff_getElem?]
  exact ⟨0, by rw [List.getElem?_drop]; exact h⟩
theorem groups_put {m : Nat} {p : Str × List (List Mk)} (h : groupsL[m]? = some p) : (groupsL.take m).map grpK ++ [grpK p] = (groupsL.take (m + 1)).map grpK ∧ (groupsL.take m).map grpD ++ [grpD p] = (groupsL.take (m + 1)).map grpD := by
  rw [List.take_add_one, h, List.map_append, List.map_append]
  exact ⟨rfl, rfl⟩
theorem groups_col {i : Nat} {c : Col} (h : cols3[i]? = some c) : groupsL[1 + i]? = some (gCol c) := by
  match i, h with
  | 0, h => cases h; rfl
  | 1, h => cases h; rfl
  | 2, h => cases h; rfl
  | n + 3, h => cases h
theorem groups_st {i j : Nat} {s : Bool} {o : Option Col} (h : th2[i]? = some s) (g : was4[j]? = some o) : groupsL[4 + 4 * i + j]? = some (gSt s o) := by
  match i, h with
  | 0, h =>
    cases h
    match j, g with
    | 0, g => cases g; rfl
    | 1, g => cases g; rfl
    | 2, g => cases g; rfl
    | 3, g => cases g; rfl
    | n + 4, g => cases g
  | 1, h =>
    cases h
    match j, g with
    | 0, g => cases g; rfl
    | 1, g => cases g; rfl
    | 2, g => cases g; rfl
    | 3, g => cases g; rfl
    | n + 4, g => cases g
  | n + 2, h => cases h
theorem groups_box {i : Nat} {b : Col} (h : box2[i]? = some b) : groupsL[12 + i]? = some (gBox b) := by
  match i, h with
  | 0, h => cases h; rfl
  | 1, h => cases h; rfl
  | n + 2, h => cases h
@[reducible] def E90 (m : Nat) (a b c d : Ev) : Env' := [("_law_found", .k ((groupsL.take m).map grpK) ((groupsL.take m).map grpD)), ("_law_colour_here", .u), ("_law_thread", a), ("_law_was", b), ("_law_box", c), ("_law_some", d), ("_law_now", .u), ("_law_who", .u)]
def pre90 (ds : List D) (ks : List Key) (es : List D) : Prop := ds = [] ∧ ks = groupsL.map grpK ∧ es = groupsL.map grpD
theorem ok90 (F : Fun K "_law_groups" "_law_groups" (topS 90) f fd) : FnOk P w K mg base CX0 (k + 1) f fd [] (spK K pre90) := by
  refine def_k F sc90 (fun ds ks d ⟨h, _⟩ => by rw [h]; rfl) fun cdv A outer s H E hr ds ks d ⟨h, hk, hd⟩ => ?_
  subst h hk hd
  walk_at "go"
  have hu : (A.deeper (envOfC "_law_groups" (defScope (topS 90)) s.heap.objs.size f cdv)).units + 65 < cLine := ru hr
  refine sx_setk (e' := E90 1 .u .u .u .u) (i := 0) (fk_one (s := "n") (d := .lst [.lst [.tup [.str "new", .str "scanned"]]]) ?_ ?_) .here ?_ ?_ ?_ ?_
  iterate 5 walk_at "ev"
  refine sx_pre (sx_forc cols3 colD (fun i => E90 (1 + i) .u .u .u .u) ?_ ?_ ?_ ?_ ?_) ?_
  · walk_at "ev"
  · intro i c hc
    have hg := groups_col hc
    have hf := groups_fresh hg
    obtain ⟨g1, g2⟩ := groups_put hg
    have hl : ((groupsL.take (1 + i)).map grpK).length ≤ 16 := by rw [List.length_map]; exact Nat.le_trans (List.length_take_le' ..) (by decide)
    have hc2 : (colS c).length ≤ 100 := by cases c <;> decide +kernel
    dsimp only [E90]
    walk_at "turn"
    refine sx_kput (s := "l" ++ colS c) (d := .lst [.lst [.tup [.str "load", .str "scanned", .str (colS c)]]]) .here ?_ ?_ hf ?_ (Nat.lt_of_le_of_lt (Nat.add_le_add_left (by decide : 1 ≤ 65) _) hu) ?_ ?_ ?_ ?_ ?_ ?_
    all_goals try walk_at "ev"
    · rw [sizeLine_eq, show ("l" : Str).length = 1 from rfl]; omega
    · rw [sizeLine_eq]; omega
    · (with_reducible apply sx_nile)
      exact .eqk g1 g2 (by walk_at "le")
  · refine sx_pre (sx_forc th2 phD (fun i => E90 (4 + 4 * i) .u .u .u .u) ?_ ?_ ?_ ?_ ?_) ?_
    · walk_at "ev"
    · intro i s hs
      dsimp only [E90]
      walk_at "turn"
      refine sx_pre (sx_forc was4 ocolD (fun j => E90 (4 + 4 * i + j) (.d (phD s)) .u .u .u) ?_ ?_ ?_ ?_ ?_) ?_
      · walk_at "ev"
      · intro j o ho
        have hg := groups_st hs ho
        have hf := groups_fresh hg
        obtain ⟨g1, g2⟩ := groups_put hg
        have hl : ((groupsL.take (4 + 4 * i + j)).map grpK).length ≤ 16 := by rw [List.length_map]; exact Nat.le_trans (List.length_take_le' ..) (by decide)
        have hc2 : (phS s).length ≤ 100 := by cases s <;> decide +kernel
        have hc3 : (ocolS o).length ≤ 100 := by
          cases o with
          | none => decide +kernel
          | some c => cases c <;> decide +kernel
        dsimp only [E90]
        walk_at "turn"
        refine sx_kput (s := phS s ++ ocolS o) (d := .lst [.lst ([Who.holder, .new].map fun x => .tup [.str "store", phD s, .str "black", ocolD o, .str "white", whoD x])]) .here ?_ ?_ hf ?_ (Nat.lt_of_le_of_lt (Nat.add_le_add_left (by decide : 1 ≤ 65) _) hu) ?_ ?_ ?_ ?_ ?_ ?_
        all_goals try walk_at "ev"
        · refine fx_is (ds := ([Who.holder, .new].map fun x => x).map fun x => .tup [.str "store", phD s, .str "black", ocolD o, .str "white", whoD x]) ?_ rfl
          (with_reducible apply lc_mapc [("_law_who", 7)] N90 (defScope (topS 90)) [Who.holder, .new] whoD (fun x => .tup [.str "store", phD s, .str "black", ocolD o, .str "white", whoD x]) (fun x => x)) <;> walk_at "ev"
          intro x hx
          walk_at "t1"
        · rw [sizeLine_eq]; omega
        · rw [sizeLine_eq]; omega
        · (with_reducible apply sx_nile)
          exact .eqk g1 g2 (by walk_at "le")
      · (with_reducible apply sx_nile)
        dsimp only [E90]
        rw [show 4 + 4 * i + was4.length = 4 + 4 * (i + 1) from rfl]
        walk_at "le"
      · walk_at "sy"
      · exact PassesOwn.never
      · walk_at "le"
        all_goals rfl
    · refine sx_pre (sx_forc box2 colD (fun i => E90 (12 + i) .u .u .u .u) ?_ ?_ ?_ ?_ ?_) ?_
      · walk_at "ev"
      · intro i b hb
        have hg := groups_box hb
        have hf := groups_fresh hg
        obtain ⟨g1, g2⟩ := groups_put hg
        have hl : ((groupsL.take (12 + i)).map grpK).length ≤ 16 := by rw [List.length_map]; exact Nat.le_trans (List.length_take_le' ..) (by decide)
        have hc2 : (colS b).length ≤ 100 := by cases b <;> decide +kernel
        dsimp only [E90]
        walk_at "turn"
        walk_at "seto"
        refine sx_pre (sx_forc th2 phD (fun i' => [("_law_found", .k ((groupsL.take (12 + i)).map grpK) ((groupsL.take (12 + i)).map grpD)), ("_law_colour_here", .u), ("_law_thread", .u), ("_law_was", .u), ("_law_box", .d (colD b)), ("_law_some", .o (((th2.take i').flatMap fun s => was4.map fun n => [Mk.store s b (some .white) n .old]).map mksL)), ("_law_now", .u), ("_law_who", .u)]) ?_ ?_ ?_ ?_ ?_) ?_
        · walk_at "ev"
        · intro i' s hs
          walk_at "turn"
          refine sx_pre (sx_forc was4 ocolD (fun j => [("_law_found", .k ((groupsL.take (12 + i)).map grpK) ((groupsL.take (12 + i)).map grpD)), ("_law_colour_here", .u), ("_law_thread", .d (phD s)), ("_law_was", .u), ("_law_box", .d (colD b)), ("_law_some", .o ((((th2.take i').flatMap fun s => was4.map fun n => [Mk.store s b (some .white) n .old]) ++ (was4.take j).map fun n => [Mk.store s b (some .white) n .old]).map mksL)), ("_law_now", .u), ("_law_who", .u)]) ?_ ?_ ?_ ?_ ?_) ?_
          · walk_at "ev"
          · intro j n hn
            walk_at "turn"
            walk_at "app1"
            · have h1 := take_flat_len (F := fun s => was4.map fun n => [Mk.store s b (some .white) n .old]) (c := 4) (fun s => by simp) th2 i'
              have h2 : (was4.take j).length ≤ 4 := List.length_take_le' ..
              rw [List.length_map, List.length_append, List.length_map, sizeLine_eq]
              simp only [List.length_cons, List.length_nil] at h1
              omega
            · (with_reducible apply sx_nile)
              refine .same (.u (.same (.u (.same (.eqo ?_ (by walk_at "le"))))))
              rw [List.take_add_one, hn, List.map_append, List.map_append, List.map_append, List.map_append, List.append_assoc]
              rfl
          · (with_reducible apply sx_nile)
            refine .same (.same (.u (.same (.same (.eqo ?_ (by walk_at "le"))))))
            rw [List.take_add_one, hs, List.flatMap_append]
            rfl
          · walk_at "sy"
          · exact PassesOwn.never
          · walk_at "le"
            rw [List.take_zero, List.map_nil, List.append_nil]
        · have hs2 : (Ev.o (((th2.take th2.length).flatMap fun s => was4.map fun n => [Mk.store s b (some .white) n .old]).map mksL)) = Ev.o ((gBox b).2.map mksL) := rfl
          rw [hs2]
          refine sx_frz (x := "_law_some") (by walk_at "lz") ?_
          refine sx_kput (s := "c" ++ colS b) (d := grpD (gBox b)) .here ?_ ?_ hf ?_ (Nat.lt_of_le_of_lt (Nat.add_le_add_left (by decide : 1 ≤ 65) _) hu) ?_ ?_ ?_ ?_ ?_ ?_
          all_goals try walk_at "ev"
          · rw [sizeLine_eq, show ("c" : Str).length = 1 from rfl]; omega
          · rw [sizeLine_eq]; omega
          · (with_reducible apply sx_nile)
            exact .eqk g1 g2 (by walk_at "le")
        · walk_at "sy"
        · exact PassesOwn.never
        · walk_at "le"
          all_goals rfl
      · refine sx_one (s1_retko (i := 0) ?_)
        exact .here
      · walk_at "sy"
      · exact PassesOwn.never
      · walk_at "le"
        all_goals rfl
    · walk_at "sy"
    · exact PassesOwn.never
    · walk_at "le"
      all_goals rfl
  · walk_at "sy"
  · exact PassesOwn.never
  · walk_at "le"
    all_goals rfl
end
set_option maxRecDepth 100000
set_option maxHeartbeats 4000000
section
variable {P : Program} {w : World} {K : PySem.W.Frag} {mg : Str → Option Value} {base : Heap} {k : Nat} {f : Addr} {fd : FuncData}
@[reducible] def N91 : List Str := ["_law_found", "_law_thread", "_law_box", "_law_was", "_law_now", "_law_some", "_law_colour_here", "_law_who"]
theorem sc91 : Sc N91 [] (topS 91) := ⟨⟨rfl, rfl, rfl, by decide +kernel, rfl, by decide +kernel, by decide +kernel⟩, by decide +kernel⟩
def whosAt (h : Col) (o n : Option Col) : List Who := (if (!decide (h = .grey)) = true then [Who.holder] else []) ++ (if decide (n = some Col.white) = true then [Who.new] else []) ++ (if decide (o = some Col.white) = true then [Who.old] else [])
def lm4 (s : Bool) (h : Col) (o n : Option Col) : List Mk := (whosAt h o n).map fun w => Mk.store s h o n w
def lm3 (s : Bool) (h : Col) (o : Option Col) : List Mk := was4.flatMap fun n => lm4 s h o n
def lm2 (s : Bool) (h : Col) : List Mk := was4.flatMap fun o => lm3 s h o
def lm1 (s : Bool) : List Mk := [Mk.new s] ++ cols3.map (fun c => Mk.load s c) ++ cols3.flatMap fun h => lm2 s h
def lawMs : List Mk := sortM (th2.flatMap lm1)
theorem whos_len (h : Col) (o n : Option Col) : (whosAt h o n).length ≤ 3 := by
  unfold whosAt
  rw [List.length_append, List.length_append]
  have a := if_len (!decide (h = .grey)) Who.holder
  have b := if_len (decide (n = some Col.white)) Who.new
  have c := if_len (decide (o = some Col.white)) Who.old
  omega
theorem lm4_len (s : Bool) (h : Col) (o n : Option Col) : (lm4 s h o n).length ≤ 3 := by unfold lm4; rw [List.length_map]; exact whos_len h o n
theorem lm3_len (s : Bool) (h : Col) (o : Option Col) : (lm3 s h o).length ≤ 12 := flat_len' (fun n => lm4_len s h o n) was4
theorem lm2_len (s : Bool) (h : Col) : (lm2 s h).length ≤ 48 := flat_len' (fun n => lm3_len s h n) was4
theorem lm1_len (s : Bool) : (lm1 s).length ≤ 148 := by
  unfold lm1
  rw [List.length_append, List.length_append, List.length_map]
  have : (cols3.flatMap fun h => lm2 s h).length ≤ _ := flat_len' (fun n => lm2_len s n) cols3
  simp only [List.length_cons, List.length_nil] at this ⊢
  omega
theorem ocol_white (n : Option Col) : decide (ocolS n = ("white" : Str)) = decide (n = some Col.white) := by
  cases n with
  | none => decide +kernel
  | some c => cases c <;> decide +kernel
theorem whos1 (h : Col) (n : Option Col) : (if (!decide (h = .grey)) = true then [D.str "holder"] else []) ++ (if decide (ocolS n = ("white" : Str)) = true then [D.str "new"] else []) = ((if (!decide (h = .grey)) = true then [Who.holder] else []) ++ (if decide (n = some Col.white) = true then [Who.new] else [])).map whoD := by
  rw [ocol_white, List.map_append, map_if, map_if]; rfl
theorem whos2 (h : Col) (o n : Option Col) : ((if (!decide (h = .grey)) = true then [Who.holder] else []) ++ (if decide (n = some Col.white) = true then [Who.new] else [])).map whoD ++ (if decide (ocolS o = ("white" : Str)) = true then [D.str "old"] else []) = (whosAt h o n).map whoD := by
  unfold whosAt
  rw [ocol_white, List.map_append (l₂ := if decide (o = some Col.white) = true then [Who.old] else []), map_if _ (decide (o = some Col.white))]; rfl
def pre91 (ds : List D) (d : D) : Prop := ds = [] ∧ d = .lst (lawMs.map mkD)
theorem ok91 (F : Fun K "_law_marks" "_law_marks" (topS 91) f fd) (m1 : mg "sorted" = none) (m2 : mg "int" = none) : FnOk P w K mg base CX0 (k + 1) f fd [] (spD K pre91) := by
  refine def_d F sc91 (fun ds d ⟨h, _⟩ => by rw [h]; rfl) fun cdv A outer s0 H E hr ds d ⟨h, hd⟩ => ?_
  subst h hd
  walk_at "go"
  walk_at "seto1"
  have l1 := fun i => take_flat_len lm1_len th2 i
  refine sx_pre (sx_forc th2 phD (fun i => [("_law_found", .o (((th2.take i).flatMap lm1).map mkD)), ("_law_thread", .u), ("_law_box", .u), ("_law_was", .u), ("_law_now", .u), ("_law_some", .u), ("_law_colour_here", .u), ("_law_who", .u)]) ?_ ?_ ?_ ?_ ?_) ?_
  · walk_at "ev"
  · intro i s hs
    have l1' := l1 i
    have l2 := fun j => take_flat_len (lm2_len s) cols3 j
    walk_at "turn"
    walk_at "app1"
    · rw [List.length_map, sizeLine_eq]; simp only [List.length_cons, List.length_nil] at l1'; omega
    (with_reducible apply sx_extend (es := (cols3.map fun c => Mk.load s c).map mkD)) <;> walk_at "ev"
    · refine fx_is (ds := (cols3.map fun c => c).map fun c => .tup [.str "load", phD s, colD c]) ?_ rfl
      (with_reducible apply lc_mapc [("_law_colour_here", 6)] N91 (defScope (topS 91)) cols3 colD (fun c => .tup [.str "load", phD s, colD c]) (fun c => c)) <;> walk_at "ev"
      intro c hc
      walk_at "t1"
    · rw [List.length_append, List.length_map, List.length_map, List.length_map, sizeLine_eq]; simp only [List.length_cons, List.length_nil] at l1' ⊢; omega
    refine sx_pre (sx_forc cols3 colD (fun j => [("_law_found", .o (((th2.take i).flatMap lm1 ++ ([Mk.new s] ++ cols3.map (fun c => Mk.load s c)) ++ (cols3.take j).flatMap (lm2 s)).map mkD)), ("_law_thread", .d (phD s)), ("_law_box", .u), ("_law_was", .u), ("_law_now", .u), ("_law_some", .u), ("_law_colour_here", .u), ("_law_who", .u)]) ?_ ?_ ?_ ?_ ?_) ?_
    · walk_at "ev"
    · intro j h hh
      have l2' := l2 j
      have l3 := fun m => take_flat_len (lm3_len s h) was4 m
      walk_at "turn"
      refine sx_pre (sx_forc was4 ocolD (fun m => [("_law_found", .o (((th2.take i).flatMap lm1 ++ ([Mk.new s] ++ cols3.map (fun c => Mk.load s c)) ++ (cols3.take j).flatMap (lm2 s) ++ (was4.take m).flatMap (lm3 s h)).map mkD)), ("_law_thread", .d (phD s)), ("_law_box", .d (colD h)), ("_law_was", .u), ("_law_now", .u), ("_law_some", .u), ("_law_colour_here", .u), ("_law_who", .u)]) ?_ ?_ ?_ ?_ ?_) ?_
      · walk_at "ev"
      · intro m o ho
        have l3' := l3 m
        have l4 := fun q => take_flat_len (lm4_len s h o) was4 q
        walk_at "turn"
        refine sx_pre (sx_forc was4 ocolD (fun q => [("_law_found", .o (((th2.take i).flatMap lm1 ++ ([Mk.new s] ++ cols3.map (fun c => Mk.load s c)) ++ (cols3.take j).flatMap (lm2 s) ++ (was4.take m).flatMap (lm3 s h) ++ (was4.take q).flatMap (lm4 s h o)).map mkD)), ("_law_thread", .d (phD s)), ("_law_box", .d (colD h)), ("_law_was", .d (ocolD o)), ("_law_now", .u), ("_law_some", .u), ("_law_colour_here", .u), ("_law_who", .u)]) ?_ ?_ ?_ ?_ ?_) ?_
        · walk_at "ev"
        · intro q n hn
          have l4' := l4 q
          have l5 := whos_len h o n
          walk_at "turn"
          (with_reducible apply sx_setl (ds := ((if (!decide (h = .grey)) = true then [Who.holder] else []) ++ (if decide (n = some Col.white) = true then [Who.new] else [])).map whoD))
          · refine slx_is ?_ (whos1 h n)
            (with_reducible apply slx_fxl)
            · refine fx_bin (d1 := .lst (if (!decide (h = .grey)) = true then [D.str "holder"] else [])) (d2 := .lst (if decide (ocolS n = ("white" : Str)) = true then [D.str "new"] else [])) ?_ ?_ (o_catl ?_)
              · refine ex_bin (op := .Mult) (d1 := .lst [.str "holder"]) (d2 := .int (if (!decide (h = .grey)) then 1 else 0)) ?_ ?_ (op2_F o_repb)
                · walk_at "ev"
                · (with_reducible apply ex_intc)
                  case ha => refine ax_cons (d := .bl (!decide (h = .grey))) (ex_cmp ?_ ?_ o_ngrey ?_) ax_nil ?_ <;> walk_at "ev"
                  all_goals walk_at "ev"
              · walk_at "ev"
              · have a := if_len (!decide (h = .grey)) (D.str "holder")
                have b := if_len (decide (ocolS n = ("white" : Str))) (D.str "new")
                rw [sizeLine_eq]; omega
            all_goals walk_at "ev"
          iterate 2 walk_at "ev"
          (with_reducible apply sx_setl (ds := (whosAt h o n).map whoD))
          · refine slx_is ?_ (whos2 h o n)
            (with_reducible apply slx_fxl)
            · refine fx_bin (d1 := .lst (((if (!decide (h = .grey)) = true then [Who.holder] else []) ++ (if decide (n = some Col.white) = true then [Who.new] else [])).map whoD)) (d2 := .lst (if decide (ocolS o = ("white" : Str)) = true then [D.str "old"] else [])) ?_ ?_ (o_catl ?_)
              · walk_at "ev"
              · walk_at "ev"
              · have a := if_len (!decide (h = .grey)) Who.holder
                have b := if_len (decide (n = some Col.white)) Who.new
                have c := if_len (decide (ocolS o = ("white" : Str))) (D.str "old")
                rw [List.length_map, List.length_append, sizeLine_eq]; omega
            all_goals walk_at "ev"
          iterate 2 walk_at "ev"
          (with_reducible apply sx_extend (es := (lm4 s h o n).map mkD)) <;> walk_at "ev"
          · refine fx_is (ds := ((whosAt h o n).map fun w => w).map fun w => .tup [.str "store", phD s, colD h, ocolD o, ocolD n, whoD w]) ?_ (by unfold lm4; rw [List.map_id', List.map_map]; rfl)
            (with_reducible apply lc_mapc [("_law_who", 7)] N91 (defScope (topS 91)) (whosAt h o n) whoD (fun w => .tup [.str "store", phD s, colD h, ocolD o, ocolD n, whoD w]) (fun w => w)) <;> walk_at "ev"
            · rw [sizeLine_eq]; omega
            · intro x hx
              walk_at "t1"
          · simp only [List.length_append, List.length_map, List.length_cons, List.length_nil] at l1' l2' l3' l4' ⊢
            have := lm4_len s h o n
            rw [sizeLine_eq]; omega
          walk_at "nil"
          rw [flat_snoc _ _ _ _ hn]
          simp only [List.map_append, List.append_assoc]
        · rw [List.take_length]
          walk_at "nil"
          rw [flat_snoc _ _ _ _ ho]
          unfold lm3
          simp only [List.map_append, List.append_assoc]
        · walk_at "sy"
        · exact PassesOwn.never
        · walk_at "le"
          rw [List.take_zero, List.flatMap_nil, List.append_nil]
      · rw [List.take_length]
        walk_at "nil"
        rw [flat_snoc _ _ _ _ hh]
        unfold lm2
        simp only [List.map_append, List.append_assoc]
      · walk_at "sy"
      · exact PassesOwn.never
      · walk_at "le"
        rw [List.take_zero, List.flatMap_nil, List.append_nil]
    · rw [List.take_length]
      walk_at "nil"
      rw [flat_snoc _ _ _ _ hs]
      unfold lm1
      simp only [List.map_append, List.append_assoc]
    · walk_at "sy"
    · exact PassesOwn.never
    · walk_at "le"
      rw [List.take_zero, List.flatMap_nil, List.append_nil, List.map_append, List.map_append, List.append_assoc]
      rfl
  · rw [List.take_length]
    have l2' : (th2.flatMap lm1).length ≤ _ := flat_len' lm1_len th2
    refine sx_ret (ex_of_fx (fx_sortM (ms := th2.flatMap lm1) ?_ ?_ (ru hr) ?_ m1 ?_))
    · walk_at "ev"
    · rw [sizeLine_eq]; simp only [List.length_cons, List.length_nil] at l2'; omega
    · walk_at "ev"
    · walk_at "ev"
  · walk_at "sy"
  · exact PassesOwn.never
  · walk_at "le"
    rfl
end
set_option maxRecDepth 100000
set_option maxHeartbeats 4000000
theorem o_powB {X : Cx} {i j : Int} (h0 : 0 ≤ j) (hz : (Builtin.Int.intBits i : Int) * j ≤ 2 ^ 27) : Op2 X (binaryOp .Pow) (.int i) (.int j) (.int (i ^ j.toNat)) :=
  ⟨_, (opI (f := binaryOp .Pow) (C := fun i j => 0 ≤ j ∧ (Builtin.Int.intBits i : Int) * j ≤ 2 ^ 27) (g := fun i j => i ^ j.toNat) fun _ _ _ _ _ _ _ hc q => PyProof.Rows.pow_int hc.1 hc.2 q), fun L H x y Q dm h1 h2 q => ⟨i, j, is_int h1, is_int h2, ⟨h0, hz⟩, q _ H (Same.refl H) (.int _)⟩⟩
/-- the script, as the law gets it: read only -/
def scU (o : Option Obj) (cs : List Int) : HO := match o with
  | none => .lst (cs.map V.int)
  | some o => .frz o (.lst (cs.map V.int))
def scD (o : Option Obj) (cs : List Int) : D := .dm (fun _ _ => scU o cs) []
theorem is_sc {K : PySem.W.Frag} {H : Hp} {v : V} {o : Option Obj} {cs : List Int} (h : Is K H v (scD o cs)) : ∃ a, v = .ref a ∧ SqL K H a (cs.map V.int) := by
  cases h with
  | dm h1 h2 h3 =>
    cases o with
    | none => exact ⟨_, rfl, .inl (.inl h1)⟩
    | some o => exact ⟨_, rfl, .inl (.inr ⟨o, h1⟩)⟩
theorem c_lenSc {X : Cx} {o : Option Obj} {cs : List Int} : CallD X (.builtin "len") [scD o cs] (.int (cs.length : Int)) := ⟨_, call_len_seq, fun L H xs Q dm i0 q => by
  obtain ⟨v, rfl, i⟩ := isL1 i0
  obtain ⟨a, rfl, ha⟩ := is_sc i
  exact ⟨a, cs.map V.int, rfl, .inl (same_l hid_sub ha), by rw [List.length_map]; exact q _ H (Same.refl H) (.int _)⟩⟩
theorem ex_ixSc {X : Cx} {a b : Expr} {r : Rho} {o : Option Obj} {cs : List Int} {n : Nat} {c : Int} {pos : Pos} (ha : EX X a r (scD o cs)) (hb : EX X b r (natD n)) (h : cs[n]? = some c) (hs : PlainIx b) : EX X (.Subscript a b pos) r (.int c) := by
  constructor
  intro C L σ H Q dm I q
  refine we_of (pe_ix L2.ix_list (pe_w X a) (pe_w X b) hs) ?_
  refine ha C L σ H _ dm I fun v H1 s1 i1 => hb C L σ H1 _ (dm.mono s1) (I.mono (hid_mono s1)) fun u H2 s2 i2 => ?_
  obtain ⟨p, rfl, hp⟩ := is_sc i1
  exact ⟨p, _, (n : Int), .int c, rfl, is_int i2, same_l (hid_sub.trans s2) hp, atI_nat (j := n) (by rw [List.getElem?_map, h]; rfl), q _ H2 (s1.trans s2) (.int _)⟩
section
variable {P : Program} {w : World} {K : PySem.W.Frag} {mg : Str → Option Value} {base : Heap} {k : Nat} {f : Addr} {fd : FuncData}
@[reducible] def N93 : List Str := ["_law_script", "_law_k", "_law_cell", "_law_own"]
theorem sc93 : Sc N93 ["_law_script", "_law_k"] (topS 93) := ⟨⟨rfl, rfl, rfl, by decide +kernel, rfl, by decide +kernel, by decide +kernel⟩, by decide +kernel⟩
def potCell (cs : List Int) (n : Nat) : Int := cs.getD n (17 * (n : Int) + 5)
def absI (c : Int) : Int := if c < 0 then -c else c
def mod300 : Int := ((10 : Int) ^ (60 : Int).toNat) ^ (5 : Int).toNat
def potOwn (c : Int) : Int := absI c % mod300 * (if decide (absI c ≥ (10 : Int) ^ (18 : Int).toNat) then 1 else 0)
def potBase (c : Int) (n : Nat) : Int := (c % 2305843009213693951 * 48271 + 6907 * (n : Int) * (n : Int) + 23) % 2305843009213693907
theorem potOwn_nn (c : Int) : 0 ≤ potOwn c := by
  unfold potOwn
  refine Int.mul_nonneg (Int.emod_nonneg _ (by decide +kernel)) ?_
  split <;> omega
theorem potBase_nn (c : Int) (n : Nat) : 0 ≤ potBase c n ∧ potBase c n < 2305843009213693907 := ⟨Int.emod_nonneg _ (by decide), Int.emod_lt_of_pos _ (by decide)⟩
def pre93 (ds es : List D) : Prop := ∃ (o : Option Obj) (cs : List Int) (n : Nat), n ≤ 100 ∧ ds = [scD o cs, natD n] ∧ es = [.int (potOwn (potCell cs n)), .int (potBase (potCell cs n) n), .int 0]
theorem ok93 (F : Fun K "_law_pot" "_law_pot" (topS 93) f fd) (m1 : mg "len" = none) (m2 : mg "abs" = none) (m3 : mg "int" = none) : FnOk P w K mg base CX0 (k + 1) f fd ["_law_script", "_law_k"] (spF K pre93) := by
  refine def_f F sc93 (fun ds d ⟨_, _, _, _, h, _⟩ => by rw [h]; rfl) fun cdv A outer s0 H E hr ds d ⟨o, cs, n, hn, h, hd⟩ => ?_
  subst h hd
  walk_at "go"
  (with_reducible apply sx_set1 (d := .int (potCell cs n)))
  · by_cases hlt : n < cs.length
    · have hc : cs[n]? = some cs[n] := List.getElem?_eq_getElem hlt
      have e : potCell cs n = cs[n] := by unfold potCell; rw [List.getD_eq_getElem?_getD, List.getElem?_eq_getElem hlt]; rfl
      refine ex_if (k := decide ((n : Int) < (cs.length : Int))) ?_ (fun h => ?_) (fun h => ?_)
      · walk_at "ev"
        exact c_lenSc
      · rw [e]
        refine ex_ixSc (o := o) ?_ ?_ hc ?_
        all_goals walk_at "ev"
      · exfalso
        have := of_decide_eq_false h
        omega
    · have e : potCell cs n = 17 * (n : Int) + 5 := by unfold potCell; rw [List.getD_eq_getElem?_getD, List.getElem?_eq_none (Nat.le_of_not_lt hlt)]; rfl
      refine ex_if (k := decide ((n : Int) < (cs.length : Int))) ?_ (fun h => ?_) (fun h => ?_)
      · walk_at "ev"
        exact c_lenSc
      · exfalso
        have := of_decide_eq_true h
        omega
      · rw [e]; walk_at "ev"
        exact .inl ⟨by decide, by decide⟩
  iterate 4 walk_at "ev"
  generalize potCell cs n = c
  (with_reducible apply sx_set1 (d := .int (potOwn c)))
  · refine ex_bin (op := .Mult) (d1 := .int (absI c % mod300)) (d2 := .int (if decide (absI c ≥ (10 : Int) ^ (18 : Int).toNat) then 1 else 0)) ?_ ?_ (o_mul (.inr (by split <;> decide)))
    · refine ex_bin (op := .Mod) (d1 := .int (absI c)) (d2 := .int mod300) ?_ (ex_bin (op := .Pow) (d1 := .int ((10 : Int) ^ (60 : Int).toNat)) (d2 := .int 5) (ex_bin (op := .Pow) (d1 := .int 10) (d2 := .int 60) ?_ ?_ (o_pow ⟨by decide, by decide, by decide⟩)) ?_ (o_powB (by decide) ?_)) (o_mod (by decide +kernel))
      · walk_at "ev"
      · walk_at "ev"
      · walk_at "ev"
      · walk_at "ev"
      · have : Builtin.Int.intBits ((10 : Int) ^ (60 : Int).toNat) ≤ 200 := intBits_le_iff.mpr (by decide +kernel)
        omega
    · walk_at "ev"
      exact ⟨by decide, by decide, by decide⟩
  iterate 4 walk_at "ev"
  (with_reducible apply sx_retf)
  walk_at "ev"
  · decide
  · exact .inr ⟨by decide, by decide⟩
  · exact .inl ⟨by decide, by decide⟩
  · exact .inr ⟨by omega, by omega⟩
  · exact o_mod (by decide)
end
set_option maxRecDepth 100000
set_option maxHeartbeats 4000000
theorem look_nd {α : Type} {key : α → Key} {val : α → D} : ∀ {L : List α} {p : α}, (L.map key).Nodup → p ∈ L → lookD (L.map key) (L.map val) (key p) = some (val p)
  | a :: L, p, hn, hp => by
    rw [List.map_cons, List.map_cons, lookD]
    obtain ⟨n1, n2⟩ := List.nodup_cons.mp hn
    rcases List.mem_cons.mp hp with rfl | hp
    · rw [if_pos rfl]
    · rw [if_neg (fun z => n1 (by rw [z]; exact List.mem_map_of_mem (f := key) hp))]
      exact look_nd n2 hp
def gcnt (n : Str) : Nat := ((groupsL.find? fun p => p.1 == n).map fun p => p.2.length).getD 0
def dcnt : D → Nat
  | .str n => gcnt n
  | _ => 0
theorem gcnt_sum : ((groupsL.map (·.1)).map gcnt).sum = 28 := by decide +kernel
theorem dcnt_take (zs : List Str) (k : Nat) : ((zs.map D.str).take k).map dcnt = (zs.map gcnt).take k := by
  rw [← List.map_take, ← List.map_take, List.map_map]; rfl
theorem sum_take (l : List Nat) (k : Nat) : (l.take k).sum ≤ l.sum := by
  have h := congrArg List.sum (List.take_append_drop k l)
  rw [List.sum_append] at h
  omega
theorem gcnt_perm {zs : List Str} (hp : zs.Perm (groupsL.map (·.1))) (k : Nat) : (((zs.map D.str).take k).map dcnt).sum ≤ 28 := by
  rw [dcnt_take]
  refine Nat.le_trans (sum_take _ k) ?_
  rw [(hp.map gcnt).sum_nat, gcnt_sum]
  exact Nat.le_refl _
theorem groups_all : (groupsL.all fun p => decide (gcnt p.1 = p.2.length) && decide (p.2.length ≤ 8) && p.2.all fun g => decide (0 < g.length) && decide (g.length ≤ 2) && g.all Mk.ok) = true := by decide +kernel
theorem groups_fact {p : Str × List (List Mk)} (h : p ∈ groupsL) : gcnt p.1 = p.2.length ∧ p.2.length ≤ 8 ∧ ∀ g ∈ p.2, 0 < g.length ∧ g.length ≤ 2 ∧ ∀ m ∈ g, m.ok = true := by
  have h1 := List.all_eq_true.mp groups_all p h
  simp only [Bool.and_eq_true, decide_eq_true_eq, List.all_eq_true] at h1
  exact ⟨h1.1.1, h1.1.2, fun g hg => ⟨(h1.2 g hg).1.1, (h1.2 g hg).1.2, (h1.2 g hg).2⟩⟩
theorem lawMs_all : (lawMs.all Mk.ok) = true ∧ 0 < lawMs.length ∧ lawMs.length ≤ 1000 := by
  have h1 : ∀ m ∈ th2.flatMap lm1, m.ok = true := List.all_eq_true.mp (by decide +kernel)
  refine ⟨List.all_eq_true.mpr fun m hm => h1 m ((mem_sortM m _).mp hm), ?_, ?_⟩ <;> (unfold lawMs; rw [len_sortM]; decide +kernel)
section
variable {P : Program} {w : World} {K : PySem.W.Frag} {mg : Str → Option Value} {base : Heap} {k : Nat} {f : Addr} {fd : FuncData}
@[reducible] def N92 : List Str := ["_law_pot_here", "_law_groups_here", "_law_marks_here", "_law_rough", "_law_name", "_law_some", "_law_every", "_law_turn"]
theorem sc92 : Sc N92 ["_law_pot_here"] (topS 92) := ⟨⟨rfl, rfl, rfl, by decide +kernel, rfl, by decide +kernel, by decide +kernel⟩, by decide +kernel⟩
@[reducible] def E92 (a : Addr) (q : Nat) (ms : List Mk) (x y z u : Ev) : Env' := [("_law_pot_here", .d (.adr a)), ("_law_groups_here", .d (.dk (groupsL.map grpK) (groupsL.map grpD))), ("_law_marks_here", .o (ms.map mkD)), ("_law_rough", .d (natD q)), ("_law_name", x), ("_law_some", y), ("_law_every", z), ("_law_turn", u)]
def pre92 (R : Rsc) (ds : List D) (c : Nat) (O : D → Prop) : Prop := ∃ a : Addr, PotR R a ∧ ds = [.adr a] ∧ c = 270 ∧ O = fun d => ∃ (T : List Mk) (b : Bool), T.Nodup ∧ T.length ≤ 36 ∧ (∀ m ∈ T, m.ok = true) ∧ d = tabD T b
theorem ok92 (F : Fun K "_law_table" "_law_table" (topS 92) f fd) (c76 : Cal P w K mg base k "_law_take" (spN K pre76)) (c85 : Cal P w K mg base k "_law_of" (spN K pre85)) (c90 : Cal P w K mg base k "_law_groups" (spK K pre90)) (c91 : Cal P w K mg base k "_law_marks" (spD K pre91))
    (m1 : mg "sorted" = none) (m2 : mg "len" = none) (m3 : mg "range" = none) (m4 : mg "tuple" = none) (m5 : mg "set" = none) : FnOk P w K mg base CX0 (k + 1) f fd ["_law_pot_here"] (spN K pre92) := by
  refine def_n F sc92 (fun R ds c O ⟨_, _, h, _⟩ => by rw [h]; rfl) fun cdv A outer s H E hr R ds c O ⟨a, PR, hds, hc, hO⟩ => ?_
  subst hds hc hO
  walk_at "gn"
  have p90 : pre90 [] (groupsL.map grpK) (groupsL.map grpD) := ⟨rfl, rfl, rfl⟩
  (with_reducible apply sn_pure)
  · refine s1_parO2 (ds := []) (ex_of_fk (fk_call0 c90 hr p90 (by walk_at "ev") (by walk_at "ev"))) ?_ (.next .here) (.next (.next .here)) (by decide) ?_ ?_ ?_ ?_ ?_ ?_
    all_goals walk_at "ev"
  refine sn_le (c1 := 1 + 269) ?_ (Nat.le_refl _) fun _ h => h
  walk_at "nset"
  case h =>
    refine' nx_le (c := 1) (O' := fun d => ∃ q : Nat, d = natD q ∧ (q = 1 ∨ q = 2 ∨ q = 4)) (nx_of (xs := [.int 1, .int 2, .int 4]) c85 PR sq_l (by decide) (by decide) ?_ ?_ ?_ ?_ ?_ ?_) (Nat.le_refl _) ?_
    all_goals try walk_at "ev"
    intro d hd
    simp only [List.mem_cons, List.not_mem_nil, or_false] at hd
    rcases hd with rfl | rfl | rfl
    · exact ⟨1, rfl, .inl rfl⟩
    · exact ⟨2, rfl, .inr (.inl rfl)⟩
    · exact ⟨4, rfl, .inr (.inr rfl)⟩
  rintro _ ⟨q, rfl, hq⟩
  walk_at "gsn"
  refine sn_le (c1 := 0 + 16 * 16 + 13) ?_ (Nat.le_refl _) fun _ h => h
  refine sn_for (c1 := 0) (c2 := 16) (c3 := 13) (m := 16) (OL := fun ys => ∃ zs : List Str, zs.Perm (groupsL.map (·.1)) ∧ ys = zs.map D.str) (fun ys k e0 => ∃ ms : List Mk, ms.length ≤ ((ys.take k).map dcnt).sum ∧ (∀ m ∈ ms, m.ok = true) ∧ e0 = E92 a q ms .u .u .u .u) ?_ ?_ ?_ ?_ ?_ ?_ ?_
  · refine' nix_sortD (ns := groupsL.map (·.1)) (ds := groupsL.map grpD) ?_ (by decide) ?_ ?_ ?_
    rw [show (groupsL.map (·.1)).map (Sum.inr : Str → Key) = groupsL.map grpK from rfl]
    all_goals walk_at "ev"
  · rintro _ ⟨zs, hp, rfl⟩
    rw [List.length_map, hp.length_eq]; decide
  · rintro _ ⟨zs, hp, rfl⟩
    exact ⟨[], Nat.zero_le _, fun m h => by simp at h, rfl⟩
  · rintro _ k d _ ⟨zs, hp, rfl⟩ hk ⟨ms, hml, hok, rfl⟩
    obtain ⟨z, hz, rfl⟩ : ∃ z, zs[k]? = some z ∧ d = D.str z := by
      rw [List.getElem?_map] at hk
      cases h : zs[k]? with
      | none => rw [h] at hk; cases hk
      | some z => rw [h] at hk; exact ⟨z, rfl, (Option.some.inj hk).symm⟩
    obtain ⟨p, hpm, rfl⟩ : ∃ p ∈ groupsL, p.1 = z := by
      obtain ⟨p, h1, h2⟩ := List.mem_map.mp (hp.subset (List.mem_of_getElem? hz))
      exact ⟨p, h1, h2⟩
    obtain ⟨f1, f2, f3⟩ := groups_fact hpm
    have hlk : lookD (groupsL.map grpK) (groupsL.map grpD) (.inr p.1) = some (.lst (p.2.map mksL)) := look_nd (key := grpK) (val := grpD) groups_nd hpm
    have hsum : (((zs.map D.str).take (k + 1)).map dcnt).sum = (((zs.map D.str).take k).map dcnt).sum + p.2.length := by
      rw [List.take_add_one, hk, List.map_append, List.sum_append]
      show _ + (dcnt (.str p.1) + 0) = _
      rw [show dcnt (.str p.1) = gcnt p.1 from rfl, f1, Nat.add_zero]
    rw [hsum]
    have htot := gcnt_perm hp k
    generalize (((zs.map D.str).take k).map dcnt).sum = tot at hml htot
    dsimp only [E92]
    walk_at "gsn"
    refine sn_le (c1 := 0 + 8 * 2 + 0) ?_ (Nat.le_refl _) fun _ h => h
    refine sn_for (c1 := 0) (c2 := 2) (c3 := 0) (m := 8) (OL := fun ys => ys = p.2.map mksL) (fun ys k e0 => ∃ ms : List Mk, ms.length ≤ tot + k ∧ (∀ m ∈ ms, m.ok = true) ∧ e0 = E92 a q ms (.d (.str p.1)) .u .u .u) ?_ ?_ ?_ ?_ ?_ ?_ ?_
    · refine nix_ix (ix_lst ?_)
      walk_at "ev"
    · rintro _ rfl
      rw [List.length_map]; exact f2
    · rintro _ rfl
      exact ⟨ms, hml, hok, rfl⟩
    · rintro _ k2 d _ rfl hk2 ⟨ms2, hml2, hok2, rfl⟩
      obtain ⟨g, hg, rfl⟩ : ∃ g, g ∈ p.2 ∧ d = mksL g := by
        rw [List.getElem?_map] at hk2
        cases h : p.2[k2]? with
        | none => rw [h] at hk2; cases hk2
        | some z => rw [h] at hk2; exact ⟨z, List.mem_of_getElem? h, (Option.some.inj hk2).symm⟩
      have hk3 : k2 < 8 := by
        have := (List.getElem?_eq_some_iff.mp hk2).1
        rw [List.length_map] at this; omega
      obtain ⟨g1, g2, g3⟩ := f3 g hg
      dsimp only [E92]
      walk_at "gsn"
      refine sn_le (c1 := 1 + (1 + 0)) ?_ (Nat.le_refl _) fun _ h => h
      refine sn_if (B := fun _ => True) (c1 := 1) (c2 := 1) (c3 := 0) (O1 := fun o => ∃ ms3 : List Mk, ms3.length ≤ tot + (k2 + 1) ∧ (∀ m ∈ ms3, m.ok = true) ∧ o = .nx (E92 a q ms3 (.d (.str p.1)) .u .u .u)) (nt_or (c1 := 1) (c2 := 0) (B1 := fun _ => True) (B2 := fun _ => True) (nt_cmp (c1 := 1) (c2 := 0) (nx_take (many := if p.2.length = 1 then 4 else 24) c76 PR (by split <;> omega) (by split <;> omega) ?_ ?_ ?_ ?_ ?_ ?_) (nx_ex (d := .int 0) ?_) ?_ ?_) (nt_le (nt_tx (k := decide ((q : Int) = 1)) ?_) (Nat.le_refl _) fun _ _ => trivial) ⟨fun _ => trivial, fun _ _ _ => trivial⟩) (fun _ => ?_) (fun _ => ?_) ?_ ?_
      all_goals try walk_at "ev"
      · by_cases h1 : p.2.length = 1
        · rw [if_pos h1]
          refine ex_if (k := decide (((p.2.map mksL).length : Int) = 1)) ?_ (fun h => ?_) (fun h => ?_)
          · walk_at "ev"
          · walk_at "ev"
          · exfalso
            have := of_decide_eq_false h
            rw [List.length_map] at this; omega
        · rw [if_neg h1]
          refine ex_if (k := decide (((p.2.map mksL).length : Int) = 1)) ?_ (fun h => ?_) (fun h => ?_)
          · walk_at "ev"
          · exfalso
            have := of_decide_eq_true h
            rw [List.length_map] at this; omega
          · walk_at "ev"
      · rintro _ _ ⟨v, rfl, hv⟩ rfl
        exact ⟨_, o_gt, trivial⟩
      · refine sn_le (c1 := 1 + 0) ?_ (Nat.le_refl _) fun _ h => h
        walk_at "napp"
        case h =>
          refine' nx_le (c := 1) (O' := fun d => ∃ m ∈ g, d = mkD m) (nx_of (dd := mksL g) (xs := g.map mkD) c85 PR sq_l (by rw [List.length_map]; exact g1) (by rw [List.length_map]; omega) ?_ ?_ ?_ ?_ ?_ ?_) (Nat.le_refl _) ?_
          all_goals try walk_at "ev"
          intro d hd
          obtain ⟨m, hm, rfl⟩ := List.mem_map.mp hd
          exact ⟨m, hm, rfl⟩
        case hz => rw [List.length_map, sizeLine_eq]; omega
        rintro _ ⟨m, hm, rfl⟩
        walk_at "gsn"
        · exact Cd.imm (α := Mk) m
        refine sn_le (sn_nile (e2 := E92 a q (ms2 ++ [m]) (.d (.str p.1)) .u .u .u) ?_) (Nat.le_refl _) fun o h => ⟨ms2 ++ [m], by rw [List.length_append]; simp only [List.length_cons, List.length_nil]; omega, fun x hx => ?_, h⟩
        · dsimp only [E92]
          rw [List.map_append]; walk_at "le"
          rfl
        · rcases List.mem_append.mp hx with h | h
          · exact hok2 x h
          · rw [List.mem_singleton.mp h]; exact g3 m hm
      · refine sn_le (sn_nile (e2 := E92 a q ms2 (.d (.str p.1)) .u .u .u) ?_) (Nat.zero_le _) fun o h => ⟨ms2, by omega, hok2, h⟩
        dsimp only [E92]
        walk_at "le"
      · rintro e1 ⟨ms3, h1, h2, h3⟩
        exact sn_le sn_nil (Nat.le_refl _) fun o ho => .inl ⟨_, ho, ms3, h1, h2, (Out.nx.inj h3)⟩
      · rintro o ⟨ms3, h1, h2, rfl⟩ hn
        exact absurd rfl (hn _)
    · rintro _ _ rfl ⟨ms2, hml2, hok2, rfl⟩
      rw [List.length_map] at hml2
      refine sn_le (sn_nile (e2 := E92 a q ms2 .u .u .u .u) ?_) (Nat.le_refl _) fun o h => .inl ⟨_, h, ms2, hml2, hok2, rfl⟩
      dsimp only [E92]
      walk_at "le"
    · walk_at "sy"
    · exact PassesOwn.never
  · rintro _ _ ⟨zs, hp, rfl⟩ ⟨ms, hml, hok, rfl⟩
    have hml : ms.length ≤ 28 := Nat.le_trans hml (gcnt_perm hp _)
    obtain ⟨lw1, lw2, lw3⟩ := lawMs_all
    dsimp only [E92]
    have p91 : pre91 [] (.lst (lawMs.map mkD)) := ⟨rfl, rfl⟩
    (with_reducible apply sn_pure)
    · (with_reducible apply s1_set1 (d := .lst (lawMs.map mkD)))
      · exact ex_call0 c91 hr p91 (by walk_at "ev") (by walk_at "ev")
      all_goals walk_at "ev"
    refine sn_le (c1 := 1 + 8 * 1 + 4) ?_ (Nat.le_refl _) fun _ h => h
    refine sn_for (c1 := 1) (c2 := 1) (c3 := 4) (m := 8) (OL := fun ys => ∃ n, ys = rngD n ∧ n ≤ 8) (fun _ k e0 => ∃ ms : List Mk, ms.length ≤ 28 + k ∧ (∀ m ∈ ms, m.ok = true) ∧ e0 = E92 a q ms .u .u (.d (.lst (lawMs.map mkD))) .u) ?_ ?_ ?_ ?_ ?_ ?_ ?_
    · refine' nix_range (N := fun n => n ≤ 8) (nx_le (c := 1) (nx_take (many := 9) c76 PR (by omega) (by omega) ?_ ?_ ?_ ?_ ?_ ?_) (Nat.le_refl _) ?_) ?_ ?_ ?_ ?_
      all_goals try walk_at "ev"
      · rintro _ ⟨v, rfl, hv⟩
        exact ⟨v, rfl, by omega⟩
      · intro n h; omega
    · rintro _ ⟨n, rfl, hn⟩
      unfold rngD
      rw [List.length_map, List.length_range]; exact hn
    · rintro _ ⟨n, rfl, hn⟩
      exact ⟨ms, hml, hok, rfl⟩
    · rintro _ k d _ ⟨n, rfl, hn⟩ hk ⟨ms, hml, hok, rfl⟩
      have hkn : k < 8 := by
        have := (List.getElem?_eq_some_iff.mp hk).1
        unfold rngD at this
        rw [List.length_map, List.length_range] at this; omega
      dsimp only [E92]
      walk_at "gsn"
      refine sn_le (c1 := 1 + 0) ?_ (Nat.le_refl _) fun _ h => h
      walk_at "napp"
      case h =>
        refine' nx_le (c := 1) (O' := fun d => ∃ m ∈ lawMs, d = mkD m) (nx_of (dd := .lst (lawMs.map mkD)) (xs := lawMs.map mkD) c85 PR sq_l (by rw [List.length_map]; exact lw2) (by rw [List.length_map]; omega) ?_ ?_ ?_ ?_ ?_ ?_) (Nat.le_refl _) ?_
        all_goals try walk_at "ev"
        intro d hd
        obtain ⟨m, hm, rfl⟩ := List.mem_map.mp hd
        exact ⟨m, hm, rfl⟩
      case hz => rw [List.length_map, sizeLine_eq]; omega
      rintro _ ⟨m, hm, rfl⟩
      walk_at "gsn"
      · exact Cd.imm (α := Mk) m
      refine sn_le (sn_nile (e2 := E92 a q (ms ++ [m]) .u .u (.d (.lst (lawMs.map mkD))) .u) ?_) (Nat.le_refl _) fun o h => .inl ⟨_, h, ms ++ [m], by rw [List.length_append]; simp only [List.length_cons, List.length_nil]; omega, fun x hx => ?_, rfl⟩
      · dsimp only [E92]
        rw [List.map_append]; walk_at "le"
        rfl
      · rcases List.mem_append.mp hx with h | h
        · exact hok x h
        · rw [List.mem_singleton.mp h]; exact List.all_eq_true.mp lw1 m hm
    · rintro _ _ ⟨n, rfl, hn⟩ ⟨ms, hml, hok, rfl⟩
      have hml : ms.length ≤ 36 := by
        unfold rngD at hml
        rw [List.length_map, List.length_range] at hml; omega
      refine sn_le (c1 := 0 + 3 * 1 + 1) ?_ (Nat.le_refl _) fun _ h => h
      refine sn_for (c1 := 0) (c2 := 1) (c3 := 1) (m := 3) (OL := fun ys => ys = (List.range (q - 1)).map natD) (fun _ k e0 => ∃ ms : List Mk, ms.length ≤ 36 ∧ (∀ m ∈ ms, m.ok = true) ∧ e0 = E92 a q ms .u .u (.d (.lst (lawMs.map mkD))) .u) ?_ ?_ ?_ ?_ ?_ ?_ ?_
      · refine' nix_ix (ix_rangec (n := q - 1) ?_ ?_ ?_ ?_ ?_)
        · rw [show ((q - 1 : Nat) : Int) = (q : Int) - 1 by omega]
          dsimp only [E92]
          walk_at "ev"
        all_goals walk_at "ev"
        omega
      · rintro _ rfl
        rw [List.length_map, List.length_range]; omega
      · rintro _ rfl
        exact ⟨ms, hml, hok, rfl⟩
      · rintro _ k d _ rfl hk ⟨ms, hml, hok, rfl⟩
        dsimp only [E92]
        walk_at "gsn"
        refine sn_le (c1 := 0 + (1 + 0)) ?_ (Nat.le_refl _) fun _ h => h
        refine sn_if (B := fun k => k = !ms.isEmpty) (c1 := 0) (c2 := 1) (c3 := 0) (O1 := fun o => ∃ ms3 : List Mk, ms3.length ≤ 36 ∧ (∀ m ∈ ms3, m.ok = true) ∧ o = .nx (E92 a q ms3 .u .u (.d (.lst (lawMs.map mkD))) .u)) (nt_tx (tx_cmp ?_ ?_ (o_neNilG (f := mkD) (ls := ms) (fun m => Cd.nod (α := Mk) m) (fun m => Cd.lay (α := Mk) m) (fun m => Nat.le_trans (Cd.dep (α := Mk) m) (by decide)) (ru hr)) ?_)) (fun hb => ?_) (fun _ => ?_) ?_ ?_
        iterate 3 walk_at "ev"
        · have hne : 0 < ms.length := by
            cases ms with
            | nil => cases hb
            | cons a l => exact Nat.succ_pos _
          refine sn_le (c1 := 1 + 0) ?_ (Nat.le_refl _) fun _ h => h
          refine' sn_remove (ms := ms) (i := 2) (.next (.next .here)) (nx_le (c := 1) (nx_of (dd := .lst (ms.map mkD)) (xs := ms.map mkD) c85 PR sq_l (by rw [List.length_map]; exact hne) (by rw [List.length_map]; omega) ?_ ?_ ?_ ?_ ?_ ?_) (Nat.le_refl _) ?_) (ru hr) ?_ ?_ ?_ ?_ ?_ ?_ ?_ ?_
          all_goals try walk_at "ev"
          · intro d hd
            obtain ⟨m, hm, rfl⟩ := List.mem_map.mp hd
            exact ⟨m, hm, rfl⟩
          · intro j hj
            refine ⟨_, .next (.next .here), ?_⟩
            refine sn_le (sn_nile (e2 := E92 a q (ms.eraseIdx j) .u .u (.d (.lst (lawMs.map mkD))) .u) ?_) (Nat.le_refl _) fun o h => ⟨ms.eraseIdx j, Nat.le_trans (len_erase ms j) hml, fun x hx => hok x (List.mem_of_mem_eraseIdx hx), h⟩
            dsimp only [E92]
            walk_at "le"
        · refine sn_le (sn_nile (e2 := E92 a q ms .u .u (.d (.lst (lawMs.map mkD))) .u) ?_) (Nat.zero_le _) fun o h => ⟨ms, hml, hok, h⟩
          dsimp only [E92]
          walk_at "le"
        · rintro e1 ⟨ms3, h1, h2, h3⟩
          exact sn_le sn_nil (Nat.le_refl _) fun o ho => .inl ⟨_, ho, ms3, h1, h2, (Out.nx.inj h3)⟩
        · rintro o ⟨ms3, h1, h2, rfl⟩ hn
          exact absurd rfl (hn _)
      · rintro _ _ rfl ⟨ms, hml, hok, rfl⟩
        dsimp only [E92]
        refine' sn_ret (nx_tup (c := 1) (OL := fun ds => ∃ b, ds = [.tup ((setM ms).map mkD), .bl b]) (na_cons (c1 := 0) (c2 := 1) (OL := fun ds => ∃ b, ds = [.bl b]) (nx_ex (d := .tup ((setM ms).map mkD)) ?_) (na_cons (c1 := 1) (c2 := 0) (O1 := fun d => ∃ b, d = .bl b) (nx_cmp (c1 := 1) (c2 := 0) (nx_take (many := 2) c76 PR (by omega) (by omega) ?_ ?_ ?_ ?_ ?_ ?_) (nx_ex (d := .int 0) ?_) ?_ ?_) na_nil ?_ ?_) ?_ ?_) ?_)
        · (with_reducible apply ex_tuple)
          case ha =>
            refine ax_cons (ex_of_fx (fx_setM (ms := ms) ?_ (by omega) (ru hr) ?_ m1 ?_ m5 ?_ ?_)) ax_nil ?_
            all_goals walk_at "ev"
          case hc => exact c_tupL
          all_goals walk_at "ev"
        all_goals try walk_at "ev"
        · rintro _ _ ⟨v, rfl, hv⟩ rfl
          exact ⟨_, o_eqi, _, rfl⟩
        · rintro _ _ ⟨b, rfl⟩ rfl
          exact ⟨b, rfl⟩
        · rintro _ _ rfl ⟨b, rfl⟩
          exact ⟨b, rfl⟩
        · rintro _ ⟨b, rfl⟩
          refine ⟨by rw [sizeLine_eq]; exact Nat.le_of_ble_eq_true rfl, setM ms, b, ?_, Nat.le_trans (len_setM ms) hml, fun m hm => hok m ((mem_setM m ms).mp hm), rfl⟩
          exact (List.mergeSort_perm (dd ms) leM).nodup_iff.mpr (nd_dd ms)
      · walk_at "sy"
      · exact PassesOwn.never
    · walk_at "sy"
    · exact PassesOwn.never
  · walk_at "sy"
  · exact PassesOwn.never
end
set_option maxRecDepth 100000
set_option maxHeartbeats 4000000
section
variable {P : Program} {w : World} {K : PySem.W.Frag} {mg : Str → Option Value} {base : Heap} {k : Nat} {f : Addr} {fd : FuncData}
@[reducible] def N95 : List Str := ["_law_pot_here", "_law_grid", "_law_place", "_law_gone", "_law_known", "_law_here", "_law_number", "_law_term"]
theorem sc95 : Sc N95 ["_law_pot_here", "_law_grid"] (topS 95) := ⟨⟨rfl, rfl, rfl, by decide +kernel, rfl, by decide +kernel, by decide +kernel⟩, by decide +kernel⟩
/-- what is shown apart: a table's properties hold in all runs, and what is away stays white -/
structure RunOk (T : List Mk) (b : Bool) : Prop where
  has : ∀ (h : Hea) (S : Sta), h.Ok → Run T b h.start S → ∀ t ∈ propsF T b, hasF b S t = true
  gone : ∀ (h : Hea) (S : Sta), h.Ok → Run T b h.start S → ∀ n, n < h.slots.length → n ∉ reachedF h.start → S.col n = .white
theorem Run.len {T : List Mk} {ag : Bool} {S0 S : Sta} : Run T ag S0 S → S0.slots.length ≤ S.slots.length
  | .start => Nat.le_refl _
  | .step (st := st) r h => Nat.le_trans r.len (len_next st)
def goneF (h : Hea) : List Nat := (List.range h.slots.length).filter fun n => !decide (n ∈ reachedF h.start)
@[reducible] def E95 (a : Addr) (T : List Mk) (b : Bool) (h : Hea) : Env' := [("_law_pot_here", .d (.adr a)), ("_law_grid", .d (tabD T b)), ("_law_place", .d (heaD h)), ("_law_gone", .d (.lst ((goneF h).map natD))), ("_law_known", .d (.tup ((propsF T b).map wdD))), ("_law_here", .u), ("_law_number", .u), ("_law_term", .u)]
def pre95 (R : Rsc) (ds : List D) (c : Nat) (O : D → Prop) : Prop := ∃ (a : Addr) (T : List Mk) (b : Bool), PotR R a ∧ T.Nodup ∧ T.length ≤ 1000 ∧ (∀ m ∈ T, m.ok = true) ∧ RunOk T b ∧ ds = [.adr a, tabD T b] ∧ c = 340 ∧ O = fun d => d = .bl true
theorem ok95 (F : Fun K "_law_tour_right" "_law_tour_right" (topS 95) f fd) (c86 : Cal P w K mg base k "_law_heap" (spN K pre86)) (c87 : Cal P w K mg base k "_law_reached" (spD K pre87)) (c68 : Cal P w K mg base k "properties_of" (spD K pre68)) (c94 : Cal P w K mg base k "_law_tour" (spN K pre94)) (c89 : Cal P w K mg base k "_law_has" (spD K pre89))
    (m1 : mg "range" = none) (m2 : mg "len" = none) (m3 : mg "all" = none) : FnOk P w K mg base CX0 (k + 1) f fd ["_law_pot_here", "_law_grid"] (spN K pre95) := by
  refine def_n F sc95 (fun R ds c O ⟨_, _, _, _, _, _, _, _, h, _⟩ => by rw [h]; rfl) fun cdv A outer s H E hr R ds c O ⟨a, T, b, PR, hnd, hTl, hT, hRun, hds, hc, hO⟩ => ?_
  subst hds hc hO
  walk_at "gn"
  refine sn_le (c1 := 59 + 281) ?_ (Nat.le_refl _) fun _ h => h
  walk_at "nset1"
  case h =>
    refine' nx_call (c1 := 0) (c2 := 59) (OL := fun ds => ds = [.adr a, .int 7, .int 4]) (O := fun d => ∃ h : Hea, h.Ok ∧ d = heaD h) c86 ?_ (na_ax ?_) ?_ ?_ ?_ ?_ ?_
    all_goals try walk_at "ev"
    rintro _ rfl
    exact ⟨_, ⟨a, PR, rfl, rfl, rfl⟩, fun _ h => h⟩
  rintro _ ⟨h, hO, rfl⟩
  have O0 := Hea.start_ok hO
  walk_at "gsn"
  have p87 : pre87 [.tup (h.slots.map rowD), .tup (h.held.map heldD)] (.lst ((reachedF h.start).map natD)) := ⟨h.start, O0, rfl, rfl⟩
  have p68 : pre68 [tabD T b] (.tup ((propsF T b).map wdD)) := ⟨T, b, hnd, hTl, rfl, rfl⟩
  have hn7 := hO.n7
  (with_reducible apply sn_pure)
  (with_reducible apply s1_setl (ds := (goneF h).map natD)) <;> walk_at "ev"
  · show SLX _ _ _ _ _ _ (((List.range h.slots.length).filter fun n => !decide (n ∈ reachedF h.start)).map natD)
    (with_reducible apply sl_fil1 [("_law_number", 6)] N95 (defScope (topS 95)) (List.range h.slots.length) natD (fun n => !decide (n ∈ reachedF h.start))) <;> walk_at "ev"
    · omega
    · rw [List.length_range, sizeLine_eq]; omega
    · intro n hn
      walk_at "t1"
  (with_reducible apply sn_pure)
  (with_reducible apply s1_set1 (d := .tup ((propsF T b).map wdD))) <;> walk_at "ev"
  refine sn_le (c1 := 281 + 141 * 0 + 0) ?_ (Nat.le_refl _) fun _ h => h
  refine sn_for (c1 := 281) (c2 := 0) (c3 := 0) (m := 141) (OL := fun ys => ∃ Ss : List Sta, ys = Ss.map staD ∧ Ss.length ≤ 141 ∧ ∀ S ∈ Ss, Run T b h.start S) (fun _ k e0 => e0 = E95 a T b h) ?_ ?_ ?_ ?_ ?_ ?_ ?_
  · refine nix_lst ?_
    refine' nx_call (c1 := 0) (c2 := 281) (OL := fun ds => ds = [.adr a, tabD T b, heaD h]) c94 ?_ (na_ax ?_) ?_ ?_ ?_ ?_ ?_
    all_goals try walk_at "ev"
    rintro _ rfl
    exact ⟨_, ⟨a, T, b, h, PR, hT, hO, rfl, rfl, rfl⟩, fun d ⟨Ss, e, l, r⟩ => ⟨Ss.map staD, e, Ss, rfl, l, r⟩⟩
  · rintro _ ⟨Ss, rfl, l, r⟩
    rw [List.length_map]; exact l
  · exact fun _ _ => rfl
  · rintro _ k d _ ⟨Ss, rfl, l, r⟩ hk rfl
    obtain ⟨S, hS, rfl⟩ : ∃ S, S ∈ Ss ∧ d = staD S := by
      rw [List.getElem?_map] at hk
      cases h : Ss[k]? with
      | none => rw [h] at hk; cases hk
      | some z => rw [h] at hk; exact ⟨z, List.mem_of_getElem? h, (Option.some.inj hk).symm⟩
    have rn := r S hS
    have O := rn.ok O0
    have h1 := hRun.has h S hO rn
    have h2 := hRun.gone h S hO rn
    have h3 : h.slots.length ≤ S.cols.length := by rw [O.cl]; exact rn.len
    dsimp only [E95]
    walk_at "gsn"
    refine sn_le (c1 := 0 + (0 + (0 + (0 + 0)))) ?_ (Nat.le_refl _) fun _ h => h
    refine sn_ifret (O2 := fun _ => False) (B := fun k => k = false) (c1 := 0) (c2 := 0) (nt_tx (k := false) ?_) (fun h => nomatch h) (fun _ h => h) (fun _ h => h.elim) fun _ => ?_
    · refine tx_is (tx_not (k := (((propsF T b).map fun t => hasF b S t)).all id) (tx_val ?_ ?_)) ?_
      · (with_reducible apply ex_all)
        case ha =>
          refine ax_cons (ex_of_fx (ds := ((propsF T b).map fun t => hasF b S t).map D.bl) ?_) ax_nil ?_
          · (with_reducible apply lc_mapc [("_law_term", 7)] N95 (defScope (topS 95)) (propsF T b) wdD D.bl (fun t => hasF b S t)) <;> walk_at "ev"
            · have : (propsF T b).length ≤ 6 := List.length_filter_le _ wds
              rw [sizeLine_eq]; omega
            · intro t ht
              have p89 : pre89 [.bl b, staD S, wdD t] (.bl (hasF b S t)) := ⟨b, S, t, O, rfl, rfl⟩
              walk_at "t1"
          · walk_at "ev"
        case hc => exact c_all rfl
        all_goals walk_at "ev"
      · walk_at "ev"
      · rw [Bool.not_eq_false', List.all_map, List.all_eq_true]
        exact h1
    refine sn_ifret (O2 := fun _ => False) (B := fun k => k = false) (c1 := 0) (c2 := 0) (nt_tx (k := false) ?_) (fun h => nomatch h) (fun _ h => h) (fun _ h => h.elim) fun _ => ?_
    · refine tx_is (tx_not (k := (((goneF h).map fun n => decide (S.col n = .white))).all id) (tx_val ?_ ?_)) ?_
      · (with_reducible apply ex_all)
        case ha =>
          refine ax_cons (ex_of_fx (ds := ((goneF h).map fun n => decide (S.col n = .white)).map D.bl) ?_) ax_nil ?_
          · (with_reducible apply lc_mapc [("_law_number", 6)] N95 (defScope (topS 95)) (goneF h) natD D.bl (fun n => decide (S.col n = .white))) <;> walk_at "ev"
            · have h1 : (goneF h).length ≤ (List.range h.slots.length).length := List.length_filter_le _ _
              rw [List.length_range] at h1
              rw [sizeLine_eq]; omega
            · intro n hn
              have hn2 := List.mem_range.mp (List.mem_filter.mp hn).1
              have ha := at_map (f := colD) (col_at (S := S) (n := n) (by omega))
              walk_at "t1"
          · walk_at "ev"
        case hc => exact c_all rfl
        all_goals walk_at "ev"
      · walk_at "ev"
      · rw [Bool.not_eq_false', List.all_map, List.all_eq_true]
        intro n hn
        obtain ⟨q1, q2⟩ := List.mem_filter.mp hn
        refine decide_eq_true (h2 n (List.mem_range.mp q1) fun z => ?_)
        rw [decide_eq_true z] at q2
        cases q2
    refine sn_le (sn_nile ?_) (Nat.le_refl _) fun o h => .inl ⟨_, h, rfl⟩
    walk_at "le"
  · rintro _ _ ⟨Ss, rfl, l, r⟩ rfl
    refine sn_le (sn_ret (nx_ex (d := .bl true) ?_)) (Nat.le_refl _) fun _ h => h
    walk_at "ev"
  · walk_at "sy"
  · exact PassesOwn.never
end
set_option maxRecDepth 100000
set_option maxHeartbeats 4000000
/-- the code table at P0 may change, to its rule -/
structure LamR (R : Rsc) (P0 : Addr) (q : Str) : Prop where
  z : P0 ∈ R.Z
  get : ∀ {n : Nat} {H : Hp}, R.Φ n H → LamX.TabS H P0 q
  put : ∀ {n : Nat} {H H' : Hp}, R.Φ n H → LamX.TabS H' P0 q → (∀ b o, b ≠ P0 → H b = some o → H' b = some o) → R.Φ n H'
@[reducible] def pricesD (L : List (Mk × Int)) (oc : D) : D := .tup [.tpl (L.map priD), oc]
def pre74 (P0 : Addr) (q : Str) (R : Rsc) (ds : List D) (c : Nat) (O : D → Prop) : Prop := ∃ (T : List Mk) (b : Bool) (L : List (Mk × Int)) (oc : D), LamR R P0 q ∧ T.Nodup ∧ T.length ≤ 36 ∧ (∀ m ∈ T, m.ok = true) ∧ L.map (·.1) = allMs ∧ (∀ p ∈ L, 0 ≤ p.2 ∧ p.2 ≤ 1000) ∧
  (oc = .non ∨ oc = .int 1 ∨ oc = .int 9) ∧ ds = [tabD T b, pricesD L oc, .str "safe"] ∧ c = 0 ∧ O = fun d => ∃ (tot : Int) (T' : List Mk) (b' : Bool), d = .tup [.int tot, tabD T' b'] ∧ T'.Nodup ∧ T'.length ≤ 63 ∧ (∀ m ∈ T', m.ok = true) ∧ holdsF T' b' .safe = true
section
variable {P : Program} {w : World} {K : PySem.W.Frag} {mg : Str → Option Value} {base : Heap} {k : Nat} {f : Addr} {fd : FuncData} {P0 : Addr} {q : Str}
@[reducible] def N96 : List Str := ["_law_pot_here", "_law_prices", "_law_grid", "_law_known", "_law_mark"]
theorem sc96 : Sc N96 ["_law_pot_here"] (topS 96) := ⟨⟨rfl, rfl, rfl, by decide +kernel, rfl, by decide +kernel, by decide +kernel⟩, by decide +kernel⟩
def pre96 (P0 : Addr) (q : Str) (R : Rsc) (ds : List D) (c : Nat) (O : D → Prop) : Prop := ∃ a : Addr, PotR R a ∧ LamR R P0 q ∧ ds = [.adr a] ∧ c = 2000 ∧ O = fun d => d = .bl true
/-- what the mathematics gives -/
structure MathOk : Prop where
  run : ∀ (T : List Mk) (b : Bool), (∀ m ∈ T, m.ok = true) → RunOk T b
  known : ∀ kw ∈ [Kw.value, .holder, .both, .load], holdsF (knownT kw) (decide (kw ∈ [Kw.value, .holder])) .safe = true ∧ (knownT kw).Nodup ∧ (knownT kw).length ≤ 1000 ∧ ∀ m ∈ knownT kw, m.ok = true
theorem all2_pri : ∀ {ms : List Mk} {ds : List D}, All2 (fun m d => ∃ v : Nat, v ≤ 9 ∧ d = priD (m, (v : Int))) ms ds → ∃ L : List (Mk × Int), ds = L.map priD ∧ L.map (·.1) = ms ∧ ∀ p ∈ L, 0 ≤ p.2 ∧ p.2 ≤ 1000
  | _, _, .nil => ⟨[], rfl, rfl, fun p h => by simp at h⟩
  | _, _, .cons ⟨v, hv, e⟩ t => by
    obtain ⟨L, e1, e2, e3⟩ := all2_pri t
    refine ⟨(_, (v : Int)) :: L, by rw [e, e1]; rfl, by rw [List.map_cons, e2], fun p hp => ?_⟩
    rcases List.mem_cons.mp hp with rfl | hp
    · exact ⟨by show (0 : Int) ≤ v; omega, by show (v : Int) ≤ 1000; omega⟩
    · exact e3 p hp
theorem ok96 (M : MathOk) (F : Fun K "_law_right" "_law_right" (topS 96) f fd) (c76 : Cal P w K mg base k "_law_take" (spN K pre76)) (c85 : Cal P w K mg base k "_law_of" (spN K pre85)) (c21 : Cal P w K mg base k "all_marks" (spD K pre21)) (c92 : Cal P w K mg base k "_law_table" (spN K pre92)) (c74 : Cal P w K mg base k "cheapest" (spN K (pre74 P0 q)))
    (c67 : Cal P w K mg base k "holds" (spD K pre67)) (c95 : Cal P w K mg base k "_law_tour_right" (spN K pre95)) (c25 : Cal P w K mg base k "known_table" (spD K pre25)) (c68 : Cal P w K mg base k "properties_of" (spD K pre68)) (m1 : mg "tuple" = none) : FnOk P w K mg base CX0 (k + 1) f fd ["_law_pot_here"] (spN K (pre96 P0 q)) := by
  refine def_n F sc96 (fun R ds c O ⟨_, _, _, h, _⟩ => by rw [h]; rfl) fun cdv A outer s H E hr R ds c O ⟨a, PR, LR, hds, hc, hO⟩ => ?_
  subst hds hc hO
  walk_at "gn"
  have p21 : pre21 [] (.tup (allMs.map mkD)) := ⟨rfl, rfl⟩
  refine sn_le (c1 := 1001 + (270 + (340 + (0 + (1 + 340))))) ?_ (by decide) fun _ h => h
  walk_at "nset1"
  case h =>
    refine' nx_tup (OL := fun ds => ∃ (L : List (Mk × Int)) (oc : D), L.map (·.1) = allMs ∧ (∀ p ∈ L, 0 ≤ p.2 ∧ p.2 ≤ 1000) ∧ (oc = .non ∨ oc = .int 1 ∨ oc = .int 9) ∧ ds = [.tpl (L.map priD), oc]) (O := fun d => ∃ (L : List (Mk × Int)) (oc : D), L.map (·.1) = allMs ∧ (∀ p ∈ L, 0 ≤ p.2 ∧ p.2 ≤ 1000) ∧ (oc = .non ∨ oc = .int 1 ∨ oc = .int 9) ∧ d = pricesD L oc) (na_cons (c1 := 1000) (c2 := 1) (O1 := fun d => ∃ L : List (Mk × Int), L.map (·.1) = allMs ∧ (∀ p ∈ L, 0 ≤ p.2 ∧ p.2 ≤ 1000) ∧ d = .tpl (L.map priD)) (OL := fun ds => ∃ oc : D, (oc = .non ∨ oc = .int 1 ∨ oc = .int 9) ∧ ds = [oc]) (nx_callTy (T := "tuple") (c := 1000) (OL := fun ds => ∃ L : List (Mk × Int), L.map (·.1) = allMs ∧ (∀ p ∈ L, 0 ≤ p.2 ∧ p.2 ≤ 1000) ∧ ds = [.lst (L.map priD)]) (na_cons (c1 := 1000) (c2 := 0) (O1 := fun d => ∃ L : List (Mk × Int), L.map (·.1) = allMs ∧ (∀ p ∈ L, 0 ≤ p.2 ∧ p.2 ≤ 1000) ∧ d = .lst (L.map priD)) (nx_le (nx_lcE [("_law_mark", 4)] N96 (defScope (topS 96)) allMs mkD (fun m d => ∃ v : Nat, v ≤ 9 ∧ d = priD (m, (v : Int))) 1 (ix_tup (ex_call0 c21 hr p21 ?_ ?_)) ?_ ?_ ?_ ?_ ?_ ?_ ?_ ?_) ?_ ?_) na_nil ?_ ?_) ?_ ?_ ?_ ?_ ?_ ?_ ?_ ?_) (na_cons (c1 := 1) (c2 := 0) (O1 := fun oc => oc = .non ∨ oc = .int 1 ∨ oc = .int 9) (nx_le (nx_of (dd := .lst [.non, .int 1, .int 9]) (xs := [.non, .int 1, .int 9]) c85 PR sq_l (by decide) (by decide) ?_ ?_ ?_ ?_ ?_ ?_) (Nat.le_refl _) ?_) na_nil ?_ ?_) ?_ ?_) ?_
    all_goals try walk_at "ev"
    · have := allMs_len; rw [sizeLine_eq]; omega
    · intro z hz
      walk_at "gsn"
      refine' nx_tup (OL := fun ds => ∃ v : Nat, v ≤ 9 ∧ ds = [mkD z, .int (v : Int)]) (na_cons (c1 := 0) (c2 := 1) (OL := fun ds => ∃ v : Nat, v ≤ 9 ∧ ds = [.int (v : Int)]) (nx_ex (d := mkD z) ?_) (na_cons (c1 := 1) (c2 := 0) (O1 := fun d => ∃ v : Nat, v ≤ 9 ∧ d = .int (v : Int)) (nx_bin (c1 := 0) (c2 := 1) (nx_ex (d := .int 1) ?_) (nx_take (many := 9) ?_ PR (by omega) (by omega) ?_ ?_ ?_ ?_ ?_ ?_) ?_) na_nil ?_ ?_) ?_ ?_) ?_
      all_goals try walk_at "ev"
      · rintro _ _ rfl ⟨v, rfl, hv⟩
        exact ⟨_, o_add, 1 + v, by omega, natD_1add v⟩
      · rintro _ _ ⟨v, hv, rfl⟩ rfl
        exact ⟨v, hv, rfl⟩
      · rintro _ _ rfl ⟨v, hv, rfl⟩
        exact ⟨v, hv, rfl⟩
      · rintro _ ⟨v, hv, rfl⟩
        exact ⟨by rw [sizeLine_eq]; exact Nat.le_of_ble_eq_true rfl, v, hv, rfl⟩
    · have := allMs_len; omega
    · rintro _ ⟨ds, rfl, h⟩
      obtain ⟨L, rfl, h1, h2⟩ := all2_pri h
      exact ⟨L, h1, h2, rfl⟩
    · rintro _ _ ⟨L, h1, h2, rfl⟩ rfl
      exact ⟨L, h1, h2, rfl⟩
    · rintro _ ⟨L, h1, h2, rfl⟩
      exact ⟨_, c_tplL, L, h1, h2, rfl⟩
    · intro d hd
      simpa using hd
    · rintro _ _ h rfl
      exact ⟨_, h, rfl⟩
    · rintro _ _ ⟨L, h1, h2, rfl⟩ ⟨oc, h3, rfl⟩
      exact ⟨L, oc, h1, h2, h3, rfl⟩
    · rintro _ ⟨L, oc, h1, h2, h3, rfl⟩
      exact ⟨by rw [sizeLine_eq]; exact Nat.le_of_ble_eq_true rfl, L, oc, h1, h2, h3, rfl⟩
  rintro _ ⟨L, oc, hL, hL2, hoc, rfl⟩
  walk_at "gsn"
  walk_at "nset1"
  case h =>
    refine' nx_ixp (c := 270) (i := 1) (O1 := fun d => ∃ (tot : Int) (T' : List Mk) (b' : Bool), d = .tup [.int tot, tabD T' b'] ∧ T'.Nodup ∧ T'.length ≤ 63 ∧ (∀ m ∈ T', m.ok = true) ∧ holdsF T' b' .safe = true) (O := fun d => ∃ (T' : List Mk) (b' : Bool), d = tabD T' b' ∧ T'.Nodup ∧ T'.length ≤ 63 ∧ (∀ m ∈ T', m.ok = true) ∧ holdsF T' b' .safe = true) (nx_call (c1 := 270) (c2 := 0) (OL := fun ds => ∃ (T : List Mk) (b : Bool), T.Nodup ∧ T.length ≤ 36 ∧ (∀ m ∈ T, m.ok = true) ∧ ds = [tabD T b, pricesD L oc, .str "safe"]) c74 ?_ (na_cons (c1 := 270) (c2 := 0) (O1 := fun d => ∃ (T : List Mk) (b : Bool), T.Nodup ∧ T.length ≤ 36 ∧ (∀ m ∈ T, m.ok = true) ∧ d = tabD T b) (nx_call (c1 := 0) (c2 := 270) (OL := fun ds => ds = [.adr a]) c92 ?_ (na_ax ?_) ?_ ?_ ?_ ?_ ?_) (na_ax (ds := [pricesD L oc, .str "safe"]) ?_) ?_ ?_) ?_ ?_ ?_ ?_ ?_) ?_ ?_ ?_
    all_goals try walk_at "ev"
    · rintro _ rfl
      exact ⟨_, ⟨a, PR, rfl, rfl, rfl⟩, fun _ h => h⟩
    · rintro _ _ ⟨T, b, h1, h2, h3, rfl⟩ rfl
      exact ⟨T, b, h1, h2, h3, rfl⟩
    · rintro _ ⟨T, b, h1, h2, h3, rfl⟩
      exact ⟨_, ⟨T, b, L, oc, LR, h1, h2, h3, hL, hL2, hoc, rfl, rfl, rfl⟩, fun _ h => h⟩
    · rintro _ ⟨tot, T', b', rfl, h⟩
      exact ⟨_, tabD T' b', rfl, rfl, T', b', rfl, h⟩
  rintro _ ⟨T, b, rfl, hT1, hT2, hT3, hT4⟩
  walk_at "gsn"
  have p67 : pre67 [tabD T b, .str "safe"] (.bl (holdsF T b .safe)) := ⟨T, b, .safe, hT1, by omega, rfl, rfl⟩
  refine sn_ifret (O2 := fun _ => False) (B := fun k => k = false) (c1 := 340) (c2 := 0) (c3 := 1 + 340) (nt_or (c1 := 0) (c2 := 340) (B1 := fun k => k = false) (B2 := fun k => k = false) (nt_tx (k := false) ?_) (nt_le (nt_not (B := fun k => k = true) (nt_val (c := 340) ?_ ?_)) (Nat.le_refl _) ?_) ⟨(fun h => nomatch h), fun k _ h => h⟩) (fun h => nomatch h) (fun _ h => h) (fun _ h => h.elim) fun _ => ?_
  · refine tx_is (tx_not (k := holdsF T b .safe) (tx_val ?_ ?_)) (by rw [hT4]; rfl)
    · walk_at "ev"
    · walk_at "ev"
  · refine' nx_le (c := 340) (nx_call (c1 := 0) (c2 := 340) (OL := fun ds => ds = [.adr a, tabD T b]) (O := fun d => d = .bl true) c95 ?_ (na_ax ?_) ?_ ?_ ?_ ?_ ?_) (Nat.le_refl _) ?_
    all_goals try walk_at "ev"
    · rintro _ rfl
      exact ⟨_, ⟨a, T, b, PR, hT1, by omega, hT3, M.run T b hT3, rfl, rfl, rfl⟩, fun _ h => h⟩
    · exact fun d h => ⟨true, h, rfl⟩
  · walk_at "ev"
  · intro k h
    cases k with
    | false => rfl
    | true => cases h
  walk_at "nset1"
  case h =>
    refine' nx_callP (c := 1) (OL := fun ds => ∃ kw ∈ [Kw.value, .holder, .both, .load], ds = [kwD kw]) (O := fun d => ∃ kw ∈ [Kw.value, .holder, .both, .load], d = tabD (knownT kw) (decide (kw ∈ [Kw.value, .holder]))) c25 ?_ (na_cons (c1 := 1) (c2 := 0) (O1 := fun d => ∃ kw ∈ [Kw.value, .holder, .both, .load], d = kwD kw) (nx_le (nx_of (dd := .lst [.str "value", .str "holder", .str "both", .str "load"]) (xs := [Kw.value, .holder, .both, .load].map kwD) c85 PR sq_l (by decide) (by decide) ?_ ?_ ?_ ?_ ?_ ?_) (Nat.le_refl _) ?_) na_nil ?_ ?_) ?_ ?_ ?_ ?_ ?_
    all_goals try walk_at "ev"
    · intro d hd
      obtain ⟨kw, h1, rfl⟩ := List.mem_map.mp hd
      exact ⟨kw, h1, rfl⟩
    · rintro _ _ ⟨kw, h1, rfl⟩ rfl
      exact ⟨kw, h1, rfl⟩
    · rintro _ ⟨kw, h1, rfl⟩
      exact ⟨_, ⟨kw, rfl, rfl⟩, kw, h1, rfl⟩
  rintro _ ⟨kw, hkw, rfl⟩
  obtain ⟨q1, q2, q3, q4⟩ := M.known kw hkw
  generalize knownT kw = T2 at q1 q2 q3 q4
  generalize decide (kw ∈ [Kw.value, .holder]) = b2 at q1
  walk_at "gsn"
  have p68 : pre68 [tabD T2 b2] (.tup ((propsF T2 b2).map wdD)) := ⟨T2, b2, q2, q3, rfl, rfl⟩
  have hin : Wd.safe ∈ propsF T2 b2 := List.mem_filter.mpr ⟨by decide, q1⟩
  refine' sn_ret (nx_le (c := 340) (nx_and (k1 := true) (B := fun k => k = true) ?_ (fun _ => nx_le (c := 340) (nx_call (c1 := 0) (c2 := 340) (OL := fun ds => ds = [.adr a, tabD T2 b2]) (O := fun d => d = .bl true) c95 ?_ (na_ax ?_) ?_ ?_ ?_ ?_ ?_) (Nat.le_refl _) ?_) (fun h => nomatch h)) (Nat.le_refl _) ?_)
  all_goals try walk_at "ev"
  · have h := o_inTE (X := Bdy P w K mg base N96 "_law_right" (defScope (topS 96)) f cdv A outer s H E) (α := Wd) (a := .safe) (xs := propsF T2 b2) (ru hr)
    rw [decide_eq_true hin] at h
    exact h
  · rintro _ rfl
    exact ⟨_, ⟨a, T2, b2, PR, q2, q3, q4, M.run T2 b2 q4, rfl, rfl, rfl⟩, fun _ h => h⟩
  · exact fun d h => ⟨true, h, rfl⟩
  · rintro d ⟨k, rfl, rfl⟩
    rfl
end
set_option maxRecDepth 100000
set_option maxHeartbeats 4000000
theorem tabS_stb {P0 : Addr} {q : Str} {H H' : Hp} (h : LamX.TabS H P0 q) (k : ∀ b o, H b = some o → (b = P0 ∨ ¬ Mut o) → H' b = some o) : LamX.TabS H' P0 q := by
  obtain ⟨ps, h1, h2, h3⟩ := h
  refine ⟨ps, k _ _ h1 (.inl rfl), h2, fun pos cv hc => ?_⟩
  obtain ⟨c, e1, e2⟩ := h3 pos cv hc
  refine ⟨c, e1, k _ _ e2 (.inr fun m => ?_)⟩
  unfold LamX.CodeO at m
  rcases m with ⟨_, m⟩ | ⟨_, m⟩ <;> cases m
theorem nix_le {R : Rsc} {X : Cx} {tg iter : Expr} {r : Rho} {c : Nat} {O O' : List D → Prop} (h : NIX R X tg iter r c O) (ho : ∀ ys, O ys → O' ys) : NIX R X tg iter r c O' := .mk fun C L σ H S n hM dm z ph I q => h.run C L σ H S n hM dm z ph I fun ys J H' f p o w => q ys J H' f p (ho ys o) w
/-- the code table alone -/
def tabR (P0 : Addr) (q : Str) : Rsc where
  Z := [P0]
  Φ := fun _ H => LamX.TabS H P0 q
  stb := fun h k => tabS_stb h fun b o e c => k b o e (c.imp (fun z => by rw [z]; exact List.mem_singleton.mpr rfl) id)
  up := fun _ h => h
/-- a pot and the code table -/
def potTabR (a P0 : Addr) (q : Str) : Rsc where
  Z := [a, P0]
  Φ := fun n H => Pot a n H ∧ LamX.TabS H P0 q
  stb := fun ⟨⟨o, b, c, h, r⟩, t⟩ k => ⟨⟨o, b, c, k _ _ h (.inl List.mem_cons_self), r⟩, tabS_stb t fun b o e c => k b o e (c.imp (fun z => by rw [z]; exact List.mem_cons_of_mem _ (List.mem_singleton.mpr rfl)) id)⟩
  up := fun hn ⟨⟨o, b, c, h, r1, r2, r3, r4, r5⟩, t⟩ => ⟨⟨o, b, c, h, r1, r2, r3, r4, by omega⟩, t⟩
theorem pot_ne {a P0 : Addr} {q : Str} {n : Nat} {H : Hp} (p : Pot a n H) (t : LamX.TabS H P0 q) : a ≠ P0 := fun z => by
  obtain ⟨_, _, _, h, _⟩ := p
  obtain ⟨_, h1, _⟩ := t
  rw [z, h1] at h; cases h
theorem potTab_pot {a P0 : Addr} {q : Str} : PotR (potTabR a P0 q) a where
  z := List.mem_cons_self
  get := fun h => h.1
  put := fun {n m H H'} h _ p k => ⟨p, tabS_stb h.2 fun b o e c => k b o (fun z => by
    obtain ⟨_, _, _, ha, _⟩ := h.1
    rw [z, ha] at e
    cases e
    rcases c with c | c
    · exact pot_ne h.1 h.2 (z.symm.trans c)
    · exact c mut_lst) e⟩
theorem potTab_lam {a P0 : Addr} {q : Str} : LamR (potTabR a P0 q) P0 q where
  z := List.mem_cons_of_mem _ (List.mem_singleton.mpr rfl)
  get := fun h => h.2
  put := fun {n H H'} h t k => ⟨let ⟨o, b, c, e, r⟩ := h.1; ⟨o, b, c, k _ _ (pot_ne h.1 h.2) e, r⟩, t⟩
section
variable {X : Cx} {e : Expr} {r : Rho} {p pos : Pos} {k : Nat} {P0 : Addr} {q : Str} {own bs : Int}
theorem nx_right (c96 : Cal X.prog X.w X.K X.mg X.base k "_law_right" (spN X.K (pre96 P0 q))) (h0 : 0 ≤ own) (h1 : 0 ≤ bs) (h2 : bs < 2305843009213693907) (hr : Room k X.A) (h : FX X e r [.int own, .int bs, .int 0]) (hg : Gl X "_law_right") (hdb : (("_law_right" : Str) == ("__debug__" : Str)) = false)
    (he : starEach [e] X.env = (false, eval e X.env) :: starEach [] X.env) (hpl : (backTo pos (starEach [] X.env)).any (·.1) = false) : NX (tabR P0 q) X (.Call (.Name "_law_right" p) [e] [] pos) r 0 (fun d => d = .bl true) := by
  refine .mk fun C L σ H Q n hM dm z ph I qk => ?_
  obtain ⟨f, fd, ps, F, hm, hk, hb⟩ := c96.ex
  refine we_of (pe_call F hr hg hm hk hb .nil pass0 (pa_cons (pe_w X e) pa_nil he) hdb he hpl) ?_
  refine h C L σ H _ dm I fun a xs H1 np s1 hp l => ?_
  show spN X.K (pre96 P0 q) [V.ref a] H1 Q E0
  have hxs : xs = [.int own, .int bs, .int 0] := by
    cases l with
    | cons x1 t =>
      cases t with
      | cons x2 t =>
        cases t with
        | cons x3 t =>
          cases t
          rw [is_int x1, is_int x2, is_int x3]
  have t1 : LamX.TabS H1 P0 q := (tabR P0 q).st (n := n) ph s1
  have pt : Pot a 0 H1 := ⟨own, bs, 0, by rw [hp, hxs], h0, h1, h2, Int.le_refl _, Int.le_refl _⟩
  refine ⟨potTabR a P0 q, a :: L, [.adr a], 2000, _, 0, ⟨a, potTab_pot, potTab_lam, rfl, rfl, rfl⟩, by decide, dom_cons (dm.mono s1) hp, fun b hb => ?_, ⟨pt, t1⟩, .cons (.adr a) .nil, fun d v H2 f2 p2 o2 i2 => qk d v H2 ⟨fun b o nz hb => ?_, fun b hb => ?_⟩ p2.2 o2 ?_⟩
  · rcases List.mem_cons.mp hb with rfl | hb
    · exact List.mem_cons_self
    · exact List.mem_cons_of_mem _ (z b hb)
  · refine f2.1 b o (fun hz => ?_) (s1 b o hb)
    rcases List.mem_cons.mp hz with rfl | hz
    · rw [np] at hb; cases hb
    · exact nz hz
  · refine f2.2 b fun hn => ?_
    cases q : H b with
    | none => exact hb q
    | some o => rw [s1 b o q] at hn; cases hn
  · rw [o2] at i2 ⊢
    rw [is_bl i2]
    exact .bl _
end
section
variable {P : Program} {w : World} {K : PySem.W.Frag} {mg : Str → Option Value} {base : Heap} {k : Nat} {f : Addr} {fd : FuncData} {P0 : Addr} {q : Str}
@[reducible] def N97 : List Str := ["_law_script", "_law_k"]
theorem sc97 : Sc N97 ["_law_script"] (topS 97) := ⟨⟨rfl, rfl, rfl, by decide +kernel, rfl, by decide +kernel, by decide +kernel⟩, by decide +kernel⟩
def pre97 (P0 : Addr) (q : Str) (R : Rsc) (ds : List D) (c : Nat) (O : D → Prop) : Prop := ∃ (ob : Option Obj) (cs : List Int), R = tabR P0 q ∧ ds = [scD ob cs] ∧ c = 0 ∧ O = fun d => d = .bl true
theorem ok97 (F : Fun K "law" "law" (topS 97) f fd) (c96 : Cal P w K mg base k "_law_right" (spN K (pre96 P0 q))) (c93 : Cal P w K mg base k "_law_pot" (spF K pre93)) (m1 : mg "range" = none) (m2 : mg "max" = none) (m3 : mg "min" = none) (m4 : mg "len" = none) : FnOk P w K mg base CX0 (k + 1) f fd ["_law_script"] (spN K (pre97 P0 q)) := by
  refine def_n F sc97 (fun R ds c O ⟨_, _, _, h, _⟩ => by rw [h]; rfl) fun cdv A outer s H E hr R ds c O ⟨ob, cs, hR, hds, hc, hO⟩ => ?_
  subst hR hds hc hO
  walk_at "gn"
  refine sn_le (c1 := 0 + 2 * 0 + 0) ?_ (Nat.le_refl _) fun _ h => h
  refine sn_for (c1 := 0) (c2 := 0) (c3 := 0) (m := 2) (OL := fun ys => ∃ n, n ≤ 2 ∧ ys = (List.range n).map natD) (fun _ k e0 => e0 = ([("_law_script", .d (scD ob cs)), ("_law_k", .u)] : List (Str × Ev))) ?_ ?_ ?_ ?_ ?_ ?_ ?_
  · obtain ⟨N, hN, e⟩ : ∃ N : Nat, N ≤ 2 ∧ (N : Int) = (if (if (cs.length : Int) < 2 then (cs.length : Int) else 2) > 1 then (if (cs.length : Int) < 2 then (cs.length : Int) else 2) else 1) := by
      by_cases h1 : (cs.length : Int) < 2
      · rw [if_pos h1]
        by_cases h2 : (cs.length : Int) > 1
        · rw [if_pos h2]; exact ⟨cs.length, by omega, rfl⟩
        · rw [if_neg h2]; exact ⟨1, by omega, rfl⟩
      · rw [if_neg h1, if_pos (by omega)]; exact ⟨2, by omega, rfl⟩
    refine nix_le (nix_ix (ix_rangec (n := N) ?_ (by omega) ?_ ?_ ?_)) fun ys h => ⟨N, hN, h⟩
    · rw [e]; walk_at "ev"
      exact c_lenSc
    all_goals walk_at "ev"
  · rintro _ ⟨n, hn, rfl⟩
    rw [List.length_map, List.length_range]; exact hn
  · exact fun _ _ => rfl
  · rintro _ k d _ ⟨n, hn, rfl⟩ hk rfl
    have hkl : k < n := by
      have := (List.getElem?_eq_some_iff.mp hk).1
      rwa [List.length_map, List.length_range] at this
    have hd : d = natD k := by
      rw [List.getElem?_map, List.getElem?_range hkl] at hk
      exact (Option.some.inj hk).symm
    subst hd
    walk_at "gsn"
    have p93 : pre93 [scD ob cs, natD k] [.int (potOwn (potCell cs k)), .int (potBase (potCell cs k) k), .int 0] := ⟨ob, cs, k, by omega, rfl, rfl⟩
    have hb := potBase_nn (potCell cs k) k
    refine sn_le (c1 := 0 + (0 + 0)) ?_ (Nat.le_refl _) fun _ h => h
    refine sn_ifret (O2 := fun _ => False) (B := fun k => k = false) (c1 := 0) (c2 := 0) (nt_le (nt_not (B := fun k => k = true) (nt_val (c := 0) (nx_le (nx_right c96 (potOwn_nn (potCell cs k)) hb.1 hb.2 ?_ ?_ ?_ ?_ ?_ ?_) (Nat.le_refl _) fun d h => ⟨true, h, rfl⟩) ?_)) (Nat.le_refl _) ?_) (fun h => nomatch h) (fun _ h => h) (fun _ h => h.elim) fun _ => ?_
    all_goals try walk_at "ev"
    · intro k h
      cases k with
      | false => rfl
      | true => cases h
    · refine sn_le (sn_nile ?_) (Nat.le_refl _) fun o h => .inl ⟨_, h, rfl⟩
      walk_at "le"
  · rintro _ _ ⟨n, hn, rfl⟩ rfl
    refine sn_le (sn_ret (nx_ex (d := .bl true) ?_)) (Nat.le_refl _) fun _ h => h
    walk_at "ev"
  · walk_at "sy"
  · exact PassesOwn.never
end
set_option maxRecDepth 100000
set_option maxHeartbeats 4000000
@[reducible] def priM (P : Program) (w : World) (L : List (Mk × Int)) : D := mdD P w (L.map fun p => (p.1, V.int p.2))
def pre70 (P : Program) (w : World) (P0 : Addr) (q : Str) (R : Rsc) (ds : List D) (c : Nat) (O : D → Prop) : Prop := ∃ (ms : List Mk) (L : List (Mk × Int)), LamR R P0 q ∧ (L.map (·.1)).Nodup ∧ L.length ≤ 1000 ∧ 0 < ms.length ∧ ms.length ≤ 1000 ∧ (∀ m ∈ ms, m ∈ L.map (·.1)) ∧ ds = [mksD ms, priM P w L] ∧ c = 0 ∧ O = fun d => ∃ m ∈ ms, d = mkD m
/-- ms closes what T leaves open of g -/
def Closes (T : List Mk) (g : Gap) (ms : List Mk) : Prop := All2 (fun l m => m ∈ l) (openM T g) ms
section
variable {P : Program} {w : World} {K : PySem.W.Frag} {mg : Str → Option Value} {base : Heap} {k : Nat} {f : Addr} {fd : FuncData} {P0 : Addr} {q : Str}
@[reducible] def N71 : List Str := ["table", "known", "found", "gap", "missing", "chosen", "some", "mark"]
theorem sc71 : Sc N71 ["table", "known"] (topS 71) := ⟨⟨rfl, rfl, rfl, by decide +kernel, rfl, by decide +kernel, by decide +kernel⟩, by decide +kernel⟩
def closVs (T : List Mk) (gs : List Gap) (vs : List D) : Prop := All2 (fun g d => ∃ ms, Closes T g ms ∧ d = .lst (ms.map mkD)) gs vs
def pre71 (P : Program) (w : World) (P0 : Addr) (q : Str) (R : Rsc) (ds : List D) (c : Nat) (O : D → Prop) : Prop := ∃ (T : List Mk) (b : Bool) (L : List (Mk × Int)), LamR R P0 q ∧ T.length ≤ 1000 ∧ (L.map (·.1)).Nodup ∧ L.length ≤ 1000 ∧ (∀ g, ∀ l ∈ closeG g, ∀ m ∈ l, m ∈ L.map (·.1)) ∧ ds = [tabD T b, priM P w L] ∧ c = 0 ∧
  O = fun d => ∃ vs, closVs T gaps9 vs ∧ d = .dk (gaps9.map gapK) vs
@[reducible] def E71 (P : Program) (w : World) (T : List Mk) (b : Bool) (L : List (Mk × Int)) (k : Nat) (vs : List D) (x y z : Ev) : Env' := [("table", .d (tabD T b)), ("known", .d (priM P w L)), ("found", .k ((gaps9.take k).map gapK) vs), ("gap", x), ("missing", y), ("chosen", z), ("some", .u), ("mark", .u)]
theorem closeG_pos (g : Gap) : ∀ l ∈ closeG g, 0 < l.length := by cases g <;> decide
theorem all2_mk : ∀ {ls : List (List Mk)} {ds : List D}, All2 (fun l d => ∃ m ∈ l, d = mkD m) ls ds → ∃ ms : List Mk, ds = ms.map mkD ∧ All2 (fun l m => m ∈ l) ls ms
  | _, _, .nil => ⟨[], rfl, .nil⟩
  | _, _, .cons ⟨m, hm, e⟩ t => by
    obtain ⟨ms, e1, h⟩ := all2_mk t
    exact ⟨m :: ms, by rw [e, e1]; rfl, .cons hm h⟩
theorem nd_fresh {α β : Type} {key : α → β} {L : List α} {m : Nat} {p : α} (hn : (L.map key).Nodup) (h : L[m]? = some p) : key p ∉ (L.take m).map key := fun z => by
  have hm := (List.getElem?_eq_some_iff.mp h).1
  rw [← List.take_append_drop m L, List.map_append, List.nodup_append] at hn
  refine hn.2.2 _ z _ (List.mem_map_of_mem (f := key) ?_) rfl
  rw [List.mem_iff_getElem?]
  exact ⟨0, by rw [List.getElem?_drop]; exact h⟩
theorem none_marks : ∀ ms : List Mk, inD .non (ms.map mkD) = false
  | [] => rfl
  | m :: ms => by
    show (PyData.eqv (toPy (mkD m)) (toPy .non) || inD .non (ms.map mkD)) = false
    rw [none_marks ms, Bool.or_false]
    simp only [mkD, toPy, PyData.eqv]
theorem ok71 (F : Fun K "closings" "closings" (topS 71) f fd) (c62 : Cal P w K mg base k "marks_that_close" (spD K pre62)) (c70 : Cal P w K mg base k "cheapest_of" (spN K (pre70 P w P0 q))) (g1 : GC K mg "GAPS" (.tup (gaps9.map gapD))) (m1 : mg "any" = none) : FnOk P w K mg base CX0 (k + 1) f fd ["table", "known"] (spN K (pre71 P w P0 q)) := by
  refine def_n F sc71 (fun R ds c O ⟨_, _, _, _, _, _, _, _, h, _⟩ => by rw [h]; rfl) fun cdv A outer s H E hr R ds c O ⟨T, b, L, LR, hT, hnd, hLl, hall, hds, hc, hO⟩ => ?_
  subst hds hc hO
  walk_at "gn"
  (with_reducible apply sn_pure)
  · refine s1_setk (e' := E71 P w T b L 0 [] .u .u .u) (i := 2) fk_new (.next (.next .here)) ?_ ?_ ?_ <;> walk_at "ev"
  refine sn_le (c1 := 0 + 9 * 0 + 0) ?_ (Nat.le_refl _) fun _ h => h
  refine sn_for (c1 := 0) (c2 := 0) (c3 := 0) (m := 9) (OL := fun ys => ys = gaps9.map gapD) (fun ys k e0 => ∃ vs, closVs T (gaps9.take k) vs ∧ e0 = E71 P w T b L k vs .u .u .u) ?_ ?_ ?_ ?_ ?_ ?_ ?_
  · refine nix_ix (ix_tup ?_)
    dsimp only [E71]
    walk_at "ev"
  · rintro _ rfl; decide
  · rintro _ rfl
    exact ⟨[], .nil, rfl⟩
  · rintro _ k d _ rfl hk ⟨vs, hvs, rfl⟩
    obtain ⟨g, hg, rfl⟩ : ∃ g, gaps9[k]? = some g ∧ d = gapD g := by
      rw [List.getElem?_map] at hk
      cases h : gaps9[k]? with
      | none => rw [h] at hk; cases hk
      | some z => rw [h] at hk; exact ⟨z, rfl, (Option.some.inj hk).symm⟩
    have p62 : pre62 [gapD g] (.tup ((closeG g).map mksD)) := ⟨g, rfl, rfl⟩
    have hcl := closeG_len g
    have hol : (openM T g).length ≤ 8 := Nat.le_trans (List.length_filter_le _ _) hcl
    dsimp only [E71]
    walk_at "gsn"
    (with_reducible apply sn_pure)
    · (with_reducible apply s1_setl (ds := (openM T g).map mksD)) <;> walk_at "ev"
      · refine slx_is (ds := ((closeG g).filter fun l => !((l.map fun m => decide (m ∈ T)).any id)).map mksD) ?_ (by simp only [any_map_id]; rfl)
        (with_reducible apply sl_fil1 [("some", 6)] N71 (defScope (topS 71)) (closeG g) mksD (fun l => !((l.map fun m => decide (m ∈ T)).any id))) <;> walk_at "ev"
        · rw [sizeLine_eq]; omega
        · intro l hl
          walk_at "t1"
          · (with_reducible apply lc_mapc [("mark", 7)] N71 (relabel _ _) l mkD D.bl (fun m => decide (m ∈ T))) <;> walk_at "ev"
            · have := closeG_in g l hl; rw [sizeLine_eq]; omega
            · intro m hm
              walk_at "t1"
              exact o_inTE (α := Mk) (ru hr)
    refine sn_le (c1 := (openM T g).length * 0 + 0) ?_ (by omega) fun _ h => h
    (with_reducible apply sn_setLc [("some", 6)] N71 (defScope (topS 71)) (openM T g) mksD (fun l d => ∃ m ∈ l, d = mkD m) 0) <;> walk_at "ev"
    · rw [sizeLine_eq]; omega
    · intro l hl
      have hlc := (List.mem_filter.mp hl).1
      have h2 := closeG_in g l hlc
      walk_at "gsn"
      refine' nx_call (c1 := 0) (c2 := 0) (OL := fun ds => ds = [mksD l, priM P w L]) (O := fun d => ∃ m ∈ l, d = mkD m) c70 ?_ (na_ax ?_) ?_ ?_ ?_ ?_ ?_
      all_goals try walk_at "ev"
      rintro _ rfl
      exact ⟨_, ⟨l, L, LR, hnd, hLl, closeG_pos g l hlc, by omega, hall g l hlc, rfl, rfl, rfl⟩, fun _ h => h⟩
    · intro ds hds
      obtain ⟨ms, rfl, hms⟩ := all2_mk hds
      walk_at "gsn"
      have hkl : k < 9 := by have := (List.getElem?_eq_some_iff.mp hg).1; exact this
      refine sn_le (c1 := 0 + (0 + 0)) ?_ (Nat.le_refl _) fun _ h => h
      refine sn_if (B := fun k => k = true) (c1 := 0) (c2 := 0) (c3 := 0) (O1 := fun o => ∃ vs, closVs T (gaps9.take (k + 1)) vs ∧ o = .nx (E71 P w T b L (k + 1) vs .u .u .u)) (nt_tx (k := true) ?_) (fun _ => ?_) (fun h => nomatch h) ?_ ?_
      · have h := o_notInL (X := Bdy P w K mg base N71 "closings" (defScope (topS 71)) f cdv A outer s H E) (d := .non) (ds := ms.map mkD) ⟨rfl, by decide⟩ (cmp_lstG (f := mkD) (fun m => Cd.nod (α := Mk) m) (fun m => Cd.lay (α := Mk) m) (fun m => Nat.le_trans (Cd.dep (α := Mk) m) (by decide)) ms) (ru hr)
        rw [none_marks] at h
        refine tx_cmp ?_ ?_ h ?_ <;> walk_at "ev"
      · refine sn_le (sn_sx (o := .nx (E71 P w T b L (k + 1) (vs ++ [.lst (ms.map mkD)]) .u .u .u)) ?_ fun _ _ h => nomatch h) (Nat.le_refl _) fun o ho => ⟨_, ?_, ho⟩
        · refine sx_kput (s := gapS g) (d := .lst (ms.map mkD)) (i := 2) (.next (.next .here)) ?_ ?_ (nd_fresh gaps_nd hg) ?_ (Nat.lt_of_le_of_lt (Nat.add_le_add_left (by decide : 1 ≤ 65) _) (ru hr)) ?_ ?_ ?_ ?_ ?_ ?_
          all_goals try walk_at "ev"
          · rw [List.length_map, sizeLine_eq]
            have : (gaps9.take k).length ≤ 9 := List.length_take_le' ..
            omega
          · (with_reducible apply sx_nile)
            dsimp only [E71]
            refine .same (.same (.eqk ?_ rfl (by walk_at "le")))
            rw [List.take_add_one, hg, List.map_append]; rfl
        · unfold closVs
          rw [List.take_add_one, hg]
          exact All2.snoc ⟨ms, hms, rfl⟩ hvs
      · rintro e1 ⟨vs2, h1, h2⟩
        exact sn_le sn_nil (Nat.le_refl _) fun o ho => .inl ⟨_, ho, vs2, h1, Out.nx.inj h2⟩
      · rintro o ⟨vs2, h1, rfl⟩ hn
        exact absurd rfl (hn _)
  · rintro _ _ rfl ⟨vs, hvs, rfl⟩
    refine sn_le (sn_retko (ks := gaps9.map gapK) (ds := vs) (i := 2) ?_) (Nat.le_refl _) fun o ho => ⟨_, ho, vs, hvs, rfl⟩
    exact .next (.next .here)
  · walk_at "sy"
  · exact PassesOwn.never
end
set_option maxRecDepth 100000
set_option maxHeartbeats 4000000
/-! ### a dict of bools, locked while its items are walked -/
theorem pe_lockK {X : Cx} {e : Expr} {te : TE} (he : PE X e te) : PE X e (fun σ H Q => te σ H fun x H1 => ∃ d kvs, x = V.ref d ∧ H1 d = some (.dK kvs) ∧ ∀ o, Q (.ref d) (upd H1 d (.frz o (.dK kvs)))) := by
  refine ⟨fun pins s σ H Q I h => thn (he.run pins s σ H _ I h) fun u s1 ⟨x, H1, I1, rx, d, kvs, ex, hd, q⟩ => ?_⟩
  obtain ⟨od, I2⟩ := I1.lock hd trivial
  exact ⟨x, _, I2, rx, by rw [ex]; exact q od⟩
def gkv (gs : List Gap) (f : Gap → Bool) : List (Key × V) := gs.map fun g => (gapK g, V.bl (f g))
/-- a locked dict of gaps -/
def fzD (o : Obj) (gs : List Gap) (f : Gap → Bool) : D := .dm (fun _ _ => .frz o (.dK (gkv gs f))) []
@[reducible] def gapP (f : Gap → Bool) (g : Gap) : D := .tup [gapD g, .bl (f g)]
theorem gkv_of {K : PySem.W.Frag} {H : Hp} (f : Gap → Bool) : ∀ {gs : List Gap} {vs : List V}, IsL K H vs (gs.map fun g => D.bl (f g)) → (gs.map gapK).zip vs = gkv gs f
  | [], _, .nil => rfl
  | g :: gs, _, .cons h t => by
    show (gapK g, _) :: (gs.map gapK).zip _ = _
    rw [gkv_of f t, is_bl h]; rfl
theorem is_fz {K : PySem.W.Frag} {H : Hp} {v : V} {o : Obj} {gs : List Gap} {f : Gap → Bool} (h : Is K H v (fzD o gs f)) : ∃ a, v = .ref a ∧ H a = some (.frz o (.dK (gkv gs f))) := by
  cases h with
  | dm h1 h2 h3 => exact ⟨_, rfl, h1⟩
section
variable {X : Cx} {R : Rsc} {e : Expr} {r : Rho} {gs : List Gap} {f : Gap → Bool} {elts : List Expr} {kk : Nat} {tpos apos cpos : Pos}
/-- what is walked, once the dict is locked -/
theorem walk_items {K : PySem.W.Frag} {a : Addr} {o : Obj} {L : List Addr} {H1 : Hp} (ha : hid H1 L a = some (.frz o (.dK (gkv gs f)))) : WalkD K (Iti a o (gkv gs f)) L H1 (gs.map (gapP f)) := by
  have at_ : ∀ {M : List Addr} {H2 : Hp}, Same (hid H1 L) (hid H2 M) → H2 a = some (.frz o (.dK (gkv gs f))) := fun s2 => hid_sub _ _ (s2 _ _ ha)
  have hl : (gkv gs f).length = gs.length := by unfold gkv; rw [List.length_map]
  refine ⟨fun M i H2 hi s2 => ⟨at_ s2, by rw [hl]; rwa [List.length_map] at hi⟩, fun M H2 s2 => ⟨at_ s2, by rw [hl, List.length_map]; exact Nat.le_refl _⟩, fun M i H2 x H3 d dm2 s2 hd hy => ?_⟩
  obtain ⟨T, k, v, hkv, rfl, nT, rfl⟩ := hy
  unfold gkv at hkv
  rw [List.getElem?_map] at hkv hd
  cases hg : gs[i]? with
  | none => rw [hg] at hd; cases hd
  | some g =>
    rw [hg] at hkv hd
    cases hkv
    cases hd
    exact pair_new dm2 nT (.str _) (.bl _)
theorem nx_lock (h : FKX X e r (gs.map gapK) (gs.map fun g => D.bl (f g))) : NX R X e r 0 (fun d => ∃ o, d = fzD o gs f) := by
  refine .mk fun C L σ H Q n hM dm z ph I q => ?_
  refine we_of (pe_lockK (pe_w X e)) ?_
  refine h.run C L σ H _ dm I fun p vs H1 np s1 hp hz l => ⟨p, _, rfl, hp, fun o => ?_⟩
  rw [gkv_of f l]
  have s2 : Same H (upd H1 p (.frz o (.dK (gkv gs f)))) := fun b u hb => by rw [upd_ne (ne_of_none hb np)]; exact s1 b u hb
  refine q (fzD o gs f) _ _ (FrZ.of s2) (R.st ph s2) ⟨o, rfl⟩ (.dm (rows := []) (hid_of upd_same (dm.fresh np)) rfl fun p hp => by simp at hp)
theorem ix_fz {o : Obj} (h : EX X e r (fzD o gs f)) (hbase : attributeBase e "items" X.env (eval e X.env) = eval e X.env) (hline : (apos.endLine == cpos.line) = true) : IX X (.Tuple elts kk tpos) (.Call (.Attribute e "items" apos) [] [] cpos) r (gs.map (gapP f)) := by
  constructor
  intro C L σ H S dm I q
  refine wi_of (pi_items (pe_w X e) hbase hline) ?_
  refine h C L σ H _ dm I fun v H1 s1 i1 => ?_
  obtain ⟨a, rfl, ha⟩ := is_fz i1
  exact ⟨a, o, _, rfl, hid_sub _ _ ha, q _ H1 s1 (walk_items ha)⟩
theorem ix_items (h : FKX X e r (gs.map gapK) (gs.map fun g => D.bl (f g))) (hbase : attributeBase e "items" X.env (eval e X.env) = eval e X.env) (hline : (apos.endLine == cpos.line) = true) : IX X (.Tuple elts kk tpos) (.Call (.Attribute e "items" apos) [] [] cpos) r (gs.map (gapP f)) := by
  constructor
  intro C L σ H S dm I q
  refine wi_of (pi_items (pe_lockK (pe_w X e)) hbase hline) ?_
  refine h.run C L σ H _ dm I fun p vs H1 np s1 hp hz l => ⟨p, _, rfl, hp, fun o => ?_⟩
  rw [gkv_of f l]
  have s2 : Same H (upd H1 p (.frz o (.dK (gkv gs f)))) := fun b u hb => by rw [upd_ne (ne_of_none hb np)]; exact s1 b u hb
  exact ⟨p, o, _, rfl, upd_same, q _ _ s2 (walk_items (hid_of upd_same (dm.fresh np)))⟩
end
set_option maxRecDepth 100000
set_option maxHeartbeats 4000000
/-! ### a dict comprehension that goes to a name -/
section
variable {X : Cx} {kx vx tg iter : Expr} {scope sc : Scope} {N : List Str} {r rw_ : Rho} {own : List (Str × Nat)} {pos : Pos}
theorem dc_run {α : Type} (own : List (Str × Nat)) (zs : List α) (f : α → D) (key : α → Key) (val : α → D) (hi : IX X tg iter r (zs.map f)) (hlv : LeV (relabel scope X.env) r rw_) (how : ∀ i ∈ own.map (·.2), ∃ n, rw_[i]? = some (n, none)) (hz : zs.length < sizeLine) (nd : (zs.map key).Nodup)
    (body : ∀ z ∈ zs, ∃ r1, AllBlk X scope (fun Y => GX Y tg (own.map (·.2)) rw_ (f z) r1) ∧ AllBlk X scope (fun Y => EX Y kx r1 (keyD (key z))) ∧ AllBlk X scope (fun Y => EX Y vx r1 (val z)))
    (C : CxN X r) (L : List Addr) (σ : L2.St) (H : Hp) (Q : VK) (dm : Dom L H) (I : IsE X.K (hid H L) σ r) (q : ∀ p ys H', H p = none → Same H H' → H' p = some (.dK ((zs.map key).zip ys)) → (zs.map key).length = ys.length → IsL X.K (hid H' (p :: L)) ys (zs.map val) → Q (.ref p) H') :
    tDc (WI X tg iter) (fun v σ H Q => AllBlk X scope fun Y => WG Y tg v σ H Q) (fun σ H Q => Q true H) (fun σ H Q => AllBlk X scope fun Y => WE Y kx σ H Q) (fun σ H Q => AllBlk X scope fun Y => WE Y vx σ H Q) (own.map (·.2)) σ H Q := by
  have CB : AllBlk X scope fun Y => CxN Y rw_ := fun s H' c cl fp => ⟨by show X.N = _; rw [hlv.le.names]; exact C.names, C.nd, C.dbg, fun p hp hs => hlv.vis.mem p hp hs, C.calm⟩
  refine hi C L σ H _ dm I fun J H1 s1 W => ?_
  intro Dd hD
  have hlen : (zs.map f).length = zs.length := List.length_map ..
  let Pv : Nat → Hp → Prop := fun i H2 => Same H1 H2 ∧ ∃ acc, H2 Dd = some (.dK (((zs.take i).map key).zip acc)) ∧ ((zs.take i).map key).length = acc.length ∧ IsL X.K (hid H2 (Dd :: L)) acc ((zs.take i).map val)
  refine ⟨fun i m H2 => m = zs.length - i ∧ i ≤ zs.length ∧ Pv i H2, ⟨zs.length, by simp, Nat.zero_le _, same_new hD, [], by simpa using upd_same, by simp, by simp; exact .nil⟩, ?_⟩
  rintro i m H2 ⟨rfl, hle2, s2, acc, hacc, zacc, lacc⟩
  have w2 : Same (hid H1 L) (hid H2 (Dd :: L)) := hid_new hD s2
  by_cases hlt : i < zs.length
  · refine .inr ⟨W.go (Dd :: L) i H2 (by rw [hlen]; exact hlt) w2, Pv (i + 1), fun H' p' => ⟨zs.length - (i + 1), by omega, rfl, hlt, p'⟩, fun x H3 y3 => ?_⟩
    obtain ⟨r1, hg, hk, hv⟩ := body zs[i] (List.getElem_mem hlt)
    have hzi : zs[i]? = some zs[i] := List.getElem?_eq_getElem hlt
    have dm2 : Dom (Dd :: L) H2 := dom_cons (dm.mono (s1.trans s2)) hacc
    obtain ⟨s3, ix⟩ := W.yld (Dd :: L) i H2 x H3 (f zs[i]) dm2 w2 (by rw [List.getElem?_map, hzi]; rfl) y3
    have I3 : IsE X.K (hid H3 (Dd :: L)) (wipe σ (own.map (·.2))) rw_ := by
      have I1 : IsE X.K (hid H3 (Dd :: L)) σ r := I.mono ((hid_mono s1).trans (w2.trans (hid_mono s3)))
      exact (I1.le hlv.le).wipe _ how
    intro s0 H0 c cl fp
    refine (hg s0 H0 c cl fp (CB s0 H0 c cl fp)).2 (Dd :: L) _ H3 x _ I3 ix fun σ4 I4 w4 => ?_
    refine ⟨(w4 _ fun i hi => hi).trans (wipe_wipe _ _), ?_⟩
    have C4 : AllBlk X scope fun Y => CxN Y r1 := fun s H' c cl fp => (hg s H' c cl fp (CB s H' c cl fp)).1
    have dm3 := dm2.mono s3
    refine Eq.mpr (if_pos rfl) ?_
    intro s0 H0 c cl fp
    refine hk s0 H0 c cl fp (C4 s0 H0 c cl fp) (Dd :: L) σ4 H3 _ dm3 I4 fun y H4 s4 iy => ?_
    intro s0 H0 c cl fp
    refine hv s0 H0 c cl fp (C4 s0 H0 c cl fp) (Dd :: L) σ4 H4 _ (dm3.mono s4) (I4.mono (hid_mono s4)) fun u H5 s5 iu => ?_
    have hacc5 : H5 Dd = some (.dK (((zs.take i).map key).zip acc)) := s5 _ _ (s4 _ _ (s3 _ _ hacc))
    have hnew : key zs[i] ∉ (zs.take i).map key := fun z => by
      obtain ⟨j, hj, e⟩ := List.getElem_of_mem z
      have hj' : j < i := by rw [List.length_map, List.length_take] at hj; omega
      have e1 : (zs.map key)[j]? = some (key zs[i]) := by
        rw [List.getElem?_map, List.getElem?_eq_getElem (by omega : j < zs.length)]
        have : ((zs.take i).map key)[j] = key zs[j] := by simp
        rw [← e, this]; rfl
      have e2 : (zs.map key)[i]? = some (key zs[i]) := by rw [List.getElem?_map, hzi]; rfl
      have := (List.getElem?_inj (by rw [List.length_map]; omega) nd).mp (e1.trans e2.symm)
      omega
    have e1 : (zs.take (i + 1)).map key = (zs.take i).map key ++ [key zs[i]] := take_snoc key zs i _ hzi
    have e2 : (zs.take (i + 1)).map val = (zs.take i).map val ++ [val zs[i]] := take_snoc val zs i _ hzi
    refine ⟨_, key zs[i], key_is iy, hacc5, ?_, ?_, acc ++ [u], ?_, ?_, ?_⟩
    · rw [List.length_zip, ← zacc, List.length_map, List.length_take]; omega
    · intro a o ho
      have ha : a ≠ Dd := ne_of_none ho hD
      rw [upd_ne ha]
      exact s5 _ _ (s4 _ _ (s3 _ _ (s2 _ _ ho)))
    · rw [upd_same, L2.putK_new u (valV_out zacc hnew), e1, zip_snoc zacc]
    · rw [e1, List.length_append, List.length_append, zacc]; rfl
    · rw [hid_upd List.mem_cons_self, e2]
      exact isL_snoc (lacc.mono (hid_mono (s3.trans (s4.trans s5)))) iu
  · have e : i = zs.length := by omega
    subst e
    refine .inl ⟨by have := W.stop (Dd :: L) H2 w2; rw [hlen] at this; exact this, ?_⟩
    rw [List.take_length] at hacc zacc lacc
    exact q Dd acc H2 (Same.free s1 hD) (s1.trans s2) hacc zacc lacc

theorem w1_dc {i : Nat} {y : Str} {py spos : Pos} {ifs : List Expr} {wi : TI} {g : TG} {tt : TT} {tk tv : TE} {pos : Pos} {E : Ends} {σ : L2.St} {H : Hp} (hc : X.calm = true) (hN : X.N.Nodup) (hy : X.N[i]? = some y) (hyl : X.env.scope.names.lookup y = some .local)
    (hsw : swapsWith (.DictComp kx vx [⟨tg, iter, ifs, 0⟩] scope pos) (some (.Name y py)) spos.line X.env = pure true) (hi : PI X tg iter wi) (ok : BlkOk X.N X.env.scope scope own)
    (hg : ∀ (s : Shared) (H : Hp) (c : Addr) (cl : List (Str × Addr)) (fp : List Addr), PG (X.blk s H scope (compEnvC scope cl c X.env) fp) tg g) (ht : ∀ (s : Shared) (H : Hp) (c : Addr) (cl : List (Str × Addr)) (fp : List Addr), PTs (X.blk s H scope (compEnvC scope cl c X.env) fp) ifs tt)
    (hk : ∀ (s : Shared) (H : Hp) (c : Addr) (cl : List (Str × Addr)) (fp : List Addr), PE (X.blk s H scope (compEnvC scope cl c X.env) fp) kx tk) (he : ∀ (s : Shared) (H : Hp) (c : Addr) (cl : List (Str × Addr)) (fp : List Addr), PE (X.blk s H scope (compEnvC scope cl c X.env) fp) vx tv) (hs : ∀ x, foldedSetIterable iter X.env x = pure x)
    (h : tDc wi g tt tk tv (own.map (·.2)) σ H (fun x H1 => E.nx (σ.set i (some x)) H1)) : W1 X (.Assign [.Name y py] (.DictComp kx vx [⟨tg, iter, ifs, 0⟩] scope pos) spos) E σ H := fun pins s I => by
  rw [exec_Assign_Name_used _ _ _ _ hsw]
  refine wpAny_bind (wpAny_standAt (wpAny_bind ?_))
  show wpAny _ X.A (do let _ ← comprehension (.DictComp kx vx [⟨tg, iter, ifs, 0⟩] scope pos) scope X.env (firstIterPos [⟨tg, iter, ifs, 0⟩] pos) newDict false (eval iter X.env) (some (assign (.Name y py) X.env))) _ _ s
  refine wpAny_bind (thn (dc_core (Qf := fun _ s' => SP X pins E .next s') hc hN I hi ok hg ht hk he hs h fun dd cc s' m H' J q hn fp => ?_) fun _ s' z => wpAny_pure (wpAny_pure z))
  show wpAny _ _ (assign (.Name y py) X.env (.ref dd)) _ _ _
  refine wpAny_assign_Name (store_ok2 (v := V.ref dd) J hN hy (.inl hyl) rfl (fun s2 J2 ⟨a, sb, ha⟩ => ?_) (.inr hyl))
  obtain ⟨g0, g1, _, g3, g4, g5⟩ := fp
  have hne : cc ≠ a := by
    rcases ha with z | z
    · exact fun e => g1 (e.trans z)
    · exact fun e => g4 y a z e.symm
  exact ⟨m, hn.sameBut sb hne, fun h3 sb3 => ⟨_, H', J2.turned (t' := s2.toks) (fun b o hb e => (sb3.2 b hb).trans e) g0 g1 g3 g4 g5, q⟩⟩
/-- x = {k: v for ..}, mode one -/
theorem s1_setdc {α : Type} {e e' : Env'} {x : Str} {i : Nat} {p' spos : Pos} (own : List (Str × Nat)) (N : List Str) (sc : Scope) (zs : List α) (f : α → D) (key : α → Key) (val : α → D) (w : UpE e x (.k (zs.map key) (zs.map val)) e' i) (hi : IX X tg iter (hd' e) (zs.map f)) (hN : X.N = N) (hsc : X.env.scope = sc) (hb : blkC N sc scope own = true) (hlv : LeV (relabel scope X.env) (hd' e) rw_)
    (how : ∀ i ∈ own.map (·.2), ∃ n, rw_[i]? = some (n, none)) (hs : ∀ x, foldedSetIterable iter X.env x = pure x) (hz : zs.length < sizeLine) (nd : (zs.map key).Nodup) (hyl : X.env.scope.names.lookup x = some .local) (hsw : swapsWith (.DictComp kx vx [⟨tg, iter, [], 0⟩] scope pos) (some (.Name x p')) spos.line X.env = pure true)
    (body : ∀ z ∈ zs, ∃ r1, AllBlk X scope (fun Y => GX Y tg (own.map (·.2)) rw_ (f z) r1) ∧ AllBlk X scope (fun Y => EX Y kx r1 (keyD (key z))) ∧ AllBlk X scope (fun Y => EX Y vx r1 (val z))) :
    S1 X (.Assign [.Name x p'] (.DictComp kx vx [⟨tg, iter, [], 0⟩] scope pos) spos) e (.nx e') := by
  constructor
  intro C
  have C' : CxN X (rd e') := C.up (rd_up w) (.inl hyl)
  refine ⟨C', fun L A σ H E dm nd2 nl ow q => ?_⟩
  have hx : X.N[i]? = some x := by rw [C.names, rd_names]; exact w.ix
  have dmA := dom_own dm ow
  refine w1_dc C.calm C.nd hx hyl hsw (pi_w X tg iter) (own := own) (g := fun v σ H Q => AllBlk X scope fun Y => WG Y tg v σ H Q) (tt := fun σ H Q => Q true H) (tk := fun σ H Q => AllBlk X scope fun Y => WE Y kx σ H Q) (tv := fun σ H Q => AllBlk X scope fun Y => WE Y vx σ H Q)
    (by rw [hN, hsc]; exact blkOk_by hb) (fun s H C cl fp => ⟨fun pins s' σ H' v u Q I r h => h s H C cl fp pins s' u I r⟩) (fun s H C cl fp => pts_nil) (fun s H C cl fp => ⟨fun pins s' σ H' Q I h => h s H C cl fp pins s' I⟩) (fun s H C cl fp => ⟨fun pins s' σ H' Q I h => h s H C cl fp pins s' I⟩) hs ?_
  refine dc_run own zs f key val hi hlv how hz nd body (C.le (hd_le e)) (A ++ L) σ H _ dmA ow.hd fun p vs H1 n s hp hl l => ?_
  have hpA : p ∉ A := fun z => dmA.fresh n (List.mem_append_left _ z)
  have ow1 := ow.mono (G' := hid H1 (p :: (A ++ L))) (H' := H1) (fun b o hb => hid_of (s _ _ (hid_some hb).1) fun z => by
    rcases List.mem_cons.mp z with z | z
    · exact ne_of_none (hid_some hb).1 n z
    · exact (hid_some hb).2 z) fun a _ o h => s a o h
  obtain ⟨A', s', nd', ow'⟩ := Ow.setk hp hl l ow1 hpA nd2 w
  refine q A' _ H1 (Same.fram s) nd' (fun a ha => (s' a ha).imp id fun z => by rw [z]; exact n) (ow'.mono (fun b o hb => hid_of (hid_some hb).1 fun z => (hid_some hb).2 ?_) fun a _ o h => h)
  rcases List.mem_append.mp z with z | z
  · rcases s' b z with z | z
    · exact List.mem_cons_of_mem _ (List.mem_append_left _ z)
    · exact z ▸ List.mem_cons_self
  · exact List.mem_cons_of_mem _ (List.mem_append_right _ z)
end
set_option maxRecDepth 100000
set_option maxHeartbeats 4000000
section
variable {P : Program} {w : World} {K : PySem.W.Frag} {mg : Str → Option Value} {base : Heap} {k : Nat} {f : Addr} {fd : FuncData} {P0 : Addr} {q : Str}
@[reducible] def N73 : List Str := ["table", "price_list", "known", "closing", "open_ones", "found", "some", "marks", "gap", "is_open", "mark"]
theorem sc73 : Sc N73 ["table", "price_list"] (topS 73) := ⟨⟨rfl, rfl, rfl, by decide +kernel, rfl, by decide +kernel, by decide +kernel⟩, by decide +kernel⟩
/-- one way to close gaps: marks, does it rescan, gaps -/
@[reducible] def addD (p : List Mk × Bool × List Gap) : D := .tup [.lst (p.1.map mkD), .bl p.2.1, gsD p.2.2]
def ocI : Option Int → D
  | none => .non
  | some n => .int n
def opens (T : List Mk) : List Gap := gaps9.filter (openG T)
/-- the rows for the first i choices -/
def rowsF (T : List Mk) (b : Bool) (cl : Gap → List Mk) (oc : Bool) (cs : List (List Gap)) : List (List Mk × Bool × List Gap) := cs.flatMap fun gs => (gs.flatMap cl, b, gs) :: (if (!b && oc) = true then [(gs.flatMap cl, true, gs)] else [])
theorem clos_fun {T : List Mk} : ∀ {gs : List Gap} {vs : List D}, gs.Nodup → closVs T gs vs → ∃ cl : Gap → List Mk, vs = gs.map (fun g => D.lst ((cl g).map mkD)) ∧ ∀ g ∈ gs, Closes T g (cl g)
  | [], _, _, .nil => ⟨fun _ => [], rfl, fun g h => by simp at h⟩
  | a :: gs, _, hn, .cons ⟨ms, h1, h2⟩ t => by
    obtain ⟨n1, n2⟩ := List.nodup_cons.mp hn
    obtain ⟨cl, e, h⟩ := clos_fun n2 t
    refine ⟨fun g => if g = a then ms else cl g, ?_, fun g hg => ?_⟩
    · rw [List.map_cons, h2, e]
      show _ = D.lst ((if a = a then ms else cl a).map mkD) :: gs.map fun g => D.lst ((if g = a then ms else cl g).map mkD)
      rw [if_pos rfl]
      refine congrArg (D.lst (ms.map mkD) :: ·) (List.map_congr_left fun g hg => ?_)
      rw [if_neg (fun z : g = a => n1 (by rw [← z]; exact hg))]
    · show Closes T g (if g = a then ms else cl g)
      by_cases z : g = a
      · rw [if_pos z, z]; exact h1
      · rw [if_neg z]; exact h g ((List.mem_cons.mp hg).resolve_left z)
theorem All2.len_le {T : List Mk} {g : Gap} {ms : List Mk} (h : Closes T g ms) : ms.length ≤ 8 := by
  rw [← All2.len h]
  exact Nat.le_trans (List.length_filter_le _ _) (closeG_len g)
def pre73 (P0 : Addr) (q : Str) (R : Rsc) (ds : List D) (c : Nat) (O : D → Prop) : Prop := ∃ (T : List Mk) (b : Bool) (L : List (Mk × Int)) (oc : Option Int), LamR R P0 q ∧ T.Nodup ∧ T.length ≤ 1000 ∧ (L.map (·.1)).Nodup ∧ L.length ≤ 1000 ∧ (∀ g, ∀ l ∈ closeG g, ∀ m ∈ l, m ∈ L.map (·.1)) ∧
  ds = [tabD T b, pricesD L (ocI oc)] ∧ c = 0 ∧ O = fun d => ∃ cl : Gap → List Mk, (∀ g, Closes T g (cl g)) ∧ d = .lst ((rowsF T b cl oc.isSome (choicesF (opens T))).map addD)
@[reducible] def E73 (P : Program) (w : World) (T : List Mk) (b : Bool) (L : List (Mk × Int)) (od : D) (cl : Gap → List Mk) (fs : List D) : Env' := [("table", .d (tabD T b)), ("price_list", .d (pricesD L od)), ("known", .d (priM P w L)), ("closing", .d (.dk (gaps9.map gapK) (gaps9.map fun g => D.lst ((cl g).map mkD)))), ("open_ones", .d (.lst ((opens T).map gapD))), ("found", .o fs), ("some", .u), ("marks", .u), ("gap", .u), ("is_open", .u), ("mark", .u)]
theorem ok73 (F : Fun K "additions" "additions" (topS 73) f fd) (c71 : Cal P w K mg base k "closings" (spN K (pre71 P w P0 q))) (c65 : Cal P w K mg base k "gaps_of" (spK K pre65)) (c72 : Cal P w K mg base k "choices" (spD K pre72)) (m1 : mg "dict" = none) : FnOk P w K mg base CX0 (k + 1) f fd ["table", "price_list"] (spN K (pre73 P0 q)) := by
  refine def_n F sc73 (fun R ds c O ⟨_, _, _, _, _, _, _, _, _, _, h, _⟩ => by rw [h]; rfl) fun cdv A outer s H E hr R ds c O ⟨T, b, L, oc, LR, hTn, hT, hnd, hLl, hall, hds, hc, hO⟩ => ?_
  subst hds hc hO
  walk_at "gn"
  have p65 : pre65 [tabD T b] (gaps9.map gapK) (gaps9.map fun g => D.bl (openG T g)) := ⟨T, b, hTn, hT, rfl, rfl, rfl⟩
  (with_reducible apply sn_pure)
  · (with_reducible apply s1_set1 (d := priM P w L))
    · have hdict := c_dictMd (X := Bdy P w K mg base N73 "additions" (defScope (topS 73)) f cdv A outer s H E) rfl (ru hr) hnd hLl
      refine' ex_cT (id := "dict") rfl ?_ m1 (by decide) (by decide) ?_ ?_ ?_ hdict
      all_goals walk_at "ev"
    all_goals walk_at "ev"
  refine sn_le (c1 := 0 + 0) ?_ (Nat.le_refl _) fun _ h => h
  walk_at "nset1"
  case h =>
    refine' nx_call (c1 := 0) (c2 := 0) (OL := fun ds => ds = [tabD T b, priM P w L]) (O := fun d => ∃ vs, closVs T gaps9 vs ∧ d = .dk (gaps9.map gapK) vs) c71 ?_ (na_ax ?_) ?_ ?_ ?_ ?_ ?_
    all_goals try walk_at "ev"
    rintro _ rfl
    exact ⟨_, ⟨T, b, L, LR, hT, hnd, hLl, hall, rfl, rfl, rfl⟩, fun _ h => h⟩
  rintro _ ⟨vs, hvs, rfl⟩
  obtain ⟨cl, rfl, hcl⟩ := clos_fun (by decide) hvs
  walk_at "gsn"
  (with_reducible apply sn_pure)
  · (with_reducible apply s1_setl (ds := (opens T).map gapD)) <;> walk_at "ev"
    have hlk : ∀ g, lookD (gaps9.map gapK) (gaps9.map fun g => D.lst ((cl g).map mkD)) (gapK g) = some (.lst ((cl g).map mkD)) := look_gap _
    refine slx_is (ds := ((gaps9.filter fun g => openG T g && (lookD (gaps9.map gapK) (gaps9.map fun g => D.lst ((cl g).map mkD)) (.inr (gapS g))).isSome).map fun g => g).map gapD) ?_ ?_
    · (with_reducible apply sl_filc [("gap", 8), ("is_open", 9)] N73 (defScope (topS 73)) gaps9 (gapP (openG T)) (fun g => openG T g && (lookD (gaps9.map gapK) (gaps9.map fun g => D.lst ((cl g).map mkD)) (.inr (gapS g))).isSome) gapD (fun g => g))
      · refine ix_items (fk_call c65 hr ?_ p65 ?_ ?_ ?_ ?_) ?_ ?_
        all_goals walk_at "ev"
      all_goals walk_at "ev"
      intro g hg
      walk_at "t1"
      exact o_inDks (ru hr)
    · rw [List.map_id']
      unfold opens
      refine congrArg (List.map gapD) (List.filter_congr fun g _ => ?_)
      rw [show (Sum.inr (gapS g) : Key) = gapK g from rfl, hlk]
      exact Bool.and_true _
  have hop : (opens T).length ≤ 9 := List.length_filter_le _ gaps9
  have p72 : pre72 [.lst ((opens T).map gapD)] (.lst ((choicesF (opens T)).map gsD)) := ⟨opens T, hop, rfl, rfl⟩
  (with_reducible apply sn_pure)
  · (with_reducible apply s1_seto (ds := [])) <;> walk_at "ev"
  refine sn_le (c1 := 0 + 512 * 0 + 0) ?_ (Nat.le_refl _) fun _ h => h
  refine sn_for (c1 := 0) (c2 := 0) (c3 := 0) (m := 512) (OL := fun ys => ys = (choicesF (opens T)).map gsD) (fun _ k e0 => e0 = E73 P w T b L (ocI oc) cl ((rowsF T b cl oc.isSome ((choicesF (opens T)).take k)).map addD)) ?_ ?_ ?_ ?_ ?_ ?_ ?_
  · refine nix_ix (ix_lst ?_)
    walk_at "ev"
  · rintro _ rfl
    have := choicesF_len (opens T) (opens T).length (Nat.le_refl _)
    rw [List.take_length] at this
    rw [List.length_map, this]
    exact Nat.pow_le_pow_right (by decide) hop
  · rintro _ rfl
    rfl
  · rintro _ k d _ rfl hk rfl
    obtain ⟨gs, hg, rfl⟩ : ∃ gs, (choicesF (opens T))[k]? = some gs ∧ d = gsD gs := by
      rw [List.getElem?_map] at hk
      cases h : (choicesF (opens T))[k]? with
      | none => rw [h] at hk; cases hk
      | some z => rw [h] at hk; exact ⟨z, rfl, (Option.some.inj hk).symm⟩
    have hgs : gs.length ≤ 9 := by
      have h1 := choicesF_mem (opens T) (opens T).length (Nat.le_refl _)
      rw [List.take_length] at h1
      exact Nat.le_trans (h1 gs (List.mem_of_getElem? hg)).1 hop
    have hlk : ∀ g, lookD (gaps9.map gapK) (gaps9.map fun g => D.lst ((cl g).map mkD)) (gapK g) = some (.lst ((cl g).map mkD)) := look_gap _
    have hflat : (gs.flatMap cl).length ≤ 72 := by
      have := flat_len (l := gs) (f := cl) (c := 8) fun g _ => All2.len_le (hcl g (by cases g <;> decide))
      omega
    have hcs : (choicesF (opens T)).length ≤ 512 := by
      have := choicesF_len (opens T) (opens T).length (Nat.le_refl _)
      rw [List.take_length] at this
      rw [this]
      exact Nat.pow_le_pow_right (by decide) hop
    have hrows : ((rowsF T b cl oc.isSome ((choicesF (opens T)).take k)).map addD).length ≤ 1024 := by
      rw [List.length_map]
      have h1 := take_flat_len (F := fun gs => (gs.flatMap cl, b, gs) :: (if (!b && oc.isSome) = true then [(gs.flatMap cl, true, gs)] else [])) (c := 2) (fun gs => Nat.succ_le_succ (if_len _ _)) (choicesF (opens T)) k
      unfold rowsF
      omega
    dsimp only [E73]
    walk_at "gsn"
    refine sn_le (sn_sx (o := .nx (E73 P w T b L (ocI oc) cl ((rowsF T b cl oc.isSome ((choicesF (opens T)).take (k + 1))).map addD))) ?_ fun _ _ h => nomatch h) (Nat.le_refl _) fun o ho => .inl ⟨_, ho, rfl⟩
    (with_reducible apply sx_setl (ds := (gs.flatMap cl).map mkD)) <;> walk_at "ev"
    · refine slx_is (ds := gs.flatMap fun g => (cl g).map mkD) ?_ (by rw [List.map_flatMap])
      (with_reducible apply sl2c [("gap", 8), ("mark", 10)] [10] N73 (defScope (topS 73)) gs gapD cl (fun _ m => mkD m) (fun _ m => mkD m)) <;> walk_at "ev"
      · intro _ _; rfl
      · rw [sizeLine_eq]; omega
      · intro g hg2
        have hl := hlk g
        walk_at "t2"
        intro m hm
        walk_at "i2"
    have hrow : (rowsF T b cl oc.isSome ((choicesF (opens T)).take (k + 1))).map addD = (rowsF T b cl oc.isSome ((choicesF (opens T)).take k)).map addD ++ ([addD (gs.flatMap cl, b, gs)] ++ (if (!b && oc.isSome) = true then [addD (gs.flatMap cl, true, gs)] else [])) := by
      unfold rowsF
      rw [flat_snoc _ _ _ _ hg, List.map_append, List.map_cons, map_if]; rfl
    rw [hrow]
    (with_reducible apply sx_append1 (d := addD (gs.flatMap cl, b, gs))) <;> walk_at "ev"
    · rw [sizeLine_eq]; omega
    by_cases hc : (!b && oc.isSome) = true
    · refine sx_then (k := !b && oc.isSome) (e1 := E73 P w T b L (ocI oc) cl ((rowsF T b cl oc.isSome ((choicesF (opens T)).take k)).map addD ++ [addD (gs.flatMap cl, b, gs)] ++ [addD (gs.flatMap cl, true, gs)])) ?_ hc ?_ ?_
      · rw [show oc.isSome = !isNonD (ocI oc) by cases oc <;> rfl]
        walk_at "ev"
      · (with_reducible apply sx_append1 (d := addD (gs.flatMap cl, true, gs))) <;> walk_at "ev"
        · rw [List.length_append, sizeLine_eq]; simp only [List.length_cons, List.length_nil]; omega
        · (with_reducible apply sx_nile)
          dsimp only [E73]
          walk_at "le"
      · (with_reducible apply sx_nile)
        dsimp only [E73]
        walk_at "le"
        rw [if_pos hc, List.append_assoc]
    · refine sx_no (k := !b && oc.isSome) ?_ (by cases h : (!b && oc.isSome); rfl; exact absurd h hc) ?_
      · rw [show oc.isSome = !isNonD (ocI oc) by cases oc <;> rfl]
        walk_at "ev"
      · (with_reducible apply sx_nile)
        dsimp only [E73]
        walk_at "le"
        rw [if_neg hc, List.append_nil]
  · rintro _ _ rfl rfl
    rw [List.length_map, List.take_length]
    refine sn_le (sn_reto (ds := (rowsF T b cl oc.isSome (choicesF (opens T))).map addD) (i := 5) ?_) (Nat.le_refl _) fun o ho => ⟨_, ho, cl, fun g => hcl g (by cases g <;> decide), rfl⟩
    dsimp only [E73]
    walk_at "sy"
  · walk_at "sy"
  · exact PassesOwn.never
end
set_option maxRecDepth 100000
set_option maxHeartbeats 4000000
section
variable {X : Cx} {e e' : Env'} {x : Str} {i : Nat} {ex : Expr} {p' pos : Pos} {a b : Int} {rest : List Stmt} {o : Out}
/-- x += e, numbers; mode one -/
theorem s1_aug (w : UpE e x (.d (.int (a + b))) e' i) (lk : Lk (hd' e) x (.int a)) (h : EX X ex (hd' e) (.int b)) (hx : Loc X.env.scope x) (hf : X.fn x = true ∨ X.env.scope.names.lookup x = some .local) : S1 X (.AugAssign (.Name x p') .Add ex pos) e (.nx e') := by
  constructor
  intro C
  have C' : CxN X (rd e') := C.up (rd_up w) (vis_of_loc hx)
  refine ⟨C', fun L A σ H E dm nd nl ow q => ?_⟩
  have hN : X.N[i]? = some x := by rw [C.names, rd_names]; exact w.ix
  refine w1_of (ps_aug C.nd hN hx (pe_w X ex) ip_add hf) ?_
  obtain ⟨j, v, h1, h2, h3, p, hp, rfl, hs⟩ := (ow.hd (A := A)).look lk
  have hj : i = j := by
    have hN2 : X.N[j]? = some p.1 := by rw [(C.le (hd_le e)).names]; exact h1
    exact (List.getElem?_inj (List.getElem?_eq_some_iff.mp hN).1 C.nd).mp (hN.trans hN2.symm)
  subst hj
  refine ⟨v, h2, ?_⟩
  refine h (C.le (hd_le e)) (A ++ L) σ H _ (dom_own dm ow) ow.hd fun u H1 s iv => ?_
  refine ⟨a, b, is_int h3, is_int iv, ?_⟩
  obtain ⟨A', sub, ow'⟩ := Ow.setd (.int (a + b)) (ow.mono (hid_mono (L := A ++ L) s) fun a _ o h => s a o h) w
  exact q A' _ H1 (Same.fram s) (sub.nodup nd) (fun a ha => .inl (sub.subset ha)) (ow'.mono (sub_hide fun a ha => sub.subset ha) fun a _ o h => h)
end
/-! ### what a row gives -/
theorem breaks_mono {o o' : Gap → Bool} (h : ∀ g, o g = true → o' g = true) {b : Bool} {t : Wd} (hb : breaksF o b t = true) : breaksF o' b t = true := by
  unfold breaksF at hb ⊢
  obtain ⟨p, hp, ha⟩ := List.any_eq_true.mp hb
  exact List.any_eq_true.mpr ⟨p, hp, List.all_eq_true.mpr fun g hg => h g (List.all_eq_true.mp ha g hg)⟩
theorem all2_at {T : List Mk} : ∀ {ls : List (List Mk)} {ms : List Mk}, All2 (fun l m => m ∈ l) ls ms → ∀ l ∈ ls, ∃ m ∈ ms, m ∈ l
  | _, _, .nil, l, h => by simp at h
  | _, _, .cons (a := a) (b := b) h t, l, hl => by
    rcases List.mem_cons.mp hl with rfl | hl
    · exact ⟨b, List.mem_cons_self, h⟩
    · obtain ⟨m, h1, h2⟩ := all2_at (T := T) t l hl
      exact ⟨m, List.mem_cons_of_mem _ h1, h2⟩
theorem all2_in : ∀ {ls : List (List Mk)} {ms : List Mk}, All2 (fun l m => m ∈ l) ls ms → ∀ m ∈ ms, ∃ l ∈ ls, m ∈ l
  | _, _, .nil, l, h => by simp at h
  | _, _, .cons (a := a) (b := b) h t, l, hl => by
    rcases List.mem_cons.mp hl with rfl | hl
    · exact ⟨a, List.mem_cons_self, h⟩
    · obtain ⟨m, h1, h2⟩ := all2_in t l hl
      exact ⟨m, List.mem_cons_of_mem _ h1, h2⟩
theorem open_iff {T : List Mk} {g : Gap} : openG T g = true ↔ ∃ l ∈ closeG g, ∀ m ∈ l, m ∉ T := by
  unfold openG
  rw [Bool.not_eq_true', decide_eq_false_iff_not]
  constructor
  · intro h
    obtain ⟨l, hl⟩ := List.exists_mem_of_ne_nil _ h
    obtain ⟨h1, h2⟩ := List.mem_filter.mp hl
    rw [Bool.not_eq_true', List.any_eq_false] at h2
    exact ⟨l, h1, fun m hm hT => h2 m hm (decide_eq_true hT)⟩
  · rintro ⟨l, h1, h2⟩ h
    have : l ∈ openM T g := List.mem_filter.mpr ⟨h1, by rw [Bool.not_eq_true', List.any_eq_false]; exact fun m hm hd => h2 m hm (of_decide_eq_true hd)⟩
    rw [h] at this
    simp at this
theorem open_row {T : List Mk} {cl : Gap → List Mk} {gs : List Gap} {T' : List Mk} (hcl : ∀ g, Closes T g (cl g)) (hT : ∀ m, m ∈ T' ↔ m ∈ T ∨ m ∈ gs.flatMap cl) {g : Gap} (h : openG T' g = true) : openG T g = true ∧ g ∉ gs := by
  obtain ⟨l, h1, h2⟩ := open_iff.mp h
  have ho : openG T g = true := open_iff.mpr ⟨l, h1, fun m hm z => h2 m hm ((hT m).mpr (.inl z))⟩
  refine ⟨ho, fun hg => ?_⟩
  have hl : l ∈ openM T g := List.mem_filter.mpr ⟨h1, by rw [Bool.not_eq_true', List.any_eq_false]; exact fun m hm hd => h2 m hm ((hT m).mpr (.inl (of_decide_eq_true hd)))⟩
  obtain ⟨m, hm, hml⟩ := all2_at (T := T) (hcl g) l hl
  exact h2 m hml ((hT m).mpr (.inr (List.mem_flatMap.mpr ⟨g, hg, hm⟩)))
theorem closeG_ok (g : Gap) : ∀ l ∈ closeG g, ∀ m ∈ l, m.ok = true := by cases g <;> decide
theorem choicesF_sub : ∀ (gs : List Gap) (i : Nat), i ≤ gs.length → ∀ l ∈ choicesF (gs.take i), l.Sublist (gs.take i)
  | gs, 0, _ => fun l h => by
    have : l = [] := by simpa [choicesF] using h
    rw [this]; exact List.nil_sublist _
  | gs, i + 1, hi => fun l h => by
    have hg : gs[i]? = some gs[i] := List.getElem?_eq_getElem hi
    rw [choicesF_take hg] at h
    rw [List.take_add_one, hg]
    rcases List.mem_append.mp h with h | h
    · exact (choicesF_sub gs i (by omega) l h).trans (List.sublist_append_left _ _)
    · obtain ⟨l', h', rfl⟩ := List.mem_map.mp h
      exact (choicesF_sub gs i (by omega) l' h').append (List.Sublist.refl _)
theorem sum_sub {α : Type} (f : α → Nat) : ∀ {l m : List α}, l.Sublist m → (l.map f).sum ≤ (m.map f).sum
  | _, _, .slnil => Nat.le_refl _
  | _, _, .cons a h => by rw [List.map_cons, List.sum_cons]; have := sum_sub f h; omega
  | _, _, .cons₂ a h => by rw [List.map_cons, List.map_cons, List.sum_cons, List.sum_cons]; have := sum_sub f h; omega
theorem flat_sum {α β : Type} (f : α → List β) (c : α → Nat) : ∀ {l : List α}, (∀ a ∈ l, (f a).length ≤ c a) → (l.flatMap f).length ≤ (l.map c).sum
  | [], _ => Nat.le_refl _
  | a :: l, h => by
    rw [List.flatMap_cons, List.length_append, List.map_cons, List.sum_cons]
    have h1 := h a List.mem_cons_self
    have h2 := flat_sum f c (l := l) fun b hb => h b (List.mem_cons_of_mem _ hb)
    omega
theorem rowMs_len {T : List Mk} {cl : Gap → List Mk} {gs : List Gap} (hcl : ∀ g, Closes T g (cl g)) (hs : gs.Sublist gaps9) : (gs.flatMap cl).length ≤ 27 := by
  refine Nat.le_trans (flat_sum cl (fun g => (closeG g).length) fun g _ => ?_) (Nat.le_trans (sum_sub (fun g => (closeG g).length) hs) (by decide))
  rw [← All2.len (hcl g)]
  exact List.length_filter_le _ _
theorem choicesF_full : ∀ (gs : List Gap) (i : Nat), i ≤ gs.length → gs.take i ∈ choicesF (gs.take i)
  | gs, 0, _ => by rw [List.take_zero]; exact List.mem_singleton.mpr rfl
  | gs, i + 1, hi => by
    have hg : gs[i]? = some gs[i] := List.getElem?_eq_getElem hi
    rw [choicesF_take hg, List.take_add_one, hg]
    exact List.mem_append_right _ (List.mem_map_of_mem (f := fun l => l ++ [gs[i]]) (choicesF_full gs i (by omega)))
theorem breaks_none (b : Bool) {o : Gap → Bool} (h : ∀ g, o g = false) : breaksF o b .safe = false := by
  rw [show o = fun _ => false from funext h]
  cases b <;> decide
theorem opens_all {T : List Mk} {g : Gap} (h : openG T g = true) : g ∈ opens T := List.mem_filter.mpr ⟨by cases g <;> decide, h⟩
/-- a table that a row gives -/
structure SafeT (T' : List Mk) (b' : Bool) : Prop where
  nd : T'.Nodup
  len : T'.length ≤ 63
  ok : ∀ m ∈ T', m.ok = true
  safe : holdsF T' b' .safe = true
theorem row_safe {T : List Mk} {cl : Gap → List Mk} {gs : List Gap} {r : Bool} (hT : T.length ≤ 36) (hok : ∀ m ∈ T, m.ok = true) (hcl : ∀ g, Closes T g (cl g)) (hs : gs.Sublist gaps9) (hb : breaksF (fun g => openG T g && !decide (g ∈ gs)) r .safe = false) : SafeT (setM (T ++ sortM (gs.flatMap cl))) r := by
  have hm : ∀ m, m ∈ setM (T ++ sortM (gs.flatMap cl)) ↔ m ∈ T ∨ m ∈ gs.flatMap cl := fun m => by rw [mem_setM, List.mem_append, mem_sortM]
  refine ⟨(List.mergeSort_perm (dd _) leM).nodup_iff.mpr (nd_dd _), ?_, fun m h => ?_, ?_⟩
  · have h1 := len_setM (T ++ sortM (gs.flatMap cl))
    have h2 := rowMs_len (cl := cl) hcl hs
    rw [List.length_append, len_sortM] at h1
    omega
  · rcases (hm m).mp h with h | h
    · exact hok m h
    · obtain ⟨g, hg, h⟩ := List.mem_flatMap.mp h
      obtain ⟨l, hl, hml⟩ := all2_in (hcl g) m h
      exact closeG_ok g l (List.mem_filter.mp hl).1 m hml
  · unfold holdsF
    rw [Bool.not_eq_true']
    cases q : breaksF (openG (setM (T ++ sortM (gs.flatMap cl)))) r .safe with
    | false => rfl
    | true =>
      rw [breaks_mono (o' := fun g => openG T g && !decide (g ∈ gs)) (fun g hg => ?_) q] at hb
      · cases hb
      · obtain ⟨h1, h2⟩ := open_row hcl hm hg
        rw [h1, decide_eq_false h2]; rfl
theorem allMs_nd : allMs.Nodup := by
  unfold allMs
  refine (List.mergeSort_perm _ leM).nodup_iff.mpr ?_
  decide +kernel
set_option maxRecDepth 100000
set_option maxHeartbeats 4000000
/-! ### rounds that come to rest -/
theorem filter_len_le' {α : Type} {p q : α → Bool} : ∀ {l : List α}, (∀ x ∈ l, p x = true → q x = true) → (l.filter p).length ≤ (l.filter q).length
  | [], _ => Nat.le_refl _
  | a :: l, h => by
    have ih := filter_len_le' (l := l) fun y hy => h y (List.mem_cons_of_mem _ hy)
    rw [List.filter_cons, List.filter_cons]
    by_cases hp : p a = true
    · rw [if_pos hp, if_pos (h a List.mem_cons_self hp), List.length_cons, List.length_cons]; omega
    · rw [if_neg hp]
      by_cases hq : q a = true
      · rw [if_pos hq, List.length_cons]; omega
      · rw [if_neg hq]; exact ih
theorem filter_len_lt' {α : Type} {p q : α → Bool} : ∀ {l : List α}, (∀ x ∈ l, p x = true → q x = true) → (∃ x ∈ l, q x = true ∧ p x = false) → (l.filter p).length < (l.filter q).length
  | [], _, ⟨x, h, _⟩ => by simp at h
  | a :: l, h, ⟨x, hx, h1, h2⟩ => by
    have hle := filter_len_le' (l := l) (p := p) (q := q) fun y hy => h y (List.mem_cons_of_mem _ hy)
    rw [List.filter_cons, List.filter_cons]
    rcases List.mem_cons.mp hx with rfl | hx
    · rw [if_pos h1, h2, if_neg (by decide), List.length_cons]; omega
    · have ih := filter_len_lt' (l := l) (p := p) (q := q) (fun y hy => h y (List.mem_cons_of_mem _ hy)) ⟨x, hx, h1, h2⟩
      by_cases hp : p a = true
      · rw [if_pos hp, if_pos (h a List.mem_cons_self hp), List.length_cons, List.length_cons]; omega
      · rw [if_neg hp]
        by_cases hq : q a = true
        · rw [if_pos hq, List.length_cons]; omega
        · rw [if_neg hq]; exact ih
theorem rounds_rest {n : Nat} {C : Nat → List Nat} {Opn : Nat → Prop} (mono : ∀ k x, x ∈ C k → x ∈ C (k + 1)) (grow : ∀ k, Opn k → ∃ x, x < n ∧ x ∉ C k ∧ x ∈ C (k + 1)) (stay : ∀ k, ¬ Opn k → ¬ Opn (k + 1)) : ¬ Opn n := by
  intro hO
  have later : ∀ d k, ¬ Opn k → ¬ Opn (k + d) := fun d => by
    induction d with
    | zero => exact fun k h => h
    | succ d ih => exact fun k h => stay _ (ih k h)
  have all : ∀ k, k ≤ n → Opn k := fun k hk => Classical.byContradiction fun h => by
    have := later (n - k) k h
    rw [show k + (n - k) = n by omega] at this
    exact this hO
  have cnt : ∀ k, k ≤ n + 1 → k ≤ ((List.range n).filter fun x => decide (x ∈ C k)).length := fun k => by
    induction k with
    | zero => exact fun _ => Nat.zero_le _
    | succ k ih =>
      intro hk
      have h1 := ih (by omega)
      obtain ⟨x, hx, h2, h3⟩ := grow k (all k (by omega))
      have h4 := filter_len_lt' (l := List.range n) (p := fun x => decide (x ∈ C k)) (q := fun x => decide (x ∈ C (k + 1))) (fun y _ hy => decide_eq_true (mono k y (of_decide_eq_true hy))) ⟨x, List.mem_range.mpr hx, decide_eq_true h3, decide_eq_false h2⟩
      omega
  have h1 := cnt (n + 1) (Nat.le_refl _)
  have h2 := List.length_filter_le (fun x => decide (x ∈ C (n + 1))) (List.range n)
  rw [List.length_range] at h2
  omega
/-! ### what is reached -/
theorem mem_roundR {slots : List (List (Option Nat))} {found : List Nat} {x : Nat} : x ∈ roundR slots found ↔ x ∈ found ∨ ∃ m ∈ found, some x ∈ slots.getD m [] := by
  unfold roundR
  rw [mem_sortN, List.mem_append, List.mem_flatMap]
  constructor
  · rintro (h | ⟨m, hm, h⟩)
    · exact .inl h
    · exact .inr ⟨m, hm, mem_vals.mp h⟩
  · rintro (h | ⟨m, hm, h⟩)
    · exact .inl h
    · exact .inr ⟨m, hm, mem_vals.mpr h⟩
theorem reach_closed {S : Sta} (O : S.Ok) {m x : Nat} (hm : m ∈ reachedF S) (e : Edge S m x) : x ∈ reachedF S := by
  refine Classical.byContradiction fun hx => ?_
  refine rounds_rest (n := S.slots.length) (C := reachK S.slots S.held) (Opn := fun k => ∃ m ∈ reachK S.slots S.held k, ∃ x, Edge S m x ∧ x ∉ reachK S.slots S.held k) (fun k x h => mem_roundR.mpr (.inl h)) ?_ ?_ ⟨m, hm, x, e, hx⟩
  · rintro k ⟨m, hm, x, e, hx⟩
    exact ⟨x, edge_lt O e, hx, mem_roundR.mpr (.inr ⟨m, hm, e⟩)⟩
  · rintro k hn ⟨m, hm, x, e, hx⟩
    have back : ∀ y, y ∈ reachK S.slots S.held (k + 1) → y ∈ reachK S.slots S.held k := fun y hy => by
      rcases mem_roundR.mp hy with h | ⟨m, hm, e⟩
      · exact h
      · exact Classical.byContradiction fun z => hn ⟨m, hm, y, e, z⟩
    exact hn ⟨m, back m hm, x, e, fun z => hx (mem_roundR.mpr (.inl z))⟩
theorem reach_held {S : Sta} {t x : Nat} (h : x ∈ S.hold t) : ∀ k, x ∈ reachK S.slots S.held k
  | 0 => by
    refine (mem_sortN x _).mpr (List.mem_flatten.mpr ?_)
    unfold Sta.hold at h
    rw [List.getD_eq_getElem?_getD] at h
    cases q : S.held[t]? with
    | none => rw [q] at h; simp at h
    | some l => rw [q] at h; exact ⟨l, List.mem_of_getElem? q, h⟩
  | k + 1 => mem_roundR.mpr (.inl (reach_held h k))
/-- what is reached keeps to a thing that is closed -/
theorem reach_ind {S : Sta} {p : Nat → Prop} (h1 : ∀ t x, x ∈ S.hold t → t < S.held.length → p x) (h2 : ∀ m x, p m → Edge S m x → p x) : ∀ k x, x ∈ reachK S.slots S.held k → p x
  | 0, x, h => by
    obtain ⟨l, hl, hx⟩ := List.mem_flatten.mp ((mem_sortN x _).mp h)
    obtain ⟨t, ht, e⟩ := List.mem_iff_getElem.mp hl
    refine h1 t x ?_ ht
    unfold Sta.hold
    rw [List.getD_eq_getElem?_getD, List.getElem?_eq_getElem ht, e]; exact hx
  | k + 1, x, h => by
    rcases mem_roundR.mp h with h | ⟨m, hm, e⟩
    · exact reach_ind h1 h2 k x h
    · exact h2 m x (reach_ind h1 h2 k m hm) e
/-! ### what is covered -/
theorem mem_coverAt {S : Sta} {f : List Nat} {k x : Nat} : x ∈ coverAt S f k ↔ x ∈ f ∨ ((S.col k = .grey ∨ k ∈ f) ∧ Edge S k x ∧ x ∉ f ∧ S.col x = .white) := by
  unfold coverAt
  by_cases h : (decide (S.col k = .grey) || decide (k ∈ f)) = true
  · rw [if_pos h]
    have h' : S.col k = .grey ∨ k ∈ f := by
      rw [Bool.or_eq_true] at h
      exact h.imp of_decide_eq_true of_decide_eq_true
    rw [List.mem_append, List.mem_filter, List.mem_filter, mem_vals]
    constructor
    · rintro (q | ⟨⟨q1, q2⟩, q3⟩)
      · exact .inl q
      · rw [Bool.not_eq_true', decide_eq_false_iff_not] at q2
        exact .inr ⟨h', q1, q2, of_decide_eq_true q3⟩
    · rintro (q | ⟨_, q1, q2, q3⟩)
      · exact .inl q
      · exact .inr ⟨⟨q1, by rw [Bool.not_eq_true', decide_eq_false_iff_not]; exact q2⟩, decide_eq_true q3⟩
  · rw [if_neg h]
    constructor
    · exact .inl
    · rintro (q | ⟨q, _⟩)
      · exact q
      · exfalso
        refine h ?_
        rw [Bool.or_eq_true]
        exact q.imp decide_eq_true decide_eq_true
theorem coverJ_mono {S : Sta} {f : List Nat} {x : Nat} (h : x ∈ f) : ∀ j, x ∈ coverJ S f j
  | 0 => h
  | j + 1 => mem_coverAt.mpr (.inl (coverJ_mono h j))
theorem coverJ_add {S : Sta} {f : List Nat} {m x : Nat} (h : S.col m = .grey ∨ m ∈ f) (e : Edge S m x) (w : S.col x = .white) : ∀ j, m < j → x ∈ coverJ S f j
  | 0, hj => by omega
  | j + 1, hj => by
    by_cases q : m < j
    · exact mem_coverAt.mpr (.inl (coverJ_add h e w j q))
    · have : m = j := by omega
      subst this
      by_cases z : x ∈ coverJ S f m
      · exact mem_coverAt.mpr (.inl z)
      · exact mem_coverAt.mpr (.inr ⟨h.imp id fun h => coverJ_mono h m, e, z, w⟩)
theorem coverJ_back {S : Sta} {f : List Nat} (hc : ∀ m x, (S.col m = .grey ∨ m ∈ f) → Edge S m x → S.col x = .white → x ∈ f) : ∀ j x, x ∈ coverJ S f j → x ∈ f
  | 0, x, h => h
  | j + 1, x, h => by
    rcases mem_coverAt.mp h with h | ⟨h1, e, _, w⟩
    · exact coverJ_back hc j x h
    · exact hc j x (h1.imp id (coverJ_back hc j j)) e w
theorem edge_src {S : Sta} {m x : Nat} (e : Edge S m x) : m < S.slots.length := by
  refine Classical.byContradiction fun hn => ?_
  unfold Edge Sta.row at e
  rw [List.getD_eq_getElem?_getD, List.getElem?_eq_none (by omega)] at e
  simp at e
theorem cover_closed {S : Sta} (O : S.Ok) {m x : Nat} (hm : S.col m = .grey ∨ m ∈ coverK S S.slots.length) (e : Edge S m x) (w : S.col x = .white) : x ∈ coverK S S.slots.length := by
  refine Classical.byContradiction fun hx => ?_
  refine rounds_rest (n := S.slots.length) (C := coverK S) (Opn := fun k => ∃ m x, (S.col m = .grey ∨ m ∈ coverK S k) ∧ Edge S m x ∧ S.col x = .white ∧ x ∉ coverK S k) (fun k x h => coverJ_mono h _) ?_ ?_ ⟨m, x, hm, e, w, hx⟩
  · rintro k ⟨m, x, hm, e, w, hx⟩
    exact ⟨x, edge_lt O e, hx, coverJ_add hm e w _ (edge_src e)⟩
  · rintro k hn ⟨m, x, hm, e, w, hx⟩
    have hc : ∀ m x, (S.col m = .grey ∨ m ∈ coverK S k) → Edge S m x → S.col x = .white → x ∈ coverK S k := fun m x h e w => Classical.byContradiction fun z => hn ⟨m, x, h, e, w, z⟩
    exact hx (coverJ_mono (hc m x (hm.imp id (coverJ_back hc _ m)) e w) _)
theorem covered_of {S : Sta} (O : S.Ok) {x : Nat} (h : Cov S x) : x ∈ coveredF S := by
  refine (mem_sortN x _).mpr ?_
  induction h with
  | grey hm e w => exact cover_closed O (.inl hm) e w
  | cov _ e w ih => exact cover_closed O (.inr ih) e w
/-! ### states have what the invariant says -/
theorem mem_blackWs {S : Sta} {x : Nat} (h : x ∈ blackWs S) : ∃ m, S.col m = .black ∧ Edge S m x ∧ S.col x = .white := by
  obtain ⟨m, _, h⟩ := List.mem_flatMap.mp h
  split at h
  · rename_i q
    obtain ⟨h1, h2⟩ := List.mem_filter.mp h
    exact ⟨m, q, mem_vals.mp h1, of_decide_eq_true h2⟩
  · simp at h
theorem mem_heldWs {S : Sta} {x : Nat} (h : x ∈ heldWs S) : ∃ t, S.scn t = true ∧ x ∈ S.hold t ∧ S.col x = .white := by
  obtain ⟨t, _, h⟩ := List.mem_flatMap.mp h
  split at h
  · rename_i q
    obtain ⟨h1, h2⟩ := List.mem_filter.mp h
    exact ⟨t, q, h1, of_decide_eq_true h2⟩
  · simp at h
theorem mem_greyRow {S : Sta} {m x : Nat} (h : S.col m = .grey) (e : Edge S m x) : some x ∈ greyRow S := List.mem_flatMap.mpr ⟨m, List.mem_range.mpr (edge_src e), by rw [if_pos h]; exact e⟩
section
variable {S : Sta} {gh gb : GK} {b : Bool}
theorem good_cov : ∀ {g : GK} {x : Nat}, g ≠ .all → Good g S x → Cov S x
  | .emp, _, _, h => h.elim
  | .dir, _, _, h => h.cov
  | .cov, _, _, h => h
  | .all, _, n, _ => absurd rfl n
theorem no_cov (ng : ∀ m, S.col m ≠ .grey) {x : Nat} (h : Cov S x) : False := by
  induction h with
  | grey hm _ _ => exact ng _ hm
  | cov _ _ _ ih => exact ih
theorem has_strong (I : Inv2 gh .emp S) : hasF b S .strong = true := by
  refine decide_eq_true (List.eq_nil_iff_forall_not_mem.mpr fun x hx => ?_)
  obtain ⟨m, h1, h2, h3⟩ := mem_blackWs hx
  exact I.black m x h1 h2 h3
theorem has_clean (I : Inv2 .emp gb S) : hasF b S .clean = true := by
  refine decide_eq_true (List.eq_nil_iff_forall_not_mem.mpr fun x hx => ?_)
  obtain ⟨m, h1, h2, h3⟩ := mem_heldWs hx
  exact I.held m x h1 h2 h3
theorem has_weak (O : S.Ok) (hg : gb ≠ .all) (I : Inv2 gh gb S) : hasF b S .weak = true := by
  refine List.all_eq_true.mpr fun x hx => decide_eq_true ?_
  obtain ⟨m, h1, h2, h3⟩ := mem_blackWs hx
  exact covered_of O (good_cov hg (I.black m x h1 h2 h3))
theorem has_covered (O : S.Ok) (hg : gh ≠ .all) (I : Inv2 gh gb S) : hasF b S .covered = true := by
  refine List.all_eq_true.mpr fun x hx => decide_eq_true ?_
  obtain ⟨m, h1, h2, h3⟩ := mem_heldWs hx
  exact covered_of O (good_cov hg (I.held m x h1 h2 h3))
theorem has_direct (hg : gh = .emp ∨ gh = .dir) (I : Inv2 gh gb S) : hasF b S .direct = true := by
  refine List.all_eq_true.mpr fun x hx => decide_eq_true ?_
  obtain ⟨t, h1, h2, h3⟩ := mem_heldWs hx
  have h := I.held t x h1 h2 h3
  rcases hg with rfl | rfl
  · exact h.elim
  · obtain ⟨_, m, hm, e⟩ := h
    exact mem_greyRow hm e
theorem has_safe (O : S.Ok) (hb : gb ≠ .all) (hh : b = true ∨ gh ≠ .all) (I : Inv2 gh gb S) : hasF b S .safe = true := by
  show (!ended b S || !(reachedF S).any (isWhite S)) = true
  cases he : ended b S with
  | false => rfl
  | true =>
    unfold ended at he
    rw [Bool.and_eq_true, Bool.and_eq_true] at he
    obtain ⟨⟨e1, e2⟩, e3⟩ := he
    rw [Bool.not_eq_true', List.any_eq_false] at e1
    rw [List.all_eq_true] at e2 e3
    have ng : ∀ m, S.col m ≠ .grey := fun m hm => by
      unfold Sta.col at hm
      rw [List.getD_eq_getElem?_getD] at hm
      cases q : S.cols[m]? with
      | none => rw [q] at hm; cases hm
      | some c => rw [q] at hm; exact e1 c (List.mem_of_getElem? q) (decide_eq_true hm)
    have blk : ∀ m, S.col m ≠ .white → S.col m = .black := fun m hm => by
      cases q : S.col m with
      | black => rfl
      | grey => exact absurd q (ng m)
      | white => exact absurd q hm
    have hld : ∀ t x, x ∈ S.hold t → t < S.held.length → S.col x = .black := fun t x hx ht => blk x fun w => by
      rcases hh with rfl | hh
      · have hl : S.hold t ∈ S.held := by
          unfold Sta.hold
          rw [List.getD_eq_getElem?_getD, List.getElem?_eq_getElem ht]; exact List.getElem_mem ht
        have := e3 _ hl
        rw [Bool.true_and, Bool.not_eq_true', List.any_eq_false] at this
        exact this x hx (decide_eq_true w)
      · have hs : S.scn t = true := by
          have hl : t < S.sc.length := by rw [O.sl]; exact ht
          unfold Sta.scn
          rw [List.getD_eq_getElem?_getD, List.getElem?_eq_getElem hl]
          exact e2 _ (List.getElem_mem hl)
        exact no_cov ng (good_cov hh (I.held t x hs hx w))
    have hr := reach_ind (S := S) (p := fun x => S.col x = .black) hld (fun m x hm e => blk x fun w => no_cov ng (good_cov hb (I.black m x hm e w))) S.slots.length
    have : (reachedF S).any (isWhite S) = false := by
      rw [List.any_eq_false]
      intro x hx hw
      have h1 : S.col x = .white := of_decide_eq_true hw
      have h2 : S.col x = .black := hr x hx
      rw [h1] at h2; cases h2
    rw [this]; rfl
end
/-! ### what closed gaps say of a table -/
section
variable {T : List Mk} {b : Bool} {g : GK}
theorem closed_iff {g : Gap} (h : openG T g = false) : ∀ l ∈ closeG g, ∃ m ∈ l, m ∈ T := fun l hl => Classical.byContradiction fun z => by
  have : openG T g = true := open_iff.mpr ⟨l, hl, fun m hm hT => z ⟨m, hm, hT⟩⟩
  rw [h] at this; cases this
theorem cl_n (h : openG T .newWhite = false) : TN T := by
  obtain ⟨m, hm, hT⟩ := closed_iff h _ List.mem_cons_self
  rw [List.mem_singleton.mp hm] at hT; exact hT
theorem cl_lg (h : openG T .loadGrey = false) : TL T .grey := by
  obtain ⟨m, hm, hT⟩ := closed_iff h _ List.mem_cons_self
  rw [List.mem_singleton.mp hm] at hT; exact hT
theorem cl_lw (h : openG T .loadWhite = false) : TL T .white := by
  obtain ⟨m, hm, hT⟩ := closed_iff h _ List.mem_cons_self
  rw [List.mem_singleton.mp hm] at hT; exact hT
theorem cl_lb (h : openG T .loadBlack = false) : TL T .black := by
  obtain ⟨m, hm, hT⟩ := closed_iff h _ List.mem_cons_self
  rw [List.mem_singleton.mp hm] at hT; exact hT
theorem cl_into {s : Bool} {o : Option Col} (h : ∃ m ∈ into s o, m ∈ T) : TInto T s o := by
  obtain ⟨m, hm, hT⟩ := h
  rcases List.mem_cons.mp hm with rfl | hm
  · exact .inl hT
  · rw [List.mem_singleton.mp hm] at hT
    exact .inr hT
theorem cl_bu (h : openG T .byUn = false) : TB T false := fun o ho => cl_into (closed_iff h _ (List.mem_map_of_mem (f := into false) ho))
theorem cl_bs (h : openG T .bySc = false) : TB T true := fun o ho => cl_into (closed_iff h _ (List.mem_map_of_mem (f := into true) ho))
theorem cl_ow (h : openG T .overWhite = false) : TO T := cl_into (closed_iff h _ List.mem_cons_self)
theorem mem_cutMs (h : Col) (s : Bool) (n : Option Col) : Mk.store s h (some .white) n .old ∈ cutMs h := by
  refine List.mem_flatMap.mpr ⟨s, by cases s <;> decide, List.mem_map.mpr ⟨n, ?_, rfl⟩⟩
  rcases n with _ | c
  · decide
  · cases c <;> decide
theorem cl_cg (h : openG T .cutGrey = false) : TC T .grey := fun s n => by
  obtain ⟨m, hm, hT⟩ := closed_iff h _ (List.mem_map_of_mem (f := fun m => [m]) (mem_cutMs .grey s n))
  rw [List.mem_singleton.mp hm] at hT; exact hT
theorem cl_cw (h : openG T .cutWhite = false) : TC T .white := fun s n => by
  obtain ⟨m, hm, hT⟩ := closed_iff h _ (List.mem_map_of_mem (f := fun m => [m]) (mem_cutMs .white s n))
  rw [List.mem_singleton.mp hm] at hT; exact hT
theorem holds_way {t : Wd} (h : holdsF T b t = true) : ∀ p ∈ ways b t, ∃ g ∈ p.1, openG T g = false := fun p hp => by
  unfold holdsF breaksF at h
  rw [Bool.not_eq_true', List.any_eq_false] at h
  have := h p hp
  rw [Bool.not_eq_true, List.all_eq_false] at this
  obtain ⟨g, h1, h2⟩ := this
  exact ⟨g, h1, by rwa [Bool.not_eq_true] at h2⟩
theorem way1 {g1 : Gap} (h : ∃ g ∈ [g1], openG T g = false) : openG T g1 = false := by
  obtain ⟨g, hg, e⟩ := h
  rw [← List.mem_singleton.mp hg]; exact e
theorem way2 {g1 g2 : Gap} (h : ∃ g ∈ [g1, g2], openG T g = false) : openG T g1 = false ∨ openG T g2 = false := by
  obtain ⟨g, hg, e⟩ := h
  rcases List.mem_cons.mp hg with rfl | hg
  · exact .inl e
  · exact .inr (way1 ⟨g, hg, e⟩)
theorem way3 {g1 g2 g3 : Gap} (h : ∃ g ∈ [g1, g2, g3], openG T g = false) : openG T g1 = false ∨ openG T g2 = false ∨ openG T g3 = false := by
  obtain ⟨g, hg, e⟩ := h
  rcases List.mem_cons.mp hg with rfl | hg
  · exact .inl e
  · exact .inr (way2 ⟨g, hg, e⟩)
theorem way4 {g1 g2 g3 g4 : Gap} (h : ∃ g ∈ [g1, g2, g3, g4], openG T g = false) : openG T g1 = false ∨ openG T g2 = false ∨ openG T g3 = false ∨ openG T g4 = false := by
  obtain ⟨g, hg, e⟩ := h
  rcases List.mem_cons.mp hg with rfl | hg
  · exact .inl e
  · exact .inr (way3 ⟨g, hg, e⟩)
theorem fit_ee (n : TN T) (lg : TL T .grey) (bu : TB T false) : Fit T .emp .emp := ⟨trivial, trivial, .inr n, .inr (.inl lg), .inr (.inr (.inr rfl)), .inr (.inr rfl), .inr bu, .inr (.inr rfl), .inr (.inr rfl)⟩
theorem fit_ea (n : TN T) (lg : TL T .grey) (lb : TL T .black) : Fit T .emp .all := ⟨trivial, trivial, .inr n, .inr (.inl lg), .inr (.inr (.inr rfl)), .inr (.inl lb), .inl rfl, .inl rfl, .inl rfl⟩
theorem fit_ae (bu : TB T false) (bs : TB T true) : Fit T .all .emp := ⟨trivial, trivial, .inl rfl, .inl rfl, .inl rfl, .inl rfl, .inr bu, .inr (.inr rfl), .inr (.inl ⟨bs, rfl⟩)⟩
/-- goodness by grey -/
structure Mid (T : List Mk) (g : GK) : Prop where
  is : g = .dir ∨ g = .cov
  keep : Keep T g
  lw : TL T .white ∨ g = .cov
theorem mid_dir (cg : TC T .grey) (lw : TL T .white) : Mid T .dir := ⟨.inl rfl, cg, .inl lw⟩
theorem mid_cov (cg : TC T .grey) (cw : TC T .white) : Mid T .cov := ⟨.inr rfl, ⟨cg, cw⟩, .inr rfl⟩
theorem mid_of (cg : TC T .grey) (h : TL T .white ∨ TC T .white) : ∃ g, Mid T g := h.elim (fun h => ⟨_, mid_dir cg h⟩) fun h => ⟨_, mid_cov cg h⟩
theorem Mid.na (M : Mid T g) : g ≠ .all := by rcases M.is with rfl | rfl <;> decide
theorem Mid.lg (M : Mid T g) : g = .all ∨ TL T .grey ∨ g = .dir ∨ g = .cov := .inr (.inr M.is)
theorem Mid.lw' (M : Mid T g) : g = .all ∨ TL T .white ∨ g = .cov ∨ g = .emp := .inr (M.lw.imp id .inl)
theorem fit_mm (M : Mid T g) (n : TN T) (bu : TB T false) (ow : TO T) : Fit T g g := ⟨M.keep, M.keep, .inr n, M.lg, M.lw', .inr (.inr (by rcases M.is with rfl | rfl <;> rfl)), .inr bu, .inr (.inl ow), .inr (.inr (by rcases M.is with rfl | rfl <;> rfl))⟩
theorem fit_me (M : Mid T g) (n : TN T) (bu : TB T false) (bs : TB T true) : Fit T g .emp := ⟨M.keep, trivial, .inr n, M.lg, M.lw', .inr (.inr (by rcases M.is with rfl | rfl <;> rfl)), .inr bu, .inr (.inr rfl), .inr (.inl ⟨bs, rfl⟩)⟩
theorem fit_ma (M : Mid T g) (n : TN T) (lb : TL T .black) : Fit T g .all := ⟨M.keep, trivial, .inr n, M.lg, M.lw', .inr (.inl lb), .inl rfl, .inl rfl, .inl rfl⟩
theorem inv_start {h : Hea} {gh gb : GK} : Inv2 gh gb h.start := by
  refine ⟨fun t x hs _ _ => ?_, fun m x hm e _ => ?_⟩
  · have hs : (List.replicate h.held.length false).getD t false = true := hs
    rw [List.getD_eq_getElem?_getD, List.getElem?_replicate] at hs
    split at hs <;> cases hs
  · have hl : m < h.slots.length := edge_src e
    have hm : (List.replicate h.slots.length Col.white).getD m .black = .black := hm
    rw [List.getD_eq_getElem?_getD, List.getElem?_replicate, if_pos hl] at hm
    cases hm
theorem inv_run {h : Hea} {gh gb : GK} (F : Fit T gh gb) (O : h.start.Ok) {S : Sta} : Run T b h.start S → Inv2 gh gb S
  | .start => inv_start
  | .step r hs => inv_next (r.ok O) (poss_of_steps (r.ok O) hs) F (inv_run F O r)
/-- the way that weak and safe with rescans go -/
theorem weak_fit (BU : openG T .byUn = false) (h1 : openG T .newWhite = false ∨ openG T .bySc = false) (h2 : openG T .loadGrey = false ∨ openG T .bySc = false ∨ openG T .cutGrey = false) (h3 : openG T .loadGrey = false ∨ openG T .bySc = false ∨ openG T .overWhite = false) (h4 : openG T .loadGrey = false ∨ openG T .loadWhite = false ∨ openG T .bySc = false ∨ openG T .cutWhite = false) : ∃ gh gb, gb ≠ .all ∧ Fit T gh gb := by
  by_cases hbs : openG T .bySc = false
  · exact ⟨_, _, (by decide), fit_ae (cl_bu BU) (cl_bs hbs)⟩
  have n := cl_n (h1.resolve_right hbs)
  by_cases hlg : openG T .loadGrey = false
  · exact ⟨_, _, (by decide), fit_ee n (cl_lg hlg) (cl_bu BU)⟩
  have cg := cl_cg ((h2.resolve_left hlg).resolve_left hbs)
  have ow := cl_ow ((h3.resolve_left hlg).resolve_left hbs)
  obtain ⟨g, M⟩ := mid_of cg ((h4.resolve_left hlg).elim (fun h => .inl (cl_lw h)) fun h => .inr (cl_cw (h.resolve_left hbs)))
  exact ⟨g, g, M.na, fit_mm M n (cl_bu BU) ow⟩
theorem run_has (T : List Mk) (b : Bool) (h : Hea) (S : Sta) (hO : h.Ok) (r : Run T b h.start S) (t : Wd) (ht : holdsF T b t = true) : hasF b S t = true := by
  have O0 := Hea.start_ok hO
  have O := r.ok O0
  have W := holds_way ht
  cases t with
  | clean =>
    have n := cl_n (way1 (W ([.newWhite], 1) (by simp [ways])))
    have lg := cl_lg (way1 (W ([.loadGrey], 1) (by simp [ways])))
    rcases way2 (W ([.byUn, .loadBlack], 2) (by simp [ways])) with h | h
    · exact has_clean (inv_run (fit_ee n lg (cl_bu h)) O0 r)
    · exact has_clean (inv_run (fit_ea n lg (cl_lb h)) O0 r)
  | strong =>
    have bu := cl_bu (way1 (W ([.byUn], 1) (by simp [ways])))
    have h1 := way2 (W ([.newWhite, .bySc], 2) (by simp [ways]))
    have h2 := way2 (W ([.loadGrey, .bySc], 2) (by simp [ways]))
    rcases h1 with h1 | h1
    · rcases h2 with h2 | h2
      · exact has_strong (inv_run (fit_ee (cl_n h1) (cl_lg h2) bu) O0 r)
      · exact has_strong (inv_run (fit_ae bu (cl_bs h2)) O0 r)
    · exact has_strong (inv_run (fit_ae bu (cl_bs h1)) O0 r)
  | weak =>
    obtain ⟨gh, gb, hg, F⟩ := weak_fit (way1 (W ([.byUn], 1) (by simp [ways]))) (way2 (W ([.newWhite, .bySc], 2) (by simp [ways]))) (way3 (W ([.loadGrey, .bySc, .cutGrey], 3) (by simp [ways]))) (way3 (W ([.loadGrey, .bySc, .overWhite], 3) (by simp [ways]))) (way4 (W ([.loadGrey, .loadWhite, .bySc, .cutWhite], 4) (by simp [ways])))
    exact has_weak O hg (inv_run F O0 r)
  | covered =>
    have n := cl_n (way1 (W ([.newWhite], 1) (by simp [ways])))
    have h2 := way2 (W ([.loadGrey, .cutGrey], 2) (by simp [ways]))
    have h3 := way2 (W ([.byUn, .loadBlack], 2) (by simp [ways]))
    have h4 := way3 (W ([.loadGrey, .loadWhite, .cutWhite], 3) (by simp [ways]))
    have h5 := way4 (W ([.loadGrey, .bySc, .overWhite, .loadBlack], 4) (by simp [ways]))
    by_cases hlg : openG T .loadGrey = false
    · rcases h3 with h | h
      · exact has_covered O (by decide) (inv_run (fit_ee n (cl_lg hlg) (cl_bu h)) O0 r)
      · exact has_covered O (by decide) (inv_run (fit_ea n (cl_lg hlg) (cl_lb h)) O0 r)
    obtain ⟨g, M⟩ := mid_of (cl_cg (h2.resolve_left hlg)) ((h4.resolve_left hlg).imp cl_lw cl_cw)
    by_cases hlb : openG T .loadBlack = false
    · exact has_covered O M.na (inv_run (fit_ma M n (cl_lb hlb)) O0 r)
    have bu := cl_bu (h3.resolve_right hlb)
    rcases h5.resolve_left hlg with h | h | h
    · exact has_covered O M.na (inv_run (fit_me M n bu (cl_bs h)) O0 r)
    · exact has_covered O M.na (inv_run (fit_mm M n bu (cl_ow h)) O0 r)
    · exact absurd h hlb
  | direct =>
    have n := cl_n (way1 (W ([.newWhite], 1) (by simp [ways])))
    have h2 := way2 (W ([.loadGrey, .cutGrey], 2) (by simp [ways]))
    have h3 := way2 (W ([.byUn, .loadBlack], 2) (by simp [ways]))
    have h4 := way2 (W ([.loadGrey, .loadWhite], 2) (by simp [ways]))
    have h5 := way4 (W ([.loadGrey, .bySc, .overWhite, .loadBlack], 4) (by simp [ways]))
    by_cases hlg : openG T .loadGrey = false
    · rcases h3 with h | h
      · exact has_direct (.inl rfl) (inv_run (fit_ee n (cl_lg hlg) (cl_bu h)) O0 r)
      · exact has_direct (.inl rfl) (inv_run (fit_ea n (cl_lg hlg) (cl_lb h)) O0 r)
    have M := mid_dir (cl_cg (h2.resolve_left hlg)) (cl_lw (h4.resolve_left hlg))
    by_cases hlb : openG T .loadBlack = false
    · exact has_direct (.inr rfl) (inv_run (fit_ma M n (cl_lb hlb)) O0 r)
    have bu := cl_bu (h3.resolve_right hlb)
    rcases h5.resolve_left hlg with h | h | h
    · exact has_direct (.inr rfl) (inv_run (fit_me M n bu (cl_bs h)) O0 r)
    · exact has_direct (.inr rfl) (inv_run (fit_mm M n bu (cl_ow h)) O0 r)
    · exact absurd h hlb
  | safe =>
    cases b with
    | true =>
      obtain ⟨gh, gb, hg, F⟩ := weak_fit (way1 (W ([.byUn], 2) (by simp [ways]))) (way2 (W ([.newWhite, .bySc], 3) (by simp [ways]))) (way3 (W ([.loadGrey, .bySc, .cutGrey], 4) (by simp [ways]))) (way3 (W ([.loadGrey, .bySc, .overWhite], 4) (by simp [ways]))) (way4 (W ([.loadGrey, .loadWhite, .bySc, .cutWhite], 5) (by simp [ways])))
      exact has_safe O hg (.inl rfl) (inv_run F O0 r)
    | false =>
      have n := cl_n (way1 (W ([.newWhite], 1) (by simp [ways])))
      have bu := cl_bu (way1 (W ([.byUn], 2) (by simp [ways])))
      have h2 := way2 (W ([.loadGrey, .cutGrey], 2) (by simp [ways]))
      have h4 := way3 (W ([.loadGrey, .loadWhite, .cutWhite], 3) (by simp [ways]))
      have h5 := way3 (W ([.loadGrey, .bySc, .overWhite], 4) (by simp [ways]))
      by_cases hlg : openG T .loadGrey = false
      · exact has_safe O (by decide) (.inr (by decide)) (inv_run (fit_ee n (cl_lg hlg) bu) O0 r)
      obtain ⟨g, M⟩ := mid_of (cl_cg (h2.resolve_left hlg)) ((h4.resolve_left hlg).imp cl_lw cl_cw)
      rcases h5.resolve_left hlg with h | h
      · exact has_safe O (by decide) (.inr M.na) (inv_run (fit_me M n bu (cl_bs h)) O0 r)
      · exact has_safe O M.na (.inr M.na) (inv_run (fit_mm M n bu (cl_ow h)) O0 r)
theorem away_start {h : Hea} (O : h.start.Ok) : Away (fun x => x ∈ reachedF h.start ∨ h.slots.length ≤ x) h.start := by
  refine ⟨fun t x hx => .inl (reach_held hx _), fun m x hm e => ?_, fun x hl hc => ?_, fun x hx => .inr hx⟩
  · rcases hm with hm | hm
    · exact .inl (reach_closed O hm e)
    · have : m < h.slots.length := edge_src e
      omega
  · exfalso
    refine hc ?_
    show (List.replicate h.slots.length Col.white).getD x .black = .white
    have hl : x < h.slots.length := hl
    rw [List.getD_eq_getElem?_getD, List.getElem?_replicate, if_pos hl]; rfl
theorem away_run {h : Hea} (O : h.start.Ok) {S : Sta} : Run T b h.start S → Away (fun x => x ∈ reachedF h.start ∨ h.slots.length ≤ x) S
  | .start => away_start O
  | .step r hs => away_next (r.ok O) (poss_of_steps (r.ok O) hs) (away_run O r)
theorem run_ok (T : List Mk) (b : Bool) : RunOk T b := by
  refine ⟨fun h S hO r t ht => run_has T b h S hO r t (List.mem_filter.mp ht).2, fun h S hO r n hn hx => ?_⟩
  refine Classical.byContradiction fun hc => ?_
  have hl : n < S.slots.length := Nat.lt_of_lt_of_le hn (Run.len r)
  rcases (away_run (Hea.start_ok hO) r).col n hl hc with h | h
  · exact hx h
  · omega
end
/-! ### the known tables -/
theorem openM_congr {T T' : List Mk} (h : ∀ m, m ∈ T ↔ m ∈ T') (g : Gap) : openM T g = openM T' g := by
  unfold openM
  refine List.filter_congr fun l _ => ?_
  congr 2
  exact funext fun m => decide_eq_decide.mpr (h m)
theorem holdsF_congr {T T' : List Mk} (h : ∀ m, m ∈ T ↔ m ∈ T') (b : Bool) (t : Wd) : holdsF T b t = holdsF T' b t := by
  unfold holdsF
  rw [show openG T = openG T' from funext fun g => by unfold openG; rw [openM_congr h g]]
def allU : List Mk := loadMs ++ [true, false].map Mk.new ++ storeMs
theorem mem_allMs (m : Mk) : m ∈ allMs ↔ m ∈ allU := by unfold allMs; exact mem_sortM m _
theorem mem_knownT (kw : Kw) (m : Mk) : m ∈ knownT kw ↔ m ∈ allU.filter (knownBy kw) := by
  unfold knownT
  rw [List.mem_filter, List.mem_filter, mem_allMs]
theorem known_ok : ∀ kw ∈ [Kw.value, .holder, .both, .load], holdsF (knownT kw) (decide (kw ∈ [Kw.value, .holder])) .safe = true ∧ (knownT kw).Nodup ∧ (knownT kw).length ≤ 1000 ∧ ∀ m ∈ knownT kw, m.ok = true := fun kw hkw => by
  refine ⟨?_, allMs_nd.sublist List.filter_sublist, Nat.le_trans (List.length_filter_le _ _) allMs_len, fun m hm => ?_⟩
  · rw [holdsF_congr (mem_knownT kw)]
    revert kw
    decide +kernel
  · have h1 := (mem_allMs m).mp (List.mem_filter.mp hm).1
    revert m
    have : ∀ m ∈ allU, m.ok = true := by decide +kernel
    exact fun m _ h => this m h
theorem mathOk : MathOk := ⟨fun T b _ => run_ok T b, known_ok⟩
set_option maxRecDepth 100000
set_option maxHeartbeats 4000000
theorem s1_expr {X : Cx} {e : Env'} {ex : Expr} {d : D} {pos : Pos} (h : EX X ex (rd e) d) (hs : swapsWith ex none pos.line X.env = pure false) : S1 X (.Expr ex pos) e (.nx e) := by
  refine .mk fun C => ⟨C, fun L A σ H E dm nd nl ow q => ?_⟩
  refine w1_of (ps_expr (pe_w X ex) hs) ?_
  refine h C L σ H _ dm (ow_rd nl ow) fun v H1 s iv => ?_
  exact q A σ H1 (Same.fram s) nd (fun a ha => .inl ha) (ow.mono (hid_mono s) fun a _ o h => s a o h)
section
variable {P : Program} {w : World} {K : PySem.W.Frag} {mg : Str → Option Value} {base : Heap} {k : Nat} {f : Addr} {fd : FuncData} {P0 : Addr} {q : Str}
@[reducible] def N74 : List Str := ["table", "price_list", "word", "known", "gaps", "best", "marks", "rescans", "closed", "total", "left", "mark", "gap", "is_open"]
theorem sc74 : Sc N74 ["table", "price_list", "word"] (topS 74) := ⟨⟨rfl, rfl, rfl, by decide +kernel, rfl, by decide +kernel, by decide +kernel⟩, by decide +kernel⟩
theorem closeG_all (g : Gap) : ∀ l ∈ closeG g, ∀ m ∈ l, m ∈ allMs := fun l hl m hm => by
  unfold allMs
  rw [mem_sortM]
  revert l m
  cases g <;> decide +kernel
@[reducible] def E74 (P : Program) (w : World) (T : List Mk) (b : Bool) (L : List (Mk × Int)) (od : D) (o : Obj) (best : D) : Env' := [("table", .d (tabD T b)), ("price_list", .d (pricesD L od)), ("word", .d (.str "safe")), ("known", .d (priM P w L)), ("gaps", .d (fzD o gaps9 (openG T))), ("best", .d best), ("marks", .u), ("rescans", .u), ("closed", .u), ("total", .u), ("left", .u), ("mark", .u), ("gap", .u), ("is_open", .u)]
@[reducible] def E74t (P : Program) (w : World) (T : List Mk) (b : Bool) (L : List (Mk × Int)) (od : D) (o : Obj) (best : D) (ms : List Mk) (r : Bool) (gs : List Gap) (x y : Ev) : Env' := [("table", .d (tabD T b)), ("price_list", .d (pricesD L od)), ("word", .d (.str "safe")), ("known", .d (priM P w L)), ("gaps", .d (fzD o gaps9 (openG T))), ("best", .d best), ("marks", .d (.lst (ms.map mkD))), ("rescans", .d (.bl r)), ("closed", .d (gsD gs)), ("total", x), ("left", y), ("mark", .u), ("gap", .u), ("is_open", .u)]
def forBody : Stmt → List Stmt
  | .For _ _ body _ _ => body
  | _ => []
def ifBody : Stmt → List Stmt
  | .If _ a _ _ => a
  | _ => []
def upd74 : List Stmt := ifBody ((forBody ((defBody (topS 74)).getD 2 (.Pass ⟨0, 0, 0, 0⟩))).getD 3 (.Pass ⟨0, 0, 0, 0⟩))
theorem gapD_inj : ∀ {l m : List Gap}, l.map gapD = m.map gapD → l = m
  | [], [], _ => rfl
  | [], _ :: _, h => by simp at h
  | _ :: _, [], h => by simp at h
  | a :: l, c :: m, h => by
    rw [List.map_cons, List.map_cons, List.cons.injEq] at h
    rw [gapS_inj.mp (D.str.inj h.1), gapD_inj h.2]
theorem addD_inj {p q : List Mk × Bool × List Gap} (h : addD p = addD q) : p.2.1 = q.2.1 ∧ p.2.2 = q.2.2 := by
  have h1 := D.tup.inj h
  rw [List.cons.injEq, List.cons.injEq, List.cons.injEq] at h1
  exact ⟨D.bl.inj h1.2.1, gapD_inj (D.lst.inj h1.2.2.1)⟩
theorem ok74 (F : Fun K "cheapest" "cheapest" (topS 74) f fd) (c34 : Cal P w K mg base k "check_word" (spD K pre34)) (c65 : Cal P w K mg base k "gaps_of" (spK K pre65)) (c73 : Cal P w K mg base k "additions" (spN K (pre73 P0 q))) (c66 : Cal P w K mg base k "breaks" (spD K pre66)) (c22 : CalR P w K mg base k "joined" (spD K pre22)) (m1 : mg "dict" = none) (m2 : mg "sum" = none) (m3 : mg "tuple" = none) (m4 : mg "sorted" = none) : FnOk P w K mg base CX0 (k + 1) f fd ["table", "price_list", "word"] (spN K (pre74 P0 q)) := by
  refine def_n F sc74 (fun R ds c O ⟨_, _, _, _, _, _, _, _, _, _, _, h, _⟩ => by rw [h]; rfl) fun cdv A outer s H E hr R ds c O ⟨T, b, L, od, LR, hTn, hT, hok, hL, hL2, hod, hds, hc, hO⟩ => ?_
  subst hds hc hO
  walk_at "gn"
  have p34 : pre34 [.str "safe"] .non := ⟨.safe, rfl, rfl⟩
  have p65 : pre65 [tabD T b] (gaps9.map gapK) (gaps9.map fun g => D.bl (openG T g)) := ⟨T, b, hTn, by omega, rfl, rfl, rfl⟩
  have hnd : (L.map (·.1)).Nodup := by rw [hL]; exact allMs_nd
  have hLl : L.length ≤ 1000 := by have := congrArg List.length hL; rw [List.length_map] at this; have := allMs_len; omega
  have hdict := c_dictMd (X := Bdy P w K mg base N74 "cheapest" (defScope (topS 74)) f cdv A outer s H E) rfl (ru hr) hnd hLl
  (with_reducible apply sn_pure)
  · (with_reducible apply s1_expr) <;> walk_at "ev"
  refine sn_le (c1 := 0 + 0) ?_ (Nat.le_refl _) fun _ h => h
  refine' sn_asg (OD := fun d => ∃ o, d = .tup [priM P w L, fzD o gaps9 (openG T), .non]) (nx_tup (c := 0) (OL := fun ds => ∃ o, ds = [priM P w L, fzD o gaps9 (openG T), .non]) (na_cons (c1 := 0) (c2 := 0) (OL := fun ds => ∃ o, ds = [fzD o gaps9 (openG T), .non]) (nx_ex (d := priM P w L) (ex_cT (id := "dict") rfl ?_ m1 (by decide) (by decide) ?_ ?_ ?_ hdict)) (na_cons (c1 := 0) (c2 := 0) (nx_lock (gs := gaps9) (f := openG T) (fk_call c65 hr ?_ p65 ?_ ?_ ?_ ?_)) (na_ax (ds := [.non]) ?_) ?_ ?_) ?_ ?_) ?_) ?_ ?_ ?_ ?_
  all_goals try walk_at "ev"
  · rintro _ _ ⟨o, rfl⟩ rfl
    exact ⟨o, rfl⟩
  · rintro _ _ rfl ⟨o, rfl⟩
    exact ⟨o, rfl⟩
  · rintro _ ⟨o, rfl⟩
    exact ⟨by rw [sizeLine_eq]; exact Nat.le_of_ble_eq_true rfl, o, rfl⟩
  rintro _ ⟨o, rfl⟩
  walk_at "gsn"
  refine sn_le (c1 := 0 + 1024 * 0 + 0) ?_ (Nat.le_refl _) fun _ h => h
  obtain ⟨oc, rfl⟩ : ∃ oc, od = ocI oc := by
    rcases hod with h | h | h
    · exact ⟨none, h⟩
    · exact ⟨some 1, h⟩
    · exact ⟨some 9, h⟩
  refine sn_for (c1 := 0) (c2 := 0) (c3 := 0) (m := 1024) (OL := fun ys => ∃ cl : Gap → List Mk, (∀ g, Closes T g (cl g)) ∧ ys = (rowsF T b cl oc.isSome (choicesF (opens T))).map addD) (fun ys k e0 => ∃ best : D, (best = .non ∧ (∀ (row : List Mk × Bool × List Gap), addD row ∈ ys.take k → breaksF (fun g => openG T g && !decide (g ∈ row.2.2)) row.2.1 .safe = true) ∨ ∃ (tot : Int) (T' : List Mk) (b' : Bool), best = .tup [.int tot, tabD T' b'] ∧ SafeT T' b') ∧ e0 = E74 P w T b L (ocI oc) o best) ?_ ?_ ?_ ?_ ?_ ?_ ?_
  · refine nix_lst ?_
    refine' nx_call (c1 := 0) (c2 := 0) (OL := fun ds => ds = [tabD T b, pricesD L (ocI oc)]) c73 ?_ (na_ax ?_) ?_ ?_ ?_ ?_ ?_
    all_goals try walk_at "ev"
    rintro _ rfl
    exact ⟨_, ⟨T, b, L, oc, LR, hTn, by omega, hnd, hLl, fun g l hl m hm => by rw [hL]; exact closeG_all g l hl m hm, rfl, rfl, rfl⟩, fun d ⟨cl, h, e⟩ => ⟨_, e, cl, h, rfl⟩⟩
  · rintro _ ⟨cl, hcl, rfl⟩
    rw [List.length_map]
    have hop : (opens T).length ≤ 9 := List.length_filter_le _ gaps9
    have hcs : (choicesF (opens T)).length ≤ 512 := by
      have := choicesF_len (opens T) (opens T).length (Nat.le_refl _)
      rw [List.take_length] at this
      rw [this]
      exact Nat.pow_le_pow_right (by decide) hop
    have h1 := flat_len' (F := fun gs => (gs.flatMap cl, b, gs) :: (if (!b && oc.isSome) = true then [(gs.flatMap cl, true, gs)] else [])) (c := 2) (fun gs => Nat.succ_le_succ (if_len _ _)) (choicesF (opens T))
    unfold rowsF
    omega
  · rintro _ ⟨cl, hcl, rfl⟩
    exact ⟨.non, .inl ⟨rfl, fun row h => by simp at h⟩, rfl⟩
  · rintro _ k d _ ⟨cl, hcl, rfl⟩ hk ⟨best, hbest, rfl⟩
    obtain ⟨row, hrow, rfl⟩ : ∃ row, (rowsF T b cl oc.isSome (choicesF (opens T)))[k]? = some row ∧ d = addD row := by
      rw [List.getElem?_map] at hk
      cases h : (rowsF T b cl oc.isSome (choicesF (opens T)))[k]? with
      | none => rw [h] at hk; cases hk
      | some z => rw [h] at hk; exact ⟨z, rfl, (Option.some.inj hk).symm⟩
    obtain ⟨gs, r, rfl, hsub, hr2⟩ : ∃ (gs : List Gap) (r : Bool), row = (gs.flatMap cl, r, gs) ∧ gs.Sublist gaps9 ∧ (r = b ∨ (r = true ∧ b = false ∧ oc.isSome = true)) := by
      obtain ⟨gs, hgs, hm⟩ := List.mem_flatMap.mp (List.mem_of_getElem? hrow)
      have hs : gs.Sublist gaps9 := by
        have h1 := choicesF_sub (opens T) (opens T).length (Nat.le_refl _)
        rw [List.take_length] at h1
        exact (h1 gs hgs).trans List.filter_sublist
      rcases List.mem_cons.mp hm with rfl | hm
      · exact ⟨gs, b, rfl, hs, .inl rfl⟩
      · split at hm
        · rename_i q
          rw [List.mem_singleton.mp hm]
          rw [Bool.and_eq_true, Bool.not_eq_true'] at q
          exact ⟨gs, true, rfl, hs, .inr ⟨rfl, q.1, q.2⟩⟩
        · simp at hm
    have hlen := rowMs_len hcl hsub
    have hall : ∀ m ∈ gs.flatMap cl, m ∈ L.map (·.1) := fun m hm => by
      obtain ⟨g, hg, h⟩ := List.mem_flatMap.mp hm
      obtain ⟨l, hl, hml⟩ := all2_in (hcl g) m h
      rw [hL]
      exact closeG_all g l (List.mem_filter.mp hl).1 m hml
    dsimp only [E74]
    walk_at "gsn"
    obtain ⟨pf, hpf⟩ : ∃ pf : Mk → Int, ∀ m ∈ gs.flatMap cl, lookM (L.map fun p => (p.1, V.int p.2)) m = some (V.int (pf m)) := by
      refine ⟨fun m => ((L.find? fun p => decide (p.1 = m)).map (·.2)).getD 0, fun m hm => ?_⟩
      obtain ⟨p, hp, e⟩ := List.mem_map.mp (hall m hm)
      unfold lookM
      rw [List.find?_map, Option.map_map]
      cases q : L.find? fun p => decide (p.1 = m) with
      | none => exact absurd (decide_eq_true e) (by have := List.find?_eq_none.mp q p hp; simpa using this)
      | some z =>
        have q' : L.find? ((fun p : Mk × V => decide (p.1 = m)) ∘ fun p => (p.1, V.int p.2)) = some z := q
        rw [q']
        show some (V.int z.2) = some (V.int (((L.find? fun p => decide (p.1 = m)).map (·.2)).getD 0))
        rw [q]; rfl
    (with_reducible apply sn_pure)
    · (with_reducible apply s1_set1 (d := .int (((gs.flatMap cl).map pf).sum)))
      · (with_reducible apply ex_sum)
        case ha =>
          refine ax_cons (ex_of_fx (ds := ((gs.flatMap cl).map pf).map D.int) ?_) ax_nil ?_
          · (with_reducible apply lc_mapc [("mark", 11)] N74 (defScope (topS 74)) (gs.flatMap cl) mkD D.int pf) <;> walk_at "ev"
            · rw [sizeLine_eq]; omega
            · intro m hm
              have hp := hpf m hm
              (with_reducible apply turn1)
              case g => walk_at "ev"
              case c => walk_at "ev"
              case m => walk_at "ev"
              intro _
              refine ab_is' fun _ _ _ _ _ => ex_mdget (ru hr) ?_ ?_ hp rfl ?_
              · show EX _ _ _ (priM P w L)
                walk_at "ev"
              all_goals walk_at "ev"
          · walk_at "ev"
        case hc => exact c_sum rfl
        all_goals walk_at "ev"
      all_goals walk_at "ev"
    obtain ⟨pc, hpc⟩ : ∃ pc : Int, (r && !b) = true → ocI oc = .int pc := by
      cases oc with
      | some n => exact ⟨n, fun _ => rfl⟩
      | none =>
        refine ⟨0, fun h => ?_⟩
        exfalso
        rcases hr2 with rfl | ⟨_, _, h2⟩
        · cases r <;> cases h
        · cases h2
    obtain ⟨tot, ht1, ht2⟩ : ∃ tot : Int, ((r && !b) = true → tot = ((gs.flatMap cl).map pf).sum + pc) ∧ ((r && !b) = false → tot = ((gs.flatMap cl).map pf).sum) := by
      cases r && !b
      · exact ⟨_, (fun h => nomatch h), fun _ => rfl⟩
      · exact ⟨_, fun _ => rfl, (fun h => nomatch h)⟩
    refine sn_pure (e1 := E74t P w T b L (ocI oc) o best (gs.flatMap cl) r gs (.d (.int tot)) .u) (s1_if (k := r && !b) ?_ (fun h => ?_) (fun h => ?_)) ?_
    · walk_at "ev"
    · rw [ht1 h]
      have hp := hpc h
      refine sx_cons (s1_aug (a := ((gs.flatMap cl).map pf).sum) (b := pc) (e' := E74t P w T b L (ocI oc) o best (gs.flatMap cl) r gs (.d (.int (((gs.flatMap cl).map pf).sum + pc))) .u) (i := 9) ?_ ?_ ?_ ?_ ?_) (sx_nile ?_)
      · walk_at "up"
      · walk_at "lk"
      · refine ex_is (d := ocI oc) ?_ hp
        walk_at "ev"
      · walk_at "ev"
      · walk_at "ev"
      · dsimp only [E74t]
        walk_at "le"
    · rw [ht2 h]
      (with_reducible apply sx_nile)
      dsimp only [E74t]
      walk_at "le"
    have hgs9 : gs.length ≤ 9 := hsub.length_le
    refine sn_pure (e1 := E74t P w T b L (ocI oc) o best (gs.flatMap cl) r gs (.d (.int tot)) (.k (gaps9.map gapK) (gaps9.map fun g => D.bl (openG T g && !decide (g ∈ gs))))) ?_ ?_
    · (with_reducible apply s1_setdc [("gap", 12), ("is_open", 13)] N74 (defScope (topS 74)) gaps9 (gapP (openG T)) gapK (fun g => D.bl (openG T g && !decide (g ∈ gs))) (i := 10))
      · walk_at "up"
      · refine ix_fz (o := o) (gs := gaps9) (f := openG T) ?_ ?_ ?_
        · dsimp only [E74t]
          walk_at "ev"
        all_goals walk_at "ev"
      · walk_at "ev"
      · walk_at "ev"
      · walk_at "ev"
      · dsimp only [E74t]
        walk_at "ev"
      · walk_at "ev"
      · walk_at "ev"
      · walk_at "ev"
      · exact gaps_nd
      · rfl
      · walk_at "ev"
      · intro g hg
        walk_at "tk"
        exact o_notInLE (α := Gap) (ru hr)
    have hbr : (b || r) = r := by
      rcases hr2 with rfl | ⟨rfl, rfl, _⟩
      · cases r <;> rfl
      · rfl
    have hlensort : (sortM (gs.flatMap cl)).length ≤ 27 := by rw [len_sortM]; exact hlen
    have p66 : pre66 [gapsDk (fun g => openG T g && !decide (g ∈ gs)), .bl r, .str "safe"] (.bl (breaksF (fun g => openG T g && !decide (g ∈ gs)) r .safe)) := ⟨_, r, .safe, rfl, rfl⟩
    have p22 : pre22 [tabD T b, tabD (sortM (gs.flatMap cl)) r] (tabD (setM (T ++ sortM (gs.flatMap cl))) (b || r)) := ⟨T, _, b, r, by omega, rfl, rfl⟩
    rw [hbr] at p22
    have hgo : ∀ row : List Mk × Bool × List Gap, addD row ∈ ((rowsF T b cl oc.isSome (choicesF (opens T))).map addD).take (k + 1) → addD row ∈ ((rowsF T b cl oc.isSome (choicesF (opens T))).map addD).take k ∨ addD row = addD (gs.flatMap cl, r, gs) := fun row h => by
      rw [List.take_add_one, hk] at h
      rcases List.mem_append.mp h with h | h
      · exact .inl h
      · exact .inr (by simpa using h)
    have upd' : ∀ best : D, SX (Bdy P w K mg base N74 "cheapest" (defScope (topS 74)) f cdv A outer s H E) upd74
        (E74t P w T b L (ocI oc) o best (gs.flatMap cl) r gs (.d (.int tot)) (.k (gaps9.map gapK) (gaps9.map fun g => D.bl (openG T g && !decide (g ∈ gs))))) (.nx (E74t P w T b L (ocI oc) o (.tup [.int tot, tabD (setM (T ++ sortM (gs.flatMap cl))) r]) (gs.flatMap cl) r gs (.d (.int tot)) (.k (gaps9.map gapK) (gaps9.map fun g => D.bl (openG T g && !decide (g ∈ gs)))))) := fun best => by
      show SX _ (_ :: _) _ _
      (with_reducible apply sx_set1 (d := .tup [.int tot, tabD (setM (T ++ sortM (gs.flatMap cl))) r]))
      · dsimp only [E74t]
        (with_reducible apply ex_tup)
        · (with_reducible apply ax_cons)
          · walk_at "ev"
          · (with_reducible apply ax_cons)
            · refine ex_callR (ds := [tabD T b, tabD (sortM (gs.flatMap cl)) r]) c22 hr ?_ p22 ?_ ?_ ?_ ?_
              · (with_reducible apply ax_cons)
                · walk_at "ev"
                · (with_reducible apply ax_cons)
                  · (with_reducible apply ex_tup)
                    · (with_reducible apply ax_cons)
                      · (with_reducible apply ex_tuple)
                        case ha =>
                          refine ax_cons (ex_of_fx (fx_sortM (ms := gs.flatMap cl) ?_ (by rw [sizeLine_eq]; omega) (ru hr) ?_ m4 ?_)) ax_nil ?_
                          all_goals walk_at "ev"
                        case hc => exact c_tupL
                        all_goals walk_at "ev"
                      · walk_at "ev"
                      · walk_at "ev"
                    · walk_at "ev"
                  · exact ax_nil
                  · walk_at "ev"
                · walk_at "ev"
              all_goals walk_at "ev"
            · exact ax_nil
            · walk_at "ev"
          · walk_at "ev"
        · walk_at "ev"
      · dsimp only [E74t]
        walk_at "up"
      · walk_at "ev"
      · walk_at "ev"
      · walk_at "ev"
      · (with_reducible apply sx_nile)
        dsimp only [E74t]
        walk_at "le"
    rcases hbest with ⟨rfl, hno⟩ | ⟨b0, T0, r0, rfl, hS0⟩
    · cases hbk : breaksF (fun g => openG T g && !decide (g ∈ gs)) r .safe with
      | true =>
        rw [hbk] at p66
        refine sn_le (sn_pure (e1 := E74t P w T b L (ocI oc) o .non (gs.flatMap cl) r gs (.d (.int tot)) (.k (gaps9.map gapK) (gaps9.map fun g => D.bl (openG T g && !decide (g ∈ gs))))) (s1_if (k := (true || true) && !true) (tx_o (ox_and (tx_o (ox_or ?_ (fun z => nomatch z))) fun _ => ?_)) (fun z => nomatch z) (fun _ => sx_nil)) (sn_nile (e2 := E74 P w T b L (ocI oc) o .non) ?_)) (Nat.le_refl _) fun o' ho => .inl ⟨_, ho, .non, .inl ⟨rfl, fun row h => ?_⟩, rfl⟩
        · dsimp only [E74t]
          walk_at "ev"
        · dsimp only [E74t]
          walk_at "ev"
        · dsimp only [E74t, E74]
          walk_at "le"
        · rcases hgo row h with h | h
          · exact hno row h
          · obtain ⟨e1, e2⟩ := addD_inj h
            rw [e1, e2]; exact hbk
      | false =>
        rw [hbk] at p66
        refine sn_le (sn_pure (e1 := E74t P w T b L (ocI oc) o (.tup [.int tot, tabD (setM (T ++ sortM (gs.flatMap cl))) r]) (gs.flatMap cl) r gs (.d (.int tot)) (.k (gaps9.map gapK) (gaps9.map fun g => D.bl (openG T g && !decide (g ∈ gs))))) (s1_if (k := (true || true) && !false) (tx_o (ox_and (tx_o (ox_or ?_ (fun z => nomatch z))) fun _ => ?_)) (fun _ => upd' .non) (fun z => nomatch z)) (sn_nile (e2 := E74 P w T b L (ocI oc) o (.tup [.int tot, tabD (setM (T ++ sortM (gs.flatMap cl))) r])) ?_)) (Nat.le_refl _) fun o' ho => .inl ⟨_, ho, _, .inr ⟨tot, _, r, rfl, row_safe hT hok hcl hsub hbk⟩, rfl⟩
        · dsimp only [E74t]
          walk_at "ev"
        · dsimp only [E74t]
          walk_at "ev"
        · dsimp only [E74t, E74]
          walk_at "le"
    · by_cases hc : (decide (tot < b0) && !breaksF (fun g => openG T g && !decide (g ∈ gs)) r .safe) = true
      · obtain ⟨hlt, hbk⟩ := Bool.and_eq_true_iff.mp hc
        rw [Bool.not_eq_true'] at hbk
        refine sn_le (sn_pure (e1 := E74t P w T b L (ocI oc) o (.tup [.int tot, tabD (setM (T ++ sortM (gs.flatMap cl))) r]) (gs.flatMap cl) r gs (.d (.int tot)) (.k (gaps9.map gapK) (gaps9.map fun g => D.bl (openG T g && !decide (g ∈ gs))))) (s1_if (k := (false || decide (tot < b0)) && !breaksF (fun g => openG T g && !decide (g ∈ gs)) r .safe) (tx_o (ox_and (tx_o (ox_or ?_ fun _ => ?_)) fun _ => ?_)) (fun _ => upd' _) (fun z => ?_)) (sn_nile (e2 := E74 P w T b L (ocI oc) o (.tup [.int tot, tabD (setM (T ++ sortM (gs.flatMap cl))) r])) ?_)) (Nat.le_refl _) fun o' ho => .inl ⟨_, ho, _, .inr ⟨tot, _, r, rfl, row_safe hT hok hcl hsub hbk⟩, rfl⟩
        · dsimp only [E74t]
          walk_at "ev"
        · dsimp only [E74t]
          walk_at "ev"
        · dsimp only [E74t]
          walk_at "ev"
        · rw [Bool.false_or, hc] at z
          cases z
        · dsimp only [E74t, E74]
          walk_at "le"
      · refine sn_le (sn_pure (e1 := E74t P w T b L (ocI oc) o (.tup [.int b0, tabD T0 r0]) (gs.flatMap cl) r gs (.d (.int tot)) (.k (gaps9.map gapK) (gaps9.map fun g => D.bl (openG T g && !decide (g ∈ gs))))) (s1_if (k := (false || decide (tot < b0)) && !breaksF (fun g => openG T g && !decide (g ∈ gs)) r .safe) (tx_o (ox_and (tx_o (ox_or ?_ fun _ => ?_)) fun _ => ?_)) (fun z => ?_) (fun _ => sx_nil)) (sn_nile (e2 := E74 P w T b L (ocI oc) o (.tup [.int b0, tabD T0 r0])) ?_)) (Nat.le_refl _) fun o' ho => .inl ⟨_, ho, _, .inr ⟨b0, T0, r0, rfl, hS0⟩, rfl⟩
        · dsimp only [E74t]
          walk_at "ev"
        · dsimp only [E74t]
          walk_at "ev"
        · dsimp only [E74t]
          walk_at "ev"
        · rw [Bool.false_or] at z
          exact absurd z hc
        · dsimp only [E74t, E74]
          walk_at "le"
  · rintro _ _ ⟨cl, hcl, rfl⟩ ⟨best, hbest, rfl⟩
    have hgood : ∃ (tot : Int) (T' : List Mk) (b' : Bool), best = .tup [.int tot, tabD T' b'] ∧ SafeT T' b' := by
      rcases hbest with ⟨_, h⟩ | h
      · exfalso
        have hin : ((opens T).flatMap cl, b, opens T) ∈ rowsF T b cl oc.isSome (choicesF (opens T)) := by
          have hf := choicesF_full (opens T) (opens T).length (Nat.le_refl _)
          rw [List.take_length] at hf
          exact List.mem_flatMap.mpr ⟨_, hf, List.mem_cons_self⟩
        have h2 := h ((opens T).flatMap cl, b, opens T) (by rw [List.take_length]; exact List.mem_map_of_mem (f := addD) hin)
        rw [breaks_none b (fun g => ?_)] at h2
        · cases h2
        · cases q : openG T g with
          | false => rfl
          | true => rw [decide_eq_true (opens_all q)]; rfl
      · exact h
    obtain ⟨tot, T', b', rfl, hS⟩ := hgood
    refine sn_le (sn_ret (nx_ex (d := .tup [.int tot, tabD T' b']) ?_)) (Nat.le_refl _) ?_
    · dsimp only [E74]
      walk_at "ev"
    · rintro _ ⟨_, rfl, rfl⟩
      exact ⟨_, rfl, tot, T', b', rfl, hS.nd, hS.len, hS.ok, hS.safe⟩
  · walk_at "sy"
  · exact PassesOwn.never
end
set_option maxRecDepth 100000
set_option maxHeartbeats 4000000
/-! ### a lambda of one parameter is made -/
section
variable {X : Cx} {pins : List (Addr × Obj)} {σ : L2.St} {H : Hp} {s : Shared}
@[reducible] def lamO (q : Str) (params : Arguments) (body : Expr) (scope : Scope) (X : Cx) (pm : Value) (c' : Addr) (ctv : Value) : Obj := PySem.W.kla_obj "<lambda>" q params body scope (cloFrom X.env.cells scope.names []) pm c' ctv
theorem fresh_fr (I : Inv X pins σ H s) {f : Addr} (hf : s.heap.objs.size ≤ f) : f ∉ frs X.stack := fun z => by
  rcases List.mem_cons.mp (I.stkSub _ z) with e | e
  · rw [e] at hf
    exact absurd (Nat.lt_of_lt_of_le I.lt hf) (Nat.lt_irrefl _)
  · exact I.nofs hf e
theorem lam_new {c P0 : Addr} {params : Arguments} {body : Expr} {scope : Scope} {lp : Pos} {q : Str} {Er : Value → Shared → Prop} {Q : Value → Shared → Prop} (I : Inv X pins σ H s) (TB : LamX.TabB X.base X.mg c P0) (hcd : X.env.code = .ref c) (hq : X.env.qual ++ "<lambda>" = q)
    (hT : LamX.TabS H P0 q) (hdf : defaultsOf params X.env = ([], [])) (hfr : ∀ y ∈ scope.names, y.2 = .free → ∃ c, X.env.cells.lookup y.1 = some c)
    (go : ∀ (f c' : Addr) (pm ctv : Value) (H1 : Hp) (s1 : Shared), Inv X pins σ H1 s1 → (∀ b o, b ≠ P0 → H b = some o → H1 b = some o) → LamX.TabS H1 P0 q → s1.heap.get? f = some (lamO q params body scope X pm c' ctv) → H1 f = none → f ∉ frs X.stack → H1 c' = some (LamX.CodeO c' q) → Q (.ref f) s1) :
    wpAny (model X.prog X.w) X.A (eval (.Lambda params body scope lp) X.env) Q Er s := by
  subst hq
  obtain ⟨ps, hP, hok, hin⟩ := hT
  have blt : s.heap.BuiltinsAt X.mg P0 := TB.bm.keeps I.bk
  have atP : s.heap.get? P0 = some { cls := .none, data := .fields ps } := I.hok P0 _ hP
  have glb := I.mod.glob.keeps I.bk
  have cdh := TB.code.keeps I.bk
  refine PySem.W.kla_eval hdf ?_
  cases fnd : codeAmong lp ps.toList with
  | some cv =>
    obtain ⟨c', rfl, hco⟩ := hin lp cv fnd
    refine PySem.W.kla_makeFunctionHit (c := c) (closure_ok hfr) I.ok.glob glb hcd cdh atP hok fnd blt fun ctv h' tk old big => ?_
    have J : Inv X pins σ H { s with heap := h'.push (lamO (X.env.qual ++ "<lambda>") params body scope X ((X.mg "__name__").getD .none) c' ctv), toks := tk } := I.kept fun b o e => Heap.get?_push_of_some _ (old b o e)
    exact go h'.objs.size c' _ ctv H _ J (fun b o _ e => e) ⟨ps, hP, hok, hin⟩ (Heap.get?_push_size _ rfl) (I.hok.fresh big) (fresh_fr I big) hco
  | none =>
    refine PySem.W.kla_makeFunction (c := c) (closure_ok hfr) I.ok.glob glb hcd cdh atP hok fnd TB.gP blt fun c' ctv h' tk old ge lt rec_ tab => ?_
    obtain ⟨c2, oc, vs, t, ec, h1, h2, h3⟩ := rec_
    cases ec
    have nC : H c' = none := I.hok.fresh ge
    have big : s.heap.objs.size ≤ h'.objs.size := Nat.le_of_lt (Nat.lt_of_le_of_lt ge lt)
    have J := LamX.inv_table (t' := tk) (more := #[rawInt lp.line, rawInt lp.col, .ref c']) (q := X.env.qual ++ "<lambda>") (h' := h'.push (lamO (X.env.qual ++ "<lambda>") params body scope X ((X.mg "__name__").getD .none) c' ctv)) I hP
      (fun b o hb e => Heap.get?_push_of_some _ (old b o hb e)) (Heap.get?_push_of_some _ tab) ge ⟨oc, vs, t, Heap.get?_push_of_some _ h1, h2, h3⟩
    have keep : ∀ b o, b ≠ P0 → H b = some o → upd (upd H P0 (.tbl (ps ++ #[rawInt lp.line, rawInt lp.col, .ref c']))) c' (LamX.CodeO c' (X.env.qual ++ "<lambda>")) b = some o := fun b o hb e => by
      rw [upd_ne (ne_of_none e nC), upd_ne hb]; exact e
    have nP : P0 ≠ c' := ne_of_none hP nC
    refine go h'.objs.size c' _ ctv _ _ J keep ⟨_, by rw [upd_ne nP, upd_same], ?_, fun p' cv hcv => ?_⟩ (Heap.get?_push_size _ rfl) ?_ (fresh_fr I big) upd_same
    · rw [Array.toList_append]
      exact PySem.TriplesOk_snoc _ _ _ _ hok
    · rw [Array.toList_append] at hcv
      rcases LamX.among_app _ hok hcv with z | z
      · obtain ⟨c0, e1, e2⟩ := hin p' cv z
        refine ⟨c0, e1, keep _ _ (fun w => ?_) e2⟩
        rw [w, hP] at e2
        exact LamX.codeO_ne ps (Option.some.inj e2).symm
      · exact ⟨c', z, upd_same⟩
    · rw [upd_ne (Nat.ne_of_gt lt), upd_ne (Nat.ne_of_gt (Nat.lt_of_lt_of_le (Heap.lt_size atP) big))]
      exact I.hok.fresh big
end
/-! ### its call -/
/-- the lambda's names: one parameter, others captured -/
structure LamP (sc scope : Scope) (a : Str) : Prop where
  kind : scope.kind = .function
  co : scope.isCoroutine = false
  gen : scope.isGenerator = false
  noc : ∀ y ∈ scope.names, y.2 ≠ .cell
  loc : scope.names.lookup a = some .local
  only : ∀ y ∈ scope.names, y.2 = .local → y.1 = a
  fre : ∀ y ∈ scope.names, y.2 = .free → sc.names.lookup y.1 = some .cell ∨ sc.names.lookup y.1 = some .free
theorem LamP.has {X : Cx} {scope : Scope} {a : Str} (P : LamP X.env.scope scope a) (ok : X.Ok) : ∀ y ∈ scope.names, y.2 = .free → ∃ c, X.env.cells.lookup y.1 = some c := fun y hy e =>
  ok.has _ ((P.fre y hy e).imp id id)
@[reducible] def lamX (X : Cx) (A : Around) (outer : List Env) (s : Shared) (H : Hp) (scope : Scope) (f c' : Addr) : Cx where
  prog := X.prog
  w := X.w
  K := X.K
  mg := X.mg
  base := X.base
  A := A.deeper (LamX.lamEnv X scope s.heap.objs.size f c')
  N := X.N
  s_0 := s
  H_0 := H
  env := LamX.lamEnv X scope s.heap.objs.size f c'
  outer := outer
  stack := LamX.lamEnv X scope s.heap.objs.size f c' :: outer
  ex := []
  fn := fun _ => false
  calm := true
  pn := []
  xe := fun e s' => wpAny (model X.prog X.w) (A.deeper (LamX.lamEnv X scope s.heap.objs.size f c')) (leaving (LamX.lamEnv X scope s.heap.objs.size f c') e) (fun _ _ => False) (fun _ _ => False) s'
section
variable {X : Cx} {pins : List (Addr × Obj)} {σ : L2.St} {H : Hp} {s : Shared} {a : Str} {i0 : Nat} {x : V} {u : Value} {scope : Scope}
theorem lamx_start {A : Around} {f c' : Addr} {h₁ : Heap} {tk : Nat} (I : Inv X pins σ H s) (P : LamP X.env.scope scope a) (e0 : Env0 X.prog X.w X.K X.mg X.base A X.stack s H) (hd : A.handled = none) (hN : X.N[i0]? = some a) (nd : X.N.Nodup) (rx : RelV x u)
    (hns : h₁.Ns s.heap.objs.size fun y => ([(a, u)] : List (Str × Value)).reverse.lookup y) (kp : ∀ b o, s.heap.get? b = some o → h₁.get? b = some o) : Inv (lamX X A X.stack s H scope f c') [] (σ.set i0 (some x)) H { s with heap := h₁, toks := tk } := by
  have hfree := P.has I.ok
  have cm : ∀ {y c}, (cloFrom X.env.cells scope.names []).lookup y = some c → X.env.cells.lookup y = some c := fun {y c} e => by
    rcases cloFrom_mem (PySem.mem_of_lookup e) with hm | ⟨h1, h2⟩
    · cases hm
    · obtain ⟨d, hd⟩ := hfree _ h1 rfl
      have hd : X.env.cells.lookup y = some d := hd
      rw [hd] at h2
      rw [hd]
      exact congrArg some h2.symm
  have look : ∀ {y}, scope.names.lookup y = some .free → ∃ c, (cloFrom X.env.cells scope.names []).lookup y = some c := fun {y} hl => mem_lookup (cloFrom_has (cells := X.env.cells) (acc := []) (PySem.mem_of_lookup hl))
  have cellK : ∀ {c : Addr} {v : Option Value}, s.heap.IsCell c v → h₁.IsCell c v := fun {c v} ⟨o, ho, hd⟩ => ⟨o, kp _ _ ho, hd⟩
  have noX : ∀ b : Addr, b ∉ (lamX X A X.stack s H scope f c').ex := fun b z => by
    have z : b ∈ ([] : List Addr) := z
    simp at z
  refine ⟨⟨e0.mod, P.kind, rfl, rfl, Nat.le_refl _, fun y z c e1 e2 => I.ok.inj y z c (cm e1) (cm e2), fun y hy => ?_, fun y c z _ => ?_, fun _ => hd, Around.frames_deeper e0.frames, .inr ⟨rfl, rfl⟩, fun b z => absurd z (noX b), e0.bs, e0.bsz, fun b _ _ => noX b, fun b z => absurd z (noX b), e0.funs, e0.frf⟩,
    rfl, e0.bare, Un.kept kp, ⟨_, hns, fun i y v e1 e2 e3 => ?_⟩, fun y c e => ?_, e0.hok.fresh (Nat.le_refl _), fun y c e => ?_, fun p hp => ?_, e0.hok.kept kp, by rw [List.length_set]; exact I.len⟩
  · rcases (show scope.names.lookup y = some .cell ∨ scope.names.lookup y = some .free from hy) with hy | hy
    · exact absurd rfl (P.noc _ (PySem.mem_of_lookup hy))
    · exact look hy
  · exact absurd (show false = true from z) (by decide)
  · have e3 : Vis scope y := e3
    by_cases hya : y = a
    · subst hya
      have hi : i = i0 := (List.getElem?_inj (List.getElem?_eq_some_iff.mp hN).1 nd).mp (hN.trans e1.symm) |>.symm
      subst hi
      have hl : i < σ.length := by rw [I.len]; exact (List.getElem?_eq_some_iff.mp hN).1
      rw [List.getElem?_set_self hl] at e2
      cases e2
      exact ⟨u, rx, .inl ⟨P.loc, by simp⟩⟩
    · have hi : i0 ≠ i := fun z => by
        rw [z, e1] at hN
        exact hya (Option.some.inj hN)
      rw [List.getElem?_set_ne hi] at e2
      rcases e3 with k | k | k
      · exact absurd (P.only _ (PySem.mem_of_lookup k) rfl) hya
      · exact absurd rfl (P.noc _ (PySem.mem_of_lookup k))
      · obtain ⟨m, _, hl⟩ := I.loc
        have fr := P.fre _ (PySem.mem_of_lookup k) rfl
        obtain ⟨w', r, q⟩ := hl i y v e1 e2 (fr.elim (fun k => .inr (.inl k)) fun k => .inr (.inr k))
        obtain ⟨c2, h2⟩ := look k
        refine ⟨w', r, .inr ⟨.inr k, c2, h2, ?_⟩⟩
        rcases q with ⟨k', _⟩ | ⟨_, c3, e', z⟩
        · have k' : X.env.scope.names.lookup y = some .local := k'
          have fr : X.env.scope.names.lookup y = some .cell ∨ X.env.scope.names.lookup y = some .free := fr
          rw [k'] at fr
          rcases fr with z | z <;> cases z
        · rw [cm h2] at e'
          cases e'
          exact cellK z
  · obtain ⟨w', z⟩ := I.cell y c (cm e)
    exact ⟨w', cellK z⟩
  · exact I.freeC y c (cm e)
  · have hp : p ∈ ([] : List (Addr × Obj)) := hp
    simp at hp
/-- f(v), in whatever is around -/
theorem lam_act {A : Around} {k : Nat} {f c' : Addr} {pm ctv : Value} {q : Str} {params : Arguments} {body : Expr} {Q : VK} (I : Inv X pins σ H s) (P : LamP X.env.scope scope a) (e0 : Env0 X.prog X.w X.K X.mg X.base A X.stack s H) (hr : Room (k + 1) A) (hN : X.N[i0]? = some a) (nd : X.N.Nodup) (rx : RelV x u)
    (hq : X.env.qual ++ "<lambda>" = q) (hf : s.heap.get? f = some (lamO q params body scope X pm c' ctv)) (hc : H c' = some (LamX.CodeO c' q)) (hbind : bindArgs (PySem.W.kla_fn "<lambda>" q params body scope (cloFrom X.env.cells scope.names []) pm (.ref c') ctv) ⟨[u], []⟩ = pure [(a, u)])
    (hb : WE (lamX X A X.stack s H scope f c') body (σ.set i0 (some x)) H Q) :
    wpAny (model X.prog X.w) A (call (.ref f) [u]) (fun y s' => CE X.stack X.prog X.w H s Q y s') (fun _ _ => False) s := by
  subst hq
  obtain ⟨⟨oc, vs, t, hoc, hdc, hvc⟩, _, _⟩ := I.hok c' _ hc
  have rc : codeAny (model X.prog X.w) A (.call (.ref f) ⟨[u], []⟩) (CR C8.CX0 X.stack X.prog X.w H s Q C8.E0) s := by
    refine PySem.W.kla_callFunE hr.depth hf rfl P.co P.gen rfl ⟨c', oc, vs, t, rfl, hoc, hdc, hvc⟩ ?_
    rw [hbind]
    refine wpAny_pure (wpAny_newFunctionEnv (fun y hy => P.noc y hy) (fun y hy => ?_) (fun h₁ hns hsb => ⟨I.nolimit.fresh _ hsb, ?_⟩) P.kind)
    · rw [List.mem_singleton.mp hy]; exact P.loc
    show codeAny _ _ (.expr body (LamX.lamEnv X scope s.heap.objs.size f c')) _ _
    have kp : ∀ b o, s.heap.get? b = some o → h₁.get? b = some o := fun b o e => hsb.extBut b o (Nat.ne_of_lt (Heap.lt_size e)) (Heap.get?_push_of_some _ e)
    have J := lamx_start (f := f) (c' := c') (tk := s.toks + [(a, u)].length) I P e0 hr.hd hN nd rx hns kp
    refine PySem.W.kla_codeExpr (wpAny_mono (hb [] _ J) (fun v s' hq => ?_) fun e s' hq => hq)
    obtain ⟨w', H', J', rv, q⟩ := hq
    exact ⟨w', H', J'.os, J'.bare, J'.base, J'.hok, rv, q⟩
  refine wpAny_call (codeAny_mono rc fun r s' hq => ?_)
  cases r with
  | error e => exact (show False from hq).elim
  | ok fl =>
    cases fl with
    | ret u => exact hq
    | next => exact False.elim hq
    | brk => exact False.elim hq
    | cont => exact False.elim hq
end
set_option maxRecDepth 100000
set_option maxHeartbeats 4000000
/-! ### min(xs, key=f), f a lambda that reads only -/
section
variable {X : Cx} {pins : List (Addr × Obj)} {σ : L2.St} {H : Hp} {s : Shared} {a : Str} {i0 k : Nat} {scope : Scope} {params : Arguments} {body : Expr} {q : Str} {f c' l : Addr} {pm ctv : Value} {xs : List V} {ol : Obj} {gv : Nat → Int}
/-- what stays while min goes on; I0, S0: its own things -/
def MinJ (X : Cx) (Hl : Hp) (s3 : Shared) (I0 S0 : Addr) (s : Shared) : Prop := s.os = s3.os ∧ AllBare s.gens ∧ ∃ H', Un (frs X.stack) [] Hl H' s3.heap s.heap ∧ HOk X.prog X.w H' s.heap ∧ Same Hl H' ∧ H' I0 = none ∧ H' S0 = none
theorem minJ_moved {Hl : Hp} {s3 s s' : Shared} {I0 S0 : Addr} {G : Array GenState → Array GenState → Prop} (hG : ∀ a b, G a b → b = a) (hI : s3.heap.objs.size ≤ I0) (hS : s3.heap.objs.size ≤ S0) (h : MinJ X Hl s3 I0 S0 s) (m : Moved (S0 :: [I0]) G s s') : MinJ X Hl s3 I0 S0 s' := by
  obtain ⟨h1, h2, H', un, ok, sm, n1, n2⟩ := h
  have out : ∀ {b : Addr}, b < s3.heap.objs.size → b ∉ S0 :: [I0] := fun {b} hb z => by
    rcases List.mem_cons.mp z with z | z
    · rw [z] at hb; exact absurd (Nat.lt_of_lt_of_le hb hS) (Nat.lt_irrefl _)
    · rw [List.mem_singleton.mp z] at hb; exact absurd (Nat.lt_of_lt_of_le hb hI) (Nat.lt_irrefl _)
  have go : ∀ {b : Addr} {o o' : Obj}, s3.heap.get? b = some o → s.heap.get? b = some o' → s'.heap.get? b = some o' := fun {b o o'} e e' => m.heap b o' (out (Heap.lt_size e)) e'
  refine ⟨m.os.trans h1, by rw [hG _ _ m.gens]; exact h2, H', ⟨fun b o e n hb hx => go e (un.keep b o e n hb hx), fun b o e n hb hx => ?_, un.free, fun b o e hx => ?_, un.tups, un.frzs, un.tbls⟩, fun b u e => ?_, sm, n1, n2⟩
  · obtain ⟨sl, e2⟩ := un.slot b o e n hb hx
    exact ⟨sl, go e e2⟩
  · obtain ⟨o', e2⟩ := un.there b o e hx
    exact ⟨o', go e e2⟩
  · refine (ok b u e).stay (fun c v hc e2 => m.heap c v (fun z => ?_) e2) (fun _ z => z) fun _ _ z => z
    have nn : ∀ {c : Addr} {u : HO}, H' c = some u → c ∉ S0 :: [I0] := fun {c u} e z => by
      rcases List.mem_cons.mp z with z | z
      · rw [z, n2] at e; cases e
      · rw [List.mem_singleton.mp z, n1] at e; cases e
    rcases hc with rfl | hc
    · exact nn e z
    · exact nn hc z
theorem wp_min {L : List Addr} {Q : Value → Shared → Prop} {Er : Value → Shared → Prop} {r : Rho} {ms : List Mk} {mp : Mk → Int} (I : Inv X pins σ H s) (C : CxN X r) (LP : LamP X.env.scope scope a) (hr : Room (k + 3) X.A) (hN : X.N[i0]? = some a) (hq : X.env.qual ++ "<lambda>" = q)
    (hf : s.heap.get? f = some (lamO q params body scope X pm c' ctv)) (hfn : H f = none) (hff : f ∉ frs X.stack) (hco : H c' = some (LamX.CodeO c' q)) (hl : H l = some (.frz ol (.lst xs)))
    (hbind : ∀ u cl pm cv ctv, bindArgs (PySem.W.kla_fn "<lambda>" q params body scope cl pm cv ctv) ⟨[u], []⟩ = pure [(a, u)]) (dm : Dom L H) (ie : IsE X.K (hid H L) σ r) (hx : IsL X.K (hid H L) xs (ms.map mkD)) (hne : 0 < ms.length)
    (hb : ∀ m ∈ ms, ∃ rm, Up r a (some (mkD m)) rm i0 ∧ ∀ (s : Shared) (H : Hp) (f c' : Addr), CxN (lamX X X.A.in1 X.stack s H scope f c') rm ∧ EX (lamX X X.A.in1 X.stack s H scope f c') body rm (.int (mp m)))
    (go : ∀ m x v s' H', m ∈ ms → Inv X pins σ H' s' → RelV x v → Same H H' → Is X.K (hid H' L) x (mkD m) → Q v s') :
    wpAny (model X.prog X.w) X.A (call (.builtin "min") [.ref l] [(Str.ofString "key", .ref f)]) Q Er s := by
  obtain ⟨hol, hz, its, nn, rv, hlist⟩ := (show ObjOk X.prog X.w H s.heap l (.frz ol (.lst xs)) from I.hok l _ hl)
  have eol : ol = { cls := .type "list", data := .seq its.toArray nn } := Option.some.inj (hol.symm.trans hlist)
  have isl : s.heap.IsList l its.toArray := ⟨_, hlist, rfl, nn, rfl⟩
  have hlen : its.length = ms.length := by rw [← rv.length, hx.length, List.length_map]
  have hll : l < s.heap.objs.size := Heap.lt_size hlist
  refine call_min_walkK (wpAny_pyIter_list isl ?_)
  have hsz : ∀ o : Obj, (s.heap.push o).objs.size = s.heap.objs.size + 1 := fun o => Heap.size_push ..
  have hw := (Walks.list (prog := X.prog) (w := X.w) (A := X.A.in1) (show X.A.in1.handled = none from hr.hd) s.heap.objs.size l (Nat.ne_of_lt hll) its.toArray).toS
  let gk : Nat → Int := fun i => (ms[i]?.map mp).getD 0
  refine ⟨s.heap.objs.size, _, _, _, _, _, _, MinJ X H s s.heap.objs.size (s.heap.objs.size + 1), fun i v _ => ∃ t, v = .int (gk i) t, fun i j => decide (gk i < gk j), rfl, hw, ⟨⟨_, Heap.get?_push_size _ rfl, rfl, rfl⟩, isl.push _⟩, fun b hb => ?_, ?_, ?_, ?_, ?_⟩
  · show b < (s.heap.push _).objs.size
    rw [hsz]
    rcases List.mem_cons.mp hb with rfl | hb
    · exact Nat.lt_succ_self _
    · rw [List.mem_singleton.mp hb]; exact Nat.lt_succ_of_lt hll
  · rw [List.size_toArray, hlen]; exact hne
  · show KeyRun _ _ _ _ _ (s.heap.push _).objs.size _ _ _ _ _ _ _ _
    rw [hsz]
    refine ⟨fun s1 s2 h m => minJ_moved (fun a b h => h) (Nat.le_refl _) (Nat.le_succ _) h m, fun i v s1 s2 h _ => h, ?_, fun i j ki kj s1 Q' E' _ h1 h2 hQ => ?_⟩
    · rintro i v s1 o Q' E' hi hP ⟨ho, hg, H', un, ok, sm, n1, n2⟩ hst hS hpost
      have J : Inv X pins σ H' s1 := I.call' (ch := []) ho un ok hg fun b z => absurd z (by simp)
      have hi' : i < its.length := by rw [List.size_toArray] at hi; exact hi
      have hv : its[i]? = some v := by simpa using hP
      have hxi : i < xs.length := by rw [rv.length]; exact hi'
      obtain ⟨u', hu', ru'⟩ := rv.get (List.getElem?_eq_getElem hxi)
      rw [hv] at hu'
      cases hu'
      have hmi : i < ms.length := by omega
      obtain ⟨d, hd, ix⟩ := hx.getv (List.getElem?_eq_getElem hxi)
      rw [List.getElem?_map, List.getElem?_eq_getElem hmi] at hd
      cases hd
      have hm : ms[i] ∈ ms := List.getElem_mem hmi
      obtain ⟨rm, up, hbm⟩ := hb _ hm
      have hgk : gk i = mp ms[i] := by show (ms[i]?.map mp).getD 0 = _; rw [List.getElem?_eq_getElem hmi]; rfl
      have hf1 := un.keep f _ hf hfn hff (by simp)
      have hc1 := sm _ _ hco
      obtain ⟨hC, hE⟩ := hbm s1 H' f c'
      have hw : WE (lamX X X.A.in1 X.stack s1 H' scope f c') body (σ.set i0 (some xs[i])) H' (fun y H2 => y = .int (mp ms[i]) ∧ Same H' H2) := hE hC L _ H' _ (dm.mono sm) ((ie.mono (hid_mono sm)).up (ix.mono (hid_mono sm)) up) fun y H2 s2 iy => ⟨is_int iy, s2⟩
      refine wpAny_mono (lam_act (A := X.A.in1) (k := k + 1) J LP J.env0.in1 hr.in1 hN C.nd ru' hq hf1 hc1 (hbind _ _ _ _ _) hw) (fun y s2 h => ?_) fun _ _ z => z.elim
      obtain ⟨y', H2, ho2, hg2, un2, ok2, ry, rfl, sm2⟩ := h
      obtain ⟨t, rfl⟩ := ry
      have noF : ∀ {b : Addr}, s.heap.objs.size ≤ b → b ∉ frs X.stack := fun hb => fresh_fr I hb
      obtain ⟨oI, hI0, hI1⟩ := hst.1
      have kI := un2.keep _ _ hI0 n1 (noF (Nat.le_refl _)) (by simp)
      have kS := un2.keep _ _ hS n2 (noF (Nat.le_succ _)) (by simp)
      have kl : s2.heap.get? l = some ol := (ok2 l _ (sm2 _ _ (sm _ _ hl))).1
      refine hpost _ s2 ⟨ho2.trans ho, hg2, H2, un.trans un2, ok2, sm.trans sm2, un2.free _ _ hI0 n1 (by simp), un2.free _ _ hS n2 (by simp)⟩ ⟨⟨oI, kI, hI1⟩, ⟨ol, kl, by rw [eol], nn, by rw [eol]⟩⟩ kS ⟨t, by rw [hgk]⟩ fun j k' h => h
    · obtain ⟨t1, rfl⟩ := h1
      obtain ⟨t2, rfl⟩ := h2
      exact CmpOf.ints_lt (P := fun i v => ∃ t, v = .int (gk i) t) gk (fun i v h => h) i j _ _ s1 Q' E' ⟨t1, rfl⟩ ⟨t2, rfl⟩ hQ
  · have old : ∀ b o, s.heap.get? b = some o → (s.heap.push { cls := .type "list_iterator", data := .fields #[.ref l, .int 0 0] }).get? b = some o := fun b o e => Heap.get?_push_of_some _ e
    exact ⟨rfl, I.bare, H, Un.kept old, I.hok.kept old, Same.refl H, I.hok.fresh (Nat.le_refl _), I.hok.fresh (Nat.le_succ _)⟩
  · rintro v s1 hP ⟨ho, hg, H', un, ok, sm, n1, n2⟩
    have J : Inv X pins σ H' s1 := I.call' (ch := []) ho un ok hg fun b z => absurd z (by simp)
    have hb1 := (argBest_lt gk (its.toArray.size - 1)).1
    rw [List.size_toArray] at hb1 hP
    generalize argBest (fun i j => decide (gk i < gk j)) (its.length - 1) = j at hb1 hP
    have hv : its[j]? = some v := by simpa using hP
    have hj : j < its.length := (List.getElem?_eq_some_iff.mp hv).1
    have hxj : j < xs.length := by rw [rv.length]; exact hj
    obtain ⟨u', hu', ru'⟩ := rv.get (List.getElem?_eq_getElem hxj)
    rw [hv] at hu'
    cases hu'
    have hmj : j < ms.length := by omega
    obtain ⟨d, hd, ix⟩ := hx.getv (List.getElem?_eq_getElem hxj)
    rw [List.getElem?_map, List.getElem?_eq_getElem hmj] at hd
    cases hd
    exact go ms[j] xs[j] v s1 H' (List.getElem_mem hmj) J ru' sm (ix.mono (hid_mono sm))
end
set_option maxRecDepth 100000
set_option maxHeartbeats 4000000
section
variable {P : Program} {w : World} {K : PySem.W.Frag} {mg : Str → Option Value} {base : Heap}
/-- a def with effects, its own code object told -/
theorem def_nc {x qual : Str} {st : Stmt} {f : Addr} {fd : FuncData} {N ps : List Str} {k : Nat} {pre : Rsc → List D → Nat → (D → Prop) → Prop} (F : Fun K x qual st f fd) (S : Sc N ps st) (hl : ∀ R ds c O, pre R ds c O → ds.length = ps.length)
    (h : ∀ (A : Around) (outer : List Env) (s : Shared) (H : Hp) (E : XK), Room k (A.deeper (envOfC qual (defScope st) s.heap.objs.size f fd.code)) →
      ∀ R ds c O, pre R ds c O → SN R (Bdy P w K mg base N qual (defScope st) f fd.code A outer s H E) (defBody st) (st0 N ds) c (fun o => ∃ d, o = .rt d ∧ O d)) :
    FnOk P w K mg base CX0 (k + 1) f fd ps (spN K pre) := by
  obtain ⟨oc, od, kV, doc, pm, an, cdv, ct, osl, rfl, lk, hcd⟩ := F.ex
  refine fn_of lk hcd S.fn (fun vs H Q E ⟨R, L, ds, c, O, n, hp, hM, dm, z, ph, i, q⟩ => by rw [i.length]; exact hl R ds c O hp) fun A outer s H vs Q E hr hsp => ?_
  obtain ⟨R, L, ds, c, O, n, hp, hM, dm, z, ph, i, q⟩ := hsp
  have hl := hl R ds c O hp
  have hle : ds.length ≤ N.length := by
    rw [hl]
    have := congrArg List.length S.fn.pre
    rw [List.length_take] at this; omega
  refine ⟨WS (Bdy P w K mg base N qual (defScope st) f cdv A outer s H E) (defBody st), (pss_w _ _).nox, ?_⟩
  have b := h A outer s H E hr R ds c O hp
  rw [← start_st0] at b
  refine b.run (cxn_start S.fn hl S.dbg) L [] _ H _ n hM dm z List.nodup_nil (fun a ha => by simp at ha) ph (ow_start (N := N) (K := K) (H := H) i hle) fun o oo cx => ?_
  obtain ⟨d, rfl, hd⟩ := oo
  exact fun v H' f ph i => q d v H' ⟨fun a o nz h => f.1 a o nz (by simp) h, fun a h => f.2 a (by simp) h⟩ ph hd i
end
theorem ow_third {K : PySem.W.Frag} {G H : Hp} {σ : L2.St} {n1 n2 n3 n4 : Str} {d1 d2 : D} {ds : List D} {A : List Addr} (h : Ow K G H σ [(n1, .d d1), (n2, .d d2), (n3, .o ds), (n4, .u)] A) : ∃ l xs, A = [l] ∧ σ[2]? = some (some (.ref l)) ∧ H l = some (.lst xs) ∧ IsL K G xs ds := by
  cases h with
  | d i1 t =>
    cases t with
    | d i2 t =>
      cases t with
      | o hl hx t =>
        cases t with
        | u t =>
          cases t
          exact ⟨_, _, rfl, rfl, hl, hx⟩
theorem o_inPri {X : Cx} {L : List (Mk × Int)} {m : Mk} (hu : X.A.units + 65 < cLine) : Op2 X (compareOp .In) (mkD m) (priM X.prog X.w L) (.bl (decide (m ∈ L.map (·.1)))) := by
  have h := o_inMd (X := X) (L := L.map fun p => (p.1, V.int p.2)) (m := m) hu
  rw [List.map_map] at h
  exact h
theorem price_fn (L : List (Mk × Int)) : ∃ pf : Mk → Int, ∀ m ∈ L.map (·.1), lookM (L.map fun p => (p.1, V.int p.2)) m = some (V.int (pf m)) := by
  refine ⟨fun m => ((L.find? fun p => decide (p.1 = m)).map (·.2)).getD 0, fun m hm => ?_⟩
  obtain ⟨p, hp, e⟩ := List.mem_map.mp hm
  unfold lookM
  rw [List.find?_map, Option.map_map]
  cases q : L.find? fun p => decide (p.1 = m) with
  | none => exact absurd (decide_eq_true e) (by have := List.find?_eq_none.mp q p hp; simpa using this)
  | some z =>
    have q' : L.find? ((fun p : Mk × V => decide (p.1 = m)) ∘ fun p => (p.1, V.int p.2)) = some z := q
    rw [q']
    show some (V.int z.2) = some (V.int (((L.find? fun p => decide (p.1 = m)).map (·.2)).getD 0))
    rw [q]; rfl
def lamPB (sc scope : Scope) (a : Str) : Bool := decide (scope.kind = .function) && !scope.isCoroutine && !scope.isGenerator && decide (scope.names.lookup a = some .local) &&
  scope.names.all fun y => !decide (y.2 = .cell) && (!decide (y.2 = .local) || decide (y.1 = a)) && (!decide (y.2 = .free) || decide (sc.names.lookup y.1 = some .cell) || decide (sc.names.lookup y.1 = some .free))
theorem lamP_by {sc scope : Scope} {a : Str} (h : lamPB sc scope a = true) : LamP sc scope a := by
  unfold lamPB at h
  simp only [Bool.and_eq_true, Bool.or_eq_true, Bool.not_eq_true', decide_eq_true_eq, decide_eq_false_iff_not, List.all_eq_true] at h
  obtain ⟨⟨⟨⟨h1, h2⟩, h3⟩, h4⟩, h5⟩ := h
  refine ⟨h1, h2, h3, fun y hy => (h5 y hy).1.1, h4, fun y hy e => ?_, fun y hy e => ?_⟩
  · rcases (h5 y hy).1.2 with z | z
    · exact absurd e z
    · exact z
  · rcases (h5 y hy).2 with (z | z) | z
    · exact absurd e z
    · exact .inl z
    · exact .inr z
section
variable {P : Program} {w : World} {K : PySem.W.Frag} {mg : Str → Option Value} {base : Heap} {k : Nat} {f : Addr} {fd : FuncData} {P0 : Addr} {q : Str}
@[reducible] def N70 : List Str := ["some", "known", "priced", "mark"]
theorem sc70 : Sc N70 ["some", "known"] (topS 70) := ⟨⟨rfl, rfl, rfl, by decide +kernel, rfl, by decide +kernel, by decide +kernel⟩, by decide +kernel⟩
theorem ok70 {c : Addr} (F : Fun K "cheapest_of" "cheapest_of" (topS 70) f fd) (TB : LamX.TabB base mg c P0) (hcode : fd.code = .ref c) (hq : ("cheapest_of.<locals>." : Str) ++ "<lambda>" = q) (m1 : mg "min" = none) : FnOk P w K mg base CX0 (k + 1 + 3) f fd ["some", "known"] (spN K (pre70 P w P0 q)) := by
  refine def_nc F sc70 (fun R ds c O ⟨_, _, _, _, _, _, _, _, h, _⟩ => by rw [h]; rfl) fun A outer s H E hr R ds c O ⟨ms, L, LR, hnd, hLl, hne, hml, hall, hds, hc, hO⟩ => ?_
  subst hds hc hO
  walk_at "gn"
  have hfil : ms.filter (fun m => decide (m ∈ L.map (·.1))) = ms := List.filter_eq_self.mpr fun m hm => decide_eq_true (hall m hm)
  (with_reducible apply sn_pure)
  · (with_reducible apply s1_seto1 (ds := ms.map mkD)) <;> walk_at "ev"
    refine slx_is (ds := (ms.filter (fun m => decide (m ∈ L.map (·.1)))).map mkD) ?_ (by rw [hfil])
    (with_reducible apply sl_fil1 [("mark", 3)] N70 (defScope (topS 70)) ms mkD (fun m => decide (m ∈ L.map (·.1)))) <;> walk_at "ev"
    · rw [sizeLine_eq]; omega
    · intro z hz
      walk_at "t1"
      refine' o_inPri ?_
      exact ru hr
  obtain ⟨pf, hpf⟩ := price_fn L
  refine .mk fun C Ls A' σ H' E' n hM dm z nd nl ph ow p => ?_
  have rdI := ow_rd nl ow
  have hdI := ow.hd
  have dmA := dom_own dm ow
  obtain ⟨l, xs, rfl, hσ, hl, hx⟩ := ow_third ow
  have hlLs : l ∉ Ls := nl l (by simp)
  refine ws_one (w1_of (ps_ret (pe_w _ _)) (we_of (pe_ifExp (pt_w _ _) (pe_w _ _) (pe_w _ _)) ?_))
  have htest := o_neNilG (X := Bdy P w K mg base N70 "cheapest_of" (defScope (topS 70)) f fd.code A outer s H E) (f := mkD) (ls := ms) (fun m => Cd.nod (α := Mk) m) (fun m => Cd.lay (α := Mk) m) (fun m => Nat.le_trans (Cd.dep (α := Mk) m) (by decide)) (ru hr)
  have hemp : ms.isEmpty = false := by cases ms with | nil => exact absurd hne (by decide) | cons _ _ => rfl
  rw [hemp] at htest
  refine (tx_cmp (X := Bdy P w K mg base N70 "cheapest_of" (defScope (topS 70)) f fd.code A outer s H E) (r := rd _) ?_ ?_ htest ?_) C Ls σ H' _ dm rdI fun H1 s1 => ?_
  · walk_at "ev"
  · walk_at "ev"
  · walk_at "ev"
  show WE _ (.Call _ _ _ _) σ H1 _
  intro pins s0 I
  refine wpAny_Call_Name_kw (ld_blt I ?_ m1 rfl ?_ (by decide) (by decide))
  · walk_at "ev"
  have hN3 : (Bdy P w K mg base N70 "cheapest_of" (defScope (topS 70)) f fd.code A outer s H E).N[2]? = some ("priced" : Str) := rfl
  refine PyProof.Rows.callWith_kw (thn ((pa_cons (pe_var hN3 ?_ (by decide) (by decide)) pa_nil ?_).run _ pins s0 σ H1 (fun vs H2 => vs = [.ref l] ∧ H2 = H1) I ⟨.ref l, hσ, rfl, rfl⟩) fun us s2 ⟨vs, H2, I2, r2, q2⟩ => ?_)
  · exact .inl rfl
  · rfl
  obtain ⟨rfl, rfl⟩ := q2
  have eus : us = [.ref l] := by
    cases r2 with
    | cons h t =>
      cases t
      cases h
      rfl
  subst eus
  refine PyProof.Rows.kws_cons ?_
  have hZ : P0 ∈ R.Z := LR.z
  have hP0L : P0 ∈ Ls := z P0 hZ
  have hlP : l ≠ P0 := fun e => hlLs (e ▸ hP0L)
  have t1 : LamX.TabS H2 P0 q := (LR.get ph).ext s1
  have LP0 : LamP (Bdy P w K mg base N70 "cheapest_of" (defScope (topS 70)) f fd.code A outer s H E).env.scope { kind := ScopeKind.function, names := [("mark", .local), ("known", .free)], isGenerator := false, isCoroutine := false, more := [] } "mark" := lamP_by (sc := defScope (topS 70)) (by decide +kernel)
  refine lam_new (c := c) I2 TB hcode hq t1 rfl (LP0.has I2.ok) fun fa c' pm ctv H3 s3 I3 keep tab hfo hfn hff hco => ?_
  refine PyProof.Rows.kws_nil ?_
  have hl3 : H3 l = some (.lst xs) := keep _ _ hlP (s1 _ _ hl)
  obtain ⟨ol, I4⟩ := I3.lock hl3 trivial
  have hne3 : ∀ {b : Addr} {o : HO}, H' b = some o → b ≠ P0 → b ≠ l → upd H3 l (.frz ol (.lst xs)) b = some o := fun {b o} e h1 h2 => by
    rw [upd_ne h2]
    exact keep b o h1 (s1 b o e)
  have sm : Same (hid H' ([l] ++ Ls)) (hid (upd H3 l (.frz ol (.lst xs))) (l :: Ls)) := fun b o e => by
    obtain ⟨e1, e2⟩ := hid_some e
    exact hid_of (hne3 e1 (fun z => e2 (List.mem_append_right _ (z ▸ hP0L))) fun z => e2 (List.mem_append_left _ (by simp [z]))) e2
  have hpne : ∀ {G : Hp}, LamX.TabS G P0 q → G P0 ≠ none := fun {G} t e => by
    obtain ⟨ps, h1, _⟩ := t
    rw [h1] at e; cases e
  have tabl : LamX.TabS (upd H3 l (.frz ol (.lst xs))) P0 q := by
    obtain ⟨ps, h1, h2, h3⟩ := tab
    refine ⟨ps, by rw [upd_ne hlP.symm]; exact h1, h2, fun pos cv hc => ?_⟩
    obtain ⟨c0, e1, e2⟩ := h3 pos cv hc
    have hc0 : c0 ≠ l := fun z => by
      rw [z, hl3] at e2
      unfold LamX.CodeO at e2
      cases e2
    exact ⟨c0, e1, by rw [upd_ne hc0]; exact e2⟩
  have hcl : c' ≠ l := fun z => by
    rw [z, hl3] at hco
    unfold LamX.CodeO at hco
    cases hco
  have hfl : fa ≠ l := fun z => by rw [z, hl3] at hfn; cases hfn
  have kpn : ∀ b, H' b ≠ none → upd H3 l (.frz ol (.lst xs)) b ≠ none := fun b hb => by
    by_cases h1 : b = l
    · rw [h1, upd_same]; simp
    · by_cases h2 : b = P0
      · rw [h2]; exact hpne tabl
      · cases e : H' b with
        | none => exact absurd e hb
        | some o => rw [hne3 e h2 h1]; simp
  refine wp_min (r := [("some", none), ("known", some (priM P w L)), ("priced", none), ("mark", none)]) (L := l :: Ls) (k := k) (i0 := 3) (ol := ol) (xs := xs) (ms := ms) (mp := pf) I4 ((C.le (hd_le _)).le (.any (.same (.same (.same .nil))))) LP0 hr rfl hq hfo (by rw [upd_ne hfl]; exact hfn) hff (by rw [upd_ne hcl]; exact hco) upd_same (fun _ _ _ _ _ => rfl) (fun b hb => ?_) ((hdI.mono sm).le (.any (.same (.same (.same .nil))))) (hx.mono sm) hne (fun m hm => ⟨_, .next (.next (.next .here)), fun s5 H5 f5 c5 => ⟨?_, ?_⟩⟩) fun m x v s5 H5 hm J rx sm5 ix => ⟨x, H5, J, rx, ?_⟩
  · refine kpn b (dmA b ?_)
    rcases List.mem_cons.mp hb with e | e
    · exact List.mem_append_left _ (by simp [e])
    · exact List.mem_append_right _ e
  · refine ⟨rfl, C.nd, C.dbg, fun p hp hs => ?_, rfl⟩
    rcases List.mem_cons.mp hp with e | hp
    · rw [e] at hs; cases hs
    · rcases List.mem_cons.mp hp with e | hp
      · rw [e]; exact .inr (.inr rfl)
      · rcases List.mem_cons.mp hp with e | hp
        · rw [e] at hs; cases hs
        · rw [List.mem_singleton.mp hp]; exact .inl rfl
  · refine ex_mdget (ru ((hr.in1 (k := k + 2)).deeper (k := k + 1) _)) ?_ ?_ (hpf m (hall m hm)) rfl ?_
    · exact ex_var (.next .here)
    · exact ex_var (.next (.next (.next .here)))
    · exact fun _ _ => rfl
  · have tab5 : LamX.TabS H5 P0 q := tabl.ext sm5
    have fz : FramZ R.Z [l] H' H5 := ⟨fun b o nz nA e => sm5 _ _ (hne3 e (fun z => nz (z ▸ hZ)) fun z => nA (by simp [z])), fun b nA hb => by
      cases e : upd H3 l (.frz ol (.lst xs)) b with
      | none => exact absurd e (kpn b hb)
      | some o => rw [sm5 _ _ e]; simp⟩
    have ph3 : R.Φ n H3 := LR.put (R.st ph s1) tab fun b o nb e => keep b o nb e
    have ph5 : R.Φ n H5 := R.stb ph3 fun b o e c => sm5 _ _ (by
      rw [upd_ne (fun zz => ?_)]
      · exact e
      · rw [zz] at e c
        rw [hl3] at e
        cases e
        rcases c with c | c
        · exact hlLs (z l c)
        · exact c mut_lst)
    exact p (.rt (mkD m)) ⟨_, rfl, m, hm, rfl⟩ trivial x H5 fz ph5 (ix.mono hid_cons)
end
set_option maxRecDepth 100000
set_option maxHeartbeats 4000000
/-! ### what the top has left -/
structure DefAt (K : PySem.W.Frag) (mg : Str → Option Value) (x : Str) (i : Nat) : Prop where
  ex : ∃ f fd, Fun K x x (topS i) f fd ∧ mg x = some (.ref f)
theorem defAt_mk {K : PySem.W.Frag} {h : Heap} {mg : Str → Option Value} {x : Str} {i : Nat} {f : Addr} {oc : Value} {od an : Option Addr} {osl : Array (Option Value)} {kV doc pm cdv ct : Value} (X : K.In h) (G : h.Ns mainGlobals mg) (a : PySem.W.nsIn K mainGlobals x = some (some (.ref f)))
    (l : K.lookup f = some ⟨oc, od, .func (PySem.W.fnOf x x (defArgs (topS i)) (defBody (topS i)) (defScope (topS i)) .none kV doc pm an cdv ct), osl⟩) (c : PySem.W.codeIn K cdv x = true) (k : PySem.W.keepIn K (.ref f) = true) : DefAt K mg x i := ⟨_, _, fun_mk l c k, PySem.W.mg_of X G a⟩
structure DefC (K : PySem.W.Frag) (mg : Str → Option Value) (x : Str) (i : Nat) (c : Addr) : Prop where
  ex : ∃ f fd, Fun K x x (topS i) f fd ∧ mg x = some (.ref f) ∧ fd.code = .ref c
theorem defC_mk {K : PySem.W.Frag} {h : Heap} {mg : Str → Option Value} {x : Str} {i : Nat} {f co : Addr} {oc : Value} {od an : Option Addr} {osl : Array (Option Value)} {kV doc pm ct : Value} (X : K.In h) (G : h.Ns mainGlobals mg) (a : PySem.W.nsIn K mainGlobals x = some (some (.ref f)))
    (l : K.lookup f = some ⟨oc, od, .func (PySem.W.fnOf x x (defArgs (topS i)) (defBody (topS i)) (defScope (topS i)) .none kV doc pm an (.ref co) ct), osl⟩) (c : PySem.W.codeIn K (.ref co) x = true) (k : PySem.W.keepIn K (.ref f) = true) : DefC K mg x i co := ⟨_, _, fun_mk l c k, PySem.W.mg_of X G a, rfl⟩
/-! ### constants -/
def rdL (f : Value → D → Bool) : List Value → List D → Bool
  | [], [] => true
  | u :: us, d :: ds => f u d && rdL f us ds
  | _, _ => false
def rdK (K : PySem.W.Frag) : Nat → Value → D → Bool
  | 0, _, _ => false
  | _ + 1, .none, .non => true
  | _ + 1, .bool a, .bl b => decide (a = b)
  | _ + 1, .int i _, .int j => decide (i = j)
  | _ + 1, .str x _, .str y => decide (x = y)
  | n + 1, .ref a, .tup ds => match K.lookup a with
    | some ⟨.type T, _, .seq its _, _⟩ => T == "tuple" && Nat.ble its.size sizeLine && rdL (rdK K n) its.toList ds
    | _ => false
  | _ + 1, _, _ => false
theorem rdL_is {K : PySem.W.Frag} {H : Hp} {f : Value → D → Bool} (hf : ∀ u d, f u d = true → ∃ v, RelV v u ∧ Is K H v d) : ∀ {us : List Value} {ds : List D}, rdL f us ds = true → ∃ vs, Vals vs us ∧ IsL K H vs ds
  | [], [], _ => ⟨[], .nil, .nil⟩
  | [], _ :: _, h => by simp [rdL] at h
  | _ :: _, [], h => by simp [rdL] at h
  | u :: us, d :: ds, h => by
    have h : (f u d && rdL f us ds) = true := h
    rw [Bool.and_eq_true] at h
    obtain ⟨v, r, i⟩ := hf u d h.1
    obtain ⟨vs, rs, is⟩ := rdL_is hf h.2
    exact ⟨v :: vs, .cons r rs, .cons i is⟩
theorem rdK_is {K : PySem.W.Frag} {H : Hp} : ∀ (n : Nat) (u : Value) (d : D), rdK K n u d = true → ∃ v, RelV v u ∧ Is K H v d := by
  intro n
  induction n with
  | zero => exact fun u d h => by simp [rdK] at h
  | succ n ih =>
    intro u d h
    unfold rdK at h
    split at h
    · cases ‹_ = _›
    · exact ⟨.non, rfl, .non⟩
    · rw [of_decide_eq_true h]; exact ⟨.bl _, rfl, .bl _⟩
    · rw [of_decide_eq_true h]; exact ⟨.int _, ⟨_, rfl⟩, .int _⟩
    · rw [of_decide_eq_true h]; exact ⟨.str _, ⟨_, rfl⟩, .str _⟩
    · rename_i m a ds e
      cases e
      split at h
      · rename_i T od its nn sl hl
        rw [Bool.and_eq_true, Bool.and_eq_true] at h
        obtain ⟨⟨h1, h2⟩, h3⟩ := h
        obtain ⟨vs, rs, is⟩ := rdL_is (H := H) ih h3
        have hT : T = "tuple" := by simpa using h1
        subst hT
        exact ⟨.ref a, rfl, .tup (.inr ⟨_, its, nn, hl, rfl, rfl, Nat.le_of_ble_eq_true h2, rs⟩) is⟩
      · cases h
    · cases h
theorem gc_mk {K : PySem.W.Frag} {h : Heap} {mg : Str → Option Value} {x : Str} {u : Value} {d : D} (X : K.In h) (G : h.Ns mainGlobals mg) (a : PySem.W.nsIn K mainGlobals x = some (some u)) (r : rdK K 6 u d = true) : GC K mg x d := by
  obtain ⟨v, h1, h2⟩ := rdK_is (H := fun _ => none) 6 u d r
  exact ⟨u, v, PySem.W.mg_of X G a, h1, h2⟩
theorem gds_mk {K : PySem.W.Frag} {w : World} {h : Heap} {mg : Str → Option Value} {x z : Str} {a : Addr} {es : Array DictEntry} {n : Nat} {u : Value} {d : D} (X : K.In h) (G : h.Ns mainGlobals mg) (m : PySem.W.nsIn K mainGlobals x = some (some (.ref a))) (l : K.lookup a = some ⟨.type "dict", none, .dict es n, #[]⟩)
    (kl : PySem.W.KeysLit w.params es.toList) (e : PySem.W.nsIn K a z = some (some u)) (r : rdK K 6 u d = true) : GDs K w mg x z d := by
  obtain ⟨v, h1, h2⟩ := rdK_is (H := fun _ => none) 6 u d r
  exact ⟨a, v, PySem.W.mg_of X G m, ⟨es, n, u, l, kl, e, h1⟩, h2⟩
theorem gdi_mk {K : PySem.W.Frag} {w : World} {h : Heap} {mg : Str → Option Value} {x z : Str} {a : Addr} {es : Array DictEntry} {n : Nat} {r : Option Value} {b : Bool} (X : K.In h) (G : h.Ns mainGlobals mg) (m : PySem.W.nsIn K mainGlobals x = some (some (.ref a))) (l : K.lookup a = some ⟨.type "dict", none, .dict es n, #[]⟩)
    (kl : PySem.W.KeysLit w.params es.toList) (hs : (a == sysModules) = false) (e : PySem.W.nsIn K a z = some r) (hb : r.isSome = b) : GDi K w mg x z b := ⟨a, es, n, r, PySem.W.mg_of X G m, ⟨l, kl, hs⟩, e, hb⟩
theorem gdb_mk {K : PySem.W.Frag} {w : World} {h : Heap} {mg : Str → Option Value} {x : Str} {a : Addr} {es : Array DictEntry} {n : Nat} {b : Bool} {u : Value} {d : D} (X : K.In h) (G : h.Ns mainGlobals mg) (m : PySem.W.nsIn K mainGlobals x = some (some (.ref a))) (l : K.lookup a = some ⟨.type "dict", none, .dict es n, #[]⟩)
    (he : ∀ e ∈ es, ∃ c, e.key = .bool c ∧ e.hash = (Leaf.num (bnum c)).key.hash w) (hf : findBy Leaf.isOf es (.num (bnum b)) = some u) (r : rdK K 6 u d = true) : GDb K w mg x b d := by
  obtain ⟨v, h1, h2⟩ := rdK_is (H := fun _ => none) 6 u d r
  exact ⟨a, es, n, v, u, PySem.W.mg_of X G m, l, he, hf, h1, h2⟩
/-! ### calls -/
theorem Cal.mono {P : Program} {w : World} {K : PySem.W.Frag} {mg : Str → Option Value} {base : Heap} {j k : Nat} {x : Str} {sp : Sp} (c : Cal P w K mg base j x sp) (h : j ≤ k) : Cal P w K mg base k x sp := by
  obtain ⟨f, fd, ps, F, r⟩ := c.ex
  exact ⟨f, fd, ps, F.mono h, r⟩
theorem cal_mk {P : Program} {w : World} {K : PySem.W.Frag} {mg : Str → Option Value} {base : Heap} {k i : Nat} {x : Str} {ps : List Str} {sp : Sp} (d : DefAt K mg x i) (ok : ∀ {f : Addr} {fd : FuncData}, Fun K x x (topS i) f fd → FnOk P w K mg base CX0 k f fd ps sp)
    (hb : ∀ (kV doc pm : Value) (an : Option Addr) (cdv ct : Value) (us : List Value), us.length = ps.length → bindArgs (PySem.W.fnOf x x (defArgs (topS i)) (defBody (topS i)) (defScope (topS i)) .none kV doc pm an cdv ct) ⟨us, []⟩ = pure (ps.zip us)) : Cal P w K mg base k x sp := by
  obtain ⟨f, fd, F, m⟩ := d.ex
  exact ⟨f, fd, ps, ok F, m, F.kp, F.binds hb⟩
/-- all that is asked of the top -/
structure Tops (K : PySem.W.Frag) (w : World) (mg : Str → Option Value) (co : Addr) : Prop where
  z_tuple : mg "tuple" = none
  z_sorted : mg "sorted" = none
  z_set : mg "set" = none
  z_any : mg "any" = none
  z_isinstance : mg "isinstance" = none
  z_str : mg "str" = none
  z_len : mg "len" = none
  z_all : mg "all" = none
  z_min : mg "min" = none
  z_dict : mg "dict" = none
  z_sum : mg "sum" = none
  z_list : mg "list" = none
  z_enumerate : mg "enumerate" = none
  z_int : mg "int" = none
  z_range : mg "range" = none
  z_zip : mg "zip" = none
  z_abs : mg "abs" = none
  z_max : mg "max" = none
  g_STATES_marks : GC K mg "STATES_marks" (.tup ([true, false].map phD))
  g_COLOURS : GC K mg "COLOURS" (.tup ([Col.black, .grey, .white].map colD))
  g_LOAD : GC K mg "LOAD" (.str "load")
  g_HOLDER : GC K mg "HOLDER" (.str "holder")
  g_GREY_marks : GC K mg "GREY_marks" (.str "grey")
  g_OLD : GC K mg "OLD" (.str "old")
  g_WHITE_marks : GC K mg "WHITE_marks" (.str "white")
  g_NONE_marks : GC K mg "NONE_marks" (.str "none")
  g_NEW : GC K mg "NEW" (.str "new")
  g_STORE : GC K mg "STORE" (.str "store")
  g_BLACK_marks : GC K mg "BLACK_marks" (.str "black")
  g_UNSCANNED_marks : GC K mg "UNSCANNED_marks" (.str "unscanned")
  g_PROPERTIES : GC K mg "PROPERTIES" (.tup (wds.map wdD))
  g_SAFE_judging : GC K mg "SAFE_judging" (.str "safe")
  g_BLACK_judging : GC K mg "BLACK_judging" (.str "black")
  g_WHITE_judging : GC K mg "WHITE_judging" (.str "white")
  g_STATES_judging : GC K mg "STATES_judging" (.tup ([true, false].map phD))
  g_NEW_VALUES : GC K mg "NEW_VALUES" (.tup (newVs.map ocolD))
  g_NEW_WHITE : GC K mg "NEW_WHITE" (.str "new_white")
  g_SCANNED_judging : GC K mg "SCANNED_judging" (.str "scanned")
  g_LOAD_GREY : GC K mg "LOAD_GREY" (.str "load_grey")
  g_LOAD_WHITE : GC K mg "LOAD_WHITE" (.str "load_white")
  g_LOAD_BLACK : GC K mg "LOAD_BLACK" (.str "load_black")
  g_OVER_WHITE : GC K mg "OVER_WHITE" (.str "by_unscanned_over_white")
  g_UNSCANNED_judging : GC K mg "UNSCANNED_judging" (.str "unscanned")
  g_BY_SCANNED : GC K mg "BY_SCANNED" (.str "by_scanned")
  g_OLD_VALUES : GC K mg "OLD_VALUES" (.tup (oldVs.map ocolD))
  g_GAPS : GC K mg "GAPS" (.tup (gaps9.map gapD))
  sw : ∀ b, GDb K w mg "SAFE_WAYS" b (waysD b .safe)
  wy : ∀ t, t ≠ .safe → GDs K w mg "WAYS" (wdS t) (waysD false t)
  hC : ∀ g, GDi K w mg "HOLDER_OF_CUT" (gapS g) (decide (g ∈ [Gap.cutGrey, .cutWhite]))
  hG : GDs K w mg "HOLDER_OF_CUT" (gapS .cutGrey) (colD .grey)
  hW : GDs K w mg "HOLDER_OF_CUT" (gapS .cutWhite) (colD .white)
  d18 : DefAt K mg "load_marks" 18
  d19 : DefAt K mg "can_be_shaded" 19
  d20 : DefAt K mg "store_marks" 20
  d21 : DefAt K mg "all_marks" 21
  d22 : DefAt K mg "joined" 22
  d23 : DefAt K mg "is_by" 23
  d24 : DefAt K mg "is_known_by" 24
  d25 : DefAt K mg "known_table" 25
  d34 : DefAt K mg "check_word" 34
  d59 : DefAt K mg "ways_to_break" 59
  d60 : DefAt K mg "marks_into_black" 60
  d61 : DefAt K mg "cuts" 61
  d62 : DefAt K mg "marks_that_close" 62
  d63 : DefAt K mg "known_marks" 63
  d64 : DefAt K mg "open_marks" 64
  d65 : DefAt K mg "gaps_of" 65
  d66 : DefAt K mg "breaks" 66
  d67 : DefAt K mg "holds" 67
  d68 : DefAt K mg "properties_of" 68
  d70 : DefC K mg "cheapest_of" 70 co
  d71 : DefAt K mg "closings" 71
  d72 : DefAt K mg "choices" 72
  d73 : DefAt K mg "additions" 73
  d74 : DefAt K mg "cheapest" 74
  d76 : DefAt K mg "_law_take" 76
  d77 : DefAt K mg "_law_ended" 77
  d78 : DefAt K mg "_law_steps" 78
  d79 : DefAt K mg "_law_colour" 79
  d80 : DefAt K mg "_law_shade" 80
  d81 : DefAt K mg "_law_stored" 81
  d82 : DefAt K mg "_law_grey" 82
  d83 : DefAt K mg "_law_add" 83
  d84 : DefAt K mg "_law_next" 84
  d85 : DefAt K mg "_law_of" 85
  d86 : DefAt K mg "_law_heap" 86
  d87 : DefAt K mg "_law_reached" 87
  d88 : DefAt K mg "_law_covered" 88
  d89 : DefAt K mg "_law_has" 89
  d90 : DefAt K mg "_law_groups" 90
  d91 : DefAt K mg "_law_marks" 91
  d92 : DefAt K mg "_law_table" 92
  d93 : DefAt K mg "_law_pot" 93
  d94 : DefAt K mg "_law_tour" 94
  d95 : DefAt K mg "_law_tour_right" 95
  d96 : DefAt K mg "_law_right" 96
  d97 : DefAt K mg "law" 97
section
variable {P : Program} {w : World} {K : PySem.W.Frag} {mg : Str → Option Value} {base : Heap} {P0 co : Addr} {q : Str}
theorem law_chain (T : Tops K w mg co) (TB : LamX.TabB base mg co P0) (hq : ("cheapest_of.<locals>." : Str) ++ "<lambda>" = q) {f : Addr} {fd : FuncData} (F : Fun K "law" "law" (topS 97) f fd) : FnOk P w K mg base CX0 9 f fd ["_law_script"] (spN K (pre97 P0 q)) := by
  have C18 : Cal P w K mg base 1 "load_marks" (spF K pre18) := cal_mk (ps := []) T.d18 (fun G => ok18 (k := 0) G T.g_STATES_marks T.g_COLOURS T.g_LOAD) fun _ _ _ _ _ _ us hl => match us, hl with | [], _ => rfl
  have C19 : Cal P w K mg base 1 "can_be_shaded" (spD K pre19) := cal_mk (ps := ["holder", "old", "new", "who"]) T.d19 (fun G => ok19 (k := 0) G T.g_HOLDER T.g_GREY_marks T.g_OLD T.g_WHITE_marks) fun _ _ _ _ _ _ us hl => match us, hl with | [_, _, _, _], _ => rfl
  have C23 : Cal P w K mg base 1 "is_by" (spD K pre23) := cal_mk (ps := ["mark", "who", "state"]) T.d23 (fun G => ok23 (k := 0) G T.g_STORE) fun _ _ _ _ _ _ us hl => match us, hl with | [_, _, _], _ => rfl
  have C34 : Cal P w K mg base 1 "check_word" (spD K pre34) := cal_mk (ps := ["word"]) T.d34 (fun G => ok34 (k := 0) G T.g_PROPERTIES T.z_isinstance T.z_str) fun _ _ _ _ _ _ us hl => match us, hl with | [_], _ => rfl
  have C59 : Cal P w K mg base 1 "ways_to_break" (spD K pre59) := cal_mk (ps := ["rescans", "word"]) T.d59 (fun G => ok59 (k := 0) G T.g_SAFE_judging T.sw T.wy) fun _ _ _ _ _ _ us hl => match us, hl with | [_, _], _ => rfl
  have C60 : Cal P w K mg base 1 "marks_into_black" (spD K pre60) := cal_mk (ps := ["state", "old"]) T.d60 (fun G => ok60 (k := 0) G T.g_BLACK_judging T.g_WHITE_judging T.z_tuple) fun _ _ _ _ _ _ us hl => match us, hl with | [_, _], _ => rfl
  have C61 : Cal P w K mg base 1 "cuts" (spD K pre61) := cal_mk (ps := ["holder"]) T.d61 (fun G => ok61 (k := 0) G T.g_STATES_judging T.g_NEW_VALUES T.g_WHITE_judging T.z_tuple) fun _ _ _ _ _ _ us hl => match us, hl with | [_], _ => rfl
  have C63 : Cal P w K mg base 1 "known_marks" (spD K (pre63 P w)) := cal_mk (ps := ["table"]) T.d63 (fun G => ok63 (k := 0) G) fun _ _ _ _ _ _ us hl => match us, hl with | [_], _ => rfl
  have C72 : Cal P w K mg base 1 "choices" (spD K pre72) := cal_mk (ps := ["gaps"]) T.d72 (fun G => ok72 (k := 0) G) fun _ _ _ _ _ _ us hl => match us, hl with | [_], _ => rfl
  have C76 : Cal P w K mg base 1 "_law_take" (spN K pre76) := cal_mk (ps := ["_law_pot_here", "_law_many"]) T.d76 (fun G => ok76 (k := 0) G) fun _ _ _ _ _ _ us hl => match us, hl with | [_, _], _ => rfl
  have C77 : Cal P w K mg base 1 "_law_ended" (spD K pre77) := cal_mk (ps := ["_law_again", "_law_here"]) T.d77 (fun G => ok77 (k := 0) G T.z_all T.z_list T.z_any) fun _ _ _ _ _ _ us hl => match us, hl with | [_, _], _ => rfl
  have C79 : Cal P w K mg base 1 "_law_colour" (spD K pre79) := cal_mk (ps := ["_law_here", "_law_number"]) T.d79 (fun G => ok79 (k := 0) G) fun _ _ _ _ _ _ us hl => match us, hl with | [_, _], _ => rfl
  have C80 : Cal P w K mg base 1 "_law_shade" (spD K pre80) := cal_mk (ps := ["_law_colours", "_law_number", "_law_is_holder"]) T.d80 (fun G => ok80 (k := 0) G) fun _ _ _ _ _ _ us hl => match us, hl with | [_, _, _], _ => rfl
  have C82 : Cal P w K mg base 1 "_law_grey" (spD K pre82) := cal_mk (ps := ["_law_colours", "_law_numbers"]) T.d82 (fun G => ok82 (k := 0) G T.z_list T.z_tuple) fun _ _ _ _ _ _ us hl => match us, hl with | [_, _], _ => rfl
  have C83 : Cal P w K mg base 1 "_law_add" (spD K pre83) := cal_mk (ps := ["_law_held", "_law_thread", "_law_number"]) T.d83 (fun G => ok83 (k := 0) G T.z_list T.z_tuple T.z_sorted T.z_set) fun _ _ _ _ _ _ us hl => match us, hl with | [_, _, _], _ => rfl
  have C87 : Cal P w K mg base 1 "_law_reached" (spD K pre87) := cal_mk (ps := ["_law_slots", "_law_held"]) T.d87 (fun G => ok87 (k := 0) G T.z_list T.z_sorted T.z_set T.z_range T.z_len) fun _ _ _ _ _ _ us hl => match us, hl with | [_, _], _ => rfl
  have C88 : Cal P w K mg base 1 "_law_covered" (spD K pre88) := cal_mk (ps := ["_law_here"]) T.d88 (fun G => ok88 (k := 0) G T.z_sorted T.z_set T.z_range T.z_len T.z_enumerate) fun _ _ _ _ _ _ us hl => match us, hl with | [_], _ => rfl
  have C90 : Cal P w K mg base 1 "_law_groups" (spK K pre90) := cal_mk (ps := []) T.d90 (fun G => ok90 (k := 0) G) fun _ _ _ _ _ _ us hl => match us, hl with | [], _ => rfl
  have C91 : Cal P w K mg base 1 "_law_marks" (spD K pre91) := cal_mk (ps := []) T.d91 (fun G => ok91 (k := 0) G T.z_sorted T.z_int) fun _ _ _ _ _ _ us hl => match us, hl with | [], _ => rfl
  have C93 : Cal P w K mg base 1 "_law_pot" (spF K pre93) := cal_mk (ps := ["_law_script", "_law_k"]) T.d93 (fun G => ok93 (k := 0) G T.z_len T.z_abs T.z_int) fun _ _ _ _ _ _ us hl => match us, hl with | [_, _], _ => rfl
  have C20 : Cal P w K mg base 2 "store_marks" (spF K pre20) := cal_mk (ps := []) T.d20 (fun G => ok20 (k := 1) G C19 T.g_STATES_marks T.g_COLOURS T.g_NONE_marks T.g_HOLDER T.g_OLD T.g_NEW T.g_STORE) fun _ _ _ _ _ _ us hl => match us, hl with | [], _ => rfl
  have C24 : Cal P w K mg base 2 "is_known_by" (spD K pre24) := cal_mk (ps := ["word", "mark"]) T.d24 (fun G => ok24 (k := 1) G C23 T.g_NEW T.g_HOLDER T.g_BLACK_marks T.g_WHITE_marks T.g_LOAD T.g_UNSCANNED_marks T.g_OLD) fun _ _ _ _ _ _ us hl => match us, hl with | [_, _], _ => rfl
  have C62 : Cal P w K mg base 2 "marks_that_close" (spD K pre62) := cal_mk (ps := ["gap"]) T.d62 (fun G => ok62 (k := 1) G C60 C61 T.g_NEW_WHITE T.g_SCANNED_judging T.g_LOAD_GREY T.g_LOAD_WHITE T.g_LOAD_BLACK T.g_OVER_WHITE T.g_UNSCANNED_judging T.g_WHITE_judging T.g_BY_SCANNED T.g_OLD_VALUES T.hC T.hG T.hW T.z_tuple T.z_len) fun _ _ _ _ _ _ us hl => match us, hl with | [_], _ => rfl
  have C66 : Cal P w K mg base 2 "breaks" (spD K pre66) := cal_mk (ps := ["gaps", "rescans", "word"]) T.d66 (fun G => ok66 (k := 1) G C59 T.z_any T.z_all) fun _ _ _ _ _ _ us hl => match us, hl with | [_, _, _], _ => rfl
  have C78 : Cal P w K mg base 2 "_law_steps" (spF K pre78) := cal_mk (ps := ["_law_again", "_law_here"]) T.d78 (fun G => ok78 (k := 1) G C77 T.z_enumerate T.z_int T.z_len T.z_range) fun _ _ _ _ _ _ us hl => match us, hl with | [_, _], _ => rfl
  have C81 : Cal P w K mg base 2 "_law_stored" (spD K pre81) := cal_mk (ps := ["_law_marks_here", "_law_here", "_law_step"]) T.d81 (fun G => ok81 (k := 1) G C79 C80) fun _ _ _ _ _ _ us hl => match us, hl with | [_, _, _], _ => rfl
  have C85 : Cal P w K mg base 2 "_law_of" (spN K pre85) := cal_mk (ps := ["_law_pot_here", "_law_some"]) T.d85 (fun G => ok85 (k := 1) G C76 T.z_len) fun _ _ _ _ _ _ us hl => match us, hl with | [_, _], _ => rfl
  have C89 : Cal P w K mg base 2 "_law_has" (spD K pre89) := cal_mk (ps := ["_law_again", "_law_here", "_law_term"]) T.d89 (fun G => ok89 (k := 1) G C77 C87 C88 T.z_any T.z_all T.z_zip T.z_list T.z_enumerate) fun _ _ _ _ _ _ us hl => match us, hl with | [_, _, _], _ => rfl
  have C21 : Cal P w K mg base 3 "all_marks" (spD K pre21) := cal_mk (ps := []) T.d21 (fun G => ok21 (k := 2) G (C18.mono (by decide)) C20 T.g_STATES_marks T.g_NEW T.z_tuple T.z_sorted) fun _ _ _ _ _ _ us hl => match us, hl with | [], _ => rfl
  have C64 : Cal P w K mg base 3 "open_marks" (spF K (pre64 P w)) := cal_mk (ps := ["known", "gap"]) T.d64 (fun G => ok64 (k := 2) G C62 T.z_any) fun _ _ _ _ _ _ us hl => match us, hl with | [_, _], _ => rfl
  have C84 : Cal P w K mg base 3 "_law_next" (spD K pre84) := cal_mk (ps := ["_law_marks_here", "_law_here", "_law_step"]) T.d84 (fun G => ok84 (k := 2) G C81 (C82.mono (by decide)) (C83.mono (by decide)) T.z_tuple T.z_len) fun _ _ _ _ _ _ us hl => match us, hl with | [_, _, _], _ => rfl
  have C86 : Cal P w K mg base 3 "_law_heap" (spN K pre86) := cal_mk (ps := ["_law_pot_here", "_law_objects", "_law_threads"]) T.d86 (fun G => ok86 (k := 2) G (C76.mono (by decide)) C85 T.z_range T.z_list T.z_tuple) fun _ _ _ _ _ _ us hl => match us, hl with | [_, _, _], _ => rfl
  have C92 : Cal P w K mg base 3 "_law_table" (spN K pre92) := cal_mk (ps := ["_law_pot_here"]) T.d92 (fun G => ok92 (k := 2) G (C76.mono (by decide)) C85 (C90.mono (by decide)) (C91.mono (by decide)) T.z_sorted T.z_len T.z_range T.z_tuple T.z_set) fun _ _ _ _ _ _ us hl => match us, hl with | [_], _ => rfl
  have C25 : Cal P w K mg base 4 "known_table" (spD K pre25) := cal_mk (ps := ["word"]) T.d25 (fun G => ok25 (k := 3) G C21 (C24.mono (by decide)) T.z_isinstance T.z_str T.z_tuple) fun _ _ _ _ _ _ us hl => match us, hl with | [_], _ => rfl
  have C65 : Cal P w K mg base 4 "gaps_of" (spK K pre65) := cal_mk (ps := ["table"]) T.d65 (fun G => ok65 (k := 3) G (C63.mono (by decide)) C64 T.g_GAPS) fun _ _ _ _ _ _ us hl => match us, hl with | [_], _ => rfl
  have C70 : Cal P w K mg base 4 "cheapest_of" (spN K (pre70 P w P0 q)) := by
    obtain ⟨f, fd, F, m, hc⟩ := T.d70.ex
    exact ⟨f, fd, ["some", "known"], ok70 (k := 0) F TB hc hq T.z_min, m, F.kp, F.binds fun _ _ _ _ _ _ us hl => match us, hl with | [_, _], _ => rfl⟩
  have C94 : Cal P w K mg base 4 "_law_tour" (spN K pre94) := cal_mk (ps := ["_law_pot_here", "_law_grid", "_law_place"]) T.d94 (fun G => ok94 (k := 3) G (C76.mono (by decide)) (C85.mono (by decide)) (C78.mono (by decide)) C84 T.z_range T.z_len) fun _ _ _ _ _ _ us hl => match us, hl with | [_, _, _], _ => rfl
  have C67 : Cal P w K mg base 5 "holds" (spD K pre67) := cal_mk (ps := ["table", "word"]) T.d67 (fun G => ok67 (k := 4) G (C34.mono (by decide)) C65 (C66.mono (by decide))) fun _ _ _ _ _ _ us hl => match us, hl with | [_, _], _ => rfl
  have C71 : Cal P w K mg base 5 "closings" (spN K (pre71 P w P0 q)) := cal_mk (ps := ["table", "known"]) T.d71 (fun G => ok71 (k := 4) G (C62.mono (by decide)) C70 T.g_GAPS T.z_any) fun _ _ _ _ _ _ us hl => match us, hl with | [_, _], _ => rfl
  have C22 : CalR P w K mg base 6 "joined" (spD K pre22) := by
    obtain ⟨f, fd, F, m⟩ := T.d22.ex
    exact ⟨f, ok22 (k := 5) F T.z_sorted T.z_set T.z_tuple T.z_any, m, F.kp⟩
  have C68 : Cal P w K mg base 6 "properties_of" (spD K pre68) := cal_mk (ps := ["table"]) T.d68 (fun G => ok68 (k := 5) G C67 T.g_PROPERTIES T.z_tuple) fun _ _ _ _ _ _ us hl => match us, hl with | [_], _ => rfl
  have C73 : Cal P w K mg base 6 "additions" (spN K (pre73 P0 q)) := cal_mk (ps := ["table", "price_list"]) T.d73 (fun G => ok73 (k := 5) G C71 (C65.mono (by decide)) (C72.mono (by decide)) T.z_dict) fun _ _ _ _ _ _ us hl => match us, hl with | [_, _], _ => rfl
  have C74 : Cal P w K mg base 7 "cheapest" (spN K (pre74 P0 q)) := cal_mk (ps := ["table", "price_list", "word"]) T.d74 (fun G => ok74 (k := 6) G (C34.mono (by decide)) (C65.mono (by decide)) C73 (C66.mono (by decide)) C22 T.z_dict T.z_sum T.z_tuple T.z_sorted) fun _ _ _ _ _ _ us hl => match us, hl with | [_, _, _], _ => rfl
  have C95 : Cal P w K mg base 7 "_law_tour_right" (spN K pre95) := cal_mk (ps := ["_law_pot_here", "_law_grid"]) T.d95 (fun G => ok95 (k := 6) G (C86.mono (by decide)) (C87.mono (by decide)) C68 (C94.mono (by decide)) (C89.mono (by decide)) T.z_range T.z_len T.z_all) fun _ _ _ _ _ _ us hl => match us, hl with | [_, _], _ => rfl
  have C96 : Cal P w K mg base 8 "_law_right" (spN K (pre96 P0 q)) := cal_mk (ps := ["_law_pot_here"]) T.d96 (fun G => ok96 (k := 7) mathOk G (C76.mono (by decide)) (C85.mono (by decide)) (C21.mono (by decide)) (C92.mono (by decide)) C74 (C67.mono (by decide)) C95 (C25.mono (by decide)) (C68.mono (by decide)) T.z_tuple) fun _ _ _ _ _ _ us hl => match us, hl with | [_], _ => rfl
  exact ok97 (k := 8) F C96 (C93.mono (by decide)) T.z_range T.z_max T.z_min T.z_len
end
set_option maxRecDepth 100000
set_option maxHeartbeats 4000000
/-! ### the law's end -/
def noList (K : PySem.W.Frag) : Bool := K.all fun p => match p.2.cls with
  | .type T => !(T == "list")
  | _ => true
theorem mem_look {β : Type} {a : Nat} {b : β} : ∀ {l : List (Nat × β)}, l.lookup a = some b → (a, b) ∈ l
  | [], h => by cases h
  | (c, d) :: l, h => by
    rw [List.lookup_cons] at h
    cases q : a == c with
    | true =>
      rw [q] at h
      cases h
      rw [eq_of_beq q]; exact List.mem_cons_self
    | false =>
      rw [q] at h
      exact List.mem_cons_of_mem _ (mem_look h)
theorem noList_look {K : PySem.W.Frag} (h : noList K = true) {a : Addr} {o : Obj} (l : K.lookup a = some o) : o.cls ≠ .type "list" := fun e => by
  have hm : (a, o) ∈ K := mem_look l
  have := List.all_eq_true.mp h _ hm
  rw [e] at this
  simp at this
theorem law_at {l : PySem.W.OpenLaw} {w : World} {K : PySem.W.Frag} {mg : Str → Option Value} {f co P0 : Addr} {fd : FuncData} {h : Heap} (T : Tops K w mg co) (F : Fun K "law" "law" (topS 97) f fd) (KX : K.In h) (hT : h.get? P0 = some { cls := .none, data := .fields #[] })
    (nT : K.lookup P0 = none) (C : PySem.W.CodeHd h co P0) (nl : noList K = true) : LamX.LawAtS l w K CX0 9 63 "_law_script" mg f h := by
  refine ⟨fd, [(co, P0)], spN K (pre97 P0 (("cheapest_of.<locals>." : Str) ++ "<lambda>")), fun p hp => ?_, fun p hp => ?_, fun p hp => ?_, fun s u => ?_, fun H a ns hl hb hP hS => ?_, fun base KB GB TB => ?_⟩
  · rw [List.mem_singleton.mp hp]; exact hT
  · rw [List.mem_singleton.mp hp]; exact nT
  · rw [List.mem_singleton.mp hp]; exact C
  · obtain ⟨oc, od, kV, doc, pm, an, cdv, ct, osl, rfl, _, _⟩ := F.ex
    exact .of_eq rfl
  · have hPt := hP (co, P0) (List.mem_singleton.mpr rfl)
    have hz : ∃ o, H a = some (scU o ns) := by
      rcases hS with (hS | ⟨o, hS⟩) | hS
      · exact ⟨none, hS⟩
      · exact ⟨some o, hS⟩
      · obtain ⟨o, its, n, h1, h2, _⟩ := hS
        exact absurd h2 (noList_look nl h1)
    obtain ⟨o, ha⟩ := hz
    have hne : a ≠ P0 := fun e => by
      rw [e, hPt] at ha
      cases o <;> cases ha
    refine ⟨tabR P0 _, [P0], [scD o ns], 0, _, 0, ⟨o, ns, rfl, rfl, rfl, rfl⟩, by decide, fun b hb => ?_, fun b hb => hb, LamX.TabS.nil hPt, .cons (.dm (rows := []) (hid_of ha (by simpa using hne)) rfl fun p hp => by simp at hp) .nil, fun d v H' _ _ hd hi => ?_⟩
    · rw [List.mem_singleton.mp hb, hPt]; simp
    · rw [hd] at hi
      exact is_bl hi
  · exact law_chain T (TB (co, P0) (List.mem_singleton.mpr rfl)) rfl F
end SB
open PySem PySem.W PyProof.Rows
set_option maxHeartbeats 0 in
theorem PySem.Challenge.cw_shadebarriers_k90_whole_safe_tables_run_holds : PySem.Challenge.rw_shadebarriers_k90_whole_safe_tables_run.Holds := by
  refine hdtop ?_
  k_fill
  refine LamX.walk_ofTs (l := PySem.Challenge.rw_shadebarriers_k90_whole_safe_tables_run) (n := 63) (k := 9) (x := "_law_script") (K := hdtop.heap_39) (CX := fun _ => L2.CX0) rfl (by decide) rfl ⟨rfl, by decide, by decide⟩ (fun w h Y => PySem.W.km_in_of Y) ?F (fun _ _ _ _ _ h => h)
  case F =>
    intro w mg fa h Y KX G hmg
    have hT : h.get? 257 = some { cls := .none, data := .fields #[] } := PySem.W.km_tabs_of Y 257 (by simp)
    have hmg' : mg "law" = some (.ref fa) := hmg
    clear hmg Y
    have T : SB.Tops (hdtop.heap_39 w.params) w mg 259 := by
      refine' SB.Tops.mk ?z_tuple ?z_sorted ?z_set ?z_any ?z_isinstance ?z_str ?z_len ?z_all ?z_min ?z_dict ?z_sum ?z_list ?z_enumerate ?z_int ?z_range ?z_zip ?z_abs ?z_max ?g_STATES_marks ?g_COLOURS ?g_LOAD ?g_HOLDER ?g_GREY_marks ?g_OLD ?g_WHITE_marks ?g_NONE_marks ?g_NEW ?g_STORE ?g_BLACK_marks ?g_UNSCANNED_marks ?g_PROPERTIES ?g_SAFE_judging ?g_BLACK_judging ?g_WHITE_judging ?g_STATES_judging ?g_NEW_VALUES ?g_NEW_WHITE ?g_SCANNED_judging ?g_LOAD_GREY ?g_LOAD_WHITE ?g_LOAD_BLACK ?g_OVER_WHITE ?g_UNSCANNED_judging ?g_BY_SCANNED ?g_OLD_VALUES ?g_GAPS ?sw ?wy ?hC ?hG ?hW ?d18 ?d19 ?d20 ?d21 ?d22 ?d23 ?d24 ?d25 ?d34 ?d59 ?d60 ?d61 ?d62 ?d63 ?d64 ?d65 ?d66 ?d67 ?d68 ?d70 ?d71 ?d72 ?d73 ?d74 ?d76 ?d77 ?d78 ?d79 ?d80 ?d81 ?d82 ?d83 ?d84 ?d85 ?d86 ?d87 ?d88 ?d89 ?d90 ?d91 ?d92 ?d93 ?d94 ?d95 ?d96 ?d97
      case z_tuple => (refine' PySem.W.mg_none_of KX G ?a_0; k_is)
      case z_sorted => (refine' PySem.W.mg_none_of KX G ?a_1; k_is)
      case z_set => (refine' PySem.W.mg_none_of KX G ?a_2; k_is)
      case z_any => (refine' PySem.W.mg_none_of KX G ?a_3; k_is)
      case z_isinstance => (refine' PySem.W.mg_none_of KX G ?a_4; k_is)
      case z_str => (refine' PySem.W.mg_none_of KX G ?a_5; k_is)
      case z_len => (refine' PySem.W.mg_none_of KX G ?a_6; k_is)
      case z_all => (refine' PySem.W.mg_none_of KX G ?a_7; k_is)
      case z_min => (refine' PySem.W.mg_none_of KX G ?a_8; k_is)
      case z_dict => (refine' PySem.W.mg_none_of KX G ?a_9; k_is)
      case z_sum => (refine' PySem.W.mg_none_of KX G ?a_10; k_is)
      case z_list => (refine' PySem.W.mg_none_of KX G ?a_11; k_is)
      case z_enumerate => (refine' PySem.W.mg_none_of KX G ?a_12; k_is)
      case z_int => (refine' PySem.W.mg_none_of KX G ?a_13; k_is)
      case z_range => (refine' PySem.W.mg_none_of KX G ?a_14; k_is)
      case z_zip => (refine' PySem.W.mg_none_of KX G ?a_15; k_is)
      case z_abs => (refine' PySem.W.mg_none_of KX G ?a_16; k_is)
      case z_max => (refine' PySem.W.mg_none_of KX G ?a_17; k_is)
      case g_STATES_marks => (refine' SB.gc_mk KX G ?a_18 ?r_18; (case a_18 => k_is); (case r_18 => kernel_rfl))
      case g_COLOURS => (refine' SB.gc_mk KX G ?a_19 ?r_19; (case a_19 => k_is); (case r_19 => kernel_rfl))
      case g_LOAD => (refine' SB.gc_mk KX G ?a_20 ?r_20; (case a_20 => k_is); (case r_20 => kernel_rfl))
      case g_HOLDER => (refine' SB.gc_mk KX G ?a_21 ?r_21; (case a_21 => k_is); (case r_21 => kernel_rfl))
      case g_GREY_marks => (refine' SB.gc_mk KX G ?a_22 ?r_22; (case a_22 => k_is); (case r_22 => kernel_rfl))
      case g_OLD => (refine' SB.gc_mk KX G ?a_23 ?r_23; (case a_23 => k_is); (case r_23 => kernel_rfl))
      case g_WHITE_marks => (refine' SB.gc_mk KX G ?a_24 ?r_24; (case a_24 => k_is); (case r_24 => kernel_rfl))
      case g_NONE_marks => (refine' SB.gc_mk KX G ?a_25 ?r_25; (case a_25 => k_is); (case r_25 => kernel_rfl))
      case g_NEW => (refine' SB.gc_mk KX G ?a_26 ?r_26; (case a_26 => k_is); (case r_26 => kernel_rfl))
      case g_STORE => (refine' SB.gc_mk KX G ?a_27 ?r_27; (case a_27 => k_is); (case r_27 => kernel_rfl))
      case g_BLACK_marks => (refine' SB.gc_mk KX G ?a_28 ?r_28; (case a_28 => k_is); (case r_28 => kernel_rfl))
      case g_UNSCANNED_marks => (refine' SB.gc_mk KX G ?a_29 ?r_29; (case a_29 => k_is); (case r_29 => kernel_rfl))
      case g_PROPERTIES => (refine' SB.gc_mk KX G ?a_30 ?r_30; (case a_30 => k_is); (case r_30 => kernel_rfl))
      case g_SAFE_judging => (refine' SB.gc_mk KX G ?a_31 ?r_31; (case a_31 => k_is); (case r_31 => kernel_rfl))
      case g_BLACK_judging => (refine' SB.gc_mk KX G ?a_32 ?r_32; (case a_32 => k_is); (case r_32 => kernel_rfl))
      case g_WHITE_judging => (refine' SB.gc_mk KX G ?a_33 ?r_33; (case a_33 => k_is); (case r_33 => kernel_rfl))
      case g_STATES_judging => (refine' SB.gc_mk KX G ?a_34 ?r_34; (case a_34 => k_is); (case r_34 => kernel_rfl))
      case g_NEW_VALUES => (refine' SB.gc_mk KX G ?a_35 ?r_35; (case a_35 => k_is); (case r_35 => kernel_rfl))
      case g_NEW_WHITE => (refine' SB.gc_mk KX G ?a_36 ?r_36; (case a_36 => k_is); (case r_36 => kernel_rfl))
      case g_SCANNED_judging => (refine' SB.gc_mk KX G ?a_37 ?r_37; (case a_37 => k_is); (case r_37 => kernel_rfl))
      case g_LOAD_GREY => (refine' SB.gc_mk KX G ?a_38 ?r_38; (case a_38 => k_is); (case r_38 => kernel_rfl))
      case g_LOAD_WHITE => (refine' SB.gc_mk KX G ?a_39 ?r_39; (case a_39 => k_is); (case r_39 => kernel_rfl))
      case g_LOAD_BLACK => (refine' SB.gc_mk KX G ?a_40 ?r_40; (case a_40 => k_is); (case r_40 => kernel_rfl))
      case g_OVER_WHITE => (refine' SB.gc_mk KX G ?a_41 ?r_41; (case a_41 => k_is); (case r_41 => kernel_rfl))
      case g_UNSCANNED_judging => (refine' SB.gc_mk KX G ?a_42 ?r_42; (case a_42 => k_is); (case r_42 => kernel_rfl))
      case g_BY_SCANNED => (refine' SB.gc_mk KX G ?a_43 ?r_43; (case a_43 => k_is); (case r_43 => kernel_rfl))
      case g_OLD_VALUES => (refine' SB.gc_mk KX G ?a_44 ?r_44; (case a_44 => k_is); (case r_44 => kernel_rfl))
      case g_GAPS => (refine' SB.gc_mk KX G ?a_45 ?r_45; (case a_45 => k_is); (case r_45 => kernel_rfl))
      case sw =>
        intro b
        cases b with
        | false =>
          refine' SB.gdb_mk KX G ?m_46 ?l_46 ?he_46 ?hf_46 ?r_46
          (case m_46 => k_is); (case l_46 => k_is)
          case hf_46 => exact rfl
          case he_46 =>
            intro e he
            simp only [List.mem_toArray, List.mem_cons, List.not_mem_nil, or_false] at he
            rcases he with he | he <;> (subst he; exact ⟨_, rfl, rfl⟩)
          case r_46 => kernel_rfl
        | true =>
          refine' SB.gdb_mk KX G ?m_47 ?l_47 ?he_47 ?hf_47 ?r_47
          (case m_47 => k_is); (case l_47 => k_is)
          case hf_47 => exact rfl
          case he_47 =>
            intro e he
            simp only [List.mem_toArray, List.mem_cons, List.not_mem_nil, or_false] at he
            rcases he with he | he <;> (subst he; exact ⟨_, rfl, rfl⟩)
          case r_47 => kernel_rfl
      case wy =>
        intro t ht
        cases t with
        | safe => exact absurd rfl ht
        | clean =>
          show SB.GDs _ w mg "WAYS" "clean" _
          refine' SB.gds_mk KX G ?m_48 ?l_48 ?kl_48 ?e_48 ?r_48
          (case m_48 => k_is); (case l_48 => k_is); (case kl_48 => k_keys); (case e_48 => k_is); (case r_48 => kernel_rfl)
        | covered =>
          show SB.GDs _ w mg "WAYS" "covered" _
          refine' SB.gds_mk KX G ?m_49 ?l_49 ?kl_49 ?e_49 ?r_49
          (case m_49 => k_is); (case l_49 => k_is); (case kl_49 => k_keys); (case e_49 => k_is); (case r_49 => kernel_rfl)
        | direct =>
          show SB.GDs _ w mg "WAYS" "direct" _
          refine' SB.gds_mk KX G ?m_50 ?l_50 ?kl_50 ?e_50 ?r_50
          (case m_50 => k_is); (case l_50 => k_is); (case kl_50 => k_keys); (case e_50 => k_is); (case r_50 => kernel_rfl)
        | strong =>
          show SB.GDs _ w mg "WAYS" "strong" _
          refine' SB.gds_mk KX G ?m_51 ?l_51 ?kl_51 ?e_51 ?r_51
          (case m_51 => k_is); (case l_51 => k_is); (case kl_51 => k_keys); (case e_51 => k_is); (case r_51 => kernel_rfl)
        | weak =>
          show SB.GDs _ w mg "WAYS" "weak" _
          refine' SB.gds_mk KX G ?m_52 ?l_52 ?kl_52 ?e_52 ?r_52
          (case m_52 => k_is); (case l_52 => k_is); (case kl_52 => k_keys); (case e_52 => k_is); (case r_52 => kernel_rfl)
      case hC =>
        intro g
        cases g with
        | newWhite =>
          show SB.GDi _ w mg "HOLDER_OF_CUT" "new_white" _
          refine' SB.gdi_mk KX G ?m_53 ?l_53 ?kl_53 ?hs_53 ?e_53 ?hb_53
          (case m_53 => k_is); (case l_53 => k_is); (case kl_53 => k_keys); (case hs_53 => rfl); (case e_53 => k_is); (case hb_53 => rfl)
        | loadGrey =>
          show SB.GDi _ w mg "HOLDER_OF_CUT" "load_grey" _
          refine' SB.gdi_mk KX G ?m_54 ?l_54 ?kl_54 ?hs_54 ?e_54 ?hb_54
          (case m_54 => k_is); (case l_54 => k_is); (case kl_54 => k_keys); (case hs_54 => rfl); (case e_54 => k_is); (case hb_54 => rfl)
        | loadWhite =>
          show SB.GDi _ w mg "HOLDER_OF_CUT" "load_white" _
          refine' SB.gdi_mk KX G ?m_55 ?l_55 ?kl_55 ?hs_55 ?e_55 ?hb_55
          (case m_55 => k_is); (case l_55 => k_is); (case kl_55 => k_keys); (case hs_55 => rfl); (case e_55 => k_is); (case hb_55 => rfl)
        | loadBlack =>
          show SB.GDi _ w mg "HOLDER_OF_CUT" "load_black" _
          refine' SB.gdi_mk KX G ?m_56 ?l_56 ?kl_56 ?hs_56 ?e_56 ?hb_56
          (case m_56 => k_is); (case l_56 => k_is); (case kl_56 => k_keys); (case hs_56 => rfl); (case e_56 => k_is); (case hb_56 => rfl)
        | byUn =>
          show SB.GDi _ w mg "HOLDER_OF_CUT" "by_unscanned" _
          refine' SB.gdi_mk KX G ?m_57 ?l_57 ?kl_57 ?hs_57 ?e_57 ?hb_57
          (case m_57 => k_is); (case l_57 => k_is); (case kl_57 => k_keys); (case hs_57 => rfl); (case e_57 => k_is); (case hb_57 => rfl)
        | overWhite =>
          show SB.GDi _ w mg "HOLDER_OF_CUT" "by_unscanned_over_white" _
          refine' SB.gdi_mk KX G ?m_58 ?l_58 ?kl_58 ?hs_58 ?e_58 ?hb_58
          (case m_58 => k_is); (case l_58 => k_is); (case kl_58 => k_keys); (case hs_58 => rfl); (case e_58 => k_is); (case hb_58 => rfl)
        | bySc =>
          show SB.GDi _ w mg "HOLDER_OF_CUT" "by_scanned" _
          refine' SB.gdi_mk KX G ?m_59 ?l_59 ?kl_59 ?hs_59 ?e_59 ?hb_59
          (case m_59 => k_is); (case l_59 => k_is); (case kl_59 => k_keys); (case hs_59 => rfl); (case e_59 => k_is); (case hb_59 => rfl)
        | cutGrey =>
          show SB.GDi _ w mg "HOLDER_OF_CUT" "cut_grey" _
          refine' SB.gdi_mk KX G ?m_60 ?l_60 ?kl_60 ?hs_60 ?e_60 ?hb_60
          (case m_60 => k_is); (case l_60 => k_is); (case kl_60 => k_keys); (case hs_60 => rfl); (case e_60 => k_is); (case hb_60 => rfl)
        | cutWhite =>
          show SB.GDi _ w mg "HOLDER_OF_CUT" "cut_white" _
          refine' SB.gdi_mk KX G ?m_61 ?l_61 ?kl_61 ?hs_61 ?e_61 ?hb_61
          (case m_61 => k_is); (case l_61 => k_is); (case kl_61 => k_keys); (case hs_61 => rfl); (case e_61 => k_is); (case hb_61 => rfl)
      case hG =>
        show SB.GDs _ w mg "HOLDER_OF_CUT" "cut_grey" _
        refine' SB.gds_mk KX G ?m_62 ?l_62 ?kl_62 ?e_62 ?r_62
        (case m_62 => k_is); (case l_62 => k_is); (case kl_62 => k_keys); (case e_62 => k_is); (case r_62 => kernel_rfl)
      case hW =>
        show SB.GDs _ w mg "HOLDER_OF_CUT" "cut_white" _
        refine' SB.gds_mk KX G ?m_63 ?l_63 ?kl_63 ?e_63 ?r_63
        (case m_63 => k_is); (case l_63 => k_is); (case kl_63 => k_keys); (case e_63 => k_is); (case r_63 => kernel_rfl)
      case d18 => (refine' SB.defAt_mk KX G ?a_64 ?l_64 ?c_64 ?k_64; (case a_64 => k_is); (case l_64 => k_is); (case c_64 => k_is); (case k_64 => k_is))
      case d19 => (refine' SB.defAt_mk KX G ?a_65 ?l_65 ?c_65 ?k_65; (case a_65 => k_is); (case l_65 => k_is); (case c_65 => k_is); (case k_65 => k_is))
      case d20 => (refine' SB.defAt_mk KX G ?a_66 ?l_66 ?c_66 ?k_66; (case a_66 => k_is); (case l_66 => k_is); (case c_66 => k_is); (case k_66 => k_is))
      case d21 => (refine' SB.defAt_mk KX G ?a_67 ?l_67 ?c_67 ?k_67; (case a_67 => k_is); (case l_67 => k_is); (case c_67 => k_is); (case k_67 => k_is))
      case d22 => (refine' SB.defAt_mk KX G ?a_68 ?l_68 ?c_68 ?k_68; (case a_68 => k_is); (case l_68 => k_is); (case c_68 => k_is); (case k_68 => k_is))
      case d23 => (refine' SB.defAt_mk KX G ?a_69 ?l_69 ?c_69 ?k_69; (case a_69 => k_is); (case l_69 => k_is); (case c_69 => k_is); (case k_69 => k_is))
      case d24 => (refine' SB.defAt_mk KX G ?a_70 ?l_70 ?c_70 ?k_70; (case a_70 => k_is); (case l_70 => k_is); (case c_70 => k_is); (case k_70 => k_is))
      case d25 => (refine' SB.defAt_mk KX G ?a_71 ?l_71 ?c_71 ?k_71; (case a_71 => k_is); (case l_71 => k_is); (case c_71 => k_is); (case k_71 => k_is))
      case d34 => (refine' SB.defAt_mk KX G ?a_72 ?l_72 ?c_72 ?k_72; (case a_72 => k_is); (case l_72 => k_is); (case c_72 => k_is); (case k_72 => k_is))
      case d59 => (refine' SB.defAt_mk KX G ?a_73 ?l_73 ?c_73 ?k_73; (case a_73 => k_is); (case l_73 => k_is); (case c_73 => k_is); (case k_73 => k_is))
      case d60 => (refine' SB.defAt_mk KX G ?a_74 ?l_74 ?c_74 ?k_74; (case a_74 => k_is); (case l_74 => k_is); (case c_74 => k_is); (case k_74 => k_is))
      case d61 => (refine' SB.defAt_mk KX G ?a_75 ?l_75 ?c_75 ?k_75; (case a_75 => k_is); (case l_75 => k_is); (case c_75 => k_is); (case k_75 => k_is))
      case d62 => (refine' SB.defAt_mk KX G ?a_76 ?l_76 ?c_76 ?k_76; (case a_76 => k_is); (case l_76 => k_is); (case c_76 => k_is); (case k_76 => k_is))
      case d63 => (refine' SB.defAt_mk KX G ?a_77 ?l_77 ?c_77 ?k_77; (case a_77 => k_is); (case l_77 => k_is); (case c_77 => k_is); (case k_77 => k_is))
      case d64 => (refine' SB.defAt_mk KX G ?a_78 ?l_78 ?c_78 ?k_78; (case a_78 => k_is); (case l_78 => k_is); (case c_78 => k_is); (case k_78 => k_is))
      case d65 => (refine' SB.defAt_mk KX G ?a_79 ?l_79 ?c_79 ?k_79; (case a_79 => k_is); (case l_79 => k_is); (case c_79 => k_is); (case k_79 => k_is))
      case d66 => (refine' SB.defAt_mk KX G ?a_80 ?l_80 ?c_80 ?k_80; (case a_80 => k_is); (case l_80 => k_is); (case c_80 => k_is); (case k_80 => k_is))
      case d67 => (refine' SB.defAt_mk KX G ?a_81 ?l_81 ?c_81 ?k_81; (case a_81 => k_is); (case l_81 => k_is); (case c_81 => k_is); (case k_81 => k_is))
      case d68 => (refine' SB.defAt_mk KX G ?a_82 ?l_82 ?c_82 ?k_82; (case a_82 => k_is); (case l_82 => k_is); (case c_82 => k_is); (case k_82 => k_is))
      case d70 => (refine' SB.defC_mk KX G ?a_83 ?l_83 ?c_83 ?k_83; (case a_83 => k_is); (case l_83 => k_is); (case c_83 => k_is); (case k_83 => k_is))
      case d71 => (refine' SB.defAt_mk KX G ?a_84 ?l_84 ?c_84 ?k_84; (case a_84 => k_is); (case l_84 => k_is); (case c_84 => k_is); (case k_84 => k_is))
      case d72 => (refine' SB.defAt_mk KX G ?a_85 ?l_85 ?c_85 ?k_85; (case a_85 => k_is); (case l_85 => k_is); (case c_85 => k_is); (case k_85 => k_is))
      case d73 => (refine' SB.defAt_mk KX G ?a_86 ?l_86 ?c_86 ?k_86; (case a_86 => k_is); (case l_86 => k_is); (case c_86 => k_is); (case k_86 => k_is))
      case d74 => (refine' SB.defAt_mk KX G ?a_87 ?l_87 ?c_87 ?k_87; (case a_87 => k_is); (case l_87 => k_is); (case c_87 => k_is); (case k_87 => k_is))
      case d76 => (refine' SB.defAt_mk KX G ?a_88 ?l_88 ?c_88 ?k_88; (case a_88 => k_is); (case l_88 => k_is); (case c_88 => k_is); (case k_88 => k_is))
      case d77 => (refine' SB.defAt_mk KX G ?a_89 ?l_89 ?c_89 ?k_89; (case a_89 => k_is); (case l_89 => k_is); (case c_89 => k_is); (case k_89 => k_is))
      case d78 => (refine' SB.defAt_mk KX G ?a_90 ?l_90 ?c_90 ?k_90; (case a_90 => k_is); (case l_90 => k_is); (case c_90 => k_is); (case k_90 => k_is))
      case d79 => (refine' SB.defAt_mk KX G ?a_91 ?l_91 ?c_91 ?k_91; (case a_91 => k_is); (case l_91 => k_is); (case c_91 => k_is); (case k_91 => k_is))
      case d80 => (refine' SB.defAt_mk KX G ?a_92 ?l_92 ?c_92 ?k_92; (case a_92 => k_is); (case l_92 => k_is); (case c_92 => k_is); (case k_92 => k_is))
      case d81 => (refine' SB.defAt_mk KX G ?a_93 ?l_93 ?c_93 ?k_93; (case a_93 => k_is); (case l_93 => k_is); (case c_93 => k_is); (case k_93 => k_is))
      case d82 => (refine' SB.defAt_mk KX G ?a_94 ?l_94 ?c_94 ?k_94; (case a_94 => k_is); (case l_94 => k_is); (case c_94 => k_is); (case k_94 => k_is))
      case d83 => (refine' SB.defAt_mk KX G ?a_95 ?l_95 ?c_95 ?k_95; (case a_95 => k_is); (case l_95 => k_is); (case c_95 => k_is); (case k_95 => k_is))
      case d84 => (refine' SB.defAt_mk KX G ?a_96 ?l_96 ?c_96 ?k_96; (case a_96 => k_is); (case l_96 => k_is); (case c_96 => k_is); (case k_96 => k_is))
      case d85 => (refine' SB.defAt_mk KX G ?a_97 ?l_97 ?c_97 ?k_97; (case a_97 => k_is); (case l_97 => k_is); (case c_97 => k_is); (case k_97 => k_is))
      case d86 => (refine' SB.defAt_mk KX G ?a_98 ?l_98 ?c_98 ?k_98; (case a_98 => k_is); (case l_98 => k_is); (case c_98 => k_is); (case k_98 => k_is))
      case d87 => (refine' SB.defAt_mk KX G ?a_99 ?l_99 ?c_99 ?k_99; (case a_99 => k_is); (case l_99 => k_is); (case c_99 => k_is); (case k_99 => k_is))
      case d88 => (refine' SB.defAt_mk KX G ?a_100 ?l_100 ?c_100 ?k_100; (case a_100 => k_is); (case l_100 => k_is); (case c_100 => k_is); (case k_100 => k_is))
      case d89 => (refine' SB.defAt_mk KX G ?a_101 ?l_101 ?c_101 ?k_101; (case a_101 => k_is); (case l_101 => k_is); (case c_101 => k_is); (case k_101 => k_is))
      case d90 => (refine' SB.defAt_mk KX G ?a_102 ?l_102 ?c_102 ?k_102; (case a_102 => k_is); (case l_102 => k_is); (case c_102 => k_is); (case k_102 => k_is))
      case d91 => (refine' SB.defAt_mk KX G ?a_103 ?l_103 ?c_103 ?k_103; (case a_103 => k_is); (case l_103 => k_is); (case c_103 => k_is); (case k_103 => k_is))
      case d92 => (refine' SB.defAt_mk KX G ?a_104 ?l_104 ?c_104 ?k_104; (case a_104 => k_is); (case l_104 => k_is); (case c_104 => k_is); (case k_104 => k_is))
      case d93 => (refine' SB.defAt_mk KX G ?a_105 ?l_105 ?c_105 ?k_105; (case a_105 => k_is); (case l_105 => k_is); (case c_105 => k_is); (case k_105 => k_is))
      case d94 => (refine' SB.defAt_mk KX G ?a_106 ?l_106 ?c_106 ?k_106; (case a_106 => k_is); (case l_106 => k_is); (case c_106 => k_is); (case k_106 => k_is))
      case d95 => (refine' SB.defAt_mk KX G ?a_107 ?l_107 ?c_107 ?k_107; (case a_107 => k_is); (case l_107 => k_is); (case c_107 => k_is); (case k_107 => k_is))
      case d96 => (refine' SB.defAt_mk KX G ?a_108 ?l_108 ?c_108 ?k_108; (case a_108 => k_is); (case l_108 => k_is); (case c_108 => k_is); (case k_108 => k_is))
      case d97 => (refine' SB.defAt_mk KX G ?a_109 ?l_109 ?c_109 ?k_109; (case a_109 => k_is); (case l_109 => k_is); (case c_109 => k_is); (case k_109 => k_is))
    obtain ⟨f, fd, F, m⟩ := T.d97.ex
    have e : f = fa := by
      rw [m] at hmg'
      cases hmg'
      rfl
    subst e
    refine SB.law_at T F KX hT ?_ ?_ ?_
    · kernel_rfl
    · exact PySem.W.codeHd_of_K (c := 259) (P := 257) KX (by kernel_rfl)
    · kernel_rfl
