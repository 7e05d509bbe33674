import PyProof.Rows.All
import PySem.Challenge.RW_hangstogether_k61_whole_cloths_one_above
import Wide.All
import OpenK.AllK
import Wide.FinOn
import KE.KStateDown
import HandS.Base
import HandS.Call
import HandS.List
import HandS.Exc
import HandS.TupAny
import HandS.Deep
import HandS.Wide
import HandS.TupMul
import HandS.IsInst
import HandS.Conv
import PyProof.ReprRoads
import HandS.Style
import HandS.Iter
import HandS.Zip
import HandS.Comp
import HandS.ExcOwn
import HandS.ExcInit
import KE.KExcSuper
import HandS.ExcField
import HandS.TryMany
import KE.KExcIs
import PyProof.Draws
import PyProof.EnumMake
import HandS.TupLe
import HandS.Dict
import HandS.DictComp
import HandS.Ends
import HandS.More
import HandS.Defaults
import HandS.Head0
import HandS.Head1
import HandS.Head2
import HandS.HeadEnd
import HandS.HeadHook1
import HandS.HeadHook2
import Lean
import HandS.Words
import HandS.WordsExc
section
set_option Elab.async false
set_option linter.all false
set_option maxRecDepth 100000
set_option maxHeartbeats 1000000
/-! Mi0: values as trees, what represents them, what a step keeps -/
namespace Mi
open PySem PySem.Spec L2

/-- a value: tuples and lists that nobody changes are trees; obj n is a thing that may change -/
inductive T where
  | non | bl (b : Bool) | int (i : Int) | str (s : Str) | tup (l : List T) | lst (l : List T) | scr (l : List T) | obj (n : Nat)

/-- what may change -/
inductive MO where
  | lst (l : List T)
  | dic (t : Bool) (l : List (T × T))
  | dlk (t : Bool) (l : List (T × T))
abbrev Sto := List MO
mutual
/-- no obj in it -/
def T.pure : T → Bool
  | .obj _ => false
  | .scr _ => false
  | .tup l => T.pures l
  | .lst l => T.pures l
  | .non => true
  | .bl _ => true
  | .int _ => true
  | .str _ => true
def T.pures : List T → Bool
  | [] => true
  | t :: l => t.pure && T.pures l
end
abbrev Mp := Nat → Option Addr
/-- a is no changing thing's place -/
def Off (m : Mp) (a : Addr) : Prop := ∀ n, m n ≠ some a

mutual
inductive Rp (m : Mp) (H : Hp) : V → T → Prop
  | non : Rp m H .non .non
  | bl (b : Bool) : Rp m H (.bl b) (.bl b)
  | int (i : Int) : Rp m H (.int i) (.int i)
  | str (x : Str) : Rp m H (.str x) (.str x)
  | tup {a : Addr} {xs : List V} {ts : List T} : H a = some (.tup xs) → Off m a → RpL m H xs ts → Rp m H (.ref a) (.tup ts)
  | lst {a : Addr} {xs : List V} {ts : List T} : H a = some (.lst xs) → Off m a → RpL m H xs ts → Rp m H (.ref a) (.lst ts)
  | scr {a : Addr} {o : Obj} {xs : List V} {ts : List T} : H a = some (.frz o (.lst xs)) → Off m a → RpL m H xs ts → Rp m H (.ref a) (.scr ts)
  | obj {a : Addr} {n : Nat} : m n = some a → Rp m H (.ref a) (.obj n)
inductive RpL (m : Mp) (H : Hp) : List V → List T → Prop
  | nil : RpL m H [] []
  | cons {v : V} {vs : List V} {t : T} {ts : List T} : Rp m H v t → RpL m H vs ts → RpL m H (v :: vs) (t :: ts)
end

/-- what stays through a step: all that no obj stands for, and where the objs stand -/
structure Le (m : Mp) (H : Hp) (m' : Mp) (H' : Hp) : Prop where
  keep : ∀ a u, Off m a → H a = some u → H' a = some u ∧ Off m' a
  obj : ∀ n a, m n = some a → m' n = some a
  frz : ∀ a o u, H a = some (.frz o u) → H' a = some (.frz o u)
theorem Le.refl {m : Mp} {H : Hp} : Le m H m H := ⟨fun _ _ o h => ⟨h, o⟩, fun _ _ h => h, fun _ _ _ h => h⟩
theorem Le.trans {m m1 m2 : Mp} {H H1 H2 : Hp} (a : Le m H m1 H1) (b : Le m1 H1 m2 H2) : Le m H m2 H2 :=
  ⟨fun x u o h => b.keep x u (a.keep x u o h).2 (a.keep x u o h).1, fun n x h => b.obj n x (a.obj n x h), fun x o u h => b.frz x o u (a.frz x o u h)⟩
section
variable {m m' : Mp} {H H' : Hp}
mutual
theorem Rp.le (l : Le m H m' H') : ∀ {v : V} {t : T}, Rp m H v t → Rp m' H' v t
  | _, _, .non => .non
  | _, _, .bl b => .bl b
  | _, _, .int i => .int i
  | _, _, .str x => .str x
  | _, _, .tup h o r => .tup (l.keep _ _ o h).1 (l.keep _ _ o h).2 (RpL.le l r)
  | _, _, .lst h o r => .lst (l.keep _ _ o h).1 (l.keep _ _ o h).2 (RpL.le l r)
  | _, _, .scr h o r => .scr (l.keep _ _ o h).1 (l.keep _ _ o h).2 (RpL.le l r)
  | _, _, .obj h => .obj (l.obj _ _ h)
theorem RpL.le (l : Le m H m' H') : ∀ {vs : List V} {ts : List T}, RpL m H vs ts → RpL m' H' vs ts
  | _, _, .nil => .nil
  | _, _, .cons h r => .cons (Rp.le l h) (RpL.le l r)
end
end
theorem RpL.length {m : Mp} {H : Hp} : ∀ {vs : List V} {ts : List T}, RpL m H vs ts → vs.length = ts.length
  | _, _, .nil => rfl
  | _, _, .cons _ r => congrArg (· + 1) (RpL.length r)
theorem RpL.append {m : Mp} {H : Hp} : ∀ {vs ws : List V} {ts us : List T}, RpL m H vs ts → RpL m H ws us → RpL m H (vs ++ ws) (ts ++ us)
  | _, _, _, _, .nil, s => s
  | _, _, _, _, .cons h r, s => .cons h (RpL.append r s)
theorem RpL.get {m : Mp} {H : Hp} : ∀ {vs : List V} {ts : List T} {i : Nat} {t : T}, RpL m H vs ts → ts[i]? = some t → ∃ v, vs[i]? = some v ∧ Rp m H v t
  | _, _, _, _, .nil, e => by simp at e
  | _, _, 0, _, .cons h _, e => by simp at e; subst e; exact ⟨_, rfl, h⟩
  | _, _, i + 1, _, .cons _ r, e => by
    obtain ⟨v, h1, h2⟩ := RpL.get (i := i) r (by simpa using e)
    exact ⟨v, by simpa using h1, h2⟩
theorem RpL.get' {m : Mp} {H : Hp} {vs : List V} {ts : List T} {i : Nat} {v : V} (r : RpL m H vs ts) (e : vs[i]? = some v) : ∃ t, ts[i]? = some t ∧ Rp m H v t := by
  have hl := r.length
  have hi : i < ts.length := by rw [← hl]; exact (List.getElem?_eq_some_iff.mp e).1
  obtain ⟨w, h1, h2⟩ := r.get (i := i) (t := ts[i]) (by simp [hi])
  rw [e] at h1; cases h1
  exact ⟨_, by simp [hi], h2⟩
theorem RpL.take {m : Mp} {H : Hp} : ∀ {vs : List V} {ts : List T} (n : Nat), RpL m H vs ts → RpL m H (vs.take n) (ts.take n)
  | _, _, 0, _ => by simpa using RpL.nil
  | _, _, _ + 1, .nil => .nil
  | _, _, n + 1, .cons h r => .cons h (RpL.take n r)
theorem RpL.drop {m : Mp} {H : Hp} : ∀ {vs : List V} {ts : List T} (n : Nat), RpL m H vs ts → RpL m H (vs.drop n) (ts.drop n)
  | _, _, 0, r => by simpa using r
  | _, _, _ + 1, .nil => .nil
  | _, _, n + 1, .cons _ r => RpL.drop n r
theorem RpL.reverse {m : Mp} {H : Hp} : ∀ {vs : List V} {ts : List T}, RpL m H vs ts → RpL m H vs.reverse ts.reverse
  | _, _, .nil => .nil
  | _, _, .cons h r => by
    rw [List.reverse_cons, List.reverse_cons]
    exact (RpL.reverse r).append (.cons h .nil)
theorem RpL.set {m : Mp} {H : Hp} {v : V} {t : T} (h : Rp m H v t) : ∀ {vs : List V} {ts : List T} (i : Nat), RpL m H vs ts → RpL m H (vs.set i v) (ts.set i t)
  | _, _, _, .nil => .nil
  | _, _, 0, .cons _ r => .cons h r
  | _, _, i + 1, .cons q r => .cons q (RpL.set h i r)

/-- a dict's key -/
def keyT : Key → T
  | .inl i => .int i
  | .inr x => .str x
inductive RpK (m : Mp) (H : Hp) : List (Key × V) → List (T × T) → Prop
  | nil : RpK m H [] []
  | cons {k : Key} {v : V} {t x : T} {kvs : List (Key × V)} {l : List (T × T)} : t = keyT k → Rp m H v x → x.pure = true → RpK m H kvs l → RpK m H ((k, v) :: kvs) ((t, x) :: l)
inductive RpT (m : Mp) (H : Hp) : List (List Key × V) → List (T × T) → Prop
  | nil : RpT m H [] []
  | cons {k : List Key} {v : V} {t x : T} {kvs : List (List Key × V)} {l : List (T × T)} : t = .tup (k.map keyT) → Rp m H v x → x.pure = true → RpT m H kvs l → RpT m H ((k, v) :: kvs) ((t, x) :: l)
theorem RpK.le {m m' : Mp} {H H' : Hp} (l : Le m H m' H') : ∀ {kvs : List (Key × V)} {r : List (T × T)}, RpK m H kvs r → RpK m' H' kvs r
  | _, _, .nil => .nil
  | _, _, .cons e h p r => .cons e (h.le l) p (RpK.le l r)
theorem RpT.le {m m' : Mp} {H H' : Hp} (l : Le m H m' H') : ∀ {kvs : List (List Key × V)} {r : List (T × T)}, RpT m H kvs r → RpT m' H' kvs r
  | _, _, .nil => .nil
  | _, _, .cons e h p r => .cons e (h.le l) p (RpT.le l r)
def RD (m : Mp) (H : Hp) (t : Bool) (l : List (T × T)) (u : HO) : Prop := match t with
  | false => ∃ kvs, u = .dK kvs ∧ RpK m H kvs l
  | true => ∃ kvs, u = .dT kvs ∧ RpT m H kvs l
theorem RD.le {m m' : Mp} {H H' : Hp} (le : Le m H m' H') {t : Bool} {l : List (T × T)} {u : HO} (h : RD m H t l u) : RD m' H' t l u := by
  cases t with
  | false => obtain ⟨kvs, e, r⟩ := h; exact ⟨kvs, e, r.le le⟩
  | true => obtain ⟨kvs, e, r⟩ := h; exact ⟨kvs, e, r.le le⟩
/-- an obj's place and what stands there -/
def RO (m : Mp) (H : Hp) (a : Addr) : MO → Prop
  | .lst ts => ∃ xs, H a = some (.lst xs) ∧ RpL m H xs ts ∧ T.pures ts = true
  | .dic t l => ∃ u, H a = some u ∧ RD m H t l u
  | .dlk t l => ∃ o u, H a = some (.frz o u) ∧ RD m H t l u
structure RS (m : Mp) (H : Hp) (S : Sto) : Prop where
  inj : ∀ n k a, m n = some a → m k = some a → n = k
  dom : ∀ n a, m n = some a → n < S.length
  here : ∀ n a, m n = some a → ∃ u, H a = some u
  has : ∀ n o, S[n]? = some o → ∃ a, m n = some a ∧ RO m H a o
def RE (m : Mp) (H : Hp) (σ : St) (ρ : List (Option T)) : Prop :=
  σ.length = ρ.length ∧ ∀ (i : Nat) (t : T), ρ[i]? = some (some t) → ∃ v, σ[i]? = some (some v) ∧ Rp m H v t
theorem RE.le {m m' : Mp} {H H' : Hp} {σ : St} {ρ : List (Option T)} (l : Le m H m' H') (r : RE m H σ ρ) : RE m' H' σ ρ :=
  ⟨r.1, fun i t e => let ⟨v, h1, h2⟩ := r.2 i t e; ⟨v, h1, h2.le l⟩⟩
theorem RE.set {m : Mp} {H : Hp} {σ : St} {ρ : List (Option T)} (r : RE m H σ ρ) {v : V} {t : T} (h : Rp m H v t) (i : Nat) : RE m H (σ.set i (some v)) (ρ.set i (some t)) := by
  refine ⟨by simpa using r.1, fun j u e => ?_⟩
  by_cases hj : i = j
  · subst hj
    have hi : i < ρ.length := by
      by_cases hi : i < ρ.length
      · exact hi
      · rw [List.getElem?_eq_none (by simpa using hi)] at e; cases e
    rw [List.getElem?_set_self hi] at e
    cases e
    exact ⟨v, by rw [List.getElem?_set_self (by rw [r.1]; exact hi)], h⟩
  · rw [List.getElem?_set_ne hj] at e
    obtain ⟨w, h1, h2⟩ := r.2 j u e
    exact ⟨w, by rw [List.getElem?_set_ne hj]; exact h1, h2⟩
theorem RE.unset {m : Mp} {H : Hp} {σ : St} {ρ : List (Option T)} (r : RE m H σ ρ) (i : Nat) : RE m H (σ.set i none) (ρ.set i none) := by
  refine ⟨by simpa using r.1, fun j u e => ?_⟩
  by_cases hj : i = j
  · subst hj
    by_cases hi : i < ρ.length
    · rw [List.getElem?_set_self hi] at e; cases e
    · rw [List.getElem?_eq_none (by simpa using hi)] at e; cases e
  · rw [List.getElem?_set_ne hj] at e
    obtain ⟨w, h1, h2⟩ := r.2 j u e
    exact ⟨w, by rw [List.getElem?_set_ne hj]; exact h1, h2⟩

/-- a step that leaves the store -/
def Ext (m : Mp) (H : Hp) (m' : Mp) (H' : Hp) : Prop := Le m H m' H' ∧ ∀ S, RS m H S → RS m' H' S
theorem Ext.refl {m : Mp} {H : Hp} : Ext m H m H := ⟨.refl, fun _ h => h⟩
theorem Ext.trans {m m1 m2 : Mp} {H H1 H2 : Hp} (a : Ext m H m1 H1) (b : Ext m1 H1 m2 H2) : Ext m H m2 H2 := ⟨a.1.trans b.1, fun S h => b.2 S (a.2 S h)⟩
theorem RO.keep {m m' : Mp} {H H' : Hp} {a : Addr} {o : MO} (l' : Le m H m' H') (e : ∀ u, H a = some u → H' a = some u) (r : RO m H a o) : RO m' H' a o := by
  cases o with
  | lst ts =>
    obtain ⟨xs, h1, h2, h3⟩ := r
    exact ⟨xs, e _ h1, h2.le l', h3⟩
  | dic t l =>
    obtain ⟨u, h1, h2⟩ := r
    exact ⟨u, e _ h1, h2.le l'⟩
  | dlk t l =>
    obtain ⟨o, u, h1, h2⟩ := r
    exact ⟨o, u, e _ h1, h2.le l'⟩
/-- a new thing that no obj stands for -/
theorem Le.alloc {m : Mp} {H : Hp} {p : Addr} {o : HO} (hp : H p = none) : Le m H m (upd H p o) :=
  ⟨fun a u q h => ⟨by rw [upd_ne (ne_of_none h hp)]; exact h, q⟩, fun _ _ h => h, fun a o u h => by rw [upd_ne (ne_of_none h hp)]; exact h⟩
theorem Ext.alloc {m : Mp} {H : Hp} {p : Addr} {o : HO} (hp : H p = none) : Ext m H m (upd H p o) := by
  refine ⟨.alloc hp, fun S r => ⟨r.inj, r.dom, fun n a h => ?_, fun n b h => ?_⟩⟩
  · obtain ⟨u, hu⟩ := r.here n a h
    exact ⟨u, by rw [upd_ne (ne_of_none hu hp)]; exact hu⟩
  · obtain ⟨a, h1, h2⟩ := r.has n b h
    exact ⟨a, h1, h2.keep (.alloc hp) fun u hu => by rw [upd_ne (ne_of_none hu hp)]; exact hu⟩
/-- a fresh place is off -/
theorem RS.off {m : Mp} {H : Hp} {S : Sto} (r : RS m H S) {p : Addr} (hp : H p = none) : Off m p := fun n h => by
  obtain ⟨u, hu⟩ := r.here n p h
  rw [hp] at hu; cases hu
theorem Rp.newTup {m : Mp} {H : Hp} {S : Sto} (r : RS m H S) {p : Addr} (hp : H p = none) {xs : List V} {ts : List T} (h : RpL m H xs ts) : Rp m (upd H p (.tup xs)) (.ref p) (.tup ts) :=
  .tup upd_same (r.off hp) (h.le (.alloc hp))
theorem Rp.newLst {m : Mp} {H : Hp} {S : Sto} (r : RS m H S) {p : Addr} (hp : H p = none) {xs : List V} {ts : List T} (h : RpL m H xs ts) : Rp m (upd H p (.lst xs)) (.ref p) (.lst ts) :=
  .lst upd_same (r.off hp) (h.le (.alloc hp))
/-- a new list as a new obj -/
def reg (m : Mp) (n : Nat) (p : Addr) : Mp := fun k => if k = n then some p else m k
theorem RS.next {m : Mp} {H : Hp} {S : Sto} (r : RS m H S) : m S.length = none := by
  cases e : m S.length with
  | none => rfl
  | some a => exact absurd (r.dom _ _ e) (Nat.lt_irrefl _)
theorem reg_new {m : Mp} {H : Hp} {S : Sto} (r : RS m H S) {p : Addr} {xs : List V} {ts : List T} (hp : H p = none) (h : RpL m H xs ts) (hu : T.pures ts = true) :
    Le m H (reg m S.length p) (upd H p (.lst xs)) ∧ RS (reg m S.length p) (upd H p (.lst xs)) (S ++ [.lst ts]) ∧ Rp (reg m S.length p) (upd H p (.lst xs)) (.ref p) (.obj S.length) := by
  have hnx := r.next
  have l : Le m H (reg m S.length p) (upd H p (.lst xs)) := by
    refine ⟨fun a u o q => ⟨by rw [upd_ne (ne_of_none q hp)]; exact q, fun k hk => ?_⟩, fun n a q => ?_, fun a o u q => by rw [upd_ne (ne_of_none q hp)]; exact q⟩
    · unfold reg at hk
      by_cases hn : k = S.length
      · rw [if_pos hn] at hk; cases hk; rw [hp] at q; cases q
      · rw [if_neg hn] at hk; exact o k hk
    · unfold reg
      rw [if_neg (fun z => by rw [z, hnx] at q; cases q)]
      exact q
  refine ⟨l, ⟨fun n k a h1 h2 => ?_, fun n a h1 => ?_, fun n a h1 => ?_, fun n o h1 => ?_⟩, .obj (by unfold reg; rw [if_pos rfl])⟩
  · have np : ∀ k, m k ≠ some p := r.off hp
    unfold reg at h1 h2
    by_cases e1 : n = S.length
    · by_cases e2 : k = S.length
      · rw [e1, e2]
      · rw [if_pos e1] at h1; rw [if_neg e2] at h2; cases h1; exact absurd h2 (np k)
    · by_cases e2 : k = S.length
      · rw [if_neg e1] at h1; rw [if_pos e2] at h2; cases h2; exact absurd h1 (np n)
      · rw [if_neg e1] at h1; rw [if_neg e2] at h2; exact r.inj n k a h1 h2
  · rw [List.length_append]
    show n < S.length + 1
    unfold reg at h1
    by_cases e : n = S.length
    · omega
    · rw [if_neg e] at h1; exact Nat.lt_succ_of_lt (r.dom n a h1)
  · unfold reg at h1
    by_cases e : n = S.length
    · rw [if_pos e] at h1; cases h1; exact ⟨_, upd_same⟩
    · rw [if_neg e] at h1
      obtain ⟨u, hu⟩ := r.here n a h1
      exact ⟨u, by rw [upd_ne (ne_of_none hu hp)]; exact hu⟩
  · by_cases e : n = S.length
    · subst e
      rw [List.getElem?_append_right (Nat.le_refl _), Nat.sub_self] at h1
      have h1' : some (MO.lst ts) = some o := h1
      cases h1'
      exact ⟨p, by unfold reg; rw [if_pos rfl], xs, upd_same, h.le l, hu⟩
    · have hn : n < S.length := by
        by_cases hn : n < S.length
        · exact hn
        · rw [List.getElem?_eq_none (by rw [List.length_append]; show S.length + 1 ≤ n; omega)] at h1; cases h1
      rw [List.getElem?_append_left hn] at h1
      obtain ⟨a, h2, h3⟩ := r.has n o h1
      exact ⟨a, by unfold reg; rw [if_neg e]; exact h2, h3.keep l fun u hu => by rw [upd_ne (ne_of_none hu hp)]; exact hu⟩
/-- an obj's list is stored anew -/
theorem put_lst {m : Mp} {H : Hp} {S : Sto} (r : RS m H S) {n : Nat} {a : Addr} {xs : List V} {ts : List T} (hnf : ∀ o u, H a ≠ some (.frz o u)) (hn : m n = some a) (h : RpL m H xs ts) (hu : T.pures ts = true) :
    Le m H m (upd H a (.lst xs)) ∧ RS m (upd H a (.lst xs)) (S.set n (.lst ts)) := by
  have l : Le m H m (upd H a (.lst xs)) := ⟨fun b u o q => ⟨by rw [upd_ne (fun z => o n (by rw [z]; exact hn))]; exact q, o⟩, fun _ _ q => q, fun b o w q => by rw [upd_ne (fun z => hnf o w (by rw [← z]; exact q))]; exact q⟩
  refine ⟨l, r.inj, fun k b h1 => by rw [List.length_set]; exact r.dom k b h1, fun k b h1 => ?_, fun k o h1 => ?_⟩
  · by_cases e : b = a
    · subst e; exact ⟨_, upd_same⟩
    · obtain ⟨u, hu⟩ := r.here k b h1
      exact ⟨u, by rw [upd_ne e]; exact hu⟩
  · by_cases e : n = k
    · subst e
      rw [List.getElem?_set_self (r.dom _ _ hn)] at h1
      cases h1
      exact ⟨a, hn, xs, upd_same, h.le l, hu⟩
    · rw [List.getElem?_set_ne e] at h1
      obtain ⟨b, h2, h3⟩ := r.has k o h1
      refine ⟨b, h2, h3.keep l fun u hu => ?_⟩
      rw [upd_ne (fun z => e (r.inj n k a hn (by rw [← z]; exact h2)))]
      exact hu
/-- leaving a def: its own objs go -/
def cutM (m : Mp) (n : Nat) : Mp := fun k => if k < n then m k else none
theorem Off.cut {m : Mp} {a : Addr} {n : Nat} (o : Off m a) : Off (cutM m n) a := fun k h => by
  unfold cutM at h
  split at h
  · exact o k h
  · cases h
mutual
theorem Rp.cut {m : Mp} {H : Hp} {n : Nat} : ∀ {v : V} {t : T}, t.pure = true → Rp m H v t → Rp (cutM m n) H v t
  | _, _, _, .non => .non
  | _, _, _, .bl b => .bl b
  | _, _, _, .int i => .int i
  | _, _, _, .str x => .str x
  | _, _, p, .tup h o r => .tup h o.cut (RpL.cut (by simpa [T.pure] using p) r)
  | _, _, p, .lst h o r => .lst h o.cut (RpL.cut (by simpa [T.pure] using p) r)
  | _, _, p, .scr h o r => by simp [T.pure] at p
  | _, _, p, .obj h => by simp [T.pure] at p
theorem RpL.cut {m : Mp} {H : Hp} {n : Nat} : ∀ {vs : List V} {ts : List T}, T.pures ts = true → RpL m H vs ts → RpL (cutM m n) H vs ts
  | _, _, _, .nil => .nil
  | _, _, p, .cons h r => by
    have p' := p
    simp only [T.pures, Bool.and_eq_true] at p'
    exact .cons (Rp.cut p'.1 h) (RpL.cut p'.2 r)
end
theorem RpK.cut {m : Mp} {H : Hp} {n : Nat} : ∀ {kvs : List (Key × V)} {r : List (T × T)}, RpK m H kvs r → RpK (cutM m n) H kvs r
  | _, _, .nil => .nil
  | _, _, .cons e h p r => .cons e (h.cut p) p (RpK.cut r)
theorem RpT.cut {m : Mp} {H : Hp} {n : Nat} : ∀ {kvs : List (List Key × V)} {r : List (T × T)}, RpT m H kvs r → RpT (cutM m n) H kvs r
  | _, _, .nil => .nil
  | _, _, .cons e h p r => .cons e (h.cut p) p (RpT.cut r)
theorem RD.cut {m : Mp} {H : Hp} {n : Nat} {t : Bool} {l : List (T × T)} {u : HO} (h : RD m H t l u) : RD (cutM m n) H t l u := by
  cases t with
  | false => obtain ⟨kvs, e, r⟩ := h; exact ⟨kvs, e, r.cut⟩
  | true => obtain ⟨kvs, e, r⟩ := h; exact ⟨kvs, e, r.cut⟩
theorem RS.cut {m : Mp} {H : Hp} {S : Sto} (r : RS m H S) (n : Nat) (hn : n ≤ S.length) : RS (cutM m n) H (S.take n) := by
  refine ⟨fun i k a h1 h2 => ?_, fun i a h1 => ?_, fun i a h1 => ?_, fun i o h1 => ?_⟩
  · unfold cutM at h1 h2
    split at h1
    · split at h2
      · exact r.inj i k a h1 h2
      · cases h2
    · cases h1
  · unfold cutM at h1
    split at h1
    · rw [List.length_take]; omega
    · cases h1
  · unfold cutM at h1
    split at h1
    · exact r.here i a h1
    · cases h1
  · have hi : i < n := by
      by_cases hi : i < n
      · exact hi
      · rw [List.getElem?_eq_none (by rw [List.length_take]; omega)] at h1; cases h1
    rw [List.getElem?_take_of_lt hi] at h1
    obtain ⟨a, h2, h3⟩ := r.has i o h1
    refine ⟨a, by unfold cutM; rw [if_pos hi]; exact h2, ?_⟩
    cases o with
    | lst ts =>
      obtain ⟨xs, q1, q2, q3⟩ := h3
      exact ⟨xs, q1, q2.cut q3, q3⟩
    | dic t l =>
      obtain ⟨u, q1, q2⟩ := h3
      exact ⟨u, q1, q2.cut⟩
    | dlk t l =>
      obtain ⟨o, u, q1, q2⟩ := h3
      exact ⟨o, u, q1, q2.cut⟩
theorem Le.cut {m m1 : Mp} {H H1 : Hp} {S : Sto} (r : RS m H S) (l : Le m H m1 H1) : Le m H (cutM m1 S.length) H1 :=
  ⟨fun a u o h => ⟨(l.keep a u o h).1, (l.keep a u o h).2.cut⟩, fun n a h => by unfold cutM; rw [if_pos (r.dom n a h)]; exact l.obj n a h, l.frz⟩
/-- a new thing of any kind as a new obj -/
theorem reg_any {m : Mp} {H : Hp} {S : Sto} (r : RS m H S) {p : Addr} {u : HO} {o : MO} (hp : H p = none) (h : ∀ m' H', Le m H m' H' → H' p = some u → RO m' H' p o) :
    Le m H (reg m S.length p) (upd H p u) ∧ RS (reg m S.length p) (upd H p u) (S ++ [o]) ∧ Rp (reg m S.length p) (upd H p u) (.ref p) (.obj S.length) := by
  have hnx := r.next
  have np : ∀ k, m k ≠ some p := r.off hp
  have l : Le m H (reg m S.length p) (upd H p u) := by
    refine ⟨fun a w o q => ⟨by rw [upd_ne (ne_of_none q hp)]; exact q, fun k hk => ?_⟩, fun n a q => ?_, fun a o u q => by rw [upd_ne (ne_of_none q hp)]; exact q⟩
    · unfold reg at hk
      split at hk
      · cases hk; rw [hp] at q; cases q
      · exact o k hk
    · unfold reg
      rw [if_neg (fun z => by rw [z, hnx] at q; cases q)]
      exact q
  refine ⟨l, ⟨fun n k a h1 h2 => ?_, fun n a h1 => ?_, fun n a h1 => ?_, fun n b h1 => ?_⟩, .obj (by unfold reg; rw [if_pos rfl])⟩
  · unfold reg at h1 h2
    split at h1 <;> split at h2
    · rename_i e1 e2; rw [e1, e2]
    · cases h1; exact absurd h2 (np k)
    · cases h2; exact absurd h1 (np n)
    · exact r.inj n k a h1 h2
  · rw [List.length_append]
    show n < S.length + 1
    unfold reg at h1
    split at h1
    · omega
    · exact Nat.lt_succ_of_lt (r.dom n a h1)
  · unfold reg at h1
    split at h1
    · cases h1; exact ⟨_, upd_same⟩
    · obtain ⟨w, hw⟩ := r.here n a h1
      exact ⟨w, by rw [upd_ne (ne_of_none hw hp)]; exact hw⟩
  · by_cases e : n = S.length
    · subst e
      rw [List.getElem?_append_right (Nat.le_refl _), Nat.sub_self] at h1
      have h1' : some o = some b := h1
      cases h1'
      exact ⟨p, by unfold reg; rw [if_pos rfl], h _ _ l upd_same⟩
    · have hn : n < S.length := by
        by_cases hn : n < S.length
        · exact hn
        · rw [List.getElem?_eq_none (by rw [List.length_append]; show S.length + 1 ≤ n; omega)] at h1; cases h1
      rw [List.getElem?_append_left hn] at h1
      obtain ⟨a, h2, h3⟩ := r.has n b h1
      exact ⟨a, by unfold reg; rw [if_neg e]; exact h2, h3.keep l fun w hw => by rw [upd_ne (ne_of_none hw hp)]; exact hw⟩
/-- an obj's thing is stored anew -/
theorem put_any {m : Mp} {H : Hp} {S : Sto} (r : RS m H S) {n : Nat} {a : Addr} {u : HO} {o : MO} (hnf : ∀ o u, H a ≠ some (.frz o u)) (hn : m n = some a) (h : ∀ H', Le m H m H' → H' a = some u → RO m H' a o) :
    Le m H m (upd H a u) ∧ RS m (upd H a u) (S.set n o) := by
  have l : Le m H m (upd H a u) := ⟨fun b w o q => ⟨by rw [upd_ne (fun z => o n (by rw [z]; exact hn))]; exact q, o⟩, fun _ _ q => q, fun b o w q => by rw [upd_ne (fun z => hnf o w (by rw [← z]; exact q))]; exact q⟩
  refine ⟨l, r.inj, fun k b h1 => by rw [List.length_set]; exact r.dom k b h1, fun k b h1 => ?_, fun k b h1 => ?_⟩
  · by_cases e : b = a
    · subst e; exact ⟨_, upd_same⟩
    · obtain ⟨w, hw⟩ := r.here k b h1
      exact ⟨w, by rw [upd_ne e]; exact hw⟩
  · by_cases e : n = k
    · subst e
      rw [List.getElem?_set_self (r.dom _ _ hn)] at h1
      cases h1
      exact ⟨a, hn, h _ l upd_same⟩
    · rw [List.getElem?_set_ne e] at h1
      obtain ⟨c, h2, h3⟩ := r.has k b h1
      exact ⟨c, h2, h3.keep l fun w hw => by rw [upd_ne (fun z => e (r.inj n k a hn (by rw [← z]; exact h2)))]; exact hw⟩
end Mi
end

section
set_option Elab.async false
set_option linter.all false
set_option maxRecDepth 100000
set_option maxHeartbeats 1000000
/-! Mi1: results, the judgement of an expression, binding -/
namespace Mi
open PySem PySem.Spec L2

inductive R (α : Type) where
  | ok (a : α) (S : Sto)
  | exc (c : Str) (fs : List (Str × T)) (S : Sto)
  | bad
def R.bind {α β : Type} (r : R α) (k : α → Sto → R β) : R β := match r with
  | .ok a S => k a S
  | .exc c fs S => .exc c fs S
  | .bad => .bad
def R.map {α β : Type} (r : R α) (k : α → β) : R β := r.bind fun a S => .ok (k a) S
/-- a test that must be passed -/
def R.if {α : Type} (b : Bool) (r : R α) : R α := match b with
  | true => r
  | false => .bad
abbrev Env := List (Option T)
abbrev EM := Env → Sto → R T
abbrev AM := Env → Sto → R (List T)
abbrev BM := Env → Sto → R Bool

/-- what every context of one program shares -/
structure PC where
  P : Program
  w : World
  K : PySem.W.Frag
  mg : Str → Option Value
  base : Heap
  cls : Str → Addr
inductive RpF (m : Mp) (H : Hp) : List (Str × V) → List (Str × T) → Prop
  | nil : RpF m H [] []
  | cons {f : Str} {v : V} {t : T} {vs : List (Str × V)} {ts : List (Str × T)} : Rp m H v t → RpF m H vs ts → RpF m H ((f, v) :: vs) ((f, t) :: ts)
theorem RpF.le {m m' : Mp} {H H' : Hp} (l : Le m H m' H') : ∀ {vs : List (Str × V)} {ts : List (Str × T)}, RpF m H vs ts → RpF m' H' vs ts
  | _, _, .nil => .nil
  | _, _, .cons h r => .cons (h.le l) (RpF.le l r)
theorem RpF.lookup {m : Mp} {H : Hp} {f : Str} {t : T} : ∀ {vs : List (Str × V)} {ts : List (Str × T)}, RpF m H vs ts → ts.lookup f = some t → ∃ v, vs.lookup f = some v ∧ Rp m H v t
  | _, _, .nil, e => by simp at e
  | (g, v) :: vs, (_, t') :: ts, .cons h r, e => by
    by_cases hg : (f == g) = true
    · rw [List.lookup_cons, hg] at e ⊢
      cases e
      exact ⟨v, rfl, h⟩
    · have hg' : (f == g) = false := by simpa using hg
      rw [List.lookup_cons, hg'] at e ⊢
      exact RpF.lookup r e
def ExcAt (m : Mp) (H : Hp) (d : Addr) (fs : List (Str × T)) : Prop := ∃ vs, H d = some (.xd vs) ∧ Off m d ∧ RpF m H vs fs

/-- what a result must bring: rel says what a value stands for -/
def Post (C : PC) (W : WX) {α β : Type} (rel : Mp → Hp → β → α → Prop) (m : Mp) (H : Hp) (σ : St) (Q : β → Hp → Prop) : R α → Prop
  | .ok a S => ∀ m' H' b, Le m H m' H' → RS m' H' S → rel m' H' b a → Q b H'
  | .exc c fs S => ∀ m' H' d, Le m H m' H' → RS m' H' S → ExcAt m' H' d fs → W (.ref (C.cls c)) (some d) σ H'
  | .bad => False
section
variable {C : PC} {W : WX} {α β γ δ : Type} {rel : Mp → Hp → β → α → Prop} {rel' : Mp → Hp → δ → γ → Prop} {m m1 : Mp} {H H1 : Hp} {σ : St} {Q : β → Hp → Prop} {Q' : δ → Hp → Prop}
theorem Post.le (l : Le m H m1 H1) : ∀ {r : R α}, Post C W rel m H σ Q r → Post C W rel m1 H1 σ Q r
  | .ok _ _, h => fun m' H' b l' rs x => h m' H' b (l.trans l') rs x
  | .exc _ _ _, h => fun m' H' d l' rs x => h m' H' d (l.trans l') rs x
  | .bad, h => h
/-- the state between two steps -/
def Mid (C : PC) (W : WX) (rel : Mp → Hp → β → α → Prop) (rel' : Mp → Hp → δ → γ → Prop) (m : Mp) (H : Hp) (σ : St) (Q : δ → Hp → Prop) (k : α → Sto → R γ) (b : β) (H1 : Hp) : Prop :=
  ∃ m1 a S1, Le m H m1 H1 ∧ RS m1 H1 S1 ∧ rel m1 H1 b a ∧ Post C W rel' m1 H1 σ Q (k a S1)
theorem Post.bind {k : α → Sto → R γ} : ∀ {r : R α}, Post C W rel' m H σ Q' (r.bind k) → Post C W rel m H σ (Mid C W rel rel' m H σ Q' k) r
  | .ok a S, h => fun m' H' b l rs x => ⟨m', a, S, l, rs, x, Post.le (r := k a S) l h⟩
  | .exc _ _ _, h => h
  | .bad, h => h
theorem Post.mono {Q2 : β → Hp → Prop} (hq : ∀ b H', Q b H' → Q2 b H') : ∀ {r : R α}, Post C W rel m H σ Q r → Post C W rel m H σ Q2 r
  | .ok _ _, h => fun m' H' b l rs x => hq _ _ (h m' H' b l rs x)
  | .exc _ _ _, h => h
  | .bad, h => h
/-- a value at hand -/
theorem Post.now {a : α} {S : Sto} {b : β} (h : Post C W rel m H σ Q (.ok a S)) (rs : RS m H S) (x : rel m H b a) : Q b H := h m H b .refl rs x
theorem Post.ext {a : α} {S : Sto} {b : β} (h : Post C W rel m H σ Q (.ok a S)) (e : Ext m H m1 H1) (rs : RS m H S) (x : rel m1 H1 b a) : Q b H1 := h m1 H1 b e.1 (e.2 S rs) x
end

/-- a def's names and where one stands: in its body, in a comprehension's block -/
structure Sx where
  N : List Str
  sc : Scope
  blk : Bool
  fn : Str → Bool
structure XOk (C : PC) (k : Nat) (Γ : Sx) (X : Cx) : Prop where
  P : X.prog = C.P
  w : X.w = C.w
  K : X.K = C.K
  mg : X.mg = C.mg
  base : X.base = C.base
  N : X.N = Γ.N
  nd : Γ.N.Nodup
  sc : X.env.scope = Γ.sc
  calm : X.calm = true
  room : Room k X.A
  gd : X.A.guards = some []
  fn : ∀ x, Γ.fn x = true → X.fn x = true
  own : Γ.blk = false → PassesOwn (model X.prog X.w) X.A X.env X.xe
  stk : Γ.blk = false → X.stack = X.env :: X.outer ∧ X.env.frame = some X.env.locals

section
variable (C : PC) (W : WX)
def tr (f : EM) : TE := fun σ H Q => ∃ m ρ S, RE m H σ ρ ∧ RS m H S ∧ Post C W Rp m H σ Q (f ρ S)
def trA (f : AM) : TA := fun σ H Q => ∃ m ρ S, RE m H σ ρ ∧ RS m H S ∧ Post C W RpL m H σ Q (f ρ S)
def trB (f : BM) : TT := fun σ H Q => ∃ m ρ S, RE m H σ ρ ∧ RS m H S ∧ Post C W (fun _ _ b a => b = a) m H σ Q (f ρ S)
end
def DE (C : PC) (k : Nat) (Γ : Sx) (e : Expr) (f : EM) : Prop := ∀ X W, XOk C k Γ X → Takes X W → PE X e (tr C W f)
def DB (C : PC) (k : Nat) (Γ : Sx) (e : Expr) (f : BM) : Prop := ∀ X W, XOk C k Γ X → Takes X W → PT X e (trB C W f)
theorem PE.weak {X : Cx} {e : Expr} {t t' : TE} (h : PE X e t) (i : ∀ σ H Q, t' σ H Q → t σ H Q) : PE X e t' := ⟨fun pins s σ H Q I hq => h.run pins s σ H Q I (i _ _ _ hq)⟩
theorem PT.weak {X : Cx} {e : Expr} {t t' : TT} (h : PT X e t) (i : ∀ σ H Q, t' σ H Q → t σ H Q) : PT X e t' := ⟨fun pins s σ H Q I hq => h.run pins s σ H Q I (i _ _ _ hq)⟩
theorem PA.weak {X : Cx} {e : List Expr} {t t' : TA} (h : PA X e t) (i : ∀ σ H Q, t' σ H Q → t σ H Q) : PA X e t' := ⟨fun po pins s σ H Q I hq => h.run po pins s σ H Q I (i _ _ _ hq)⟩
end Mi
end

section
set_option Elab.async false
set_option linter.all false
set_option maxRecDepth 100000
set_option maxHeartbeats 1000000
/-! Mi2: expressions: names, constants, displays, operators -/
namespace Mi
open PySem PySem.Spec L2

abbrev line : Nat := 16777216
theorem line_le {n : Nat} (h : decide (n ≤ line) = true) : n ≤ sizeLine := by rw [sizeLine_eq]; exact of_decide_eq_true h

/-! ### what a value is, an obj read -/
def rdL (S : Sto) : T → Option (List T)
  | .lst l => some l
  | .obj n => match S[n]? with
    | some (.lst l) => some l
    | _ => none
  | _ => none
theorem rdL_ok {m : Mp} {H : Hp} {S : Sto} (rs : RS m H S) {v : V} {t : T} {l : List T} (h : Rp m H v t) (e : rdL S t = some l) : ∃ a xs, v = .ref a ∧ H a = some (.lst xs) ∧ RpL m H xs l := by
  cases h with
  | lst h o r => cases e; exact ⟨_, _, rfl, h, r⟩
  | @obj a n h =>
    unfold rdL at e
    cases q : S[n]? with
    | none => simp [q] at e
    | some o =>
      cases o with
      | lst l' =>
        simp [q] at e
        subst e
        obtain ⟨b, h1, xs, h2, h3, _⟩ := rs.has n _ q
        rw [h] at h1; cases h1
        exact ⟨_, _, rfl, h2, h3⟩
      | dic _ l' => simp [q] at e
      | dlk _ l' => simp [q] at e
  | _ => cases e

/-- a global name -/
def SGl (Γ : Sx) (x : Str) : Prop := Γ.sc.names.lookup x = some .globalImplicit
section
variable {C : PC} {k : Nat} {Γ : Sx}
/-- a weaker reading of an expression -/
theorem DE.mk {e : Expr} {f : EM} (h : ∀ X W, XOk C k Γ X → Takes X W → ∃ t, PE X e t ∧ ∀ σ H Q, tr C W f σ H Q → t σ H Q) : DE C k Γ e f := fun X W ok tk => let ⟨_, p, q⟩ := h X W ok tk; PE.weak p q
theorem DB.mk {e : Expr} {f : BM} (h : ∀ X W, XOk C k Γ X → Takes X W → ∃ t, PT X e t ∧ ∀ σ H Q, trB C W f σ H Q → t σ H Q) : DB C k Γ e f := fun X W ok tk => let ⟨_, p, q⟩ := h X W ok tk; PT.weak p q
theorem XOk.vis {X : Cx} (ok : XOk C k Γ X) {x : Str} (h : Vis Γ.sc x) : Vis X.env.scope x := by rw [ok.sc]; exact h
theorem XOk.name {X : Cx} (ok : XOk C k Γ X) {i : Nat} {x : Str} (h : Γ.N[i]? = some x) : X.N[i]? = some x := by rw [ok.N]; exact h
theorem XOk.gl {X : Cx} (ok : XOk C k Γ X) {x : Str} (h : SGl Γ x) : Gl X x := by
  show X.env.scope.names.lookup x = _
  rw [ok.sc]; exact h
theorem XOk.free {X : Cx} (ok : XOk C k Γ X) {x : Str} (h : C.mg x = none) : X.mg x = none := by rw [ok.mg]; exact h

/-! ### names, constants -/
def eVar (i : Nat) : EM := fun ρ S => match ρ[i]? with
  | some (some t) => .ok t S
  | _ => .bad
def eC (t : T) : EM := fun _ S => .ok t S
theorem de_var {i : Nat} {x : Str} {pos : Pos} (hN : Γ.N[i]? = some x) (hv : Vis Γ.sc x) (hd : (x == ("__debug__" : Str)) = false) (hc : (x == ("__classdict__" : Str)) = false) : DE C k Γ (.Name x pos) (eVar i) :=
  .mk fun X W ok tk => ⟨_, pe_var (ok.name hN) (ok.vis hv) hd hc, fun σ H Q ⟨m, ρ, S, re, rs, h⟩ => by
    unfold eVar at h
    cases e : ρ[i]? with
    | none => simp [e, Post] at h
    | some o =>
      cases o with
      | none => simp [e, Post] at h
      | some t =>
        obtain ⟨v, h1, h2⟩ := re.2 i t e
        simp only [e] at h
        exact ⟨v, h1, h.now rs h2⟩⟩
theorem de_int {i : Int} {j : Nat} {pos : Pos} : DE C k Γ (.Constant (.int i) j pos) (eC (.int i)) := .mk fun X W ok tk => ⟨_, pe_int, fun σ H Q ⟨m, ρ, S, re, rs, h⟩ => h.now rs (.int i)⟩
theorem de_bl {b : Bool} {j : Nat} {pos : Pos} : DE C k Γ (.Constant (.bool b) j pos) (eC (.bl b)) := .mk fun X W ok tk => ⟨_, pe_bl, fun σ H Q ⟨m, ρ, S, re, rs, h⟩ => h.now rs (.bl b)⟩
theorem de_non {j : Nat} {pos : Pos} : DE C k Γ (.Constant .none j pos) (eC .non) := .mk fun X W ok tk => ⟨_, pe_non, fun σ H Q ⟨m, ρ, S, re, rs, h⟩ => h.now rs .non⟩
theorem de_str {x : Str} {j : Nat} {pos : Pos} : DE C k Γ (.Constant (.str x) j pos) (eC (.str x)) := .mk fun X W ok tk => ⟨_, pe_str, fun σ H Q ⟨m, ρ, S, re, rs, h⟩ => h.now rs (.str x)⟩
/-- a module's int -/
theorem de_glob {x : Str} {i : Int} {pos : Pos} (hg : SGl Γ x) (hm : ∃ t, C.mg x = some (.int i t)) (hd : (x == ("__debug__" : Str)) = false) : DE C k Γ (.Name x pos) (eC (.int i)) :=
  .mk fun X W ok tk => by
    obtain ⟨t, ht⟩ := hm
    exact ⟨_, pe_glob (v := .int i) (ok.gl hg) (by rw [ok.mg]; exact ht) ⟨t, rfl⟩ hd, fun σ H Q ⟨m, ρ, S, re, rs, h⟩ => h.now rs (.int i)⟩

/-! ### argument lists, displays -/
def aNil : AM := fun _ S => .ok [] S
def aCons (f : EM) (g : AM) : AM := fun ρ S => (f ρ S).bind fun x S1 => (g ρ S1).bind fun xs S2 => .ok (x :: xs) S2
def noStar : Expr → Bool
  | .Starred _ _ => false
  | _ => true
theorem star_cons {e : Expr} {es : List Expr} {env : PySem.Env} (h : noStar e = true) : starEach (e :: es) env = (false, eval e env) :: starEach es env := by
  cases e <;> first | rfl | (exact absurd (show false = true from h) Bool.false_ne_true)
theorem starAny : ∀ {es : List Expr} {env : PySem.Env} {pos : Pos}, es.all noStar = true → (backTo pos (starEach es env)).any (·.1) = false
  | [], _, _, _ => rfl
  | e :: es, env, pos, h => by
    simp only [List.all_cons, Bool.and_eq_true] at h
    rw [star_cons h.1]
    show (false || (backTo pos (starEach es env)).any (·.1)) = false
    rw [starAny h.2]
    rfl
def DAs (C : PC) (k : Nat) (Γ : Sx) (es : List Expr) (f : AM) : Prop := ∀ X W, XOk C k Γ X → Takes X W → PA X es (trA C W f)
theorem da_nil : DAs C k Γ [] aNil := fun X W ok tk => PA.weak pa_nil fun σ H Q ⟨m, ρ, S, re, rs, h⟩ => h.now rs .nil
theorem da_cons {e : Expr} {es : List Expr} {f : EM} {g : AM} (h1 : DE C k Γ e f) (h2 : DAs C k Γ es g) (hs : noStar e = true) : DAs C k Γ (e :: es) (aCons f g) := fun X W ok tk =>
  PA.weak (pa_cons (h1 X W ok tk) (h2 X W ok tk) (star_cons hs)) fun σ H Q ⟨m, ρ, S, re, rs, h⟩ => ⟨m, ρ, S, re, rs, (Post.bind h).mono fun u H1 ⟨m1, x, S1, l1, rs1, r1, q1⟩ =>
    ⟨m1, ρ, S1, re.le l1, rs1, (Post.bind q1).mono fun us H2 ⟨m2, xs, S2, l2, rs2, r2, q2⟩ => q2.now rs2 (.cons (r1.le l2) r2)⟩⟩
def eTup (g : AM) : EM := fun ρ S => (g ρ S).bind fun xs S1 => R.if (decide (xs.length ≤ line)) (.ok (.tup xs) S1)
theorem Post.if {W : WX} {α β : Type} {rel : Mp → Hp → β → α → Prop} {m : Mp} {H : Hp} {σ : St} {Q : β → Hp → Prop} {b : Bool} {r : R α} (h : Post C W rel m H σ Q (R.if b r)) : b = true ∧ Post C W rel m H σ Q r := by
  cases b with
  | true => exact ⟨rfl, h⟩
  | false => exact h.elim
theorem de_tup {es : List Expr} {g : AM} {x1 : Nat} {pos : Pos} (h1 : DAs C k Γ es g) : DE C k Γ (.Tuple es x1 pos) (eTup g) :=
  .mk fun X W ok tk => ⟨_, pe_tup (h1 X W ok tk), fun σ H Q ⟨m, ρ, S, re, rs, h⟩ => ⟨m, ρ, S, re, rs, (Post.bind h).mono fun vs H1 ⟨m1, xs, S1, l1, rs1, r1, q1⟩ => by
    obtain ⟨hb, q1⟩ := q1.if
    exact ⟨by rw [r1.length]; exact line_le hb, fun p hp => q1.ext (.alloc hp) rs1 (.newTup rs1 hp r1)⟩⟩⟩

/-! ### new lists: kept as trees, or as objs -/
abbrev LM := Env → Sto → R (List T)
/-- p is new, a list of what l stands for -/
def PostN (C : PC) (W : WX) (m : Mp) (H : Hp) (σ : St) (Q : VK) : R (List T) → Prop
  | .ok l S => ∀ m' H' p xs, Le m H m' H' → RS m' H' S → H' p = none → RpL m' H' xs l → xs.length ≤ sizeLine → Q (.ref p) (upd H' p (.lst xs))
  | .exc c fs S => ∀ m' H' d, Le m H m' H' → RS m' H' S → ExcAt m' H' d fs → W (.ref (C.cls c)) (some d) σ H'
  | .bad => False
def trN (C : PC) (W : WX) (f : LM) : TE := fun σ H Q => ∃ m ρ S, RE m H σ ρ ∧ RS m H S ∧ PostN C W m H σ Q (f ρ S)
def DN (C : PC) (k : Nat) (Γ : Sx) (e : Expr) (f : LM) : Prop := ∀ X W, XOk C k Γ X → Takes X W → PE X e (trN C W f)
def eFrz (f : LM) : EM := fun ρ S => (f ρ S).bind fun l S1 => .ok (.lst l) S1
def eObj (f : LM) : EM := fun ρ S => (f ρ S).bind fun l S1 => R.if (T.pures l) (.ok (.obj S1.length) (S1 ++ [.lst l]))
theorem PostN.le {W : WX} {m m1 : Mp} {H H1 : Hp} {σ : St} {Q : VK} (l : Le m H m1 H1) : ∀ {r : R (List T)}, PostN C W m H σ Q r → PostN C W m1 H1 σ Q r
  | .ok _ _, h => fun m' H' p xs l' rs => h m' H' p xs (l.trans l') rs
  | .exc _ _ _, h => fun m' H' d l' rs x => h m' H' d (l.trans l') rs x
  | .bad, h => h
theorem DN.frz {e : Expr} {f : LM} (h : DN C k Γ e f) : DE C k Γ e (eFrz f) :=
  .mk fun X W ok tk => ⟨_, h X W ok tk, fun σ H Q ⟨m, ρ, S, re, rs, q⟩ => ⟨m, ρ, S, re, rs, by
    unfold eFrz at q
    cases r : f ρ S with
    | ok l S1 =>
      rw [r] at q
      exact fun m' H' p xs l1 rs1 hp rx _ => q m' _ (.ref p) (l1.trans (.alloc hp)) ((Ext.alloc hp).2 _ rs1) (.newLst rs1 hp rx)
    | exc c fs S1 => rw [r] at q; exact q
    | bad => rw [r] at q; exact q⟩⟩
theorem DN.obj {e : Expr} {f : LM} (h : DN C k Γ e f) : DE C k Γ e (eObj f) :=
  .mk fun X W ok tk => ⟨_, h X W ok tk, fun σ H Q ⟨m, ρ, S, re, rs, q⟩ => ⟨m, ρ, S, re, rs, by
    unfold eObj at q
    cases r : f ρ S with
    | ok l S1 =>
      rw [r] at q
      intro m' H' p xs l1 rs1 hp rx _
      obtain ⟨hu, q⟩ := Post.if q
      obtain ⟨a, b, c⟩ := reg_new rs1 hp rx hu
      exact q _ _ _ (l1.trans a) b c
    | exc c fs S1 => rw [r] at q; exact q
    | bad => rw [r] at q; exact q⟩⟩
/-- a step ahead of a new list -/
theorem Post.bindN {W : WX} {α β : Type} {rel : Mp → Hp → β → α → Prop} {m : Mp} {H : Hp} {σ : St} {Q : VK} {g : α → Sto → R (List T)} : ∀ {r : R α}, PostN C W m H σ Q (r.bind g) →
    Post C W rel m H σ (fun b H1 => ∃ m1 a S1, Le m H m1 H1 ∧ RS m1 H1 S1 ∧ rel m1 H1 b a ∧ PostN C W m1 H1 σ Q (g a S1)) r
  | .ok a S, h => fun m' H' b l rs x => ⟨m', a, S, l, rs, x, PostN.le (r := g a S) l h⟩
  | .exc _ _ _, h => h
  | .bad, h => h
theorem PostN.if {W : WX} {m : Mp} {H : Hp} {σ : St} {Q : VK} {b : Bool} {r : R (List T)} (h : PostN C W m H σ Q (R.if b r)) : b = true ∧ PostN C W m H σ Q r := by
  cases b with
  | true => exact ⟨rfl, h⟩
  | false => exact h.elim
def nLst (g : AM) : LM := fun ρ S => (g ρ S).bind fun xs S1 => R.if (decide (xs.length ≤ line)) (.ok xs S1)
theorem dn_lst {es : List Expr} {g : AM} {pos : Pos} (h1 : DAs C k Γ es g) : DN C k Γ (.List es pos) (nLst g) := fun X W ok tk =>
  PE.weak (pe_lst (h1 X W ok tk)) fun σ H Q ⟨m, ρ, S, re, rs, h⟩ => ⟨m, ρ, S, re, rs, (Post.bindN h).mono fun vs H1 ⟨m1, xs, S1, l1, rs1, r1, q1⟩ => by
    obtain ⟨hb, q1⟩ := q1.if
    have hz : vs.length ≤ sizeLine := by rw [r1.length]; exact line_le hb
    exact ⟨hz, fun p hp => q1 m1 H1 p vs .refl rs1 hp r1 hz⟩⟩

/-! ### two-place operators, by values -/
def e2 (f : Sto → T → T → R T) (a b : EM) : EM := fun ρ S => (a ρ S).bind fun x S1 => (b ρ S1).bind fun y S2 => f S2 x y
def e1 (f : Sto → T → R T) (a : EM) : EM := fun ρ S => (a ρ S).bind fun x S1 => f S1 x
def Op2S (C : PC) (r : R2) (f : Sto → T → T → R T) : Prop := ∀ {W : WX} {m : Mp} {H : Hp} {S : Sto} {σ : St} {u v : V} {x y : T} {Q : VK}, RS m H S → Rp m H u x → Rp m H v y → Post C W Rp m H σ Q (f S x y) → r u v H Q
theorem two {W : WX} {X : Cx} {a b : Expr} {fa fb : EM} {f : Sto → T → T → R T} {r : R2} (hf : Op2S C r f) {σ : St} {H : Hp} {Q : VK} (h : tr C W (e2 f fa fb) σ H Q) : tOp r (tr C W fa) (tr C W fb) σ H Q := by
  obtain ⟨m, ρ, S, re, rs, h⟩ := h
  exact ⟨m, ρ, S, re, rs, (Post.bind h).mono fun u H1 ⟨m1, x, S1, l1, rs1, r1, q1⟩ => ⟨m1, ρ, S1, re.le l1, rs1, (Post.bind q1).mono fun v H2 ⟨m2, y, S2, l2, rs2, r2, q2⟩ => hf rs2 (r1.le l2) r2 q2⟩⟩
theorem de_bin {op : Operator} {a b : Expr} {fa fb : EM} {f : Sto → T → T → R T} {pos : Pos} (hr : ∀ X, XOk C k Γ X → ∃ r, OpR X (binaryOp op) r ∧ Op2S C r f) (ha : DE C k Γ a fa) (hb : DE C k Γ b fb) : DE C k Γ (.BinOp a op b pos) (e2 f fa fb) :=
  .mk fun X W ok tk => by
    obtain ⟨r, h1, h2⟩ := hr X ok
    exact ⟨_, pe_op h1 (ha X W ok tk) (hb X W ok tk), fun σ H Q h => two (X := X) (a := a) (b := b) h2 h⟩
theorem de_cmp {op : CmpOp} {a b : Expr} {fa fb : EM} {f : Sto → T → T → R T} {pos : Pos} (hr : ∀ X, XOk C k Γ X → ∃ r, OpR X (compareOp op) r ∧ Op2S C r f) (ha : DE C k Γ a fa) (hb : DE C k Γ b fb) (hm : behindInMarks op b = false) : DE C k Γ (.Compare a [op] [b] pos) (e2 f fa fb) :=
  .mk fun X W ok tk => by
    obtain ⟨r, h1, h2⟩ := hr X ok
    exact ⟨_, pe_cmpR h1 (ha X W ok tk) (hb X W ok tk) hm, fun σ H Q h => two (X := X) (a := a) (b := b) h2 h⟩
theorem Op2S.or {r r' : R2} {f g : Sto → T → T → R T} (h : Op2S C r f) (h' : Op2S C r' g) (c : T → T → Bool) : Op2S C (fun x y H Q => r x y H Q ∨ r' x y H Q) (fun S x y => match c x y with | true => f S x y | false => g S x y) := by
  intro W m H S σ u v x y Q rs r1 r2 q
  cases e : c x y with
  | true => simp only [e] at q; exact .inl (h rs r1 r2 q)
  | false => simp only [e] at q; exact .inr (h' rs r1 r2 q)
end
end Mi
end

section
set_option Elab.async false
set_option linter.all false
set_option maxRecDepth 100000
set_option maxHeartbeats 1000000
/-! Mi3: the operators -/
namespace Mi
open PySem PySem.Spec L2

/-! ### trees as the library's data -/
mutual
def T.toD : T → PyData
  | .non => .none
  | .bl b => .bool b
  | .int i => .int i
  | .str s => .str s
  | .tup l => .tuple (T.toDs l)
  | .lst l => .list (T.toDs l)
  | .scr l => .list (T.toDs l)
  | .obj _ => .dict []
def T.toDs : List T → List PyData
  | [] => []
  | t :: l => t.toD :: T.toDs l
end
/-- pure, of at most so many levels, its texts plain -/
def T.dat : Nat → T → Bool
  | _, .non => true
  | _, .bl _ => true
  | _, .int _ => true
  | _, .str s => PyData.strOk s
  | d + 1, .tup l => l.all (T.dat d)
  | d + 1, .lst l => l.all (T.dat d)
  | _, _ => false
mutual
/-- == of trees -/
def T.eqv : T → T → Bool
  | .non, .non => true
  | .bl a, .bl b => a == b
  | .bl a, .int j => (if a then 1 else 0) == j
  | .int i, .bl b => i == (if b then 1 else 0)
  | .int i, .int j => i == j
  | .str x, .str y => x == y
  | .lst xs, .lst ys => T.eqvs xs ys
  | .tup xs, .tup ys => T.eqvs xs ys
  | _, _ => false
def T.eqvs : List T → List T → Bool
  | [], [] => true
  | x :: xs, y :: ys => T.eqv x y && T.eqvs xs ys
  | _, _ => false
end
mutual
theorem Rp.dp {K : PySem.W.Frag} {m : Mp} {H : Hp} : ∀ {d : Nat} {v : V} {t : T}, t.dat d = true → Rp m H v t → Dp K H v t.toD
  | _, _, _, _, .non => .non
  | _, _, _, _, .bl b => .bl b
  | _, _, _, _, .int i => .int i
  | _, _, _, _, .str x => .str x
  | 0, _, _, p, .tup h o r => by simp [T.dat] at p
  | d + 1, _, _, p, .tup h o r => .tup (SqT.of h) (RpL.dp (by simpa [T.dat] using p) r)
  | 0, _, _, p, .lst h o r => by simp [T.dat] at p
  | d + 1, _, _, p, .lst h o r => .lst (SqL.of h) (RpL.dp (by simpa [T.dat] using p) r)
  | d, _, _, p, .scr h o r => by cases d <;> simp [T.dat] at p
  | d, _, _, p, .obj h => by cases d <;> simp [T.dat] at p
theorem RpL.dp {K : PySem.W.Frag} {m : Mp} {H : Hp} : ∀ {d : Nat} {vs : List V} {ts : List T}, (∀ t ∈ ts, t.dat d = true) → RpL m H vs ts → DpAll K H vs (T.toDs ts)
  | _, _, _, _, .nil => .nil
  | _, _, _, p, .cons h r => .cons (Rp.dp (p _ List.mem_cons_self) h) (RpL.dp (fun t ht => p t (List.mem_cons_of_mem _ ht)) r)
end
mutual
theorem T.lay : ∀ {d : Nat} {t : T}, t.dat d = true → t.toD.canLay0 = true ∧ t.toD.depth ≤ d
  | d, .non, _ => ⟨rfl, Nat.zero_le _⟩
  | d, .bl _, _ => ⟨rfl, Nat.zero_le _⟩
  | d, .int _, _ => ⟨rfl, Nat.zero_le _⟩
  | d, .str s, p => ⟨by cases d <;> simpa [T.dat, T.toD, PyData.canLay0] using p, Nat.zero_le _⟩
  | 0, .tup l, p => by simp [T.dat] at p
  | d + 1, .tup l, p => by
    have h := T.lays (d := d) (ts := l) (by simpa [T.dat] using p)
    exact ⟨h.1, Nat.succ_le_succ h.2⟩
  | 0, .lst l, p => by simp [T.dat] at p
  | d + 1, .lst l, p => by
    have h := T.lays (d := d) (ts := l) (by simpa [T.dat] using p)
    exact ⟨h.1, Nat.succ_le_succ h.2⟩
  | d, .scr l, p => by cases d <;> simp [T.dat] at p
  | d, .obj l, p => by cases d <;> simp [T.dat] at p
theorem T.lays : ∀ {d : Nat} {ts : List T}, (∀ t ∈ ts, t.dat d = true) → PyData.canLayAll0 (T.toDs ts) = true ∧ PyData.depthAll (T.toDs ts) ≤ d
  | d, [], _ => ⟨rfl, Nat.zero_le _⟩
  | d, t :: ts, p => by
    have h1 := T.lay (p t List.mem_cons_self)
    have h2 := T.lays (fun u hu => p u (List.mem_cons_of_mem _ hu))
    exact ⟨by show (_ && _) = true; rw [h1.1, h2.1]; rfl, Nat.max_le.mpr ⟨h1.2, h2.2⟩⟩
end
theorem T.shaped {t : T} (h : t.dat 60 = true) : SeqAt.shaped t.toD = true := by
  have := T.lay h
  unfold SeqAt.shaped
  rw [this.1]
  simpa using Nat.le_trans this.2 (by decide)
mutual
theorem T.eqv_toD : ∀ {d e : Nat} {a b : T}, a.dat d = true → b.dat e = true → PyData.eqv a.toD b.toD = T.eqv a b
  | d, e, .scr l, b, p, q => by cases d <;> simp [T.dat] at p
  | d, e, .obj l, b, p, q => by cases d <;> simp [T.dat] at p
  | d, e, a, .scr l, p, q => by cases e <;> simp [T.dat] at q
  | d, e, a, .obj l, p, q => by cases e <;> simp [T.dat] at q
  | 0, _, .tup _, _, p, q => by simp [T.dat] at p
  | 0, _, .lst _, _, p, q => by simp [T.dat] at p
  | _, 0, _, .tup _, p, q => by simp [T.dat] at q
  | _, 0, _, .lst _, p, q => by simp [T.dat] at q
  | d + 1, e + 1, .tup xs, .tup ys, p, q => by
    simp only [T.toD, PyData.eqv, T.eqv]
    exact T.eqvs_toD (d := d) (e := e) (by simpa [T.dat] using p) (by simpa [T.dat] using q)
  | d + 1, e + 1, .lst xs, .lst ys, p, q => by
    simp only [T.toD, PyData.eqv, T.eqv]
    exact T.eqvs_toD (d := d) (e := e) (by simpa [T.dat] using p) (by simpa [T.dat] using q)
  | _, _, .non, .non, _, _ => rfl
  | _, _, .non, .bl _, _, _ => rfl
  | _, _, .non, .int _, _, _ => rfl
  | _, _, .non, .str _, _, _ => rfl
  | _, _, .non, .tup _, _, _ => rfl
  | _, _, .non, .lst _, _, _ => rfl
  | _, _, .bl _, .non, _, _ => rfl
  | _, _, .bl _, .bl _, _, _ => rfl
  | _, _, .bl _, .int _, _, _ => rfl
  | _, _, .bl _, .str _, _, _ => rfl
  | _, _, .bl _, .tup _, _, _ => rfl
  | _, _, .bl _, .lst _, _, _ => rfl
  | _, _, .int _, .non, _, _ => rfl
  | _, _, .int _, .bl _, _, _ => rfl
  | _, _, .int _, .int _, _, _ => rfl
  | _, _, .int _, .str _, _, _ => rfl
  | _, _, .int _, .tup _, _, _ => rfl
  | _, _, .int _, .lst _, _, _ => rfl
  | _, _, .str _, .non, _, _ => rfl
  | _, _, .str _, .bl _, _, _ => rfl
  | _, _, .str _, .int _, _, _ => rfl
  | _, _, .str _, .str _, _, _ => rfl
  | _, _, .str _, .tup _, _, _ => rfl
  | _, _, .str _, .lst _, _, _ => rfl
  | _, _, .tup _, .non, _, _ => rfl
  | _, _, .tup _, .bl _, _, _ => rfl
  | _, _, .tup _, .int _, _, _ => rfl
  | _, _, .tup _, .str _, _, _ => rfl
  | _, _, .tup _, .lst _, _, _ => rfl
  | _, _, .lst _, .non, _, _ => rfl
  | _, _, .lst _, .bl _, _, _ => rfl
  | _, _, .lst _, .int _, _, _ => rfl
  | _, _, .lst _, .str _, _, _ => rfl
  | _, _, .lst _, .tup _, _, _ => rfl
theorem T.eqvs_toD : ∀ {d e : Nat} {a b : List T}, (∀ t ∈ a, t.dat d = true) → (∀ t ∈ b, t.dat e = true) → PyData.eqvAll (T.toDs a) (T.toDs b) = T.eqvs a b
  | _, _, [], [], _, _ => rfl
  | _, _, [], _ :: _, _, _ => rfl
  | _, _, _ :: _, [], _, _ => rfl
  | d, e, x :: xs, y :: ys, p, q => by
    simp only [T.toDs, PyData.eqvAll, T.eqvs]
    rw [T.eqv_toD (p x List.mem_cons_self) (q y List.mem_cons_self), T.eqvs_toD (fun t ht => p t (List.mem_cons_of_mem _ ht)) (fun t ht => q t (List.mem_cons_of_mem _ ht))]
end

/-- an obj's list as a tree -/
def valT (S : Sto) (t : T) : T := match t with
  | .obj n => match S[n]? with
    | some (.lst l) => .lst l
    | _ => t
  | _ => t
theorem val_dp {K : PySem.W.Frag} {m : Mp} {H : Hp} {S : Sto} (rs : RS m H S) {v : V} {t : T} (h : Rp m H v t) (p : (valT S t).dat 60 = true) : Dp K H v (valT S t).toD := by
  cases h with
  | @obj a n h =>
    cases q : S[n]? with
    | none => simp [valT, q, T.dat] at p
    | some o =>
      cases o with
      | lst l =>
        simp only [valT, q] at p ⊢
        obtain ⟨b, h1, xs, h2, h3, _⟩ := rs.has n _ q
        rw [h] at h1; cases h1
        exact .lst (SqL.of h2) (RpL.dp (d := 59) (by simpa [T.dat] using p) h3)
      | dic _ l => simp [valT, q, T.dat] at p
      | dlk _ l => simp [valT, q, T.dat] at p
  | scr h o r => simp [valT, T.dat] at p
  | non => exact .non
  | bl b => exact .bl b
  | int i => exact .int i
  | str x => exact .str x
  | tup h o r => exact Rp.dp p (.tup h o r)
  | lst h o r => exact Rp.dp p (.lst h o r)

section
variable {C : PC} {k : Nat} {Γ : Sx}
theorem XOk.units {X : Cx} (ok : XOk C k Γ X) : X.A.units + 64 < cLine := ok.room.units
theorem XOk.units65 {X : Cx} (ok : XOk C k Γ X) : X.A.units + 65 < cLine := by have := ok.room.un; omega
/-! ### ints -/
def iT (c : Int → Int → Bool) (g : Int → Int → T) (S : Sto) : T → T → R T
  | .int i, .int j => R.if (c i j) (.ok (g i j) S)
  | _, _ => .bad
theorem op_i {Cd : Int → Int → Prop} {c : Int → Int → Bool} {g : Int → Int → V} {h : Int → Int → T} (hc : ∀ i j, c i j = true → Cd i j) (hg : ∀ m H i j, Rp m H (g i j) (h i j)) : Op2S C (rI Cd g) (iT c h) := by
  intro W m H S σ u v x y Q rs r1 r2 q
  cases r1 <;> cases r2 <;> first | exact q.elim | skip
  rename_i i j
  obtain ⟨hb, q⟩ := Post.if (r := R.ok (h i j) S) q
  exact ⟨i, j, rfl, rfl, hc i j hb, q.now rs (hg m H i j)⟩
theorem op_i0 {g : Int → Int → V} {h : Int → Int → T} (hg : ∀ m H i j, Rp m H (g i j) (h i j)) : Op2S C (rI0 g) (iT (fun _ _ => true) h) := by
  intro W m H S σ u v x y Q rs r1 r2 q
  cases r1 <;> cases r2 <;> first | exact q.elim | skip
  rename_i i j
  have q : Post C W Rp m H σ Q (R.ok (h i j) S) := q
  exact ⟨i, j, rfl, rfl, q.now rs (hg m H i j)⟩
def subT (S : Sto) (x y : T) : R T := iT (fun _ _ => true) (fun i j => .int (i - j)) S x y
theorem de_sub {a b : Expr} {fa fb : EM} {pos : Pos} (ha : DE C k Γ a fa) (hb : DE C k Γ b fb) : DE C k Γ (.BinOp a .Sub b pos) (e2 subT fa fb) := de_bin (fun X ok => ⟨_, op_sub, op_i0 fun _ _ _ _ => .int _⟩) ha hb
/-- an int of fewer bits -/
def few (n : Nat) (i : Int) : Bool := decide (i.natAbs.log2 < n)
def fdivT (S : Sto) (x y : T) : R T := iT (fun _ j => decide (0 < j) && few 9000 j) (fun i j => .int (i / j)) S x y
theorem de_fdiv {a b : Expr} {fa fb : EM} {pos : Pos} (ha : DE C k Γ a fa) (hb : DE C k Γ b fb) : DE C k Γ (.BinOp a .FloorDiv b pos) (e2 fdivT fa fb) :=
  de_bin (fun X ok => ⟨_, op_fdivW, op_i (fun i j h => by
    simp only [Bool.and_eq_true, few, decide_eq_true_eq] at h
    exact h) fun _ _ _ _ => .int _⟩) ha hb
def modT (S : Sto) (x y : T) : R T := iT (fun _ j => decide (0 < j)) (fun i j => .int (i % j)) S x y
theorem de_mod {a b : Expr} {fa fb : EM} {pos : Pos} (ha : DE C k Γ a fa) (hb : DE C k Γ b fb) : DE C k Γ (.BinOp a .Mod b pos) (e2 modT fa fb) :=
  de_bin (fun X ok => ⟨_, op_mod, op_i (fun i j h => of_decide_eq_true h) fun _ _ _ _ => .int _⟩) ha hb
def powC (i j : Int) : Bool := decide (0 ≤ j) && (decide (j ≤ 1000000) && decide (i.natAbs < 2 ^ 64))
theorem powC_ok {i j : Int} (h : powC i j = true) : CPow i j := by
  simp only [powC, Bool.and_eq_true, decide_eq_true_eq] at h
  exact ⟨h.1, h.2.1, h.2.2⟩
def powT (S : Sto) (x y : T) : R T := iT powC (fun i j => .int (i ^ j.toNat)) S x y
theorem de_pow {a b : Expr} {fa fb : EM} {pos : Pos} (ha : DE C k Γ a fa) (hb : DE C k Γ b fb) : DE C k Γ (.BinOp a .Pow b pos) (e2 powT fa fb) := de_bin (fun X ok => ⟨_, op_pow, op_i (fun i j h => powC_ok h) fun _ _ _ _ => .int _⟩) ha hb
def shlT (S : Sto) (x y : T) : R T := iT powC (fun i j => .int (i * 2 ^ j.toNat)) S x y
theorem de_shl {a b : Expr} {fa fb : EM} {pos : Pos} (ha : DE C k Γ a fa) (hb : DE C k Γ b fb) : DE C k Γ (.BinOp a .LShift b pos) (e2 shlT fa fb) := de_bin (fun X ok => ⟨_, op_shl, op_i (fun i j h => powC_ok h) fun _ _ _ _ => .int _⟩) ha hb
def shrT (S : Sto) (x y : T) : R T := iT (fun _ j => decide (0 ≤ j)) (fun i j => .int (i / 2 ^ j.toNat)) S x y
theorem de_shr {a b : Expr} {fa fb : EM} {pos : Pos} (ha : DE C k Γ a fa) (hb : DE C k Γ b fb) : DE C k Γ (.BinOp a .RShift b pos) (e2 shrT fa fb) := de_bin (fun X ok => ⟨_, op_shr, op_i (fun i j h => of_decide_eq_true h) fun _ _ _ _ => .int _⟩) ha hb
def andT (S : Sto) (x y : T) : R T := iT (fun _ _ => true) (fun i j => .int (Builtin.bitAnd i j)) S x y
theorem de_and2 {a b : Expr} {fa fb : EM} {pos : Pos} (ha : DE C k Γ a fa) (hb : DE C k Γ b fb) : DE C k Γ (.BinOp a .BitAnd b pos) (e2 andT fa fb) := de_bin (fun X ok => ⟨_, op_and, op_i0 fun _ _ _ _ => .int _⟩) ha hb
def ltT (S : Sto) (x y : T) : R T := iT (fun _ _ => true) (fun i j => .bl (decide (i < j))) S x y
def leT (S : Sto) (x y : T) : R T := iT (fun _ _ => true) (fun i j => .bl (decide (i ≤ j))) S x y
def gtT (S : Sto) (x y : T) : R T := iT (fun _ _ => true) (fun i j => .bl (decide (j < i))) S x y
def geT (S : Sto) (x y : T) : R T := iT (fun _ _ => true) (fun i j => .bl (decide (j ≤ i))) S x y

/-! ### == of data -/
def eqT (S : Sto) (x y : T) : R T := R.if ((valT S x).dat 60 && (valT S y).dat 60) (.ok (.bl (T.eqv (valT S x) (valT S y))) S)
def neT (S : Sto) (x y : T) : R T := R.if ((valT S x).dat 60 && (valT S y).dat 60) (.ok (.bl (!T.eqv (valT S x) (valT S y))) S)
theorem op_eqS {K : PySem.W.Frag} : Op2S C (rEqD K) eqT := by
  intro W m H S σ u v x y Q rs r1 r2 q
  obtain ⟨hb, q⟩ := Post.if (r := R.ok _ S) q
  simp only [Bool.and_eq_true] at hb
  refine ⟨_, _, val_dp rs r1 hb.1, val_dp rs r2 hb.2, T.shaped hb.1, T.shaped hb.2, ?_⟩
  rw [T.eqv_toD hb.1 hb.2]
  exact q.now rs (.bl _)
theorem op_neS {K : PySem.W.Frag} : Op2S C (rNeD K) neT := by
  intro W m H S σ u v x y Q rs r1 r2 q
  obtain ⟨hb, q⟩ := Post.if (r := R.ok _ S) q
  simp only [Bool.and_eq_true] at hb
  refine ⟨_, _, val_dp rs r1 hb.1, val_dp rs r2 hb.2, T.shaped hb.1, T.shaped hb.2, ?_⟩
  rw [T.eqv_toD hb.1 hb.2]
  exact q.now rs (.bl _)
/-! ### is None -/
def isNon : T → Bool
  | .non => true
  | _ => false
theorem isNon_ok {m : Mp} {H : Hp} {v : V} {t : T} (h : Rp m H v t) : decide (v = .non) = isNon t := by
  cases h <;> first | rfl | simp [isNon]
def isNT (S : Sto) (x y : T) : R T := R.if (isNon y) (.ok (.bl (isNon x)) S)
def notNT (S : Sto) (x y : T) : R T := R.if (isNon y) (.ok (.bl (!isNon x)) S)
theorem op_isNS : Op2S C (fun x y H Q => y = .non ∧ Q (.bl (decide (x = .non))) H) isNT := by
  intro W m H S σ u v x y Q rs r1 r2 q
  obtain ⟨hb, q⟩ := Post.if (r := R.ok _ S) q
  exact ⟨by rw [← isNon_ok r2] at hb; exact of_decide_eq_true hb, by rw [isNon_ok r1]; exact q.now rs (.bl _)⟩
theorem op_notNS : Op2S C (fun x y H Q => y = .non ∧ Q (.bl (!decide (x = .non))) H) notNT := by
  intro W m H S σ u v x y Q rs r1 r2 q
  obtain ⟨hb, q⟩ := Post.if (r := R.ok _ S) q
  exact ⟨by rw [← isNon_ok r2] at hb; exact of_decide_eq_true hb, by rw [isNon_ok r1]; exact q.now rs (.bl _)⟩
end
end Mi
end

section
set_option Elab.async false
set_option linter.all false
set_option maxRecDepth 100000
set_option maxHeartbeats 1000000
/-! Mi4: sums, products, tests, places, parts -/
namespace Mi
open PySem PySem.Spec L2
section
variable {C : PC} {k : Nat} {Γ : Sx}

/-! ### x + y -/
def addT (S : Sto) : T → T → R T
  | .int i, .int j => .ok (.int (i + j)) S
  | .str a, .str b => R.if (decide (a.length + b.length ≤ line)) (.ok (.str (a ++ b)) S)
  | .tup a, .tup b => R.if (decide (a.length + b.length ≤ line)) (.ok (.tup (a ++ b)) S)
  | _, _ => .bad
def rAddA (K : PySem.W.Frag) : R2 := fun x y H Q => (rI0 fun i j => .int (i + j)) x y H Q ∨ (fun (x y : V) (H : Hp) (Q : VK) => ∃ i j, x = .str i ∧ y = .str j ∧ i.length + j.length ≤ sizeLine ∧ Q (.str (i ++ j)) H) x y H Q ∨ rCatA K x y H Q
theorem op_addA {X : Cx} : OpR X (binaryOp .Add) (rAddA X.K) := op_add.or (op_add_str.or op_catA)
theorem rpl_nil {m : Mp} {H : Hp} {xs : List V} {ts : List T} (r : RpL m H xs ts) : xs = [] ↔ ts = [] := by
  constructor
  · intro e; subst e; cases r; rfl
  · intro e; subst e; cases r; rfl
theorem op_addS {K : PySem.W.Frag} : Op2S C (rAddA K) addT := by
  intro W m H S σ u v x y Q rs r1 r2 q
  cases r1 with
  | int i =>
    cases r2 with
    | int j => exact .inl ⟨i, j, rfl, rfl, q.now rs (.int _)⟩
    | _ => exact q.elim
  | str a =>
    cases r2 with
    | str b =>
      obtain ⟨hb, q⟩ := Post.if (r := R.ok _ S) q
      exact .inr (.inl ⟨a, b, rfl, rfl, line_le hb, q.now rs (.str _)⟩)
    | _ => exact q.elim
  | @tup a xs ts h o r =>
    cases r2 with
    | @tup b ys us h' o' r' =>
      obtain ⟨hb, q⟩ := Post.if (r := R.ok _ S) q
      refine .inr (.inr ⟨a, b, xs, ys, rfl, rfl, .of h, .of h', by rw [r.length, r'.length]; exact line_le hb, fun e => ?_, fun _ e => ?_, fun _ _ p hp => ?_⟩)
      · have e' := (rpl_nil r).mp e
        subst e'
        exact q.now rs (.tup h' o' r')
      · have e' := (rpl_nil r').mp e
        subst e'
        rw [List.append_nil] at q
        exact q.now rs (.tup h o r)
      · exact q.ext (.alloc hp) rs (.newTup rs hp (r.append r'))
    | _ => exact q.elim
  | _ => exact q.elim
theorem de_add {a b : Expr} {fa fb : EM} {pos : Pos} (ha : DE C k Γ a fa) (hb : DE C k Γ b fb) : DE C k Γ (.BinOp a .Add b pos) (e2 addT fa fb) := de_bin (fun X ok => ⟨_, op_addA, op_addS⟩) ha hb
/-- xs + ys, two lists: a new one -/
def nCat (a b : EM) : LM := fun ρ S => (a ρ S).bind fun x S1 => (b ρ S1).bind fun y S2 => match rdL S2 x, rdL S2 y with
  | some l, some l' => R.if (decide (l.length + l'.length ≤ line)) (.ok (l ++ l') S2)
  | _, _ => .bad
theorem dn_cat {a b : Expr} {fa fb : EM} {pos : Pos} (ha : DE C k Γ a fa) (hb : DE C k Γ b fb) : DN C k Γ (.BinOp a .Add b pos) (nCat fa fb) := fun X W ok tk =>
  PE.weak (pe_op op_cat (ha X W ok tk) (hb X W ok tk)) fun σ H Q ⟨m, ρ, S, re, rs, h⟩ => ⟨m, ρ, S, re, rs, (Post.bindN h).mono fun u H1 ⟨m1, x, S1, l1, rs1, r1, q1⟩ => ⟨m1, ρ, S1, re.le l1, rs1, (Post.bindN q1).mono fun v H2 ⟨m2, y, S2, l2, rs2, r2, q2⟩ => by
    cases e1 : rdL S2 x with
    | none => rw [e1] at q2; exact q2.elim
    | some l =>
      cases e2 : rdL S2 y with
      | none => rw [e1, e2] at q2; exact q2.elim
      | some l' =>
        rw [e1, e2] at q2
        obtain ⟨hb, q2⟩ := q2.if
        obtain ⟨p1, xs, rfl, h1, x1⟩ := rdL_ok rs2 (r1.le l2) e1
        obtain ⟨p2, ys, rfl, h2, x2⟩ := rdL_ok rs2 r2 e2
        have hz : xs.length + ys.length ≤ sizeLine := by rw [x1.length, x2.length]; exact line_le hb
        exact ⟨p1, p2, xs, ys, rfl, rfl, h1, h2, hz, fun p hp => q2 m2 H2 p (xs ++ ys) .refl rs2 hp (x1.append x2) (by rw [List.length_append]; exact hz)⟩⟩⟩
/-! ### x * y -/
def mulT (S : Sto) : T → T → R T
  | .int i, .int j => R.if (decide (i.natAbs.log2 + j.natAbs.log2 < 1000000)) (.ok (.int (i * j)) S)
  | .tup a, .int n => R.if (decide (a ≠ []) && (decide (2 ≤ n) && (decide (n ≤ 1000) && decide (a.length ≤ 1000)))) (.ok (.tup (List.replicate n.toNat a).flatten) S)
  | _, _ => .bad
theorem RpL.rep {m : Mp} {H : Hp} {xs : List V} {ts : List T} (r : RpL m H xs ts) : ∀ n : Nat, RpL m H (List.replicate n xs).flatten (List.replicate n ts).flatten
  | 0 => by simpa using RpL.nil
  | n + 1 => by
    rw [List.replicate_succ, List.replicate_succ, List.flatten_cons, List.flatten_cons]
    exact r.append (RpL.rep r n)
def rMulA (K : PySem.W.Frag) : R2 := fun x y H Q => (rI CMulW fun i j => .int (i * j)) x y H Q ∨ rRepT K x y H Q
theorem op_mulA {X : Cx} : OpR X (binaryOp .Mult) (rMulA X.K) := op_mulW.or op_repT
theorem op_mulS {K : PySem.W.Frag} : Op2S C (rMulA K) mulT := by
  intro W m H S σ u v x y Q rs r1 r2 q
  cases r1 with
  | int i =>
    cases r2 with
    | int j =>
      obtain ⟨hb, q⟩ := Post.if (r := R.ok _ S) q
      have hb' : i.natAbs.log2 + j.natAbs.log2 < 1000000 := of_decide_eq_true hb
      exact .inl ⟨i, j, rfl, rfl, hb', q.now rs (.int _)⟩
    | _ => exact q.elim
  | @tup a xs ts h o r =>
    cases r2 with
    | int n =>
      obtain ⟨hb, q⟩ := Post.if (r := R.ok _ S) q
      simp only [Bool.and_eq_true, decide_eq_true_eq] at hb
      exact .inr ⟨a, n, xs, rfl, rfl, .of h, fun e => hb.1 ((rpl_nil r).mp e), hb.2.1, hb.2.2.1, by rw [r.length]; exact hb.2.2.2, fun p hp => q.ext (.alloc hp) rs (.newTup rs hp (r.rep _))⟩
    | _ => exact q.elim
  | _ => exact q.elim
theorem de_mul {a b : Expr} {fa fb : EM} {pos : Pos} (ha : DE C k Γ a fa) (hb : DE C k Γ b fb) : DE C k Γ (.BinOp a .Mult b pos) (e2 mulT fa fb) := de_bin (fun X ok => ⟨_, op_mulA, op_mulS⟩) ha hb
/-- xs * n: a new list -/
def nRep (a b : EM) : LM := fun ρ S => (a ρ S).bind fun x S1 => (b ρ S1).bind fun y S2 => match rdL S2 x, y with
  | some l, .int n => R.if (decide (-(2 ^ 63) ≤ n) && (decide (n < 2 ^ 63) && decide (l.length * n.toNat ≤ line))) (.ok (List.replicate n.toNat l).flatten S2)
  | _, _ => .bad
theorem dn_rep {a b : Expr} {fa fb : EM} {pos : Pos} (ha : DE C k Γ a fa) (hb : DE C k Γ b fb) : DN C k Γ (.BinOp a .Mult b pos) (nRep fa fb) := fun X W ok tk =>
  PE.weak (pe_op op_rep (ha X W ok tk) (hb X W ok tk)) fun σ H Q ⟨m, ρ, S, re, rs, h⟩ => ⟨m, ρ, S, re, rs, (Post.bindN h).mono fun u H1 ⟨m1, x, S1, l1, rs1, r1, q1⟩ => ⟨m1, ρ, S1, re.le l1, rs1, (Post.bindN q1).mono fun v H2 ⟨m2, y, S2, l2, rs2, r2, q2⟩ => by
    cases e1 : rdL S2 x with
    | none => rw [e1] at q2; exact q2.elim
    | some l =>
      rw [e1] at q2
      obtain ⟨p1, xs, rfl, h1, x1⟩ := rdL_ok rs2 (r1.le l2) e1
      cases r2 with
      | int n =>
        obtain ⟨hb, q2⟩ := q2.if
        simp only [Bool.and_eq_true, decide_eq_true_eq] at hb
        have hz : xs.length * n.toNat ≤ sizeLine := by rw [x1.length, sizeLine_eq]; exact hb.2.2
        have hl : (List.replicate n.toNat xs).flatten.length = xs.length * n.toNat := by rw [PyProof.Rows.lm_len_rep_flat, Nat.mul_comm]
        exact ⟨p1, n, xs, rfl, rfl, h1, hb.1, hb.2.1, hz, fun p hp => q2 m2 H2 p _ .refl rs2 hp (x1.rep _) (by rw [hl]; exact hz)⟩
      | _ => exact q2.elim⟩⟩

/-! ### one-place operators -/
def Un1S (C : PC) (r : V → Hp → VK → Prop) (f : Sto → T → R T) : Prop := ∀ {W : WX} {m : Mp} {H : Hp} {S : Sto} {σ : St} {u : V} {x : T} {Q : VK}, RS m H S → Rp m H u x → Post C W Rp m H σ Q (f S x) → r u H Q
def negT (S : Sto) : T → R T
  | .int i => .ok (.int (-i)) S
  | _ => .bad
theorem de_neg {a : Expr} {fa : EM} {pos : Pos} (ha : DE C k Γ a fa) : DE C k Γ (.UnaryOp .USub a pos) (e1 negT fa) :=
  .mk fun X W ok tk => ⟨_, pe_un un_neg (ha X W ok tk), fun σ H Q ⟨m, ρ, S, re, rs, h⟩ => ⟨m, ρ, S, re, rs, (Post.bind h).mono fun u H1 ⟨m1, x, S1, l1, rs1, r1, q1⟩ => by
    cases r1 with
    | int i => exact ⟨i, rfl, q1.now rs1 (.int _)⟩
    | _ => exact q1.elim⟩⟩

/-! ### truth -/
def truT (S : Sto) : T → Option Bool
  | .non => some false
  | .bl b => some b
  | .int i => some (i != 0)
  | .tup l => some (!l.isEmpty)
  | .lst l => some (!l.isEmpty)
  | .obj n => match S[n]? with
    | some (.lst l) => some (!l.isEmpty)
    | _ => none
  | _ => none
theorem rpl_empty {m : Mp} {H : Hp} {xs : List V} {ts : List T} (r : RpL m H xs ts) : (!ts.isEmpty) = !xs.isEmpty := by cases r <;> rfl
theorem truT_ok {K : PySem.W.Frag} {m : Mp} {H : Hp} {S : Sto} (rs : RS m H S) {v : V} {t : T} {b : Bool} (h : Rp m H v t) (e : truT S t = some b) : TruV K v H b := by
  cases h with
  | non => cases e; rfl
  | bl b' => cases e; rfl
  | int i => cases e; rfl
  | tup h o r => cases e; exact .inr (.inl ⟨_, .of h, rpl_empty r⟩)
  | lst h o r => cases e; exact .inl ⟨_, .of h, rpl_empty r⟩
  | @obj a n h =>
    cases q : S[n]? with
    | none => simp [truT, q] at e
    | some o =>
      cases o with
      | lst l =>
        simp only [truT, q, Option.some.injEq] at e
        subst e
        obtain ⟨b, h1, xs, h2, h3, _⟩ := rs.has n _ q
        rw [h] at h1; cases h1
        exact .inl ⟨_, .of h2, rpl_empty h3⟩
      | dic _ l => simp [truT, q] at e
      | dlk _ l => simp [truT, q] at e
  | _ => cases e
def bTru (f : EM) : BM := fun ρ S => (f ρ S).bind fun t S1 => match truT S1 t with
  | some b => .ok b S1
  | none => .bad
/-- an expression that is no test of its own form -/
def plainTest : Expr → Bool
  | .UnaryOp .Not _ _ => false
  | .BoolOp _ _ _ => false
  | .IfExp _ _ _ _ => false
  | .Compare _ _ _ _ => false
  | _ => true
theorem db_tru {e : Expr} {f : EM} (h : DE C k Γ e f) (hp : plainTest e = true) : DB C k Γ e (bTru f) :=
  .mk fun X W ok tk => by
    refine ⟨_, pt_truth (h X W ok tk) ?_, fun σ H Q ⟨m, ρ, S, re, rs, q⟩ => ⟨m, ρ, S, re, rs, (Post.bind q).mono fun u H1 ⟨m1, x, S1, l1, rs1, r1, q1⟩ => ?_⟩⟩
    · intro whole
      cases e with
      | UnaryOp op x p => cases op <;> first | rfl | cases hp
      | BoolOp _ _ _ => cases hp
      | IfExp _ _ _ _ => cases hp
      | Compare _ _ _ _ => cases hp
      | _ => rfl
    · cases e : truT S1 x with
      | none => simp [e, Post] at q1
      | some b =>
        simp only [e] at q1
        exact ⟨b, truT_ok rs1 r1 e, q1.now rs1 rfl⟩
/-- a comparison as a test -/
def bVal (f : EM) : BM := fun ρ S => (f ρ S).bind fun t S1 => match t with
  | .bl b => .ok b S1
  | _ => .bad
theorem db_cmp {op : CmpOp} {a b : Expr} {fa fb : EM} {f : Sto → T → T → R T} {pos : Pos} (hr : ∀ X, XOk C k Γ X → ∃ r, OpR X (compareOp op) r ∧ Op2S C r f) (ha : DE C k Γ a fa) (hb : DE C k Γ b fb) (hm : behindInMarks op b = false) : DB C k Γ (.Compare a [op] [b] pos) (bVal (e2 f fa fb)) :=
  .mk fun X W ok tk => by
    obtain ⟨r, h1, h2⟩ := hr X ok
    refine ⟨_, pt_cmpR h1 (ha X W ok tk) (hb X W ok tk) hm, fun σ H Q ⟨m, ρ, S, re, rs, h⟩ => two (X := X) (a := a) (b := b) h2 ⟨m, ρ, S, re, rs, (Post.bind h).mono fun u H1 ⟨m1, x, S1, l1, rs1, r1, q1⟩ => ?_⟩⟩
    cases r1 with
    | bl b => exact ⟨b, rfl, q1.now rs1 rfl⟩
    | _ => exact q1.elim
def bNot (f : BM) : BM := fun ρ S => (f ρ S).bind fun b S1 => .ok (!b) S1
theorem db_not {a : Expr} {f : BM} {pos : Pos} (h : DB C k Γ a f) : DB C k Γ (.UnaryOp .Not a pos) (bNot f) :=
  .mk fun X W ok tk => ⟨_, pt_not (h X W ok tk), fun σ H Q ⟨m, ρ, S, re, rs, q⟩ => ⟨m, ρ, S, re, rs, (Post.bind q).mono fun u H1 ⟨m1, x, S1, l1, rs1, r1, q1⟩ => by
    subst r1; exact q1.now rs1 rfl⟩⟩
/-- and, or as tests -/
def DW (C : PC) (k : Nat) (Γ : Sx) (op : BoolOp) (es : List Expr) (f : BM) : Prop := ∀ X W pos, XOk C k Γ X → Takes X W → PW X (.BoolOp op es pos) (trB C W f)
def bAnd (f g : BM) : BM := fun ρ S => (f ρ S).bind fun b S1 => match b with
  | true => g ρ S1
  | false => .ok false S1
def bOr (f g : BM) : BM := fun ρ S => (f ρ S).bind fun b S1 => match b with
  | true => .ok true S1
  | false => g ρ S1
theorem PW.weak {X : Cx} {e : Expr} {t t' : TT} (h : PW X e t) (i : ∀ σ H Q, t' σ H Q → t σ H Q) : PW X e t' := ⟨fun wh pins s σ H Q I hq => h.run wh pins s σ H Q I (i _ _ _ hq)⟩
theorem dw_one {op : BoolOp} {a : Expr} {f : BM} (h : DB C k Γ a f) : DW C k Γ op [a] f := fun X W pos ok tk => by
  cases op with
  | And => exact pw_and1 (h X W ok tk)
  | Or => exact pw_or1 (h X W ok tk)
theorem dw_and {a b : Expr} {es : List Expr} {f g : BM} (h : DB C k Γ a f) (h2 : DW C k Γ .And (b :: es) g) : DW C k Γ .And (a :: b :: es) (bAnd f g) := fun X W pos ok tk =>
  PW.weak (pw_and (h X W ok tk) (h2 X W pos ok tk)) fun σ H Q ⟨m, ρ, S, re, rs, q⟩ => ⟨m, ρ, S, re, rs, (Post.bind q).mono fun u H1 ⟨m1, x, S1, l1, rs1, r1, q1⟩ => by
    subst r1
    cases u with
    | true => exact ⟨m1, ρ, S1, re.le l1, rs1, q1⟩
    | false => exact q1.now rs1 rfl⟩
theorem dw_or {a b : Expr} {es : List Expr} {f g : BM} (h : DB C k Γ a f) (h2 : DW C k Γ .Or (b :: es) g) : DW C k Γ .Or (a :: b :: es) (bOr f g) := fun X W pos ok tk =>
  PW.weak (pw_or (h X W ok tk) (h2 X W pos ok tk)) fun σ H Q ⟨m, ρ, S, re, rs, q⟩ => ⟨m, ρ, S, re, rs, (Post.bind q).mono fun u H1 ⟨m1, x, S1, l1, rs1, r1, q1⟩ => by
    subst r1
    cases u with
    | false => exact ⟨m1, ρ, S1, re.le l1, rs1, q1⟩
    | true => exact q1.now rs1 rfl⟩
theorem db_bool {op : BoolOp} {es : List Expr} {f : BM} {pos : Pos} (h : DW C k Γ op es f) : DB C k Γ (.BoolOp op es pos) f := fun X W ok tk => (h X W pos ok tk).pt
/-- and, or as values: all but the last are True or False -/
def eAnd (f g : EM) : EM := fun ρ S => (f ρ S).bind fun t S1 => match t with
  | .bl true => g ρ S1
  | .bl false => .ok (.bl false) S1
  | _ => .bad
def eOr (f g : EM) : EM := fun ρ S => (f ρ S).bind fun t S1 => match t with
  | .bl true => .ok (.bl true) S1
  | .bl false => g ρ S1
  | _ => .bad
def DV (C : PC) (k : Nat) (Γ : Sx) (op : BoolOp) (es : List Expr) (f : EM) : Prop := ∀ pos, DE C k Γ (.BoolOp op es pos) f
theorem dv_one {op : BoolOp} {a : Expr} {f : EM} (h : DE C k Γ a f) : DV C k Γ op [a] f := fun pos => .mk fun X W ok tk => ⟨_, pe_one (h X W ok tk), fun _ _ _ q => q⟩
theorem dv_and {a b : Expr} {es : List Expr} {f g : EM} (h : DE C k Γ a f) (h2 : DV C k Γ .And (b :: es) g) : DV C k Γ .And (a :: b :: es) (eAnd f g) := fun pos =>
  .mk fun X W ok tk => ⟨_, pe_and (h X W ok tk) (h2 pos X W ok tk), fun σ H Q ⟨m, ρ, S, re, rs, q⟩ => ⟨m, ρ, S, re, rs, (Post.bind q).mono fun u H1 ⟨m1, x, S1, l1, rs1, r1, q1⟩ => by
    cases r1 with
    | bl b =>
      refine ⟨b, rfl, ?_⟩
      cases b with
      | true => exact ⟨m1, ρ, S1, re.le l1, rs1, q1⟩
      | false => exact q1.now rs1 (.bl false)
    | _ => exact q1.elim⟩⟩
theorem dv_or {a b : Expr} {es : List Expr} {f g : EM} (h : DE C k Γ a f) (h2 : DV C k Γ .Or (b :: es) g) : DV C k Γ .Or (a :: b :: es) (eOr f g) := fun pos =>
  .mk fun X W ok tk => ⟨_, pe_or (h X W ok tk) (h2 pos X W ok tk), fun σ H Q ⟨m, ρ, S, re, rs, q⟩ => ⟨m, ρ, S, re, rs, (Post.bind q).mono fun u H1 ⟨m1, x, S1, l1, rs1, r1, q1⟩ => by
    cases r1 with
    | bl b =>
      refine ⟨b, rfl, ?_⟩
      cases b with
      | false => exact ⟨m1, ρ, S1, re.le l1, rs1, q1⟩
      | true => exact q1.now rs1 (.bl true)
    | _ => exact q1.elim⟩⟩
def eNot (f : EM) : EM := fun ρ S => (f ρ S).bind fun t S1 => match t with
  | .bl b => .ok (.bl (!b)) S1
  | _ => .bad
theorem de_not {a : Expr} {f : EM} {pos : Pos} (h : DE C k Γ a f) : DE C k Γ (.UnaryOp .Not a pos) (eNot f) :=
  .mk fun X W ok tk => ⟨_, pe_not (h X W ok tk), fun σ H Q ⟨m, ρ, S, re, rs, q⟩ => ⟨m, ρ, S, re, rs, (Post.bind q).mono fun u H1 ⟨m1, x, S1, l1, rs1, r1, q1⟩ => by
    cases r1 with
    | bl b => exact ⟨b, rfl, q1.now rs1 (.bl _)⟩
    | _ => exact q1.elim⟩⟩
def eIf (c : BM) (f g : EM) : EM := fun ρ S => (c ρ S).bind fun b S1 => match b with
  | true => f ρ S1
  | false => g ρ S1
theorem de_if {c a b : Expr} {fc : BM} {f g : EM} {pos : Pos} (hc : DB C k Γ c fc) (ha : DE C k Γ a f) (hb : DE C k Γ b g) : DE C k Γ (.IfExp c a b pos) (eIf fc f g) :=
  .mk fun X W ok tk => ⟨_, pe_ifExp (hc X W ok tk) (ha X W ok tk) (hb X W ok tk), fun σ H Q ⟨m, ρ, S, re, rs, q⟩ => ⟨m, ρ, S, re, rs, (Post.bind q).mono fun u H1 ⟨m1, x, S1, l1, rs1, r1, q1⟩ => by
    subst r1
    cases u with
    | true => exact ⟨m1, ρ, S1, re.le l1, rs1, q1⟩
    | false => exact ⟨m1, ρ, S1, re.le l1, rs1, q1⟩⟩⟩
/-- a op b op' c -/
def eChain (f g : Sto → T → T → R T) (a b c : EM) : EM := fun ρ S => (a ρ S).bind fun x S1 => (b ρ S1).bind fun y S2 => (f S2 x y).bind fun r S3 => match r with
  | .bl true => (c ρ S3).bind fun z S4 => g S4 y z
  | .bl false => .ok (.bl false) S3
  | _ => .bad
/-- an operator's rule by values, its result bound -/
theorem Op2S.bound {r : R2} {f : Sto → T → T → R T} (hf : Op2S C r f) {W : WX} {m : Mp} {H : Hp} {S : Sto} {σ : St} {u v : V} {x y : T} {Q : VK} {g : T → Sto → R T} (rs : RS m H S) (r1 : Rp m H u x) (r2 : Rp m H v y)
    (h : Post C W Rp m H σ Q ((f S x y).bind g)) : r u v H (Mid C W Rp Rp m H σ Q g) := hf rs r1 r2 (Post.bind h)
theorem chain_ok {W : WX} {f g : Sto → T → T → R T} {r r' : R2} (hf : Op2S C r f) (hg : Op2S C r' g) {fa fb fc : EM} {σ : St} {H : Hp} {Q : VK} (h : tr C W (eChain f g fa fb fc) σ H Q) : tChain r r' (tr C W fa) (tr C W fb) (tr C W fc) σ H Q := by
  obtain ⟨m, ρ, S, re, rs, h⟩ := h
  refine ⟨m, ρ, S, re, rs, (Post.bind h).mono fun u H1 ⟨m1, x, S1, l1, rs1, r1, q1⟩ => ⟨m1, ρ, S1, re.le l1, rs1, (Post.bind q1).mono fun v H2 ⟨m2, y, S2, l2, rs2, r2, q2⟩ => ?_⟩⟩
  refine hf (m := m2) (S := S2) (σ := σ) (W := W) rs2 (r1.le l2) r2 ((Post.bind q2).mono fun z H3 ⟨m3, t, S3, l3, rs3, r3, q3⟩ => ?_)
  cases r3 with
  | bl b =>
    refine ⟨b, rfl, ?_⟩
    cases b with
    | true =>
      rw [if_pos rfl]
      exact ⟨m3, ρ, S3, ((re.le l1).le l2).le l3, rs3, (Post.bind q3).mono fun w H4 ⟨m4, y', S4, l4, rs4, r4, q4⟩ => hg rs4 ((r2.le l3).le l4) r4 q4⟩
    | false =>
      rw [if_neg Bool.false_ne_true]
      exact q3.now rs3 (.bl false)
  | _ => exact q3.elim
theorem de_chain {op op' : CmpOp} {a b c : Expr} {fa fb fc : EM} {f g : Sto → T → T → R T} {pos : Pos} (hr : ∀ X, XOk C k Γ X → ∃ r, OpR X (compareOp op) r ∧ Op2S C r f) (hr' : ∀ X, XOk C k Γ X → ∃ r, OpR X (compareOp op') r ∧ Op2S C r g)
    (ha : DE C k Γ a fa) (hb : DE C k Γ b fb) (hc : DE C k Γ c fc) (hm : lastMarks [op, op'] [b, c] = false) : DE C k Γ (.Compare a [op, op'] [b, c] pos) (eChain f g fa fb fc) :=
  .mk fun X W ok tk => by
    obtain ⟨r, h1, h2⟩ := hr X ok
    obtain ⟨r', h1', h2'⟩ := hr' X ok
    exact ⟨_, pe_chain h1 h1' (ha X W ok tk) (hb X W ok tk) (hc X W ok tk) hm, fun σ H Q h => chain_ok h2 h2' h⟩
theorem db_chain {op op' : CmpOp} {a b c : Expr} {fa fb fc : EM} {f g : Sto → T → T → R T} {pos : Pos} (hr : ∀ X, XOk C k Γ X → ∃ r, OpR X (compareOp op) r ∧ Op2S C r f) (hr' : ∀ X, XOk C k Γ X → ∃ r, OpR X (compareOp op') r ∧ Op2S C r g)
    (ha : DE C k Γ a fa) (hb : DE C k Γ b fb) (hc : DE C k Γ c fc) (hm : lastMarks [op, op'] [b, c] = false) : DB C k Γ (.Compare a [op, op'] [b, c] pos) (bVal (eChain f g fa fb fc)) :=
  .mk fun X W ok tk => by
    obtain ⟨r, h1, h2⟩ := hr X ok
    obtain ⟨r', h1', h2'⟩ := hr' X ok
    refine ⟨_, pt_chain h1 h1' (ha X W ok tk) (hb X W ok tk) (hc X W ok tk) hm, fun σ H Q ⟨m, ρ, S, re, rs, h⟩ => chain_ok h2 h2' ⟨m, ρ, S, re, rs, (Post.bind h).mono fun u H1 ⟨m1, x, S1, l1, rs1, r1, q1⟩ => ?_⟩⟩
    cases r1 with
    | bl b => exact ⟨b, rfl, q1.now rs1 rfl⟩
    | _ => exact q1.elim
end
end Mi
end

section
set_option Elab.async false
set_option linter.all false
set_option maxRecDepth 100000
set_option maxHeartbeats 1000000
/-! Mi5: places, parts, built-ins -/
namespace Mi
open PySem PySem.Spec L2
section
variable {C : PC} {k : Nat} {Γ : Sx}

/-! ### x[i] -/
/-- a sequence's items -/
def seqT (S : Sto) : T → Option (List T)
  | .tup l => some l
  | .scr l => some l
  | t => rdL S t
theorem seqT_ok {K : PySem.W.Frag} {m : Mp} {H : Hp} {S : Sto} (rs : RS m H S) {v : V} {t : T} {l : List T} (h : Rp m H v t) (e : seqT S t = some l) : ∃ a xs, v = .ref a ∧ (SqL K H a xs ∨ SqT K H a xs) ∧ RpL m H xs l := by
  cases h with
  | tup h o r => cases e; exact ⟨_, _, rfl, .inr (.of h), r⟩
  | scr h o r => cases e; exact ⟨_, _, rfl, .inl (.inl (.inr ⟨_, h⟩)), r⟩
  | lst h o r => cases e; exact ⟨_, _, rfl, .inl (.of h), r⟩
  | obj h =>
    obtain ⟨a, xs, h1, h2, h3⟩ := rdL_ok rs (.obj h) e
    exact ⟨a, xs, h1, .inl (.of h2), h3⟩
  | _ => cases e
def ixT (S : Sto) (x y : T) : R T := match x, y with
  | .str z, .int i => (match atI z.cps.toList i with
    | some c => R.if (decide (z.length ≤ line)) (.ok (.str ⟨#[c]⟩) S)
    | none => .bad)
  | x, .int i => (match seqT S x with
    | some l => (match atI l i with
      | some t => .ok t S
      | none => .bad)
    | none => .bad)
  | _, _ => .bad
theorem atI_rp {m : Mp} {H : Hp} {xs : List V} {l : List T} {i : Int} {t : T} (r : RpL m H xs l) (e : atI l i = some t) : ∃ v, atI xs i = some v ∧ Rp m H v t := by
  unfold atI at e ⊢
  rw [r.length]
  cases q : ixN l.length i with
  | none => rw [q] at e; cases e
  | some j =>
    rw [q] at e
    exact r.get (show l[j]? = some t from e)
theorem op_ixS {K : PySem.W.Frag} : Op2S C (rIx K) ixT := by
  intro W m H S σ u v x y Q rs r1 r2 q
  cases r2 with
  | int i =>
    by_cases hs : ∃ z, x = .str z
    · obtain ⟨z, rfl⟩ := hs
      cases r1
      unfold ixT at q
      cases e : atI z.cps.toList i with
      | none => simp only [e] at q; exact q.elim
      | some c =>
        simp only [e] at q
        obtain ⟨hb, q⟩ := Post.if (r := R.ok _ S) q
        exact .inr (.inr ⟨z, i, c, rfl, rfl, line_le hb, e, q.now rs (.str _)⟩)
    · have q' : Post C W Rp m H σ Q (match seqT S x with
        | some l => (match atI l i with
          | some t => .ok t S
          | none => .bad)
        | none => .bad) := by
        cases x with
        | str z => exact absurd ⟨z, rfl⟩ hs
        | _ => exact q
      cases e : seqT S x with
      | none => simp only [e] at q'; exact q'.elim
      | some l =>
        simp only [e] at q'
        cases e2 : atI l i with
        | none => simp only [e2] at q'; exact q'.elim
        | some t =>
          simp only [e2] at q'
          obtain ⟨a, xs, rfl, h1, h2⟩ := seqT_ok (K := K) rs r1 e
          obtain ⟨w, h3, h4⟩ := atI_rp h2 e2
          rcases h1 with h1 | h1
          · exact .inl ⟨a, xs, i, w, rfl, rfl, h1, h3, q'.now rs h4⟩
          · exact .inr (.inl ⟨a, xs, i, w, rfl, rfl, h1, h3, q'.now rs h4⟩)
  | _ => cases x <;> exact q.elim
def plainIx : Expr → Bool
  | .Slice _ _ _ _ => false
  | _ => true
theorem de_ix {a b : Expr} {fa fb : EM} {pos : Pos} (ha : DE C k Γ a fa) (hb : DE C k Γ b fb) (hp : plainIx b = true) : DE C k Γ (.Subscript a b pos) (e2 ixT fa fb) :=
  .mk fun X W ok tk => ⟨_, pe_ix ix_seq (ha X W ok tk) (hb X W ok tk) (fun o i => by cases b <;> first | rfl | cases hp), fun σ H Q h => two (X := X) (a := a) (b := b) op_ixS h⟩

/-! ### x[lo:hi] -/
abbrev OM := Env → Sto → R (Option Int)
def trO (C : PC) (W : WX) (f : OM) : TO := fun σ H Q => ∃ m ρ S, RE m H σ ρ ∧ RS m H S ∧ Post C W (fun _ _ b a => b = a) m H σ Q (f ρ S)
def DO (C : PC) (k : Nat) (Γ : Sx) (e : Option Expr) (f : OM) : Prop := ∀ X W, XOk C k Γ X → Takes X W → PO X e (trO C W f)
theorem PO.weak {X : Cx} {e : Option Expr} {t t' : TO} (h : PO X e t) (i : ∀ σ H Q, t' σ H Q → t σ H Q) : PO X e t' := ⟨fun pins s σ H Q I hq => h.run pins s σ H Q I (i _ _ _ hq)⟩
def oNone : OM := fun _ S => .ok none S
def oSome (f : EM) : OM := fun ρ S => (f ρ S).bind fun t S1 => match t with
  | .int i => .ok (some i) S1
  | _ => .bad
theorem do_none : DO C k Γ none oNone := fun X W ok tk => PO.weak po_none fun σ H Q ⟨m, ρ, S, re, rs, h⟩ => h.now rs rfl
theorem do_some {e : Expr} {f : EM} (h : DE C k Γ e f) : DO C k Γ (some e) (oSome f) := fun X W ok tk => PO.weak (po_some (h X W ok tk)) fun σ H Q ⟨m, ρ, S, re, rs, h⟩ => ⟨m, ρ, S, re, rs, (Post.bind h).mono fun u H1 ⟨m1, x, S1, l1, rs1, r1, q1⟩ => by
  cases r1 with
  | int i => exact ⟨i, rfl, q1.now rs1 rfl⟩
  | _ => exact q1.elim⟩
/-- the items from lo to hi -/
def cutT (l : List T) (lo hi : Option Int) : List T := (l.drop (HT.sIx l.length 0 lo)).take (HT.sIx l.length l.length hi - HT.sIx l.length 0 lo)
theorem cut_rp {m : Mp} {H : Hp} {xs : List V} {l : List T} (r : RpL m H xs l) (lo hi : Option Int) : RpL m H (cutV xs lo hi) (cutT l lo hi) := by
  unfold cutV cutT
  rw [r.length]
  exact (r.drop _).take _
/-- a list's part: a new list -/
def nCut (a : EM) (lo hi : OM) : LM := fun ρ S => (a ρ S).bind fun x S1 => (lo ρ S1).bind fun l S2 => (hi ρ S2).bind fun h S3 => match x with
  | .tup _ => .bad
  | _ => (match seqT S3 x with
    | some xs => R.if (decide (xs.length ≤ line)) (.ok (cutT xs l h) S3)
    | none => .bad)
theorem dn_cut {a : Expr} {lo hi : Option Expr} {fa : EM} {fl fh : OM} {p2 pos : Pos} (ha : DE C k Γ a fa) (hl : DO C k Γ lo fl) (hh : DO C k Γ hi fh) : DN C k Γ (.Subscript a (.Slice lo hi none p2) pos) (nCut fa fl fh) := fun X W ok tk =>
  PE.weak (pe_slice sl_list (ha X W ok tk) (hl X W ok tk) (hh X W ok tk)) fun σ H Q ⟨m, ρ, S, re, rs, h⟩ => ⟨m, ρ, S, re, rs, (Post.bindN h).mono fun u H1 ⟨m1, x, S1, l1, rs1, r1, q1⟩ =>
    ⟨m1, ρ, S1, re.le l1, rs1, (Post.bindN q1).mono fun ol H2 ⟨m2, o2, S2, l2, rs2, e2, q2⟩ => ⟨m2, ρ, S2, (re.le l1).le l2, rs2, (Post.bindN q2).mono fun oh H3 ⟨m3, o3, S3, l3, rs3, e3, q3⟩ => by
      subst e2 e3
      have r3 := (r1.le l2).le l3
      have q3' : ∃ xs, seqT S3 x = some xs ∧ (∀ y, x ≠ .tup y) ∧ PostN C W m3 H3 σ Q (R.if (decide (xs.length ≤ line)) (.ok (cutT xs ol oh) S3)) := by
        cases e : seqT S3 x with
        | none => cases x <;> simp only [e] at q3 <;> exact q3.elim
        | some xs =>
          refine ⟨xs, rfl, ?_, ?_⟩
          · intro y hy; subst hy; exact q3.elim
          · cases x <;> simp only [e] at q3 <;> first | exact q3 | exact q3.elim
      obtain ⟨xs, e, nt, q4⟩ := q3'
      obtain ⟨hb, q4⟩ := q4.if
      have hz := line_le hb
      have key : ∃ p zs, u = .ref p ∧ SqL X.K H3 p zs ∧ RpL m3 H3 zs xs := by
        cases r3 with
        | tup h o r => exact absurd rfl (nt _)
        | scr h o r => cases e; exact ⟨_, _, rfl, .inl (.inr ⟨_, h⟩), r⟩
        | lst h o r => cases e; exact ⟨_, _, rfl, .of h, r⟩
        | obj h =>
          obtain ⟨a, ys, h1, h2, h3⟩ := rdL_ok rs3 (.obj h) e
          exact ⟨a, ys, h1, .of h2, h3⟩
        | _ => cases e
      obtain ⟨p, zs, rfl, h1, h2⟩ := key
      exact ⟨p, zs, rfl, h1, fun p' hp => q4 m3 H3 p' _ .refl rs3 hp (cut_rp h2 _ _) (Nat.le_trans (cutV_length zs ol oh) (by rw [h2.length]; exact hz))⟩⟩⟩⟩
/-- a tuple's part -/
def eCutT (a : EM) (lo hi : OM) : EM := fun ρ S => (a ρ S).bind fun x S1 => (lo ρ S1).bind fun l S2 => (hi ρ S2).bind fun h S3 => match x with
  | .tup xs => .ok (.tup (cutT xs l h)) S3
  | _ => .bad
theorem cutT_whole {l : List T} {lo hi : Option Int} (h : HT.sIx l.length 0 lo = 0 ∧ HT.sIx l.length l.length hi = l.length) : cutT l lo hi = l := by
  unfold cutT
  rw [h.1, h.2]
  simp
theorem de_cutT {a : Expr} {lo hi : Option Expr} {fa : EM} {fl fh : OM} {p2 pos : Pos} (ha : DE C k Γ a fa) (hl : DO C k Γ lo fl) (hh : DO C k Γ hi fh) : DE C k Γ (.Subscript a (.Slice lo hi none p2) pos) (eCutT fa fl fh) :=
  .mk fun X W ok tk => ⟨_, pe_slice sl_tupA (ha X W ok tk) (hl X W ok tk) (hh X W ok tk), fun σ H Q ⟨m, ρ, S, re, rs, h⟩ => ⟨m, ρ, S, re, rs, (Post.bind h).mono fun u H1 ⟨m1, x, S1, l1, rs1, r1, q1⟩ =>
    ⟨m1, ρ, S1, re.le l1, rs1, (Post.bind q1).mono fun ol H2 ⟨m2, o2, S2, l2, rs2, e2, q2⟩ => ⟨m2, ρ, S2, (re.le l1).le l2, rs2, (Post.bind q2).mono fun oh H3 ⟨m3, o3, S3, l3, rs3, e3, q3⟩ => by
      subst e2 e3
      have r3 := (r1.le l2).le l3
      cases r3 with
      | @tup p zs ts h o r =>
        refine ⟨p, zs, rfl, .of h, fun e => ?_, fun e p' hp => ?_⟩
        · rw [r.length] at e
          have q3' : Post C W Rp m3 H3 σ Q (.ok (.tup (cutT ts ol oh)) S3) := q3
          rw [cutT_whole e] at q3'
          exact q3'.now rs3 (Rp.tup h o r)
        · have q3' : Post C W Rp m3 H3 σ Q (.ok (.tup (cutT ts ol oh)) S3) := q3
          exact q3'.ext (.alloc hp) rs3 (Rp.newTup rs3 hp (cut_rp r _ _))
      | _ => exact q3.elim⟩⟩⟩⟩
/-- either: what x is tells which -/
def eEither (f g : EM) (c : EM) : EM := fun ρ S => (c ρ S).bind fun x _ => match x with
  | .tup _ => f ρ S
  | _ => g ρ S

/-! ### built-ins -/
def CallS (C : PC) (r : List V → Hp → VK → Prop) (f : Sto → List T → R T) : Prop := ∀ {W : WX} {m : Mp} {H : Hp} {S : Sto} {σ : St} {us : List V} {xs : List T} {Q : VK}, RS m H S → RpL m H us xs → Post C W Rp m H σ Q (f S xs) → r us H Q
def eB (f : Sto → List T → R T) (g : AM) : EM := fun ρ S => (g ρ S).bind fun xs S1 => f S1 xs
theorem de_callB {x : Str} {id : String} {e : Expr} {es : List Expr} {g : AM} {f : Sto → List T → R T} {p pos : Pos} (hr : ∀ X, XOk C k Γ X → ∃ r, CallR X (.builtin id) r ∧ CallS C r f) (hg : SGl Γ x) (hm : C.mg x = none)
    (hv : bootBuiltins x = some (.builtin id)) (ha : DAs C k Γ (e :: es) g) (hs : (e :: es).all noStar = true) (hn : x ≠ "__name__") (hd : (x == ("__debug__" : Str)) = false) : DE C k Γ (.Call (.Name x p) (e :: es) [] pos) (eB f g) :=
  .mk fun X W ok tk => by
    obtain ⟨r, h1, h2⟩ := hr X ok
    simp only [List.all_cons, Bool.and_eq_true] at hs
    exact ⟨_, pe_callB h1 (ok.gl hg) (ok.free hm) hv (ha X W ok tk) hn hd (star_cons hs.1) (starAny hs.2), fun σ H Q ⟨m, ρ, S, re, rs, h⟩ => ⟨m, ρ, S, re, rs, (Post.bind h).mono fun us H1 ⟨m1, xs, S1, l1, rs1, r1, q1⟩ => h2 rs1 r1 q1⟩⟩
theorem de_callTy {x : Str} {id : String} {e : Expr} {es : List Expr} {g : AM} {f : Sto → List T → R T} {p pos : Pos} (hr : ∀ X, XOk C k Γ X → ∃ r, CallR X (.type id) r ∧ CallS C r f) (hg : SGl Γ x) (hm : C.mg x = none)
    (hv : bootBuiltins x = some (.type id)) (ha : DAs C k Γ (e :: es) g) (hs : (e :: es).all noStar = true) (hn : x ≠ "__name__") (hd : (x == ("__debug__" : Str)) = false) : DE C k Γ (.Call (.Name x p) (e :: es) [] pos) (eB f g) :=
  .mk fun X W ok tk => by
    obtain ⟨r, h1, h2⟩ := hr X ok
    simp only [List.all_cons, Bool.and_eq_true] at hs
    exact ⟨_, pe_callTy h1 (ok.gl hg) (ok.free hm) hv (ha X W ok tk) hn hd (star_cons hs.1) (starAny hs.2), fun σ H Q ⟨m, ρ, S, re, rs, h⟩ => ⟨m, ρ, S, re, rs, (Post.bind h).mono fun us H1 ⟨m1, xs, S1, l1, rs1, r1, q1⟩ => h2 rs1 r1 q1⟩⟩
def fLen (S : Sto) (xs : List T) : R T := match xs with
  | [.str z] => R.if (decide (z.length ≤ line)) (.ok (.int z.length) S)
  | [x] => (match seqT S x with
    | some l => .ok (.int l.length) S
    | none => .bad)
  | _ => .bad
theorem rpl1 {m : Mp} {H : Hp} {us : List V} {x : T} (r : RpL m H us [x]) : ∃ u, us = [u] ∧ Rp m H u x := by
  cases r with
  | cons h r => cases r; exact ⟨_, rfl, h⟩
theorem rpl2 {m : Mp} {H : Hp} {us : List V} {x y : T} (r : RpL m H us [x, y]) : ∃ u v, us = [u, v] ∧ Rp m H u x ∧ Rp m H v y := by
  cases r with
  | cons h r =>
    obtain ⟨v, rfl, h2⟩ := rpl1 r
    exact ⟨_, _, rfl, h, h2⟩
theorem call_lenS {K : PySem.W.Frag} : CallS C (fun xs H Q => ∃ x n, xs = [x] ∧ LenV K x H n ∧ Q (.int n) H) fLen := by
  intro W m H S σ us xs Q rs r q
  match xs, q with
  | [], q => exact q.elim
  | _ :: _ :: _, q => exact (show False by unfold fLen at q; split at q <;> first | exact q.elim | (rename_i h; cases h)).elim
  | [x], q =>
    obtain ⟨u, rfl, r1⟩ := rpl1 r
    by_cases hs : ∃ z, x = .str z
    · obtain ⟨z, rfl⟩ := hs
      cases r1
      obtain ⟨hb, q⟩ := Post.if (r := R.ok _ S) q
      exact ⟨_, z.length, rfl, ⟨line_le hb, rfl⟩, q.now rs (.int _)⟩
    · have q' : Post C W Rp m H σ Q (match seqT S x with
        | some l => .ok (.int l.length) S
        | none => .bad) := by
        cases x with
        | str z => exact absurd ⟨z, rfl⟩ hs
        | _ => exact q
      cases e : seqT S x with
      | none => simp only [e] at q'; exact q'.elim
      | some l =>
        simp only [e] at q'
        obtain ⟨a, ys, rfl, h1, h2⟩ := seqT_ok (K := K) rs r1 e
        refine ⟨_, ys.length, rfl, ?_, by rw [h2.length]; exact q'.now rs (.int _)⟩
        rcases h1 with h1 | h1
        · exact .inl ⟨ys, h1, rfl⟩
        · exact .inr ⟨ys, h1, rfl⟩
def fInt (S : Sto) : List T → R T
  | [.int i] => .ok (.int i) S
  | [.bl b] => .ok (.int (if b then 1 else 0)) S
  | _ => .bad
theorem call_intS : CallS C (fun xs H Q => (∃ i, xs = [.int i] ∧ Q (.int i) H) ∨ ∃ k, xs = [.bl k] ∧ Q (.int (if k then 1 else 0)) H) fInt := by
  intro W m H S σ us xs Q rs r q
  match xs, q with
  | [], q => exact q.elim
  | x :: _ :: _, q => exact (show False by cases x <;> exact q).elim
  | [x], q =>
    obtain ⟨u, rfl, r1⟩ := rpl1 r
    cases r1 with
    | int i => exact .inl ⟨i, rfl, Post.now q rs (.int _)⟩
    | bl b => exact .inr ⟨b, rfl, Post.now q rs (.int _)⟩
    | _ => exact q.elim
def fAbs (S : Sto) : List T → R T
  | [.int i] => .ok (.int (if i < 0 then -i else i)) S
  | _ => .bad
theorem call_absS : CallS C (fun xs H Q => ∃ i, xs = [.int i] ∧ Q (.int (if i < 0 then -i else i)) H) fAbs := by
  intro W m H S σ us xs Q rs r q
  match xs, q with
  | [], q => exact q.elim
  | x :: _ :: _, q => exact (show False by cases x <;> exact q).elim
  | [x], q =>
    obtain ⟨u, rfl, r1⟩ := rpl1 r
    cases r1 with
    | int i => exact ⟨i, rfl, Post.now q rs (.int _)⟩
    | _ => exact q.elim
/-- tuple(x) -/
def fTup (S : Sto) : List T → R T
  | [.tup l] => .ok (.tup l) S
  | [x] => (match rdL S x with
    | some l => .ok (.tup l) S
    | none => .bad)
  | _ => .bad
theorem call_tupS {K : PySem.W.Frag} : CallS C (fun xs H Q => ∃ p ys, xs = [.ref p] ∧ ((SqL K H p ys ∧ ∀ l, H l = none → Q (.ref l) (upd H l (.tup ys))) ∨ (SqT K H p ys ∧ Q (.ref p) H))) fTup := by
  intro W m H S σ us xs Q rs r q
  match xs, q with
  | [], q => exact q.elim
  | x :: _ :: _, q => exact (show False by cases x <;> exact q).elim
  | [x], q =>
    obtain ⟨u, rfl, r1⟩ := rpl1 r
    cases r1 with
    | @tup a ys ts h o r2 => exact ⟨a, ys, rfl, .inr ⟨.of h, Post.now (a := T.tup ts) q rs (.tup h o r2)⟩⟩
    | @lst a ys ts h o r2 => exact ⟨a, ys, rfl, .inl ⟨.of h, fun l hl => Post.ext (a := T.tup ts) q (.alloc hl) rs (.newTup rs hl r2)⟩⟩
    | @obj a n h =>
      cases e : rdL S (.obj n) with
      | none => simp only [fTup, e] at q; exact q.elim
      | some l =>
        simp only [fTup, e] at q
        obtain ⟨b, ys, h1, h2, h3⟩ := rdL_ok rs (.obj h) e
        cases h1
        exact ⟨_, ys, rfl, .inl ⟨.of h2, fun p hp => Post.ext (a := T.tup l) q (.alloc hp) rs (.newTup rs hp h3)⟩⟩
    | _ => exact q.elim
/-- ints, truth values of a list -/
def intsT : List T → Option (List Int)
  | [] => some []
  | .int i :: l => (intsT l).map (i :: ·)
  | _ => none
def blsT : List T → Option (List Bool)
  | [] => some []
  | .bl i :: l => (blsT l).map (i :: ·)
  | _ => none
theorem intsT_ok {m : Mp} {H : Hp} : ∀ {xs : List V} {l : List T} {ns : List Int}, RpL m H xs l → intsT l = some ns → xs = ns.map V.int
  | _, _, _, .nil, e => by cases e; rfl
  | _, _, _, .cons h r, e => by
    cases h with
    | int i =>
      obtain ⟨ms, h1, h2⟩ := Option.map_eq_some_iff.mp e
      subst h2
      rw [intsT_ok r h1]
      rfl
    | _ => cases e
theorem blsT_ok {m : Mp} {H : Hp} : ∀ {xs : List V} {l : List T} {ns : List Bool}, RpL m H xs l → blsT l = some ns → xs = ns.map V.bl
  | _, _, _, .nil, e => by cases e; rfl
  | _, _, _, .cons h r, e => by
    cases h with
    | bl i =>
      obtain ⟨ms, h1, h2⟩ := Option.map_eq_some_iff.mp e
      subst h2
      rw [blsT_ok r h1]
      rfl
    | _ => cases e
/-- a built-in of one list of ints (truth values) -/
def fInts (g : List Int → Option T) (S : Sto) : List T → R T
  | [x] => (match (rdL S x).bind intsT with
    | some ns => (match g ns with
      | some t => .ok t S
      | none => .bad)
    | none => .bad)
  | _ => .bad
def fBls (g : List Bool → T) (S : Sto) : List T → R T
  | [x] => (match (rdL S x).bind blsT with
    | some ns => .ok (g ns) S
    | none => .bad)
  | _ => .bad
theorem fInts_ok {W : WX} {m : Mp} {H : Hp} {S : Sto} {σ : St} {us : List V} {xs : List T} {Q : VK} {g : List Int → Option T} (rs : RS m H S) (r : RpL m H us xs) (q : Post C W Rp m H σ Q (fInts g S xs)) :
    ∃ a ns t, us = [.ref a] ∧ H a = some (.lst (ns.map V.int)) ∧ g ns = some t ∧ Post C W Rp m H σ Q (.ok t S) := by
  match xs, q with
  | [], q => exact q.elim
  | x :: _ :: _, q => exact q.elim
  | [x], q =>
    obtain ⟨u, rfl, r1⟩ := rpl1 r
    cases e : rdL S x with
    | none => simp only [fInts, e, Option.bind_none] at q; exact q.elim
    | some l =>
      simp only [fInts, e, Option.bind_some] at q
      cases e2 : intsT l with
      | none => simp only [e2] at q; exact q.elim
      | some ns =>
        simp only [e2] at q
        cases e3 : g ns with
        | none => simp only [e3] at q; exact q.elim
        | some t =>
          simp only [e3] at q
          obtain ⟨a, ys, rfl, h1, h2⟩ := rdL_ok rs r1 e
          rw [intsT_ok h2 e2] at h1
          exact ⟨a, ns, t, rfl, h1, e3, q⟩
theorem fBls_ok {W : WX} {m : Mp} {H : Hp} {S : Sto} {σ : St} {us : List V} {xs : List T} {Q : VK} {g : List Bool → T} (rs : RS m H S) (r : RpL m H us xs) (q : Post C W Rp m H σ Q (fBls g S xs)) :
    ∃ a ns, us = [.ref a] ∧ H a = some (.lst (ns.map V.bl)) ∧ Post C W Rp m H σ Q (.ok (g ns) S) := by
  match xs, q with
  | [], q => exact q.elim
  | x :: _ :: _, q => exact q.elim
  | [x], q =>
    obtain ⟨u, rfl, r1⟩ := rpl1 r
    cases e : rdL S x with
    | none => simp only [fBls, e, Option.bind_none] at q; exact q.elim
    | some l =>
      simp only [fBls, e, Option.bind_some] at q
      cases e2 : blsT l with
      | none => simp only [e2] at q; exact q.elim
      | some ns =>
        simp only [e2] at q
        obtain ⟨a, ys, rfl, h1, h2⟩ := rdL_ok rs r1 e
        rw [blsT_ok h2 e2] at h1
        exact ⟨a, ns, rfl, h1, q⟩
def fSum := fInts fun ns => some (.int ns.sum)
def fAll := fBls fun bs => .bl (bs.all id)
def fAny := fBls fun bs => .bl (bs.any id)
def bigI : List Int → Option Int
  | [] => none
  | i :: l => some (l.foldl (fun a b => if b > a then b else a) i)
def leastI : List Int → Option Int
  | [] => none
  | i :: l => some (l.foldl (fun a b => if b < a then b else a) i)
theorem bigI_is : ∀ (l : List Int) (i z : Int), (z = i ∨ z ∈ l) → (∀ y, (y = i ∨ y ∈ l) → y ≤ z) → l.foldl (fun a b => if b > a then b else a) i = z
  | [], i, z, h, _ => by
    rcases h with h | h
    · exact h.symm
    · cases h
  | a :: l, i, z, h, g => by
    rw [List.foldl_cons]
    refine bigI_is l _ z ?_ fun y hy => ?_
    · have h1 := g i (.inl rfl)
      have h2 := g a (.inr List.mem_cons_self)
      rcases h with h | h
      · subst h; left; rw [if_neg (by omega)]
      · rcases List.mem_cons.mp h with h | h
        · subst h
          by_cases c : z > i
          · left; rw [if_pos c]
          · left; rw [if_neg c]; omega
        · exact .inr h
    · rcases hy with hy | hy
      · subst hy
        split
        · exact g a (.inr List.mem_cons_self)
        · exact g i (.inl rfl)
      · exact g y (.inr (List.mem_cons_of_mem _ hy))
theorem leastI_is : ∀ (l : List Int) (i z : Int), (z = i ∨ z ∈ l) → (∀ y, (y = i ∨ y ∈ l) → z ≤ y) → l.foldl (fun a b => if b < a then b else a) i = z
  | [], i, z, h, _ => by
    rcases h with h | h
    · exact h.symm
    · cases h
  | a :: l, i, z, h, g => by
    rw [List.foldl_cons]
    refine leastI_is l _ z ?_ fun y hy => ?_
    · have h1 := g i (.inl rfl)
      have h2 := g a (.inr List.mem_cons_self)
      rcases h with h | h
      · subst h; left; rw [if_neg (by omega)]
      · rcases List.mem_cons.mp h with h | h
        · subst h
          by_cases c : z < i
          · left; rw [if_pos c]
          · left; rw [if_neg c]; omega
        · exact .inr h
    · rcases hy with hy | hy
      · subst hy
        split
        · exact g a (.inr List.mem_cons_self)
        · exact g i (.inl rfl)
      · exact g y (.inr (List.mem_cons_of_mem _ hy))
def fMax := fInts fun ns => (bigI ns).map T.int
def fMin := fInts fun ns => (leastI ns).map T.int
theorem call_sumS {K : PySem.W.Frag} : CallS C (rSum K) fSum := by
  intro W m H S σ us xs Q rs r q
  obtain ⟨a, ns, t, rfl, h, e, q⟩ := fInts_ok rs r q
  cases e
  exact ⟨a, ns, rfl, .of h, q.now rs (.int _)⟩
theorem call_allS {K : PySem.W.Frag} : CallS C (rAll K) fAll := by
  intro W m H S σ us xs Q rs r q
  obtain ⟨a, ns, rfl, h, q⟩ := fBls_ok rs r q
  exact ⟨a, ns, rfl, .of h, q.now rs (.bl _)⟩
theorem call_anyS {K : PySem.W.Frag} : CallS C (rAny K) fAny := by
  intro W m H S σ us xs Q rs r q
  obtain ⟨a, ns, rfl, h, q⟩ := fBls_ok rs r q
  exact ⟨a, ns, rfl, .of h, q.now rs (.bl _)⟩
theorem call_maxS {K : PySem.W.Frag} : CallS C (rMax K) fMax := by
  intro W m H S σ us xs Q rs r q
  obtain ⟨a, ns, t, rfl, h, e, q⟩ := fInts_ok rs r q
  obtain ⟨z, e1, e2⟩ := Option.map_eq_some_iff.mp e
  subst e2
  cases ns with
  | nil => cases e1
  | cons i l =>
    refine ⟨a, _, rfl, .of h, Nat.succ_pos _, fun w h1 h2 => ?_⟩
    have e3 := bigI_is l i w (List.mem_cons.mp h1) fun y hy => h2 y (List.mem_cons.mpr hy)
    have e4 : l.foldl (fun a b => if b > a then b else a) i = z := Option.some.inj e1
    rw [← e3, e4]
    exact q.now rs (.int _)
theorem call_minS {K : PySem.W.Frag} : CallS C (rMin K) fMin := by
  intro W m H S σ us xs Q rs r q
  obtain ⟨a, ns, t, rfl, h, e, q⟩ := fInts_ok rs r q
  obtain ⟨z, e1, e2⟩ := Option.map_eq_some_iff.mp e
  subst e2
  cases ns with
  | nil => cases e1
  | cons i l =>
    refine ⟨a, _, rfl, .of h, Nat.succ_pos _, fun w h1 h2 => ?_⟩
    have e3 := leastI_is l i w (List.mem_cons.mp h1) fun y hy => h2 y (List.mem_cons.mpr hy)
    have e4 : l.foldl (fun a b => if b < a then b else a) i = z := Option.some.inj e1
    rw [← e3, e4]
    exact q.now rs (.int _)
def fTwo (g : Int → Int → Int) (S : Sto) : List T → R T
  | [.int i, .int j] => .ok (.int (g i j)) S
  | _ => .bad
theorem fTwo_ok {W : WX} {m : Mp} {H : Hp} {S : Sto} {σ : St} {us : List V} {xs : List T} {Q : VK} {g : Int → Int → Int} (rs : RS m H S) (r : RpL m H us xs) (q : Post C W Rp m H σ Q (fTwo g S xs)) : ∃ i j, us = [.int i, .int j] ∧ Q (.int (g i j)) H := by
  match xs, r, q with
  | [], r, q => exact q.elim
  | [x], r, q => exact (show False by cases x <;> exact q).elim
  | x :: y :: z :: l, r, q => exact (show False by cases x <;> first | exact q | (cases y <;> exact q)).elim
  | [x, y], r, q =>
    obtain ⟨u, v, rfl, r1, r2⟩ := rpl2 r
    cases r1 with
    | int i =>
      cases r2 with
      | int j => exact ⟨i, j, rfl, Post.now (a := T.int (g i j)) q rs (.int _)⟩
      | _ => exact q.elim
    | _ => exact q.elim
def fMax2 := fTwo fun i j => if j > i then j else i
def fMin2 := fTwo fun i j => if j < i then j else i
/-- list(x): a new one -/
def nList (f : EM) : LM := fun ρ S => (f ρ S).bind fun x S1 => match seqT S1 x with
  | some l => R.if (decide (l.length ≤ line)) (.ok l S1)
  | none => .bad
theorem dn_list {e : Expr} {f : EM} {p pos : Pos} (hg : SGl Γ "list") (hm : C.mg "list" = none) (ha : DE C k Γ e f) (hs : noStar e = true) : DN C k Γ (.Call (.Name "list" p) [e] [] pos) (nList f) := fun X W ok tk =>
  PE.weak (pe_callTy call_list_of (ok.gl hg) (ok.free hm) PyProof.Rows.boot_list (pa_cons (ha X W ok tk) pa_nil (star_cons hs)) (by decide) (by decide) (star_cons hs) rfl) fun σ H Q ⟨m, ρ, S, re, rs, h⟩ => ⟨m, ρ, S, re, rs, (Post.bindN h).mono fun u H1 ⟨m1, x, S1, l1, rs1, r1, q1⟩ => by
    cases e : seqT S1 x with
    | none => simp only [e] at q1; exact q1.elim
    | some l =>
      simp only [e] at q1
      obtain ⟨hb, q1⟩ := q1.if
      obtain ⟨a, ys, rfl, h1, h2⟩ := seqT_ok (K := X.K) rs1 r1 e
      exact ⟨a, ys, rfl, h1, fun p hp => q1 m1 H1 p ys .refl rs1 hp h2 (by rw [h2.length]; exact line_le hb)⟩⟩
/-- isinstance(x, T) -/
def tyT (S : Sto) : T → Option String
  | .non => some "NoneType"
  | .bl _ => some "bool"
  | .int _ => some "int"
  | .str _ => some "str"
  | .tup _ => some "tuple"
  | .lst _ => some "list"
  | .obj n => (match S[n]? with
    | some (.lst _) => some "list"
    | _ => none)
  | .scr _ => none
theorem tyT_ok {K : PySem.W.Frag} {m : Mp} {H : Hp} {S : Sto} (rs : RS m H S) {v : V} {t : T} {n : String} (h : Rp m H v t) (e : tyT S t = some n) : TyX K H v (.type n) := by
  cases h with
  | non => cases e; exact .base .non
  | bl b => cases e; exact .base (.bl b)
  | int i => cases e; exact .base (.int i)
  | str x => cases e; exact .base (.str x)
  | tup h o r => cases e; exact .base (.tup h)
  | lst h o r => cases e; exact .base (.lst h)
  | scr h o r => cases e
  | @obj a i h =>
    cases q : S[i]? with
    | none => simp [tyT, q] at e
    | some o =>
      cases o with
      | lst l =>
        simp only [tyT, q, Option.some.injEq] at e
        subst e
        obtain ⟨b, h1, xs, h2, _, _⟩ := rs.has i _ q
        rw [h] at h1; cases h1
        exact .base (.lst h2)
      | dic _ l => simp [tyT, q] at e
      | dlk _ l => simp [tyT, q] at e
/-- what isinstance says of two built-in types -/
def kinT (a b : String) : Bool := a == b || (a == "bool" && b == "int")
def eIs (n : String) (f : EM) : EM := fun ρ S => (f ρ S).bind fun x S1 => match tyT S1 x with
  | some t => .ok (.bl (kinT t n)) S1
  | none => .bad
def isTys : List String := ["int", "bool", "tuple", "str", "list"]
theorem kin_ok {a b : String} (ha : a ∈ ["NoneType", "bool", "int", "str", "tuple", "list"]) (hb : b ∈ isTys) : kitB a b = some (kinT a b) := by
  have h : ∀ a ∈ ["NoneType", "bool", "int", "str", "tuple", "list"], ∀ b ∈ isTys, decide (kitB a b = some (kinT a b)) = true := by decide +kernel
  exact of_decide_eq_true (h a ha b hb)
theorem tyT_mem {S : Sto} {t : T} {n : String} (e : tyT S t = some n) : n ∈ ["NoneType", "bool", "int", "str", "tuple", "list"] := by
  cases t with
  | obj i =>
    have e' : (match S[i]? with
      | some (.lst _) => some "list"
      | _ => none) = some n := e
    split at e'
    · cases e'; simp
    · cases e'
  | scr l => cases e
  | _ => cases e; simp
theorem de_is {x : Str} {n : String} {e : Expr} {f : EM} {p p2 pos : Pos} (hg : SGl Γ "isinstance") (hm : C.mg "isinstance" = none) (hg2 : SGl Γ x) (hm2 : C.mg x = none)
    (hv : bootBuiltins x = some (.type n)) (hi : n ∈ isTys) (he : DE C k Γ e f) (hs : noStar e = true) (hn : x ≠ "__name__") (hd : (x == ("__debug__" : Str)) = false) : DE C k Γ (.Call (.Name "isinstance" p) [e, .Name x p2] [] pos) (eIs n f) :=
  .mk fun X W ok tk => ⟨_, pe_callB call_isi (ok.gl hg) (ok.free hm) PyProof.Rows.boot_isinstance (pa_cons (he X W ok tk) (pa_cons (pe_bltn (v := .ty n) (ok.gl hg2) (ok.free hm2) hv rfl hn hd) pa_nil rfl) (star_cons hs)) (by decide) (by decide) (star_cons hs) rfl,
    fun σ H Q ⟨m, ρ, S, re, rs, h⟩ => ⟨m, ρ, S, re, rs, (Post.bind h).mono fun u H1 ⟨m1, x, S1, l1, rs1, r1, q1⟩ => by
      cases e : tyT S1 x with
      | none => simp only [e] at q1; exact q1.elim
      | some t =>
        simp only [e] at q1
        exact ⟨u, .ty n, .type t, .type n, kinT t n, rfl, .ty n, tyT_ok rs1 r1 e, kit_ty (kin_ok (tyT_mem e) hi), q1.now rs1 (.bl _)⟩⟩⟩
end
end Mi
end

section
set_option Elab.async false
set_option linter.all false
set_option maxRecDepth 100000
set_option maxHeartbeats 1000000
/-! Mi6: statements -/
namespace Mi
open PySem PySem.Spec L2

mutual
/-- the same tree -/
def T.sam : T → T → Bool
  | .non, .non => true
  | .bl a, .bl b => a == b
  | .int i, .int j => i == j
  | .str x, .str y => decide (x = y)
  | .tup l, .tup r => T.sams l r
  | .lst l, .lst r => T.sams l r
  | .scr l, .scr r => T.sams l r
  | .obj i, .obj j => i == j
  | _, _ => false
def T.sams : List T → List T → Bool
  | [], [] => true
  | x :: xs, y :: ys => T.sam x y && T.sams xs ys
  | _, _ => false
end
mutual
theorem T.sam_eq : ∀ {a b : T}, T.sam a b = true → a = b
  | .non, b, h => by cases b <;> first | rfl | (simp [T.sam] at h)
  | .bl a, b, h => by cases b <;> simp [T.sam] at h; rw [h]
  | .int a, b, h => by cases b <;> simp [T.sam] at h; rw [h]
  | .str a, b, h => by cases b <;> simp [T.sam] at h; rw [h]
  | .obj a, b, h => by cases b <;> simp [T.sam] at h; rw [h]
  | .tup a, b, h => by cases b <;> simp [T.sam] at h; rw [T.sams_eq h]
  | .lst a, b, h => by cases b <;> simp [T.sam] at h; rw [T.sams_eq h]
  | .scr a, b, h => by cases b <;> simp [T.sam] at h; rw [T.sams_eq h]
theorem T.sams_eq : ∀ {a b : List T}, T.sams a b = true → a = b
  | [], b, h => by cases b <;> first | rfl | (simp [T.sams] at h)
  | x :: xs, b, h => by
    cases b with
    | nil => simp [T.sams] at h
    | cons y ys =>
      simp only [T.sams, Bool.and_eq_true] at h
      rw [T.sam_eq h.1, T.sams_eq h.2]
end
mutual
theorem T.sam_refl : ∀ a : T, T.sam a a = true
  | .non => rfl
  | .bl a => by simp [T.sam]
  | .int a => by simp [T.sam]
  | .str a => by simp [T.sam]
  | .obj a => by simp [T.sam]
  | .tup a => by simp only [T.sam]; exact T.sams_refl a
  | .lst a => by simp only [T.sam]; exact T.sams_refl a
  | .scr a => by simp only [T.sam]; exact T.sams_refl a
theorem T.sams_refl : ∀ a : List T, T.sams a a = true
  | [] => rfl
  | x :: xs => by simp only [T.sams, T.sam_refl x, T.sams_refl xs, Bool.and_self]
end

inductive Fl where
  | nx (ρ : Env) | rt (t : T) | bk (ρ : Env) | ct (ρ : Env)
inductive RF where
  | go (f : Fl) (S : Sto)
  | exc (c : Str) (fs : List (Str × T)) (ρ : Env) (S : Sto)
  | bad
abbrev SM := Env → Sto → RF
def R.then {α : Type} (r : R α) (ρ : Env) (k : α → Sto → RF) : RF := match r with
  | .ok a S => k a S
  | .exc c fs S => .exc c fs ρ S
  | .bad => .bad
section
variable (C : PC) (W : WX)
def PostS (m : Mp) (H : Hp) (D : Ends) : RF → Prop
  | .go (.nx ρ) S => ∀ m' H' σ', Le m H m' H' → RS m' H' S → RE m' H' σ' ρ → D.nx σ' H'
  | .go (.bk ρ) S => ∀ m' H' σ', Le m H m' H' → RS m' H' S → RE m' H' σ' ρ → D.bk σ' H'
  | .go (.ct ρ) S => ∀ m' H' σ', Le m H m' H' → RS m' H' S → RE m' H' σ' ρ → D.ct σ' H'
  | .go (.rt t) S => ∀ m' H' v, Le m H m' H' → RS m' H' S → Rp m' H' v t → D.rt v H'
  | .exc c fs ρ S => ∀ m' H' σ' d, Le m H m' H' → RS m' H' S → RE m' H' σ' ρ → ExcAt m' H' d fs → W (.ref (C.cls c)) (some d) σ' H'
  | .bad => False
def trS (f : SM) : TS := fun D σ H => ∃ m ρ S, RE m H σ ρ ∧ RS m H S ∧ PostS C W m H D (f ρ S)
end
def DS (C : PC) (k : Nat) (Γ : Sx) (st : Stmt) (f : SM) : Prop := ∀ X W, XOk C k Γ X → Takes X W → PS X st (trS C W f)
def DSs (C : PC) (k : Nat) (Γ : Sx) (st : List Stmt) (f : SM) : Prop := ∀ X W, XOk C k Γ X → Takes X W → PSs X st (trS C W f)
theorem PS.weak {X : Cx} {e : Stmt} {t t' : TS} (h : PS X e t) (i : ∀ D σ H, t' D σ H → t D σ H) : PS X e t' := ⟨fun pins s σ H D I hq => h.run pins s σ H D I (i _ _ _ hq)⟩
theorem PSs.weak {X : Cx} {e : List Stmt} {t t' : TS} (h : PSs X e t) (i : ∀ D σ H, t' D σ H → t D σ H) : PSs X e t' := ⟨fun pins s σ H D I hq => h.run pins s σ H D I (i _ _ _ hq)⟩
section
variable {C : PC} {W : WX} {k : Nat} {Γ : Sx}
theorem PostS.le {m m1 : Mp} {H H1 : Hp} {D : Ends} (l : Le m H m1 H1) : ∀ {r : RF}, PostS C W m H D r → PostS C W m1 H1 D r
  | .go (.nx _) _, h => fun m' H' σ' l' => h m' H' σ' (l.trans l')
  | .go (.bk _) _, h => fun m' H' σ' l' => h m' H' σ' (l.trans l')
  | .go (.ct _) _, h => fun m' H' σ' l' => h m' H' σ' (l.trans l')
  | .go (.rt _) _, h => fun m' H' v l' => h m' H' v (l.trans l')
  | .exc _ _ _ _, h => fun m' H' σ' d l' => h m' H' σ' d (l.trans l')
  | .bad, h => h
theorem PostS.then {α β : Type} {rel : Mp → Hp → β → α → Prop} {m : Mp} {H : Hp} {σ : St} {ρ : Env} {D : Ends} {g : α → Sto → RF} (re : RE m H σ ρ) : ∀ {r : R α}, PostS C W m H D (r.then ρ g) →
    Post C W rel m H σ (fun b H1 => ∃ m1 a S1, Le m H m1 H1 ∧ RS m1 H1 S1 ∧ rel m1 H1 b a ∧ PostS C W m1 H1 D (g a S1)) r
  | .ok a S, h => fun m' H' b l rs x => ⟨m', a, S, l, rs, x, PostS.le (r := g a S) l h⟩
  | .exc _ _ _, h => fun m' H' d l rs x => h m' H' σ d l rs (re.le l) x
  | .bad, h => h
theorem PostS.thenN {m : Mp} {H : Hp} {σ : St} {ρ : Env} {D : Ends} {g : List T → Sto → RF} (re : RE m H σ ρ) : ∀ {r : R (List T)}, PostS C W m H D (r.then ρ g) →
    PostN C W m H σ (fun b H1 => ∃ m1 p xs l S1 H0, b = .ref p ∧ H1 = upd H0 p (.lst xs) ∧ H0 p = none ∧ Le m H m1 H0 ∧ RS m1 H0 S1 ∧ RpL m1 H0 xs l ∧ PostS C W m1 H0 D (g l S1)) r
  | .ok a S, h => fun m' H' p xs l rs hp x _ => ⟨m', p, xs, a, S, H', rfl, rfl, hp, l, rs, x, PostS.le (r := g a S) l h⟩
  | .exc _ _ _, h => fun m' H' d l rs x => h m' H' σ d l rs (re.le l) x
  | .bad, h => h
def RF.if (b : Bool) (r : RF) : RF := match b with
  | true => r
  | false => .bad
theorem PostS.if {m : Mp} {H : Hp} {D : Ends} {b : Bool} {r : RF} (h : PostS C W m H D (RF.if b r)) : b = true ∧ PostS C W m H D r := by
  cases b with
  | true => exact ⟨rfl, h⟩
  | false => exact h.elim

/-! ### blocks -/
def sNil : SM := fun ρ S => .go (.nx ρ) S
def RF.seq (r : RF) (g : SM) : RF := match r with
  | .go (.nx ρ) S => g ρ S
  | r => r
def sSeq (f g : SM) : SM := fun ρ S => (f ρ S).seq g
theorem PostS.seq {m : Mp} {H : Hp} {D : Ends} {g : SM} : ∀ {r : RF}, PostS C W m H D (r.seq g) → PostS C W m H { D with nx := trS C W g D } r
  | .go (.nx ρ) S, h => fun m' H' σ' l rs re => ⟨m', ρ, S, re, rs, PostS.le (r := g ρ S) l h⟩
  | .go (.bk _) _, h => h
  | .go (.ct _) _, h => h
  | .go (.rt _) _, h => h
  | .exc _ _ _ _, h => h
  | .bad, h => h
theorem dss_nil : DSs C k Γ [] sNil := fun X W ok tk => PSs.weak pss_nil fun D σ H ⟨m, ρ, S, re, rs, h⟩ => h m H σ .refl rs re
theorem dss_cons {st : Stmt} {r : List Stmt} {f g : SM} (h1 : DS C k Γ st f) (h2 : DSs C k Γ r g) : DSs C k Γ (st :: r) (sSeq f g) := fun X W ok tk =>
  PSs.weak (pss_cons (h1 X W ok tk) (h2 X W ok tk)) fun D σ H ⟨m, ρ, S, re, rs, h⟩ => ⟨m, ρ, S, re, rs, h.seq⟩
theorem ds_pass {pos : Pos} : DS C k Γ (.Pass pos) sNil := fun X W ok tk => PS.weak ps_pass fun D σ H ⟨m, ρ, S, re, rs, h⟩ => h m H σ .refl rs re
def sBreak : SM := fun ρ S => .go (.bk ρ) S
def sCont : SM := fun ρ S => .go (.ct ρ) S
theorem ds_break {pos : Pos} : DS C k Γ (.Break pos) sBreak := fun X W ok tk => PS.weak ps_break fun D σ H ⟨m, ρ, S, re, rs, h⟩ => h m H σ .refl rs re
theorem ds_cont {pos : Pos} : DS C k Γ (.Continue pos) sCont := fun X W ok tk => PS.weak ps_continue fun D σ H ⟨m, ρ, S, re, rs, h⟩ => h m H σ .refl rs re
def sDrop (f : EM) : SM := fun ρ S => (f ρ S).then ρ fun _ S1 => .go (.nx ρ) S1
/-- no comprehension -/
def noComp : Expr → Bool
  | .ListComp _ _ _ _ => false
  | .SetComp _ _ _ _ => false
  | .DictComp _ _ _ _ _ => false
  | _ => true
theorem swaps_no {e : Expr} (h : noComp e = true) (t : Option Expr) (n : Nat) (env : PySem.Env) : swapsWith e t n env = pure false := by
  cases e <;> first | rfl | cases h
theorem ds_expr {e : Expr} {f : EM} {pos : Pos} (h : DE C k Γ e f) (hc : noComp e = true) : DS C k Γ (.Expr e pos) (sDrop f) := fun X W ok tk =>
  PS.weak (ps_expr (h X W ok tk) (swaps_no hc _ _ _)) fun D σ H ⟨m, ρ, S, re, rs, q⟩ => ⟨m, ρ, S, re, rs, (PostS.then re q).mono fun u H1 ⟨m1, x, S1, l1, rs1, r1, q1⟩ => q1 m1 H1 σ .refl rs1 (re.le l1)⟩
def sRet (f : EM) : SM := fun ρ S => (f ρ S).then ρ fun t S1 => .go (.rt t) S1
theorem ds_ret {e : Expr} {f : EM} {pos : Pos} (h : DE C k Γ e f) : DS C k Γ (.Return (some e) pos) (sRet f) := fun X W ok tk =>
  PS.weak (ps_ret (h X W ok tk)) fun D σ H ⟨m, ρ, S, re, rs, q⟩ => ⟨m, ρ, S, re, rs, (PostS.then re q).mono fun u H1 ⟨m1, x, S1, l1, rs1, r1, q1⟩ => q1 m1 H1 u .refl rs1 r1⟩
theorem ds_retN {pos : Pos} : DS C k Γ (.Return none pos) (sRet (eC .non)) := fun X W ok tk =>
  PS.weak ps_retN fun D σ H ⟨m, ρ, S, re, rs, q⟩ => q m H .non .refl rs .non
def sIf (c : BM) (f g : SM) : SM := fun ρ S => (c ρ S).then ρ fun b S1 => match b with
  | true => f ρ S1
  | false => g ρ S1
theorem ds_if {c : Expr} {a b : List Stmt} {fc : BM} {f g : SM} {pos : Pos} (hc : DB C k Γ c fc) (ha : DSs C k Γ a f) (hb : DSs C k Γ b g) : DS C k Γ (.If c a b pos) (sIf fc f g) := fun X W ok tk =>
  PS.weak (ps_if (hc X W ok tk) (ha X W ok tk) (hb X W ok tk)) fun D σ H ⟨m, ρ, S, re, rs, q⟩ => ⟨m, ρ, S, re, rs, (PostS.then re q).mono fun u H1 ⟨m1, x, S1, l1, rs1, r1, q1⟩ => by
    subst r1
    cases u with
    | true => exact ⟨m1, ρ, S1, re.le l1, rs1, q1⟩
    | false => exact ⟨m1, ρ, S1, re.le l1, rs1, q1⟩⟩

/-! ### name = e -/
def sSet (i : Nat) (f : EM) : SM := fun ρ S => (f ρ S).then ρ fun t S1 => .go (.nx (ρ.set i (some t))) S1
theorem XOk.loc {X : Cx} (ok : XOk C k Γ X) {x : Str} (h : Loc Γ.sc x) : Loc X.env.scope x := by rw [ok.sc]; exact h
/-- a name that may be stored here -/
def Sto1 (Γ : Sx) (x : Str) : Prop := Loc Γ.sc x ∧ (Γ.fn x = true ∨ Γ.sc.names.lookup x = some .local)
theorem XOk.fnOr {X : Cx} (ok : XOk C k Γ X) {x : Str} (h : Sto1 Γ x) : X.fn x = true ∨ X.env.scope.names.lookup x = some .local := by
  rcases h.2 with h | h
  · exact .inl (ok.fn x h)
  · rw [ok.sc]; exact .inr h
theorem ds_set {i : Nat} {x : Str} {e : Expr} {f : EM} {pos pos' : Pos} (hi : Γ.N[i]? = some x) (hx : Sto1 Γ x) (h : DE C k Γ e f) (hc : noComp e = true) : DS C k Γ (.Assign [.Name x pos'] e pos) (sSet i f) := fun X W ok tk =>
  PS.weak (ps_set (by rw [ok.N]; exact ok.nd) (ok.name hi) (ok.loc hx.1) (h X W ok tk) (swaps_no hc _ _ _) (ok.fnOr hx)) fun D σ H ⟨m, ρ, S, re, rs, q⟩ => ⟨m, ρ, S, re, rs, (PostS.then re q).mono fun u H1 ⟨m1, x, S1, l1, rs1, r1, q1⟩ => q1 m1 H1 _ .refl rs1 ((re.le l1).set r1 i)⟩
/-- name op= e -/
def sAug (i : Nat) (g : Sto → T → T → R T) (f : EM) : SM := fun ρ S => match ρ[i]? with
  | some (some x) => (f ρ S).then ρ fun y S1 => (g S1 x y).then ρ fun z S2 => .go (.nx (ρ.set i (some z))) S2
  | _ => .bad
theorem ds_aug {i : Nat} {x : Str} {e : Expr} {op : Operator} {f : EM} {g : Sto → T → T → R T} {pos pos' : Pos} (hi : Γ.N[i]? = some x) (hx : Sto1 Γ x) (hr : ∀ X, XOk C k Γ X → ∃ r, OpR X (inplaceOp op) r ∧ Op2S C r g) (h : DE C k Γ e f) : DS C k Γ (.AugAssign (.Name x pos') op e pos) (sAug i g f) := fun X W ok tk => by
  obtain ⟨r, h1, h2⟩ := hr X ok
  refine PS.weak (ps_aug (by rw [ok.N]; exact ok.nd) (ok.name hi) (ok.loc hx.1) (h X W ok tk) (fun pins s σ H a b v u Q I ra rb q => h1 pins s σ H a b v u Q I ra rb q) (ok.fnOr hx)) fun D σ H ⟨m, ρ, S, re, rs, q⟩ => ?_
  unfold sAug at q
  cases e : ρ[i]? with
  | none => simp only [e] at q; exact q.elim
  | some o =>
    cases o with
    | none => simp only [e] at q; exact q.elim
    | some t =>
      simp only [e] at q
      obtain ⟨v, e1, r1⟩ := re.2 i t e
      exact ⟨v, e1, m, ρ, S, re, rs, (PostS.then re q).mono fun u H1 ⟨m1, y, S1, l1, rs1, r2, q1⟩ => h2 (W := W) (σ := σ) rs1 (r1.le l1) r2 ((PostS.then (re.le l1) q1).mono fun z H2 ⟨m2, z', S2, l2, rs2, r3, q2⟩ => q2 m2 H2 _ .refl rs2 (((re.le l1).le l2).set r3 i))⟩
theorem iadd_i {X : Cx} : OpR X (inplaceOp .Add) (rI0 fun i j => .int (i + j)) := iop_add
def iaddT (S : Sto) : T → T → R T
  | .int i, .int j => .ok (.int (i + j)) S
  | .obj n, y => (match S[n]?, rdL S y with
    | some (.lst l), some l' => R.if (decide (l.length + l'.length ≤ line) && T.pures l') (.ok (.obj n) (S.set n (.lst (l ++ l'))))
    | _, _ => .bad)
  | _, _ => .bad
theorem pures_append {l l' : List T} (h : T.pures l = true) (h' : T.pures l' = true) : T.pures (l ++ l') = true := by
  induction l with
  | nil => exact h'
  | cons a l ih =>
    simp only [T.pures, Bool.and_eq_true, List.cons_append] at h ⊢
    exact ⟨h.1, ih h.2⟩
def rIaddA : R2 := fun x y H Q => (rI0 fun i j => .int (i + j)) x y H Q ∨ rExt2 x y H Q
theorem op_iaddS : Op2S C rIaddA iaddT := by
  intro W m H S σ u v x y Q rs r1 r2 q
  cases r1 with
  | int i =>
    cases r2 with
    | int j => exact .inl ⟨i, j, rfl, rfl, q.now rs (.int _)⟩
    | _ => exact q.elim
  | @obj a n h =>
    have q' : Post C W Rp m H σ Q (match S[n]?, rdL S y with
    | some (.lst l), some l' => R.if (decide (l.length + l'.length ≤ line) && T.pures l') (.ok (.obj n) (S.set n (.lst (l ++ l'))))
    | _, _ => .bad) := q
    cases e1 : S[n]? with
    | none => simp only [e1] at q'; exact q'.elim
    | some o =>
      cases o with
      | dic _ l => simp only [e1] at q'; exact q'.elim
      | dlk _ l => simp only [e1] at q'; exact q'.elim
      | lst l =>
        cases e2 : rdL S y with
        | none => simp only [e1, e2] at q'; exact q'.elim
        | some l' =>
          simp only [e1, e2] at q'
          obtain ⟨hb, q'⟩ := Post.if q'
          simp only [Bool.and_eq_true] at hb
          obtain ⟨b, h1, xs, h2, h3, h4⟩ := rs.has n _ e1
          rw [h] at h1; cases h1
          obtain ⟨c, ys, rfl, h5, h6⟩ := rdL_ok rs r2 e2
          obtain ⟨l1, rs1⟩ := put_lst rs (fun _ _ z => by rw [h2] at z; cases z) h (h3.append h6) (pures_append h4 hb.2)
          exact .inr ⟨a, c, xs, ys, rfl, rfl, h2, h5, by rw [h3.length, h6.length]; exact line_le hb.1, q' m _ _ l1 rs1 (.obj h)⟩
  | _ => exact q.elim
theorem ds_augAdd {i : Nat} {x : Str} {e : Expr} {f : EM} {pos pos' : Pos} (hi : Γ.N[i]? = some x) (hx : Sto1 Γ x) (h : DE C k Γ e f) : DS C k Γ (.AugAssign (.Name x pos') .Add e pos) (sAug i iaddT f) :=
  ds_aug hi hx (fun X ok => ⟨_, iop_add.or iop_ext, op_iaddS⟩) h
theorem ds_augSub {i : Nat} {x : Str} {e : Expr} {f : EM} {pos pos' : Pos} (hi : Γ.N[i]? = some x) (hx : Sto1 Γ x) (h : DE C k Γ e f) : DS C k Γ (.AugAssign (.Name x pos') .Sub e pos) (sAug i subT f) :=
  ds_aug hi hx (fun X ok => ⟨_, iop_sub, op_i0 fun _ _ _ _ => .int _⟩) h

/-! ### o[i] = e; methods that change a list -/
def sSub (fo fi fe : EM) : SM := fun ρ S => (fe ρ S).then ρ fun v S1 => (fo ρ S1).then ρ fun o S2 => (fi ρ S2).then ρ fun j S3 => match o, j with
  | .obj n, .int z => (match S3[n]? with
    | some (.lst l) => (match ixN l.length z with
      | some p => RF.if v.pure (.go (.nx ρ) (S3.set n (.lst (l.set p v))))
      | none => .bad)
    | _ => .bad)
  | _, _ => .bad
theorem pures_set {v : T} (h : v.pure = true) : ∀ {l : List T} (p : Nat), T.pures l = true → T.pures (l.set p v) = true
  | [], _, _ => rfl
  | a :: l, 0, h' => by
    simp only [T.pures, Bool.and_eq_true, List.set_cons_zero] at h' ⊢
    exact ⟨h, h'.2⟩
  | a :: l, p + 1, h' => by
    simp only [T.pures, Bool.and_eq_true, List.set_cons_succ] at h' ⊢
    exact ⟨h'.1, pures_set h p h'.2⟩
theorem ds_sub {o i e : Expr} {fo fi fe : EM} {tpos pos : Pos} (ho : DE C k Γ o fo) (hi : DE C k Γ i fi) (he : DE C k Γ e fe) (hc : noComp e = true) (hp : plainIx i = true) : DS C k Γ (.Assign [.Subscript o i tpos] e pos) (sSub fo fi fe) := fun X W ok tk =>
  PS.weak (ps_asg (he X W ok tk) (pg_sub (ho X W ok tk) (hi X W ok tk) set_list (fun v => by cases i <;> first | rfl | cases hp)) (show swapsWith e (some (.Subscript o i tpos)) pos.line X.env = pure false from swaps_no hc _ _ _)) fun D σ H ⟨m, ρ, S, re, rs, q⟩ =>
    ⟨m, ρ, S, re, rs, (PostS.then re q).mono fun u H1 ⟨m1, v, S1, l1, rs1, r1, q1⟩ => ⟨m1, ρ, S1, re.le l1, rs1, (PostS.then (re.le l1) q1).mono fun w H2 ⟨m2, o', S2, l2, rs2, r2, q2⟩ =>
      ⟨m2, ρ, S2, (re.le l1).le l2, rs2, (PostS.then ((re.le l1).le l2) q2).mono fun z H3 ⟨m3, j, S3, l3, rs3, r3, q3⟩ => by
        have r2' := r2.le l3
        cases r2' with
        | @obj a n h =>
          cases r3 with
          | int z' =>
            have q3' : PostS C W m3 H3 D (match S3[n]? with
              | some (.lst l) => (match ixN l.length z' with
                | some p => RF.if v.pure (.go (.nx ρ) (S3.set n (.lst (l.set p v))))
                | none => .bad)
              | _ => .bad) := q3
            cases e1 : S3[n]? with
            | none => simp only [e1] at q3'; exact q3'.elim
            | some ob =>
              cases ob with
              | dic _ l => simp only [e1] at q3'; exact q3'.elim
              | dlk _ l => simp only [e1] at q3'; exact q3'.elim
              | lst l =>
                simp only [e1] at q3'
                cases e2 : ixN l.length z' with
                | none => simp only [e2] at q3'; exact q3'.elim
                | some p =>
                  simp only [e2] at q3'
                  obtain ⟨hb, q3'⟩ := q3'.if
                  obtain ⟨b, h1, xs, h2, h3, h4⟩ := rs3.has n _ e1
                  rw [h] at h1; cases h1
                  obtain ⟨l5, rs5⟩ := put_lst rs3 (fun _ _ z => by rw [h2] at z; cases z) h (h3.set ((r1.le l2).le l3) p) (pures_set hb p h4)
                  exact ⟨a, xs, z', p, rfl, rfl, h2, by rw [h3.length]; exact e2, q3' m3 _ σ l5 rs5 ((((re.le l1).le l2).le l3).le l5)⟩
          | _ => exact q3.elim
        | _ => cases r3 <;> exact q3.elim⟩⟩⟩
end
end Mi
end

section
set_option Elab.async false
set_option linter.all false
set_option maxRecDepth 100000
set_option maxHeartbeats 1000000
/-! Mi7: methods of lists, targets, loops -/
namespace Mi
open PySem PySem.Spec L2
section
variable {C : PC} {W : WX} {k : Nat} {Γ : Sx}

/-! ### x.append(e), x.pop() -/
def plainBase : Expr → Bool
  | .Name _ _ => true
  | .Subscript _ _ _ => true
  | _ => false
theorem base_plain {o : Expr} {f : Str} {env : PySem.Env} (h : plainBase o = true) : attributeBase o f env (eval o env) = eval o env := by
  cases o <;> first | rfl | cases h
theorem few_one {e : Expr} {env : PySem.Env} {cpos : Pos} (h : noStar e = true) : ((backTo cpos (starEach (e :: []) env)).all (fun x => !x.1) && (backToKw cpos (keywordEach [] env)).all (fun x => x.1.isSome)
      && decide ((e :: ([] : List Expr)).length + ([] : List Keyword).length + (if ([] : List Keyword).isEmpty then 0 else 1) < 30)) = true := by
  rw [star_cons h]; rfl
/-- a list method of an obj: its number and its list -/
def lstOf (S : Sto) : T → Option (Nat × List T)
  | .obj n => (match S[n]? with
    | some (.lst l) => some (n, l)
    | _ => none)
  | _ => none
theorem lstOf_ok {m : Mp} {H : Hp} {S : Sto} (rs : RS m H S) {v : V} {t : T} {n : Nat} {l : List T} (r : Rp m H v t) (e : lstOf S t = some (n, l)) : t = .obj n ∧ S[n]? = some (.lst l) ∧ ∃ a xs, v = .ref a ∧ m n = some a ∧ H a = some (.lst xs) ∧ RpL m H xs l ∧ T.pures l = true := by
  cases r with
  | @obj a i h =>
    unfold lstOf at e
    cases q : S[i]? with
    | none => simp [q] at e
    | some o =>
      cases o with
      | lst l' =>
        simp only [q, Option.some.injEq, Prod.mk.injEq] at e
        obtain ⟨rfl, rfl⟩ := e
        obtain ⟨b, h1, xs, h2, h3, h4⟩ := rs.has _ _ q
        rw [h] at h1; cases h1
        exact ⟨rfl, q, _, xs, rfl, h, h2, h3, h4⟩
      | dic _ l' => simp [q] at e
      | dlk _ l' => simp [q] at e
  | _ => cases e
def eApp (fo fe : EM) : EM := fun ρ S => (fo ρ S).bind fun x S1 => match lstOf S1 x with
  | some _ => (fe ρ S1).bind fun v S2 => (match lstOf S2 x with
    | some (n, l) => R.if (decide (l.length < line) && v.pure) (.ok .non (S2.set n (.lst (l ++ [v]))))
    | none => .bad)
  | none => .bad
theorem de_app {o e : Expr} {fo fe : EM} {apos cpos : Pos} (ho : DE C k Γ o fo) (he : DE C k Γ e fe) (hb : plainBase o = true) (hs : noStar e = true) (hl : (apos.endLine == cpos.line) = true) : DE C k Γ (.Call (.Attribute o "append" apos) [e] [] cpos) (eApp fo fe) :=
  .mk fun X W ok tk => ⟨_, pe_bm PySem.F.plainAttrs_list PySem.F.slot_list_append PySem.F.type_list_append mt_append (ho X W ok tk) (pa_cons (he X W ok tk) pa_nil (star_cons hs)) (base_plain hb) (few_one hs) hl (star_cons hs) rfl,
    fun σ H Q ⟨m, ρ, S, re, rs, h⟩ => ⟨m, ρ, S, re, rs, (Post.bind h).mono fun u H1 ⟨m1, x, S1, l1, rs1, r1, q1⟩ => by
      cases e1 : lstOf S1 x with
      | none => simp only [e1] at q1; exact q1.elim
      | some p =>
        simp only [e1] at q1
        obtain ⟨rfl, e2, a, xs, rfl, ha, hx, rx, px⟩ := lstOf_ok rs1 r1 e1
        refine ⟨.inl ⟨rfl, xs, .of hx⟩, m1, ρ, S1, re.le l1, rs1, (Post.bind q1).mono fun w H2 ⟨m2, v, S2, l2, rs2, r2, q2⟩ => ?_⟩
        cases e3 : lstOf S2 (.obj p.1) with
        | none => simp only [e3] at q2; exact q2.elim
        | some p2 =>
          obtain ⟨n2, l⟩ := p2
          simp only [e3] at q2
          obtain ⟨hb, q2⟩ := Post.if q2
          simp only [Bool.and_eq_true, decide_eq_true_eq] at hb
          obtain ⟨z1, e4, b, ys, z2, hb2, hy, ry, py⟩ := lstOf_ok rs2 (r1.le l2) e3
          cases z1; cases z2
          obtain ⟨l5, rs5⟩ := put_lst rs2 (fun _ _ z => by rw [hy] at z; cases z) hb2 (ry.append (.cons r2 .nil)) (pures_append py (by simp only [T.pures, hb.2, Bool.and_self]))
          exact ⟨a, ys, w, rfl, rfl, hy, by rw [ry.length, sizeLine_eq]; exact hb.1, q2 m2 _ _ l5 rs5 .non⟩⟩⟩

/-! ### targets -/
abbrev GM := T → Env → Option Env
abbrev GMs := List T → Env → Option Env
/-- the slots but these are as they were -/
def Outs (sl : List Nat) (σ σ' : St) : Prop := σ'.length = σ.length ∧ ∀ i, i ∉ sl → σ'[i]? = σ[i]?
theorem Outs.refl {sl : List Nat} {σ : St} : Outs sl σ σ := ⟨rfl, fun _ _ => rfl⟩
theorem Outs.trans {a b : List Nat} {σ σ1 σ2 : St} (h : Outs a σ σ1) (h' : Outs b σ1 σ2) : Outs (a ++ b) σ σ2 :=
  ⟨h'.1.trans h.1, fun i hi => (h'.2 i fun z => hi (List.mem_append_right _ z)).trans (h.2 i fun z => hi (List.mem_append_left _ z))⟩
/-- Hs: a part of the heap that tells all of it -/
def trG (g : GM) (sl : List Nat) : TG := fun v σ H Q => ∃ m Hs ρ t, (∀ a u, Hs a = some u → H a = some u) ∧ RE m Hs σ ρ ∧ Rp m Hs v t ∧ match g t ρ with
  | some ρ' => ∀ σ', RE m Hs σ' ρ' → Outs sl σ σ' → Q σ' H
  | none => False
def trGs (g : GMs) (sl : List Nat) : TGs := fun vs σ H Q => ∃ m Hs ρ ts, (∀ a u, Hs a = some u → H a = some u) ∧ RE m Hs σ ρ ∧ RpL m Hs vs ts ∧ match g ts ρ with
  | some ρ' => ∀ σ', RE m Hs σ' ρ' → Outs sl σ σ' → Q σ' H
  | none => False
def DG (C : PC) (k : Nat) (Γ : Sx) (tg : Expr) (g : GM) (sl : List Nat) : Prop := ∀ X, XOk C k Γ X → PG X tg (trG g sl)
def DGs (C : PC) (k : Nat) (Γ : Sx) (tg : List Expr) (g : GMs) (sl : List Nat) : Prop := ∀ X, XOk C k Γ X → PGs X tg (trGs g sl)
theorem PG.weak {X : Cx} {e : Expr} {t t' : TG} (h : PG X e t) (i : ∀ v σ H Q, t' v σ H Q → t v σ H Q) : PG X e t' := ⟨fun pins s σ H v u Q I r hq => h.run pins s σ H v u Q I r (i _ _ _ _ hq)⟩
theorem PGs.weak {X : Cx} {e : List Expr} {t t' : TGs} (h : PGs X e t) (i : ∀ v σ H Q, t' v σ H Q → t v σ H Q) : PGs X e t' := ⟨fun pins s σ H v u Q I r hq => h.run pins s σ H v u Q I r (i _ _ _ _ hq)⟩
def gN (i : Nat) : GM := fun t ρ => some (ρ.set i (some t))
theorem dg_name {i : Nat} {x : Str} {pos : Pos} (hi : Γ.N[i]? = some x) (hx : Sto1 Γ x) : DG C k Γ (.Name x pos) (gN i) [i] := fun X ok =>
  PG.weak (pg_name (by rw [ok.N]; exact ok.nd) (ok.name hi) (ok.loc hx.1) (ok.fnOr hx)) fun v σ H Q ⟨m, Hs, ρ, t, up, re, r, h⟩ => h _ (re.set r i) ⟨by simp, fun j hj => List.getElem?_set_ne (fun z => hj (by simp [z]))⟩
def gsNil : GMs := fun ts ρ => match ts with
  | [] => some ρ
  | _ => none
def gsCons (g : GM) (gs : GMs) : GMs := fun ts ρ => match ts with
  | t :: ts => (g t ρ).bind fun ρ' => gs ts ρ'
  | [] => none
theorem dgs_nil : DGs C k Γ [] gsNil [] := fun X ok => PGs.weak pgs_nil fun vs σ H Q ⟨m, Hs, ρ, ts, up, re, r, h⟩ => by
  cases r with
  | nil => exact ⟨rfl, h σ re .refl⟩
  | cons _ _ => exact h.elim
theorem dgs_cons {e : Expr} {es : List Expr} {g : GM} {gs : GMs} {sl sls : List Nat} (h1 : DG C k Γ e g sl) (h2 : DGs C k Γ es gs sls) (hs : ∀ env, (assignEach (e :: es) env).map (·.2) = assign e env :: (assignEach es env).map (·.2)) : DGs C k Γ (e :: es) (gsCons g gs) (sl ++ sls) := fun X ok =>
  PGs.weak (pgs_cons (h1 X ok) (h2 X ok) (hs _)) fun vs σ H Q ⟨m, Hs, ρ, ts, up, re, r, h⟩ => by
    cases r with
    | nil => exact h.elim
    | @cons v vs t ts r1 r2 =>
      have h' : (match (g t ρ).bind fun ρ' => gs ts ρ' with
        | some ρ' => ∀ σ', RE m Hs σ' ρ' → Outs (sl ++ sls) σ σ' → Q σ' H
        | none => False) := h
      cases e1 : g t ρ with
      | none => simp only [e1, Option.bind_none] at h'
      | some ρ1 =>
        simp only [e1, Option.bind_some] at h'
        refine ⟨v, vs, rfl, m, Hs, ρ, t, up, re, r1, ?_⟩
        rw [e1]
        intro σ' re' o1
        refine ⟨m, Hs, ρ1, ts, up, re', r2, ?_⟩
        cases e2 : gs ts ρ1 with
        | none => simp only [e2] at h'
        | some ρ2 =>
          simp only [e2] at h'
          exact fun σ2 re2 o2 => h' σ2 re2 (o1.trans o2)
def gTupM (n : Nat) (gs : GMs) : GM := fun t ρ => match t with
  | .tup l => (match l.length == n with
    | true => gs l ρ
    | false => none)
  | _ => none
theorem dg_tup {es : List Expr} {gs : GMs} {n kk : Nat} {sl : List Nat} {pos : Pos} (h : DGs C k Γ es gs sl) (hn : ∀ env, (assignEach es env).length = n) (hst : ∀ env, (assignEach es env).findIdx? (·.1) = none) : DG C k Γ (.Tuple es kk pos) (gTupM n gs) sl := fun X ok =>
  PG.weak (pg_tup ok.calm (h X ok) (hn _) (hst _)) fun v σ H Q ⟨m, Hs, ρ, t, up, re, r, q⟩ => by
    cases r with
    | @tup a xs ts h o r =>
      have q' : (match (match ts.length == n with
        | true => gs ts ρ
        | false => none) with
        | some ρ' => ∀ σ', RE m Hs σ' ρ' → Outs sl σ σ' → Q σ' H
        | none => False) := q
      cases e : ts.length == n with
      | false => simp only [e] at q'
      | true =>
        simp only [e] at q'
        exact ⟨a, xs, rfl, .of (up _ _ h), by rw [r.length]; exact beq_iff_eq.mp e, m, Hs, ρ, ts, up, re, r, q'⟩
    | _ => exact q.elim
/-- (a, b, ..) = e, no pair of written ones -/
def sAsg (g : GM) (f : EM) : SM := fun ρ S => (f ρ S).then ρ fun t S1 => match g t ρ with
  | some ρ' => .go (.nx ρ') S1
  | none => .bad
theorem ds_asg {tg e : Expr} {g : GM} {f : EM} {sl : List Nat} {pos : Pos} (hg : DG C k Γ tg g sl) (he : DE C k Γ e f) (hc : noComp e = true) (hw : ∀ X, XOk C k Γ X → swappedStores [tg] e X.env = pure none) (h1 : ∀ env, (assignEach [tg] env).map (·.2) = [assign tg env]) : DS C k Γ (.Assign [tg] e pos) (sAsg g f) := fun X W ok tk =>
  PS.weak (ps_asg (he X W ok tk) (hg X ok) (show swapsWith e (some tg) pos.line X.env = pure false from swaps_no hc _ _ _) (hw X ok) (h1 _)) fun D σ H ⟨m, ρ, S, re, rs, q⟩ => ⟨m, ρ, S, re, rs, (PostS.then re q).mono fun u H1 ⟨m1, x, S1, l1, rs1, r1, q1⟩ => by
    refine ⟨m1, H1, ρ, x, fun _ _ h => h, re.le l1, r1, ?_⟩
    cases e : g x ρ with
    | none => simp only [e] at q1; exact q1.elim
    | some ρ' =>
      simp only [e] at q1
      exact fun σ' re' _ => q1 m1 H1 σ' .refl rs1 re'⟩
/-- a, b = x, y with local names -/
def sPar (i j : Nat) (g : AM) : SM := fun ρ S => (g ρ S).then ρ fun ts S1 => match ts with
  | [x, y] => .go (.nx ((ρ.set i (some x)).set j (some y))) S1
  | _ => .bad
theorem ds_par {i j : Nat} {x y : Str} {a b : Expr} {g : AM} {px py pt pos : Pos} {kt k2 : Nat} {pt2 : Pos} (hi : Γ.N[i]? = some x) (hj : Γ.N[j]? = some y) (hij : i ≠ j) (hx : Γ.sc.names.lookup x = some .local) (hy : Γ.sc.names.lookup y = some .local) (ha : DAs C k Γ [a, b] g)
    (hw : ∀ X, XOk C k Γ X → swappedStores [.Tuple [.Name x px, .Name y py] kt pt] (.Tuple [a, b] k2 pt2) X.env = pure (some [x, y])) : DS C k Γ (.Assign [.Tuple [.Name x px, .Name y py] kt pt] (.Tuple [a, b] k2 pt2) pos) (sPar i j g) := fun X W ok tk =>
  PS.weak (ps_par ok.calm (by rw [ok.N]; exact ok.nd) (ok.name hi) (ok.name hj) hij (by rw [ok.sc]; exact hx) (by rw [ok.sc]; exact hy) (ha X W ok tk) (hw X ok)) fun D σ H ⟨m, ρ, S, re, rs, q⟩ => ⟨m, ρ, S, re, rs, (PostS.then re q).mono fun us H1 ⟨m1, ts, S1, l1, rs1, r1, q1⟩ => by
    match ts, q1 with
    | [], q1 => exact q1.elim
    | [_], q1 => exact q1.elim
    | _ :: _ :: _ :: _, q1 => exact q1.elim
    | [t1, t2], q1 =>
      obtain ⟨u, v, rfl, r2, r3⟩ := rpl2 r1
      exact ⟨u, v, rfl, q1 m1 H1 _ .refl rs1 (((re.le l1).set r2 i).set r3 j)⟩⟩

/-! ### what a loop walks -/
/-- items, and whether what they come from still stands -/
structure ItT where
  items : List T
  chk : Sto → Bool
structure Walks (m0 : Mp) (H0 : Hp) (J : It) (it : ItT) : Prop where
  go : ∀ {m : Mp} {H Hc : Hp} {S : Sto} {i : Nat}, Le m0 H0 m H → RS m H S → it.chk S = true → (∀ a u, H a = some u → Hc a = some u) → (∀ a xs, Hc a = some (.tup xs) → H a = some (.tup xs)) → i < it.items.length → J.go i Hc ∧ ∀ x H', J.yld i Hc x H' →
    ∃ t, it.items[i]? = some t ∧ ((H' = Hc ∧ Rp m H x t) ∨ ∃ p vs l, x = .ref p ∧ Hc p = none ∧ H' = upd Hc p (.tup vs) ∧ t = .tup l ∧ RpL m H vs l)
  stop : ∀ {m : Mp} {H Hc : Hp} {S : Sto}, Le m0 H0 m H → RS m H S → it.chk S = true → (∀ a u, H a = some u → Hc a = some u) → J.stop it.items.length Hc
abbrev IM := Env → Sto → R ItT
def PostI (C : PC) (W : WX) (m : Mp) (H : Hp) (σ : St) (Q : It → Hp → Prop) : R ItT → Prop
  | .ok it S => ∀ m' H' J, Le m H m' H' → RS m' H' S → Walks m' H' J it → Q J H'
  | .exc c fs S => ∀ m' H' d, Le m H m' H' → RS m' H' S → ExcAt m' H' d fs → W (.ref (C.cls c)) (some d) σ H'
  | .bad => False
def trI (C : PC) (W : WX) (f : IM) : TI := fun σ H Q => ∃ m ρ S, RE m H σ ρ ∧ RS m H S ∧ PostI C W m H σ Q (f ρ S)
def DI (C : PC) (k : Nat) (Γ : Sx) (tg e : Expr) (f : IM) : Prop := ∀ X W, XOk C k Γ X → Takes X W → PI X tg e (trI C W f)
theorem PI.weak {X : Cx} {tg e : Expr} {t t' : TI} (h : PI X tg e t) (i : ∀ σ H Q, t' σ H Q → t σ H Q) : PI X tg e t' := ⟨fun pins s σ H Q I hq => h.run pins s σ H Q I (i _ _ _ hq)⟩
theorem PostI.le {m m1 : Mp} {H H1 : Hp} {σ : St} {Q : It → Hp → Prop} (l : Le m H m1 H1) : ∀ {r : R ItT}, PostI C W m H σ Q r → PostI C W m1 H1 σ Q r
  | .ok _ _, h => fun m' H' p l' rs => h m' H' p (l.trans l') rs
  | .exc _ _ _, h => fun m' H' d l' rs x => h m' H' d (l.trans l') rs x
  | .bad, h => h
theorem Post.bindI {α β : Type} {rel : Mp → Hp → β → α → Prop} {m : Mp} {H : Hp} {σ : St} {Q : It → Hp → Prop} {g : α → Sto → R ItT} : ∀ {r : R α}, PostI C W m H σ Q (r.bind g) →
    Post C W rel m H σ (fun b H1 => ∃ m1 a S1, Le m H m1 H1 ∧ RS m1 H1 S1 ∧ rel m1 H1 b a ∧ PostI C W m1 H1 σ Q (g a S1)) r
  | .ok a S, h => fun m' H' b l rs x => ⟨m', a, S, l, rs, x, PostI.le (r := g a S) l h⟩
  | .exc _ _ _, h => h
  | .bad, h => h
/-- a sequence that stands still (a tree), or an obj's list as long as it is the same -/
def chkT (S : Sto) (x : T) : List T → Sto → Bool := fun l S' => match x with
  | .obj n => (match S'[n]? with
    | some (.lst l') => T.sams l' l
    | _ => false)
  | _ => true
def iSeq (f : EM) : IM := fun ρ S => (f ρ S).bind fun x S1 => match x with
  | .tup _ => .bad
  | _ => (match seqT S1 x with
    | some l => .ok ⟨l, chkT S1 x l⟩ S1
    | none => .bad)
def iTupT (f : EM) : IM := fun ρ S => (f ρ S).bind fun x S1 => match x with
  | .tup l => .ok ⟨l, fun _ => true⟩ S1
  | _ => .bad
theorem di_tup {tg e : Expr} {f : EM} (h : DE C k Γ e f) : DI C k Γ tg e (iTupT f) := fun X W ok tk => PI.weak (pi_tup (h X W ok tk)) fun σ H Q ⟨m, ρ, S, re, rs, q⟩ => ⟨m, ρ, S, re, rs, (Post.bindI q).mono fun u H1 ⟨m1, x, S1, l1, rs1, r1, q1⟩ => by
  cases r1 with
  | @tup a xs ts h o r =>
    refine ⟨a, rfl, ⟨xs, .of h⟩, q1 m1 H1 _ .refl rs1 ⟨fun {m H Hc S i} l rs _ up dn hi => ?_, fun {m H Hc S} l rs _ up => ?_⟩⟩
    · have h2 := up _ _ (l.keep _ _ o h).1
      have hi' : i < xs.length := by rw [r.length]; exact hi
      refine ⟨⟨xs, xs[i], .of h2, by simp [hi']⟩, fun x H' ⟨e1, y⟩ => ?_⟩
      obtain ⟨t, e2, r2⟩ := (r.le l).get' (y xs (.of h2))
      exact ⟨t, e2, .inl ⟨e1, r2⟩⟩
    · exact ⟨xs, .of (up _ _ (l.keep _ _ o h).1), by rw [r.length]; exact Nat.le_refl _⟩
  | _ => exact q1.elim⟩
theorem di_seq {tg e : Expr} {f : EM} (h : DE C k Γ e f) : DI C k Γ tg e (iSeq f) := fun X W ok tk => PI.weak (pi_list (h X W ok tk)) fun σ H Q ⟨m, ρ, S, re, rs, q⟩ => ⟨m, ρ, S, re, rs, (Post.bindI q).mono fun u H1 ⟨m1, x, S1, l1, rs1, r1, q1⟩ => by
  cases r1 with
  | @lst a xs ts h o r =>
    refine ⟨a, rfl, ⟨xs, .of h⟩, q1 m1 H1 _ .refl rs1 ⟨fun {m H Hc S i} l rs _ up dn hi => ?_, fun {m H Hc S} l rs _ up => ?_⟩⟩
    · have h2 := up _ _ (l.keep _ _ o h).1
      have hi' : i < xs.length := by rw [r.length]; exact hi
      refine ⟨⟨xs, xs[i], .of h2, by simp [hi']⟩, fun x H' ⟨e1, y⟩ => ?_⟩
      obtain ⟨t, e2, r2⟩ := (r.le l).get' (y xs (.of h2))
      exact ⟨t, e2, .inl ⟨e1, r2⟩⟩
    · exact ⟨xs, .of (up _ _ (l.keep _ _ o h).1), by rw [r.length]; exact Nat.le_refl _⟩
  | @scr a ob xs ts h o r =>
    refine ⟨a, rfl, ⟨xs, .inl (.inr ⟨_, h⟩)⟩, q1 m1 H1 _ .refl rs1 ⟨fun {m H Hc S i} l rs _ up dn hi => ?_, fun {m H Hc S} l rs _ up => ?_⟩⟩
    · have h2 := up _ _ (l.keep _ _ o h).1
      have hi' : i < xs.length := by rw [r.length]; exact hi
      refine ⟨⟨xs, xs[i], .inl (.inr ⟨_, h2⟩), by simp [hi']⟩, fun x H' ⟨e1, y⟩ => ?_⟩
      obtain ⟨t, e2, r2⟩ := (r.le l).get' (y xs (.inl (.inr ⟨_, h2⟩)))
      exact ⟨t, e2, .inl ⟨e1, r2⟩⟩
    · exact ⟨xs, .inl (.inr ⟨_, up _ _ (l.keep _ _ o h).1⟩), by rw [r.length]; exact Nat.le_refl _⟩
  | @obj a n h =>
    cases e1 : seqT S1 (.obj n) with
    | none => simp only [e1] at q1; exact q1.elim
    | some ts =>
      simp only [e1] at q1
      obtain ⟨b, xs, e2, h2, r⟩ := rdL_ok rs1 (.obj h) e1
      cases e2
      have key : ∀ {m : Mp} {H : Hp} {S : Sto}, Le m1 H1 m H → RS m H S → chkT S1 (.obj n) ts S = true → ∃ ys, H a = some (.lst ys) ∧ RpL m H ys ts := fun {m H S} l rs hc => by
        have hc' : (match S[n]? with
          | some (.lst l') => T.sams l' ts
          | _ => false) = true := hc
        cases e3 : S[n]? with
        | none => simp [e3] at hc'
        | some ob =>
          cases ob with
          | dic _ l => simp [e3] at hc'
          | dlk _ l => simp [e3] at hc'
          | lst l' =>
            simp only [e3] at hc'
            have e4 := T.sams_eq hc'
            subst e4
            obtain ⟨c, h3, ys, h4, h5, _⟩ := rs.has n _ e3
            rw [l.obj _ _ h] at h3; cases h3
            exact ⟨ys, h4, h5⟩
      refine ⟨a, rfl, ⟨xs, .of h2⟩, q1 m1 H1 _ .refl rs1 ⟨fun {m H Hc S i} l rs hc up dn hi => ?_, fun {m H Hc S} l rs hc up => ?_⟩⟩
      · obtain ⟨ys, h3, r3⟩ := key l rs hc
        have hi' : i < ys.length := by rw [r3.length]; exact hi
        refine ⟨⟨ys, ys[i], .of (up _ _ h3), by simp [hi']⟩, fun x H' ⟨e5, y⟩ => ?_⟩
        obtain ⟨t, e6, r6⟩ := r3.get' (y ys (.of (up _ _ h3)))
        exact ⟨t, e6, .inl ⟨e5, r6⟩⟩
      · obtain ⟨ys, h3, r3⟩ := key l rs hc
        exact ⟨ys, .of (up _ _ h3), by rw [r3.length]; exact Nat.le_refl _⟩
  | _ => exact q1.elim⟩
/-- lo, lo + 1, .. -/
def rangeT (lo : Int) (n : Nat) : List T := (List.range n).map fun i => T.int (lo + (i : Nat))
def smallI (i : Int) : Bool := decide (-(2 ^ 62) ≤ i) && decide (i < 2 ^ 62)
theorem walks_range {m0 : Mp} {H0 : Hp} {lo : Int} {n : Nat} {c : Sto → Bool} : Walks m0 H0 (Itr lo n) ⟨rangeT lo n, c⟩ :=
  ⟨fun {m H Hc S i} l rs _ up dn hi => by
    have hi' : i < n := by simpa [rangeT] using hi
    refine ⟨hi', fun x H' ⟨e1, e2⟩ => ?_⟩
    subst e2
    exact ⟨.int (lo + (i : Nat)), by simp [rangeT, hi'], .inl ⟨e1, .int _⟩⟩, fun {m H Hc S} l rs _ up => by simp [Itr, rangeT]⟩
def iRange1 (f : EM) : IM := fun ρ S => (f ρ S).bind fun x S1 => match x with
  | .int j => R.if (smallI j) (.ok ⟨rangeT 0 j.toNat, fun _ => true⟩ S1)
  | _ => .bad
theorem PostI.if {m : Mp} {H : Hp} {σ : St} {Q : It → Hp → Prop} {b : Bool} {r : R ItT} (h : PostI C W m H σ Q (R.if b r)) : b = true ∧ PostI C W m H σ Q r := by
  cases b with
  | true => exact ⟨rfl, h⟩
  | false => exact h.elim
theorem di_range1 {tg e : Expr} {f : EM} {p pos : Pos} (hg : SGl Γ "range") (hm : C.mg "range" = none) (h : DE C k Γ e f) (hs : noStar e = true) : DI C k Γ tg (.Call (.Name "range" p) [e] [] pos) (iRange1 f) := fun X W ok tk =>
  PI.weak (pi_range1 (ok.gl hg) (ok.free hm) (pa_cons (h X W ok tk) pa_nil (star_cons hs)) (star_cons hs)) fun σ H Q ⟨m, ρ, S, re, rs, q⟩ => ⟨m, ρ, S, re, rs, (Post.bindI q).mono fun u H1 ⟨m1, x, S1, l1, rs1, r1, q1⟩ => by
    cases r1 with
    | int j =>
      obtain ⟨hb, q1⟩ := q1.if
      simp only [smallI, Bool.and_eq_true, decide_eq_true_eq] at hb
      exact ⟨j, rfl, hb.1, hb.2, q1 m1 H1 _ .refl rs1 walks_range⟩
    | _ => exact q1.elim⟩
def iRange2 (f g : EM) : IM := fun ρ S => (f ρ S).bind fun x S1 => (g ρ S1).bind fun y S2 => match x, y with
  | .int i, .int j => R.if (smallI i && smallI j) (.ok ⟨rangeT i (j - i).toNat, fun _ => true⟩ S2)
  | _, _ => .bad
theorem di_range2 {tg a b : Expr} {f g : EM} {p pos : Pos} (hg : SGl Γ "range") (hm : C.mg "range" = none) (ha : DE C k Γ a f) (hb : DE C k Γ b g) (hs : noStar a = true) (hs2 : noStar b = true) : DI C k Γ tg (.Call (.Name "range" p) [a, b] [] pos) (iRange2 f g) := fun X W ok tk =>
  PI.weak (pi_range2 (ok.gl hg) (ok.free hm) (pa_cons (ha X W ok tk) (pa_cons (hb X W ok tk) pa_nil (star_cons hs2)) (star_cons hs)) (by rw [star_cons hs, star_cons hs2]; rfl) (by rw [star_cons hs2]; rfl)) fun σ H Q ⟨m, ρ, S, re, rs, q⟩ => ⟨m, ρ, S, re, rs, (Post.bindI q).mono fun u H1 ⟨m1, x, S1, l1, rs1, r1, q1⟩ =>
    ⟨m1, ρ, S1, re.le l1, rs1, (Post.bindI q1).mono fun v H2 ⟨m2, y, S2, l2, rs2, r2, q2⟩ => by
      cases r1 with
      | int i =>
        cases r2 with
        | int j =>
          obtain ⟨hb, q2⟩ := q2.if
          simp only [smallI, Bool.and_eq_true, decide_eq_true_eq] at hb
          exact ⟨i, j, rfl, ⟨hb.1.1, hb.1.2, hb.2.1, hb.2.2⟩, q2 m2 H2 _ .refl rs2 walks_range⟩
        | _ => exact q2.elim
      | _ => cases r2 <;> exact q2.elim⟩⟩

/-! ### for -/
def loopR (r : RF) (g : SM) : RF := match r with
  | .go (.nx ρ) S => g ρ S
  | .go (.ct ρ) S => g ρ S
  | .go (.bk ρ) S => .go (.nx ρ) S
  | r => r
def forL (c : Sto → Bool) (g : GM) (b : SM) : List T → SM
  | [], ρ, S => RF.if (c S) (.go (.nx ρ) S)
  | t :: ts, ρ, S => RF.if (c S) (match g t ρ with
    | some ρ1 => loopR (b ρ1 S) fun ρ2 S2 => forL c g b ts ρ2 S2
    | none => .bad)
def sFor (f : IM) (g : GM) (b : SM) : SM := fun ρ S => match f ρ S with
  | .ok it S1 => forL it.chk g b it.items ρ S1
  | .exc c fs S1 => .exc c fs ρ S1
  | .bad => .bad
theorem loop_ok {m : Mp} {H : Hp} {D : Ends} {g : SM} {N : St → Hp → Prop} (hN : ∀ m' H' σ' ρ' S', Le m H m' H' → RS m' H' S' → RE m' H' σ' ρ' → PostS C W m' H' D (g ρ' S') → N σ' H') : ∀ {r : RF}, PostS C W m H D (loopR r g) → PostS C W m H { D with nx := N, ct := N, bk := D.nx } r
  | .go (.nx ρ) S, h => fun m' H' σ' l rs re => hN m' H' σ' ρ S l rs re (PostS.le (r := g ρ S) l h)
  | .go (.ct ρ) S, h => fun m' H' σ' l rs re => hN m' H' σ' ρ S l rs re (PostS.le (r := g ρ S) l h)
  | .go (.bk _) _, h => h
  | .go (.rt _) _, h => h
  | .exc _ _ _ _, h => h
  | .bad, h => h
def noSet : Expr → Bool
  | .Set _ _ _ => false
  | _ => true
theorem folded_no {e : Expr} {env : PySem.Env} (h : noSet e = true) : ∀ x, foldedSetIterable e env x = pure x := fun x => by
  cases e <;> first | rfl | cases h
theorem ds_for {tg iter : Expr} {body : List Stmt} {f : IM} {g : GM} {sl : List Nat} {b : SM} {pos : Pos} (hblk : Γ.blk = false) (hi : DI C k Γ tg iter f) (hg : DG C k Γ tg g sl) (hb : DSs C k Γ body b) (hs : noSet iter = true) : DS C k Γ (.For tg iter body [] pos) (sFor f g b) := fun X W ok tk =>
  PS.weak (ps_for (ok.own hblk) ok.calm (hi X W ok tk) (hg X ok) (hb X W ok tk) (folded_no hs)) fun D σ H ⟨m, ρ, S, re, rs, q⟩ => ⟨m, ρ, S, re, rs, by
    unfold sFor at q
    cases e : f ρ S with
    | bad => simp only [e] at q; exact q.elim
    | exc c fs S1 => simp only [e] at q; exact fun m' H' d l rs' x => q m' H' σ d l rs' (re.le l) x
    | ok it S1 =>
      simp only [e] at q
      intro m1 H1 J l1 rs1 wk
      refine ⟨fun i n σ' H' => n = it.items.length - i ∧ i ≤ it.items.length ∧ ∃ m' ρ' S', Le m1 H1 m' H' ∧ RE m' H' σ' ρ' ∧ RS m' H' S' ∧ PostS C W m' H' D (forL it.chk g b (it.items.drop i) ρ' S'),
        ⟨it.items.length, by simp, Nat.zero_le _, m1, ρ, S1, .refl, re.le l1, rs1, by rw [List.drop_zero]; exact q.le l1⟩, ?_⟩
      rintro i n σ' H' ⟨rfl, hi', m', ρ', S', l', re', rs', q'⟩
      by_cases hlt : i < it.items.length
      · right
        rw [List.drop_eq_getElem_cons hlt] at q'
        unfold forL at q'
        obtain ⟨hc, q'⟩ := q'.if
        obtain ⟨go, yl⟩ := wk.go l' rs' hc (fun _ _ h => h) (fun _ _ h => h) hlt
        refine ⟨go, fun σ2 H2 => ∃ m2 ρ2 S2, Le m1 H1 m2 H2 ∧ RE m2 H2 σ2 ρ2 ∧ RS m2 H2 S2 ∧ PostS C W m2 H2 D (forL it.chk g b (it.items.drop (i + 1)) ρ2 S2), fun σ2 H2 ⟨m2, ρ2, S2, z1, z2, z3, z4⟩ => ⟨it.items.length - (i + 1), by omega, rfl, hlt, m2, ρ2, S2, z1, z2, z3, z4⟩, fun x H2 y => ?_⟩
        obtain ⟨t, e1, yy⟩ := yl x H2 y
        have exx : Ext m' H' m' H2 ∧ Rp m' H2 x t := by
          rcases yy with ⟨e5, rx⟩ | ⟨p, vs, l5, e6, hp, e5, e7, rl⟩
          · subst e5; exact ⟨.refl, rx⟩
          · subst e5 e6 e7
            exact ⟨.alloc hp, .newTup rs' hp rl⟩
        obtain ⟨ex, rx⟩ := exx
        have et : it.items[i] = t := by simpa [hlt] using e1
        rw [et] at q'
        cases e2 : g t ρ' with
        | none => simp only [e2] at q'; exact q'.elim
        | some ρ1 =>
          simp only [e2] at q'
          refine ⟨m', H2, ρ', t, fun _ _ h => h, re'.le ex.1, rx, ?_⟩
          rw [e2]
          exact fun σ3 re3 _ => ⟨m', ρ1, S', re3, ex.2 _ rs', loop_ok (fun m4 H4 σ4 ρ4 S4 l4 rs4 re4 q4 => ⟨m4, ρ4, S4, (l'.trans ex.1).trans l4, re4, rs4, q4⟩) (q'.le ex.1)⟩
      · left
        have e1 : i = it.items.length := by omega
        subst e1
        rw [List.drop_length] at q'
        unfold forL at q'
        obtain ⟨hc, q'⟩ := q'.if
        exact ⟨wk.stop l' rs' hc (fun _ _ h => h), q' m' H' σ' .refl rs' re'⟩⟩

/-! ### while -/
def whileN (c : BM) (b : SM) : Nat → SM
  | 0, _, _ => .bad
  | n + 1, ρ, S => (c ρ S).then ρ fun t S1 => match t with
    | true => loopR (b ρ S1) fun ρ2 S2 => whileN c b n ρ2 S2
    | false => .go (.nx ρ) S1
def sWhile (n : Nat) (c : BM) (b : SM) : SM := fun ρ S => whileN c b n ρ S
theorem ds_while {n : Nat} {c : Expr} {body : List Stmt} {fc : BM} {b : SM} {pos : Pos} (hblk : Γ.blk = false) (hc : DB C k Γ c fc) (hb : DSs C k Γ body b) : DS C k Γ (.While c body [] pos) (sWhile n fc b) := fun X W ok tk =>
  PS.weak (ps_while (ok.own hblk) (hc X W ok tk) (hb X W ok tk)) fun D σ H ⟨m, ρ, S, re, rs, q⟩ => by
    refine ⟨fun n' σ' H' => ∃ m' ρ' S', Le m H m' H' ∧ RE m' H' σ' ρ' ∧ RS m' H' S' ∧ PostS C W m' H' D (whileN fc b n' ρ' S'), ⟨n, m, ρ, S, .refl, re, rs, q⟩, ?_⟩
    rintro n' σ' H' ⟨m', ρ', S', l', re', rs', q'⟩
    cases n' with
    | zero => exact q'.elim
    | succ n' =>
      unfold whileN at q'
      refine ⟨m', ρ', S', re', rs', (PostS.then re' q').mono fun t H1 ⟨m1, t', S1, l1, rs1, e1, q1⟩ => ?_⟩
      subst e1
      cases t with
      | true =>
        rw [if_pos rfl]
        exact ⟨fun σ2 H2 => ∃ m2 ρ2 S2, Le m H m2 H2 ∧ RE m2 H2 σ2 ρ2 ∧ RS m2 H2 S2 ∧ PostS C W m2 H2 D (whileN fc b n' ρ2 S2), fun σ2 H2 z => ⟨n', Nat.lt_succ_self _, z⟩, m1, ρ', S1, re'.le l1, rs1,
          loop_ok (fun m4 H4 σ4 ρ4 S4 l4 rs4 re4 q4 => ⟨m4, ρ4, S4, (l'.trans l1).trans l4, re4, rs4, q4⟩) q1⟩
      | false =>
        rw [if_neg Bool.false_ne_true]
        exact q1 m1 H1 σ' .refl rs1 (re'.le l1)
end
end Mi
end

section
set_option Elab.async false
set_option linter.all false
set_option maxRecDepth 100000
set_option maxHeartbeats 2000000
/-! Mi8: a list that is being filled is set aside; comprehensions -/
namespace Mi
open PySem PySem.Spec L2
/-- the heap without D -/
def del (H : Hp) (D : Addr) : Hp := fun b => if b = D then none else H b
theorem del_ne {H : Hp} {D b : Addr} (h : b ≠ D) : del H D b = H b := by unfold del; rw [if_neg h]
theorem del_same {H : Hp} {D : Addr} : del H D D = none := by unfold del; rw [if_pos rfl]
theorem upd_del {H : Hp} {D : Addr} {o : HO} (h : H D = some o) : upd (del H D) D o = H := by
  funext b
  unfold upd del
  by_cases e : b = D
  · rw [if_pos e, e, h]
  · rw [if_neg e, if_neg e]
section
variable {X : Cx} {pins : List (Addr × Obj)} {σ σ' : St} {H H' : Hp} {s s' : Shared} {D : Addr} {xs : List V}
theorem inv_hide (I : Inv X pins σ H s) (hD : H D = some (.lst xs)) : ∃ o : Obj, (∃ (its : List Value) (n : Nat), Vals xs its ∧ o = { cls := .type "list", data := .seq its.toArray n }) ∧ Inv X (pins ++ [(D, o)]) σ (del H D) s := by
  obtain ⟨its, n, rv, ho, hz⟩ := I.lst hD
  have keepNone : ∀ b, H b = none → del H D b = none := fun b h => by
    unfold del
    split
    · rfl
    · exact h
  have keepSome : ∀ b u, H b = some u → u ≠ .lst xs → del H D b = some u := fun b u h ne => by
    rw [del_ne (fun z => by rw [z, hD] at h; exact ne (Option.some.inj h).symm)]
    exact h
  have ndf : D ∉ X.fs := fun hb => by
    obtain ⟨_, o, ho', _⟩ := I.ok.funs.mem hb
    have z := I.base.free D o ho' (I.ok.frf D hb) fun y => I.ok.exfs D y hb
    rw [hD] at z; cases z
  refine ⟨_, ⟨its, n, rv, rfl⟩, I.ok, I.os, I.bare, ⟨I.base.keep, I.base.slot, fun b o e h x => keepNone b (I.base.free b o e h x), I.base.there, fun b ys e => keepSome b _ (I.base.tups b ys e) (by intro z; cases z), fun b o u e => keepSome b _ (I.base.frzs b o u e) (by intro z; cases z), fun b ps e => ?_⟩, I.loc, I.cell, keepNone _ I.free, fun x c e => keepNone _ (I.freeC x c e), fun p hp => ?_, fun b u e => ?_, I.len⟩
  · obtain ⟨more, e1⟩ := I.base.tbls b ps e
    exact ⟨more, keepSome b _ e1 (by intro z; cases z)⟩
  · rcases List.mem_append.mp hp with hp | hp
    · obtain ⟨a1, a2, a3, a4, a5⟩ := I.pin p (List.mem_append_left _ hp)
      exact ⟨a1, keepNone _ a2, a3, a4, a5⟩
    · rcases List.mem_append.mp hp with hp | hp
      · obtain ⟨a1, a2, a3, a4, a5⟩ := I.pin p (List.mem_append_right _ hp)
        exact ⟨a1, keepNone _ a2, a3, a4, a5⟩
      · obtain rfl := List.mem_singleton.mp hp
        exact ⟨ho, del_same, (fun z => by have y := I.free; rw [← show D = X.env.locals from z, hD] at y; cases y), ndf, fun v z => by cases z⟩
  · have hb : b ≠ D := fun z => by rw [z, del_same] at e; cases e
    rw [del_ne hb] at e
    refine (I.hok b u e).stay (fun c w _ q => q) (fun c q => keepSome c _ q (by intro z; cases z)) fun c ys q => keepSome c _ q (by intro z; cases z)
theorem inv_show {o : Obj} {its : List Value} {n : Nat} (I : Inv X pins σ H s) (hD : H D = some (.lst xs)) (rv : Vals xs its) (eo : o = { cls := .type "list", data := .seq its.toArray n }) (J : Inv X (pins ++ [(D, o)]) σ' H' s') : Inv X pins σ' (upd H' D (.lst xs)) s' ∧ H' D = none := by
  have pD := J.pin (D, o) (List.mem_append_right _ (List.mem_append_right _ (by simp)))
  obtain ⟨p1, p2, p3, p4, p5⟩ := pD
  have hz : xs.length ≤ sizeLine := (I.hok D _ hD).1
  have ndc : ∀ x c, X.env.cells.lookup x = some c → c ≠ D := fun x c e z => by
    have y := I.freeC x c e
    rw [z, hD] at y; cases y
  refine ⟨⟨I.ok, J.os, J.bare, ⟨J.base.keep, J.base.slot, fun b ob e h x => ?_, J.base.there, fun b ys e => ?_, fun b ob u e => ?_, fun b ps e => ?_⟩, J.loc, J.cell, by rw [upd_ne (fun z => p3 z.symm)]; exact J.free, fun x c e => by rw [upd_ne (ndc x c e)]; exact J.freeC x c e, fun p hp => ?_, fun b u e => ?_, J.len⟩, p2⟩
  · have hb : b ≠ D := fun z => by
      have y := I.base.free b ob e h x
      rw [z, hD] at y; cases y
    rw [upd_ne hb]
    exact J.base.free b ob e h x
  · have q := J.base.tups b ys e
    rw [upd_ne (fun z => by rw [z] at q; rw [show H' D = none from p2] at q; cases q)]
    exact q
  · have q := J.base.frzs b ob u e
    rw [upd_ne (fun z => by rw [z] at q; rw [show H' D = none from p2] at q; cases q)]
    exact q
  · obtain ⟨more, q⟩ := J.base.tbls b ps e
    exact ⟨more, by rw [upd_ne (fun z => by rw [z] at q; rw [show H' D = none from p2] at q; cases q)]; exact q⟩
  · have hp' : p ∈ X.pn ++ (pins ++ [(D, o)]) := by
      rcases List.mem_append.mp hp with z | z
      · exact List.mem_append_left _ z
      · exact List.mem_append_right _ (List.mem_append_left _ z)
    obtain ⟨a1, a2, a3, a4, a5⟩ := J.pin p hp'
    refine ⟨a1, ?_, a3, a4, a5⟩
    rw [upd_ne (fun z => ?_)]
    · exact a2
    · have y := (I.pin p hp).2.1
      rw [z, hD] at y; cases y
  · by_cases hb : b = D
    · subst hb
      rw [upd_same] at e
      cases e
      exact ⟨hz, its, n, rv, by rw [← eo]; exact p1⟩
    · rw [upd_ne hb] at e
      have up : ∀ c w, H' c = some w → upd H' D (.lst xs) c = some w := fun c w q => by
        rw [upd_ne (fun z => by rw [z] at q; rw [show H' D = none from p2] at q; cases q)]
        exact q
      exact (J.hok b u e).stay (fun c w _ q => q) (fun c q => up c _ q) fun c ys q => up c _ q
end
/-- e is evaluated while the list at D is set aside -/
def tFr (t : TE) : TE := fun σ H Q => ∃ D xs, H D = some (.lst xs) ∧ t σ (del H D) fun u H' => H' D = none → Q u (upd H' D (.lst xs))
def tFrT (t : TT) : TT := fun σ H Q => ∃ D xs, H D = some (.lst xs) ∧ t σ (del H D) fun u H' => H' D = none → Q u (upd H' D (.lst xs))
theorem PE.frame {X : Cx} {e : Expr} {t : TE} (h : PE X e t) : PE X e (tFr t) := ⟨fun pins s σ H Q I ⟨D, xs, hD, q⟩ => by
  obtain ⟨o, ⟨its, n, rv, eo⟩, J⟩ := inv_hide I hD
  refine thn (h.run _ s σ _ _ J q) fun v s1 ⟨x, H1, I1, r1, q1⟩ => ?_
  obtain ⟨K, n1⟩ := inv_show I hD rv eo I1
  exact ⟨x, _, K, r1, q1 n1⟩⟩
theorem PT.frame {X : Cx} {e : Expr} {t : TT} (h : PT X e t) : PT X e (tFrT t) := ⟨fun pins s σ H Q I ⟨D, xs, hD, q⟩ => by
  obtain ⟨o, ⟨its, n, rv, eo⟩, J⟩ := inv_hide I hD
  refine thn (h.run _ s σ _ _ J q) fun v s1 ⟨H1, I1, q1⟩ => ?_
  obtain ⟨K, n1⟩ := inv_show I hD rv eo I1
  exact ⟨_, K, q1 n1⟩⟩

section
variable {C : PC} {W : WX} {k : Nat} {Γ : Sx}
/-- in a comprehension nothing may be raised -/
def R.calm {α : Type} (r : R α) : R α := match r with
  | .exc _ _ _ => .bad
  | r => r
def wipeE (ρ : Env) : List Nat → Env
  | [] => ρ
  | i :: r => (wipeE ρ r).set i none
theorem wipe_re {m : Mp} {H : Hp} {σ : St} {ρ : Env} (re : RE m H σ ρ) : ∀ vs : List Nat, RE m H (wipe σ vs) (wipeE ρ vs)
  | [] => re
  | i :: r => (wipe_re re r).unset i
theorem wipe_outs {σ σ' : St} : ∀ {vs sl : List Nat}, Outs sl (wipe σ vs) σ' → (∀ i ∈ sl, i ∈ vs) → wipe σ' vs = wipe σ vs := fun {vs sl} o hs => by
  have l1 := wipe_length σ vs
  have l2 := wipe_length σ' vs
  apply List.ext_getElem?
  intro i
  by_cases hi : i ∈ vs
  · have key : ∀ (τ : St), i < τ.length → (wipe τ vs)[i]? = some none := fun τ hlt => by
      cases e : (wipe τ vs)[i]? with
      | none => rw [List.getElem?_eq_none_iff, wipe_length] at e; omega
      | some w =>
        cases w with
        | none => rfl
        | some x => exact absurd hi (wipe_some e).2
    by_cases hlt : i < σ.length
    · rw [key σ hlt, key σ' (by rw [o.1, l1]; exact hlt)]
    · rw [List.getElem?_eq_none (by rw [l2, o.1, l1]; omega), List.getElem?_eq_none (by rw [l1]; omega)]
  · rw [wipe_out hi]
    exact o.2 i fun z => hi (hs i z)
def blkX (Γ : Sx) (scope : Scope) : Sx := ⟨Γ.N, relS scope Γ.sc, true, fun x => scope.names.lookup x == some .cell⟩
theorem XOk.blk {X : Cx} (ok : XOk C k Γ X) (s : Shared) (H : Hp) (scope : Scope) (cl : List (Str × Addr)) (c : Addr) (fp : List Addr) : XOk C k (blkX Γ scope) (X.blk s H scope (compEnvC scope cl c X.env) fp) :=
  ⟨ok.P, ok.w, ok.K, ok.mg, ok.base, ok.N, ok.nd, by show relS scope X.env.scope = _; rw [ok.sc]; rfl, ok.calm, ok.room, ok.gd, fun x h => h, fun z => Bool.noConfusion z, fun z => Bool.noConfusion z⟩
theorem takesNo {X : Cx} : Takes X (fun _ _ _ _ => False) := fun _ _ ⟨_, _, _, _, _, _, _, _, _, _, _, _, _, _, _, _, w⟩ => w.elim
/-- the tests of a comprehension -/
def DTs (C : PC) (k : Nat) (Γ : Sx) (es : List Expr) (f : BM) : Prop := ∀ X W, XOk C k Γ X → Takes X W → PTs X es (tFrT (trB C W f))
theorem PTs.weak {X : Cx} {e : List Expr} {t t' : TT} (h : PTs X e t) (i : ∀ σ H Q, t' σ H Q → t σ H Q) : PTs X e t' := ⟨fun pins s σ H Q I hq => h.run pins s σ H Q I (i _ _ _ hq)⟩
def bYes : BM := fun _ S => .ok true S
theorem dts_nil : DTs C k Γ [] bYes := fun X W ok tk => PTs.weak pts_nil fun σ H Q ⟨D, xs, hD, m, ρ, S, re, rs, h⟩ => by
  have q : Q true (upd (del H D) D (.lst xs)) := h m _ true .refl rs rfl del_same
  rw [upd_del hD] at q
  exact q
theorem dts_one {c : Expr} {f : BM} (h : DB C k Γ c f) : DTs C k Γ [c] f := fun X W ok tk => pts_one (PT.frame (h X W ok tk))
def compL (ck : Sto → Bool) (g : GM) (c : BM) (e : EM) (ρ : Env) : List T → Sto → R (List T)
  | [], S => R.if (ck S) (.ok [] S)
  | t :: ts, S => R.if (ck S) (match g t ρ with
    | some ρ1 => (c ρ1 S).calm.bind fun b S1 => (match b with
      | true => (e ρ1 S1).calm.bind fun y S2 => (compL ck g c e ρ ts S2).bind fun ys S3 => .ok (y :: ys) S3
      | false => compL ck g c e ρ ts S1)
    | none => .bad)
def nComp (f : IM) (g : GM) (c : BM) (e : EM) (vs : List Nat) : LM := fun ρ S => (f ρ S).bind fun it S1 => R.if (decide (it.items.length ≤ line)) (compL it.chk g c e (wipeE ρ vs) it.items S1)
/-- the rest of a comprehension behind acc; D: its list -/
def PostC (m : Mp) (H : Hp) (D : Addr) (acc : List T) (Q : VK) : R (List T) → Prop
  | .ok l S => ∀ m' H' zs, Le m H m' H' → RS m' H' S → H' D = none → RpL m' H' zs (acc ++ l) → zs.length ≤ sizeLine → Q (.ref D) (upd H' D (.lst zs))
  | _ => False
theorem PostC.le {m m1 : Mp} {H H1 : Hp} {D : Addr} {acc : List T} {Q : VK} (l : Le m H m1 H1) : ∀ {r : R (List T)}, PostC m H D acc Q r → PostC m1 H1 D acc Q r
  | .ok _ _, h => fun m' H' ys l' => h m' H' ys (l.trans l')
  | .exc _ _ _, h => h
  | .bad, h => h
theorem Post.calmC {α β : Type} {rel : Mp → Hp → β → α → Prop} {m : Mp} {H : Hp} {σ : St} {D : Addr} {acc : List T} {Q : VK} {g : α → Sto → R (List T)} : ∀ {r : R α}, PostC m H D acc Q (r.calm.bind g) →
    Post C (fun _ _ _ _ => False) rel m H σ (fun b H1 => ∃ m1 a S1, Le m H m1 H1 ∧ RS m1 H1 S1 ∧ rel m1 H1 b a ∧ PostC m1 H1 D acc Q (g a S1)) r
  | .ok a S, h => fun m' H' b l rs x => ⟨m', a, S, l, rs, x, PostC.le (r := g a S) l h⟩
  | .exc _ _ _, h => h.elim
  | .bad, h => h
theorem PostC.if {m : Mp} {H : Hp} {D : Addr} {acc : List T} {Q : VK} {b : Bool} {r : R (List T)} (h : PostC m H D acc Q (R.if b r)) : b = true ∧ PostC m H D acc Q r := by
  cases b with
  | true => exact ⟨rfl, h⟩
  | false => exact h.elim
theorem PostC.more {m : Mp} {H : Hp} {D : Addr} {acc : List T} {y : T} {Q : VK} : ∀ {r : R (List T)}, PostC m H D acc Q (r.bind fun ys S => .ok (y :: ys) S) → PostC m H D (acc ++ [y]) Q r
  | .ok l S, h => fun m' H' zs l' rs hd r => h m' H' zs l' rs hd (by rw [List.append_assoc] at r; exact r)
  | .exc _ _ _, h => h
  | .bad, h => h
theorem compL_noexc {ck : Sto → Bool} {g : GM} {c : BM} {e : EM} {ρ : Env} : ∀ {ts : List T} {S : Sto} {x : Str} {fs : List (Str × T)} {S' : Sto}, compL ck g c e ρ ts S ≠ .exc x fs S'
  | [], S, x, fs, S' => by
    unfold compL
    cases ck S <;> (intro z; cases z)
  | t :: ts, S, x, fs, S' => by
    unfold compL
    cases ck S with
    | false => intro z; cases z
    | true =>
      show (match g t ρ with
        | some ρ1 => _
        | none => R.bad) ≠ _
      cases g t ρ with
      | none => intro z; cases z
      | some ρ1 =>
        show (c ρ1 S).calm.bind _ ≠ _
        cases c ρ1 S with
        | bad => intro z; cases z
        | exc _ _ _ => intro z; cases z
        | ok b S1 =>
          show (match b with
            | true => (e ρ1 S1).calm.bind fun y S2 => (compL ck g c e ρ ts S2).bind fun ys S3 => R.ok (y :: ys) S3
            | false => compL ck g c e ρ ts S1) ≠ _
          cases b with
          | false => exact compL_noexc
          | true =>
            show (e ρ1 S1).calm.bind _ ≠ _
            cases e ρ1 S1 with
            | bad => intro z; cases z
            | exc _ _ _ => intro z; cases z
            | ok y S2 =>
              show (compL ck g c e ρ ts S2).bind _ ≠ _
              cases q : compL ck g c e ρ ts S2 with
              | bad => intro z; cases z
              | exc a b d => exact absurd q compL_noexc
              | ok l S3 => intro z; cases z
/-- a state whose list at D is set aside, seen whole -/
theorem del_up {H : Hp} {D : Addr} : ∀ a u, del H D a = some u → H a = some u := fun a u h => by
  unfold del at h
  split at h
  · cases h
  · exact h
theorem del_upd {H : Hp} {D : Addr} {o : HO} (h : H D = none) : del (upd H D o) D = H := by
  funext b
  unfold del upd
  by_cases e : b = D
  · rw [if_pos e, e, h]
  · rw [if_neg e, if_neg e]
theorem del_comm {H : Hp} {D p : Addr} {o : HO} (h : p ≠ D) : del (upd H p o) D = upd (del H D) p o := by
  funext b
  unfold del upd
  by_cases e : b = D
  · simp [e, Ne.symm h]
  · simp [e]
theorem tup_dn {Hd : Hp} {D : Addr} {xs : List V} (hd : Hd D = none) : ∀ a ys, upd Hd D (.lst xs) a = some (.tup ys) → Hd a = some (.tup ys) := fun a ys h => by
  by_cases e : a = D
  · rw [e, upd_same] at h; cases h
  · rw [upd_ne e] at h; exact h
theorem comp_sem {f : IM} {g : GM} {sl vs : List Nat} {c : BM} {e : EM} (hsl : ∀ i ∈ sl, i ∈ vs) {σ : St} {H : Hp} {Q : VK} (h : trN C W (nComp f g c e vs) σ H Q) :
    tLc (trI C W f) (trG g sl) (tFrT (trB C (fun _ _ _ _ => False) c)) (tFr (tr C (fun _ _ _ _ => False) e)) vs σ H Q := by
  obtain ⟨m, ρ, S, re, rs, h⟩ := h
  refine ⟨m, ρ, S, re, rs, ?_⟩
  unfold nComp at h
  cases ef : f ρ S with
  | bad => rw [ef] at h; exact h
  | exc cn fs S1 => rw [ef] at h; exact h
  | ok it S1 =>
    rw [ef] at h
    have h' : PostN C W m H σ Q (R.if (decide (it.items.length ≤ line)) (compL it.chk g c e (wipeE ρ vs) it.items S1)) := h
    obtain ⟨hb, h'⟩ := h'.if
    have hlen : it.items.length ≤ line := of_decide_eq_true hb
    intro m1 H1 J l1 rs1 wk D hD
    have h0 : PostC m1 H1 D [] Q (compL it.chk g c e (wipeE ρ vs) it.items S1) := by
      cases q : compL it.chk g c e (wipeE ρ vs) it.items S1 with
      | bad => rw [q] at h'; exact h'
      | exc a b d => exact absurd q compL_noexc
      | ok l S2 =>
        rw [q] at h'
        exact fun m' H' zs l' rs' hd r hz => h' m' H' D zs (l1.trans l') rs' hd r hz
    refine ⟨fun i n Hc => n = it.items.length - i ∧ i ≤ it.items.length ∧ ∃ m' Hd S' acc xs, Hc = upd Hd D (.lst xs) ∧ Hd D = none ∧ Le m1 H1 m' Hd ∧ RS m' Hd S' ∧ acc.length ≤ i ∧ RpL m' Hd xs acc ∧ PostC m' Hd D acc Q (compL it.chk g c e (wipeE ρ vs) (it.items.drop i) S'),
      ⟨it.items.length, by simp, Nat.zero_le _, m1, H1, S1, [], [], rfl, hD, .refl, rs1, Nat.le_refl _, .nil, by rw [List.drop_zero]; exact h0⟩, ?_⟩
    rintro i n Hc ⟨rfl, hi', m', Hd, S', acc, xs, rfl, hd, l', rs', ha, rx, hp⟩
    have up : ∀ a u, Hd a = some u → upd Hd D (.lst xs) a = some u := fun a u q => by rw [upd_ne (ne_of_none q hd)]; exact q
    by_cases hlt : i < it.items.length
    · right
      rw [List.drop_eq_getElem_cons hlt] at hp
      unfold compL at hp
      obtain ⟨hck, hp⟩ := hp.if
      obtain ⟨go, yl⟩ := wk.go l' rs' hck up (tup_dn hd) hlt
      have hxl : xs.length < sizeLine := by rw [rx.length, sizeLine_eq]; have : line = 16777216 := rfl; omega
      refine ⟨go, fun H2 => ∃ m2 Hd2 S2 acc2 xs2, H2 = upd Hd2 D (.lst xs2) ∧ Hd2 D = none ∧ Le m1 H1 m2 Hd2 ∧ RS m2 Hd2 S2 ∧ acc2.length ≤ i + 1 ∧ RpL m2 Hd2 xs2 acc2 ∧ PostC m2 Hd2 D acc2 Q (compL it.chk g c e (wipeE ρ vs) (it.items.drop (i + 1)) S2),
        fun H2 z => ⟨it.items.length - (i + 1), by omega, rfl, hlt, z⟩, fun x H2 y => ?_⟩
      obtain ⟨t, e1, yy⟩ := yl x H2 y
      have et : it.items[i] = t := by simpa [hlt] using e1
      rw [et] at hp
      obtain ⟨Hd2, eH2, hd2, ex, rxt⟩ : ∃ Hd2, H2 = upd Hd2 D (.lst xs) ∧ Hd2 D = none ∧ Ext m' Hd m' Hd2 ∧ Rp m' Hd2 x t := by
        rcases yy with ⟨e5, r5⟩ | ⟨p, ws, l5, e6, hpn, e5, e7, rl⟩
        · exact ⟨Hd, e5, hd, .refl, r5⟩
        · have pD : p ≠ D := fun z => by rw [z, upd_same] at hpn; cases hpn
          have hpd : Hd p = none := by rw [upd_ne pD] at hpn; exact hpn
          subst e6 e7
          refine ⟨upd Hd p (.tup ws), ?_, by rw [upd_ne (Ne.symm pD)]; exact hd, .alloc hpd, .newTup rs' hpd rl⟩
          rw [e5]
          funext b
          unfold upd
          by_cases z1 : b = p
          · have z2 : b ≠ D := fun z => pD (by rw [← z1, z])
            rw [if_pos z1, if_neg z2, if_pos z1]
          · rw [if_neg z1]
            by_cases z2 : b = D
            · rw [if_pos z2, if_pos z2]
            · rw [if_neg z2, if_neg z2, if_neg z1]
      subst eH2
      have up2 : ∀ a u, Hd2 a = some u → upd Hd2 D (.lst xs) a = some u := fun a u q => by rw [upd_ne (ne_of_none q hd2)]; exact q
      refine ⟨m', Hd2, wipeE ρ vs, t, up2, wipe_re (((re.le l1).le l').le ex.1) vs, rxt, ?_⟩
      cases eg : g t (wipeE ρ vs) with
      | none => simp only [eg] at hp; exact hp.elim
      | some ρ1 =>
        simp only [eg] at hp ⊢
        intro σ2 re2 ou
        refine ⟨wipe_outs ou hsl, D, xs, upd_same, ?_⟩
        rw [del_upd hd2]
        refine ⟨m', ρ1, S', re2, ex.2 _ rs', (Post.calmC (hp.le ex.1)).mono fun b H3 ⟨m3, b', S3, l3, rs3, eb, q3⟩ hd3 => ?_⟩
        subst eb
        have rx3 := (rx.le ex.1).le l3
        cases b with
        | false =>
          rw [if_neg Bool.false_ne_true]
          exact ⟨m3, H3, S3, acc, xs, rfl, hd3, (l'.trans ex.1).trans l3, rs3, Nat.le_succ_of_le ha, rx3, q3⟩
        | true =>
          rw [if_pos rfl]
          refine ⟨D, xs, upd_same, ?_⟩
          rw [del_upd hd3]
          refine ⟨m3, ρ1, S3, re2.le l3, rs3, (Post.calmC q3).mono fun y H4 ⟨m4, yt, S4, l4, rs4, ry, q4⟩ hd4 => ?_⟩
          refine ⟨xs, upd_same, hxl, ?_⟩
          rw [upd_upd]
          exact ⟨m4, H4, S4, acc ++ [yt], xs ++ [y], rfl, hd4, ((l'.trans ex.1).trans l3).trans l4, rs4, by rw [List.length_append]; show acc.length + 1 ≤ i + 1; omega, (rx3.le l4).append (.cons ry .nil), q4.more⟩
    · left
      have e1 : i = it.items.length := by omega
      subst e1
      rw [List.drop_length] at hp
      unfold compL at hp
      obtain ⟨hck, hp⟩ := hp.if
      refine ⟨wk.stop l' rs' hck up, hp m' Hd xs .refl rs' hd (by rw [List.append_nil]; exact rx) ?_⟩
      rw [rx.length, sizeLine_eq]
      have : line = 16777216 := rfl
      omega
theorem dn_comp {elt tg iter : Expr} {ifs : List Expr} {scope : Scope} {own : List (Str × Nat)} {f : IM} {g : GM} {sl : List Nat} {c : BM} {e : EM} {pos : Pos} (ok2 : BlkOk Γ.N Γ.sc scope own) (hi : DI C k Γ tg iter f) (hg : DG C k (blkX Γ scope) tg g sl)
    (hsl : ∀ i ∈ sl, i ∈ own.map (·.2)) (hc : DTs C k (blkX Γ scope) ifs c) (he : DE C k (blkX Γ scope) elt e) (hs : noSet iter = true) : DN C k Γ (.ListComp elt [⟨tg, iter, ifs, 0⟩] scope pos) (nComp f g c e (own.map (·.2))) := fun X W ok tk => by
  refine PE.weak (pe_lc ok.calm (by rw [ok.N]; exact ok.nd) (hi X W ok tk) (by rw [ok.N, ok.sc]; exact ok2) (fun s H Ca cl fp => hg _ (ok.blk s H scope cl Ca fp)) (fun s H Ca cl fp => hc _ _ (ok.blk s H scope cl Ca fp) takesNo) (fun s H Ca cl fp => PE.frame (he _ _ (ok.blk s H scope cl Ca fp) takesNo)) (folded_no hs)) fun σ H Q h => ?_
  exact comp_sem hsl h
end
end Mi
end

section
set_option Elab.async false
set_option linter.all false
set_option maxRecDepth 100000
set_option maxHeartbeats 1000000
/-! Mi9: calls of the program's own defs -/
namespace Mi
open PySem PySem.Spec L2
abbrev FM := List T → Sto → R T
/-- a def that runs as φ -/
structure FnD (C : PC) (k : Nat) (f : Addr) (fd : FuncData) (ps : List Str) (φ : FM) : Prop where
  run : ∀ {A : Around} {outer : List PySem.Env} {s : Shared} {H : Hp} {args : Args} {us : List Value} {vs : List V} {m : Mp} {ts : List T} {S : Sto} {Q : VK} {E : XK}, Room k A → A.guards = some [] →
    Env0 C.P C.w C.K C.mg C.base A outer s H → BindsTo s fd args (ps.zip us) → Vals vs us → vs.length = ps.length → RpL m H vs ts → RS m H S →
    Post C (fun c d _ H' => E c d H') Rp m H [] Q (φ ts S) → codeAny (model C.P C.w) A (.call (.ref f) args) (CR (L2.CX C.P C.w) outer C.P C.w H s Q E) s
theorem FnD.mono {C : PC} {j k : Nat} {f : Addr} {fd : FuncData} {ps : List Str} {φ : FM} (F : FnD C j f fd ps φ) (h : j ≤ k) : FnD C k f fd ps φ :=
  ⟨fun r => F.run (r.mono h)⟩
theorem guards_deeper {A : Around} {env : PySem.Env} (h : A.guards = some []) : (A.deeper env).guards = some [] := by
  first
    | exact h
    | (obtain ⟨hd, d, fr, gs, u⟩ := A; simpa [Around.deeper, guardsOf, pushGuards, Code.guards, Code.isGuard] using h)

section
variable {C : PC} {W : WX} {k : Nat} {Γ : Sx}
def eCall (φ : FM) (n : Nat) (dt : List T) (g : AM) : EM := fun ρ S => (g ρ S).bind fun ts S1 => R.if (ts.length + dt.length == n) (φ (ts ++ dt) S1)
/-- values of the module that need no heap -/
def Flat1 : V → Value → T → Prop := fun v u t => RelV v u ∧ ∀ m H, Rp m H v t
inductive Flats : List V → List Value → List T → Prop
  | nil : Flats [] [] []
  | cons {v : V} {u : Value} {t : T} {vs : List V} {us : List Value} {ts : List T} : Flat1 v u t → Flats vs us ts → Flats (v :: vs) (u :: us) (t :: ts)
theorem Flats.vals : ∀ {vs : List V} {us : List Value} {ts : List T}, Flats vs us ts → Vals vs us
  | _, _, _, .nil => .nil
  | _, _, _, .cons h r => .cons h.1 (Flats.vals r)
theorem Flats.rpl {m : Mp} {H : Hp} : ∀ {vs : List V} {us : List Value} {ts : List T}, Flats vs us ts → RpL m H vs ts
  | _, _, _, .nil => .nil
  | _, _, _, .cons h r => .cons (h.2 _ _) (Flats.rpl r)
def spD (C : PC) (n : Nat) (φ : FM) : Sp := fun vs H Q E => vs.length = n ∧ ∃ m ts S, RpL m H vs ts ∧ RS m H S ∧ Post C (fun c d _ H' => E c d H') Rp m H [] Q (φ ts S)
theorem Post.sig {m : Mp} {H : Hp} {σ : St} {Q : VK} : ∀ {r : R T}, Post C W Rp m H σ Q r → Post C (fun c d _ H' => W c d σ H') Rp m H [] Q r
  | .ok _ _, h => h
  | .exc _ _ _, h => h
  | .bad, h => h
theorem run_fnD {X : Cx} {f : Addr} {fd : FuncData} {ps : List Str} {φ : FM} {ds : List Value} {dvs : List V} {dt : List T} {pins : List (Addr × Obj)} {σ : St} {H : Hp} {s : Shared} {Q : VK} {us : List Value} {vs : List V} {ts : List T} {m : Mp} {S : Sto}
    (F : FnD C k f fd ps φ) (ok : XOk C k Γ X) (tk : Takes X W) (hb : Binds C.K fd ps ds) (hd : Flats dvs ds dt) (I : Inv X pins σ H s) (r : Vals vs us) (rx : RpL m H vs ts) (rs : RS m H S)
    (h : Post C W Rp m H σ Q (R.if (ts.length + dt.length == ps.length) (φ (ts ++ dt) S))) : wpAny (model X.prog X.w) X.A (call (.ref f) us) (EP X pins σ Q) X.xe s := by
  obtain ⟨hl, h⟩ := Post.if h
  have hl' : ts.length + dt.length = ps.length := by simpa using hl
  have rx2 := rx.append (hd.rpl (m := m) (H := H))
  have r2 : Vals (vs ++ dvs) (us ++ ds) := r.append hd.vals
  have hv : (vs ++ dvs).length = ps.length := by rw [rx2.length, List.length_append]; exact hl'
  have hu : (us ++ ds).length = ps.length := by rw [← r2.length]; exact hv
  have kin : C.K.In s.heap := by have := I.kIn; rw [ok.K] at this; exact this
  have e0 : Env0 C.P C.w C.K C.mg C.base X.A X.stack s H := by have := I.env0; rw [ok.P, ok.w, ok.K, ok.mg, ok.base] at this; exact this
  have key := F.run (E := WE W σ) (Q := Q) ok.room ok.gd e0 (hb s us kin hu) r2 hv rx2 rs h.sig
  rw [← ok.P, ← ok.w] at key
  refine wpAny_call (codeAny_mono key fun r s' hq => ?_)
  cases r with
  | error e => exact passAt tk σ pins H s e s' I hq
  | ok fl =>
    cases fl with
    | ret u => exact I.after hq
    | next => exact False.elim hq
    | brk => exact False.elim hq
    | cont => exact False.elim hq
theorem de_call {f : Addr} {fd : FuncData} {ps : List Str} {φ : FM} {ds : List Value} {dvs : List V} {dt : List T} {x : Str} {e : Expr} {es : List Expr} {g : AM} {p pos : Pos} (F : FnD C k f fd ps φ) (hg : SGl Γ x) (hm : C.mg x = some (.ref f)) (hk : PySem.W.keepIn C.K (.ref f) = true)
    (hb : Binds C.K fd ps ds) (hd : Flats dvs ds dt) (ha : DAs C k Γ (e :: es) g) (hdb : (x == ("__debug__" : Str)) = false) (hs : (e :: es).all noStar = true) : DE C k Γ (.Call (.Name x p) (e :: es) [] pos) (eCall φ ps.length dt g) :=
  fun X W ok tk => by
    simp only [List.all_cons, Bool.and_eq_true] at hs
    refine ⟨fun pins s σ H Q I ⟨m, ρ, S, re, rs, h⟩ => ?_⟩
    refine wpAny_Call_Name_kw (ld_glob I (ok.gl hg) (by rw [ok.mg]; exact hm) ?_ hdb)
    refine PySem.W.callWith_K (h₀ := X.base) I.ok.mod.kin (by rw [ok.K]; exact hk) (thn ((ha X W ok tk).run pos pins s σ H _ I ⟨m, ρ, S, re, rs, Post.bind h⟩) fun us s1 ⟨vs, H1, I1, r, m1, ts, S1, l1, rs1, rx, q⟩ => ⟨I1.kIn, ?_⟩) (star_cons hs.1) (starAny hs.2)
    exact run_fnD F ok tk hb hd I1 r rx rs1 q
theorem de_call0 {f : Addr} {fd : FuncData} {ps : List Str} {φ : FM} {ds : List Value} {dvs : List V} {dt : List T} {x : Str} {p pos : Pos} (F : FnD C k f fd ps φ) (hg : SGl Γ x) (hm : C.mg x = some (.ref f)) (hk : PySem.W.keepIn C.K (.ref f) = true)
    (hb : Binds C.K fd ps ds) (hd : Flats dvs ds dt) (hdb : (x == ("__debug__" : Str)) = false) : DE C k Γ (.Call (.Name x p) [] [] pos) (eCall φ ps.length dt aNil) :=
  fun X W ok tk => by
    refine ⟨fun pins s σ H Q I ⟨m, ρ, S, re, rs, h⟩ => ?_⟩
    refine wpAny_Call_Name_kw (ld_glob I (ok.gl hg) (by rw [ok.mg]; exact hm) ?_ hdb)
    exact PySem.W.callWith_K0 I.kIn (by rw [ok.K]; exact hk) (run_fnD (us := []) (vs := []) (ts := []) F ok tk hb hd I .nil .nil rs h)

/-! ### a def by its body -/
/-- what comes out of a def: a new list as a tree, its own objs gone -/
def outT (n : Nat) (t : T) (S : Sto) : R T := match t with
  | .obj i => if i < n then .ok (.obj i) (S.take n) else (match S[i]? with
    | some (.lst l) => R.if (T.pures l) (.ok (.lst l) (S.take n))
    | _ => .bad)
  | t => R.if t.pure (.ok t (S.take n))
def puresF : List (Str × T) → Bool
  | [] => true
  | (_, t) :: r => t.pure && puresF r
def fnOf (n : Nat) (f : SM) : FM := fun ts S => match f (ts.map some ++ List.replicate (n - ts.length) none) S with
  | .go (.rt t) S1 => R.if (decide (S.length ≤ S1.length)) (outT S.length t S1)
  | .go (.nx _) S1 => R.if (decide (S.length ≤ S1.length)) (.ok .non (S1.take S.length))
  | .exc c fs _ S1 => R.if (decide (S.length ≤ S1.length) && puresF fs) (.exc c fs (S1.take S.length))
  | _ => .bad
theorem RE.begin {m : Mp} {H : Hp} {N : List Str} : ∀ {vs : List V} {ts : List T}, RpL m H vs ts → RE m H (start N vs) (ts.map some ++ List.replicate (N.length - ts.length) none) := fun {vs ts} r => by
  have hl := r.length
  unfold L2.start
  refine ⟨by simp [hl], fun i t e => ?_⟩
  by_cases hi : i < ts.length
  · rw [List.getElem?_append_left (by simpa using hi), List.getElem?_map] at e
    obtain ⟨u, e1, e2⟩ := Option.map_eq_some_iff.mp e
    cases e2
    obtain ⟨v, h1, h2⟩ := r.get e1
    exact ⟨v, by rw [List.getElem?_append_left (by simp [hl]; exact hi), List.getElem?_map, h1]; rfl, h2⟩
  · rw [List.getElem?_append_right (by simpa using hi)] at e
    have e' := List.mem_of_getElem? e
    have := List.eq_of_mem_replicate e'
    cases this
theorem RpF.cut {m : Mp} {H : Hp} {n : Nat} : ∀ {vs : List (Str × V)} {ts : List (Str × T)}, puresF ts = true → RpF m H vs ts → RpF (cutM m n) H vs ts
  | _, _, _, .nil => .nil
  | _, _, p, .cons h r => by
    simp only [puresF, Bool.and_eq_true] at p
    exact .cons (h.cut p.1) (RpF.cut p.2 r)
theorem out_of_list {m : Mp} {H : Hp} {S : Sto} {n i : Nat} {a : Addr} {xs : List V} {l : List T} (rs : RS m H S) (hi : m i = some a) (hn : ¬ i < n) (h : H a = some (.lst xs)) (r : RpL m H xs l) (p : T.pures l = true) : Rp (cutM m n) H (.ref a) (.lst l) := by
  refine .lst h (fun j hj => ?_) (r.cut p)
  unfold cutM at hj
  split at hj
  · rename_i hlt
    have := rs.inj j i a hj hi
    omega
  · cases hj
theorem Post.out {P0 : VK} {E : XK} {m : Mp} {H : Hp} {S : Sto} {t : T} {v : V} {m1 : Mp} {H1 : Hp} {S1 : Sto} (rs : RS m H S) (l : Le m H m1 H1) (rs1 : RS m1 H1 S1) (hn : S.length ≤ S1.length) (rx : Rp m1 H1 v t)
    (h : Post C (fun c d _ H' => E c d H') Rp m H [] P0 (outT S.length t S1)) : P0 v H1 := by
  have fin : ∀ {u : T}, Post C (fun c d _ H' => E c d H') Rp m H [] P0 (.ok u (S1.take S.length)) → Rp (cutM m1 S.length) H1 v u → P0 v H1 := fun q x => q _ H1 v (l.cut rs) (rs1.cut _ hn) x
  have alt : ∀ {u : T}, (∀ i, u ≠ .obj i) → Post C (fun c d _ H' => E c d H') Rp m H [] P0 (outT S.length u S1) → u.pure = true ∧ Post C (fun c d _ H' => E c d H') Rp m H [] P0 (.ok u (S1.take S.length)) := fun {u} hu q => by
    have e : outT S.length u S1 = R.if u.pure (.ok u (S1.take S.length)) := by cases u <;> first | rfl | exact absurd rfl (hu _)
    rw [e] at q
    exact Post.if q
  cases rx with
  | @obj a i hi =>
    have h : Post C (fun c d _ H' => E c d H') Rp m H [] P0 (if i < S.length then .ok (.obj i) (S1.take S.length) else (match S1[i]? with
      | some (.lst l) => R.if (T.pures l) (.ok (.lst l) (S1.take S.length))
      | _ => .bad)) := h
    by_cases hlt : i < S.length
    · rw [if_pos hlt] at h
      exact fin h (.obj (by unfold cutM; rw [if_pos hlt]; exact hi))
    · simp only [if_neg hlt] at h
      cases q : S1[i]? with
      | none => rw [q] at h; exact h.elim
      | some o =>
        cases o with
        | dic _ d => rw [q] at h; exact h.elim
        | dlk _ d => rw [q] at h; exact h.elim
        | lst lt =>
          rw [q] at h
          obtain ⟨hp, h⟩ := Post.if h
          obtain ⟨b, h1, xs, h2, h3, _⟩ := rs1.has i _ q
          rw [hi] at h1; cases h1
          exact fin h (out_of_list rs1 hi hlt h2 h3 hp)
  | non => obtain ⟨hp, h⟩ := alt (by intro i z; cases z) h; exact fin h .non
  | bl b => obtain ⟨hp, h⟩ := alt (by intro i z; cases z) h; exact fin h (.bl b)
  | int b => obtain ⟨hp, h⟩ := alt (by intro i z; cases z) h; exact fin h (.int b)
  | str b => obtain ⟨hp, h⟩ := alt (by intro i z; cases z) h; exact fin h (.str b)
  | tup a b c => obtain ⟨hp, h⟩ := alt (by intro i z; cases z) h; exact fin h (Rp.cut hp (.tup a b c))
  | lst a b c => obtain ⟨hp, h⟩ := alt (by intro i z; cases z) h; exact fin h (Rp.cut hp (.lst a b c))
  | scr a b c => obtain ⟨hp, h⟩ := alt (by intro i z; cases z) h; exact fin h (Rp.cut hp (.scr a b c))
theorem fnd_of {f : Addr} {name qual : Str} {params : Arguments} {body : List Stmt} {scope : Scope} {dV kV doc pm cdv ct oc : Value} {an od : Option Addr} {osl : Array (Option Value)} {N ps : List Str} {g : SM}
    (lk : C.K.lookup f = some ⟨oc, od, .func (PySem.W.fnOf name qual params body scope dV kV doc pm an cdv ct), osl⟩) (hcd : PySem.W.codeIn C.K cdv qual = true) (Sc : FnScope N ps scope)
    (hbody : DSs C k ⟨N, scope, false, fun _ => true⟩ body g) : FnD C (k + 1) f (PySem.W.fnOf name qual params body scope dV kV doc pm an cdv ct) ps (fnOf N.length g) := by
  refine ⟨fun {A outer s H args us vs m ts S Q E} hr hgd e0 hb r hl rx rs hq => ?_⟩
  have kin : C.K.In s.heap := e0.mod.kin.keeps fun b o z => (e0.bs b o z).1
  have lim : s.heap.NoLimit := e0.mod.nolimit.keeps fun b o z => (e0.bs b o z).1
  have hkind : ∀ y ∈ ps.zip us, scope.names.lookup y.1 = some .local ∨ (scope.names.lookup y.1 = some .cell ∧ ((cellsFrom (s.heap.objs.size + 1) scope.names []).lookup y.1).isSome = true) := fun y hy => by
    obtain ⟨n, v⟩ := y
    rcases Sc.par n (List.of_mem_zip hy).1 with z | z
    · exact .inl z
    · exact .inr ⟨z, PySem.W.cellsFrom_some _ _ _ (.inl z)⟩
  refine codeAny_call_function hr.depth (kin _ _ lk) rfl Sc.co Sc.gen rfl (PySem.W.codeRec_of kin hcd) (hb _ _ _ _ ?_)
  refine wpAny_newFunctionEnv_cells Sc.kind hkind fun env he s1 x => ?_
  subst he
  refine ⟨lim.keeps x.toInCall.keep, codeAny_func ?_⟩
  have I := inv_start (CX := L2.CX C.P C.w) (mg := C.mg) (E := E) Sc hr.hd e0 hl r x
  have ok : XOk C k ⟨N, scope, false, fun _ => true⟩ (cxOf (L2.CX C.P C.w) C.P C.w C.K C.mg C.base N qual scope f cdv A outer s H E) :=
    ⟨rfl, rfl, rfl, rfl, rfl, rfl, Sc.nd, rfl, rfl, hr.deeper _, guards_deeper hgd, fun _ _ => rfl, fun _ => passes_of (K := fun e s'' => L2.CX C.P C.w outer H s E e s'') (E₁ := fun e s'' => L2.CX C.P C.w outer H s E e s'') rfl, fun _ => ⟨rfl, rfl⟩⟩
  have tk : Takes (cxOf (L2.CX C.P C.w) C.P C.w C.K C.mg C.base N qual scope f cdv A outer s H E) (fun c d _ H' => E c d H') := takes_of (E₁ := fun e s'' => L2.CX C.P C.w outer H s E e s'') rfl rfl rfl rfl
  have hs := (hbody _ _ ok tk).run [] s1 (start N vs) H { nx := fun _ H' => Q .non H', rt := Q } I ⟨m, _, S, RE.begin rx, rs, by
    unfold fnOf at hq
    show PostS C _ m H _ (g (ts.map some ++ List.replicate (N.length - ts.length) none) S)
    cases e : g (ts.map some ++ List.replicate (N.length - ts.length) none) S with
    | bad => rw [e] at hq; exact hq
    | exc c fs ρ1 S1 =>
      simp only [e] at hq
      obtain ⟨hb1, hq⟩ := Post.if hq
      simp only [Bool.and_eq_true, decide_eq_true_eq] at hb1
      exact fun m' H' σ' d l rs' re' ⟨ws, x1, x2, x3⟩ => hq _ H' d (l.cut rs) (rs'.cut _ hb1.1) ⟨ws, x1, x2.cut, x3.cut hb1.2⟩
    | go fl S1 =>
      cases fl with
      | nx ρ1 =>
        simp only [e] at hq
        obtain ⟨hb1, hq⟩ := Post.if hq
        exact fun m' H' σ' l rs' re' => hq _ H' .non (l.cut rs) (rs'.cut _ (of_decide_eq_true hb1)) .non
      | rt t =>
        simp only [e] at hq
        obtain ⟨hb1, hq⟩ := Post.if hq
        exact fun m' H' v l rs' rv => Post.out rs l rs' (of_decide_eq_true hb1) rv hq
      | bk ρ1 => simp only [e] at hq; exact hq.elim
      | ct ρ1 => simp only [e] at hq; exact hq.elim⟩
  refine wpAny_mono hs (fun fl s' hs => ?_) fun e s' z => z
  have fin : ∀ {σ' : St} {H' : Hp} {v : V} {u : Value}, Inv (cxOf (L2.CX C.P C.w) C.P C.w C.K C.mg C.base N qual scope f cdv A outer s H E) [] σ' H' s' → RelV v u → Q v H' → CE outer C.P C.w H s Q u s' :=
    fun {σ' H' v u} J rv q => ⟨v, H', J.os, J.bare, J.base, J.hok, rv, q⟩
  cases fl with
  | ret u =>
    obtain ⟨v, σ', H', J, rv, q⟩ := hs
    exact fin J rv q
  | next =>
    obtain ⟨σ', H', J, q⟩ := hs
    exact fin (v := V.non) (u := Value.none) J rfl q
  | brk =>
    obtain ⟨_, _, _, z⟩ := hs
    exact False.elim z
  | cont =>
    obtain ⟨_, _, _, z⟩ := hs
    exact False.elim z
end
end Mi
end

section
set_option Elab.async false
set_option linter.all false
set_option maxRecDepth 100000
set_option maxHeartbeats 2000000
/-! Mx0: an exception's own __init__ of the form super().__init__(x); self.f = x, walked -/
namespace Mi
open PySem PySem.Spec PySem.Calls L2

/-- what the module says of that __init__ -/
structure RsnI (C : PC) (fI : Addr) (fld : Str) : Prop where
  fn : ∃ oc od name qual params body sc dV kV doc pm an cda ct cc osl ccl cdd vs ccs file tf cl cld D csl cdD p0 p1 p2 p3 p4 p5 q0 q1 q2 q3 a0 a1 arn,
    C.K.lookup fI = some ⟨oc, od, .func (PySem.W.ksFn name qual params body sc dV kV doc pm an (.ref cda) ct cc), osl⟩ ∧
    body = [.Expr (.Call (.Attribute (.Call (.Name "super" p0) [] [] p1) "__init__" p2) [.Name arn p3] [] p4) p5, .Assign [.Attribute (.Name "self" q0) fld q1] (.Name arn q2) q3] ∧
    (∀ env : PySem.Env, ∃ pl : Sem Bool, eval (.Call (.Attribute (.Call (.Name "super" p0) [] [] p1) "__init__" p2) [.Name arn p3] [] p4) env = (do
      let ov ← attributeBase (.Call (.Name "super" p0) [] [] p1) "__init__" env (eval (.Call (.Name "super" p0) [] [] p1) env)
      standAt p2.atName
      let (f, first) ← holding [ov] (getMethod ov "__init__" pl)
      callWith p4 f first (backTo p4 (starEach [.Name arn p3] env)) [])) ∧
    PySem.W.codeIn C.K (.ref cda) qual = true ∧
    (params.posonlyargs ++ params.args).head? = some ⟨"self", a0, a1⟩ ∧
    (∀ u v : Value, bindArgs (PySem.W.ksFn name qual params body sc dV kV doc pm an (.ref cda) ct cc) ⟨[u, v], []⟩ = pure [(("self" : Str), u), (arn, v)]) ∧
    arn ≠ "self" ∧ (arn == ("__debug__" : Str)) = false ∧
    C.K.lookup cda = some ⟨ccl, cdd, .fields vs, ccs⟩ ∧ vs[2]? = some (.str file tf) ∧ ((C.P.main.file : Str) == file) = true ∧ (C.P.main.scope.names.lookup ("super" : Str)).isSome = false ∧
    C.K.lookup cc = some ⟨cl, cld, .cell (some (.ref D)), csl⟩ ∧ PySem.W.clsIn C.K D = some cdD ∧ C.mg "super" = none ∧
    (∀ x ∈ sc.names, x.2 ≠ .cell) ∧ sc.isCoroutine = false ∧ sc.isGenerator = false ∧ sc.kind = .function ∧
    sc.names.lookup ("self" : Str) = some .local ∧ sc.names.lookup arn = some .local ∧ sc.names.lookup ("super" : Str) = some .globalImplicit ∧ sc.names.lookup ("__class__" : Str) = some .free
  op : PySem.W.nsIn C.K cStatics "thirdparty.any" = some none
/-- and of a class that has it -/
structure RsnC (C : PC) (fI : Addr) (fld : Str) (Ca : Addr) : Prop where
  oex : OexC C.K Ca
  ini : PySem.W.findIn C.K (.ref Ca) "__init__" = some (some (.ref fI))
  tyI : PySem.W.typeIn C.K (.ref fI) = some (.type "function")
  nof : PySem.W.findIn C.K (.ref Ca) fld = some none
  sup : ∀ cc cl cld D csl, (∃ oc od name qual params body sc dV kV doc pm an cda ct osl, C.K.lookup fI = some ⟨oc, od, .func (PySem.W.ksFn name qual params body sc dV kV doc pm an cda ct cc), osl⟩) → C.K.lookup cc = some ⟨cl, cld, .cell (some (.ref D)), csl⟩ →
    PySem.W.mroIn C.K Ca (.ref D) = some true ∧ PySem.W.ks_superIn C.K Ca D "__init__" = some (some (.builtin "ValueError.__init__"))
  isV : PySem.W.subIn C.K (.ref Ca) (.type "ValueError") = some true

section
variable {prog : Program} {w : World} {A : Around} {E : Value → Shared → Prop} {h : Heap} {g : Array GenState} {d : Drawn} {t : Nat} {os : OsState}
variable {nm q : Str} {C N : Addr} {bs bm : List Value} {hdct : Bool} {sn : List Str} {sub : List Value} {ab : Bool} {col : Option Bool} {dd : Option Addr} {k0 k1 k2 k3 k5 : Option Value}
/-- ValueError.__init__, bound, called -/
theorem call_bwV {u e t0 : Addr} {rest : List Value} {Q : Value → Shared → Prop}
    (hC : h.get? C = some (excClassObj nm q C N bs bm hdct sn sub ab col dd k0 k1 k2 k3 k5 "ValueError.__new__")) (he : h.get? e = some (HandSPX.excO C t0)) (hu : h.get? u = some (PySem.W.kxs_mw "ValueError.__init__" e)) (hrest : rest.length ≤ sizeLine)
    (hq : ∀ h' t1, (∀ b o, b ≠ e → h.get? b = some o → h'.get? b = some o) → h'.get? e = some (HandSPX.excO C t1) → Q .none ⟨h', g, d, t, os⟩) :
    wpAny (model prog w) A (call (.ref u) rest) Q E ⟨h, g, d, t, os⟩ := by
  refine wpAny_call (codeAny_of_tree ?_)
  show wpAny _ A.in1 (callAny (.ref u) ⟨rest, []⟩) _ _ _
  simp only [callAny]
  refine wpAny_bind (wpAny_load hu ?_)
  simp only [PySem.W.kxs_mw, show (Value.type "method-wrapper" == Value.type "method" || Value.type "method-wrapper" == Value.type "builtin_function_or_method" || Value.type "method-wrapper" == Value.type "method-wrapper") = true by decide, if_true]
  refine PySem.W.KFB.if_so (by decide) ?_
  refine wpAny_bind (PySem.W.check_bound_init F.excBase_ValueError.toExcCallFacts hC he rfl ?_)
  refine wpAny_bind (wpAny_pure (wpAny_pure ?_))
  refine ⟨Code.quiet_builtin _ (by decide +kernel), codeAny_builtin F.excBase_ValueError.initEntry ?_⟩
  rw [Around.under_plainId F.excBase_ValueError.init.plain _]
  wp_walk
  refine hq _ h.objs.size (fun b o hb ho => ?_) ?_
  · rw [Heap.get?_update_other _ _ (Ne.symm hb)]
    exact Heap.get?_push_of_some _ ho
  · rw [Heap.get?_update_self _ (Heap.get?_push_of_some _ he) rfl]
    rfl
end
end Mi
end

section
set_option Elab.async false
set_option linter.all false
set_option maxRecDepth 100000
set_option maxHeartbeats 2000000
/-! Mx1: the walk of such an __init__ -/
namespace Mi
open PySem PySem.Spec PySem.Calls L2
section
variable {prog : Program} {w : World} {A : Around} {E : Value → Shared → Prop} {h : Heap} {g : Array GenState} {d : Drawn} {t : Nat} {os : OsState}

theorem rsn_run {Cp : PC} {fI Ca e t0 : Addr} {fld : Str} {v : Value} {R : Result → Shared → Prop} (RI : RsnI Cp fI fld) (RC : RsnC Cp fI fld Ca) (hroom : A.depth < recursionLimit) (kin : Cp.K.In h) (hK : ∀ h' : Heap, (∀ b o, b ≠ e → h.get? b = some o → h'.get? b = some o) → Cp.K.In h') (lim : h.NoLimit)
    (glob : h.Ns mainGlobals Cp.mg) (blt : ∃ mb, h.Ns builtinsNs mb ∧ ∀ x : Str, x ≠ "__name__" → mb x = bootBuiltins x) (he : h.get? e = some (HandSPX.excO Ca t0))
    (hq : ∀ h' tk dx t1, (∀ b o, b ≠ e → h.get? b = some o → h'.get? b = some o) → h.objs.size ≤ dx → dx ≠ e → h'.get? e = some ({ cls := .ref Ca, dict := some dx, data := .fields #[.ref t1, .none, .none, .none, .bool false, .none] } : Obj) →
      h'.Ns1 dx (fun y => if y = fld then some v else none) → R (.ok (.ret .none)) ⟨h', g, d, tk, os⟩) :
    codeAny (model Cp.P w) A (.call (.ref fI) ⟨[.ref e, v], []⟩) R ⟨h, g, d, t, os⟩ := by
  obtain ⟨oc, od, name, qual, params, body, sc, dV, kV, doc, pm, an, cda, ct, cc, osl, ccl, cdd, vs, ccs, file, tf, cl, cld, D, csl, cdD, p0, p1, p2, p3, p4, p5, q0, q1, q2, q3, a0, a1, arn, lk, hb, hev, hcode, hpar, hbind, hne, hdb, lkc, hvs, hfile, htop, lkcc, hD, hsup, hcell, hco, hgen, hk, kself, karg, ksup, kcls⟩ := RI.fn
  obtain ⟨hsub, hsi⟩ := RC.sup cc cl cld D csl ⟨oc, od, name, qual, params, body, sc, dV, kV, doc, pm, an, .ref cda, ct, osl, lk⟩ lkcc
  obtain ⟨nm, qn, N, bs, bm, sn, sub, ab, col, dd, k0, k1, k2, k3, k5, hCl, hbm⟩ := RC.oex.cls
  have hcl : PySem.W.clsIn Cp.K Ca = some { name := nm, bases := bs, mro := .ref Ca :: bm, ns := N, qualname := qn, hasDict := true, slotNames := sn, subclasses := sub, abstract := ab, collection := col, hasDel := false } := by unfold PySem.W.clsIn; rw [hCl] <;> rfl
  refine PySem.ks_codeAny_call_defAt (fd := PySem.W.ksFn name qual params body sc dV kV doc pm an (.ref cda) ct cc) hroom (kin _ _ lk) rfl lim (PySem.W.codeRec_of kin hcode) rfl (.of_eq (hbind (.ref e) v)) hcell (fun y hy => ?_) (fun h1 hns hk1 => ?_) hco hgen hk
  · rcases List.mem_cons.mp hy with z | hy
    · subst z; exact kself
    · rcases List.mem_cons.mp hy with z | hy
      · subst z; exact karg
      · cases hy
  have hE : (callEnv (PySem.W.ksFn name qual params body sc dV kV doc pm an (.ref cda) ct cc) h.objs.size fI) = PySem.W.ksEnv qual sc h.objs.size fI (.ref cda) cc := rfl
  rw [hE]
  conv => arg 4; rw [hb]
  have kin1 : Cp.K.In h1 := kin.keeps hk1
  have hse : h1.get? e = some (HandSPX.excO Ca t0) := hk1 _ _ he
  have nself : (fun x : Str => [(("self" : Str), Value.ref e), (arn, v)].reverse.lookup x) ("self" : Str) = some (.ref e) := by
    show List.lookup ("self" : Str) ([(arn, v), (("self" : Str), Value.ref e)] : List (Str × Value)) = _
    rw [List.lookup_cons, show (("self" : Str) == arn) = false from by simpa using Ne.symm hne]
    rfl
  have narg : (fun x => [(("self" : Str), Value.ref e), (arn, v)].reverse.lookup x) arn = some v := by
    show ([(arn, v), (("self" : Str), Value.ref e)] : List (Str × Value)).lookup arn = _
    rw [List.lookup_cons, show (arn == arn) = true from by simp]
  obtain ⟨oD, hoD, hoDd⟩ : ∃ oD, h1.get? D = some oD ∧ oD.data = .cls cdD := by
    unfold PySem.W.clsIn at hD
    split at hD
    · rename_i c d' cd' sl ho
      cases hD
      exact ⟨_, kin1 _ _ ho, rfl⟩
    · cases hD
  obtain ⟨pl, hev⟩ := hev (PySem.W.ksEnv qual sc h.objs.size fI (.ref cda) cc)
  refine PySem.ks_wpAt_execs_cons (PySem.ks_wpAt_Expr_any (PySem.ks_wpAt_MethodCall (pl := pl) ?_ hev) (by show (sc.kind == .module && _) = false; rw [hk]; rfl))
  refine PySem.ks_wpAt_super_base (env := PySem.W.ksEnv qual sc h.objs.size fI (.ref cda) cc) ksup kcls (by decide) rfl (kin1 _ _ lk) rfl hpar rfl (kin1 _ _ lkc) rfl hvs hfile htop ?_
  obtain ⟨mb, b1, b2⟩ := blt
  have hbs : mb ("super" : Str) = some (.type "super") := (b2 _ (by decide)).trans (by first | rfl | kernel_rfl)
  refine PySem.W.ks_loadName_global hk ksup (loadGlobal_builtin (env := PySem.W.ksEnv qual sc h.objs.size fI (.ref cda) cc) (glob.keeps hk1) hsup (b1.keeps hk1) hbs ⟨rfl, ?_⟩)
  refine wpAny_loadName_free hk kcls rfl ⟨_, kin1 _ _ lkcc, rfl⟩ ?_
  refine wpAny_loadName_local hk kself hns nself ?_
  refine PySem.ks_wpAny_isType_cls hoD hoDd ⟨rfl, ?_⟩
  refine PySem.ks_wpAny_call_super hoD hoDd hse rfl (fun c z => by cases z) (PySem.W.looks_mroIn kin1 hsub) (fun h2 e2 k2 => ?_)
  have k02 : ∀ b o, h.get? b = some o → h2.get? b = some o := fun b o z => k2 b o (hk1 b o z)
  have kin2 : Cp.K.In h2 := kin.keeps k02
  have hse2 : h2.get? e = some (HandSPX.excO Ca t0) := k02 _ _ he
  have hsi' := hsi
  unfold PySem.W.ks_superIn at hsi'
  rw [hcl] at hsi'
  have heC : e ≠ Ca := fun z => by
    have := kin _ _ hCl
    rw [← z, he] at this
    cases this
  have hI : PySem.W.Looks (model Cp.P w) h2 (isInstance (.ref e) (.type "ValueError")) true := (PySem.W.InstAt.type (h := h2) (x := e) (ox := HandSPX.excO Ca t0) (C := Ca) (od := none) ⟨hse2, rfl, rfl, trivial⟩).andThen (PySem.W.looks_subIn kin2 RC.isV)
  refine PySem.W.kxs_getMethod PySem.W.kxs_ValueError e2 (PySem.W.looks_opaque kin2 RI.op) (l₀ := .ref Ca :: bm) ?_ rfl kin2 hsi' hI heC (by decide) ?_
  · exact fun A Q E s k q => wpAny_bind ((PySem.W.looks_clsIn kin2 hcl) A _ E s k (wpAny_pure q))
  have k3 : ∀ b o, h2.get? b = some o → (h2.push (PySem.W.kxs_mw "ValueError.__init__" e)).get? b = some o := fun b o z => Heap.get?_push_of_some _ z
  have k13 : ∀ b o, h1.get? b = some o → (h2.push (PySem.W.kxs_mw "ValueError.__init__" e)).get? b = some o := fun b o z => k3 b o (k2 b o z)
  refine PySem.W.kxs_callWith (i := "ValueError.__init__") (x := e) rfl (evalArgs_plain (spliced_cons (wpAny_Name (wpAny_loadName_local hk karg (hns.keeps k13) narg ?_) hdb)))
  refine spliced_nil ⟨Heap.get?_push_at rfl rfl, ?_⟩
  refine call_bwV ((kin1.keeps k13) _ _ hCl) (k13 _ _ hse) (Heap.get?_push_at rfl rfl) (by show 1 ≤ sizeLine; rw [sizeLine_eq]; omega) (fun h4 t1 k4 e4 => ?_)
  have ne1 : h.objs.size ≠ e := Ne.symm (Nat.ne_of_lt (Heap.lt_size he))
  obtain ⟨oL, es, ep, hL, hLr⟩ := hns
  have hns4 : h4.Ns h.objs.size (fun x : Str => [(("self" : Str), Value.ref e), (arn, v)].reverse.lookup x) := ⟨oL, es, ep, k4 _ _ ne1 (k13 _ _ hL), hLr⟩
  refine wpAt_of_wpAny (wpAny_execs_cons (plainObj_wpAny_Assign_Attribute (wpAny_Name (wpAny_loadName_local hk karg hns4 narg ?_) hdb) rfl))
  refine wpAny_Name (wpAny_loadName_local hk kself hns4 nself ?_)
  have kin4 : Cp.K.In h4 := hK h4 fun b o hb z => k4 b o hb (k13 b o (hk1 b o z))
  refine PySem.W.set_plain kin4 (ox := HandSPX.excO Ca t1) (od := none) ⟨e4, rfl, rfl, trivial⟩ RC.oex.sa ?_
  refine HandSPX.exc_osa kin4 e4 hcl (show HandSPX.refsVE (.ref Ca :: bm) = true from hbm) rfl RC.nof (fun h5 tk' dx k5 dn dne hx hn => ?_)
  refine wpAny_execs_nil ?_
  exact hq h5 tk' dx t1 (fun b o hb z => k5 b o hb (k4 b o hb (k13 b o (hk1 b o z)))) (Nat.le_trans (Nat.le_of_lt (Heap.lt_size (k4 _ _ ne1 (k13 _ _ hL)))) dn) dne hx hn
end
end Mi
end

section
set_option Elab.async false
set_option linter.all false
set_option maxRecDepth 100000
set_option maxHeartbeats 2000000
/-! Mx2: raise C(x) -/
namespace Mi
open PySem PySem.Spec PySem.Calls L2
def tRsn (Ca : Addr) (fld : Str) (te : TE) : St → Hp → XK → Prop := fun σ H Q => te σ H fun y H1 => ∀ dx, H1 dx = none → Q (.ref Ca) (some dx) (upd H1 dx (.xd [(fld, y)]))
section
variable {C : PC} {k : Nat} {Γ : Sx}
theorem pmk_rsn {X : Cx} {fI Ca : Addr} {fld x : Str} {e : Expr} {te : TE} {p pos : Pos} (ok : XOk C (k + 1) Γ X) (RI : RsnI C fI fld) (RC : RsnC C fI fld Ca) (he : PE X e te) (hg : SGl Γ x) (hm : C.mg x = some (.ref Ca)) (hdb : (x == ("__debug__" : Str)) = false) (hs : noStar e = true) :
    PMk X (.Call (.Name x p) [e] [] pos) (tRsn Ca fld te) := by
  intro pins s σ H Q I h
  obtain ⟨nm, q, N, bs, bm, sn, sub, ab, col, dd, k0, k1, k2, k3, k5, hC, hbm⟩ := RC.oex.cls
  refine wpAny_Call_Name_kw (ld_glob I (ok.gl hg) (by rw [ok.mg]; exact hm) ?_ hdb)
  have hst : starEach [e] X.env = (false, eval e X.env) :: starEach [] X.env := star_cons hs
  refine PySem.W.callWith_K (h₀ := X.base) I.ok.mod.kin (by rw [ok.K]; exact RC.oex.kC) (thn ((pa_cons (t := tNil) he pa_nil hst).run pos pins s σ H (fun vs H1 => match vs with
    | [y] => ∀ dx, H1 dx = none → Q (.ref Ca) (some dx) (upd H1 dx (.xd [(fld, y)]))
    | _ => False) I h) fun us s1 ⟨vs, H1, I1, r1, q1⟩ => ⟨I1.kIn, ?_⟩) hst rfl
  cases r1 with
  | nil => exact q1.elim
  | @cons y u vs' us' ry rr =>
  cases rr with
  | cons _ _ => exact q1.elim
  | nil =>
  show wpAny _ _ (call (.ref Ca) [u]) _ _ _
  obtain ⟨hp, g, dr, tk, os⟩ := s1
  have kinA : C.K.In hp := by have := I1.kIn; rw [ok.K] at this; exact this
  have kk : ∀ b o, hp.get? b = some o → ((hp.push (PySem.W.kdv_tup [u])).push (HandSPX.excO Ca hp.objs.size)).get? b = some o := fun b o e => Heap.get?_push_of_some _ (Heap.get?_push_of_some _ e)
  have hget : ((hp.push (PySem.W.kdv_tup [u])).push (HandSPX.excO Ca hp.objs.size)).get? (hp.objs.size + 1) = some (HandSPX.excO Ca hp.objs.size) := by heap_get
  have bk : ∀ b o, X.base.get? b = some o → hp.get? b = some o := I1.bk
  have mod := I1.mod
  have hbase : ∀ {h' : Heap}, (∀ b o, b ≠ hp.objs.size + 1 → ((hp.push (PySem.W.kdv_tup [u])).push (HandSPX.excO Ca hp.objs.size)).get? b = some o → h'.get? b = some o) → ∀ b o, X.base.get? b = some o → h'.get? b = some o := fun k b o z =>
    k b o (fun y => by have w1 : b < hp.objs.size := Heap.lt_size (bk b o z); exact absurd y (Nat.ne_of_lt (Nat.lt_succ_of_lt w1))) (kk b o (bk b o z))
  obtain ⟨mb, b1, b2⟩ := mod.blt
  refine wpAny_call (HandSPX.call_own F.excBase_ValueError (fun Y => HandSPX.refsVE_contains Y bm hbm) (kinA _ _ hC) (PySem.W.looks_findIn kinA RC.ini) (fun self => PySem.W.bind_fn kinA self RC.tyI) (by show 1 ≤ sizeLine; rw [sizeLine_eq]; omega) ?_)
  rw [ok.P, ok.w]
  refine rsn_run RI RC (ok.room.make Ca [u] []).depth (kinA.keeps kk) (fun h' k => ?_) ((I1.nolimit).keeps kk) (by have := (mod.glob.keeps bk).keeps kk; rw [ok.mg] at this; exact this) ⟨mb, (b1.keeps bk).keeps kk, b2⟩ hget (fun h' tk' dx t1 k dn dne hx hn => ?_)
  · have := mod.kin.keeps (hbase k)
    rw [ok.K] at this
    exact this
  · refine ⟨rfl, ?_⟩
    obtain ⟨G, g1', g2'⟩ := restrict h' fun b => decide (b ≠ hp.objs.size + 1)
    have gk : ∀ b, b ≠ hp.objs.size + 1 → G.get? b = h'.get? b := fun b hb => g1' b (decide_eq_true hb)
    have ge : G.get? (hp.objs.size + 1) = none := g2' _ (by simp)
    have keep : ∀ b o, hp.get? b = some o → G.get? b = some o := fun b o z => by
      have hb : b ≠ hp.objs.size + 1 := Nat.ne_of_lt (Nat.lt_succ_of_lt (Heap.lt_size z))
      rw [gk b hb]
      exact k b o hb (kk b o z)
    have dge : hp.objs.size ≤ dx := Nat.le_trans (by rw [Heap.size_push, Heap.size_push]; exact Nat.le_add_right _ 2) dn
    have hnew : H1 dx = none := I1.hok.fresh dge
    have J := I1.laid (t' := tk') (a := dx) (o := .xd [(fld, y)]) (h' := G) keep dge ⟨_, hn.at fun o z => (gk dx dne).trans z, fun f => by
      by_cases hf : f = fld
      · subst hf
        rw [List.lookup_cons, show (f == f) = true from by simp, if_pos rfl]
        exact ry
      · have : (f == fld) = false := by simpa using hf
        simp [List.lookup, this, hf, RelO]⟩
    exact ⟨_, _, _, ⟨G, g, dr, tk', os⟩, _, .ref Ca, some dx, rfl, J, fun b o z => by
      by_cases hb : b = hp.objs.size + 1
      · rw [hb, ge] at z; cases z
      · exact (gk b hb).symm.trans z, ge, hx, ⟨rfl, rfl⟩, rfl, rfl, by rw [upd_ne (Ne.symm dne)]; exact I1.hok.fresh (Nat.le_succ _), rfl, I1.bare, raises_own (by rw [ok.K]; exact RC.oex.exC) (by rw [ok.K]; exact RC.oex.tyC), q1 dx hnew⟩
def sRaise (c fld : Str) (f : EM) : SM := fun ρ S => (f ρ S).then ρ fun t S1 => .exc c [(fld, t)] ρ S1
theorem ds_raise {fI : Addr} {c fld x : Str} {e : Expr} {f : EM} {p pos pos' : Pos} (RI : RsnI C fI fld) (RC : RsnC C fI fld (C.cls c)) (he : DE C (k + 1) Γ e f) (hg : SGl Γ x) (hm : C.mg x = some (.ref (C.cls c))) (hdb : (x == ("__debug__" : Str)) = false) (hs : noStar e = true) :
    DS C (k + 1) Γ (.Raise (some (.Call (.Name x p) [e] [] pos)) none pos') (sRaise c fld f) := fun X W ok tk =>
  PS.weak (ps_raise ok.calm tk (pmk_rsn ok RI RC (he X W ok tk) hg hm hdb hs)) fun D σ H ⟨m, ρ, S, re, rs, q⟩ => ⟨m, ρ, S, re, rs, (PostS.then re q).mono fun y H1 ⟨m1, t, S1, l1, rs1, r1, q1⟩ dx hdx =>
    q1 m1 _ σ dx (.alloc hdx) ((Ext.alloc hdx).2 _ rs1) ((re.le l1).le (.alloc hdx)) ⟨_, upd_same, rs1.off hdx, .cons (r1.le (.alloc hdx)) .nil⟩⟩
end
end Mi
end

section
set_option Elab.async false
set_option linter.all false
set_option maxRecDepth 100000
set_option maxHeartbeats 2000000
/-! Mx3: what an except suite says of its exception -/
namespace Mi
open PySem PySem.Spec PySem.Calls L2
/-- what a class must have so that its exceptions may be looked at -/
structure XCl (C : PC) (c : Str) : Prop where
  xf : XfC C.K (C.cls c)
  cl : (PySem.W.clsIn C.K (C.cls c)).isSome = true
  ha : PySem.W.findIn C.K (.ref (C.cls c)) "__class__" = some (some (.builtin "object.__class__"))
  hn : PySem.W.specialIn C.K (.builtin "object.__class__") "__get__" = some (some (.builtin "getset_descriptor.__get__"))
  ht : PySem.W.takesIn C.K (.builtin "object.__class__") = some true
  hm : PySem.W.mroIn C.K (C.cls c) (.type "object") = some true
/-- the classes that are raised -/
abbrev Xn := Str → Bool
/-- a value by the exception alone -/
abbrev XV := Str → List (Str × T) → Option T
section
variable (C : PC)
def trX (i : Nat) (a : Addr) (c : Str) (d : Option Addr) (v : XV) : TE := fun σ H Q => σ[i]? = some (some (.ref a)) ∧ ∃ m S fs dd, RS m H S ∧ d = some dd ∧ ExcAt m H dd fs ∧ ∃ t, v c fs = some t ∧ ∀ m' H' u, Ext m H m' H' → Rp m' H' u t → Q u H'
def trXs (i : Nat) (a : Addr) (c : Str) (d : Option Addr) (v : Str → List (Str × T) → Option (List T)) : TA := fun σ H Q => σ[i]? = some (some (.ref a)) ∧ ∃ m S fs dd, RS m H S ∧ d = some dd ∧ ExcAt m H dd fs ∧ ∃ t, v c fs = some t ∧ ∀ m' H' u, Ext m H m' H' → RpL m' H' u t → Q u H'
/-- the suite's own context -/
structure Sui (k : Nat) (Γ : Sx) (X0 : Cx) (oe : Obj) (c : Str) (d : Option Addr) : Prop where
  ok : XOk C k Γ X0
  z : Zc (.ref (C.cls c)) d oe
  f : ∃ vs, oe.data = .fields vs
  x : XCl C c
def DX (k : Nat) (Γ : Sx) (xn : Xn) (i : Nat) (e : Expr) (v : XV) : Prop := ∀ X0 a oe c d pn, xn c = true → Sui C k Γ X0 oe c d → PE (X0.suite a ((a, oe) :: pn)) e (trX i a c d v)
def DXs (k : Nat) (Γ : Sx) (xn : Xn) (i : Nat) (e : List Expr) (v : Str → List (Str × T) → Option (List T)) : Prop := ∀ X0 a oe c d pn, xn c = true → Sui C k Γ X0 oe c d → PA (X0.suite a ((a, oe) :: pn)) e (trXs i a c d v)
end
theorem ExcAt.ext {m m' : Mp} {H H' : Hp} {d : Addr} {fs : List (Str × T)} (l : Le m H m' H') (h : ExcAt m H d fs) : ExcAt m' H' d fs :=
  let ⟨vs, h1, h2, h3⟩ := h; ⟨vs, (l.keep _ _ h2 h1).1, (l.keep _ _ h2 h1).2, h3.le l⟩
section
variable {C : PC} {k : Nat} {Γ : Sx} {xn : Xn} {i : Nat}
theorem dx_c {e : Expr} {t : T} {v : V} (he : ∀ X, PE X e (fun _ H Q => Q v H)) (hr : ∀ m H, Rp m H v t) : DX C k Γ xn i e (fun _ _ => some t) := fun X0 a oe c d pn hc S =>
  PE.weak (he _) fun σ H Q ⟨_, m, S, fs, dd, rs, _, _, t', e', q⟩ => q m H v .refl (by cases e'; exact hr m H)
theorem dx_str {x : Str} {j : Nat} {pos : Pos} : DX C k Γ xn i (.Constant (.str x) j pos) (fun _ _ => some (.str x)) := dx_c (v := .str x) (fun _ => pe_str) fun _ _ => .str x
theorem dx_bl {x : Bool} {j : Nat} {pos : Pos} : DX C k Γ xn i (.Constant (.bool x) j pos) (fun _ _ => some (.bl x)) := dx_c (v := .bl x) (fun _ => pe_bl) fun _ _ => .bl x
theorem dx_non {j : Nat} {pos : Pos} : DX C k Γ xn i (.Constant .none j pos) (fun _ _ => some .non) := dx_c (v := .non) (fun _ => pe_non) fun _ _ => .non
theorem dxs_nil : DXs C k Γ xn i [] (fun _ _ => some []) := fun X0 a oe c d pn hc S =>
  PA.weak pa_nil fun σ H Q ⟨_, m, S, fs, dd, rs, _, _, t', e', q⟩ => q m H [] .refl (by cases e'; exact .nil)
theorem dxs_cons {e : Expr} {es : List Expr} {v : XV} {w : Str → List (Str × T) → Option (List T)} (h1 : DX C k Γ xn i e v) (h2 : DXs C k Γ xn i es w) (hs : noStar e = true) :
    DXs C k Γ xn i (e :: es) (fun c fs => (v c fs).bind fun t => (w c fs).map (t :: ·)) := fun X0 a oe c d pn hc S =>
  PA.weak (pa_cons (h1 X0 a oe c d pn hc S) (h2 X0 a oe c d pn hc S) (star_cons hs)) fun σ H Q ⟨hi, m, S, fs, dd, rs, hd, ea, t', e', q⟩ => by
    obtain ⟨t1, e1, e2⟩ := Option.bind_eq_some_iff.mp e'
    obtain ⟨ts, e3, e4⟩ := Option.map_eq_some_iff.mp e2
    refine ⟨hi, m, S, fs, dd, rs, hd, ea, t1, e1, fun m1 H1 u x1 r1 => ⟨hi, m1, S, fs, dd, x1.2 S rs, hd, ea.ext x1.1, ts, e3, fun m2 H2 us x2 r2 => ?_⟩⟩
    subst e4
    exact q m2 H2 (u :: us) (x1.trans x2) (.cons (r1.le x2.1) r2)
theorem dx_tup {es : List Expr} {w : Str → List (Str × T) → Option (List T)} {x1 : Nat} {pos : Pos} (h : DXs C k Γ xn i es w) (hl : es.length ≤ 100) : DX C k Γ xn i (.Tuple es x1 pos) (fun c fs => (w c fs).bind fun l => if l.length ≤ 100 then some (.tup l) else none) := fun X0 a oe c d pn hc S =>
  PE.weak (pe_tup (h X0 a oe c d pn hc S)) fun σ H Q ⟨hi, m, S, fs, dd, rs, hd, ea, t', e', q⟩ => by
    obtain ⟨l, e1, e2⟩ := Option.bind_eq_some_iff.mp e'
    have e3 : l.length ≤ 100 ∧ T.tup l = t' := by
      by_cases hll : l.length ≤ 100
      · rw [if_pos hll] at e2; exact ⟨hll, Option.some.inj e2⟩
      · rw [if_neg hll] at e2; cases e2
    obtain ⟨hll, e4⟩ := e3
    subst e4
    exact ⟨hi, m, S, fs, dd, rs, hd, ea, l, e1, fun m1 H1 us x1 r1 => ⟨by rw [r1.length, sizeLine_eq]; omega, fun p hp => q m1 _ (.ref p) (x1.trans (.alloc hp)) (.newTup (x1.2 S rs) hp r1)⟩⟩
theorem dx_fld {x n : Str} {p pos : Pos} (hN : Γ.N[i]? = some x) (hv : Vis Γ.sc x) (hno : ∀ c, xn c = true → PySem.W.findIn C.K (.ref (C.cls c)) n = some none) (hd : (x == ("__debug__" : Str)) = false) (hc : (x == ("__classdict__" : Str)) = false) :
    DX C k Γ xn i (.Attribute (.Name x p) n pos) (fun _ fs => fs.lookup n) := fun X0 a oe c d pn hcx S => by
  have hP : PE (X0.suite a ((a, oe) :: pn)) (.Name x p) (tVar i) := pe_var (S.ok.name hN) (S.ok.vis hv) hd hc
  refine PE.weak (pe_xf (C := C.cls c) (by rw [S.ok.K]; exact S.x.xf) (by rw [S.ok.K]; exact hno c hcx) S.z S.f hP) fun σ H Q ⟨hi, m, S', fs, dd, rs, hd', ea, t', e', q⟩ => ?_
  obtain ⟨vs, h1, h2, h3⟩ := ea
  obtain ⟨v, h4, h5⟩ := h3.lookup e'
  exact ⟨.ref a, hi, rfl, rfl, dd, vs, v, hd', h1, h4, q m H v .refl h5⟩
theorem kit_suite {X0 : Cx} {a : Addr} {oe : Obj} {c : Str} {d : Option Addr} {pn : List (Addr × Obj)} {c2 : Value} {b : Bool} (S : Sui C k Γ X0 oe c d) (hk : PySem.W.kitOne C.K (.ref (C.cls c)) c2 = some b) :
    CallR (X0.suite a ((a, oe) :: pn)) (.builtin "isinstance") (fun xs H Q => ∃ (cv : V) (dd : Addr), xs = [.ref a, cv] ∧ (∀ u, RelV cv u → u = c2) ∧ d = some dd ∧ (∃ fs, H dd = some (.xd fs)) ∧ Q (.bl b) H) := by
  intro pins s σ H xs us Q I r h
  obtain ⟨cv, dd, rfl, hcv, rfl, ⟨fs, hfs⟩, q⟩ := h
  cases r with
  | cons rx rr =>
    cases rr with
    | cons rt rr =>
      cases rr
      cases rx
      have ec := hcv _ rt
      subst ec
      obtain ⟨hget, _⟩ := I.pin (a, oe) (List.mem_append.mpr (.inl List.mem_cons_self))
      obtain ⟨vs, hv⟩ := S.f
      have hx : ObjOk X0.prog X0.w H s.heap dd (.xd fs) := I.hok dd _ hfs
      obtain ⟨mA, ⟨oD, es, ep, hoD, _⟩, _⟩ := hx
      have J : PySem.W.InstAt s.heap a oe (C.cls c) (some oD) := by
        obtain ⟨oc, od, oda, osl⟩ := oe
        obtain ⟨h1, h2⟩ := S.z
        dsimp only at h1 h2 hv
        subst h1 h2 hv
        exact ⟨hget, rfl, rfl, hoD⟩
      have kin := I.kIn
      rw [show (X0.suite a ((a, oe) :: pn)).K = C.K from S.ok.K] at kin
      exact PySem.W.kia_one (PySem.W.kitx_exc S.x.cl S.x.xf.ga S.x.xf.gg S.x.xf.exC S.x.ha S.x.hn S.x.ht S.x.hm) kin J hk (fun z => nomatch z) fun tk => ⟨.bl b, H, I.kept (t' := tk) fun _ _ z => z, rfl, q⟩
theorem dx_is {x y : Str} {c2 : Value} {mt : Str → Bool} {p p1 p2 pos : Pos} {v2 : V} (hN : Γ.N[i]? = some x) (hv : Vis Γ.sc x) (hgi : SGl Γ "isinstance") (hmi : C.mg "isinstance" = none) (hg : SGl Γ y) (hm : C.mg y = some c2) (hr : RelV v2 c2) (hu : ∀ u, RelV v2 u → u = c2)
    (hmt : ∀ c, xn c = true → PySem.W.kitOne C.K (.ref (C.cls c)) c2 = some (mt c)) (hd : (x == ("__debug__" : Str)) = false) (hc : (x == ("__classdict__" : Str)) = false) (hd2 : (y == ("__debug__" : Str)) = false) :
    DX C k Γ xn i (.Call (.Name "isinstance" p) [.Name x p1, .Name y p2] [] pos) (fun c _ => some (.bl (mt c))) := fun X0 a oe c d pn hcx S => by
  have hP : PE (X0.suite a ((a, oe) :: pn)) (.Name x p1) (tVar i) := pe_var (S.ok.name hN) (S.ok.vis hv) hd hc
  have hP2 : PE (X0.suite a ((a, oe) :: pn)) (.Name y p2) (tC v2) := pe_glob (S.ok.gl hg) (show X0.mg y = some c2 from by rw [S.ok.mg]; exact hm) hr hd2
  refine PE.weak (pe_callB (kit_suite S (hmt c hcx)) (S.ok.gl hgi) (S.ok.free hmi) PyProof.Rows.boot_isinstance (pa_cons hP (pa_cons hP2 pa_nil)) (by decide) (by decide)) fun σ H Q ⟨hi, m, S', fs, dd, rs, hd', ea, t', e', q⟩ => ?_
  cases e'
  obtain ⟨vs, h1, h2, h3⟩ := ea
  exact ⟨.ref a, hi, v2, dd, rfl, hu, hd', ⟨vs, h1⟩, q m H _ .refl (.bl _)⟩
theorem dx_if {t a b : Expr} {vt va vb : XV} {pos : Pos} (ht : DX C k Γ xn i t vt) (ha : DX C k Γ xn i a va) (hb : DX C k Γ xn i b vb) (hp : plainTest t = true) :
    DX C k Γ xn i (.IfExp t a b pos) (fun c fs => match vt c fs with
      | some (.bl true) => va c fs
      | some (.bl false) => vb c fs
      | _ => none) := fun X0 ad oe c d pn hcx S => by
  refine PE.weak (pe_ifExp (pt_truth (ht X0 ad oe c d pn hcx S) ?_) (ha X0 ad oe c d pn hcx S) (hb X0 ad oe c d pn hcx S)) fun σ H Q ⟨hi, m, S', fs, dd, rs, hd', ea, t', e', q⟩ => ?_
  · intro whole
    cases t with
    | UnaryOp op x p => cases op <;> first | rfl | cases hp
    | BoolOp _ _ _ => cases hp
    | IfExp _ _ _ _ => cases hp
    | Compare _ _ _ _ => cases hp
    | _ => rfl
  · cases hv : vt c fs with
    | none => simp [hv] at e'
    | some t0 =>
      cases t0 with
      | bl bb =>
        refine ⟨hi, m, S', fs, dd, rs, hd', ea, _, hv, fun m1 H1 u x1 r1 => ?_⟩
        cases r1
        cases bb with
        | true =>
          simp only [hv] at e'
          exact ⟨true, rfl, hi, m1, S', fs, dd, x1.2 _ rs, hd', ea.ext x1.1, t', e', fun m2 H2 u2 x2 r2 => q m2 H2 u2 (x1.trans x2) r2⟩
        | false =>
          simp only [hv] at e'
          exact ⟨false, rfl, hi, m1, S', fs, dd, x1.2 _ rs, hd', ea.ext x1.1, t', e', fun m2 H2 u2 x2 r2 => q m2 H2 u2 (x1.trans x2) r2⟩
      | _ => simp [hv] at e'
/-- suites that return -/
def trXS (i : Nat) (a : Addr) (c : Str) (d : Option Addr) (v : XV) : TS := fun D σ H => trX i a c d v σ H D.rt
def DXS (C : PC) (k : Nat) (Γ : Sx) (xn : Xn) (i : Nat) (st : List Stmt) (v : XV) : Prop := ∀ X0 a oe c d pn, xn c = true → Sui C k Γ X0 oe c d → PSs (X0.suite a ((a, oe) :: pn)) st (trXS i a c d v)
theorem dxs_ret {e : Expr} {r : List Stmt} {v : XV} {pos : Pos} (h : DX C k Γ xn i e v) : DXS C k Γ xn i [.Return (some e) pos] v := fun X0 a oe c d pn hcx S =>
  PSs.weak (pss_cons (ps_ret (h X0 a oe c d pn hcx S)) pss_nil) fun D σ H q => q
theorem dxs_if {t : Expr} {a r : List Stmt} {vt va vr : XV} {pos : Pos} (ht : DX C k Γ xn i t vt) (ha : DXS C k Γ xn i a va) (hr : DXS C k Γ xn i r vr) (hp : plainTest t = true) :
    DXS C k Γ xn i (.If t a [] pos :: r) (fun c fs => match vt c fs with
      | some (.bl true) => va c fs
      | some (.bl false) => vr c fs
      | _ => none) := fun X0 ad oe c d pn hcx S => by
  refine PSs.weak (pss_cons (ps_if (pt_truth (ht X0 ad oe c d pn hcx S) ?_) (ha X0 ad oe c d pn hcx S) pss_nil) (hr X0 ad oe c d pn hcx S)) fun D σ H ⟨hi, m, S', fs, dd, rs, hd', ea, t', e', q⟩ => ?_
  · intro whole
    cases t with
    | UnaryOp op x p => cases op <;> first | rfl | cases hp
    | BoolOp _ _ _ => cases hp
    | IfExp _ _ _ _ => cases hp
    | Compare _ _ _ _ => cases hp
    | _ => rfl
  · cases hv : vt c fs with
    | none => simp [hv] at e'
    | some t0 =>
      cases t0 with
      | bl bb =>
        refine ⟨hi, m, S', fs, dd, rs, hd', ea, _, hv, fun m1 H1 u x1 r1 => ?_⟩
        cases r1
        cases bb with
        | true =>
          simp only [hv] at e'
          exact ⟨true, rfl, hi, m1, S', fs, dd, x1.2 _ rs, hd', ea.ext x1.1, t', e', fun m2 H2 u2 x2 r2 => q m2 H2 u2 (x1.trans x2) r2⟩
        | false =>
          simp only [hv] at e'
          exact ⟨false, rfl, hi, m1, S', fs, dd, x1.2 _ rs, hd', ea.ext x1.1, t', e', fun m2 H2 u2 x2 r2 => q m2 H2 u2 (x1.trans x2) r2⟩
      | _ => simp [hv] at e'
end
end Mi
end

section
set_option Elab.async false
set_option linter.all false
set_option maxRecDepth 100000
set_option maxHeartbeats 2000000
/-! Mx4: try: .., with clauses that return -/
namespace Mi
open PySem PySem.Spec PySem.Calls L2
/-- a clause: its class, its name's slot, its suite -/
structure Cl0 where
  c : Value
  i : Option Nat
  ts : Addr → Value → Option Addr → TS
def wHs (K : PySem.W.Frag) (Wout : WX) (D : Ends) : List Cl0 → WX
  | [] => Wout
  | q :: r => fun cls d σ H => ∃ b, PySem.W.exmOne K cls q.c = some b ∧ (b = true → ∀ a, H a = none → match q.i with
      | none => q.ts a cls d D σ H
      | some i => q.ts a cls d { nx := fun σ' H' => D.nx (σ'.set i none) H', rt := D.rt, bk := fun σ' H' => D.bk (σ'.set i none) H', ct := fun σ' H' => D.ct (σ'.set i none) H' } (σ.set i (some (.ref a))) H) ∧ (b = false → wHs K Wout D r cls d σ H)
inductive HsOk (X : Cx) : List ExceptHandler → List Cl0 → Prop
  | nil : HsOk X [] []
  | bare {x : Str} {c : Value} {ts : Addr → Value → Option Addr → TS} {b0 : Stmt} {suite : List Stmt} {np pos' : Pos} {hds : List ExceptHandler} {l : List Cl0} (hc : Names X x c)
      (hsu : ∀ (a : Addr) (oe : Obj) (cls : Value) (d : Option Addr) (pn : List (Addr × Obj)), (∃ b, PySem.W.exmOne X.K cls c = some b) → Zc cls d oe → (∃ vs, oe.data = .fields vs) → PSs (X.suite a ((a, oe) :: pn)) (b0 :: suite) (ts a cls d)) (r : HsOk X hds l) :
      HsOk X (.ExceptHandler (some (.Name x np)) none (b0 :: suite) pos' :: hds) (⟨c, none, ts⟩ :: l)
  | named {x n : Str} {i : Nat} {c : Value} {ts : Addr → Value → Option Addr → TS} {b0 : Stmt} {suite : List Stmt} {np pos' : Pos} {hds : List ExceptHandler} {l : List Cl0} (hc : Names X x c) (hi : X.N[i]? = some n) (hln : X.env.kindOf n = some .local)
      (hsu : ∀ (a : Addr) (oe : Obj) (cls : Value) (d : Option Addr) (pn : List (Addr × Obj)), (∃ b, PySem.W.exmOne X.K cls c = some b) → Zc cls d oe → (∃ vs, oe.data = .fields vs) → PSs (X.suite a ((a, oe) :: pn)) (b0 :: suite) (ts a cls d)) (r : HsOk X hds l) :
      HsOk X (.ExceptHandler (some (.Name x np)) (some n) (b0 :: suite) pos' :: hds) (⟨c, some i, ts⟩ :: l)
section
variable {X : Cx} {body : List Stmt} {h0 : ExceptHandler} {hds : List ExceptHandler} {l : List Cl0} {pos : Pos} {tb : WX → TS} {Wout : WX}
theorem ps_try_hs (hs : X.stack = X.env :: X.outer) (hf : X.env.frame = some X.env.locals) (hN : X.N.Nodup) (tk : Takes X Wout)
    (hb : ∀ (W : WX) (pn : List (Addr × Obj)) (xe : Value → Shared → Prop), Takes (X.tr pn xe) W → PassesOwn (model X.prog X.w) X.A X.env xe → PSs (X.tr pn xe) body (tb W))
    (hh : HsOk X (h0 :: hds) l) : PS X (.Try body (h0 :: hds) [] [] pos) (fun D σ H => tb (wHs X.K Wout D l) D σ H) := by
  refine ⟨fun pins s σ H D I h => ?_⟩
  have ok := I.ok
  have hfr : X.A.frames = some (X.env :: X.outer) := by rw [ok.frames, hs]
  refine wpAny_Try_except ?_
  refine wpAny_mono ((hb (wHs X.K Wout D l) (X.pn ++ pins) (fun e s1 => wpAny (model X.prog X.w) X.A (noteFrame e X.env) (fun _ s2 => wpAny (model X.prog X.w) X.A (setFlight e none) (fun _ s3 =>
    wpAny (model X.prog X.w) X.A (handleBy e X.env (h0 :: hds)) (SP X pins D) X.xe s3) X.xe s2) X.xe s1) (fun u s' xx => ?_) PassesOwn.looking).run [] s σ H D (I.toTry _) h) (fun f s1 hsp => ?_) (fun e s1 he => he)
  · obtain ⟨a, B, sI, pins', σ', H', cls, d, rfl, J', nb, up, sky, na, os, ag, w⟩ := xx
    have J : L2.Inv X pins σ' H' sI := J'.ofTry ok
    have sky' : Sky B (X.env :: X.outer) a (Zc cls d) X.env.locals s'.heap := by rw [← hs]; exact sky
    show wpAny (model X.prog X.w) X.A (noteFrame (.ref a) X.env) _ _ _
    refine Sky.land Zc.steady hfr hf sky' fun h3 fl3 up3 => ?_
    have J3 : L2.Inv X pins σ' H' { s' with heap := h3 } := J.landed nb fl3.1 (up.trans up3) os ag
    obtain ⟨oe3, vs3, he3, hz3, hd3⟩ := fl3.there
    have nfr : a ∉ frs (X.env :: X.outer) := fun hm => by
      obtain ⟨_, o', e', hnf⟩ := fl3.2.2.1.mem hm
      rw [he3] at e'; cases e'
      exact hnf _ hd3
    have nL : a ≠ X.env.locals := fun z => nfr (List.mem_filterMap.mpr ⟨X.env, List.mem_cons_self, by rw [hf, z]⟩)
    have nF : a ∉ X.fs := fun hm => by
      obtain ⟨e, he, q⟩ := List.mem_filterMap.mp hm
      exact nfr (List.mem_filterMap.mpr ⟨e, List.mem_cons_of_mem _ he, q⟩)
    have S3 := J3.suite he3 hd3 na nL nF
    have LT : PySem.W.Looks (model X.prog X.w) h3 (typeOf (.ref a)) cls := fun A Q E s k q => wpAny_typeOf_ref (k _ _ he3) (by rw [hz3.1]; exact q)
    have go : ∀ {hds' : List ExceptHandler} {l' : List Cl0}, HsOk X hds' l' → wHs X.K Wout D l' cls d σ' H' →
        wpAny (model X.prog X.w) X.A (handleBy (.ref a) X.env hds') (SP X pins D) X.xe { s' with heap := h3 } := by
      intro hds' l' hk
      induction hk with
      | nil =>
        intro w
        refine wpAny_handleBy_nil ?_
        obtain ⟨k1, k2, k3, oe, vs, T, oT, ts', he, hz, hd, h1, hr⟩ := id fl3
        unfold PySem.passOn
        refine wpAny_bind (wpAny_field he hd h1 ?_)
        rw [if_neg (show ¬ ((Value.ref T == Value.none) = true) from by simp)]
        have fin : wpAny (model X.prog X.w) X.A (setFlight (.ref a) X.env.frame) (fun _ s4 => wpAny (model X.prog X.w) X.A (throw (.ref a) : Sem Flow) (SP X pins D) X.xe s4) X.xe { s' with heap := h3 } := by
          rw [hf]
          refine HandSPX.setFlight_upZ fl3 fun h4 hh4 up4 => wpAny_throw (tk _ _ ?_)
          exact ⟨a, B, sI, pins, σ', H', cls, d, rfl, J, nb, (up.trans up3).trans up4, .inr (.inr (by rw [hs]; exact hh4)), na, os, ag, w⟩
        first
          | exact wpAny_bind (wpAny_pure (wpAny_bind fin))
          | exact wpAny_bind fin
      | @bare x c ts b0 suite np pos' hds2 l2 hc hsu r ih =>
        intro w
        obtain ⟨b, hb1, hyes, hno⟩ := w
        refine wpAny_handleBy_cons (codeAny_handlers_test ?_) (by intro q; cases q)
        have LM := PySem.W.exm_one (M := model X.prog X.w) (J3.kIn) LT hb1
        have test : ∀ {Q : Value → Shared → Prop} {E : Value → Shared → Prop}, Q c { s' with heap := h3 } → wpAny (model X.prog X.w) (X.A.mark (some (.ref a))) (eval (.Name x np) X.env) Q E { s' with heap := h3 } := fun {Q E} q => by
          obtain ⟨hg, hdbg, hm | ⟨hm, hv, hnn⟩⟩ := hc
          · exact ld_glob (X := X.suite a ((a, oe3) :: (X.pn ++ pins))) S3 hg hm q hdbg
          · exact ld_blt (X := X.suite a ((a, oe3) :: (X.pn ++ pins))) S3 hg hm hv q hnn hdbg
        refine test (LM.here ?_)
        cases b with
        | true =>
          refine codeAny_handlers_suite ?_
          refine HandSPX.lands_againZ fl3 fun h4 fl4 up4 => ?_
          have J4 : L2.Inv X pins σ' H' { s' with heap := h4 } := J.landed nb fl4.1 ((up.trans up3).trans up4) os ag
          obtain ⟨oe4, vs4, he4, hz4, hd4⟩ := fl4.there
          have S4 := J4.suite he4 hd4 na nL nF
          refine wpAny_mono ((hsu a oe4 cls d (X.pn ++ pins) ⟨_, hb1⟩ hz4 ⟨_, hd4⟩).run [] _ _ H' _ S4 (hyes rfl a na)) (fun f s6 hsp => ?_) (fun _ _ z => False.elim z)
          cases f with
          | next =>
            obtain ⟨σ6, H6, S6, q6⟩ := hsp
            exact ⟨_, _, S6.unsuite ok, q6⟩
          | brk =>
            obtain ⟨σ6, H6, S6, q6⟩ := hsp
            exact ⟨_, _, S6.unsuite ok, q6⟩
          | cont =>
            obtain ⟨σ6, H6, S6, q6⟩ := hsp
            exact ⟨_, _, S6.unsuite ok, q6⟩
          | ret u =>
            obtain ⟨v6, σ6, H6, S6, r6, q6⟩ := hsp
            exact ⟨_, _, _, S6.unsuite ok, r6, q6⟩
        | false =>
          show wpAny _ X.A (handleBy (.ref a) X.env hds2) _ _ _
          exact ih (hno rfl)
      | @named x n i c ts b0 suite np pos' hds2 l2 hc hi hln hsu r ih =>
        intro w
        obtain ⟨b, hb1, hyes, hno⟩ := w
        refine wpAny_handleBy_cons (codeAny_handlers_test ?_) (by intro q; cases q)
        have LM := PySem.W.exm_one (M := model X.prog X.w) (J3.kIn) LT hb1
        have test : ∀ {Q : Value → Shared → Prop} {E : Value → Shared → Prop}, Q c { s' with heap := h3 } → wpAny (model X.prog X.w) (X.A.mark (some (.ref a))) (eval (.Name x np) X.env) Q E { s' with heap := h3 } := fun {Q E} q => by
          obtain ⟨hg, hdbg, hm | ⟨hm, hv, hnn⟩⟩ := hc
          · exact ld_glob (X := X.suite a ((a, oe3) :: (X.pn ++ pins))) S3 hg hm q hdbg
          · exact ld_blt (X := X.suite a ((a, oe3) :: (X.pn ++ pins))) S3 hg hm hv q hnn hdbg
        refine test (LM.here ?_)
        cases b with
        | true =>
          refine codeAny_handlers_suite_as ?_
          refine HandSPX.lands_againZ fl3 fun h4 fl4 up4 => ?_
          have J4 : L2.Inv X pins σ' H' { s' with heap := h4 } := J.landed nb fl4.1 ((up.trans up3).trans up4) os ag
          obtain ⟨oe4, vs4, he4, hz4, hd4⟩ := fl4.there
          have S4 := J4.suite he4 hd4 na nL nF
          refine store_ok (X := X.suite a ((a, oe4) :: (X.pn ++ pins))) (v := .ref a) S4 hN hi (.inl hln) rfl (fun s5 S5 => ?_) (.inr hln)
          refine wpAny_mono ((hsu a oe4 cls d (X.pn ++ pins) ⟨_, hb1⟩ hz4 ⟨_, hd4⟩).run [] s5 _ H' _ S5 (hyes rfl a na)) (fun f s6 hsp => ?_) (fun _ _ z => False.elim z)
          have fine : ∀ {σ6 : St} {H6 : Hp} {Q : Shared → Prop}, L2.Inv (X.suite a ((a, oe4) :: (X.pn ++ pins))) [] σ6 H6 s6 → (∀ s7, L2.Inv X pins (σ6.set i none) H6 s7 → Q s7) →
              wpAny (model X.prog X.w) X.A (do bindName X.env n .none; unbindBehindTheSuite X.env n pos') (fun _ s7 => Q s7) X.xe s6 := fun {σ6 H6 Q} S6 hq => gone_ok (S6.unsuite ok) hN hi hln hq
          cases f with
          | next =>
            obtain ⟨σ6, H6, S6, q6⟩ := hsp
            exact fine S6 fun s7 J7 => ⟨_, _, J7, q6⟩
          | brk =>
            obtain ⟨σ6, H6, S6, q6⟩ := hsp
            exact fine S6 fun s7 J7 => ⟨_, _, J7, q6⟩
          | cont =>
            obtain ⟨σ6, H6, S6, q6⟩ := hsp
            exact fine S6 fun s7 J7 => ⟨_, _, J7, q6⟩
          | ret u =>
            obtain ⟨v6, σ6, H6, S6, r6, q6⟩ := hsp
            exact fine S6 fun s7 J7 => ⟨_, _, _, J7, r6, q6⟩
        | false =>
          show wpAny _ X.A (handleBy (.ref a) X.env hds2) _ _ _
          exact ih (hno rfl)
    exact go hh w
  · cases f with
    | next =>
      obtain ⟨σ', H', J', q⟩ := hsp
      exact wpAny_execs_nil ⟨σ', H', J'.ofTry ok, q⟩
    | brk =>
      obtain ⟨σ', H', J', q⟩ := hsp
      exact ⟨σ', H', J'.ofTry ok, q⟩
    | cont =>
      obtain ⟨σ', H', J', q⟩ := hsp
      exact ⟨σ', H', J'.ofTry ok, q⟩
    | ret u =>
      obtain ⟨v, σ', H', J', r, q⟩ := hsp
      exact ⟨v, σ', H', J'.ofTry ok, r, q⟩
end

/-- a clause of the tree layer: which classes it takes, what it returns -/
structure Cl1 where
  c : Value
  i : Option Nat
  mt : Str → Bool
  v : XV
def pickX (c : Str) : List Cl1 → Option XV
  | [] => none
  | q :: r => if q.mt c then some q.v else pickX c r
def sTry (n : Nat) (xn : Xn) (f : SM) (cl : List Cl1) : SM := fun ρ S => match f ρ S with
  | .exc c fs ρ1 S1 => RF.if (xn c && decide (ρ1.length = n)) (match pickX c cl with
    | some v => (match v c fs with
      | some t => .go (.rt t) S1
      | none => .bad)
    | none => .exc c fs ρ1 S1)
  | r => r
section
variable {C : PC} {k : Nat} {Γ : Sx} {xn : Xn}
inductive ClOk (C : PC) (k : Nat) (Γ : Sx) (xn : Xn) : List ExceptHandler → List Cl1 → Prop
  | nil : ClOk C k Γ xn [] []
  | bare {x : Str} {c : Value} {b0 : Stmt} {suite : List Stmt} {np pos' : Pos} {hds : List ExceptHandler} {l : List Cl1} {mt : Str → Bool} {t : T} {v : V} {pos2 : Pos} {e : Expr} (hg : SGl Γ x) (hm : C.mg x = some c) (hd : (x == ("__debug__" : Str)) = false)
      (hmt : ∀ q, xn q = true → PySem.W.exmOne C.K (.ref (C.cls q)) c = some (mt q)) (he : ∀ X, PE X e (fun _ H Q => Q v H)) (hr : ∀ m H, Rp m H v t) (r : ClOk C k Γ xn hds l) :
      ClOk C k Γ xn (.ExceptHandler (some (.Name x np)) none [.Return (some e) pos2] pos' :: hds) (⟨c, none, mt, fun _ _ => some t⟩ :: l)
  | named {x n : Str} {i : Nat} {c : Value} {b0 : Stmt} {suite : List Stmt} {np pos' : Pos} {hds : List ExceptHandler} {l : List Cl1} {mt : Str → Bool} {v : XV} (hg : SGl Γ x) (hm : C.mg x = some c) (hd : (x == ("__debug__" : Str)) = false)
      (hi : Γ.N[i]? = some n) (hln : Γ.sc.names.lookup n = some .local) (hmt : ∀ q, xn q = true → PySem.W.exmOne C.K (.ref (C.cls q)) c = some (mt q)) (hsu : DXS C k Γ xn i (b0 :: suite) v) (r : ClOk C k Γ xn hds l) :
      ClOk C k Γ xn (.ExceptHandler (some (.Name x np)) (some n) (b0 :: suite) pos' :: hds) (⟨c, some i, mt, v⟩ :: l)

def trTS (C : PC) (xn : Xn) (i : Nat) (v : XV) : Addr → Value → Option Addr → TS := fun a cls d D σ H => ∃ q, xn q = true ∧ cls = .ref (C.cls q) ∧ XCl C q ∧ trXS i a q d v D σ H
theorem DXS.suite {X : Cx} {i : Nat} {st : List Stmt} {v : XV} (h : DXS C k Γ xn i st v) (ok : XOk C k Γ X) (a : Addr) (oe : Obj) (cls : Value) (d : Option Addr) (pn : List (Addr × Obj)) (hz : Zc cls d oe) (hf : ∃ vs, oe.data = .fields vs) :
    PSs (X.suite a ((a, oe) :: pn)) st (trTS C xn i v a cls d) := ⟨fun pins s σ H D I ⟨q, hq, e, hx, w⟩ => by
  subst e
  exact (h X a oe q d pn hq ⟨ok, hz, hf, hx⟩).run pins s σ H D I w⟩
/-- the clauses as the layer below has them -/
def clB (C : PC) (xn : Xn) (q : Cl1) (ve : V) : Cl0 := match q.i with
  | none => ⟨q.c, none, fun _ _ _ D _ H => D.rt ve H⟩
  | some i => ⟨q.c, some i, trTS C xn i q.v⟩
theorem ClOk.hs {hds : List ExceptHandler} {l : List Cl1} (h : ClOk C k Γ xn hds l) {X : Cx} (ok : XOk C k Γ X) :
    ∃ l0, HsOk X hds l0 ∧ ∀ {Wout : WX} {D : Ends} {c : Str} {fs : List (Str × T)} {ρ : Env} {S : Sto} {m : Mp} {H : Hp} {σ : St} {d : Addr}, xn c = true → XCl C c → RE m H σ ρ → RS m H S → ExcAt m H d fs → (∀ q ∈ l, ∀ i, q.i = some i → i < Γ.N.length) → σ.length = Γ.N.length →
      PostS C Wout m H D (match pickX c l with
        | some v => (match v c fs with
          | some t => .go (.rt t) S
          | none => .bad)
        | none => .exc c fs ρ S) → wHs C.K Wout D l0 (.ref (C.cls c)) (some d) σ H := by
  induction h with
  | nil =>
    refine ⟨[], .nil, fun {Wout D c fs ρ S m H σ d} hx hX re rs ea _ _ q => ?_⟩
    exact q m H σ d .refl rs re ea
  | @bare x c b0 suite np pos' hds l mt t v pos2 e hg hm hd hmt he hr r ih =>
    obtain ⟨l0, h0, h1⟩ := ih
    refine ⟨⟨c, none, fun _ _ _ D _ H => D.rt v H⟩ :: l0, .bare ⟨ok.gl hg, hd, .inl (by rw [ok.mg]; exact hm)⟩ (fun a oe cls d pn _ hz hf => PSs.weak (pss_cons (ps_ret (he _)) pss_nil) fun D σ H q => q) h0, fun {Wout D cn fs ρ S m H σ d} hx hX re rs ea hl hlen q => ?_⟩
    refine ⟨mt cn, hmt cn hx, fun hb a ha => ?_, fun hb => ?_⟩
    · have e1 : pickX cn (⟨c, none, mt, fun _ _ => some t⟩ :: l) = some fun _ _ => some t := by unfold pickX; rw [if_pos hb]
      rw [e1] at q
      exact q m H v .refl rs (hr m H)
    · have e1 : pickX cn (⟨c, none, mt, fun _ _ => some t⟩ :: l) = pickX cn l := by
        show (if mt cn then _ else _) = _
        rw [hb]; rfl
      rw [e1] at q
      exact h1 hx hX re rs ea (fun q hq => hl q (List.mem_cons_of_mem _ hq)) hlen q
  | @named x n i c b0 suite np pos' hds l mt v hg hm hd hi hln hmt hsu r ih =>
    obtain ⟨l0, h0, h1⟩ := ih
    refine ⟨⟨c, some i, trTS C xn i v⟩ :: l0, .named ⟨ok.gl hg, hd, .inl (by rw [ok.mg]; exact hm)⟩ (ok.name hi) (by show X.env.scope.names.lookup n = _; rw [ok.sc]; exact hln) (fun a oe cls d pn _ hz hf => hsu.suite ok a oe cls d pn hz hf) h0, fun {Wout D cn fs ρ S m H σ d} hx hX re rs ea hl hlen q => ?_⟩
    refine ⟨mt cn, hmt cn hx, fun hb a ha => ?_, fun hb => ?_⟩
    · have e1 : pickX cn (⟨c, some i, mt, v⟩ :: l) = some v := by
        show (if mt cn then _ else _) = _
        rw [hb]; rfl
      rw [e1] at q
      cases ev : v cn fs with
      | none => simp only [ev] at q; exact q.elim
      | some t =>
        simp only [ev] at q
        refine ⟨cn, hx, rfl, hX, ?_, m, S, fs, d, rs, rfl, ea, t, ev, fun m' H' u xx r1 => ?_⟩
        · rw [List.getElem?_set_self (by rw [hlen]; exact hl _ List.mem_cons_self i rfl)]
        · exact q m' H' u xx.1 (xx.2 _ rs) r1
    · have e1 : pickX cn (⟨c, some i, mt, v⟩ :: l) = pickX cn l := by
        show (if mt cn then _ else _) = _
        rw [hb]; rfl
      rw [e1] at q
      exact h1 hx hX re rs ea (fun q hq => hl q (List.mem_cons_of_mem _ hq)) hlen q
theorem ClOk.lt {hds : List ExceptHandler} {l : List Cl1} (h : ClOk C k Γ xn hds l) : ∀ q ∈ l, ∀ i, q.i = some i → i < Γ.N.length := by
  induction h with
  | nil => intro q hq; cases hq
  | bare _ _ _ _ _ _ _ ih =>
    intro q hq i hi
    rcases List.mem_cons.mp hq with z | z
    · subst z; cases hi
    · exact ih q z i hi
  | @named x n i c b0 suite np pos' hds l mt v hg hm hd hi hln hmt hsu r ih =>
    intro q hq j hj
    rcases List.mem_cons.mp hq with z | z
    · subst z
      cases hj
      exact (List.getElem?_eq_some_iff.mp hi).1
    · exact ih q z j hj
theorem ds_try {body : List Stmt} {h0 : ExceptHandler} {hds : List ExceptHandler} {l : List Cl1} {f : SM} {pos : Pos} (hX : ∀ c, xn c = true → XCl C c) (hblk : Γ.blk = false) (hb : DSs C k Γ body f) (hc : ClOk C k Γ xn (h0 :: hds) l) :
    DS C k Γ (.Try body (h0 :: hds) [] [] pos) (sTry Γ.N.length xn f l) := fun X W ok tk => by
  obtain ⟨l0, hs, hw⟩ := hc.hs ok
  obtain ⟨s1, s2⟩ := ok.stk hblk
  refine PS.weak (ps_try_hs s1 s2 (by rw [ok.N]; exact ok.nd) tk (tb := fun W' => trS C W' f) (fun W' pn xe tk' po => hb (X.tr pn xe) W' ⟨ok.P, ok.w, ok.K, ok.mg, ok.base, ok.N, ok.nd, ok.sc, ok.calm, ok.room, ok.gd, ok.fn, fun _ => po, fun _ => ⟨s1, s2⟩⟩ tk') hs) fun D σ H ⟨m, ρ, S, re, rs, q⟩ => ⟨m, ρ, S, re, rs, ?_⟩
  unfold sTry at q
  cases e : f ρ S with
  | bad => rw [e] at q; exact q
  | go fl S1 => rw [e] at q; cases fl <;> exact q
  | exc c fs ρ1 S1 =>
    simp only [e] at q
    obtain ⟨hb1, q⟩ := PostS.if q
    simp only [Bool.and_eq_true, decide_eq_true_eq] at hb1
    intro m' H' σ' d l1 rs' re' ea
    rw [ok.K]
    exact hw hb1.1 (hX c hb1.1) re' rs' ea hc.lt (re'.1.trans hb1.2) (PostS.le l1 q)
end
end Mi
end

section
set_option Elab.async false
set_option linter.all false
set_option maxRecDepth 100000
set_option maxHeartbeats 2000000
/-! Mu0: while without a bound of turns in its denotation -/
namespace Mi
open PySem PySem.Spec L2
open Classical in
noncomputable def sLoop (c : BM) (b : SM) : SM := fun ρ S => if h : ∃ n, whileN c b n ρ S ≠ .bad then whileN c b h.choose ρ S else .bad
theorem loopR_ne {g g' : SM} : ∀ {r : RF}, loopR r g ≠ .bad → (∀ ρ S, g ρ S ≠ .bad → g' ρ S = g ρ S) → loopR r g' = loopR r g
  | .go (.nx ρ) S, h, k => k ρ S h
  | .go (.ct ρ) S, h, k => k ρ S h
  | .go (.bk _) _, _, _ => rfl
  | .go (.rt _) _, _, _ => rfl
  | .exc _ _ _ _, _, _ => rfl
  | .bad, _, _ => rfl
theorem whileN_up {c : BM} {b : SM} : ∀ {n : Nat} {ρ : Env} {S : Sto}, whileN c b n ρ S ≠ .bad → whileN c b (n + 1) ρ S = whileN c b n ρ S
  | 0, _, _, h => absurd rfl h
  | n + 1, ρ, S, h => by
    unfold whileN at h ⊢
    cases e : c ρ S with
    | bad => rfl
    | exc _ _ _ => rfl
    | ok t S1 =>
      rw [e] at h
      cases t with
      | false => rfl
      | true => exact loopR_ne h fun ρ2 S2 z => whileN_up z
theorem whileN_le {c : BM} {b : SM} {n : Nat} {ρ : Env} {S : Sto} (h : whileN c b n ρ S ≠ .bad) : ∀ k, whileN c b (n + k) ρ S = whileN c b n ρ S
  | 0 => rfl
  | k + 1 => by
    have ih := whileN_le h k
    rw [← Nat.add_assoc, whileN_up (by rw [ih]; exact h), ih]
theorem whileN_eq {c : BM} {b : SM} {n k : Nat} {ρ : Env} {S : Sto} (h : whileN c b n ρ S ≠ .bad) (h2 : whileN c b k ρ S ≠ .bad) : whileN c b n ρ S = whileN c b k ρ S := by
  rcases Nat.le_total n k with z | z
  · obtain ⟨d, rfl⟩ := Nat.exists_eq_add_of_le z
    exact (whileN_le h d).symm
  · obtain ⟨d, rfl⟩ := Nat.exists_eq_add_of_le z
    exact whileN_le h2 d
theorem sLoop_eq {c : BM} {b : SM} {n : Nat} {ρ : Env} {S : Sto} {r : RF} (h : whileN c b n ρ S = r) (hr : r ≠ .bad) : sLoop c b ρ S = r := by
  have h2 : ∃ n, whileN c b n ρ S ≠ .bad := ⟨n, by rw [h]; exact hr⟩
  unfold sLoop
  rw [dif_pos h2, ← h]
  exact whileN_eq h2.choose_spec (by rw [h]; exact hr)
/-- one turn -/
theorem sLoop_step {c : BM} {b : SM} {ρ ρ2 : Env} {S S1 S2 : Sto} (h1 : c ρ S = .ok true S1) (h2 : b ρ S1 = .go (.nx ρ2) S2) : sLoop c b ρ S = sLoop c b ρ2 S2 := by
  have key : ∀ n, whileN c b (n + 1) ρ S = whileN c b n ρ2 S2 := fun n => by
    show (c ρ S).then ρ _ = _
    rw [h1]
    show loopR (b ρ S1) _ = _
    rw [h2]
    rfl
  by_cases h : ∃ n, whileN c b n ρ2 S2 ≠ .bad
  · obtain ⟨n, hn⟩ := h
    rw [sLoop_eq (n := n + 1) (key n) hn, sLoop_eq (n := n) rfl hn]
  · have h3 : ¬ ∃ n, whileN c b n ρ S ≠ .bad := fun ⟨n, hn⟩ => by
      cases n with
      | zero => exact hn rfl
      | succ n => rw [key n] at hn; exact h ⟨n, hn⟩
    unfold sLoop
    rw [dif_neg h, dif_neg h3]
theorem sLoop_end {c : BM} {b : SM} {ρ : Env} {S S1 : Sto} (h1 : c ρ S = .ok false S1) : sLoop c b ρ S = .go (.nx ρ) S1 := by
  refine sLoop_eq (n := 1) ?_ (by intro z; cases z)
  show (c ρ S).then ρ _ = _
  rw [h1]
  rfl
section
variable {C : PC} {W : WX} {k : Nat} {Γ : Sx}
theorem ds_loop {c : Expr} {body : List Stmt} {fc : BM} {b : SM} {pos : Pos} (hblk : Γ.blk = false) (hc : DB C k Γ c fc) (hb : DSs C k Γ body b) : DS C k Γ (.While c body [] pos) (sLoop fc b) := fun X W ok tk =>
  ⟨fun pins s σ H D I ⟨m, ρ, S, re, rs, q⟩ => by
    by_cases h : ∃ n, whileN fc b n ρ S ≠ .bad
    · unfold sLoop at q
      rw [dif_pos h] at q
      exact ((ds_while (n := h.choose) (pos := pos) hblk hc hb) X W ok tk).run pins s σ H D I ⟨m, ρ, S, re, rs, q⟩
    · unfold sLoop at q
      rw [dif_neg h] at q
      exact q.elim⟩
end
end Mi
end

section
set_option Elab.async false
set_option linter.all false
set_option maxRecDepth 100000
set_option maxHeartbeats 2000000
/-! Me0: enumerate of a tuple -/
namespace Mi
open PySem PySem.Spec PySem.Calls
theorem enumT_new (l : Addr) (items : Array Value) (n : Nat) (dct : Option Addr) (sl : Array (Option Value)) :
    Meets (Builtin.«enumerate.__new__» ⟨[.type "enumerate", .ref l], []⟩) (fun _ R s => s.heap.get? l = some { cls := .type "tuple", dict := dct, data := .seq items n, slots := sl } ∧
      R (.ok (.ret (.ref (s.heap.push { cls := .type "tuple_iterator", data := .fields #[.ref l, .int 0 0] }).objs.size)))
        { s with heap := (s.heap.push { cls := .type "tuple_iterator", data := .fields #[.ref l, .int 0 0] }).push { cls := .type "enumerate", data := .fields #[.none, .bool false, .ref s.heap.objs.size, rawInt 0, .none, .none] } }) :=
  .of_wp fun prog w A R s h => by
    obtain ⟨hp, g, d, tk, os⟩ := s; obtain ⟨hl, h⟩ := h
    have hsub := sub_enumerate
    have hL : Heap.IsTuple (Shared.heap ⟨hp, g, d, tk, os⟩) l items := ⟨_, hl, rfl, n, rfl⟩
    wp_walk using wpAny_loadPart' hl
    refine wpAny_stack_any fun st => wpAny_pure ?_
    split
    · rename_i c _ _ _ _ _
      cases (c == Value.type "enumerate")
      · wp_walk using wpAny_loadPart' hl, wpAny_pyIter_tuple hL
        exact ⟨_, rfl, h⟩
      · wp_walk using wpAny_loadPart' hl, wpAny_pyIter_tuple hL
        exact ⟨_, rfl, h⟩
    · wp_walk using wpAny_loadPart' hl, wpAny_pyIter_tuple hL
      exact ⟨_, rfl, h⟩
section
variable {prog : Program} {w : World} {A : Around} {E : Value → Shared → Prop} {s : Shared}
theorem call_enumT {l : Addr} {items : Array Value} {Q : Value → Shared → Prop} (hL : s.heap.IsTuple l items)
    (h : ∀ h', IsEnum h' (s.heap.objs.size + 1) s.heap.objs.size 0 .none → h'.IsTupleIter s.heap.objs.size l 0 → h'.objs.size = s.heap.objs.size + 2 →
      (∀ b o, s.heap.get? b = some o → h'.get? b = some o) → Q (.ref (s.heap.objs.size + 1)) { s with heap := h' }) :
    wpAny (model prog w) A (call (.type "enumerate") [.ref l]) Q E s := by
  obtain ⟨⟨c, dct, dt, sl⟩, hl, hc, n, hd⟩ := hL
  replace hc : c = .type "tuple" := hc
  replace hd : dt = .seq items n := hd
  subst hc hd
  refine callType_new F.called_enumerate (by decide) (F.typeCall_enumerate_1 _) (F.newCall_enumerate_1 _) (fun obj => F.args_object_init_2 obj _) F.entry_enumerate_new (enumT_new l items n dct sl) ⟨hl, ?_⟩
  have hz : (s.heap.push { cls := .type "tuple_iterator", data := .fields #[.ref l, .int 0 0] }).objs.size = s.heap.objs.size + 1 := Heap.size_push ..
  show _ ∧ _
  rw [hz]
  have he : IsEnum ((s.heap.push { cls := .type "tuple_iterator", data := .fields #[.ref l, .int 0 0] }).push
      { cls := .type "enumerate", data := .fields #[.none, .bool false, .ref s.heap.objs.size, rawInt 0, .none, .none] }) (s.heap.objs.size + 1) s.heap.objs.size 0 .none := by
    have q := Heap.get?_push_size (s.heap.push { cls := .type "tuple_iterator", data := .fields #[.ref l, .int 0 0] })
      (o := { cls := .type "enumerate", data := .fields #[.none, .bool false, .ref s.heap.objs.size, rawInt 0, .none, .none] }) rfl
    rw [hz] at q; exact q
  refine ⟨⟨_, he, rfl⟩, h _ he ⟨_, Heap.get?_push_of_some _ (Heap.get?_push_size _ rfl), rfl, rfl⟩ (by rw [Heap.size_push, hz]) fun b o x => Heap.get?_push_of_some _ (Heap.get?_push_of_some _ x)⟩
end
/-- a tuple's items, drawn -/
theorem drawsT {prog : Program} {w : World} {A : Around} (hh : A.handled = none) {it l : Addr} {items : Array Value} (hli : l ≠ it) : Draws prog w A it [it, l] items.size (fun i v => items[i]? = some v) (fun i h => h.IsTupleIter it l i ∧ h.IsTuple l items) where
  live := fun _ _ st => let ⟨o, ho, _⟩ := st.1; ⟨o, ho⟩
  frame := fun _ _ _ st hk => ⟨let ⟨o, ho, r⟩ := st.1; ⟨o, hk it (by simp) o ho, r⟩, let ⟨o, ho, r⟩ := st.2; ⟨o, hk l (by simp) o ho, r⟩⟩
  item := fun i s Q E hi st hQ => RZ.nextOf_tuple_item st.1 st.2 (x := items[i]) (by simp [hi]) fun h' hit' hs' => hQ _ h' s.toks (by simp [hi]) ⟨hit', let ⟨o, ho, r⟩ := st.2; ⟨o, (hs'.2 l hli).trans ho, r⟩⟩ hs'
  done := fun s Q E st hE => RZ.nextOf_tuple_end hh st.1 st.2 (by simp) hE
end Mi
end

section
set_option Elab.async false
set_option linter.all false
set_option maxRecDepth 100000
set_option maxHeartbeats 2000000
/-! Me1: enumerate, zip as what a loop walks -/
namespace L2
open PySem PySem.Spec PyProof.Rows
/-- the tuple at a, each item in a new pair -/
def IteT (K : PySem.W.Frag) (a : Addr) : It :=
  ⟨fun i H => ∃ (xs : List V) (x : V), SqT K H a xs ∧ xs[i]? = some x, fun i H v H' => ∃ T x, v = .ref T ∧ H T = none ∧ H' = upd H T (.tup [.int (i : Nat), x]) ∧ ∀ xs, SqT K H a xs → xs[i]? = some x, fun i H => ∃ xs : List V, SqT K H a xs ∧ xs.length ≤ i⟩
theorem turn_enumT {P : Program} {w : World} {K : PySem.W.Frag} {elts : List Expr} {kk : Nat} {tpos : Pos} (a e it : Addr) :
    Turn P w K (.Tuple elts kk tpos) (IteT K a) [e, it] e (fun i h => (∃ old, IsEnum h e it ((i : Nat) : Int) old) ∧ h.IsTupleIter it a i ∧ e ≠ it ∧ a ≠ e ∧ a ≠ it) where
  mem := by simp
  obj := fun i h st b hb => by
    obtain ⟨⟨old, he⟩, ⟨o, ho, hc, hd⟩, _⟩ := st
    have e' : b = e ∨ b = it := by simpa using hb
    rcases e' with z | z
    · rw [z]; exact ⟨_, he, fun v q => nomatch q⟩
    · rw [z]; exact ⟨o, ho, fun v q => by rw [hd] at q; cases q⟩
  keep := fun i h h' st k => let ⟨⟨old, he⟩, ⟨o, ho, hr⟩, hne⟩ := st; ⟨⟨old, k e (by simp) _ he⟩, ⟨o, k it (by simp) o ho, hr⟩, hne⟩
  item := by
    intro X hP hw hK hc i pins s σ H E I hf st hg
    subst hP hw hK
    obtain ⟨⟨old, he⟩, hit, hne, hae, hai⟩ := st
    obtain ⟨xs, x, hq, hx⟩ := hg
    obtain ⟨its, rv, p, hz⟩ := I.tuple hq
    obtain ⟨u, hu, ru⟩ := rv.get hx
    have hel : e < s.heap.objs.size := Heap.lt_size he
    have hil : it < s.heap.objs.size := by obtain ⟨_, q, _⟩ := hit; exact Heap.lt_size q
    have hlt : i < its.toArray.size := by
      have q := (List.getElem?_eq_some_iff.mp hx).1
      simpa [← rv.length] using q
    have hu2 : its.toArray[i]? = some u := by simpa using hu
    have hdr := Mi.drawsT (prog := X.prog) (w := X.w) (A := X.A.in1) (show X.A.in1.handled = none from I.ok.hd hc) (it := it) (l := a) (items := its.toArray) hai
    have hef : e ∉ [it, a] := fun z => by
      rcases List.mem_cons.mp z with z | z
      · exact hne z
      · exact hae (List.mem_singleton.mp z).symm
    refine wpAny_pyNext_enum_itemD hdr he ⟨hit, p⟩ hlt hne hef fun x' h' tk hx' ho hit' hT hsz hk => ?_
    have hxu : x' = u := Option.some.inj (hx'.symm.trans hu2)
    subst hxu
    refine ⟨_, rfl, wpAny_letOwnedTupleGo_enum (s := { s with heap := h', toks := tk + 1 }) ho fun h'' he' sb => ?_⟩
    have hT2 : h''.get? s.heap.objs.size = some { cls := .type "tuple", data := .seq #[.int i tk, x'] } := (sb.2 _ (Nat.ne_of_gt hel)).trans hT
    have new : ObjOk X.prog X.w (upd H s.heap.objs.size (.tup [.int (i : Nat), x])) h'' s.heap.objs.size (.tup [.int (i : Nat), x]) :=
      ⟨by show 2 ≤ sizeLine; decide, [.int i tk, x'], .cons ⟨_, rfl⟩ (.cons ru .nil), ⟨_, hT2, rfl, _, rfl⟩⟩
    have I1 : L2.Inv X pins σ (upd H s.heap.objs.size (.tup [.int (i : Nat), x])) { s with heap := h'', toks := tk + 1 } :=
      I.turnedNew (ch := [e, it]) (fun b ob hb q => (sb.2 b (fun z => hb (by simp [z]))).trans (hk b ob (fun z => hb (by simp [z])) (fun z => hb (by simp [z])) q)) hf (Nat.le_refl _) new
    refine ⟨.ref s.heap.objs.size, _, I1, rfl, ⟨_, x, rfl, I.hok.fresh (Nat.le_refl _), rfl, fun ys hy => by rw [I.tuple_inj hy hq]; exact hx⟩, ⟨⟨x', ?_⟩, ?_, hne, hae, hai⟩, fun b hb => ?_⟩
    · have e1 : ((i + 1 : Nat) : Int) = (i : Int) + 1 := by omega
      rw [e1]; exact he'
    · obtain ⟨⟨o, ho1, ho2⟩, _⟩ := hit'
      exact ⟨o, (sb.2 it (Ne.symm hne)).trans ho1, ho2⟩
    · have hb' : b < s.heap.objs.size := by
        have e' : b = e ∨ b = it := by simpa using hb
        rcases e' with z | z
        · rw [z]; exact hel
        · rw [z]; exact hil
      rw [upd_ne (Nat.ne_of_lt hb')]
      exact (hf b hb).1
  done := by
    intro X hP hw hK hc i pins s σ H E I hf st hg
    subst hP hw hK
    obtain ⟨⟨old, he⟩, hit, hne, hae, hai⟩ := st
    obtain ⟨xs, hq, hx⟩ := hg
    obtain ⟨its, rv, p, hz⟩ := I.tuple hq
    obtain ⟨f0, f1, f2, f3, f4, f5⟩ := hf it (by simp)
    have hl := rv.length
    have hT : s.TypeIs (.ref e) "enumerate" := ⟨_, he, rfl⟩
    unfold pyNext
    refine wpAny_bind (wpAny_attempt (wpAny_callSpecial?_slot (name := Str.ofString "__next__") hT F.slot_enumerate_next
      (wpAny_call_entry F.slot_enumerate_next hT F.entry_enumerate_next ?_ (F.args_enumerate_next_1 _))))
    show wpAny _ _ (field (.ref e) 2 >>= _) _ _ _
    refine wpAny_bind (wpAny_field he rfl (x := .ref it) rfl ?_)
    refine wpAny_bind (RZ.nextOf_tuple_end (show X.A.in1.handled = none from I.ok.hd hc) hit p (by simp; omega) fun h' x he' hx' => ?_)
    obtain ⟨o, ho, hc⟩ := hx'
    refine wpAny_bind (wpAny_isInstance (T := "StopIteration") (b := true) ⟨o, ho, hc⟩ isSubtype_stop ?_)
    exact wpAny_pure ⟨rfl, I.turned (t' := s.toks) (fun b o hb q => he' b o hb q) f0 f1 f3 f4 f5⟩
  self := fun A i s Q E st h => let ⟨⟨_, he⟩, _⟩ := st; wpAny_pyIter_enum he h
def iEnumA (K : PySem.W.Frag) (ta : TA) : TI := fun σ H R => ta σ H fun vs H1 => ∃ a xs, vs = [.ref a] ∧ ((SqL K H1 a xs ∧ R (Ite K a) H1) ∨ (SqT K H1 a xs ∧ R (IteT K a) H1))
theorem pi_enumA {X : Cx} {e : Expr} {ta : TA} {p pos tpos : Pos} {elts : List Expr} {kk : Nat} (hg : Gl X "enumerate") (hm : X.mg "enumerate" = none) (ha : PA X [e] ta) (hs : starEach [e] X.env = [(false, eval e X.env)]) :
    PI X (.Tuple elts kk tpos) (.Call (.Name "enumerate" p) [e] [] pos) (iEnumA X.K ta) := by
  refine ⟨fun pins s σ H R I h => ?_⟩
  refine Call_ (ld_blt I hg hm boot_enumerate (PyProof.Rows.callWith_type1 (thn (ha.run pos pins s σ H _ I h) fun us s1 ⟨vs, H1, I1, r1, q1⟩ => ?_) hs rfl))
  obtain ⟨a, xs, ex, q1⟩ := q1
  subst ex
  cases r1 with
  | cons r rr =>
    cases rr
    cases r
    have fresh2 : ∀ b, b ∈ [s1.heap.objs.size + 1, s1.heap.objs.size] → FpOk X pins H1 b := fun b hb => by
      have e' : b = s1.heap.objs.size + 1 ∨ b = s1.heap.objs.size := by simpa using hb
      have hle : s1.heap.objs.size ≤ b := by
        rcases e' with z | z
        · rw [z]; exact Nat.le_add_right _ _
        · rw [z]; exact Nat.le_refl _
      exact I1.fpOk hle (I1.hok.fresh hle)
    rcases q1 with ⟨hq, q⟩ | ⟨hq, q⟩
    · obtain ⟨its, rv, p', hz⟩ := I1.list hq
      refine call_enumerate_list p'.isList fun h' he hit hsz hk => wpAny_pyIter_enum he ?_
      have I2 : L2.Inv X pins σ H1 { s1 with heap := h' } := I1.kept (t' := s1.toks) hk
      exact ⟨s1.heap.objs.size + 1, [s1.heap.objs.size + 1, s1.heap.objs.size], _, _, H1, rfl, I2, turn_enum a (s1.heap.objs.size + 1) s1.heap.objs.size, ⟨⟨.none, he⟩, hit, Nat.succ_ne_self _⟩, fresh2, q⟩
    · obtain ⟨its, rv, p', hz⟩ := I1.tuple hq
      have hlt : a < s1.heap.objs.size := by obtain ⟨o, ho, _⟩ := p'; exact Heap.lt_size ho
      refine Mi.call_enumT p' fun h' he hit hsz hk => wpAny_pyIter_enum he ?_
      have I2 : L2.Inv X pins σ H1 { s1 with heap := h' } := I1.kept (t' := s1.toks) hk
      exact ⟨s1.heap.objs.size + 1, [s1.heap.objs.size + 1, s1.heap.objs.size], _, _, H1, rfl, I2, turn_enumT a (s1.heap.objs.size + 1) s1.heap.objs.size, ⟨⟨.none, he⟩, hit, Nat.succ_ne_self _, Nat.ne_of_lt (Nat.lt_succ_of_lt hlt), Nat.ne_of_lt hlt⟩, fresh2, q⟩
end L2
namespace Mi
open PySem PySem.Spec L2
section
variable {C : PC} {W : WX} {k : Nat} {Γ : Sx}
theorem noStar_one {e : Expr} {env : PySem.Env} (h : noStar e = true) : starEach [e] env = [(false, eval e env)] := star_cons h
/-- what stands at a value that is walked, as long as its check holds -/
theorem chk_lst {K : PySem.W.Frag} {m m1 : Mp} {H H1 : Hp} {S S1 : Sto} {v : V} {x : T} {l : List T} (rs1 : RS m1 H1 S1) (r1 : Rp m1 H1 v x) (e : seqT S1 x = some l) (nt : ∀ y, x ≠ .tup y) (le : Le m1 H1 m H) (rs : RS m H S) (hc : chkT S1 x l S = true) :
    ∃ a ys, v = .ref a ∧ SqL K H a ys ∧ RpL m H ys l ∧ (H a = some (.lst ys) ∨ ∃ o, H a = some (.frz o (.lst ys))) := by
  cases r1 with
  | @lst a xs ts h o r => cases e; exact ⟨a, xs, rfl, .of (le.keep _ _ o h).1, r.le le, .inl (le.keep _ _ o h).1⟩
  | @scr a ob xs ts h o r => cases e; exact ⟨a, xs, rfl, .inl (.inr ⟨_, (le.keep _ _ o h).1⟩), r.le le, .inr ⟨_, (le.keep _ _ o h).1⟩⟩
  | tup => exact absurd rfl (nt _)
  | @obj a n h =>
    have hc' : (match S[n]? with
      | some (.lst l') => T.sams l' l
      | _ => false) = true := hc
    cases e3 : S[n]? with
    | none => simp [e3] at hc'
    | some ob =>
      cases ob with
      | dic _ l => simp [e3] at hc'
      | dlk _ l => simp [e3] at hc'
      | lst l' =>
        simp only [e3] at hc'
        have e4 := T.sams_eq hc'
        subst e4
        obtain ⟨c, h3, ys, h4, h5, _⟩ := rs.has n _ e3
        rw [le.obj _ _ h] at h3; cases h3
        exact ⟨_, ys, rfl, .of h4, h5, .inl h4⟩
  | _ => cases e
theorem sql_up {K : PySem.W.Frag} {H Hc : Hp} {a : Addr} {ys : List V} (up : ∀ a u, H a = some u → Hc a = some u) (h : H a = some (.lst ys) ∨ ∃ o, H a = some (.frz o (.lst ys))) : SqL K Hc a ys := by
  rcases h with h | ⟨o, h⟩
  · exact .of (up _ _ h)
  · exact .inl (.inr ⟨_, up _ _ h⟩)
def enumT (l : List T) : List T := l.mapIdx fun i x => .tup [.int (i : Nat), x]
theorem enumT_get {l : List T} {i : Nat} {x : T} (h : l[i]? = some x) : (enumT l)[i]? = some (.tup [.int (i : Nat), x]) := by
  unfold enumT
  rw [List.getElem?_mapIdx, h]; rfl
theorem enumT_len (l : List T) : (enumT l).length = l.length := by unfold enumT; simp
def iEnumT (f : EM) : IM := fun ρ S => (f ρ S).bind fun x S1 => match seqT S1 x with
  | some l => .ok ⟨enumT l, chkT S1 x l⟩ S1
  | none => .bad
theorem di_enum {elts : List Expr} {kk : Nat} {tpos : Pos} {e : Expr} {f : EM} {p pos : Pos} (hg : SGl Γ "enumerate") (hm : C.mg "enumerate" = none) (h : DE C k Γ e f) (hs : noStar e = true) : DI C k Γ (.Tuple elts kk tpos) (.Call (.Name "enumerate" p) [e] [] pos) (iEnumT f) := fun X W ok tk =>
  PI.weak (pi_enumA (ok.gl hg) (ok.free hm) (pa_cons (h X W ok tk) pa_nil (noStar_one hs)) (noStar_one hs)) fun σ H Q ⟨m, ρ, S, re, rs, q⟩ => ⟨m, ρ, S, re, rs, (Post.bindI q).mono fun u H1 ⟨m1, x, S1, l1, rs1, r1, q1⟩ => by
    cases e : seqT S1 x with
    | none => simp only [e] at q1; exact q1.elim
    | some l =>
      simp only [e] at q1
      by_cases ht : ∃ y, x = .tup y
      · obtain ⟨y, rfl⟩ := ht
        cases e
        cases r1 with
        | @tup a xs ts h o r =>
        refine ⟨a, xs, rfl, .inr ⟨.of h, q1 m1 H1 _ .refl rs1 ⟨fun {m H Hc S i} le rs hc up dn hi => ?_, fun {m H Hc S} le rs hc up => ?_⟩⟩⟩
        · rw [enumT_len] at hi
          have h2 := up _ _ (le.keep _ _ o h).1
          have hi' : i < xs.length := by rw [r.length]; exact hi
          refine ⟨⟨xs, xs[i], .of h2, by simp [hi']⟩, fun x H' ⟨T', x2, e1, e2, e3, e4⟩ => ?_⟩
          obtain ⟨t, e5, r5⟩ := (r.le le).get' (e4 xs (.of h2))
          exact ⟨_, enumT_get e5, .inr ⟨T', _, _, e1, e2, e3, rfl, .cons (.int _) (.cons r5 .nil)⟩⟩
        · rw [enumT_len]
          exact ⟨xs, .of (up _ _ (le.keep _ _ o h).1), by rw [r.length]; exact Nat.le_refl _⟩
      · have nt : ∀ y, x ≠ .tup y := fun y z => ht ⟨y, z⟩
        have hself : chkT S1 x l S1 = true := by
          cases x with
          | obj n =>
            have e' : (match S1[n]? with
              | some (.lst l) => some l
              | _ => none) = some l := e
            show (match S1[n]? with
              | some (.lst l') => T.sams l' l
              | _ => false) = true
            cases e3 : S1[n]? with
            | none => simp [e3] at e'
            | some ob =>
              cases ob with
              | dic _ l => simp [e3] at e'
              | dlk _ l => simp [e3] at e'
              | lst l' => simp only [e3, Option.some.injEq] at e'; subst e'; exact T.sams_refl _
          | _ => rfl
        obtain ⟨a, xs, rfl, sq, _, _⟩ := chk_lst (K := X.K) rs1 r1 e nt .refl rs1 hself
        refine ⟨a, xs, rfl, .inl ⟨sq, q1 m1 H1 _ .refl rs1 ⟨fun {m H Hc S i} le rs hc up dn hi => ?_, fun {m H Hc S} le rs hc up => ?_⟩⟩⟩
        · rw [enumT_len] at hi
          obtain ⟨b, ys, eb, _, ry, hy⟩ := chk_lst (K := X.K) rs1 r1 e nt le rs hc
          cases eb
          have hi' : i < ys.length := by rw [ry.length]; exact hi
          refine ⟨⟨ys, ys[i], sql_up up hy, by simp [hi']⟩, fun x H' ⟨T', x2, e1, e2, e3, e4⟩ => ?_⟩
          obtain ⟨t, e5, r5⟩ := ry.get' (e4 ys (sql_up up hy))
          exact ⟨_, enumT_get e5, .inr ⟨T', _, _, e1, e2, e3, rfl, .cons (.int _) (.cons r5 .nil)⟩⟩
        · rw [enumT_len]
          obtain ⟨b, ys, eb, _, ry, hy⟩ := chk_lst (K := X.K) rs1 r1 e nt le rs hc
          cases eb
          exact ⟨ys, sql_up up hy, by rw [ry.length]; exact Nat.le_refl _⟩⟩
end
end Mi
end

section
set_option Elab.async false
set_option linter.all false
set_option maxRecDepth 100000
set_option maxHeartbeats 2000000
/-! Me2: zip of two lists or of two tuples -/
namespace Mi
open PySem PySem.Spec L2
section
variable {C : PC} {W : WX} {k : Nat} {Γ : Sx}
def zipT (l l' : List T) : List T := List.zipWith (fun x y => T.tup [x, y]) l l'
theorem zipT_get {l l' : List T} {i : Nat} {x y : T} (h : l[i]? = some x) (h' : l'[i]? = some y) : (zipT l l')[i]? = some (.tup [x, y]) := by
  unfold zipT
  rw [List.getElem?_zipWith, h, h']
theorem zipT_len (l l' : List T) : (zipT l l').length = min l.length l'.length := by unfold zipT; exact List.length_zipWith
def isTup : T → Bool
  | .tup _ => true
  | _ => false
def iZipT (g : AM) : IM := fun ρ S => (g ρ S).bind fun ts S1 => match ts with
  | [x, y] => (match seqT S1 x, seqT S1 y with
    | some l, some l' => if isTup x == isTup y then .ok ⟨zipT l l', fun S' => chkT S1 x l S' && chkT S1 y l' S'⟩ S1 else .bad
    | _, _ => .bad)
  | _ => .bad
theorem isTup_ok {x : T} (h : isTup x = false) : ∀ y, x ≠ .tup y := fun y z => by subst z; cases h
theorem chk_self {S : Sto} {x : T} {l : List T} (e : seqT S x = some l) : chkT S x l S = true := by
  cases x with
  | obj n =>
    have e' : (match S[n]? with
      | some (.lst l) => some l
      | _ => none) = some l := e
    show (match S[n]? with
      | some (.lst l') => T.sams l' l
      | _ => false) = true
    cases e3 : S[n]? with
    | none => simp [e3] at e'
    | some ob =>
      cases ob with
      | dic _ l => simp [e3] at e'
      | dlk _ l => simp [e3] at e'
      | lst l' => simp only [e3, Option.some.injEq] at e'; subst e'; exact T.sams_refl _
  | _ => rfl
theorem di_zip {elts : List Expr} {kk : Nat} {tpos : Pos} {e e2 : Expr} {g : AM} {p pos : Pos} (hg : SGl Γ "zip") (hm : C.mg "zip" = none) (h : DAs C k Γ [e, e2] g) (hs : noStar e = true) (hs2 : noStar e2 = true) : DI C k Γ (.Tuple elts kk tpos) (.Call (.Name "zip" p) [e, e2] [] pos) (iZipT g) := fun X W ok tk =>
  PI.weak (RZ.pi_zipA (ok.gl hg) (ok.free hm) (h X W ok tk) (star_cons hs) (starAny (by simp [hs2]))) fun σ H Q ⟨m, ρ, S, re, rs, q⟩ => ⟨m, ρ, S, re, rs, (Post.bindI q).mono fun us H1 ⟨m1, ts, S1, l1, rs1, r1, q1⟩ => by
    match ts, q1 with
    | [], q1 => exact q1.elim
    | [_], q1 => exact q1.elim
    | _ :: _ :: _ :: _, q1 => exact q1.elim
    | [x, y], q1 =>
      obtain ⟨u, v, rfl, r2, r3⟩ := rpl2 r1
      cases e : seqT S1 x with
      | none => simp only [e] at q1; exact q1.elim
      | some l =>
        cases e' : seqT S1 y with
        | none => simp only [e, e'] at q1; exact q1.elim
        | some l' =>
          simp only [e, e'] at q1
          cases hx : isTup x with
          | true =>
            cases hy : isTup y with
            | false => rw [hx, hy, if_neg (by decide)] at q1; exact q1.elim
            | true =>
              rw [hx, hy, if_pos (by decide)] at q1
              cases r2 with
              | @tup a xs ts h o r =>
                cases r3 with
                | @tup b ys ts' h' o' r' =>
                  cases e
                  cases e'
                  refine ⟨a, b, xs, ys, rfl, .inr ⟨.of h, .of h', q1 m1 H1 _ .refl rs1 ⟨fun {m H Hc S i} le rs hc up dn hi => ?_, fun {m H Hc S} le rs hc up => ?_⟩⟩⟩
                  · have hi : i < (zipT l l').length := hi
                    rw [zipT_len] at hi
                    have h2 := up _ _ (le.keep _ _ o h).1
                    have h2' := up _ _ (le.keep _ _ o' h').1
                    have hi1 : i < xs.length := by rw [r.length]; omega
                    have hi2 : i < ys.length := by rw [r'.length]; omega
                    refine ⟨⟨xs, ys, xs[i], ys[i], .of h2, .of h2', by simp [hi1], by simp [hi2]⟩, fun x H' ⟨T', x2, y2, e1, e2, e3, e4, e5⟩ => ?_⟩
                    obtain ⟨t, e6, r6⟩ := (r.le le).get' (e4 xs (.of h2))
                    obtain ⟨t', e7, r7⟩ := (r'.le le).get' (e5 ys (.of h2'))
                    exact ⟨_, zipT_get e6 e7, .inr ⟨T', _, _, e1, e2, e3, rfl, .cons r6 (.cons r7 .nil)⟩⟩
                  · show L2.It.stop _ (zipT l l').length Hc
                    rw [zipT_len]
                    refine ⟨xs, ys, .of (up _ _ (le.keep _ _ o h).1), .of (up _ _ (le.keep _ _ o' h').1), ?_⟩
                    rw [r.length, r'.length]
                    omega
                | _ => cases hy
              | _ => cases hx
          | false =>
            cases hy : isTup y with
            | true => rw [hx, hy, if_neg (by decide)] at q1; exact q1.elim
            | false =>
              rw [hx, hy, if_pos (by decide)] at q1
              have nx := isTup_ok hx
              have ny := isTup_ok hy
              obtain ⟨a, xs, rfl, sx, rx, hax⟩ := chk_lst (K := X.K) rs1 r2 e nx .refl rs1 (chk_self e)
              obtain ⟨b, ys, rfl, sy, ry, hby⟩ := chk_lst (K := X.K) rs1 r3 e' ny .refl rs1 (chk_self e')
              refine ⟨a, b, xs, ys, rfl, .inl ⟨sx, sy, q1 m1 H1 _ .refl rs1 ⟨fun {m H Hc S i} le rs hc up dn hi => ?_, fun {m H Hc S} le rs hc up => ?_⟩⟩⟩
              · have hi : i < (zipT l l').length := hi
                have hc : (chkT S1 x l S && chkT S1 y l' S) = true := hc
                simp only [Bool.and_eq_true] at hc
                rw [zipT_len] at hi
                obtain ⟨a', xs', ea, _, rx', hx'⟩ := chk_lst (K := X.K) rs1 r2 e nx le rs hc.1
                obtain ⟨b', ys', eb, _, ry', hy'⟩ := chk_lst (K := X.K) rs1 r3 e' ny le rs hc.2
                cases ea
                cases eb
                have hi1 : i < xs'.length := by rw [rx'.length]; omega
                have hi2 : i < ys'.length := by rw [ry'.length]; omega
                refine ⟨⟨xs', ys', xs'[i], ys'[i], sql_up up hx', sql_up up hy', by simp [hi1], by simp [hi2]⟩, fun x H' ⟨T', x2, y2, e1, e2, e3, e4, e5⟩ => ?_⟩
                obtain ⟨t, e6, r6⟩ := rx'.get' (e4 xs' (sql_up up hx'))
                obtain ⟨t', e7, r7⟩ := ry'.get' (e5 ys' (sql_up up hy'))
                exact ⟨_, zipT_get e6 e7, .inr ⟨T', _, _, e1, e2, e3, rfl, .cons r6 (.cons r7 .nil)⟩⟩
              · have hc : (chkT S1 x l S && chkT S1 y l' S) = true := hc
                simp only [Bool.and_eq_true] at hc
                obtain ⟨a', xs', ea, _, rx', hx'⟩ := chk_lst (K := X.K) rs1 r2 e nx le rs hc.1
                obtain ⟨b', ys', eb, _, ry', hy'⟩ := chk_lst (K := X.K) rs1 r3 e' ny le rs hc.2
                cases ea
                cases eb
                show L2.It.stop _ (zipT l l').length Hc
                rw [zipT_len]
                refine ⟨xs', ys', sql_up up hx', sql_up up hy', ?_⟩
                rw [rx'.length, ry'.length]
                omega⟩
end
end Mi
end

section
set_option Elab.async false
set_option linter.all false
set_option maxRecDepth 100000
set_option maxHeartbeats 2000000
/-! Mc0: comprehensions with two clauses; name = [..]; the stores of a, b = .. -/
namespace Mi
open PySem PySem.Spec L2
section
variable {C : PC} {W : WX} {k : Nat} {Γ : Sx}
/-- the outer loop over an inner one -/
def compL2 (ck : Sto → Bool) (g : GM) (c : BM) (f1 : IM) (g1 : GM) (c1 : BM) (e : EM) (vs1 : List Nat) (ρ : Env) : List T → Sto → R (List T)
  | [], S => R.if (ck S) (.ok [] S)
  | t :: ts, S => R.if (ck S) (match g t ρ with
    | some ρ1 => (c ρ1 S).calm.bind fun b S1 => (match b with
      | true => (f1 ρ1 S1).calm.bind fun it S2 => (R.if (decide (it.items.length ≤ 4096)) (compL it.chk g1 c1 e (wipeE ρ1 vs1) it.items S2)).bind fun ys S3 => (compL2 ck g c f1 g1 c1 e vs1 ρ ts S3).bind fun zs S4 => .ok (ys ++ zs) S4
      | false => compL2 ck g c f1 g1 c1 e vs1 ρ ts S1)
    | none => .bad)
def nComp2 (f : IM) (g : GM) (c : BM) (f1 : IM) (g1 : GM) (c1 : BM) (e : EM) (vs vs1 : List Nat) : LM := fun ρ S => (f ρ S).bind fun it S1 => R.if (decide (it.items.length ≤ 4096)) (compL2 it.chk g c f1 g1 c1 e vs1 (wipeE ρ vs) it.items S1)
theorem Post.calmI {m : Mp} {H : Hp} {σ : St} {D : Addr} {acc : List T} {Q : VK} {g : ItT → Sto → R (List T)} : ∀ {r : R ItT}, PostC m H D acc Q (r.calm.bind g) →
    PostI C (fun _ _ _ _ => False) m H σ (fun J H1 => ∃ m1 it S1, Le m H m1 H1 ∧ RS m1 H1 S1 ∧ Walks m1 H1 J it ∧ PostC m1 H1 D acc Q (g it S1)) r
  | .ok a S, h => fun m' H' b l rs x => ⟨m', a, S, l, rs, x, PostC.le (r := g a S) l h⟩
  | .exc _ _ _, h => h.elim
  | .bad, h => h
theorem compL2_noexc {ck : Sto → Bool} {g : GM} {c : BM} {f1 : IM} {g1 : GM} {c1 : BM} {e : EM} {vs1 : List Nat} {ρ : Env} : ∀ {ts : List T} {S : Sto} {x : Str} {fs : List (Str × T)} {S' : Sto}, compL2 ck g c f1 g1 c1 e vs1 ρ ts S ≠ .exc x fs S'
  | [], S, x, fs, S' => by
    unfold compL2
    cases ck S <;> (intro z; cases z)
  | t :: ts, S, x, fs, S' => by
    unfold compL2
    cases ck S with
    | false => intro z; cases z
    | true =>
      show (match g t ρ with
        | some ρ1 => _
        | none => R.bad) ≠ _
      cases g t ρ with
      | none => intro z; cases z
      | some ρ1 =>
        show (c ρ1 S).calm.bind _ ≠ _
        cases c ρ1 S with
        | bad => intro z; cases z
        | exc _ _ _ => intro z; cases z
        | ok b S1 =>
          cases b with
          | false => exact compL2_noexc
          | true =>
            show (f1 ρ1 S1).calm.bind _ ≠ _
            cases f1 ρ1 S1 with
            | bad => intro z; cases z
            | exc _ _ _ => intro z; cases z
            | ok it S2 =>
              show (R.if _ _).bind _ ≠ _
              cases decide (it.items.length ≤ 4096) with
              | false => intro z; cases z
              | true =>
                show (compL it.chk g1 c1 e (wipeE ρ1 vs1) it.items S2).bind _ ≠ _
                cases q0 : compL it.chk g1 c1 e (wipeE ρ1 vs1) it.items S2 with
                | bad => intro z; cases z
                | exc a b d => exact absurd q0 compL_noexc
                | ok l S3 =>
                  show (compL2 ck g c f1 g1 c1 e vs1 ρ ts S3).bind _ ≠ _
                  cases q : compL2 ck g c f1 g1 c1 e vs1 ρ ts S3 with
                  | bad => intro z; cases z
                  | exc a b d => exact absurd q compL2_noexc
                  | ok l S3 => intro z; cases z
/-- a list's rest, then more -/
def PostK (m : Mp) (H : Hp) (acc : List T) (Nx : List T → Mp → Hp → Sto → Prop) : R (List T) → Prop
  | .ok l S => ∀ m' H', Le m H m' H' → RS m' H' S → Nx (acc ++ l) m' H' S
  | _ => False
theorem PostK.le {m m1 : Mp} {H H1 : Hp} {acc : List T} {Nx : List T → Mp → Hp → Sto → Prop} (l : Le m H m1 H1) : ∀ {r : R (List T)}, PostK m H acc Nx r → PostK m1 H1 acc Nx r
  | .ok _ _, h => fun m' H' l' => h m' H' (l.trans l')
  | .exc _ _ _, h => h
  | .bad, h => h
theorem Post.calmK {α β : Type} {rel : Mp → Hp → β → α → Prop} {m : Mp} {H : Hp} {σ : St} {acc : List T} {Nx : List T → Mp → Hp → Sto → Prop} {g : α → Sto → R (List T)} : ∀ {r : R α}, PostK m H acc Nx (r.calm.bind g) →
    Post C (fun _ _ _ _ => False) rel m H σ (fun b H1 => ∃ m1 a S1, Le m H m1 H1 ∧ RS m1 H1 S1 ∧ rel m1 H1 b a ∧ PostK m1 H1 acc Nx (g a S1)) r
  | .ok a S, h => fun m' H' b l rs x => ⟨m', a, S, l, rs, x, PostK.le (r := g a S) l h⟩
  | .exc _ _ _, h => h.elim
  | .bad, h => h
theorem PostI.mono3 {m : Mp} {H : Hp} {σ : St} {Q Q2 : It → Hp → Prop} {W : WX} : ∀ {r : R ItT}, PostI C W m H σ Q r → (∀ J H', Q J H' → Q2 J H') → PostI C W m H σ Q2 r
  | .ok it S, h, i => fun m' H' J l rs w => i _ _ (h m' H' J l rs w)
  | .exc _ _ _, h, _ => h
  | .bad, h, _ => h
theorem PostK.if {m : Mp} {H : Hp} {acc : List T} {Nx : List T → Mp → Hp → Sto → Prop} {b : Bool} {r : R (List T)} (h : PostK m H acc Nx (R.if b r)) : b = true ∧ PostK m H acc Nx r := by
  cases b with
  | true => exact ⟨rfl, h⟩
  | false => exact h.elim
theorem PostK.more {m : Mp} {H : Hp} {acc : List T} {y : T} {Nx : List T → Mp → Hp → Sto → Prop} : ∀ {r : R (List T)}, PostK m H acc Nx (r.bind fun ys S => .ok (y :: ys) S) → PostK m H (acc ++ [y]) Nx r
  | .ok l S, h => fun m' H' l' rs => by
    have := h m' H' l' rs
    rw [show acc ++ y :: l = acc ++ [y] ++ l from by rw [List.append_assoc]; rfl] at this
    exact this
  | .exc _ _ _, h => h
  | .bad, h => h

/-- what a loop walks, told while the list at D is set aside -/
def tFrI (t : TI) : TI := fun σ H R => ∃ D xs, H D = some (.lst xs) ∧ t σ (del H D) fun J H' => H' D = none → R J (upd H' D (.lst xs))
theorem PI.frame {X : Cx} {tg e : Expr} {t : TI} (h : PI X tg e t) : PI X tg e (tFrI t) := ⟨fun pins s σ H R I ⟨D, xs, hD, q⟩ => by
  obtain ⟨o, ⟨its, n, rv, eo⟩, J⟩ := inv_hide I hD
  refine thn (h.run _ s σ _ _ J q) fun v s1 h1 => thn h1 fun u s2 ⟨it, fp, tn, J1, H1, ev, I1, tu, t0, fr, q1⟩ => ?_
  obtain ⟨K, n1⟩ := inv_show I hD rv eo I1
  refine ⟨it, fp, tn, J1, _, ev, K, tu, t0, fun b hb => ?_, q1 n1⟩
  obtain ⟨f1, f2, f3, f4, f5, f6⟩ := fr b hb
  have hbD : b ≠ D := fun z => (f6 (D, o) (List.mem_append_right _ (List.mem_append_right _ (by simp)))) z.symm
  exact ⟨by rw [upd_ne hbD]; exact f1, f2, f3, f4, f5, fun p hp => f6 p (by
    rcases List.mem_append.mp hp with z | z
    · exact List.mem_append_left _ z
    · exact List.mem_append_right _ (List.mem_append_left _ z))⟩⟩
theorem PostC.inner {m : Mp} {H : Hp} {D : Addr} {acc : List T} {Q : VK} {h : Sto → R (List T)} : ∀ {r : R (List T)}, (∀ c fs S, r ≠ .exc c fs S) → PostC m H D acc Q (r.bind fun ys S3 => (h S3).bind fun zs S4 => .ok (ys ++ zs) S4) → PostK m H acc (fun acc' m' H' S' => PostC m' H' D acc' Q (h S')) r
  | .ok l S, _, q => fun m' H' le rs => by
    have q : PostC m H D acc Q ((h S).bind fun zs S4 => .ok (l ++ zs) S4) := q
    show PostC m' H' D (acc ++ l) Q (h S)
    cases e : h S with
    | bad => rw [e] at q; exact q.elim
    | exc a b c => rw [e] at q; exact q.elim
    | ok zs S4 =>
      rw [e] at q
      intro m2 H2 ws l2 rs2 hd r hz
      exact q m2 H2 ws (le.trans l2) rs2 hd (by rw [← List.append_assoc]; exact r) hz
  | .exc a b c, n, _ => absurd rfl (n a b c)
  | .bad, _, q => q
/-- a new tuple of a walk, the list at D aside -/
theorem yld_aside {m : Mp} {Hd : Hp} {D : Addr} {xs : List V} {t : T} {x : V} {H2 : Hp} (hd : Hd D = none) {S : Sto} (rs : RS m Hd S)
    (yy : (H2 = upd Hd D (.lst xs) ∧ Rp m Hd x t) ∨ ∃ p vs l, x = .ref p ∧ upd Hd D (.lst xs) p = none ∧ H2 = upd (upd Hd D (.lst xs)) p (.tup vs) ∧ t = .tup l ∧ RpL m Hd vs l) :
    ∃ Hd2, H2 = upd Hd2 D (.lst xs) ∧ Hd2 D = none ∧ Ext m Hd m Hd2 ∧ Rp m Hd2 x t := by
  rcases yy with ⟨e5, r5⟩ | ⟨p, ws, l5, e6, hpn, e5, e7, rl⟩
  · exact ⟨Hd, e5, hd, .refl, r5⟩
  · have pD : p ≠ D := fun z => by rw [z, upd_same] at hpn; cases hpn
    have hpd : Hd p = none := by rw [upd_ne pD] at hpn; exact hpn
    subst e6 e7
    refine ⟨upd Hd p (.tup ws), ?_, by rw [upd_ne (Ne.symm pD)]; exact hd, .alloc hpd, .newTup rs hpd rl⟩
    rw [e5]
    funext b
    unfold upd
    by_cases z1 : b = p
    · have z2 : b ≠ D := fun z => pD (by rw [← z1, z])
      rw [if_pos z1, if_neg z2, if_pos z1]
    · rw [if_neg z1]
      by_cases z2 : b = D
      · rw [if_pos z2, if_pos z2]
      · rw [if_neg z2, if_neg z2, if_neg z1]
abbrev w0 : WX := fun _ _ _ _ => False
theorem comp2_sem {f f1 : IM} {g g1 : GM} {sl sl1 vs vs1 : List Nat} {c c1 : BM} {e : EM} (hsl : ∀ i ∈ sl, i ∈ vs) (hsl1 : ∀ i ∈ sl1, i ∈ vs1) {σ : St} {H : Hp} {Q : VK} (h : trN C W (nComp2 f g c f1 g1 c1 e vs vs1) σ H Q) :
    tLc2 (trI C W f) (trG g sl) (tFrT (trB C w0 c)) (tFrI (trI C w0 f1)) (trG g1 sl1) (tFrT (trB C w0 c1)) (tFr (tr C w0 e)) vs vs1 σ H Q := by
  obtain ⟨m, ρ, S, re, rs, h⟩ := h
  refine ⟨m, ρ, S, re, rs, ?_⟩
  unfold nComp2 at h
  cases ef : f ρ S with
  | bad => rw [ef] at h; exact h
  | exc cn fs S1 => rw [ef] at h; exact h
  | ok it S1 =>
    rw [ef] at h
    have h' : PostN C W m H σ Q (R.if (decide (it.items.length ≤ 4096)) (compL2 it.chk g c f1 g1 c1 e vs1 (wipeE ρ vs) it.items S1)) := h
    obtain ⟨hb, h'⟩ := h'.if
    have hlen : it.items.length ≤ 4096 := of_decide_eq_true hb
    intro m1 H1 J l1 rs1 wk D hD
    have h0 : PostC m1 H1 D [] Q (compL2 it.chk g c f1 g1 c1 e vs1 (wipeE ρ vs) it.items S1) := by
      cases q : compL2 it.chk g c f1 g1 c1 e vs1 (wipeE ρ vs) it.items S1 with
      | bad => rw [q] at h'; exact h'
      | exc a b d => exact absurd q compL2_noexc
      | ok l S2 =>
        rw [q] at h'
        exact fun m' H' zs l' rs' hd r hz => h' m' H' D zs (l1.trans l') rs' hd r hz
    refine ⟨fun i n Hc => n = it.items.length - i ∧ i ≤ it.items.length ∧ ∃ m' Hd S' acc xs, Hc = upd Hd D (.lst xs) ∧ Hd D = none ∧ Le m1 H1 m' Hd ∧ RS m' Hd S' ∧ acc.length ≤ 4096 * i ∧ RpL m' Hd xs acc ∧ PostC m' Hd D acc Q (compL2 it.chk g c f1 g1 c1 e vs1 (wipeE ρ vs) (it.items.drop i) S'),
      ⟨it.items.length, by simp, Nat.zero_le _, m1, H1, S1, [], [], rfl, hD, .refl, rs1, Nat.zero_le _, .nil, by rw [List.drop_zero]; exact h0⟩, ?_⟩
    rintro i n Hc ⟨rfl, hi', m', Hd, S', acc, xs, rfl, hd, l', rs', ha, rx, hp⟩
    have up : ∀ a u, Hd a = some u → upd Hd D (.lst xs) a = some u := fun a u q => by rw [upd_ne (ne_of_none q hd)]; exact q
    by_cases hlt : i < it.items.length
    · right
      rw [List.drop_eq_getElem_cons hlt] at hp
      unfold compL2 at hp
      obtain ⟨hck, hp⟩ := hp.if
      obtain ⟨go, yl⟩ := wk.go l' rs' hck up (tup_dn hd) hlt
      refine ⟨go, fun H2 => ∃ m2 Hd2 S2 acc2 xs2, H2 = upd Hd2 D (.lst xs2) ∧ Hd2 D = none ∧ Le m1 H1 m2 Hd2 ∧ RS m2 Hd2 S2 ∧ acc2.length ≤ 4096 * (i + 1) ∧ RpL m2 Hd2 xs2 acc2 ∧ PostC m2 Hd2 D acc2 Q (compL2 it.chk g c f1 g1 c1 e vs1 (wipeE ρ vs) (it.items.drop (i + 1)) S2),
        fun H2 z => ⟨it.items.length - (i + 1), by omega, rfl, hlt, z⟩, fun x H2 y => ?_⟩
      obtain ⟨t, e1, yy⟩ := yl x H2 y
      have et : it.items[i] = t := by simpa [hlt] using e1
      rw [et] at hp
      obtain ⟨Hd2, eH2, hd2, ex, rxt⟩ := yld_aside hd rs' yy
      subst eH2
      have up2 : ∀ a u, Hd2 a = some u → upd Hd2 D (.lst xs) a = some u := fun a u q => by rw [upd_ne (ne_of_none q hd2)]; exact q
      refine ⟨m', Hd2, wipeE ρ vs, t, up2, wipe_re (((re.le l1).le l').le ex.1) vs, rxt, ?_⟩
      cases eg : g t (wipeE ρ vs) with
      | none => simp only [eg] at hp; exact hp.elim
      | some ρ1 =>
        simp only [eg] at hp ⊢
        intro σ2 re2 ou
        refine ⟨wipe_outs ou hsl, D, xs, upd_same, ?_⟩
        rw [del_upd hd2]
        refine ⟨m', ρ1, S', re2, ex.2 _ rs', (Post.calmC (hp.le ex.1)).mono fun b H3 ⟨m3, b', S3, l3, rs3, eb, q3⟩ hd3 => ?_⟩
        subst eb
        have rx3 := (rx.le ex.1).le l3
        have l13 : Le m1 H1 m3 H3 := (l'.trans ex.1).trans l3
        cases b with
        | false =>
          rw [if_neg Bool.false_ne_true]
          exact ⟨m3, H3, S3, acc, xs, rfl, hd3, l13, rs3, by omega, rx3, q3⟩
        | true =>
          rw [if_pos rfl]
          refine ⟨D, xs, upd_same, ?_⟩
          rw [del_upd hd3]
          have re3 := re2.le l3
          refine ⟨m3, ρ1, S3, re3, rs3, ?_⟩
          have q3' := Post.calmI (C := C) (σ := σ2) q3
          refine PostI.mono3 q3' fun J1 H4 ⟨m4, it1, S4, l4, rs4, wk1, q4⟩ hd4 => ?_
          have q5 : ∃ _ : it1.items.length ≤ 4096, PostC m4 H4 D acc Q ((compL it1.chk g1 c1 e (wipeE ρ1 vs1) it1.items S4).bind fun ys S3 => (compL2 it.chk g c f1 g1 c1 e vs1 (wipeE ρ vs) (it.items.drop (i + 1)) S3).bind fun zs S4 => .ok (ys ++ zs) S4) := by
            by_cases hl : it1.items.length ≤ 4096
            · refine ⟨hl, ?_⟩
              rw [show decide (it1.items.length ≤ 4096) = true from decide_eq_true hl] at q4
              exact q4
            · rw [show decide (it1.items.length ≤ 4096) = false from decide_eq_false hl] at q4
              exact q4.elim
          obtain ⟨hl1, q5⟩ := q5
          have q6 := PostC.inner (fun c fs S z => absurd z compL_noexc) q5
          have rx4 := rx3.le l4
          have re4 := re3.le l4
          refine ⟨fun j k Hc => k = it1.items.length - j ∧ j ≤ it1.items.length ∧ ∃ m' Hd S' acc xs, Hc = upd Hd D (.lst xs) ∧ Hd D = none ∧ Le m4 H4 m' Hd ∧ RS m' Hd S' ∧ acc.length ≤ 4096 * i + j ∧ RpL m' Hd xs acc ∧ PostK m' Hd acc (fun acc' m' H' S' => PostC m' H' D acc' Q (compL2 it.chk g c f1 g1 c1 e vs1 (wipeE ρ vs) (it.items.drop (i + 1)) S')) (compL it1.chk g1 c1 e (wipeE ρ1 vs1) (it1.items.drop j) S'),
            ⟨it1.items.length, by simp, Nat.zero_le _, m4, H4, S4, acc, xs, rfl, hd4, .refl, rs4, by omega, rx4, by rw [List.drop_zero]; exact q6⟩, ?_⟩
          rintro j k Hc2 ⟨rfl, hj', m5, H5, S5, acc5, xs5, rfl, hd5, l5, rs5, ha5, rx5, hp5⟩
          have up5 : ∀ a u, H5 a = some u → upd H5 D (.lst xs5) a = some u := fun a u q => by rw [upd_ne (ne_of_none q hd5)]; exact q
          by_cases hlt5 : j < it1.items.length
          · right
            rw [List.drop_eq_getElem_cons hlt5] at hp5
            unfold compL at hp5
            obtain ⟨hck5, hp5⟩ := hp5.if
            obtain ⟨go5, yl5⟩ := wk1.go l5 rs5 hck5 up5 (tup_dn hd5) hlt5
            have hxl : xs5.length < sizeLine := by rw [rx5.length, sizeLine_eq]; omega
            refine ⟨go5, fun H2 => ∃ m' Hd S' acc xs, H2 = upd Hd D (.lst xs) ∧ Hd D = none ∧ Le m4 H4 m' Hd ∧ RS m' Hd S' ∧ acc.length ≤ 4096 * i + (j + 1) ∧ RpL m' Hd xs acc ∧ PostK m' Hd acc (fun acc' m' H' S' => PostC m' H' D acc' Q (compL2 it.chk g c f1 g1 c1 e vs1 (wipeE ρ vs) (it.items.drop (i + 1)) S')) (compL it1.chk g1 c1 e (wipeE ρ1 vs1) (it1.items.drop (j + 1)) S'),
              fun H2 z => ⟨it1.items.length - (j + 1), by omega, rfl, hlt5, z⟩, fun x H6 y => ?_⟩
            obtain ⟨t6, e6, yy6⟩ := yl5 x H6 y
            have et6 : it1.items[j] = t6 := by simpa [hlt5] using e6
            rw [et6] at hp5
            obtain ⟨Hd6, eH6, hd6, ex6, rxt6⟩ := yld_aside hd5 rs5 yy6
            subst eH6
            have up6 : ∀ a u, Hd6 a = some u → upd Hd6 D (.lst xs5) a = some u := fun a u q => by rw [upd_ne (ne_of_none q hd6)]; exact q
            refine ⟨m5, Hd6, wipeE ρ1 vs1, t6, up6, wipe_re ((re4.le l5).le ex6.1) vs1, rxt6, ?_⟩
            cases eg6 : g1 t6 (wipeE ρ1 vs1) with
            | none => simp only [eg6] at hp5; exact hp5.elim
            | some ρ6 =>
              simp only [eg6] at hp5 ⊢
              intro σ7 re7 ou7
              refine ⟨wipe_outs ou7 hsl1, D, xs5, upd_same, ?_⟩
              rw [del_upd hd6]
              refine ⟨m5, ρ6, S5, re7, ex6.2 _ rs5, (Post.calmK (hp5.le ex6.1)).mono fun b H8 ⟨m8, b', S8, l8, rs8, eb, q8⟩ hd8 => ?_⟩
              subst eb
              have rx8 := (rx5.le ex6.1).le l8
              cases b with
              | false =>
                rw [if_neg Bool.false_ne_true]
                exact ⟨m8, H8, S8, acc5, xs5, rfl, hd8, (l5.trans ex6.1).trans l8, rs8, by omega, rx8, q8⟩
              | true =>
                rw [if_pos rfl]
                refine ⟨D, xs5, upd_same, ?_⟩
                rw [del_upd hd8]
                refine ⟨m8, ρ6, S8, re7.le l8, rs8, (Post.calmK q8).mono fun y H9 ⟨m9, yt, S9, l9, rs9, ry, q9⟩ hd9 => ?_⟩
                refine ⟨xs5, upd_same, hxl, ?_⟩
                rw [upd_upd]
                exact ⟨m9, H9, S9, acc5 ++ [yt], xs5 ++ [y], rfl, hd9, ((l5.trans ex6.1).trans l8).trans l9, rs9, by rw [List.length_append]; show acc5.length + 1 ≤ _; omega, (rx8.le l9).append (.cons ry .nil), q9.more⟩
          · left
            have e1 : j = it1.items.length := by omega
            subst e1
            rw [List.drop_length] at hp5
            unfold compL at hp5
            obtain ⟨hck5, hp5⟩ := hp5.if
            refine ⟨wk1.stop l5 rs5 hck5 up5, m5, H5, S5, acc5, xs5, rfl, hd5, (l13.trans l4).trans l5, rs5, by omega, rx5, ?_⟩
            have := hp5 m5 H5 .refl rs5
            rw [List.append_nil] at this
            exact this
    · left
      have e1 : i = it.items.length := by omega
      subst e1
      rw [List.drop_length] at hp
      unfold compL2 at hp
      obtain ⟨hck, hp⟩ := hp.if
      refine ⟨wk.stop l' rs' hck up, hp m' Hd xs .refl rs' hd (by rw [List.append_nil]; exact rx) ?_⟩
      rw [rx.length, sizeLine_eq]
      omega
theorem dn_comp2 {elt tg iter tg1 iter1 : Expr} {ifs ifs1 : List Expr} {scope : Scope} {own : List (Str × Nat)} {f f1 : IM} {g g1 : GM} {sl sl1 vs1 : List Nat} {c c1 : BM} {e : EM} {pos : Pos} (ok2 : BlkOk Γ.N Γ.sc scope own) (hi : DI C k Γ tg iter f) (hg : DG C k (blkX Γ scope) tg g sl)
    (hsl : ∀ i ∈ sl, i ∈ own.map (·.2)) (hc : DTs C k (blkX Γ scope) ifs c) (hi1 : DI C k (blkX Γ scope) tg1 iter1 f1) (hg1 : DG C k (blkX Γ scope) tg1 g1 sl1) (hsl1 : ∀ i ∈ sl1, i ∈ vs1) (hv : ∀ i ∈ vs1, i ∈ own.map (·.2)) (hc1 : DTs C k (blkX Γ scope) ifs1 c1)
    (he : DE C k (blkX Γ scope) elt e) (hs : noSet iter = true) (hs1 : noSet iter1 = true) : DN C k Γ (.ListComp elt [⟨tg, iter, ifs, 0⟩, ⟨tg1, iter1, ifs1, 0⟩] scope pos) (nComp2 f g c f1 g1 c1 e (own.map (·.2)) vs1) := fun X W ok tk => by
  refine PE.weak (pe_lc2 ok.calm (by rw [ok.N]; exact ok.nd) (hi X W ok tk) (by rw [ok.N, ok.sc]; exact ok2) hv (fun s H Ca cl fp => hg _ (ok.blk s H scope cl Ca fp)) (fun s H Ca cl fp => hc _ _ (ok.blk s H scope cl Ca fp) takesNo) (fun s H Ca cl fp => PI.frame (hi1 _ _ (ok.blk s H scope cl Ca fp) takesNo))
    (fun s H Ca cl fp => hg1 _ (ok.blk s H scope cl Ca fp)) (fun s H Ca cl fp => hc1 _ _ (ok.blk s H scope cl Ca fp) takesNo) (fun s H Ca cl fp => PE.frame (he _ _ (ok.blk s H scope cl Ca fp) takesNo)) (folded_no hs) (fun env => folded_no hs1)) fun σ H Q h => ?_
  exact comp2_sem hsl hsl1 h
end
end Mi
end

section
set_option Elab.async false
set_option linter.all false
set_option maxRecDepth 100000
set_option maxHeartbeats 2000000
/-! Mc1: name = [..]; the stores of a, b = .. -/
namespace Mi
open PySem PySem.Spec L2
section
variable {C : PC} {W : WX} {k : Nat} {Γ : Sx}
theorem sw_cell {e : Expr} {y : Str} {py : Pos} {l : Nat} {env : PySem.Env} (h : env.scope.names.lookup y ≠ some .local) : swapsWith e (some (.Name y py)) l env = pure false := by
  have hk : (env.kindOf y == some .local) = false := by
    cases e : env.kindOf y with
    | none => rfl
    | some q => cases q <;> first | rfl | exact absurd e h
  unfold swapsWith
  cases e <;> first | rfl | (simp [hk])
theorem ds_setC {i : Nat} {x : Str} {e : Expr} {f : EM} {pos pos' : Pos} (hi : Γ.N[i]? = some x) (hx : Sto1 Γ x) (h : DE C k Γ e f) (hc : Γ.sc.names.lookup x ≠ some .local) : DS C k Γ (.Assign [.Name x pos'] e pos) (sSet i f) := fun X W ok tk =>
  PS.weak (ps_set (by rw [ok.N]; exact ok.nd) (ok.name hi) (ok.loc hx.1) (h X W ok tk) (sw_cell (by rw [ok.sc]; exact hc)) (ok.fnOr hx)) fun D σ H ⟨m, ρ, S, re, rs, q⟩ => ⟨m, ρ, S, re, rs, (PostS.then re q).mono fun u H1 ⟨m1, x, S1, l1, rs1, r1, q1⟩ => q1 m1 H1 _ .refl rs1 ((re.le l1).set r1 i)⟩
theorem setN_frz {i : Nat} {L : LM} {D : Ends} {σ : St} {H : Hp} (h : trS C W (sSet i (eFrz L)) D σ H) : trN C W L σ H (fun v H1 => D.nx (σ.set i (some v)) H1) := by
  obtain ⟨m, ρ, S, re, rs, q⟩ := h
  refine ⟨m, ρ, S, re, rs, ?_⟩
  have q : PostS C W m H D (((L ρ S).bind fun l S1 => .ok (.lst l) S1).then ρ fun t S1 => .go (.nx (ρ.set i (some t))) S1) := q
  cases e : L ρ S with
  | bad => rw [e] at q; exact q
  | exc c fs S1 => rw [e] at q; exact fun m' H' d l1 rs1 ea => q m' H' σ d l1 rs1 (re.le l1) ea
  | ok l S1 =>
    rw [e] at q
    intro m' H' p xs l1 rs1 hp r _
    exact q m' _ _ (l1.trans (.alloc hp)) ((Ext.alloc hp).2 _ rs1) (((re.le l1).le (.alloc hp)).set (.newLst rs1 hp r) i)
theorem setN_obj {i : Nat} {L : LM} {D : Ends} {σ : St} {H : Hp} (h : trS C W (sSet i (eObj L)) D σ H) : trN C W L σ H (fun v H1 => D.nx (σ.set i (some v)) H1) := by
  obtain ⟨m, ρ, S, re, rs, q⟩ := h
  refine ⟨m, ρ, S, re, rs, ?_⟩
  have q : PostS C W m H D (((L ρ S).bind fun l S1 => R.if (T.pures l) (.ok (.obj S1.length) (S1 ++ [.lst l]))).then ρ fun t S1 => .go (.nx (ρ.set i (some t))) S1) := q
  cases e : L ρ S with
  | bad => rw [e] at q; exact q
  | exc c fs S1 => rw [e] at q; exact fun m' H' d l1 rs1 ea => q m' H' σ d l1 rs1 (re.le l1) ea
  | ok l S1 =>
    rw [e] at q
    intro m' H' p xs l1 rs1 hp r _
    have q : PostS C W m H D ((R.if (T.pures l) (R.ok (T.obj S1.length) (S1 ++ [.lst l]))).then ρ fun t S1 => .go (.nx (ρ.set i (some t))) S1) := q
    cases hu : T.pures l with
    | false => rw [hu] at q; exact q.elim
    | true =>
      rw [hu] at q
      obtain ⟨a, b, c⟩ := reg_new rs1 hp r hu
      exact q _ _ _ (l1.trans a) b (((re.le l1).le a).set c i)
/-- how a list is kept: as a tree, or as an obj -/
def eKeep (o : Bool) (L : LM) : EM := match o with
  | true => eObj L
  | false => eFrz L
theorem setN_keep {o : Bool} {i : Nat} {L : LM} {D : Ends} {σ : St} {H : Hp} (h : trS C W (sSet i (eKeep o L)) D σ H) : trN C W L σ H (fun v H1 => D.nx (σ.set i (some v)) H1) := by
  cases o with
  | true => exact setN_obj h
  | false => exact setN_frz h
theorem DN.keep {e : Expr} {L : LM} (o : Bool) (h : DN C k Γ e L) : DE C k Γ e (eKeep o L) := by
  cases o with
  | true => exact h.obj
  | false => exact h.frz
theorem swl {X : Cx} (ok : XOk C k Γ X) {elt : Expr} {gs : List Comprehension} {scope : Scope} {pos py : Pos} {y : Str} {l : Nat} (hk : Γ.sc.kind = .function) (hy : Γ.sc.names.lookup y = some .local) (hl : (py.line == pos.line) = true)
    (ha : (scope.names.any fun (n, k) => n == y && (k == .local || k == .cell)) = false) : swapsWith (.ListComp elt gs scope pos) (some (.Name y py)) l X.env = pure true := sw_true (by rw [ok.sc]; exact hk) (by rw [ok.sc]; exact hy) hl ha
theorem ds_setLc {o : Bool} {i : Nat} {y : Str} {py : Pos} {elt tg iter : Expr} {ifs : List Expr} {scope : Scope} {own : List (Str × Nat)} {f : IM} {g : GM} {sl : List Nat} {c : BM} {e : EM} {pos spos : Pos} (hy : Γ.N[i]? = some y) (hyl : Γ.sc.names.lookup y = some .local) (hk : Γ.sc.kind = .function) (hl : (py.line == pos.line) = true)
    (ha : (scope.names.any fun (n, k) => n == y && (k == .local || k == .cell)) = false) (ok2 : BlkOk Γ.N Γ.sc scope own) (hi : DI C k Γ tg iter f) (hg : DG C k (blkX Γ scope) tg g sl)
    (hsl : ∀ i ∈ sl, i ∈ own.map (·.2)) (hc : DTs C k (blkX Γ scope) ifs c) (he : DE C k (blkX Γ scope) elt e) (hs : noSet iter = true) : DS C k Γ (.Assign [.Name y py] (.ListComp elt [⟨tg, iter, ifs, 0⟩] scope pos) spos) (sSet i (eKeep o (nComp f g c e (own.map (·.2))))) := fun X W ok tk => by
  refine PS.weak (ps_setLc ok.calm (by rw [ok.N]; exact ok.nd) (ok.name hy) (by rw [ok.sc]; exact hyl) (swl ok hk hyl hl ha) (hi X W ok tk) (by rw [ok.N, ok.sc]; exact ok2) (fun s H Ca cl fp => hg _ (ok.blk s H scope cl Ca fp)) (fun s H Ca cl fp => hc _ _ (ok.blk s H scope cl Ca fp) takesNo)
    (fun s H Ca cl fp => PE.frame (he _ _ (ok.blk s H scope cl Ca fp) takesNo)) (folded_no hs)) fun D σ H h => ?_
  exact comp_sem hsl (setN_keep h)
theorem ds_setLc2 {o : Bool} {i : Nat} {y : Str} {py : Pos} {elt tg iter tg1 iter1 : Expr} {ifs ifs1 : List Expr} {scope : Scope} {own : List (Str × Nat)} {f f1 : IM} {g g1 : GM} {sl sl1 vs1 : List Nat} {c c1 : BM} {e : EM} {pos spos : Pos} (hy : Γ.N[i]? = some y) (hyl : Γ.sc.names.lookup y = some .local) (hk : Γ.sc.kind = .function) (hl : (py.line == pos.line) = true)
    (ha : (scope.names.any fun (n, k) => n == y && (k == .local || k == .cell)) = false) (ok2 : BlkOk Γ.N Γ.sc scope own) (hi : DI C k Γ tg iter f) (hg : DG C k (blkX Γ scope) tg g sl)
    (hsl : ∀ i ∈ sl, i ∈ own.map (·.2)) (hc : DTs C k (blkX Γ scope) ifs c) (hi1 : DI C k (blkX Γ scope) tg1 iter1 f1) (hg1 : DG C k (blkX Γ scope) tg1 g1 sl1) (hsl1 : ∀ i ∈ sl1, i ∈ vs1) (hv : ∀ i ∈ vs1, i ∈ own.map (·.2)) (hc1 : DTs C k (blkX Γ scope) ifs1 c1)
    (he : DE C k (blkX Γ scope) elt e) (hs : noSet iter = true) (hs1 : noSet iter1 = true) : DS C k Γ (.Assign [.Name y py] (.ListComp elt [⟨tg, iter, ifs, 0⟩, ⟨tg1, iter1, ifs1, 0⟩] scope pos) spos) (sSet i (eKeep o (nComp2 f g c f1 g1 c1 e (own.map (·.2)) vs1))) := fun X W ok tk => by
  refine PS.weak (ps_setLc2 ok.calm (by rw [ok.N]; exact ok.nd) (ok.name hy) (by rw [ok.sc]; exact hyl) (swl ok hk hyl hl ha) (hi X W ok tk) (by rw [ok.N, ok.sc]; exact ok2) hv (fun s H Ca cl fp => hg _ (ok.blk s H scope cl Ca fp)) (fun s H Ca cl fp => hc _ _ (ok.blk s H scope cl Ca fp) takesNo) (fun s H Ca cl fp => PI.frame (hi1 _ _ (ok.blk s H scope cl Ca fp) takesNo))
    (fun s H Ca cl fp => hg1 _ (ok.blk s H scope cl Ca fp)) (fun s H Ca cl fp => hc1 _ _ (ok.blk s H scope cl Ca fp) takesNo) (fun s H Ca cl fp => PE.frame (he _ _ (ok.blk s H scope cl Ca fp) takesNo)) (folded_no hs) (fun env => folded_no hs1)) fun D σ H h => ?_
  exact comp2_sem hsl hsl1 (setN_keep h)
/-! ### whether a, b = .. swaps its stores -/
def swNames (names : List (Str × NameKind)) (line : Nat) (ts : List Expr) : List Str := ts.filterMap fun
  | .Name id pos => if names.lookup id == some .local && pos.line == line then some id else none
  | _ => none
def swB (kf : Bool) (names : List (Str × NameKind)) (ts vs : List Expr) : Option (Option (List Str)) :=
  if (!(ts.length == 2 || ts.length == 3) || vs.length != ts.length || !kf) = true then some none
  else if (vs.any fun | .Starred .. => true | _ => false) = true then some none
  else if ((swNames names ((ts.head?.map (·.pos.line)).getD 0) ts).length != ts.length || (swNames names ((ts.head?.map (·.pos.line)).getD 0) ts).eraseDups.length != (swNames names ((ts.head?.map (·.pos.line)).getD 0) ts).length) = true then some none
  else if vs.all (foldedForSure 8) = true then some none
  else if vs.all (constantsAlone 8) = true then none
  else some (some (swNames names ((ts.head?.map (·.pos.line)).getD 0) ts))
/-- none: not told; some none: the stores go in order; some l: swapped -/
def swOf (kf : Bool) (names : List (Str × NameKind)) (targets : List Expr) (value : Expr) : Option (Option (List Str)) := match targets, value with
  | [.Tuple ts _ _], .Tuple vs _ _ => swB kf names ts vs
  | [.List _ _], .Tuple _ _ _ => none
  | _, _ => some none
theorem swB_ok {ts vs : List Expr} {env : PySem.Env} {kf : Bool} {r : Option (List Str)} {a b c d} (hk : (env.blockKind == .function) = kf) (h : swB kf env.scope.names ts vs = some r) : swappedStores [.Tuple ts a b] (.Tuple vs c d) env = pure r := by
  have hk2 : (env.blockKind != .function) = !kf := by rw [← hk]; rfl
  show (if (!(ts.length == 2 || ts.length == 3) || vs.length != ts.length || env.blockKind != .function) = true then pure none
    else if (vs.any fun | .Starred .. => true | _ => false) = true then pure none
    else if ((swNames env.scope.names ((ts.head?.map (·.pos.line)).getD 0) ts).length != ts.length || (swNames env.scope.names ((ts.head?.map (·.pos.line)).getD 0) ts).eraseDups.length != (swNames env.scope.names ((ts.head?.map (·.pos.line)).getD 0) ts).length) = true then pure none
    else if vs.all (foldedForSure 8) = true then pure none
    else if vs.all (constantsAlone 8) = true then (do unsupported "assign.tuple-of-constant-expressions:order-of-the-stores"; pure (some (swNames env.scope.names ((ts.head?.map (·.pos.line)).getD 0) ts)))
    else pure (some (swNames env.scope.names ((ts.head?.map (·.pos.line)).getD 0) ts)) : Sem (Option (List Str))) = pure r
  rw [hk2]
  unfold swB at h
  split at h
  · rename_i c1; rw [if_pos c1]; cases h; rfl
  · rename_i c1
    rw [if_neg c1]
    split at h
    · rename_i c2; rw [if_pos c2]; cases h; rfl
    · rename_i c2
      rw [if_neg c2]
      split at h
      · rename_i c3; rw [if_pos c3]; cases h; rfl
      · rename_i c3
        rw [if_neg c3]
        split at h
        · rename_i c4; rw [if_pos c4]; cases h; rfl
        · rename_i c4
          rw [if_neg c4]
          split at h
          · cases h
          · rename_i c5; rw [if_neg c5]; cases h; rfl
theorem sw_of {targets : List Expr} {value : Expr} {env : PySem.Env} {kf : Bool} {r : Option (List Str)} (hk : (env.blockKind == .function) = kf) (h : swOf kf env.scope.names targets value = some r) : swappedStores targets value env = pure r := by
  cases targets with
  | nil => cases value <;> (cases h; rfl)
  | cons t l =>
    cases l with
    | cons t2 l2 => cases t <;> cases value <;> (cases h; rfl)
    | nil =>
      cases t with
      | Tuple ts a b =>
        cases value with
        | Tuple vs c d => exact swB_ok hk h
        | _ => cases h; rfl
      | List ts a =>
        cases value with
        | Tuple vs c d => cases h
        | _ => cases h; rfl
      | _ => cases value <;> (cases h; rfl)
theorem blockKind_fn {env : PySem.Env} (h : env.scope.kind = .function) : (env.blockKind == .function) = true := by
  have hb : env.blockKind = .function := by unfold Env.blockKind; rw [h]; rfl
  rw [hb]; rfl
end
end Mi
end

section
set_option Elab.async false
set_option linter.all false
set_option maxRecDepth 100000
set_option maxHeartbeats 2000000
/-! Mo0: in, not in; < of tuples of ints -/
namespace Mi
open PySem PySem.Spec L2
/-- x in a tuple of data -/
def rInTD (K : PySem.W.Frag) (g : Bool → Bool) : R2 := fun x y H Q => ∃ d ds, Dp K H x d ∧ Dp K H y (.tuple ds) ∧ SeqAt.shaped d = true ∧ SeqAt.shaped (.tuple ds) = true ∧ Q (.bl (g (ds.any fun z => PyData.eqv z d))) H
theorem room_inT {d : PyData} {n : Nat} (sd : SeqAt.shaped d = true) {u : Nat} (hu : u + 65 < cLine) : u + 1 + min n d.depth < cLine := by
  unfold SeqAt.shaped at sd
  simp only [Bool.and_eq_true, decide_eq_true_eq] at sd
  omega
theorem op_inTD {X : Cx} (hu : X.A.units + 65 < cLine) : OpR X (compareOp .In) (rInTD X.K id) := by
  intro pins s σ H x y v u Q I rx ry h
  obtain ⟨d, ds, hd, he, sd, se, q⟩ := h
  obtain ⟨as, r1⟩ := Dp.reads I d x v hd rx
  obtain ⟨bs, r2⟩ := Dp.reads I (.tuple ds) y u he ry
  exact SeqAt.in_tuple_reads r2 r1 (SeqAt.canLay_of_shaped se) (SeqAt.canLay_of_shaped sd) (room_inT sd hu) ⟨.bl _, H, I, rfl, q⟩
theorem op_notInTD {X : Cx} (hu : X.A.units + 65 < cLine) : OpR X (compareOp .NotIn) (rInTD X.K not) := by
  intro pins s σ H x y v u Q I rx ry h
  obtain ⟨d, ds, hd, he, sd, se, q⟩ := h
  obtain ⟨as, r1⟩ := Dp.reads I d x v hd rx
  obtain ⟨bs, r2⟩ := Dp.reads I (.tuple ds) y u he ry
  exact SeqAt.notIn_tuple_reads r2 r1 (SeqAt.canLay_of_shaped se) (SeqAt.canLay_of_shaped sd) (room_inT sd hu) ⟨.bl _, H, I, rfl, q⟩
/-- < of tuples of ints -/
def rLtT (K : PySem.W.Frag) : R2 := fun x y H Q => ∃ (a b : Addr) (ns ms : List Int), x = .ref a ∧ y = .ref b ∧ SqT K H a (ns.map V.int) ∧ SqT K H b (ms.map V.int) ∧
  Q (.bl (Ob.lexAt (fun j => decide (ns.getD j 0 = ms.getD j 0)) (fun j => decide (ns.getD j 0 < ms.getD j 0)) (decide (ns.length < ms.length)) 0 (min ns.length ms.length))) H
theorem op_ltT {X : Cx} (hu : X.A.units < cLine) : OpR X (compareOp .Lt) (rLtT X.K) := by
  intro pins s σ H x y v u Q I rx ry h
  obtain ⟨a, b, ns, ms, rfl, rfl, ha, hb, q⟩ := h
  cases rx
  cases ry
  obtain ⟨its, r1, p1, _⟩ := I.tuple ha
  obtain ⟨its2, r2, p2, _⟩ := I.tuple hb
  have i1 : PyProof.Rows.IntsAre its ns := Vals.ints r1
  have i2 : PyProof.Rows.IntsAre its2 ms := Vals.ints r2
  have e1 : its.toArray.size = ns.length := by rw [List.size_toArray]; exact i1.length
  have e2 : its2.toArray.size = ms.length := by rw [List.size_toArray]; exact i2.length
  have at1 : ∀ j (h1 : j < its.toArray.size), ∃ t, its.toArray[j] = .int (ns.getD j 0) t := fun j h1 => PyProof.Rows.IntsAre.int_at i1 _ _ (by simp at h1; simp [h1])
  have at2 : ∀ j (h1 : j < its2.toArray.size), ∃ t, its2.toArray[j] = .int (ms.getD j 0) t := fun j h1 => PyProof.Rows.IntsAre.int_at i2 _ _ (by simp at h1; simp [h1])
  have RR := Ob.RcOp.tuples_lt (A := X.A) (s := s) (e := fun j => decide (ns.getD j 0 = ms.getD j 0)) (r := fun j => decide (ns.getD j 0 < ms.getD j 0)) p1 p2 hu (fun j h1 h2 => by
    obtain ⟨t, et⟩ := at1 j h1
    obtain ⟨t', et'⟩ := at2 j h2
    rw [et, et']
    have z : (ns.getD j 0 == ms.getD j 0) = decide (ns.getD j 0 = ms.getD j 0) := by
      by_cases q : ns.getD j 0 = ms.getD j 0
      · rw [decide_eq_true q]; exact beq_iff_eq.mpr q
      · rw [decide_eq_false q]; exact beq_eq_false_iff_ne.mpr q
    rw [← z]
    exact SeqAt.EqAt.int_int _ _ _ _) (fun j h1 h2 _ => by
    obtain ⟨t, et⟩ := at1 j h1
    obtain ⟨t', et'⟩ := at2 j h2
    rw [et, et']
    exact Ob.RcOp.lt_int _ _ _ _)
  rw [e1, e2] at RR
  exact RR X.prog X.w X.xe (EP X pins σ Q) ⟨.bl _, H, I, rfl, q⟩
section
variable {C : PC} {k : Nat} {Γ : Sx}
/-- lexicographic < -/
def lexLt : List Int → List Int → Bool
  | _, [] => false
  | [], _ :: _ => true
  | x :: xs, y :: ys => if x = y then lexLt xs ys else decide (x < y)
theorem lexAt_lt : ∀ (ns ms : List Int) (es rs : Nat → Bool) (k : Nat), (∀ j, j < min ns.length ms.length → es (k + j) = decide (ns.getD j 0 = ms.getD j 0)) → (∀ j, j < min ns.length ms.length → rs (k + j) = decide (ns.getD j 0 < ms.getD j 0)) →
    Ob.lexAt es rs (decide (ns.length < ms.length)) k (min ns.length ms.length) = lexLt ns ms
  | [], [], es, rs, k, _, _ => rfl
  | _ :: _, [], es, rs, k, _, _ => by simp [lexLt, Ob.lexAt]
  | [], y :: ys, es, rs, k, _, _ => by simp [lexLt, Ob.lexAt]
  | x :: xs, y :: ys, es, rs, k, h1, h2 => by
    have hm : min (x :: xs).length (y :: ys).length = min xs.length ys.length + 1 := by simp only [List.length_cons]; omega
    rw [hm] at h1 h2 ⊢
    rw [Ob.lexAt_succ]
    have e0 := h1 0 (Nat.succ_pos _)
    have r0 := h2 0 (Nat.succ_pos _)
    simp only [Nat.add_zero, List.getD_cons_zero] at e0 r0
    rw [e0, r0]
    have hz : decide ((x :: xs).length < (y :: ys).length) = decide (xs.length < ys.length) := by simp
    rw [hz]
    have ih := lexAt_lt xs ys es rs (k + 1) (fun j hj => by have := h1 (j + 1) (Nat.succ_lt_succ hj); simpa [Nat.add_assoc, Nat.add_comm 1 j] using this) (fun j hj => by have := h2 (j + 1) (Nat.succ_lt_succ hj); simpa [Nat.add_assoc, Nat.add_comm 1 j] using this)
    rw [ih]
    show _ = if x = y then lexLt xs ys else decide (x < y)
    by_cases hxy : x = y
    · simp only [hxy, decide_true, if_true]
    · simp only [hxy, decide_false, Bool.false_eq_true, if_false]
def ltA (S : Sto) (x y : T) : R T := match x, y with
  | .int i, .int j => .ok (.bl (decide (i < j))) S
  | .tup a, .tup b => (match intsT a, intsT b with
    | some ns, some ms => .ok (.bl (lexLt ns ms)) S
    | _, _ => .bad)
  | _, _ => .bad

def rLtA (K : PySem.W.Frag) : R2 := fun x y H Q => (rI0 fun i j => .bl (decide (i < j))) x y H Q ∨ rLtT K x y H Q
theorem op_ltA {X : Cx} (hu : X.A.units < cLine) : OpR X (compareOp .Lt) (rLtA X.K) := op_lt.or (op_ltT hu)
theorem op_ltAS {K : PySem.W.Frag} : Op2S C (rLtA K) ltA := by
  intro W m H S σ u v x y Q rs r1 r2 q
  cases r1 with
  | int i =>
    cases r2 with
    | int j => exact .inl ⟨i, j, rfl, rfl, Post.now (a := T.bl (decide (i < j))) q rs (.bl _)⟩
    | _ => exact q.elim
  | @tup a xs ts h o r =>
    cases r2 with
    | @tup b ys us h' o' r' =>
      have q : Post C W Rp m H σ Q (match intsT ts, intsT us with
        | some ns, some ms => .ok (.bl (lexLt ns ms)) S
        | _, _ => .bad) := q
      cases e1 : intsT ts with
      | none => simp only [e1] at q; exact q.elim
      | some ns =>
        cases e2 : intsT us with
        | none => simp only [e1, e2] at q; exact q.elim
        | some ms =>
          simp only [e1, e2] at q
          have x1 := intsT_ok r e1
          have x2 := intsT_ok r' e2
          subst x1 x2
          refine .inr ⟨a, b, ns, ms, rfl, rfl, .of h, .of h', ?_⟩
          rw [lexAt_lt ns ms _ _ 0 (fun j _ => by simp) (fun j _ => by simp)]
          exact q.now rs (.bl _)
    | _ => exact q.elim
  | _ => exact q.elim
/-! ### in -/
theorem any_toDs {d e : Nat} {x : T} (hx : x.dat e = true) : ∀ {l : List T}, (∀ t ∈ l, t.dat d = true) → (T.toDs l).any (fun z => PyData.eqv z x.toD) = l.any (fun z => T.eqv z x)
  | [], _ => rfl
  | t :: l, h => by
    simp only [T.toDs, List.any_cons]
    rw [T.eqv_toD (h t List.mem_cons_self) hx, any_toDs hx (fun u hu => h u (List.mem_cons_of_mem _ hu))]
def inT (g : Bool → Bool) (S : Sto) (x y : T) : R T := R.if ((valT S x).dat 60 && (valT S y).dat 60) (match valT S y with
  | .tup l => .ok (.bl (g (l.any fun z => T.eqv z (valT S x)))) S
  | .lst l => .ok (.bl (g (l.any fun z => T.eqv z (valT S x)))) S
  | _ => .bad)
def rInA (K : PySem.W.Frag) : R2 := fun x y H Q => rInD K x y H Q ∨ rInTD K id x y H Q
def rNotInA (K : PySem.W.Frag) : R2 := fun x y H Q => rNotInD K x y H Q ∨ rInTD K not x y H Q
theorem op_inA {X : Cx} (hu : X.A.units + 65 < cLine) : OpR X (compareOp .In) (rInA X.K) := (op_inD hu).or (op_inTD hu)
theorem op_notInA {X : Cx} (hu : X.A.units + 65 < cLine) : OpR X (compareOp .NotIn) (rNotInA X.K) := (op_notInD hu).or (op_notInTD hu)
theorem inT_cases {W : WX} {m : Mp} {H : Hp} {S : Sto} {σ : St} {u v : V} {x y : T} {Q : VK} {g : Bool → Bool} {K : PySem.W.Frag} (rs : RS m H S) (r1 : Rp m H u x) (r2 : Rp m H v y) (q : Post C W Rp m H σ Q (inT g S x y)) :
    ∃ d, Dp K H u d ∧ SeqAt.shaped d = true ∧ ((∃ ds, Dp K H v (.list ds) ∧ SeqAt.shaped (.list ds) = true ∧ Q (.bl (g (ds.any fun z => PyData.eqv z d))) H) ∨ ∃ ds, Dp K H v (.tuple ds) ∧ SeqAt.shaped (.tuple ds) = true ∧ Q (.bl (g (ds.any fun z => PyData.eqv z d))) H) := by
  obtain ⟨hb, q⟩ := Post.if q
  simp only [Bool.and_eq_true] at hb
  refine ⟨_, val_dp rs r1 hb.1, T.shaped hb.1, ?_⟩
  have dv := val_dp (K := K) rs r2 hb.2
  have sv := T.shaped hb.2
  have hl := hb.2
  cases e : valT S y with
  | tup l =>
    simp only [e] at q
    rw [e] at dv sv hl
    refine .inr ⟨_, dv, sv, ?_⟩
    rw [any_toDs (d := 59) hb.1 (by simpa [T.dat] using hl)]
    exact q.now rs (.bl _)
  | lst l =>
    simp only [e] at q
    rw [e] at dv sv hl
    refine .inl ⟨_, dv, sv, ?_⟩
    rw [any_toDs (d := 59) hb.1 (by simpa [T.dat] using hl)]
    exact q.now rs (.bl _)
  | _ => simp only [e] at q; exact q.elim
theorem op_inS {K : PySem.W.Frag} : Op2S C (rInA K) (inT id) := by
  intro W m H S σ u v x y Q rs r1 r2 q
  obtain ⟨d, h1, h2, h | h⟩ := inT_cases (K := K) rs r1 r2 q
  · obtain ⟨ds, h3, h4, h5⟩ := h
    exact .inl ⟨d, ds, h1, h3, h2, h4, h5⟩
  · obtain ⟨ds, h3, h4, h5⟩ := h
    exact .inr ⟨d, ds, h1, h3, h2, h4, h5⟩
theorem op_notInS {K : PySem.W.Frag} : Op2S C (rNotInA K) (inT not) := by
  intro W m H S σ u v x y Q rs r1 r2 q
  obtain ⟨d, h1, h2, h | h⟩ := inT_cases (K := K) rs r1 r2 q
  · obtain ⟨ds, h3, h4, h5⟩ := h
    exact .inl ⟨d, ds, h1, h3, h2, h4, h5⟩
  · obtain ⟨ds, h3, h4, h5⟩ := h
    exact .inr ⟨d, ds, h1, h3, h2, h4, h5⟩
end
end Mi
end

section
set_option Elab.async false
set_option linter.all false
set_option maxRecDepth 100000
set_option maxHeartbeats 2000000
/-! Mr0: repr; == of anything -/
namespace Mi
open PySem PySem.Spec L2
section
variable {C : PC} {k : Nat} {Γ : Sx}
/-! ### == -/
def eqA (S : Sto) (x y : T) : R T := match x, y with
  | .str a, .str b => .ok (.bl (a == b)) S
  | x, y => eqT S x y
def neA (S : Sto) (x y : T) : R T := match x, y with
  | .str a, .str b => .ok (.bl (!(a == b))) S
  | x, y => neT S x y
def rEqA (K : PySem.W.Frag) : R2 := fun x y H Q => rEq x y H Q ∨ rEqD K x y H Q
def rNeA (K : PySem.W.Frag) : R2 := fun x y H Q => rNe x y H Q ∨ rNeD K x y H Q
theorem eqA_cases {x y : T} : (∃ a b, x = .str a ∧ y = .str b) ∨ ∀ S, eqA S x y = eqT S x y ∧ neA S x y = neT S x y := by
  cases x with
  | str a =>
    cases y with
    | str b => exact .inl ⟨a, b, rfl, rfl⟩
    | _ => exact .inr fun _ => ⟨rfl, rfl⟩
  | _ => exact .inr fun _ => ⟨rfl, rfl⟩
theorem op_eqAS {K : PySem.W.Frag} : Op2S C (rEqA K) eqA := by
  intro W m H S σ u v x y Q rs r1 r2 q
  rcases eqA_cases (x := x) (y := y) with ⟨a, b, rfl, rfl⟩ | h
  · cases r1
    cases r2
    refine .inl ⟨rfl, ?_⟩
    rw [dec_str]
    exact Post.now (a := T.bl (a == b)) q rs (.bl _)
  · rw [(h S).1] at q
    exact .inr (op_eqS rs r1 r2 q)
theorem op_neAS {K : PySem.W.Frag} : Op2S C (rNeA K) neA := by
  intro W m H S σ u v x y Q rs r1 r2 q
  rcases eqA_cases (x := x) (y := y) with ⟨a, b, rfl, rfl⟩ | h
  · cases r1
    cases r2
    refine .inl ⟨rfl, ?_⟩
    rw [dec_str]
    exact Post.now (a := T.bl (!(a == b))) q rs (.bl _)
  · rw [(h S).2] at q
    exact .inr (op_neS rs r1 r2 q)
theorem op_eqA {X : Cx} (hu : X.A.units + 64 < cLine) : OpR X (compareOp .Eq) (rEqA X.K) := op_eq.or (op_eqD hu)
theorem op_neA {X : Cx} (hu : X.A.units + 64 < cLine) : OpR X (compareOp .NotEq) (rNeA X.K) := op_ne.or (op_neD hu)

/-! ### repr -/
def showT (S : Sto) (x : T) : Str := (valT S x).toD.shown
def fRepr (S : Sto) (xs : List T) : R T := match xs with
  | [x] => R.if ((valT S x).dat 60 && ((valT S x).toD.showable && (!(valT S x).toD.hasDict && decide ((showT S x).length ≤ line)))) (.ok (.str (showT S x)) S)
  | _ => .bad
def rRepr (K : PySem.W.Frag) : List V → Hp → VK → Prop := fun xs H Q => ∃ x d, xs = [x] ∧ Dp K H x d ∧ d.showable = true ∧ d.hasDict = false ∧ d.depth ≤ 60 ∧ d.shown.length ≤ sizeLine ∧ Q (.str d.shown) H
theorem call_reprA {X : Cx} (hg : X.A.guards = some []) (hu : X.A.units + 64 < cLine) : CallR X (.builtin "repr") (rRepr X.K) := by
  intro pins s σ H xs us Q I r h
  obtain ⟨x, d, rfl, hd, hs, hn, hdp, hl, q⟩ := h
  cases r with
  | cons rx rr =>
    rename_i u us'
    cases rr
    have fin : ∀ h' (t : Tok) tk, (∀ b o, s.heap.get? b = some o → h'.get? b = some o) → EP X pins σ Q (.str d.shown t) { s with heap := h', toks := tk } := fun h' t tk k => ⟨.str d.shown, H, I.kept k, ⟨t, rfl⟩, q⟩
    have big : ∀ a, u = .ref a → wpAny (model X.prog X.w) X.A (call (.builtin "repr") [u]) (EP X pins σ Q) X.xe s := fun a e => by
      obtain ⟨as, r1⟩ := Dp.reads I d x u hd rx
      subst e
      exact repr_of_reads' r1 hs (fun z => by rw [hn] at z; cases z) hg (by omega) (fun _ _ z => z) (fun h' t tk k => fin h' t tk k) hl
    cases hd with
    | non =>
      obtain rfl : u = Value.none := rx
      exact PySem.P.repr_of_none (fin _ _ _ fun _ _ z => z)
    | bl b =>
      obtain rfl : u = Value.bool b := rx
      refine PySem.P.repr_of_bool ?_
      have := fin s.heap s.toks (s.toks + 1) fun _ _ z => z
      cases b <;> exact this
    | int i =>
      obtain ⟨t, rfl⟩ := rx
      exact PySem.P.repr_of_int (by simpa [PyData.showable] using hs) (fin _ _ _ fun _ _ z => z)
    | str x =>
      obtain ⟨t, rfl⟩ := rx
      exact PySem.P.repr_of_str (fin _ _ _ fun _ _ z => z) hl
    | lst h1 h2 => exact big _ rx
    | tup h1 h2 => exact big _ rx
theorem T.depth {d : Nat} {t : T} (h : t.dat d = true) : t.toD.depth ≤ d := (T.lay h).2
theorem call_reprS {K : PySem.W.Frag} : CallS C (rRepr K) fRepr := by
  intro W m H S σ us xs Q rs r q
  match xs, q with
  | [], q => exact q.elim
  | x :: _ :: _, q => exact q.elim
  | [x], q =>
    obtain ⟨u, rfl, r1⟩ := rpl1 r
    obtain ⟨hb, q⟩ := Post.if q
    simp only [Bool.and_eq_true, Bool.not_eq_true'] at hb
    exact ⟨u, _, rfl, val_dp rs r1 hb.1, hb.2.1, hb.2.2.1, T.depth hb.1, line_le hb.2.2.2, q.now rs (.str _)⟩
end
end Mi
end

section
set_option Elab.async false
set_option linter.all false
set_option maxRecDepth 100000
set_option maxHeartbeats 2000000
/-! Ms0: slices with a step -/
namespace Mi
open PySem PySem.Spec PySem.Calls L2 HT PyProof.Rows
/-- where a slice begins, how many places it has -/
def stLo (lo hi : Option Int) (st : Int) (n : Nat) : Int := (Builtin.Slice.sliceAdjust lo hi st n).1
def stN (lo hi : Option Int) (st : Int) (n : Nat) : Nat := Builtin.Slice.slicePlaces (Builtin.Slice.sliceAdjust lo hi st n).1 (Builtin.Slice.sliceAdjust lo hi st n).2 st
def stepL {α : Type} (l : List α) (lo hi : Option Int) (st : Int) : List α := (List.range (stN lo hi st l.length)).filterMap fun (k : Nat) => l[(stLo lo hi st l.length + (k : Int) * st).toNat]?
section
variable {prog : Program} {w : World} {A : Around} {E : Value → Shared → Prop} {s : Shared}
theorem applied_st {sl : Addr} {vl vu vs : Value} {lo hi : Option Int} {st : Int} {n : Nat} {Q : Int × Int × Nat → Shared → Prop} (hs : s.heap.IsSliceOf sl vl vu vs) (pl : IsPart vl lo) (pu : IsPart vu hi) (ps : IsPart vs (some st)) (h0 : st ≠ 0)
    (h : Q (stLo lo hi st n, st, stN lo hi st n) s) : wpAny (model prog w) A (Builtin.Slice.sliceApplied (.ref sl) (pure (n : Int))) Q E s := by
  obtain ⟨os, hos, hcs, hds⟩ := id hs
  unfold Builtin.Slice.sliceApplied Builtin.Slice.sliceFields
  refine wpAny_bind (wpAny_bind (wpAny_field hos hds (x := vl) rfl (wpAny_bind (wpAny_field hos hds (x := vu) rfl (wpAny_bind (wpAny_field hos hds (x := vs) rfl (wpAny_pure ?_)))))))
  refine wpAny_bind (slicePart_ ps ?_)
  show wpAny _ _ (if (st == 0) = true then _ else _) _ _ s
  rw [if_neg (by simpa using h0)]
  refine wpAny_bind (slicePart_ pl (wpAny_bind (slicePart_ pu (wpAny_bind (wpAny_pure ?_)))))
  exact wpAny_pure h
theorem getItem_tuple_st {t sl : Addr} {items : Array Value} {vl vu vs : Value} {lo hi : Option Int} {st : Int} {Q : Value → Shared → Prop} (ht : IsTup s.heap t items) (hs : s.heap.IsSliceOf sl vl vu vs) (pl : IsPart vl lo) (pu : IsPart vu hi) (ps : IsPart vs (some st)) (h0 : st ≠ 0)
    (hw : stLo lo hi st items.size = 0 ∧ st = 1 ∧ stN lo hi st items.size = items.size → Q (.ref t) s)
    (h : ¬ (stLo lo hi st items.size = 0 ∧ st = 1 ∧ stN lo hi st items.size = items.size) → Q (.ref s.heap.objs.size) { s with heap := s.heap.push { cls := .type "tuple", data := .seq (stepL items.toList lo hi st).toArray } })
    (hsz : (stepL items.toList lo hi st).length ≤ sizeLine) : wpAny (model prog w) A (getItem (.ref t) (.ref sl)) Q E s := by
  obtain ⟨os, hos, hcs, hds⟩ := id hs
  have hTs : s.TypeIs (.ref sl) "slice" := ⟨os, hos, hcs⟩
  unfold getItem
  try with_reducible refine wpAny_holding ?_
  first | refine wpAny_bind (wpAny_pure ?_) | skip
  refine wpAny_bind (wpAny_sequenceKey ht.typeIs (by decide) ?_)
  refine wpAny_bind (wpAny_callSpecial?_slot (name := Str.ofString "__getitem__") ht.typeIs PyProof.Rows.slot_tuple_getitem
    (wpAny_call_entry PyProof.Rows.slot_tuple_getitem ht.typeIs entry_tuple_getitem ?_ (args_tuple_getitem _ _)))
  show wpAny _ _ (Builtin.Tuple.tupleItemsOf (.ref t) >>= _) _ _ s
  refine wpAny_bind (tupleItemsOf_ ht ?_)
  refine wpAny_bind (wpAny_typeOf hTs ?_)
  rw [if_pos (by decide)]
  refine wpAny_bind (applied_st hs pl pu ps h0 ?_)
  show wpAny _ _ (if (stLo lo hi st items.size == 0 && st == 1 && stN lo hi st items.size == items.size) = true then _ else _) _ _ s
  by_cases hc : stLo lo hi st items.size = 0 ∧ st = 1 ∧ stN lo hi st items.size = items.size
  · rw [if_pos (by rw [hc.1, hc.2.2]; rw [show (st == 1) = true from by simp [hc.2.1]]; simp)]
    refine wpAny_bind ?_
    show wpAny _ _ (typeOf (.ref t) >>= fun T => pure (T == .type "tuple")) _ _ s
    refine wpAny_bind (wpAny_typeOf ht.typeIs (wpAny_pure ?_))
    first
      | rw [if_pos (by decide)]
      | simp only [beq_self_eq_true, if_true]
    first
      | exact wpAny_bind (wpAny_rule (wpAny_pure ⟨_, rfl, wpAny_pure (hw hc)⟩))
      | exact wpAny_bind (wpAny_rule (wpAny_bind (wpAny_pure (wpAny_pure ⟨_, rfl, wpAny_pure (hw hc)⟩))))
  · have h := h hc
    have hno : ¬ ((stLo lo hi st items.size == 0 && st == 1 && stN lo hi st items.size == items.size) = true) := by
      intro q
      rw [Bool.and_eq_true, Bool.and_eq_true] at q
      exact hc ⟨eq_of_beq q.1.1, eq_of_beq q.1.2, eq_of_beq q.2⟩
    rw [if_neg hno]
    have e : ((List.range (stN lo hi st items.size)).filterMap fun (k : Nat) => items[(stLo lo hi st items.size + (k : Int) * st).toNat]?) = stepL items.toList lo hi st := by
      unfold stepL
      simp
    rw [e]
    have htake : sizeOk (.seq (stepL items.toList lo hi st).toArray) := by
      show (stepL items.toList lo hi st).toArray.size ≤ sizeLine
      rw [List.size_toArray]; exact hsz
    first
      | exact wpAny_bind (m := Builtin.Tuple.tupleExact _) (wpAny_newObj_type (wpAny_pure ⟨_, rfl, wpAny_pure h⟩) htake)
      | exact wpAny_bind (m := Builtin.Tuple.tupleExact _) (wpAny_newObj_type (wpAny_bind (wpAny_pure (wpAny_pure ⟨_, rfl, wpAny_pure h⟩))) htake)
      | exact wpAny_bind (wpAny_bind (m := Builtin.Tuple.tupleExact _) (wpAny_newObj_type (wpAny_pure (wpAny_pure ⟨_, rfl, wpAny_pure h⟩)) htake))
      | exact wpAny_bind (wpAny_bind (m := Builtin.Tuple.tupleExact _) (wpAny_newObj_type (wpAny_pure ⟨_, rfl, wpAny_pure h⟩) htake))
end
theorem range_all {α : Type} (l : List α) : (List.range l.length).filterMap (fun k => l[k]?) = l := by
  have h : ∀ (l : List α) (n : Nat) (f : Nat → Option α), (∀ k, k < l.length → f (n + k) = l[k]?) → (List.range' n l.length).filterMap f = l := by
    intro l
    induction l with
    | nil => intro n f _; rfl
    | cons a l ih =>
      intro n f hf
      rw [List.length_cons, List.range'_succ, List.filterMap_cons]
      have e0 := hf 0 (Nat.succ_pos _)
      rw [Nat.add_zero] at e0
      rw [e0]
      show a :: (List.range' (n + 1) l.length).filterMap f = a :: l
      rw [ih (n + 1) f fun k hk => by have := hf (k + 1) (Nat.succ_lt_succ hk); rw [show n + (k + 1) = n + 1 + k by omega] at this; simpa using this]
  rw [List.range_eq_range']
  exact h l 0 _ fun k _ => by rw [Nat.zero_add]
theorem stepL_whole {α : Type} {l : List α} {lo hi : Option Int} {st : Int} (h : stLo lo hi st l.length = 0 ∧ st = 1 ∧ stN lo hi st l.length = l.length) : stepL l lo hi st = l := by
  unfold stepL
  rw [h.1, h.2.1, ← h.2.1, h.2.2, h.2.1]
  have e : (fun (k : Nat) => l[((0 : Int) + (k : Int) * 1).toNat]?) = fun k => l[k]? := by
    funext k
    rw [show ((0 : Int) + (k : Int) * 1).toNat = k by omega]
  rw [e]
  exact range_all l
theorem stepL_map {α β : Type} (f : α → β) (l : List α) (lo hi : Option Int) (st : Int) : stepL (l.map f) lo hi st = (stepL l lo hi st).map f := by
  unfold stepL
  rw [List.length_map, List.map_filterMap]
  congr 1
  funext k
  rw [List.getElem?_map]
/-- the parts of related lists -/
theorem RpL.pick {m : Mp} {H : Hp} {xs : List V} {ts : List T} (r : RpL m H xs ts) (f : Nat → Nat) : ∀ ks : List Nat, RpL m H (ks.filterMap fun k => xs[f k]?) (ks.filterMap fun k => ts[f k]?)
  | [] => .nil
  | k :: ks => by
    rw [List.filterMap_cons, List.filterMap_cons]
    cases e : ts[f k]? with
    | none =>
      have : xs[f k]? = none := by
        rw [List.getElem?_eq_none_iff] at e ⊢
        rw [r.length]; exact e
      rw [this]
      exact RpL.pick r f ks
    | some t =>
      obtain ⟨v, h1, h2⟩ := r.get e
      rw [h1]
      exact .cons h2 (RpL.pick r f ks)
theorem RpL.step {m : Mp} {H : Hp} {xs : List V} {ts : List T} (r : RpL m H xs ts) (lo hi : Option Int) (st : Int) : RpL m H (stepL xs lo hi st) (stepL ts lo hi st) := by
  unfold stepL
  rw [r.length]
  exact r.pick (fun k => (stLo lo hi st ts.length + (k : Int) * st).toNat) _
theorem valsPick : ∀ {xs : List V} {ys : List Value}, Vals xs ys → ∀ (f : Nat → Nat) (ks : List Nat), Vals (ks.filterMap fun k => xs[f k]?) (ks.filterMap fun k => ys[f k]?)
  | xs, ys, h, f, [] => .nil
  | xs, ys, h, f, k :: ks => by
    rw [List.filterMap_cons, List.filterMap_cons]
    cases e : xs[f k]? with
    | none =>
      have : ys[f k]? = none := by
        rw [List.getElem?_eq_none_iff] at e ⊢
        rw [← h.length]; exact e
      rw [this]
      exact valsPick h f ks
    | some t =>
      obtain ⟨v, h1, h2⟩ := h.get e
      rw [h1]
      exact .cons h2 (valsPick h f ks)
section
variable {X : Cx} {a : Expr} {lo hi : Option Expr} {se : Expr} {p2 pos : Pos}
def tStep (K : PySem.W.Frag) (te : TE) (tl th ts : TO) : TE := fun σ H Q => te σ H fun x H1 => tl σ H1 fun l H2 => th σ H2 fun u H3 => ts σ H3 fun o H4 => ∃ b xs st, x = .ref b ∧ o = some st ∧ st ≠ 0 ∧ SqT K H4 b xs ∧ (stepL xs l u st).length ≤ sizeLine ∧
  (stLo l u st xs.length = 0 ∧ st = 1 ∧ stN l u st xs.length = xs.length → Q (.ref b) H4) ∧ ∀ p, H4 p = none → Q (.ref p) (upd H4 p (.tup (stepL xs l u st)))
theorem pe_step {te : TE} {tl th ts : TO} (he : PE X a te) (hl : PO X lo tl) (hu : PO X hi th) (hs : PO X (some se) ts) : PE X (.Subscript a (.Slice lo hi (some se) p2) pos) (tStep X.K te tl th ts) := by
  refine ⟨fun pins s σ H Q I h => ?_⟩
  refine Subscript_ (thn (he.run pins s σ H _ I h) fun v s1 ⟨x, H1, I1, r1, q1⟩ => ?_)
  refine wpAny_Slice (thn (hl.run pins s1 σ H1 _ I1 q1) fun vl s2 ⟨l, H2, I2, pl, q2⟩ => thn (hu.run pins s2 σ H2 _ I2 q2) fun vu s3 ⟨u, H3, I3, pu, q3⟩ => thn (hs.run pins s3 σ H3 _ I3 q3) fun vs s4 ⟨o, H4, I4, ps, b, xs, st, ex, eo, h0, hx, hz1, hw, q⟩ => ?_)
  subst ex eo
  cases r1
  have I5 : L2.Inv X pins σ H4 { s4 with heap := s4.heap.push { cls := .type "slice", data := .fields #[vl, vu, vs] } } := I4.kept (t' := s4.toks) fun b ob q => Heap.get?_push_of_some _ q
  obtain ⟨its, r, ht, hz⟩ := I5.tuple hx
  have hlen : its.toArray.size = xs.length := by rw [List.size_toArray]; exact r.length.symm
  have hrs : Vals (stepL xs l u st) (stepL its l u st) := by
    unfold stepL
    rw [r.length]
    exact valsPick r _ _
  show wpAny (model X.prog X.w) X.A (subscriptTail a (.Slice lo hi (some se) p2) (.ref b) (.ref s4.heap.objs.size)) (EP X pins σ Q) X.xe { s4 with heap := s4.heap.push { cls := .type "slice", data := .fields #[vl, vu, vs] } }
  refine tail_any (ops := [.ref b, .ref s4.heap.objs.size]) ht.typeIs PyProof.Rows.slot_tuple_getitem.lookup ?_ (by with_unfolding_all rfl)
  refine getItem_tuple_st ht (Heap.IsSliceOf.new _ vl vu vs) pl pu ps h0 (fun hc => ?_) (fun hc => ?_) (by show (stepL its l u st).length ≤ sizeLine; rw [← hrs.length]; exact hz1)
  · rw [hlen] at hc
    exact ⟨.ref b, H4, I5, rfl, hw hc⟩
  · refine ⟨.ref _, _, I5.laid (t' := s4.toks) (o := .tup (stepL xs l u st)) (fun b ob q => Heap.get?_push_of_some _ q) (Nat.le_refl _) ?_, rfl, q _ (I5.hok.fresh (Nat.le_refl _))⟩
    exact ⟨hz1, _, hrs, IsTup.new _ _⟩
end
section
variable {C : PC} {k : Nat} {Γ : Sx}
def eStep (a : EM) (lo hi st : OM) : EM := fun ρ S => (a ρ S).bind fun x S1 => (lo ρ S1).bind fun l S2 => (hi ρ S2).bind fun h S3 => (st ρ S3).bind fun o S4 => match x, o with
  | .tup xs, some s => R.if (decide (s ≠ 0) && decide ((stepL xs l h s).length ≤ line)) (.ok (.tup (stepL xs l h s)) S4)
  | _, _ => .bad
theorem de_step {a : Expr} {lo hi : Option Expr} {se : Expr} {fa : EM} {fl fh fs : OM} {p2 pos : Pos} (ha : DE C k Γ a fa) (hl : DO C k Γ lo fl) (hh : DO C k Γ hi fh) (hs : DO C k Γ (some se) fs) : DE C k Γ (.Subscript a (.Slice lo hi (some se) p2) pos) (eStep fa fl fh fs) :=
  .mk fun X W ok tk => ⟨_, pe_step (ha X W ok tk) (hl X W ok tk) (hh X W ok tk) (hs X W ok tk), fun σ H Q ⟨m, ρ, S, re, rs, h⟩ => ⟨m, ρ, S, re, rs, (Post.bind h).mono fun u H1 ⟨m1, x, S1, l1, rs1, r1, q1⟩ =>
    ⟨m1, ρ, S1, re.le l1, rs1, (Post.bind q1).mono fun ol H2 ⟨m2, o2, S2, l2, rs2, e2, q2⟩ => ⟨m2, ρ, S2, (re.le l1).le l2, rs2, (Post.bind q2).mono fun oh H3 ⟨m3, o3, S3, l3, rs3, e3, q3⟩ => ⟨m3, ρ, S3, ((re.le l1).le l2).le l3, rs3, (Post.bind q3).mono fun os H4 ⟨m4, o4, S4, l4, rs4, e4, q4⟩ => by
      subst e2 e3 e4
      have r4 := ((r1.le l2).le l3).le l4
      cases r4 with
      | @tup b xs ts h o r =>
        cases os with
        | none => exact q4.elim
        | some st =>
          obtain ⟨hb, q4⟩ := Post.if (r := R.ok (T.tup (stepL ts ol oh st)) S4) q4
          simp only [Bool.and_eq_true, decide_eq_true_eq] at hb
          have rr := r.step ol oh st
          refine ⟨b, xs, st, rfl, rfl, hb.1, .of h, by rw [rr.length, sizeLine_eq]; exact hb.2, fun hc => ?_, fun p hp => q4.ext (.alloc hp) rs4 (.newTup rs4 hp rr)⟩
          rw [r.length] at hc
          rw [stepL_whole hc] at q4
          exact q4.now rs4 (.tup h o r)
      | _ => exact q4.elim⟩⟩⟩⟩⟩
/-- xs[::-1], a list: a new one -/
def nRev (f : EM) : LM := fun ρ S => (f ρ S).bind fun x S1 => match x with
  | .tup _ => .bad
  | _ => (match seqT S1 x with
    | some xs => R.if (decide (xs.length ≤ line)) (.ok xs.reverse S1)
    | none => .bad)
theorem dn_rev {e : Expr} {f : EM} {j : Nat} {p1 p2 p3 pos : Pos} (h : DE C k Γ e f) : DN C k Γ (.Subscript e (.Slice none none (some (.UnaryOp .USub (.Constant (.int 1) j p1) p2)) p3) pos) (nRev f) := fun X W ok tk =>
  PE.weak (pe_revL (h X W ok tk)) fun σ H Q ⟨m, ρ, S, re, rs, h⟩ => ⟨m, ρ, S, re, rs, (Post.bindN h).mono fun u H1 ⟨m1, x, S1, l1, rs1, r1, q1⟩ => by
    by_cases ht : ∃ y, x = .tup y
    · obtain ⟨y, rfl⟩ := ht; exact q1.elim
    · have nt : ∀ y, x ≠ .tup y := fun y z => ht ⟨y, z⟩
      have q2 : ∃ xs, seqT S1 x = some xs ∧ PostN C W m1 H1 σ Q (R.if (decide (xs.length ≤ line)) (.ok xs.reverse S1)) := by
        cases e : seqT S1 x with
        | none => cases x <;> simp only [e] at q1 <;> exact q1.elim
        | some xs => exact ⟨xs, rfl, by cases x <;> simp only [e] at q1 <;> first | exact q1 | exact absurd rfl (nt _)⟩
      obtain ⟨xs, e, q2⟩ := q2
      obtain ⟨hb, q2⟩ := q2.if
      obtain ⟨a, ys, rfl, sq, rx, _⟩ := chk_lst (K := X.K) rs1 r1 e nt .refl rs1 (chk_self e)
      exact ⟨a, ys, rfl, sq, fun p hp => q2 m1 H1 p _ .refl rs1 hp rx.reverse (by rw [List.length_reverse, rx.length]; exact line_le hb)⟩⟩
/-- [::-1] of a tuple or of a list, as a tree -/
def eRev (f : EM) : EM := fun ρ S => (f ρ S).bind fun x S1 => match x with
  | .tup xs => R.if (decide (xs.length ≤ line)) (.ok (.tup xs.reverse) S1)
  | x => eFrz (nRev fun _ S => .ok x S) ρ S1
end
end Mi
end

section
set_option Elab.async false
set_option linter.all false
set_option maxRecDepth 100000
set_option maxHeartbeats 2000000
/-! Mk0: a tuple times one, times none -/
namespace Mi
open PySem PySem.Spec PyProof.Rows L2
theorem mul1_W (l : Addr) (its : Array Value) (n : Nat) (dd : Option Addr) (sl : Array (Option Value)) (u : Tok) :
    Meets (Builtin.«tuple.__mul__» ⟨[.ref l, .int 1 u], []⟩) (fun _ R s => s.heap.get? l = some { cls := .type "tuple", dict := dd, data := .seq its n, slots := sl } ∧ R (.ok (.ret (Value.ref l))) s) :=
  .of_wp fun prog w A R s h => by
    obtain ⟨hp, g, d, tk, os⟩ := s
    obtain ⟨hl, h⟩ := h
    have f1 := AutoSeq1.idx_int
    wp_walk using wpAny_loadPart' hl
    exact ⟨_, rfl, h⟩
theorem mul0_W (l : Addr) (its : Array Value) (n : Nat) (dd : Option Addr) (sl : Array (Option Value)) (x : Int) (u : Tok) (c0 : (decide (x < -(2 ^ 63)) || decide (x ≥ 2 ^ 63)) = false) (c1 : (its.isEmpty || x == 1) = false) (c2 : (decide (x ≤ 0) || its.isEmpty) = true) :
    Meets (Builtin.«tuple.__mul__» ⟨[.ref l, .int x u], []⟩) (fun _ R s => s.heap.get? l = some { cls := .type "tuple", dict := dd, data := .seq its n, slots := sl } ∧
      R (.ok (.ret (Value.ref s.heap.objs.size))) { s with heap := s.heap.push { cls := Value.type "tuple", data := Data.seq #[] }, toks := s.toks }) :=
  .of_wp fun prog w A R s h => by
    obtain ⟨hp, g, d, tk, os⟩ := s
    obtain ⟨hl, h⟩ := h
    have f1 := AutoSeq1.idx_int
    wp_walk using wpAny_loadPart' hl
    repeat (first
      | (refine wpAny_ite_false (decide_eq_false (by rw [c0]; exact Bool.false_ne_true)) ?_; wp_walk using wpAny_loadPart' hl)
      | (refine wpAny_ite_false (decide_eq_false (by rw [c1]; exact Bool.false_ne_true)) ?_; wp_walk using wpAny_loadPart' hl)
      | (refine wpAny_ite_true (decide_eq_true c2) ?_; wp_walk using wpAny_loadPart' hl))
    exact ⟨_, rfl, h⟩
def rRep1 (K : PySem.W.Frag) : R2 := fun x y H Q => ∃ l xs, x = .ref l ∧ y = .int 1 ∧ SqT K H l xs ∧ Q (.ref l) H
def rRep0 (K : PySem.W.Frag) : R2 := fun x y H Q => ∃ l k xs, x = .ref l ∧ y = .int k ∧ SqT K H l xs ∧ xs ≠ [] ∧ k ≤ 0 ∧ -(2 ^ 63) ≤ k ∧ ∀ p, H p = none → Q (.ref p) (upd H p (.tup []))
section
variable {X : Cx}
theorem op_rep1 : OpR X (binaryOp .Mult) (rRep1 X.K) := by
  intro pins s σ H x y v u Q I rx ry h
  obtain ⟨l, xs, rfl, rfl, hT, q⟩ := h
  cases rx
  obtain ⟨t, rfl⟩ := ry
  obtain ⟨its, r, ⟨⟨cls, dd, data, sl⟩, ho, hc, n, hd⟩, hs⟩ := I.tuple hT
  simp only at hc hd
  subst hc hd
  refine wpAny_binaryOp_repeat_ref (T := "tuple") (U := "int") (by decide) ⟨_, ho, rfl⟩ (fun s' => typeIs_int s' 1 t) noFill_tuple_mul F.fills_int_mul F.slot_int_rmul repeat_tuple F.slot_int_index.lookup
    (call_meets F.slot_int_rmul (typeIs_int s 1 t) F.entry_int_rmul (F.args_int_rmul_2 _ _) (int_rmul_tuple 1 t l its.toArray n dd sl)
      ⟨ho, rfl, ⟨_, ho, rfl⟩, call_meets F.slot_tuple_mul ⟨_, ho, rfl⟩ F.entry_tuple_mul (F.args_tuple_mul_2 _ _) (mul1_W l its.toArray n dd sl t) ⟨ho, ?_⟩⟩)
  exact ⟨.ref l, H, I, rfl, q⟩
theorem op_rep0 : OpR X (binaryOp .Mult) (rRep0 X.K) := by
  intro pins s σ H x y v u Q I rx ry h
  obtain ⟨l, k, xs, rfl, rfl, hT, hne, h1, h2, q⟩ := h
  cases rx
  obtain ⟨t, rfl⟩ := ry
  obtain ⟨its, r, ⟨⟨cls, dd, data, sl⟩, ho, hc, n, hd⟩, hs⟩ := I.tuple hT
  simp only at hc hd
  subst hc hd
  have hi : its.toArray.isEmpty = false := by
    cases its with
    | nil => cases r; exact absurd rfl hne
    | cons a b => rfl
  have c0 : (decide (k < -(2 ^ 63)) || decide (k ≥ 2 ^ 63)) = false := by
    rw [decide_eq_false (by omega), decide_eq_false (by omega)] <;> rfl
  have c1 : (its.toArray.isEmpty || k == 1) = false := by
    rw [hi]
    exact beq_eq_false_iff_ne.mpr (by omega)
  refine wpAny_binaryOp_repeat_ref (T := "tuple") (U := "int") (by decide) ⟨_, ho, rfl⟩ (fun s' => typeIs_int s' k t) noFill_tuple_mul F.fills_int_mul F.slot_int_rmul repeat_tuple F.slot_int_index.lookup
    (call_meets F.slot_int_rmul (typeIs_int s k t) F.entry_int_rmul (F.args_int_rmul_2 _ _) (int_rmul_tuple k t l its.toArray n dd sl)
      ⟨ho, rfl, ⟨_, ho, rfl⟩, call_meets F.slot_tuple_mul ⟨_, ho, rfl⟩ F.entry_tuple_mul (F.args_tuple_mul_2 _ _) (mul0_W l its.toArray n dd sl k t c0 c1 (by rw [decide_eq_true h1]; rfl)) ⟨ho, ?_⟩⟩)
  refine ⟨.ref s.heap.objs.size, _, I.laid (t' := s.toks) (o := .tup []) (fun b ob q => Heap.get?_push_of_some _ q) (Nat.le_refl _) ?_, rfl, q _ (I.hok.fresh (Nat.le_refl _))⟩
  exact ⟨Nat.zero_le _, [], .nil, IsTup.new _ _⟩
end
end Mi
end

section
set_option Elab.async false
set_option linter.all false
set_option maxRecDepth 100000
set_option maxHeartbeats 2000000
/-! Mo1: +, *, slices of tuples or lists: a new list as a tree -/
namespace Mi
open PySem PySem.Spec L2
section
variable {C : PC} {k : Nat} {Γ : Sx}
def isL : T → Bool
  | .lst _ => true
  | .obj _ => true
  | _ => false
/-- x + y -/
def addL (S : Sto) (x y : T) : R T := match isL x with
  | true => (match rdL S x, rdL S y with
    | some l, some l' => R.if (decide (l.length + l'.length ≤ line)) (.ok (.lst (l ++ l')) S)
    | _, _ => .bad)
  | false => addT S x y
def rAddL (K : PySem.W.Frag) : R2 := fun x y H Q => rCat x y H Q ∨ rAddA K x y H Q
theorem op_addL {X : Cx} : OpR X (binaryOp .Add) (rAddL X.K) := op_cat.or op_addA
theorem op_addLS {K : PySem.W.Frag} : Op2S C (rAddL K) addL := by
  intro W m H S σ u v x y Q rs r1 r2 q
  cases hx : isL x with
  | false =>
    unfold addL at q
    rw [hx] at q
    exact .inr (op_addS rs r1 r2 q)
  | true =>
    unfold addL at q
    rw [hx] at q
    cases e1 : rdL S x with
    | none => simp only [e1] at q; exact q.elim
    | some l =>
      cases e2 : rdL S y with
      | none => simp only [e1, e2] at q; exact q.elim
      | some l' =>
        simp only [e1, e2] at q
        obtain ⟨hb, q⟩ := Post.if q
        obtain ⟨p1, xs, rfl, h1, x1⟩ := rdL_ok rs r1 e1
        obtain ⟨p2, ys, rfl, h2, x2⟩ := rdL_ok rs r2 e2
        exact .inl ⟨p1, p2, xs, ys, rfl, rfl, h1, h2, by rw [x1.length, x2.length]; exact line_le hb, fun p hp => q.ext (.alloc hp) rs (.newLst rs hp (x1.append x2))⟩
theorem de_addL {a b : Expr} {fa fb : EM} {pos : Pos} (ha : DE C k Γ a fa) (hb : DE C k Γ b fb) : DE C k Γ (.BinOp a .Add b pos) (e2 addL fa fb) := de_bin (fun X ok => ⟨_, op_addL, op_addLS⟩) ha hb
/-- x * y, x no list -/
def mulP (S : Sto) (x y : T) : R T := match x, y with
  | .tup a, .int n => if n = 1 then .ok (.tup a) S else (match decide (n ≤ 0) && (decide (-(2 ^ 63) ≤ n) && decide (a ≠ [])) with
    | true => .ok (.tup []) S
    | false => mulT S (.tup a) (.int n))
  | x, y => mulT S x y
theorem mulP_S {K : PySem.W.Frag} : Op2S C (fun x y H Q => rMulA K x y H Q ∨ rRep1 K x y H Q ∨ rRep0 K x y H Q) mulP := by
  intro W m H S σ u v x y Q rs r1 r2 q
  have low : mulP S x y = mulT S x y → rMulA K u v H Q := fun e => op_mulS rs r1 r2 (by rw [e] at q; exact q)
  cases r1 with
  | @tup a xs ts h o r =>
    cases r2 with
    | int n =>
      by_cases h1 : n = 1
      · subst h1
        exact .inr (.inl ⟨a, xs, rfl, rfl, .of h, q.now rs (.tup h o r)⟩)
      · have e : mulP S (.tup ts) (.int n) = (match decide (n ≤ 0) && (decide (-(2 ^ 63) ≤ n) && decide (ts ≠ [])) with
          | true => .ok (.tup []) S
          | false => mulT S (.tup ts) (.int n)) := if_neg h1
        cases hc : decide (n ≤ 0) && (decide (-(2 ^ 63) ≤ n) && decide (ts ≠ [])) with
        | false =>
          rw [hc] at e
          exact .inl (low e)
        | true =>
          rw [e, hc] at q
          simp only [Bool.and_eq_true, decide_eq_true_eq] at hc
          exact .inr (.inr ⟨a, n, xs, rfl, rfl, .of h, fun z => hc.2.2 ((rpl_nil r).mp z), hc.1, hc.2.1, fun p hp => q.ext (.alloc hp) rs (.newTup rs hp .nil)⟩)
    | _ => exact q.elim
  | int i => exact .inl (low rfl)
  | _ => exact q.elim
/-- x * y -/
def mulL (S : Sto) (x y : T) : R T := match isL x with
  | true => (match rdL S x, y with
    | some l, .int n => R.if (decide (-(2 ^ 63) ≤ n) && (decide (n < 2 ^ 63) && decide (l.length * n.toNat ≤ line))) (.ok (.lst (List.replicate n.toNat l).flatten) S)
    | _, _ => .bad)
  | false => mulP S x y
def rMulL (K : PySem.W.Frag) : R2 := fun x y H Q => rRep x y H Q ∨ (rMulA K x y H Q ∨ rRep1 K x y H Q ∨ rRep0 K x y H Q)
theorem op_mulL {X : Cx} : OpR X (binaryOp .Mult) (rMulL X.K) := op_rep.or (op_mulA.or (op_rep1.or op_rep0))
theorem op_mulLS {K : PySem.W.Frag} : Op2S C (rMulL K) mulL := by
  intro W m H S σ u v x y Q rs r1 r2 q
  cases hx : isL x with
  | false =>
    unfold mulL at q
    rw [hx] at q
    exact .inr (mulP_S rs r1 r2 q)
  | true =>
    unfold mulL at q
    rw [hx] at q
    cases e1 : rdL S x with
    | none => simp only [e1] at q; exact q.elim
    | some l =>
      rw [e1] at q
      obtain ⟨p1, xs, rfl, h1, x1⟩ := rdL_ok rs r1 e1
      cases r2 with
      | int n =>
        obtain ⟨hb, q⟩ := Post.if (r := R.ok _ S) q
        simp only [Bool.and_eq_true, decide_eq_true_eq] at hb
        exact .inl ⟨p1, n, xs, rfl, rfl, h1, hb.1, hb.2.1, by rw [x1.length, sizeLine_eq]; exact hb.2.2, fun p hp => q.ext (.alloc hp) rs (.newLst rs hp (x1.rep _))⟩
      | _ => exact q.elim
theorem de_mulL {a b : Expr} {fa fb : EM} {pos : Pos} (ha : DE C k Γ a fa) (hb : DE C k Γ b fb) : DE C k Γ (.BinOp a .Mult b pos) (e2 mulL fa fb) := de_bin (fun X ok => ⟨_, op_mulL, op_mulLS⟩) ha hb
theorem PE.either {X : Cx} {e : Expr} {t1 t2 : TE} (h1 : PE X e t1) (h2 : PE X e t2) : PE X e (fun σ H Q => t1 σ H Q ∨ t2 σ H Q) := ⟨fun pins s σ H Q I h => by
  rcases h with h | h
  · exact h1.run pins s σ H Q I h
  · exact h2.run pins s σ H Q I h⟩
theorem DE.either {e : Expr} {f g h : EM} (h1 : DE C k Γ e f) (h2 : DE C k Γ e g) (hh : ∀ ρ S, h ρ S = f ρ S ∨ h ρ S = g ρ S) : DE C k Γ e h := fun X W ok tk =>
  PE.weak (PE.either (h1 X W ok tk) (h2 X W ok tk)) fun σ H Q ⟨m, ρ, S, re, rs, q⟩ => by
    rcases hh ρ S with e | e
    · rw [e] at q; exact .inl ⟨m, ρ, S, re, rs, q⟩
    · rw [e] at q; exact .inr ⟨m, ρ, S, re, rs, q⟩
/-- x[lo:hi] -/
def eCut (a : EM) (lo hi : OM) : EM := fun ρ S => match a ρ S with
  | .ok (.tup xs) S1 => eCutT (fun _ S => .ok (.tup xs) S) lo hi ρ S1
  | .ok x S1 => eFrz (nCut (fun _ S => .ok x S) lo hi) ρ S1
  | .exc c fs S1 => .exc c fs S1
  | .bad => .bad
theorem de_cut {a : Expr} {lo hi : Option Expr} {fa : EM} {fl fh : OM} {p2 pos : Pos} (ha : DE C k Γ a fa) (hl : DO C k Γ lo fl) (hh : DO C k Γ hi fh) : DE C k Γ (.Subscript a (.Slice lo hi none p2) pos) (eCut fa fl fh) :=
  DE.either (de_cutT ha hl hh) (dn_cut ha hl hh).frz fun ρ S => by
    unfold eCut eCutT nCut eFrz
    dsimp only
    cases fa ρ S with
    | bad => exact .inl rfl
    | exc c fs S1 => exact .inl rfl
    | ok x S1 => cases x <;> first | exact .inl rfl | exact .inr rfl
def eRevA (a : EM) : EM := fun ρ S => match a ρ S with
  | .ok (.tup xs) S1 => R.if (decide (xs.length ≤ line)) (.ok (.tup xs.reverse) S1)
  | .ok x S1 => eFrz (nRev fun _ S => .ok x S) ρ S1
  | .exc c fs S1 => .exc c fs S1
  | .bad => .bad
theorem filterMap_cong {α β : Type} {f g : α → Option β} : ∀ {l : List α}, (∀ a ∈ l, f a = g a) → l.filterMap f = l.filterMap g
  | [], _ => rfl
  | a :: l, h => by rw [List.filterMap_cons, List.filterMap_cons, h a List.mem_cons_self, filterMap_cong fun b hb => h b (List.mem_cons_of_mem _ hb)]
theorem rev_ix {α : Type} (l : List α) : (List.range l.length).filterMap (fun (k : Nat) => l[((l.length : Int) - 1 + (k : Int) * (-1)).toNat]?) = l.reverse := by
  have h := range_all l.reverse
  rw [List.length_reverse] at h
  rw [← h]
  refine filterMap_cong fun k hk => ?_
  have hk' : k < l.length := List.mem_range.mp hk
  rw [List.getElem?_reverse hk', show ((l.length : Int) - 1 + (k : Int) * (-1)).toNat = l.length - 1 - k by omega]
theorem stepL_rev {α : Type} (l : List α) : stepL l none none (-1) = l.reverse := by
  unfold stepL
  have e1 : stLo none none (-1) l.length = (l.length : Int) - 1 := rfl
  have e2 : stN none none (-1) l.length = l.length := by
    show Builtin.Slice.slicePlaces ((l.length : Int) - 1) (-1) (-1) = _
    unfold Builtin.Slice.slicePlaces
    rw [if_neg (by omega)]
    cases l with
    | nil => rfl
    | cons a l =>
      rw [if_pos (by simp only [List.length_cons]; omega)]
      simp only [List.length_cons]
      rw [show (-(-1 : Int)) = 1 by decide, Int.ediv_one]
      omega
  rw [e1, e2]
  exact rev_ix l
theorem de_rev {e : Expr} {f : EM} {j : Nat} {p1 p2 p3 pos : Pos} (h : DE C k Γ e f) : DE C k Γ (.Subscript e (.Slice none none (some (.UnaryOp .USub (.Constant (.int 1) j p1) p2)) p3) pos) (eRevA f) :=
  DE.either (de_step h do_none do_none (do_some (de_neg de_int))) (dn_rev h).frz fun ρ S => by
    unfold eRevA eStep nRev eFrz
    dsimp only
    cases f ρ S with
    | bad => exact .inl rfl
    | exc c fs S1 => exact .inl rfl
    | ok x S1 =>
      cases x with
      | tup xs =>
        left
        show R.if (decide (xs.length ≤ line)) (R.ok (T.tup xs.reverse) S1) = R.if (decide ((-1 : Int) ≠ 0) && decide ((stepL xs none none (-1)).length ≤ line)) (.ok (.tup (stepL xs none none (-1))) S1)
        rw [stepL_rev, List.length_reverse]
        rfl
      | _ => exact .inr rfl
end
end Mi
end

section
set_option Elab.async false
set_option linter.all false
set_option maxRecDepth 100000
set_option maxHeartbeats 2000000
/-! Md0: dicts, as values -/
namespace Mi
open PySem PySem.Spec L2
/-! ### keys -/
def keyK : T → Option Key
  | .int i => some (.inl i)
  | .str x => some (.inr x)
  | _ => none
def keysL : List T → Option (List Key)
  | [] => some []
  | t :: l => (keyK t).bind fun k => (keysL l).map (k :: ·)
theorem keyK_eq {t : T} {k : Key} (h : keyK t = some k) : t = keyT k := by
  cases t <;> first | (cases h; rfl) | (cases h)
theorem keyK_rp {m : Mp} {H : Hp} {v : V} {t : T} {k : Key} (h : keyK t = some k) (r : Rp m H v t) : v = kV k := by
  cases r <;> first | (cases h; rfl) | (cases h)
theorem keysL_eq : ∀ {l : List T} {ks : List Key}, keysL l = some ks → l = ks.map keyT
  | [], ks, h => by cases h; rfl
  | t :: l, ks, h => by
    obtain ⟨k, h1, h2⟩ := Option.bind_eq_some_iff.mp h
    obtain ⟨r, h3, h4⟩ := Option.map_eq_some_iff.mp h2
    subst h4
    rw [keyK_eq h1, keysL_eq h3]
    rfl
theorem keysL_rp {m : Mp} {H : Hp} : ∀ {l : List T} {vs : List V} {ks : List Key}, keysL l = some ks → RpL m H vs l → vs = ks.map kV
  | _, _, ks, h, .nil => by cases h; rfl
  | _, _, ks, h, .cons r rr => by
    obtain ⟨k, h1, h2⟩ := Option.bind_eq_some_iff.mp h
    obtain ⟨q, h3, h4⟩ := Option.map_eq_some_iff.mp h2
    subst h4
    rw [keyK_rp h1 r, keysL_rp h3 rr]
    rfl
theorem sam_keyT (a b : Key) : T.sam (keyT a) (keyT b) = decide (a = b) := by
  cases a with
  | inl i =>
    cases b with
    | inl j => rw [Bool.eq_iff_iff]; simp [keyT, T.sam]
    | inr y => simp [keyT, T.sam]
  | inr x =>
    cases b with
    | inl j => simp [keyT, T.sam]
    | inr y => simp [keyT, T.sam]
theorem sams_keyT : ∀ a b : List Key, T.sams (a.map keyT) (b.map keyT) = decide (a = b)
  | [], [] => rfl
  | [], _ :: _ => rfl
  | _ :: _, [] => rfl
  | a :: as, b :: bs => by
    simp only [List.map_cons, T.sams, sam_keyT, sams_keyT as bs, List.cons.injEq, Bool.decide_and]
/-! ### entries -/
def lookT (l : List (T × T)) (y : T) : Option T := (l.find? fun p => T.sam p.1 y).map (·.2)
def putT (l : List (T × T)) (y x : T) : List (T × T) := if (l.any fun p => T.sam p.1 y) = true then l.map (fun p => if T.sam p.1 y = true then (p.1, x) else p) else l ++ [(y, x)]
def ORp (m : Mp) (H : Hp) : Option V → Option T → Prop
  | none, none => True
  | some v, some t => Rp m H v t
  | _, _ => False
section
variable {m : Mp} {H : Hp}
theorem RpK.look {k : Key} : ∀ {kvs : List (Key × V)} {l : List (T × T)}, RpK m H kvs l → ORp m H (valV kvs k) (lookT l (keyT k))
  | _, _, .nil => trivial
  | (k', v) :: kvs, (t, x) :: l, .cons e h p r => by
    subst e
    unfold valV lookT
    rw [List.find?_cons, List.find?_cons]
    simp only [sam_keyT]
    by_cases hk : k' = k
    · simp only [hk, decide_true]; exact h
    · simp only [hk, decide_false]; exact RpK.look r
theorem RpT.look {k : List Key} : ∀ {kvs : List (List Key × V)} {l : List (T × T)}, RpT m H kvs l → ORp m H (valV kvs k) (lookT l (.tup (k.map keyT)))
  | _, _, .nil => trivial
  | (k', v) :: kvs, (t, x) :: l, .cons e h p r => by
    subst e
    unfold valV lookT
    rw [List.find?_cons, List.find?_cons]
    simp only [T.sam, sams_keyT]
    by_cases hk : k' = k
    · simp only [hk, decide_true]; exact h
    · simp only [hk, decide_false]; exact RpT.look r
theorem RpK.any {k : Key} : ∀ {kvs : List (Key × V)} {l : List (T × T)}, RpK m H kvs l → (kvs.any fun kv => decide (kv.1 = k)) = l.any fun p => T.sam p.1 (keyT k)
  | _, _, .nil => rfl
  | (k', v) :: kvs, (t, x) :: l, .cons e h p r => by
    subst e
    simp only [List.any_cons, sam_keyT, RpK.any r]
theorem RpT.any {k : List Key} : ∀ {kvs : List (List Key × V)} {l : List (T × T)}, RpT m H kvs l → (kvs.any fun kv => decide (kv.1 = k)) = l.any fun p => T.sam p.1 (.tup (k.map keyT))
  | _, _, .nil => rfl
  | (k', v) :: kvs, (t, x) :: l, .cons e h p r => by
    subst e
    simp only [List.any_cons, T.sam, sams_keyT, RpT.any r]
theorem RpK.repl {k : Key} {v : V} {x : T} (hv : Rp m H v x) (hp : x.pure = true) : ∀ {kvs : List (Key × V)} {l : List (T × T)}, RpK m H kvs l → RpK m H (kvs.map fun kv => if kv.1 = k then (kv.1, v) else kv) (l.map fun p => if T.sam p.1 (keyT k) = true then (p.1, x) else p)
  | _, _, .nil => .nil
  | (k', v') :: kvs, (t, x') :: l, .cons e h p r => by
    subst e
    simp only [List.map_cons, sam_keyT, decide_eq_true_eq]
    by_cases hk : k' = k
    · rw [if_pos hk, if_pos hk]; exact .cons rfl hv hp (RpK.repl hv hp r)
    · rw [if_neg hk, if_neg hk]; exact .cons rfl h p (RpK.repl hv hp r)
theorem RpT.repl {k : List Key} {v : V} {x : T} (hv : Rp m H v x) (hp : x.pure = true) : ∀ {kvs : List (List Key × V)} {l : List (T × T)}, RpT m H kvs l → RpT m H (kvs.map fun kv => if kv.1 = k then (kv.1, v) else kv) (l.map fun p => if T.sam p.1 (.tup (k.map keyT)) = true then (p.1, x) else p)
  | _, _, .nil => .nil
  | (k', v') :: kvs, (t, x') :: l, .cons e h p r => by
    subst e
    simp only [List.map_cons, T.sam, sams_keyT, decide_eq_true_eq]
    by_cases hk : k' = k
    · rw [if_pos hk, if_pos hk]
      exact .cons rfl hv hp (by have := RpT.repl (k := k) hv hp r; simpa only [T.sam, sams_keyT, decide_eq_true_eq] using this)
    · rw [if_neg hk, if_neg hk]
      exact .cons rfl h p (by have := RpT.repl (k := k) hv hp r; simpa only [T.sam, sams_keyT, decide_eq_true_eq] using this)
theorem RpK.snoc {k : Key} {v : V} {x : T} (hv : Rp m H v x) (hp : x.pure = true) : ∀ {kvs : List (Key × V)} {l : List (T × T)}, RpK m H kvs l → RpK m H (kvs ++ [(k, v)]) (l ++ [(keyT k, x)])
  | _, _, .nil => .cons rfl hv hp .nil
  | _, _, .cons e h p r => .cons e h p (RpK.snoc hv hp r)
theorem RpT.snoc {k : List Key} {v : V} {x : T} (hv : Rp m H v x) (hp : x.pure = true) : ∀ {kvs : List (List Key × V)} {l : List (T × T)}, RpT m H kvs l → RpT m H (kvs ++ [(k, v)]) (l ++ [(.tup (k.map keyT), x)])
  | _, _, .nil => .cons rfl hv hp .nil
  | _, _, .cons e h p r => .cons e h p (RpT.snoc hv hp r)
theorem RpK.put {k : Key} {v : V} {x : T} {kvs : List (Key × V)} {l : List (T × T)} (r : RpK m H kvs l) (hv : Rp m H v x) (hp : x.pure = true) : RpK m H (putK kvs k v) (putT l (keyT k) x) := by
  unfold putK putT
  rw [r.any]
  split
  · exact RpK.repl hv hp r
  · exact r.snoc hv hp
theorem RpT.put {k : List Key} {v : V} {x : T} {kvs : List (List Key × V)} {l : List (T × T)} (r : RpT m H kvs l) (hv : Rp m H v x) (hp : x.pure = true) : RpT m H (putK kvs k v) (putT l (.tup (k.map keyT)) x) := by
  unfold putK putT
  rw [r.any]
  split
  · exact RpT.repl hv hp r
  · exact r.snoc hv hp
theorem RpK.length : ∀ {kvs : List (Key × V)} {l : List (T × T)}, RpK m H kvs l → kvs.length = l.length
  | _, _, .nil => rfl
  | _, _, .cons _ _ _ r => congrArg (· + 1) (RpK.length r)
theorem RpT.length : ∀ {kvs : List (List Key × V)} {l : List (T × T)}, RpT m H kvs l → kvs.length = l.length
  | _, _, .nil => rfl
  | _, _, .cons _ _ _ r => congrArg (· + 1) (RpT.length r)
end
/-- a dict: its obj, its kind, its entries -/
def dicOf (S : Sto) : T → Option (Nat × Bool × List (T × T))
  | .obj n => (match S[n]? with
    | some (.dic t l) => some (n, t, l)
    | some (.dlk t l) => some (n, t, l)
    | _ => none)
  | _ => none
/-- y is a key for such a dict -/
def keyOk (t : Bool) (y : T) : Bool := match t, y with
  | false, y => (keyK y).isSome
  | true, .tup l => (keysL l).isSome
  | true, _ => false
theorem dicOf_get {m : Mp} {H : Hp} {S : Sto} (rs : RS m H S) {v u : V} {x y : T} {n : Nat} {t : Bool} {l : List (T × T)} (r1 : Rp m H v x) (r2 : Rp m H u y) (e : dicOf S x = some (n, t, l)) (hk : keyOk t y = true) :
    ∃ a o, v = .ref a ∧ DGet H a u o ∧ ORp m H o (lookT l y) := by
  cases r1 with
  | @obj a i h =>
    have e' : (match S[i]? with
      | some (.dic t l) => some (i, t, l)
      | some (.dlk t l) => some (i, t, l)
      | _ => none) = some (n, t, l) := e
    have key : ∃ w, Rd H a w ∧ RD m H t l w := by
      cases q : S[i]? with
      | none => simp [q] at e'
      | some ob =>
        cases ob with
        | lst l' => simp [q] at e'
        | dic t' l' =>
          simp only [q, Option.some.injEq, Prod.mk.injEq] at e'
          obtain ⟨_, e2, e3⟩ := e'
          subst e2 e3
          obtain ⟨b, h1, w, h2, h3⟩ := rs.has i _ q
          rw [h] at h1; cases h1
          exact ⟨w, .inl h2, h3⟩
        | dlk t' l' =>
          simp only [q, Option.some.injEq, Prod.mk.injEq] at e'
          obtain ⟨_, e2, e3⟩ := e'
          subst e2 e3
          obtain ⟨b, h1, o, w, h2, h3⟩ := rs.has i _ q
          rw [h] at h1; cases h1
          exact ⟨w, .inr ⟨o, h2⟩, h3⟩
    obtain ⟨w, hw, hd⟩ := key
    cases t with
    | false =>
      obtain ⟨kvs, rfl, rk⟩ := hd
      obtain ⟨k, hk'⟩ := Option.isSome_iff_exists.mp hk
      have ey := keyK_eq hk'
      have eu := keyK_rp hk' r2
      subst ey eu
      exact ⟨a, _, rfl, .inl ⟨kvs, k, hw, rfl, rfl⟩, rk.look⟩
    | true =>
      obtain ⟨kvs, rfl, rk⟩ := hd
      cases y with
      | tup ks =>
        obtain ⟨k, hk'⟩ := Option.isSome_iff_exists.mp hk
        cases r2 with
        | @tup b ys _ hb _ rr =>
          have e1 := keysL_eq hk'
          have e2 := keysL_rp hk' rr
          subst e1 e2
          exact ⟨a, _, rfl, .inr ⟨kvs, k, b, hw, rfl, hb, rfl⟩, rk.look⟩
      | _ => cases hk
  | _ => cases e

section
variable {C : PC} {k : Nat} {Γ : Sx}
/-! ### x in d, d[x] -/
def rDIn (g : Bool → Bool) : R2 := fun y x H Q => ∃ a o, x = .ref a ∧ DGet H a y o ∧ Q (.bl (g o.isSome)) H
theorem op_dIn {X : Cx} (hu : X.A.units + 1 < cLine) : OpR X (compareOp .In) (rDIn id) := by
  intro pins s σ H x y v u Q I rx ry ⟨a, o, e, g, q⟩
  subst e
  obtain rfl : u = Value.ref a := ry
  exact d_in hu I g rx fun s3 I3 => ⟨.bl o.isSome, H, I3, rfl, q⟩
theorem op_dNotIn {X : Cx} (hu : X.A.units + 1 < cLine) : OpR X (compareOp .NotIn) (rDIn not) := by
  intro pins s σ H x y v u Q I rx ry ⟨a, o, e, g, q⟩
  subst e
  obtain rfl : u = Value.ref a := ry
  exact d_notIn hu I g rx fun s3 I3 => ⟨.bl (!o.isSome), H, I3, rfl, q⟩
def inD (g : Bool → Bool) (S : Sto) (x y : T) : R T := match dicOf S y with
  | some (_, t, l) => R.if (keyOk t x) (.ok (.bl (g (lookT l x).isSome)) S)
  | none => inT g S x y
theorem orp_some {m : Mp} {H : Hp} {o : Option V} {t : Option T} (h : ORp m H o t) : o.isSome = t.isSome := by
  cases o <;> cases t <;> first | rfl | exact h.elim
theorem inD_cases {K : PySem.W.Frag} {r : R2} {g : Bool → Bool} (h0 : Op2S C r (inT g)) : Op2S C (fun x y H Q => rDIn g x y H Q ∨ r x y H Q) (inD g) := by
  intro W m H S σ u v x y Q rs r1 r2 q
  unfold inD at q
  cases e : dicOf S y with
  | none => simp only [e] at q; exact .inr (h0 rs r1 r2 q)
  | some p =>
    obtain ⟨n, t, l⟩ := p
    simp only [e] at q
    obtain ⟨hb, q⟩ := Post.if q
    obtain ⟨a, o, e1, g1, o1⟩ := dicOf_get rs r2 r1 e hb
    refine .inl ⟨a, o, e1, g1, ?_⟩
    rw [orp_some o1]
    exact q.now rs (.bl _)
theorem XOk.units1 {X : Cx} (ok : XOk C k Γ X) : X.A.units + 1 < cLine := by have := ok.units; omega
theorem in_ok (X : Cx) (ok : XOk C k Γ X) : ∃ r, OpR X (compareOp .In) r ∧ Op2S C r (inD id) := ⟨_, (op_dIn ok.units1).or (op_inA ok.units65), inD_cases (K := X.K) op_inS⟩
theorem notIn_ok (X : Cx) (ok : XOk C k Γ X) : ∃ r, OpR X (compareOp .NotIn) r ∧ Op2S C r (inD not) := ⟨_, (op_dNotIn ok.units1).or (op_notInA ok.units65), inD_cases (K := X.K) op_notInS⟩
def rDIx : R2 := fun x y H Q => ∃ a v, x = .ref a ∧ DGet H a y (some v) ∧ Q v H
theorem ix_dict {X : Cx} (hu : X.A.units + 1 < cLine) : IxR X rDIx := by
  intro value slice pins s σ H x y v u Q I rx ry ⟨a, w, e, g, q⟩ hs
  subst e
  obtain rfl : v = Value.ref a := rx
  exact PyProof.Rows.tail_any (dict_typeIs I g) PySem.F.slot_dict_getitem.lookup (d_getItem hu I g ry fun w' s3 I3 rw' => ⟨w, H, I3, rw', q⟩) hs
def ixA (S : Sto) (x y : T) : R T := match dicOf S x with
  | some (_, t, l) => R.if (keyOk t y) (match lookT l y with
    | some v => .ok v S
    | none => .bad)
  | none => ixT S x y
theorem op_ixA {K : PySem.W.Frag} : Op2S C (fun x y H Q => rDIx x y H Q ∨ rIx K x y H Q) ixA := by
  intro W m H S σ u v x y Q rs r1 r2 q
  unfold ixA at q
  cases e : dicOf S x with
  | none => simp only [e] at q; exact .inr (op_ixS rs r1 r2 q)
  | some p =>
    obtain ⟨n, t, l⟩ := p
    simp only [e] at q
    obtain ⟨hb, q⟩ := Post.if q
    obtain ⟨a, o, e1, g1, o1⟩ := dicOf_get rs r1 r2 e hb
    cases el : lookT l y with
    | none => simp only [el] at q; exact q.elim
    | some w =>
      simp only [el] at q
      rw [el] at o1
      cases o with
      | none => exact o1.elim
      | some z => exact .inl ⟨a, z, e1, g1, q.now rs o1⟩
theorem de_ixA {a b : Expr} {fa fb : EM} {pos : Pos} (ha : DE C k Γ a fa) (hb : DE C k Γ b fb) (hp : plainIx b = true) : DE C k Γ (.Subscript a b pos) (e2 ixA fa fb) :=
  .mk fun X W ok tk => ⟨_, pe_ix ((ix_dict ok.units1).or ix_seq) (ha X W ok tk) (hb X W ok tk) (fun o i => by cases b <;> first | rfl | cases hp), fun σ H Q h => two (X := X) (a := a) (b := b) op_ixA h⟩
/-! ### d.get(x, y) -/
theorem two_few {e f : Expr} {env : PySem.Env} {cpos : Pos} (h : noStar e = true) (h2 : noStar f = true) : ((backTo cpos (starEach [e, f] env)).all (fun x => !x.1) && (backToKw cpos (keywordEach [] env)).all (fun x => x.1.isSome)
    && decide (([e, f] : List Expr).length + ([] : List Keyword).length + (if ([] : List Keyword).isEmpty then 0 else 1) < 30)) = true := by
  rw [star_cons h, star_cons h2]
  rfl
def eGet (fo fy fd : EM) : EM := fun ρ S => (fo ρ S).bind fun x S1 => R.if (dicOf S1 x).isSome ((fy ρ S1).bind fun y S2 => (fd ρ S2).bind fun z S3 => match dicOf S3 x with
  | some (_, t, l) => R.if (keyOk t y) (.ok ((lookT l y).getD z) S3)
  | none => .bad)
theorem dicOf_isD {m : Mp} {H : Hp} {S : Sto} (rs : RS m H S) {v : V} {x : T} (r1 : Rp m H v x) (e : (dicOf S x).isSome = true) : ∃ a, v = .ref a ∧ IsD H a := by
  obtain ⟨⟨n, t, l⟩, e⟩ := Option.isSome_iff_exists.mp e
  cases r1 with
  | @obj a i h =>
    have e' : (match S[i]? with
      | some (.dic t l) => some (i, t, l)
      | some (.dlk t l) => some (i, t, l)
      | _ => none) = some (n, t, l) := e
    refine ⟨a, rfl, ?_⟩
    have fin : ∀ {t : Bool} {l : List (T × T)} {w : HO}, Rd H a w → RD m H t l w → IsD H a := fun {t l w} hw hd => by
      cases t with
      | false => obtain ⟨kvs, rfl, _⟩ := hd; exact .inl ⟨kvs, hw⟩
      | true => obtain ⟨kvs, rfl, _⟩ := hd; exact .inr ⟨kvs, hw⟩
    cases q : S[i]? with
    | none => simp [q] at e'
    | some ob =>
      cases ob with
      | lst l' => simp [q] at e'
      | dic t' l' =>
        obtain ⟨b, h1, w, h2, h3⟩ := rs.has i _ q
        rw [h] at h1; cases h1
        exact fin (.inl h2) h3
      | dlk t' l' =>
        obtain ⟨b, h1, o, w, h2, h3⟩ := rs.has i _ q
        rw [h] at h1; cases h1
        exact fin (.inr ⟨o, h2⟩) h3
  | _ => cases e
theorem de_get {o e f : Expr} {fo fy fd : EM} {apos cpos : Pos} (ho : DE C k Γ o fo) (he : DE C k Γ e fy) (hf : DE C k Γ f fd) (hb : plainBase o = true) (hs : noStar e = true) (hs2 : noStar f = true) (hl : (apos.endLine == cpos.line) = true) :
    DE C k Γ (.Call (.Attribute o "get" apos) [e, f] [] cpos) (eGet fo fy fd) :=
  .mk fun X W ok tk => ⟨_, pe_dget2 ok.units1 (ho X W ok tk) (he X W ok tk) (hf X W ok tk) ⟨base_plain hb, two_few hs hs2, hl, by rw [star_cons hs, star_cons hs2]; rfl⟩, fun σ H Q ⟨m, ρ, S, re, rs, h⟩ => ⟨m, ρ, S, re, rs, (Post.bind h).mono fun u H1 ⟨m1, x, S1, l1, rs1, r1, q1⟩ => by
    obtain ⟨hb, q1⟩ := Post.if q1
    obtain ⟨a, ea, hd⟩ := dicOf_isD rs1 r1 hb
    refine ⟨a, ea, hd, m1, ρ, S1, re.le l1, rs1, (Post.bind q1).mono fun y H2 ⟨m2, ty, S2, l2, rs2, r2, q2⟩ => ⟨m2, ρ, S2, (re.le l1).le l2, rs2, (Post.bind q2).mono fun z H3 ⟨m3, tz, S3, l3, rs3, r3, q3⟩ => ?_⟩⟩
    cases e : dicOf S3 x with
    | none => simp only [e] at q3; exact q3.elim
    | some p =>
      obtain ⟨n, t, l⟩ := p
      simp only [e] at q3
      obtain ⟨hk, q3⟩ := Post.if q3
      obtain ⟨a', ov, e1, g1, o1⟩ := dicOf_get rs3 ((r1.le l2).le l3) (r2.le l3) e hk
      rw [ea] at e1
      cases e1
      refine ⟨ov, g1, ?_⟩
      cases ov with
      | none =>
        cases el : lookT l ty with
        | none => rw [el] at q3; exact q3.now rs3 r3
        | some w => rw [el] at o1; exact o1.elim
      | some v =>
        cases el : lookT l ty with
        | none => rw [el] at o1; exact o1.elim
        | some w =>
          rw [el] at q3 o1
          exact q3.now rs3 o1⟩⟩
end
end Mi
end

section
set_option Elab.async false
set_option linter.all false
set_option maxRecDepth 100000
set_option maxHeartbeats 2000000
/-! Md1: {}, d[x] = y, the keys of a dict -/
namespace Mi
open PySem PySem.Spec L2
section
variable {C : PC} {W : WX} {k : Nat} {Γ : Sx}
def eDict (t : Bool) : EM := fun _ S => .ok (.obj S.length) (S ++ [.dic t []])
theorem de_dnew {t : Bool} {pos : Pos} : DE C k Γ (.Dict [] [] pos) (eDict t) := by
  cases t with
  | false => exact .mk fun X W ok tk => ⟨_, pe_dnewK, fun σ H Q ⟨m, ρ, S, re, rs, h⟩ p hp => by
      obtain ⟨l, rs', rp⟩ := reg_any (u := .dK []) (o := .dic false []) rs hp fun m' H' l' e => ⟨_, e, [], rfl, .nil⟩
      exact h _ _ _ l rs' rp⟩
  | true => exact .mk fun X W ok tk => ⟨_, pe_dnewT, fun σ H Q ⟨m, ρ, S, re, rs, h⟩ p hp => by
      obtain ⟨l, rs', rp⟩ := reg_any (u := .dT []) (o := .dic true []) rs hp fun m' H' l' e => ⟨_, e, [], rfl, .nil⟩
      exact h _ _ _ l rs' rp⟩
/-- o[j] = v -/
def putD (ρ : Env) (v o j : T) (S : Sto) : RF := match o with
  | .obj n => (match S[n]? with
    | some (.dic t l) => RF.if (keyOk t j && (v.pure && decide (l.length < line))) (.go (.nx ρ) (S.set n (.dic t (putT l j v))))
    | _ => .bad)
  | _ => .bad
def sPutD (fo fi fe : EM) : SM := fun ρ S => (fe ρ S).then ρ fun v S1 => (fo ρ S1).then ρ fun o S2 => (fi ρ S2).then ρ fun j S3 => putD ρ v o j S3
theorem putD_ok {m : Mp} {H : Hp} {S : Sto} {D : Ends} {σ : St} {ρ : Env} {v o j : T} {vv vo vj : V} (re : RE m H σ ρ) (rs : RS m H S) (rv : Rp m H vv v) (ro : Rp m H vo o) (rj : Rp m H vj j) (q : PostS C W m H D (putD ρ v o j S)) :
    ∃ a H4, vo = .ref a ∧ DPut H a vj vv H4 ∧ D.nx σ H4 := by
  cases ro with
  | @obj a n h =>
    have q : PostS C W m H D (match S[n]? with
      | some (.dic t l) => RF.if (keyOk t j && (v.pure && decide (l.length < line))) (.go (.nx ρ) (S.set n (.dic t (putT l j v))))
      | _ => .bad) := q
    cases e : S[n]? with
    | none => simp only [e] at q; exact q.elim
    | some ob =>
      cases ob with
      | lst l => simp only [e] at q; exact q.elim
      | dlk t l => simp only [e] at q; exact q.elim
      | dic t l =>
        simp only [e] at q
        obtain ⟨hb, q⟩ := q.if
        simp only [Bool.and_eq_true, decide_eq_true_eq] at hb
        obtain ⟨b, h1, u, h2, h3⟩ := rs.has n _ e
        rw [h] at h1; cases h1
        cases t with
        | false =>
          obtain ⟨kvs, rfl, rk⟩ := h3
          obtain ⟨kk, hk⟩ := Option.isSome_iff_exists.mp hb.1
          have ej := keyK_eq hk
          have ev := keyK_rp hk rj
          subst ej ev
          obtain ⟨l1, rs1⟩ := put_any (u := .dK (putK kvs kk vv)) (o := .dic false (putT l (keyT kk) v)) rs (fun _ _ z => by rw [h2] at z; cases z) h fun H' l' e => ⟨_, e, _, rfl, (rk.put rv hb.2.1).le l'⟩
          exact ⟨a, _, rfl, .inl ⟨kvs, kk, h2, rfl, by rw [rk.length, sizeLine_eq]; exact hb.2.2, rfl⟩, q m _ σ l1 rs1 (re.le l1)⟩
        | true =>
          obtain ⟨kvs, rfl, rk⟩ := h3
          cases j with
          | tup ks =>
            obtain ⟨kk, hk⟩ := Option.isSome_iff_exists.mp hb.1
            cases rj with
            | @tup c ys _ hc _ rr =>
              have e1 := keysL_eq hk
              have e2 := keysL_rp hk rr
              subst e1 e2
              obtain ⟨l1, rs1⟩ := put_any (u := .dT (putK kvs kk vv)) (o := .dic true (putT l (.tup (kk.map keyT)) v)) rs (fun _ _ z => by rw [h2] at z; cases z) h fun H' l' e => ⟨_, e, _, rfl, (rk.put rv hb.2.1).le l'⟩
              exact ⟨a, _, rfl, .inr ⟨kvs, kk, c, h2, rfl, hc, by rw [rk.length, sizeLine_eq]; exact hb.2.2, rfl⟩, q m _ σ l1 rs1 (re.le l1)⟩
          | _ => cases hb.1
  | _ => exact q.elim
theorem ds_putD {o i e : Expr} {fo fi fe : EM} {tpos pos : Pos} (ho : DE C k Γ o fo) (hi : DE C k Γ i fi) (he : DE C k Γ e fe) (hc : noComp e = true) : DS C k Γ (.Assign [.Subscript o i tpos] e pos) (sPutD fo fi fe) := fun X W ok tk =>
  PS.weak (ps_dput ok.units1 (ho X W ok tk) (hi X W ok tk) (he X W ok tk) (swaps_no hc _ _ _)) fun D σ H ⟨m, ρ, S, re, rs, q⟩ => ⟨m, ρ, S, re, rs, (PostS.then re q).mono fun x H1 ⟨m1, v, S1, l1, rs1, r1, q1⟩ =>
    ⟨m1, ρ, S1, re.le l1, rs1, (PostS.then (re.le l1) q1).mono fun y H2 ⟨m2, o, S2, l2, rs2, r2, q2⟩ => ⟨m2, ρ, S2, (re.le l1).le l2, rs2, (PostS.then ((re.le l1).le l2) q2).mono fun z H3 ⟨m3, j, S3, l3, rs3, r3, q3⟩ =>
      putD_ok (((re.le l1).le l2).le l3) rs3 ((r1.le l2).le l3) (r2.le l3) r3 q3⟩⟩⟩
theorem PS.either {X : Cx} {e : Stmt} {t1 t2 : TS} (h1 : PS X e t1) (h2 : PS X e t2) : PS X e (fun D σ H => t1 D σ H ∨ t2 D σ H) := ⟨fun pins s σ H D I h => by
  rcases h with h | h
  · exact h1.run pins s σ H D I h
  · exact h2.run pins s σ H D I h⟩
theorem DS.either {e : Stmt} {f g h : SM} (h1 : DS C k Γ e f) (h2 : DS C k Γ e g) (hh : ∀ ρ S, h ρ S = f ρ S ∨ h ρ S = g ρ S) : DS C k Γ e h := fun X W ok tk =>
  PS.weak (PS.either (h1 X W ok tk) (h2 X W ok tk)) fun D σ H ⟨m, ρ, S, re, rs, q⟩ => by
    rcases hh ρ S with e | e
    · rw [e] at q; exact .inl ⟨m, ρ, S, re, rs, q⟩
    · rw [e] at q; exact .inr ⟨m, ρ, S, re, rs, q⟩
/-- o[j] = v, a list or a dict -/
def subL (ρ : Env) (v o j : T) (S : Sto) : RF := match o, j with
  | .obj n, .int z => (match S[n]? with
    | some (.lst l) => (match ixN l.length z with
      | some p => RF.if v.pure (.go (.nx ρ) (S.set n (.lst (l.set p v))))
      | none => .bad)
    | _ => .bad)
  | _, _ => .bad
def subA (ρ : Env) (v o j : T) (S : Sto) : RF := match dicOf S o with
  | some _ => putD ρ v o j S
  | none => subL ρ v o j S
def sSubA (fo fi fe : EM) : SM := fun ρ S => (fe ρ S).then ρ fun v S1 => (fo ρ S1).then ρ fun o S2 => (fi ρ S2).then ρ fun j S3 => subA ρ v o j S3
theorem then_or {α : Type} {r : R α} {ρ : Env} {f g h : α → Sto → RF} (hh : ∀ a S, h a S = f a S ∨ h a S = g a S) : r.then ρ h = r.then ρ f ∨ r.then ρ h = r.then ρ g := by
  cases r with
  | ok a S => exact hh a S
  | exc _ _ _ => exact .inl rfl
  | bad => exact .inl rfl
theorem ds_subA {o i e : Expr} {fo fi fe : EM} {tpos pos : Pos} (ho : DE C k Γ o fo) (hi : DE C k Γ i fi) (he : DE C k Γ e fe) (hc : noComp e = true) (hp : plainIx i = true) : DS C k Γ (.Assign [.Subscript o i tpos] e pos) (sSubA fo fi fe) :=
  DS.either (ds_putD ho hi he hc) (ds_sub ho hi he hc hp) fun ρ S => by
    unfold sSubA sPutD sSub
    exact then_or fun v S1 => then_or fun o S2 => then_or fun j S3 => by
      unfold subA
      cases dicOf S3 o with
      | some _ => exact .inl rfl
      | none => exact .inr rfl
end
end Mi
end

section
set_option Elab.async false
set_option linter.all false
set_option maxRecDepth 100000
set_option maxHeartbeats 2000000
/-! Md2: a dict is walked: it is locked as long -/
namespace Mi
open PySem PySem.Spec L2
section
variable {m : Mp} {H H' : Hp}
/-- what no obj stands for stays -/
def Sta (m : Mp) (H H' : Hp) : Prop := ∀ a u, Off m a → H a = some u → H' a = some u
mutual
theorem Rp.up (l : Sta m H H') : ∀ {v : V} {t : T}, Rp m H v t → Rp m H' v t
  | _, _, .non => .non
  | _, _, .bl b => .bl b
  | _, _, .int i => .int i
  | _, _, .str x => .str x
  | _, _, .tup h o r => .tup (l _ _ o h) o (RpL.up l r)
  | _, _, .lst h o r => .lst (l _ _ o h) o (RpL.up l r)
  | _, _, .scr h o r => .scr (l _ _ o h) o (RpL.up l r)
  | _, _, .obj h => .obj h
theorem RpL.up (l : Sta m H H') : ∀ {vs : List V} {ts : List T}, RpL m H vs ts → RpL m H' vs ts
  | _, _, .nil => .nil
  | _, _, .cons h r => .cons (Rp.up l h) (RpL.up l r)
end
theorem RpK.up (l : Sta m H H') : ∀ {kvs : List (Key × V)} {r : List (T × T)}, RpK m H kvs r → RpK m H' kvs r
  | _, _, .nil => .nil
  | _, _, .cons e h p r => .cons e (h.up l) p (RpK.up l r)
theorem RpT.up (l : Sta m H H') : ∀ {kvs : List (List Key × V)} {r : List (T × T)}, RpT m H kvs r → RpT m H' kvs r
  | _, _, .nil => .nil
  | _, _, .cons e h p r => .cons e (h.up l) p (RpT.up l r)
theorem RD.up (le : Sta m H H') {t : Bool} {l : List (T × T)} {u : HO} (h : RD m H t l u) : RD m H' t l u := by
  cases t with
  | false => obtain ⟨kvs, e, r⟩ := h; exact ⟨kvs, e, r.up le⟩
  | true => obtain ⟨kvs, e, r⟩ := h; exact ⟨kvs, e, r.up le⟩
theorem RO.up {a : Addr} {o : MO} (l' : Sta m H H') (e : ∀ u, H a = some u → H' a = some u) (r : RO m H a o) : RO m H' a o := by
  cases o with
  | lst ts =>
    obtain ⟨xs, h1, h2, h3⟩ := r
    exact ⟨xs, e _ h1, h2.up l', h3⟩
  | dic t l =>
    obtain ⟨u, h1, h2⟩ := r
    exact ⟨u, e _ h1, h2.up l'⟩
  | dlk t l =>
    obtain ⟨o, u, h1, h2⟩ := r
    exact ⟨o, u, e _ h1, h2.up l'⟩
theorem sta_put {a : Addr} {n : Nat} {u : HO} (hn : m n = some a) : Sta m H (upd H a u) := fun b w o q => by rw [upd_ne (fun z => o n (by rw [z]; exact hn))]; exact q
theorem put_rs {S : Sto} (r : RS m H S) {n : Nat} {a : Addr} {u : HO} {o : MO} (hn : m n = some a) (h : RO m (upd H a u) a o) : RS m (upd H a u) (S.set n o) := by
  refine ⟨r.inj, fun k b h1 => by rw [List.length_set]; exact r.dom k b h1, fun k b h1 => ?_, fun k b h1 => ?_⟩
  · by_cases e : b = a
    · subst e; exact ⟨_, upd_same⟩
    · obtain ⟨w, hw⟩ := r.here k b h1
      exact ⟨w, by rw [upd_ne e]; exact hw⟩
  · by_cases e : n = k
    · subst e
      rw [List.getElem?_set_self (r.dom _ _ hn)] at h1
      cases h1
      exact ⟨a, hn, h⟩
    · rw [List.getElem?_set_ne e] at h1
      obtain ⟨c, h2, h3⟩ := r.has k b h1
      exact ⟨c, h2, h3.up (sta_put hn) fun w hw => by rw [upd_ne (fun z => e (r.inj n k a hn (by rw [← z]; exact h2)))]; exact hw⟩
end
/-- the heap through a lock: locked at d, run, unlocked -/
structure Lck (m : Mp) (H : Hp) (S : Sto) (n : Nat) (t : Bool) (l : List (T × T)) (d : Addr) (u : HO) : Prop where
  at_ : m n = some d
  here : H d = some u
  rd : RD m H t l u
  mt : Mut (some u)
theorem lck_of {m : Mp} {H : Hp} {S : Sto} (rs : RS m H S) {n : Nat} {t : Bool} {l : List (T × T)} (e : S[n]? = some (.dic t l)) : ∃ d u, Lck m H S n t l d u := by
  obtain ⟨d, h1, u, h2, h3⟩ := rs.has n _ e
  refine ⟨d, u, h1, h2, h3, ?_⟩
  cases t with
  | false => obtain ⟨kvs, rfl, _⟩ := h3; trivial
  | true => obtain ⟨kvs, rfl, _⟩ := h3; trivial
theorem Lck.nf {m : Mp} {H : Hp} {S : Sto} {n : Nat} {t : Bool} {l : List (T × T)} {d : Addr} {u : HO} (K : Lck m H S n t l d u) : ∀ o w, H d ≠ some (.frz o w) := fun o w z => by
  have h3 := K.rd
  rw [K.here] at z
  cases t with
  | false => obtain ⟨kvs, rfl, _⟩ := h3; cases z
  | true => obtain ⟨kvs, rfl, _⟩ := h3; cases z
theorem Lck.lock {m : Mp} {H : Hp} {S : Sto} {n : Nat} {t : Bool} {l : List (T × T)} {d : Addr} {u : HO} (K : Lck m H S n t l d u) (rs : RS m H S) (od : Obj) :
    Le m H m (upd H d (.frz od u)) ∧ RS m (upd H d (.frz od u)) (S.set n (.dlk t l)) :=
  put_any rs K.nf K.at_ fun H' l' e => ⟨od, u, e, K.rd.le l'⟩
theorem Lck.unlock {m m' : Mp} {H H' : Hp} {S S' : Sto} {n : Nat} {t : Bool} {l : List (T × T)} {d : Addr} {u : HO} (K : Lck m H S n t l d u) (rs : RS m H S) {od : Obj} (le : Le m (upd H d (.frz od u)) m' H') (rs' : RS m' H' S') :
    H' d = some (.frz od u) ∧ Le m H m' (upd H' d u) ∧ Sta m' H' (upd H' d u) ∧ RS m' (upd H' d u) (S'.set n (.dic t l)) := by
  have h1 : H' d = some (.frz od u) := le.frz d od u upd_same
  have hn : m' n = some d := le.obj n d K.at_
  have l1 := (K.lock rs od).1
  have l2 := l1.trans le
  have rd' : RD m' (upd H' d u) t l u := (K.rd.le l2).up (sta_put hn)
  refine ⟨h1, ⟨fun a w o h => ?_, l2.obj, fun a o w h => ?_⟩, sta_put hn, put_rs rs' hn ⟨u, upd_same, rd'⟩⟩
  · obtain ⟨h2, h3⟩ := l2.keep a w o h
    exact ⟨sta_put hn a w h3 h2, h3⟩
  · have hne : a ≠ d := fun z => K.nf o w (by rw [← z]; exact h)
    rw [upd_ne hne]
    exact l2.frz a o w h
section
variable {C : PC} {W : WX} {k : Nat} {Γ : Sx}
def unlockN (n : Nat) (t : Bool) (l : List (T × T)) (r : R (List T)) : R (List T) := match r with
  | .ok x S' => .ok x (S'.set n (.dic t l))
  | _ => .bad
def nLock (i : Nat) (L : LM) : LM := fun ρ S => match ρ[i]? with
  | some (some (.obj n)) => (match S[n]? with
    | some (.dic t l) => unlockN n t l (L ρ (S.set n (.dlk t l)))
    | _ => .bad)
  | _ => .bad
theorem dn_lock {e : Expr} {L : LM} (i : Nat) (h : DN C k Γ e L) : DN C k Γ e (nLock i L) := fun X W ok tk =>
  PE.weak (pe_lock (h X W ok tk)) fun σ H Q ⟨m, ρ, S, re, rs, q⟩ => by
    unfold nLock at q
    split at q
    · rename_i n e1
      split at q
      · rename_i t l e2
        obtain ⟨d, u, K⟩ := lck_of rs e2
        refine ⟨d, u, K.here, K.mt, fun od => ?_⟩
        obtain ⟨l1, rs1⟩ := K.lock rs od
        refine ⟨m, ρ, _, re.le l1, rs1, ?_⟩
        cases r : L ρ (S.set n (.dlk t l)) with
        | bad => rw [r] at q; exact q.elim
        | exc c fs S1 => rw [r] at q; exact q.elim
        | ok x S1 =>
          rw [r] at q
          intro m' H' p xs le rs' hp rx hz
          obtain ⟨h1, h2, h3, h4⟩ := K.unlock rs le rs'
          have pd : p ≠ d := fun z => by rw [z, h1] at hp; cases hp
          have hp' : upd H' d u p = none := by rw [upd_ne pd]; exact hp
          refine ⟨by rw [upd_ne (Ne.symm pd)]; exact h1, ?_⟩
          have q' := q m' _ p xs h2 h4 hp' (rx.up h3) hz
          have e3 : upd (upd H' p (.lst xs)) d u = upd (upd H' d u) p (.lst xs) := by
            funext b
            unfold upd
            by_cases z1 : b = d
            · have z2 : b ≠ p := fun z => pd (by rw [← z, z1])
              rw [if_pos z1, if_neg z2, if_pos z1]
            · by_cases z2 : b = p
              · rw [if_neg z1, if_pos z2, if_pos z2]
              · rw [if_neg z1, if_neg z2, if_neg z2, if_neg z1]
          rw [e3]
          exact q'
      · exact q.elim
    · exact q.elim
def unlockS (n : Nat) (t : Bool) (l : List (T × T)) (r : RF) : RF := match r with
  | .go f S' => .go f (S'.set n (.dic t l))
  | _ => .bad
def sLock (i : Nat) (f : SM) : SM := fun ρ S => match ρ[i]? with
  | some (some (.obj n)) => (match S[n]? with
    | some (.dic t l) => unlockS n t l (f ρ (S.set n (.dlk t l)))
    | _ => .bad)
  | _ => .bad
theorem RE.up {m : Mp} {H H' : Hp} {σ : St} {ρ : List (Option T)} (l : Sta m H H') (r : RE m H σ ρ) : RE m H' σ ρ :=
  ⟨r.1, fun i t e => let ⟨v, h1, h2⟩ := r.2 i t e; ⟨v, h1, h2.up l⟩⟩
theorem ds_lock {st : Stmt} {f : SM} (i : Nat) (h : DS C k Γ st f) : DS C k Γ st (sLock i f) := fun X W ok tk =>
  PS.weak (ps_lock (h X w0 ok takesNo)) fun D σ H ⟨m, ρ, S, re, rs, q⟩ => by
    unfold sLock at q
    split at q
    · rename_i n e1
      split at q
      · rename_i t l e2
        obtain ⟨d, u, K⟩ := lck_of rs e2
        refine ⟨d, u, K.here, K.mt, fun od => ?_⟩
        obtain ⟨l1, rs1⟩ := K.lock rs od
        refine ⟨m, ρ, _, re.le l1, rs1, ?_⟩
        cases r : f ρ (S.set n (.dlk t l)) with
        | bad => rw [r] at q; exact q.elim
        | exc c fs ρ1 S1 => rw [r] at q; exact q.elim
        | go fl S1 =>
          rw [r] at q
          cases fl with
          | rt v =>
            intro m' H' w le rs' rv
            obtain ⟨h1, h2, h3, h4⟩ := K.unlock rs le rs'
            exact ⟨h1, q m' _ w h2 h4 (rv.up h3)⟩
          | nx ρ1 =>
            intro m' H' σ' le rs' re'
            obtain ⟨h1, h2, h3, h4⟩ := K.unlock rs le rs'
            exact ⟨h1, q m' _ σ' h2 h4 (re'.up h3)⟩
          | bk ρ1 =>
            intro m' H' σ' le rs' re'
            obtain ⟨h1, h2, h3, h4⟩ := K.unlock rs le rs'
            exact ⟨h1, q m' _ σ' h2 h4 (re'.up h3)⟩
          | ct ρ1 =>
            intro m' H' σ' le rs' re'
            obtain ⟨h1, h2, h3, h4⟩ := K.unlock rs le rs'
            exact ⟨h1, q m' _ σ' h2 h4 (re'.up h3)⟩
      · exact q.elim
    · exact q.elim
/-- the keys of a locked dict -/
def iKeysT (f : EM) : IM := fun ρ S => (f ρ S).bind fun x S1 => match x with
  | .obj n => (match S1[n]? with
    | some (.dlk _ l) => .ok ⟨l.map (·.1), fun _ => true⟩ S1
    | _ => .bad)
  | _ => .bad
theorem kV_rp {m : Mp} {H : Hp} (k : Key) : Rp m H (kV k) (keyT k) := by cases k <;> first | exact .int _ | exact .str _
theorem kVs_rp {m : Mp} {H : Hp} : ∀ k : List Key, RpL m H (k.map kV) (k.map keyT)
  | [] => .nil
  | k :: r => .cons (kV_rp k) (kVs_rp r)
theorem RpK.get {m : Mp} {H : Hp} {k : Key} {v : V} : ∀ {kvs : List (Key × V)} {l : List (T × T)} {i : Nat}, RpK m H kvs l → kvs[i]? = some (k, v) → (l.map (·.1))[i]? = some (keyT k)
  | _, _, _, .nil, e => by simp at e
  | _, _, 0, .cons e h p r, e2 => by simp at e2; obtain ⟨rfl, rfl⟩ := e2; simp [e]
  | _, _, i + 1, .cons e h p r, e2 => by simpa using RpK.get (i := i) r (by simpa using e2)
theorem RpT.get {m : Mp} {H : Hp} {k : List Key} {v : V} : ∀ {kvs : List (List Key × V)} {l : List (T × T)} {i : Nat}, RpT m H kvs l → kvs[i]? = some (k, v) → (l.map (·.1))[i]? = some (.tup (k.map keyT))
  | _, _, _, .nil, e => by simp at e
  | _, _, 0, .cons e h p r, e2 => by simp at e2; obtain ⟨rfl, rfl⟩ := e2; simp [e]
  | _, _, i + 1, .cons e h p r, e2 => by simpa using RpT.get (i := i) r (by simpa using e2)
theorem di_keys {tg e : Expr} {f : EM} (h : DE C k Γ e f) : DI C k Γ tg e (iKeysT f) := fun X W ok tk => PI.weak (pi_keys (h X W ok tk)) fun σ H Q ⟨m, ρ, S, re, rs, q⟩ => ⟨m, ρ, S, re, rs, (Post.bindI q).mono fun u H1 ⟨m1, x, S1, l1, rs1, r1, q1⟩ => by
  cases r1 with
  | @obj a n h =>
    have q1 : PostI C W m1 H1 σ Q (match S1[n]? with
      | some (.dlk _ l) => .ok ⟨l.map (·.1), fun _ => true⟩ S1
      | _ => .bad) := q1
    cases e : S1[n]? with
    | none => simp only [e] at q1; exact q1.elim
    | some ob =>
      cases ob with
      | lst l => simp only [e] at q1; exact q1.elim
      | dic t l => simp only [e] at q1; exact q1.elim
      | dlk t l =>
        simp only [e] at q1
        obtain ⟨b, h1, o, w, h2, h3⟩ := rs1.has n _ e
        rw [h] at h1; cases h1
        cases t with
        | false =>
          obtain ⟨kvs, rfl, rk⟩ := h3
          refine ⟨a, o, rfl, .inl ⟨kvs, h2, q1 m1 H1 _ .refl rs1 ⟨fun {m H Hc S i} le rs _ up dn hi => ?_, fun {m H Hc S} le rs _ up => ?_⟩⟩⟩
          · have hi : i < (l.map (·.1)).length := hi
            rw [List.length_map, ← rk.length] at hi
            refine ⟨⟨up _ _ (le.frz _ _ _ h2), hi⟩, fun x H' ⟨e1, kk, v, e2, e3⟩ => ⟨_, rk.get e2, .inl ⟨e1, ?_⟩⟩⟩
            rw [e3]
            exact kV_rp kk
          · exact ⟨up _ _ (le.frz _ _ _ h2), by show kvs.length ≤ (l.map (·.1)).length; rw [List.length_map, ← rk.length]; exact Nat.le_refl _⟩
        | true =>
          obtain ⟨kvs, rfl, rk⟩ := h3
          refine ⟨a, o, rfl, .inr ⟨kvs, h2, q1 m1 H1 _ .refl rs1 ⟨fun {m H Hc S i} le rs _ up dn hi => ?_, fun {m H Hc S} le rs _ up => ?_⟩⟩⟩
          · have hi : i < (l.map (·.1)).length := hi
            rw [List.length_map, ← rk.length] at hi
            refine ⟨⟨up _ _ (le.frz _ _ _ h2), hi⟩, fun x H' ⟨e1, kk, v, p, e2, e3, e4⟩ => ⟨_, rk.get e2, .inl ⟨e1, ?_⟩⟩⟩
            rw [e3]
            have e5 := dn _ _ e4
            refine .tup e5 (fun j hj => ?_) (kVs_rp kk)
            have hj2 := rs.dom _ _ hj
            obtain ⟨c, c1, c2⟩ := rs.has j _ (List.getElem?_eq_getElem hj2)
            rw [hj] at c1; cases c1
            cases eo : S[j] with
            | lst ts => rw [eo] at c2; obtain ⟨_, z, _⟩ := c2; rw [e5] at z; cases z
            | dic t l => rw [eo] at c2; obtain ⟨w, z, zd⟩ := c2; rw [e5] at z; cases z; cases t <;> (obtain ⟨_, z, _⟩ := zd; cases z)
            | dlk t l => rw [eo] at c2; obtain ⟨_, _, z, _⟩ := c2; rw [e5] at z; cases z
          · exact ⟨up _ _ (le.frz _ _ _ h2), by show kvs.length ≤ (l.map (·.1)).length; rw [List.length_map, ← rk.length]; exact Nat.le_refl _⟩
  | _ => exact q1.elim⟩
end
end Mi
end

section
set_option Elab.async false
set_option linter.all false
set_option maxRecDepth 100000
set_option maxHeartbeats 2000000
/-! Dd0: dict comprehensions whose keys may be tuples -/
namespace Mi
open PySem PySem.Spec L2
section
variable {X : Cx} {pins : List (Addr × Obj)} {σ : St} {H H' : Hp} {s : Shared}
/-- a comprehension's d[y] = v -/
theorem put_in {E : Value → Shared → Prop} {D : Addr} {y v : V} {u r : Value} {Q : Unit → Shared → Prop} (hu : X.A.units + 1 < cLine) (I : Inv X pins σ H s) (g : DPut H D y v H') (ry : RelV y u) (rv : RelV v r)
    (h : ∀ t, Inv X pins σ H' t → Q () t) : wpAny (model X.prog X.w) X.A (dictSet D u r) Q E s := by
  rcases g with ⟨kvs, k, e, rfl, l, rfl⟩ | ⟨kvs, k, b, e, rfl, eb, l, rfl⟩
  · exact d_dictSet I e l ry rv fun t => h t
  · obtain rfl : u = Value.ref b := ry
    obtain ⟨n1, n2, ts, kt, dh⟩ := dt_of I.hok e
    have small : (putK kvs k v).length ≤ sizeLine := by
      have z := length_putK kvs k v
      omega
    have len : ts.length ≤ sizeLine := by rw [← Paired.length kt]; exact n1
    refine wpAny_dictSet_heap (show X.A.units < cLine by omega) (key_of I.hok eb) dh (fun g dg sm => h _ ?_) len
    obtain ⟨q, es, ep, a1, a2, a3, a4, _, a5⟩ := dg
    refine d_write I (by rw [e]; trivial) sm ⟨q, a1⟩ ⟨small, n2, _, (kt.put k eb rv).keeps ?_, q, es, ep, a1, a2, a3, a4, a5⟩
    intro c ys ec
    have hc : c ≠ D := ne_of ec e (fun z => nomatch z)
    rw [upd_ne hc]
    exact ec
end
section
variable {X : Cx}
/-- {k: v for target in iter if ..}: o is the empty dict of the kind that is wanted -/
def tDq (o : HO) (wi : TI) (g : TG) (tt : TT) (tk tv : TE) (vs : List Nat) : TE := fun σ H Q => wi σ H fun J H1 => ∀ D, H1 D = none → ∃ W : Nat → Nat → Hp → Prop, (∃ m, W 0 m (upd H1 D o)) ∧ ∀ i m Hc, W i m Hc →
  (J.stop i Hc ∧ Q (.ref D) Hc) ∨ (J.go i Hc ∧ ∃ Nx : Hp → Prop, (∀ Hn, Nx Hn → ∃ l, l < m ∧ W (i + 1) l Hn) ∧ ∀ x Hy, J.yld i Hc x Hy → g x (wipe σ vs) Hy fun σ2 H2 => wipe σ2 vs = wipe σ vs ∧ tt σ2 H2 fun b H3 =>
    if b = true then tk σ2 H3 fun y H4 => tv σ2 H4 fun z H5 => ∃ H6, DPut H5 D y z H6 ∧ Nx H6 else Nx H3)
theorem dq_empty {o : HO} (ho : o = .dK [] ∨ o = .dT []) {P : Program} {w : World} {H : Hp} (h : Heap) (hb : sysModules < h.objs.size) : ObjOk P w H (h.push { cls := .type "dict", data := .dict #[] }) h.objs.size o := by
  rcases ho with rfl | rfl
  · exact dk_empty h hb
  · exact dt_empty h hb
theorem dq_core {o : HO} (ho : o = .dK [] ∨ o = .dT []) (hu : X.A.units + 1 < cLine) {pins : List (Addr × Obj)} {s : Shared} {σ : St} {H : Hp} {Q : VK} {kx vx tg iter : Expr} {ifs : List Expr} {scope : Scope} {own : List (Str × Nat)} {pos pos' : Pos} {wi : TI} {g : TG} {tt : TT} {tk tv : TE} {use : Option (Value → Sem Unit)} {Qf : Value → Shared → Prop}
    (calm : X.calm = true) (nd : X.N.Nodup) (I : Inv X pins σ H s) (hi : PI X tg iter wi) (bok : BlkOk X.N X.env.scope scope own)
    (hg : ∀ t G C cl fp, PG (X.blk t G scope (compEnvC scope cl C X.env) fp) tg g) (ht : ∀ t G C cl fp, PTs (X.blk t G scope (compEnvC scope cl C X.env) fp) ifs tt)
    (hk : ∀ t G C cl fp, PE (X.blk t G scope (compEnvC scope cl C X.env) fp) kx tk) (he : ∀ t G C cl fp, PE (X.blk t G scope (compEnvC scope cl C X.env) fp) vx tv) (hs : ∀ x, foldedSetIterable iter X.env x = pure x)
    (h : tDq o wi g tt tk tv (own.map (·.2)) σ H Q)
    (fin : ∀ D C t m Hz, Inv X pins σ Hz t → Q (.ref D) Hz → t.heap.Ns C m → FpOk X pins Hz C → compPost (model X.prog X.w) X.A X.xe use Qf (.ref D) C (.ok .next) t) :
    wpAny (model X.prog X.w) X.A (comprehension (.DictComp kx vx [⟨tg, iter, ifs, 0⟩] scope pos) scope X.env pos' newDict false (eval iter X.env) use) Qf X.xe s := by
  have cells : ∀ y ∈ scope.names, y.2 = .free → ∃ c, X.env.cells.lookup y.1 = some c := by
    intro y hy e
    exact (bok.free y hy e).elim (fun k => I.ok.has _ (.inl k)) (fun k => I.ok.has _ (.inr k))
  refine wpAny_comprehension_free (use := use) rfl hs (closure_ok cells) bok.kind (fun y hy e => by rw [bok.uniq y hy, e]) ?_
  refine thn (hi.run pins s σ H _ I h) fun xv s1 hx => thn hx fun itv s2 ⟨it, fp, tn, J, G, e, J2, T, st2, f2, q⟩ => ?_
  subst e
  refine wpAny_newObj_type (newEnv_comp ?_)
  generalize eD : s2.heap.objs.size = D
  have freeD : G D = none := J2.hok.fresh (Nat.le_of_eq eD)
  obtain ⟨W, ⟨m0, w0⟩, turn⟩ := q D freeD
  generalize e3 : ({ s2 with heap := s2.heap.push { cls := .type "dict", data := .dict #[] } } : Shared) = s3
  have heap3 : s3.heap = s2.heap.push { cls := .type "dict", data := .dict #[] } := by subst e3; rfl
  have keep3 : ∀ b ob, s2.heap.get? b = some ob → s3.heap.get? b = some ob := fun b ob e => by rw [heap3]; exact Heap.get?_push_of_some _ e
  have J3 : Inv X pins σ (upd G D o) s3 := by
    subst e3
    refine J2.laid (t' := s2.toks) (fun b ob e => Heap.get?_push_of_some _ e) (Nat.le_of_eq eD) ?_
    subst eD
    exact dq_empty ho s2.heap J2.big
  have old : ∀ b ∈ fp, b < s2.heap.objs.size := by
    intro b hb
    obtain ⟨ob, e, _⟩ := T.obj _ _ st2 b hb
    exact Heap.lt_size e
  have f3 : ∀ b ∈ fp, FpOk X pins (upd G D o) b ∧ b < s3.heap.objs.size := by
    intro b hb
    have lt := old b hb
    have ne : b ≠ D := by rw [← eD]; exact Nat.ne_of_lt lt
    refine ⟨⟨?_, (f2 b hb).2⟩, ?_⟩
    · rw [upd_ne ne]; exact (f2 b hb).1
    · rw [heap3, Heap.size_push]; exact Nat.lt_of_lt_of_le lt (Nat.le_succ _)
  have st3 : tn 0 s3.heap := T.keep _ _ _ st2 fun b _ ob e => keep3 b ob e
  have J4 := block_start J3 bok nd f3
  generalize eH : upd G D o = G3 at J3 J4 w0 f3
  generalize ecl : cellsFrom (s3.heap.objs.size + 1) scope.names (cloFrom X.env.cells scope.names []) = cl at J4
  generalize ece : compEnvC scope cl s3.heap.objs.size X.env = ce at J4
  have pg := hg s3 G3 s3.heap.objs.size cl fp
  have pt := ht s3 G3 s3.heap.objs.size cl fp
  have pk := hk s3 G3 s3.heap.objs.size cl fp
  have pe := he s3 G3 s3.heap.objs.size cl fp
  rw [ece] at pg pt pk pe
  show codeAny (model X.prog X.w) X.A (.compStart (.DictComp kx vx [⟨tg, iter, ifs, 0⟩] scope pos) 0 (.ref it) (.ref D) (compEnvC scope cl s3.heap.objs.size X.env)) (compPost (model X.prog X.w) X.A X.xe use Qf (.ref D) s3.heap.objs.size) { s3 with heap := pushCells (s3.heap.push { cls := .type "dict", data := .dict #[] }) scope.names }
  rw [ece]
  have eL : ce.locals = s3.heap.objs.size := by subst ece; rfl
  generalize e4 : ({ s3 with heap := pushCells (s3.heap.push { cls := .type "dict", data := .dict #[] }) scope.names } : Shared) = s4 at J4 ⊢
  have st4 : tn 0 s4.heap := T.keep _ _ _ st3 fun b _ ob e => by subst e4; exact pushCells_keeps _ _ _ _ (Heap.get?_push_of_some _ e)
  have away : ∀ b ∈ fp, G3 b = none := fun b hb => (f3 b hb).1.1
  generalize eY : X.blk s3 G3 scope ce fp = Y at J4 pg pt pk pe
  have hY : Y = X.blk s3 G3 scope ce fp := eY.symm
  have stat : ∀ {τ : St} {G' : Hp} {t : Shared}, Inv Y [] τ G' t → (∀ b ∈ fp, G' b = none) → ∀ b ∈ fp, FpOk Y [] G' b := by
    intro τ G' t K none b hb
    subst hY
    have ex := K.ok.exf b hb
    exact ⟨none b hb, ex.1, K.ok.exfs b hb, .inl hb, fun x c e => ex.2 x c e, fun p hp => by cases hp⟩
  have loop : codeAny (model X.prog X.w) X.A (.compLoop (.DictComp kx vx [⟨tg, iter, ifs, 0⟩] scope pos) 0 (.ref it) (.ref D) ce) (compPost (model X.prog X.w) X.A X.xe use Qf (.ref D) s3.heap.objs.size) s4 := by
    refine compLoop_anyD (fun n t => ∃ i G', Inv Y [] (wipe σ (own.map (·.2))) G' t ∧ tn i t.heap ∧ (∀ b ∈ fp, G' b = none) ∧ W i n G') ?_ m0 ⟨0, G3, J4, st4, away, w0⟩
    rintro n s5 ⟨i, G5, K5, st5, n5, w5⟩
    rcases turn i n G5 w5 with ⟨stop, qq⟩ | ⟨go, Nx, less, step⟩
    · have done := T.done Y (by subst hY; rfl) (by subst hY; rfl) (by subst hY; rfl) (by subst hY; exact calm) i [] s5 _ G5 (fun _ _ => False) K5 (stat K5 n5) st5 stop
      subst hY
      refine thnF done fun r s6 ⟨hr, K6⟩ => ?_
      subst hr
      have back : Inv X pins σ G5 s6 := J3.call' (ch := fp) K6.os K6.base K6.hok K6.bare fun b hb => by
        obtain ⟨⟨_, b1, b2, b3, b4, b5⟩, _⟩ := f3 b hb
        exact ⟨b3, b1, b4, b5⟩
      have nC : G5 s3.heap.objs.size = none := by rw [← eL]; exact K6.free
      obtain ⟨m, ns, _⟩ := K6.loc
      have ns' : s6.heap.Ns ce.locals m := ns
      rw [eL] at ns'
      exact fin D s3.heap.objs.size s6 m G5 back qq ns' (J3.fpOk (Nat.le_refl _) nC)
    · have item := T.item Y (by subst hY; rfl) (by subst hY; rfl) (by subst hY; rfl) (by subst hY; exact calm) i [] s5 _ G5 (fun _ _ => False) K5 (stat K5 n5) st5 go
      subst hY
      refine thnF item fun r s6 ⟨u, hr, h6⟩ => ?_
      subst hr
      refine thnF h6 fun _ s7 ⟨x, G7, K7, r7, y7, st7, n7⟩ => ?_
      have K7' := K7.pinned (stat K7 n7) (T.obj _ _ st7)
      refine thnF (pg.run _ s7 _ G7 x u _ K7' r7 (step x G7 y7)) fun _ s8 ⟨σ8, G8, K8, hw8, q8⟩ => ?_
      refine thnF (pt.run _ s8 σ8 G8 _ K8 q8) fun b s9 ⟨G9, K9, q9⟩ => ?_
      have next : ∀ {t : Shared} {Gn : Hp}, Inv (X.blk s3 G3 scope ce fp) ([] ++ pinsAt fp s7.heap) σ8 Gn t → Nx Gn → ∃ m, m < n ∧ ∃ i G', Inv (X.blk s3 G3 scope ce fp) [] (wipe σ (own.map (·.2))) G' t ∧ tn i t.heap ∧ (∀ b ∈ fp, G' b = none) ∧ W i m G' := by
        intro t Gn K nx
        obtain ⟨l, lt, wl⟩ := less Gn nx
        have pin : ∀ b ∈ fp, ∀ ob, s7.heap.get? b = some ob → t.heap.get? b = some ob ∧ Gn b = none := by
          intro b hb ob e
          have z := K.pin (b, ob) (List.mem_append_right _ (List.mem_append_right _ (mem_pinsAt hb e)))
          exact ⟨z.1, z.2.1⟩
        refine ⟨l, lt, i + 1, Gn, (K.unpinned (pins := [])).weak (by rw [← hw8, wipe_length]) ?_, T.keep _ _ _ st7 fun b hb ob e => (pin b hb ob e).1, ?_, wl⟩
        · intro j v e
          rw [← hw8] at e
          exact (wipe_some e).1
        · intro b hb
          obtain ⟨ob, e, _⟩ := T.obj _ _ st7 b hb
          exact (pin b hb ob e).2
      cases b with
      | false =>
        simp only [Bool.false_eq_true, if_false] at q9 ⊢
        exact next K9 q9
      | true =>
        simp only [ite_true] at q9 ⊢
        refine thnF (pk.run _ s9 σ8 G9 _ K9 q9) fun z s10 ⟨yk, G10, K10, r10, q10⟩ => ?_
        refine thnF (pe.run _ s10 σ8 G10 _ K10 q10) fun z2 s11 ⟨yv, G11, K11, r11, G12, dp, nx⟩ => ?_
        exact put_in (X := X.blk s3 G3 scope ce fp) hu K11 dp r10 r11 fun s12 K12 => next K12 nx
  exact codeAny_compStart_dict loop (T.self X.A 0 _ _ _ st4 loop)
theorem pe_dq {o : HO} (ho : o = .dK [] ∨ o = .dT []) (hu : X.A.units + 1 < cLine) {kx vx tg iter : Expr} {ifs : List Expr} {scope : Scope} {own : List (Str × Nat)} {pos : Pos} {wi : TI} {g : TG} {tt : TT} {tk tv : TE} (calm : X.calm = true) (nd : X.N.Nodup) (hi : PI X tg iter wi) (bok : BlkOk X.N X.env.scope scope own)
    (hg : ∀ t G C cl fp, PG (X.blk t G scope (compEnvC scope cl C X.env) fp) tg g) (ht : ∀ t G C cl fp, PTs (X.blk t G scope (compEnvC scope cl C X.env) fp) ifs tt)
    (hk : ∀ t G C cl fp, PE (X.blk t G scope (compEnvC scope cl C X.env) fp) kx tk) (he : ∀ t G C cl fp, PE (X.blk t G scope (compEnvC scope cl C X.env) fp) vx tv) (hs : ∀ x, foldedSetIterable iter X.env x = pure x) :
    PE X (.DictComp kx vx [⟨tg, iter, ifs, 0⟩] scope pos) (tDq o wi g tt tk tv (own.map (·.2))) := ⟨fun pins s σ H Q I h => by
  rw [arm_eval_DictComp]
  refine dq_core ho hu calm nd I hi bok hg ht hk he hs h fun D C t m Hz K q hn f => ⟨m, hn, fun g2 sb => ?_⟩
  obtain ⟨f0, f1, f2, f3, f4, f5⟩ := f
  exact ⟨.ref D, Hz, K.turned (t' := t.toks) (fun b ob hb e => (sb.2 b hb).trans e) f0 f1 f3 f4 f5, rfl, q⟩⟩
end
end Mi
end

section
set_option Elab.async false
set_option linter.all false
set_option maxRecDepth 100000
set_option maxHeartbeats 2000000
/-! Dd1: {x: True for x in ..} -/
namespace Mi
open PySem PySem.Spec L2
section
variable {C : PC} {W : WX} {k : Nat} {Γ : Sx}
def dqL (ck : Sto → Bool) (g : GM) (i : Nat) (v : T) (t : Bool) (ρ : Env) (S : Sto) : List T → List (T × T) → Option (List (T × T))
  | [], acc => if ck S = true then some acc else none
  | x :: xs, acc => if ck S = true then (match g x ρ with
    | some ρ1 => (match ρ1[i]? with
      | some (some y) => if keyOk t y = true then dqL ck g i v t ρ S xs (putT acc y v) else none
      | _ => none)
    | none => none) else none
def eDq (t : Bool) (f : IM) (g : GM) (i : Nat) (v : T) (vs : List Nat) : EM := fun ρ S => (f ρ S).bind fun it S1 => R.if (decide (it.items.length ≤ line)) (match dqL it.chk g i v t (wipeE ρ vs) S1 it.items [] with
  | some l => .ok (.obj S1.length) (S1 ++ [.dic t l])
  | none => .bad)
theorem putT_len {l : List (T × T)} {y x : T} : (putT l y x).length ≤ l.length + 1 := by
  unfold putT
  split
  · rw [List.length_map]; omega
  · rw [List.length_append]; exact Nat.le_refl _
theorem rd_put {m : Mp} {H : Hp} {D : Addr} {t : Bool} {acc : List (T × T)} {u : HO} {yv : V} {y : T} {b : Bool} (rd : RD m H t acc u) (hD : H D = none) (ry : Rp m H yv y) (hk : keyOk t y = true) (hl : acc.length < line) :
    ∃ u', DPut (upd H D u) D yv (.bl b) (upd H D u') ∧ RD m H t (putT acc y (.bl b)) u' := by
  cases t with
  | false =>
    obtain ⟨kvs, rfl, rk⟩ := rd
    obtain ⟨kk, h⟩ := Option.isSome_iff_exists.mp hk
    have ey := keyK_eq h
    have ev := keyK_rp h ry
    subst ey ev
    refine ⟨.dK (putK kvs kk (.bl b)), ?_, _, rfl, rk.put (.bl b) rfl⟩
    have := DPut.k (H := upd H D (.dK kvs)) (a := D) (k := kk) (v := .bl b) upd_same (by rw [rk.length, sizeLine_eq]; exact hl)
    rw [upd_upd] at this
    exact this
  | true =>
    obtain ⟨kvs, rfl, rk⟩ := rd
    cases y with
    | tup ks =>
      obtain ⟨kk, h⟩ := Option.isSome_iff_exists.mp hk
      cases ry with
      | @tup c ys _ hc _ rr =>
        have e1 := keysL_eq h
        have e2 := keysL_rp h rr
        subst e1 e2
        refine ⟨.dT (putK kvs kk (.bl b)), ?_, _, rfl, rk.put (.bl b) rfl⟩
        have := DPut.t (H := upd H D (.dT kvs)) (a := D) (b := c) (k := kk) (v := .bl b) upd_same (by rw [upd_ne (ne_of_none hc hD)]; exact hc) (by rw [rk.length, sizeLine_eq]; exact hl)
        rw [upd_upd] at this
        exact this
    | _ => cases hk
def dq0 (t : Bool) : HO := match t with
  | false => .dK []
  | true => .dT []
theorem dq0_or {t : Bool} : dq0 t = .dK [] ∨ dq0 t = .dT [] := by cases t <;> simp [dq0]
theorem dq_sem {t : Bool} {f : IM} {g : GM} {sl vs : List Nat} {i : Nat} {b : Bool} (hsl : ∀ i ∈ sl, i ∈ vs) {σ : St} {H : Hp} {Q : VK} (h : tr C W (eDq t f g i (.bl b) vs) σ H Q) :
    tDq (dq0 t) (trI C W f) (trG g sl) (fun _ H Q => Q true H) (tVar i) (tC (.bl b)) vs σ H Q := by
  obtain ⟨m, ρ, S, re, rs, h⟩ := h
  refine ⟨m, ρ, S, re, rs, ?_⟩
  unfold eDq at h
  cases ef : f ρ S with
  | bad => rw [ef] at h; exact h
  | exc cn fs S1 => rw [ef] at h; exact h
  | ok it S1 =>
    rw [ef] at h
    have h' : Post C W Rp m H σ Q (R.if (decide (it.items.length ≤ line)) (match dqL it.chk g i (.bl b) t (wipeE ρ vs) S1 it.items [] with
      | some l => .ok (.obj S1.length) (S1 ++ [.dic t l])
      | none => .bad)) := h
    obtain ⟨hb, h'⟩ := Post.if h'
    have hlen : it.items.length ≤ line := of_decide_eq_true hb
    cases el : dqL it.chk g i (.bl b) t (wipeE ρ vs) S1 it.items [] with
    | none => simp only [el] at h'; exact h'.elim
    | some l =>
      simp only [el] at h'
      intro m1 H1 J l1 rs1 wk D hD
      refine ⟨fun j n Hc => n = it.items.length - j ∧ j ≤ it.items.length ∧ ∃ m' Hd acc u, Hc = upd Hd D u ∧ Hd D = none ∧ Le m1 H1 m' Hd ∧ RS m' Hd S1 ∧ acc.length ≤ j ∧ RD m' Hd t acc u ∧ (∀ ys, u ≠ .tup ys) ∧ dqL it.chk g i (.bl b) t (wipeE ρ vs) S1 (it.items.drop j) acc = some l,
        ⟨it.items.length, by simp, Nat.zero_le _, m1, H1, [], dq0 t, rfl, hD, .refl, rs1, Nat.le_refl _, (by cases t <;> exact ⟨[], rfl, .nil⟩), (by intro ys z; cases t <;> cases z), (by rw [List.drop_zero]; exact el)⟩, ?_⟩
      rintro j n Hc ⟨rfl, hj, m', Hd, acc, u, rfl, hd, l', rs', ha, rd, nt, hq⟩
      have up : ∀ a w, Hd a = some w → upd Hd D u a = some w := fun a w q => by rw [upd_ne (ne_of_none q hd)]; exact q
      have dn : ∀ a ys, upd Hd D u a = some (.tup ys) → Hd a = some (.tup ys) := fun a ys q => by
        by_cases e : a = D
        · rw [e, upd_same] at q; cases q; exact absurd rfl (nt ys)
        · rw [upd_ne e] at q; exact q
      by_cases hlt : j < it.items.length
      · right
        rw [List.drop_eq_getElem_cons hlt] at hq
        unfold dqL at hq
        by_cases hck : it.chk S1 = true
        · rw [if_pos hck] at hq
          obtain ⟨go, yl⟩ := wk.go l' rs' hck up dn hlt
          refine ⟨go, fun H2 => ∃ m2 Hd2 acc2 u2, H2 = upd Hd2 D u2 ∧ Hd2 D = none ∧ Le m1 H1 m2 Hd2 ∧ RS m2 Hd2 S1 ∧ acc2.length ≤ j + 1 ∧ RD m2 Hd2 t acc2 u2 ∧ (∀ ys, u2 ≠ .tup ys) ∧ dqL it.chk g i (.bl b) t (wipeE ρ vs) S1 (it.items.drop (j + 1)) acc2 = some l,
            fun H2 z => ⟨it.items.length - (j + 1), by omega, rfl, hlt, z⟩, fun x H2 y => ?_⟩
          obtain ⟨tt, e1, yy⟩ := yl x H2 y
          have et : it.items[j] = tt := by simpa [hlt] using e1
          rw [et] at hq
          obtain ⟨Hd2, eH2, hd2, ex, rxt⟩ : ∃ Hd2, H2 = upd Hd2 D u ∧ Hd2 D = none ∧ Ext m' Hd m' Hd2 ∧ Rp m' Hd2 x tt := by
            rcases yy with ⟨e5, r5⟩ | ⟨p, ws, l5, e6, hpn, e5, e7, rl⟩
            · exact ⟨Hd, e5, hd, .refl, r5⟩
            · have pD : p ≠ D := fun z => by rw [z, upd_same] at hpn; cases hpn
              have hpd : Hd p = none := by rw [upd_ne pD] at hpn; exact hpn
              subst e6 e7
              refine ⟨upd Hd p (.tup ws), ?_, by rw [upd_ne (Ne.symm pD)]; exact hd, .alloc hpd, .newTup rs' hpd rl⟩
              rw [e5]
              funext c
              unfold upd
              by_cases z1 : c = p
              · have z2 : c ≠ D := fun z => pD (by rw [← z1, z])
                rw [if_pos z1, if_neg z2, if_pos z1]
              · rw [if_neg z1]
                by_cases z2 : c = D
                · rw [if_pos z2, if_pos z2]
                · rw [if_neg z2, if_neg z2, if_neg z1]
          subst eH2
          have up2 : ∀ a w, Hd2 a = some w → upd Hd2 D u a = some w := fun a w q => by rw [upd_ne (ne_of_none q hd2)]; exact q
          refine ⟨m', Hd2, wipeE ρ vs, tt, up2, wipe_re (((re.le l1).le l').le ex.1) vs, rxt, ?_⟩
          cases eg : g tt (wipeE ρ vs) with
          | none => simp only [eg] at hq; cases hq
          | some ρ1 =>
            simp only [eg] at hq ⊢
            intro σ2 re2 ou
            refine ⟨wipe_outs ou hsl, ?_⟩
            simp only [ite_true]
            cases ei : ρ1[i]? with
            | none => simp only [ei] at hq; cases hq
            | some o1 =>
              cases o1 with
              | none => simp only [ei] at hq; cases hq
              | some y1 =>
                simp only [ei] at hq
                by_cases hko : keyOk t y1 = true
                · rw [if_pos hko] at hq
                  obtain ⟨v1, hv1, rv1⟩ := re2.2 i y1 ei
                  refine ⟨v1, hv1, ?_⟩
                  obtain ⟨u', dp, rd'⟩ := rd_put (b := b) (rd.le ex.1) hd2 rv1 hko (by have : line = 16777216 := rfl; omega)
                  refine ⟨_, dp, m', Hd2, _, u', rfl, hd2, l'.trans ex.1, ex.2 _ rs', ?_, rd', ?_, hq⟩
                  · have := putT_len (l := acc) (y := y1) (x := .bl b)
                    omega
                  · intro ys z
                    subst z
                    cases t with
                    | false => obtain ⟨_, z, _⟩ := rd'; cases z
                    | true => obtain ⟨_, z, _⟩ := rd'; cases z
                · rw [if_neg hko] at hq; cases hq
        · rw [if_neg hck] at hq; cases hq
      · left
        have e1 : j = it.items.length := by omega
        subst e1
        rw [List.drop_length] at hq
        unfold dqL at hq
        by_cases hck : it.chk S1 = true
        · rw [if_pos hck] at hq
          have ea : acc = l := Option.some.inj hq
          rw [ea] at rd
          refine ⟨wk.stop l' rs' hck up, ?_⟩
          obtain ⟨lr, rsr, rpr⟩ := reg_any (u := u) (o := .dic t l) rs' hd fun m2 H2 l2 e => ⟨u, e, rd.le l2⟩
          exact h' _ _ _ ((l1.trans l').trans lr) rsr rpr
        · rw [if_neg hck] at hq; cases hq
theorem de_dq {t : Bool} {tg iter : Expr} {scope : Scope} {own : List (Str × Nat)} {f : IM} {g : GM} {sl : List Nat} {i : Nat} {x : Str} {b : Bool} {j : Nat} {pos px pv : Pos} (ok2 : BlkOk Γ.N Γ.sc scope own) (hi : DI C k Γ tg iter f) (hg : DG C k (blkX Γ scope) tg g sl)
    (hsl : ∀ i ∈ sl, i ∈ own.map (·.2)) (hN : Γ.N[i]? = some x) (hv : Vis (blkX Γ scope).sc x) (hd : (x == ("__debug__" : Str)) = false) (hc : (x == ("__classdict__" : Str)) = false) (hs : noSet iter = true) :
    DE C k Γ (.DictComp (.Name x px) (.Constant (.bool b) j pv) [⟨tg, iter, [], 0⟩] scope pos) (eDq t f g i (.bl b) (own.map (·.2))) := fun X W ok tk => by
  refine PE.weak (pe_dq (dq0_or (t := t)) ok.units1 ok.calm (by rw [ok.N]; exact ok.nd) (hi X W ok tk) (by rw [ok.N, ok.sc]; exact ok2) (fun s H Ca cl fp => hg _ (ok.blk s H scope cl Ca fp)) (fun s H Ca cl fp => pts_nil)
    (fun s H Ca cl fp => pe_var ((ok.blk s H scope cl Ca fp).name (Γ := blkX Γ scope) hN) ((ok.blk s H scope cl Ca fp).vis hv) hd hc) (fun s H Ca cl fp => pe_bl) (folded_no hs)) fun σ H Q h => ?_
  exact dq_sem hsl h
end
end Mi
end

section
set_option Elab.async false
set_option linter.all false
set_option maxRecDepth 100000
set_option maxHeartbeats 2000000
/-! Dd2: name = {x: True for x in ..} -/
namespace Mi
open PySem PySem.Spec L2
section
variable {X : Cx}
theorem dq_swaps {kx vx : Expr} {gs : List Comprehension} {scope : Scope} {pos py : Pos} {y : Str} {l : Nat} {env : PySem.Env} (fn : env.scope.kind = .function) (loc : env.scope.names.lookup y = some .local) (same : (py.line == pos.line) = true)
    (no : (scope.names.any fun (n, k) => n == y && (k == .local || k == .cell)) = false) : swapsWith (.DictComp kx vx gs scope pos) (some (.Name y py)) l env = pure true := by
  have k1 : env.kindOf y = some .local := loc
  have k2 : env.blockKind = .function := by unfold PySem.Env.blockKind; rw [fn]; rfl
  simp only [swapsWith, k1, k2, no, same, Expr.pos]
  rfl
theorem ps_setDq {o : HO} (ho : o = .dK [] ∨ o = .dT []) (hu : X.A.units + 1 < cLine) {i : Nat} {y : Str} {py : Pos} {kx vx tg iter : Expr} {ifs : List Expr} {scope : Scope} {own : List (Str × Nat)} {pos spos : Pos} {wi : TI} {g : TG} {tt : TT} {tk tv : TE} (calm : X.calm = true) (nd : X.N.Nodup) (hy : X.N[i]? = some y)
    (loc : X.env.scope.names.lookup y = some .local) (sw : swapsWith (.DictComp kx vx [⟨tg, iter, ifs, 0⟩] scope pos) (some (.Name y py)) spos.line X.env = pure true) (hi : PI X tg iter wi) (bok : BlkOk X.N X.env.scope scope own)
    (hg : ∀ t G C cl fp, PG (X.blk t G scope (compEnvC scope cl C X.env) fp) tg g) (ht : ∀ t G C cl fp, PTs (X.blk t G scope (compEnvC scope cl C X.env) fp) ifs tt)
    (hk : ∀ t G C cl fp, PE (X.blk t G scope (compEnvC scope cl C X.env) fp) kx tk) (he : ∀ t G C cl fp, PE (X.blk t G scope (compEnvC scope cl C X.env) fp) vx tv) (hs : ∀ x, foldedSetIterable iter X.env x = pure x) :
    PS X (.Assign [.Name y py] (.DictComp kx vx [⟨tg, iter, ifs, 0⟩] scope pos) spos) (tAsg (tDq o wi g tt tk tv (own.map (·.2))) (gName i)) := ⟨fun pins s σ H D I h => by
  rw [exec_Assign_Name_used _ _ _ _ sw]
  refine wpAny_bind (wpAny_standAt (wpAny_bind ?_))
  have q : tDq o wi g tt tk tv (own.map (·.2)) σ H (fun x G => gName i x σ G D.nx) := h
  show wpAny _ X.A (do let _ ← comprehension (.DictComp kx vx [⟨tg, iter, ifs, 0⟩] scope pos) scope X.env (firstIterPos [⟨tg, iter, ifs, 0⟩] pos) newDict false (eval iter X.env) (some (assign (.Name y py) X.env))) _ _ s
  refine wpAny_bind (thn (dq_core (Qf := fun _ t => SP X pins D .next t) ho hu calm nd I hi bok hg ht hk he hs q ?_) fun _ t hq => wpAny_pure (wpAny_pure hq))
  intro L C t m Hz K fin hn f
  obtain ⟨f0, f1, f2, f3, f4, f5⟩ := f
  show wpAny _ _ (assign (.Name y py) X.env (.ref L)) _ _ _
  refine wpAny_assign_Name (store_ok2 (v := V.ref L) K nd hy (.inl loc) rfl (fun s2 I2 ⟨a, sb, ha⟩ => ?_) (.inr loc))
  have ne : C ≠ a := ha.elim (fun z => by rw [z]; exact f1) (fun z e => f4 y a z e.symm)
  exact ⟨m, hn.sameBut sb ne, fun h3 sb3 => ⟨_, Hz, I2.turned (t' := s2.toks) (fun b ob hb e => (sb3.2 b hb).trans e) f0 f1 f3 f4 f5, fin⟩⟩⟩
end
section
variable {C : PC} {W : WX} {k : Nat} {Γ : Sx}
theorem setN_dq {t : Bool} {i : Nat} {f : IM} {g : GM} {n : Nat} {b : Bool} {vs : List Nat} {D : Ends} {σ : St} {H : Hp} (h : trS C W (sSet i (eDq t f g n (.bl b) vs)) D σ H) : tr C W (eDq t f g n (.bl b) vs) σ H (fun v H1 => D.nx (σ.set i (some v)) H1) := by
  obtain ⟨m, ρ, S, re, rs, h⟩ := h
  refine ⟨m, ρ, S, re, rs, ?_⟩
  exact (PostS.then re h).mono fun v H1 ⟨m1, a, S1, l1, rs1, r1, q1⟩ => q1 m1 H1 _ .refl rs1 ((re.le l1).set r1 i)
theorem ds_setDq {t : Bool} {i n : Nat} {y x : Str} {py px pv : Pos} {tg iter : Expr} {scope : Scope} {own : List (Str × Nat)} {f : IM} {g : GM} {sl : List Nat} {b : Bool} {j : Nat} {pos spos : Pos} (hy : Γ.N[i]? = some y) (hyl : Γ.sc.names.lookup y = some .local) (hk : Γ.sc.kind = .function) (hl : (py.line == pos.line) = true)
    (ha : (scope.names.any fun (n, k) => n == y && (k == .local || k == .cell)) = false) (ok2 : BlkOk Γ.N Γ.sc scope own) (hi : DI C k Γ tg iter f) (hg : DG C k (blkX Γ scope) tg g sl) (hsl : ∀ i ∈ sl, i ∈ own.map (·.2))
    (hN : Γ.N[n]? = some x) (hv : Vis (blkX Γ scope).sc x) (hd : (x == ("__debug__" : Str)) = false) (hc : (x == ("__classdict__" : Str)) = false) (hs : noSet iter = true) :
    DS C k Γ (.Assign [.Name y py] (.DictComp (.Name x px) (.Constant (.bool b) j pv) [⟨tg, iter, [], 0⟩] scope pos) spos) (sSet i (eDq t f g n (.bl b) (own.map (·.2)))) := fun X W ok tk => by
  refine PS.weak (ps_setDq (dq0_or (t := t)) ok.units1 ok.calm (by rw [ok.N]; exact ok.nd) (ok.name hy) (by rw [ok.sc]; exact hyl) (dq_swaps (by rw [ok.sc]; exact hk) (by rw [ok.sc]; exact hyl) hl ha) (hi X W ok tk) (by rw [ok.N, ok.sc]; exact ok2) (fun s H Ca cl fp => hg _ (ok.blk s H scope cl Ca fp)) (fun s H Ca cl fp => pts_nil)
    (fun s H Ca cl fp => pe_var ((ok.blk s H scope cl Ca fp).name (Γ := blkX Γ scope) hN) ((ok.blk s H scope cl Ca fp).vis hv) hd hc) (fun s H Ca cl fp => pe_bl) (folded_no hs)) fun D σ H h => ?_
  exact dq_sem hsl (setN_dq h)
end
end Mi
end

section
set_option Elab.async false
set_option linter.all false
set_option maxRecDepth 100000
set_option maxHeartbeats 2000000
/-! Dn0: from the text to its denotation -/
namespace Mi
open PySem PySem.Spec L2
/-- what is known of the module -/
structure Gx where
  gi : List (Str × Int)
  frees : List Str
  fns : List (Str × Nat × List T × FM)
  rs : List (Str × Str)
  xn : Xn
  fld : Str
  cl : List (Str × (Str → Bool) × (Str → Bool))
  muts : List Str
  dts : List Str
  lks : List Str
structure Dn where
  e : Sx → Expr → Option EM
  n : Sx → Expr → Option LM
  b : Sx → Expr → Option BM
  i : Sx → Expr → Expr → Option IM
  g : Sx → Expr → Option (GM × List Nat)
  s : Sx → Stmt → Option SM
  x : Sx → Nat → Expr → Option XV
def on {α : Type} (b : Bool) (x : Option α) : Option α := match b with
  | true => x
  | false => none
theorem on_some {α : Type} {b : Bool} {x : Option α} {r : α} (h : on b x = some r) : b = true ∧ x = some r := by
  cases b with
  | true => exact ⟨rfl, h⟩
  | false => cases h
def ixOf : List Str → Str → Nat → Option Nat
  | [], _, _ => none
  | y :: l, x, k => if (y == x) = true then some k else ixOf l x (k + 1)
def okName (x : Str) : Bool := !(x == ("__debug__" : Str)) && !(x == ("__classdict__" : Str)) && !(x == ("__name__" : Str))
def isGl (Γ : Sx) (x : Str) : Bool := match Γ.sc.names.lookup x with
  | some .globalImplicit => true
  | _ => false
def isVis (Γ : Sx) (x : Str) : Bool := match Γ.sc.names.lookup x with
  | some .local => true
  | some .cell => true
  | some .free => true
  | _ => false
def isLocal (Γ : Sx) (x : Str) : Bool := match Γ.sc.names.lookup x with
  | some .local => true
  | _ => false
/-- a name that may be stored -/
def isSto (Γ : Sx) (x : Str) : Bool := match Γ.sc.names.lookup x with
  | some .local => true
  | some .cell => Γ.fn x
  | _ => false
def varE (Γ : Sx) (x : Str) : Option EM := on (isVis Γ x && okName x) ((ixOf Γ.N x 0).map eVar)
def nameE (G : Gx) (Γ : Sx) (x : Str) : Option EM := match isVis Γ x with
  | true => varE Γ x
  | false => on (isGl Γ x && okName x) ((G.gi.lookup x).map fun i => eC (.int i))
def asL (f : Expr → Option EM) : List Expr → Option AM
  | [] => some aNil
  | e :: es => on (noStar e) ((f e).bind fun x => (asL f es).map fun y => aCons x y)
def binT : Operator → Option (Sto → T → T → R T)
  | .Add => some addL
  | .Sub => some subT
  | .Mult => some mulL
  | .FloorDiv => some fdivT
  | .Mod => some modT
  | .Pow => some powT
  | .LShift => some shlT
  | .RShift => some shrT
  | .BitAnd => some andT
  | _ => none
def cmpT : CmpOp → Option (Sto → T → T → R T)
  | .Eq => some eqA
  | .NotEq => some neA
  | .Lt => some ltA
  | .LtE => some leT
  | .Gt => some gtT
  | .GtE => some geT
  | .Is => some isNT
  | .IsNot => some notNT
  | .In => some (inD id)
  | .NotIn => some (inD not)
/-- built-ins by values -/
def bltB : List (Str × (Sto → List T → R T)) := [("len", fLen), ("abs", fAbs), ("sum", fSum), ("all", fAll), ("any", fAny), ("repr", fRepr)]
def bltT : List (Str × (Sto → List T → R T)) := [("int", fInt), ("tuple", fTup)]
def tyNames : List (Str × String) := [("int", "int"), ("bool", "bool"), ("tuple", "tuple"), ("str", "str"), ("list", "list")]
def callE (G : Gx) (d : Dn) (Γ : Sx) (x : Str) (es : List Expr) : Option EM := on (isGl Γ x && okName x) (match G.fns.lookup x with
  | some (n, dt, φ) => (asL (d.e Γ) es).map (eCall φ n dt)
  | none => on (G.frees.contains x) (match x == ("isinstance" : Str) with
    | true => (match es with
      | [e, .Name y _] => on (noStar e && (isGl Γ y && (okName y && G.frees.contains y))) ((tyNames.lookup y).bind fun n => (d.e Γ e).map (eIs n))
      | _ => none)
    | false => (match x == ("max" : Str), x == ("min" : Str) with
      | true, _ => (match es with
        | [_] => (asL (d.e Γ) es).map (eB fMax)
        | [_, _] => (asL (d.e Γ) es).map (eB fMax2)
        | _ => none)
      | _, true => (match es with
        | [_] => (asL (d.e Γ) es).map (eB fMin)
        | [_, _] => (asL (d.e Γ) es).map (eB fMin2)
        | _ => none)
      | _, _ => (match es with
        | [] => none
        | _ :: _ => (match bltB.lookup x with
          | some f => (asL (d.e Γ) es).map (eB f)
          | none => (match bltT.lookup x with
            | some f => (asL (d.e Γ) es).map (eB f)
            | none => none))))))
def vL (f : Expr → Option EM) (op : BoolOp) : List Expr → Option EM
  | [] => none
  | [a] => f a
  | a :: b :: r => (f a).bind fun x => (vL f op (b :: r)).map fun y => match op with
    | .And => eAnd x y
    | .Or => eOr x y
def wL (f : Expr → Option BM) (op : BoolOp) : List Expr → Option BM
  | [] => none
  | [a] => f a
  | a :: b :: r => (f a).bind fun x => (wL f op (b :: r)).map fun y => match op with
    | .And => bAnd x y
    | .Or => bOr x y
def oL (f : Expr → Option EM) : Option Expr → Option OM
  | none => some oNone
  | some e => (f e).map oSome
def stE (G : Gx) (d : Dn) (Γ : Sx) (e : Expr) : Option EM := match e with
  | .Name x _ => nameE G Γ x
  | .Constant (.int i) _ _ => some (eC (.int i))
  | .Constant (.bool b) _ _ => some (eC (.bl b))
  | .Constant .none _ _ => some (eC .non)
  | .Constant (.str s) _ _ => some (eC (.str s))
  | .Tuple es _ _ => (asL (d.e Γ) es).map eTup
  | .BinOp a op b _ => (binT op).bind fun f => (d.e Γ a).bind fun x => (d.e Γ b).map fun y => e2 f x y
  | .UnaryOp .USub a _ => (d.e Γ a).map (e1 negT)
  | .UnaryOp .Not a _ => (d.e Γ a).map eNot
  | .BoolOp op es _ => vL (d.e Γ) op es
  | .IfExp c a b _ => (d.b Γ c).bind fun z => (d.e Γ a).bind fun x => (d.e Γ b).map fun y => eIf z x y
  | .Compare a [op] [b] _ => on (!behindInMarks op b) ((cmpT op).bind fun f => (d.e Γ a).bind fun x => (d.e Γ b).map fun y => e2 f x y)
  | .Compare a [op, op'] [b, c] _ => on (!lastMarks [op, op'] [b, c]) ((cmpT op).bind fun f => (cmpT op').bind fun g => (d.e Γ a).bind fun x => (d.e Γ b).bind fun y => (d.e Γ c).map fun z => eChain f g x y z)
  | .Subscript a (.Slice lo hi none _) _ => (d.e Γ a).bind fun x => (oL (d.e Γ) lo).bind fun l => (oL (d.e Γ) hi).map fun h => eCut x l h
  | .Subscript a (.Slice none none (some (.UnaryOp .USub (.Constant (.int 1) _ _) _)) _) _ => (d.e Γ a).map eRevA
  | .Subscript a (.Slice lo hi (some se) _) _ => (d.e Γ a).bind fun x => (oL (d.e Γ) lo).bind fun l => (oL (d.e Γ) hi).bind fun h => (d.e Γ se).map fun s => eStep x l h (oSome s)
  | .Subscript a b _ => on (plainIx b) ((d.e Γ a).bind fun x => (d.e Γ b).map fun y => e2 ixA x y)
  | .Call (.Name x p) es [] pos => (match x == ("list" : Str) with
    | true => (d.n Γ (.Call (.Name x p) es [] pos)).map eFrz
    | false => callE G d Γ x es)
  | .Call (.Attribute o m ap) [a] [] cp => on (m == ("append" : Str) && (plainBase o && (noStar a && (ap.endLine == cp.line)))) ((d.e Γ o).bind fun x => (d.e Γ a).map fun y => eApp x y)
  | .Call (.Attribute o m ap) [a, b] [] cp => on (m == ("get" : Str) && (plainBase o && (noStar a && (noStar b && (ap.endLine == cp.line))))) ((d.e Γ o).bind fun x => (d.e Γ a).bind fun y => (d.e Γ b).map fun z => eGet x y z)
  | .List es p => (d.n Γ (.List es p)).map eFrz
  | .ListComp a gs s p => (d.n Γ (.ListComp a gs s p)).map eFrz
  | _ => none
/-- the slots of a block's own names -/
def ownL (N : List Str) (names : List (Str × NameKind)) : List (Str × Nat) := names.filterMap fun p => match p.2 with
  | .local => (ixOf N p.1 0).map fun i => (p.1, i)
  | .cell => (ixOf N p.1 0).map fun i => (p.1, i)
  | _ => none
def uniqB (names : List (Str × NameKind)) : Bool := names.all fun y => decide (names.lookup y.1 = some y.2)
def freeB (sc : Scope) (names : List (Str × NameKind)) : Bool := names.all fun y => match y.2 with
  | .free => (match sc.names.lookup y.1 with
    | some .cell => true
    | some .free => true
    | _ => false)
  | _ => true
def blkB (Γ : Sx) (scope : Scope) : Bool := (match scope.kind with
  | .function => true
  | _ => false) && (uniqB scope.names && freeB Γ.sc scope.names)
def tsL (f : Expr → Option BM) : List Expr → Option BM
  | [] => some bYes
  | [c] => f c
  | _ => none
def compN (d : Dn) (Γ : Sx) (elt : Expr) (gs : List Comprehension) (scope : Scope) : Option LM := on (blkB Γ scope) (match gs with
  | [⟨tg, iter, ifs, 0⟩] => on (noSet iter) ((d.i Γ tg iter).bind fun f => (d.g (blkX Γ scope) tg).bind fun g => on (g.2.all fun i => ((ownL Γ.N scope.names).map (·.2)).contains i)
      ((tsL (d.b (blkX Γ scope)) ifs).bind fun c => (d.e (blkX Γ scope) elt).map fun e => nComp f g.1 c e ((ownL Γ.N scope.names).map (·.2))))
  | [⟨tg, iter, ifs, 0⟩, ⟨tg1, iter1, ifs1, 0⟩] => on (noSet iter && noSet iter1) ((d.i Γ tg iter).bind fun f => (d.g (blkX Γ scope) tg).bind fun g => on (g.2.all fun i => ((ownL Γ.N scope.names).map (·.2)).contains i)
      ((tsL (d.b (blkX Γ scope)) ifs).bind fun c => (d.i (blkX Γ scope) tg1 iter1).bind fun f1 => (d.g (blkX Γ scope) tg1).bind fun g1 => on (g1.2.all fun i => ((ownL Γ.N scope.names).map (·.2)).contains i)
        ((tsL (d.b (blkX Γ scope)) ifs1).bind fun c1 => (d.e (blkX Γ scope) elt).map fun e => nComp2 f g.1 c f1 g1.1 c1 e ((ownL Γ.N scope.names).map (·.2)) g1.2)))
  | _ => none)
/-- the name that a comprehension walks as a dict -/
def lkOf (G : Gx) (Γ : Sx) (gs : List Comprehension) : Option Nat := match gs with
  | ⟨_, .Name x _, _, _⟩ :: _ => on (G.lks.contains x) (ixOf Γ.N x 0)
  | _ => none
def stNL (G : Gx) (d : Dn) (Γ : Sx) (e : Expr) : Option LM := match e with
  | .List es _ => (asL (d.e Γ) es).map nLst
  | .ListComp a gs s _ => (match lkOf G Γ gs with
    | some i => (compN d Γ a gs s).map (nLock i)
    | none => compN d Γ a gs s)
  | .Call (.Name x _) [a] [] _ => on (x == ("list" : Str) && (isGl Γ "list" && (G.frees.contains "list" && noStar a))) ((d.e Γ a).map nList)
  | .BinOp a .Add b _ => (d.e Γ a).bind fun x => (d.e Γ b).map fun y => nCat x y
  | .BinOp a .Mult b _ => (d.e Γ a).bind fun x => (d.e Γ b).map fun y => nRep x y
  | .Subscript a (.Slice lo hi none _) _ => (d.e Γ a).bind fun x => (oL (d.e Γ) lo).bind fun l => (oL (d.e Γ) hi).map fun h => nCut x l h
  | _ => none
def stB (d : Dn) (Γ : Sx) (e : Expr) : Option BM := match e with
  | .UnaryOp .Not a _ => (d.b Γ a).map bNot
  | .BoolOp op es _ => wL (d.b Γ) op es
  | .Compare a [op] [b] _ => on (!behindInMarks op b) ((cmpT op).bind fun f => (d.e Γ a).bind fun x => (d.e Γ b).map fun y => bVal (e2 f x y))
  | .Compare a [op, op'] [b, c] _ => on (!lastMarks [op, op'] [b, c]) ((cmpT op).bind fun f => (cmpT op').bind fun g => (d.e Γ a).bind fun x => (d.e Γ b).bind fun y => (d.e Γ c).map fun z => bVal (eChain f g x y z))
  | e => on (plainTest e) ((d.e Γ e).map bTru)
/-- what any value gives that is walked -/
def iAny (f : EM) : IM := fun ρ S => match f ρ S with
  | .ok (.tup l) S1 => .ok ⟨l, fun _ => true⟩ S1
  | .ok x S1 => (match dicOf S1 x with
    | some _ => iKeysT (fun _ S => .ok x S) ρ S1
    | none => iSeq (fun _ S => .ok x S) ρ S1)
  | .exc c fs S1 => .exc c fs S1
  | .bad => .bad
def stI (G : Gx) (d : Dn) (Γ : Sx) (tg e : Expr) : Option IM := match e with
  | .Call (.Name x _) es [] _ => (match x == ("range" : Str), x == ("enumerate" : Str), x == ("zip" : Str) with
    | true, _, _ => on (isGl Γ "range" && G.frees.contains "range") (match es with
      | [a] => on (noStar a) ((d.e Γ a).map iRange1)
      | [a, b] => on (noStar a && noStar b) ((d.e Γ a).bind fun x => (d.e Γ b).map fun y => iRange2 x y)
      | _ => none)
    | _, true, _ => on (isGl Γ "enumerate" && G.frees.contains "enumerate") (match tg, es with
      | .Tuple _ _ _, [a] => on (noStar a) ((d.e Γ a).map iEnumT)
      | _, _ => none)
    | _, _, true => on (isGl Γ "zip" && G.frees.contains "zip") (match tg, es with
      | .Tuple _ _ _, [a, b] => on (noStar a && noStar b) ((asL (d.e Γ) es).map iZipT)
      | _, _ => none)
    | _, _, _ => (d.e Γ e).map iAny)
  | e => (d.e Γ e).map iAny
def gsL (f : Expr → Option (GM × List Nat)) : List Expr → Option (GMs × List Nat)
  | [] => some (gsNil, [])
  | e :: es => on (match e with
    | .Name _ _ => true
    | .Tuple _ _ _ => true
    | _ => false) ((f e).bind fun g => (gsL f es).map fun r => (gsCons g.1 r.1, g.2 ++ r.2))
def stG (d : Dn) (Γ : Sx) (e : Expr) : Option (GM × List Nat) := match e with
  | .Name x _ => on (isSto Γ x) ((ixOf Γ.N x 0).map fun i => (gN i, [i]))
  | .Tuple es _ _ => (gsL (d.g Γ) es).map fun r => (gTupM es.length r.1, r.2)
  | _ => none
def isComp : Expr → Bool
  | .ListComp _ _ _ _ => true
  | _ => false
def kindFn (sc : Scope) : Bool := match sc.kind with
  | .function => true
  | _ => false
def clashB (scope : Scope) (y : Str) : Bool := scope.names.any fun (n, k) => n == y && (k == .local || k == .cell)
/-- {z: b for tg in iter} -/
def dqN (d : Dn) (Γ : Sx) (t : Bool) (z : Str) (b : Bool) (tg iter : Expr) (s : Scope) : Option EM := on (blkB Γ s && (noSet iter && (isVis (blkX Γ s) z && okName z)))
  ((d.i Γ tg iter).bind fun f => (d.g (blkX Γ s) tg).bind fun g => on (g.2.all fun i => ((ownL Γ.N s.names).map (·.2)).contains i) ((ixOf Γ.N z 0).map fun n => eDq t f g.1 n (.bl b) ((ownL Γ.N s.names).map (·.2))))
def assignS (G : Gx) (d : Dn) (Γ : Sx) (tg v : Expr) : Option SM := match tg with
  | .Name x px => on (isSto Γ x) ((ixOf Γ.N x 0).bind fun i => match v with
    | .ListComp a gs s p => (match isLocal Γ x with
      | true => on (kindFn Γ.sc && (px.line == p.line && !clashB s x)) (match lkOf G Γ gs with
        | some j => none
        | none => (compN d Γ a gs s).map fun L => sSet i (eKeep (G.muts.contains x) L))
      | false => (d.n Γ v).map fun L => sSet i (eKeep (G.muts.contains x) L))
    | .Dict [] [] p => some (sSet i (eDict (G.dts.contains x)))
    | .DictComp (.Name z _) (.Constant (.bool b) _ _) [⟨tg, iter, [], 0⟩] s p => (match isLocal Γ x with
      | true => on (kindFn Γ.sc && (px.line == p.line && !clashB s x)) ((dqN d Γ (G.dts.contains x) z b tg iter s).map fun e => sSet i e)
      | false => (dqN d Γ (G.dts.contains x) z b tg iter s).map fun e => sSet i e)
    | v => on (noComp v) (match G.muts.contains x with
      | true => (match d.n Γ v with
        | some L => some (sSet i (eKeep true L))
        | none => (d.e Γ v).map (sSet i))
      | false => (d.e Γ v).map (sSet i)))
  | .Subscript o j _ => on (noComp v && plainIx j) ((d.e Γ o).bind fun x => (d.e Γ j).bind fun y => (d.e Γ v).map fun z => sSubA x y z)
  | .Tuple ts kt pt => on (noComp v && kindFn Γ.sc) (match swOf true Γ.sc.names [.Tuple ts kt pt] v with
    | some none => (stG d Γ (.Tuple ts kt pt)).bind fun g => (d.e Γ v).map fun f => sAsg g.1 f
    | some (some l) => (match ts, v, l with
      | [.Name x _, .Name y _], .Tuple [a, b] _ _, [x', y'] => on (x == x' && (y == y' && (!(x == y) && (isLocal Γ x && isLocal Γ y)))) ((ixOf Γ.N x 0).bind fun i => (ixOf Γ.N y 0).bind fun j => on (!(i == j)) ((asL (d.e Γ) [a, b]).map fun g => sPar i j g))
      | _, _, _ => none)
    | none => none)
  | _ => none
def ssL (f : Stmt → Option SM) : List Stmt → Option SM
  | [] => some sNil
  | s :: r => (f s).bind fun x => (ssL f r).map fun y => sSeq x y
def xC (t : T) : XV := fun _ _ => some t
abbrev XVs : Type := Str → List (Str × T) → Option (List T)
def xNil : XVs := fun _ _ => some []
def xCons (v : XV) (w : XVs) : XVs := fun c fs => (v c fs).bind fun t => (w c fs).map (t :: ·)
def xTup (w : XVs) : XV := fun c fs => (w c fs).bind fun l => if l.length ≤ 100 then some (.tup l) else none
def xFld (n : Str) : XV := fun _ fs => fs.lookup n
def xIsi (m : Str → Bool) : XV := fun c _ => some (.bl (m c))
def xIf (vt va vb : XV) : XV := fun c fs => match vt c fs with
  | some (.bl true) => va c fs
  | some (.bl false) => vb c fs
  | _ => none
def xsL (f : Expr → Option XV) : List Expr → Option XVs
  | [] => some xNil
  | e :: es => on (noStar e) ((f e).bind fun v => (xsL f es).map fun w => xCons v w)
def stX (G : Gx) (d : Dn) (Γ : Sx) (i : Nat) (e : Expr) : Option XV := match e with
  | .Constant (.str x) _ _ => some (xC (.str x))
  | .Constant (.bool x) _ _ => some (xC (.bl x))
  | .Constant .none _ _ => some (xC .non)
  | .Tuple es _ _ => on (decide (es.length ≤ 100)) ((xsL (d.x Γ i) es).map xTup)
  | .Attribute (.Name x _) n _ => on (isVis Γ x && (okName x && (n == G.fld && decide (Γ.N[i]? = some x)))) (some (xFld n))
  | .Call (.Name f _) [.Name x _, .Name y _] [] _ => on (f == ("isinstance" : Str) && (isVis Γ x && (okName x && (okName y && (isGl Γ "isinstance" && (isGl Γ y && (G.frees.contains "isinstance" && decide (Γ.N[i]? = some x)))))))) ((G.cl.lookup y).map fun m => xIsi m.1)
  | .IfExp t a b _ => on (plainTest t) ((d.x Γ i t).bind fun vt => (d.x Γ i a).bind fun va => (d.x Γ i b).map fun vb => xIf vt va vb)
  | _ => none
def sxL (f : Expr → Option XV) : Nat → List Stmt → Option XV
  | 0, _ => none
  | n + 1, st => match st with
    | [.Return (some e) _] => f e
    | .If t a [] _ :: r => on (plainTest t) ((f t).bind fun vt => (sxL f n a).bind fun va => (sxL f n r).map fun vr => xIf vt va vr)
    | _ => none
def hsL (G : Gx) (d : Dn) (Γ : Sx) : List ExceptHandler → Option (List (Str × Option Nat × (Str → Bool) × XV))
  | [] => some []
  | .ExceptHandler (some (.Name x _)) none [.Return (some (.Constant (.bool b) _ _)) _] _ :: r => on (isGl Γ x && okName x) ((G.cl.lookup x).bind fun m => (hsL G d Γ r).map fun l => (x, none, m.2, xC (.bl b)) :: l)
  | .ExceptHandler (some (.Name x _)) (some n) (b :: su) _ :: r => on (isGl Γ x && (okName x && isLocal Γ n)) ((G.cl.lookup x).bind fun m => (ixOf Γ.N n 0).bind fun i => (sxL (d.x Γ i) 20 (b :: su)).bind fun v => (hsL G d Γ r).map fun l => (x, some i, m.2, v) :: l)
  | _ => none
def pickV (c : Str) : List (Str × Option Nat × (Str → Bool) × XV) → Option XV
  | [] => none
  | q :: r => if q.2.2.1 c then some q.2.2.2 else pickV c r
def sTryV (n : Nat) (xn : Xn) (f : SM) (cl : List (Str × Option Nat × (Str → Bool) × XV)) : SM := fun ρ S => match f ρ S with
  | .exc c fs ρ1 S1 => RF.if (xn c && decide (ρ1.length = n)) (match pickV c cl with
    | some v => (match v c fs with
      | some t => .go (.rt t) S1
      | none => .bad)
    | none => .exc c fs ρ1 S1)
  | r => r
noncomputable def stS (G : Gx) (d : Dn) (Γ : Sx) (s : Stmt) : Option SM := match s with
  | .Pass _ => some sNil
  | .Break _ => some sBreak
  | .Continue _ => some sCont
  | .Expr e _ => on (noComp e) ((d.e Γ e).map sDrop)
  | .Return (some e) _ => (d.e Γ e).map sRet
  | .Return none _ => some (sRet (eC .non))
  | .If c a b _ => (d.b Γ c).bind fun z => (ssL (d.s Γ) a).bind fun x => (ssL (d.s Γ) b).map fun y => sIf z x y
  | .Assign [tg] v _ => assignS G d Γ tg v
  | .AugAssign (.Name x _) .Add v _ => on (isSto Γ x) ((ixOf Γ.N x 0).bind fun i => (d.e Γ v).map fun f => sAug i iaddT f)
  | .AugAssign (.Name x _) .Sub v _ => on (isSto Γ x) ((ixOf Γ.N x 0).bind fun i => (d.e Γ v).map fun f => sAug i subT f)
  | .For tg it b [] _ => on (!Γ.blk && noSet it) ((d.i Γ tg it).bind fun f => (d.g Γ tg).bind fun g => (ssL (d.s Γ) b).map fun x => match it with
    | .Name y _ => (match G.lks.contains y, ixOf Γ.N y 0 with
      | true, some j => sLock j (sFor f g.1 x)
      | _, _ => sFor f g.1 x)
    | _ => sFor f g.1 x)
  | .While c b [] _ => on (!Γ.blk) ((d.b Γ c).bind fun z => (ssL (d.s Γ) b).map fun x => sLoop z x)
  | .Raise (some (.Call (.Name x _) [e] [] _)) none _ => on (isGl Γ x && (okName x && noStar e)) ((G.rs.lookup x).bind fun fl => (d.e Γ e).map fun f => sRaise x fl f)
  | .Try b (h :: hs) [] [] _ => on (!Γ.blk) ((ssL (d.s Γ) b).bind fun f => (hsL G d Γ (h :: hs)).map fun l => sTryV Γ.N.length G.xn f l)
  | _ => none
noncomputable def step (G : Gx) (d : Dn) : Dn where
  e := stE G d
  n := stNL G d
  b := stB d
  i := stI G d
  g := stG d
  s := stS G d
  x := stX G d
def dn0 : Dn where
  e := fun _ _ => none
  n := fun _ _ => none
  b := fun _ _ => none
  i := fun _ _ _ => none
  g := fun _ _ => none
  s := fun _ _ => none
  x := fun _ _ _ => none
noncomputable def dn (G : Gx) : Nat → Dn
  | 0 => dn0
  | n + 1 => step G (dn G n)
/-- a def's body -/
noncomputable def denD (G : Gx) (n : Nat) (N : List Str) (sc : Scope) (body : List Stmt) : Option SM := ssL ((dn G n).s ⟨N, sc, false, fun _ => true⟩) body
end Mi
end

section
set_option Elab.async false
set_option linter.all false
set_option maxRecDepth 100000
set_option maxHeartbeats 2000000
/-! Dn1: the denotation is right: expressions -/
namespace Mi
open PySem PySem.Spec L2
structure GOk (C : PC) (k : Nat) (G : Gx) : Prop where
  gi : ∀ x i, G.gi.lookup x = some i → ∃ t, C.mg x = some (.int i t)
  free : ∀ x, G.frees.contains x = true → C.mg x = none
  fns : ∀ x n dt φ, G.fns.lookup x = some (n, dt, φ) → ∃ f fd ps ds dvs, FnD C k f fd ps φ ∧ C.mg x = some (.ref f) ∧ PySem.W.keepIn C.K (.ref f) = true ∧ Binds C.K fd ps ds ∧ Flats dvs ds dt ∧ ps.length = n
  rs : ∀ x fl, G.rs.lookup x = some fl → ∃ fI j, RsnI C fI fl ∧ RsnC C fI fl (C.cls x) ∧ C.mg x = some (.ref (C.cls x)) ∧ k = j + 1
  xcl : ∀ c, G.xn c = true → XCl C c ∧ PySem.W.findIn C.K (.ref (C.cls c)) G.fld = some none
  cl : ∀ y m, G.cl.lookup y = some m → ∃ c2, C.mg y = some (.ref c2) ∧ (∀ c, G.xn c = true → PySem.W.kitOne C.K (.ref (C.cls c)) (.ref c2) = some (m.1 c)) ∧ (∀ c, G.xn c = true → PySem.W.exmOne C.K (.ref (C.cls c)) (.ref c2) = some (m.2 c))
structure DOk (C : PC) (k : Nat) (G : Gx) (d : Dn) : Prop where
  e : ∀ {Γ e f}, d.e Γ e = some f → DE C k Γ e f
  n : ∀ {Γ e f}, d.n Γ e = some f → DN C k Γ e f
  b : ∀ {Γ e f}, d.b Γ e = some f → DB C k Γ e f
  i : ∀ {Γ tg e f}, d.i Γ tg e = some f → DI C k Γ tg e f
  g : ∀ {Γ tg g}, d.g Γ tg = some g → DG C k Γ tg g.1 g.2
  s : ∀ {Γ s f}, d.s Γ s = some f → DS C k Γ s f
  x : ∀ {Γ i e v}, d.x Γ i e = some v → DX C k Γ G.xn i e v
theorem ixOf_ge : ∀ {l : List Str} {x : Str} {k i : Nat}, ixOf l x k = some i → k ≤ i ∧ l[i - k]? = some x
  | [], _, _, _, h => by cases h
  | y :: l, x, k, i, h => by
    unfold ixOf at h
    split at h
    · rename_i e
      cases h
      exact ⟨Nat.le_refl _, by rw [Nat.sub_self]; simp [eq_of_beq e]⟩
    · obtain ⟨h1, h2⟩ := ixOf_ge h
      refine ⟨by omega, ?_⟩
      rw [show i - k = (i - (k + 1)) + 1 by omega]
      simpa using h2
theorem ixOf_ok {l : List Str} {x : Str} {i : Nat} (h : ixOf l x 0 = some i) : l[i]? = some x := (ixOf_ge h).2
theorem ixOf_no : ∀ {l : List Str} {x : Str} {k : Nat}, ixOf l x k = none → x ∉ l
  | [], _, _, _ => List.not_mem_nil
  | y :: l, x, k, h => by
    unfold ixOf at h
    split at h
    · cases h
    · rename_i e
      intro z
      rcases List.mem_cons.mp z with z | z
      · subst z; exact e (by simp)
      · exact ixOf_no h z
theorem okName_ok {x : Str} (h : okName x = true) : (x == ("__debug__" : Str)) = false ∧ (x == ("__classdict__" : Str)) = false ∧ x ≠ "__name__" := by
  unfold okName at h
  simp only [Bool.and_eq_true, Bool.not_eq_true'] at h
  exact ⟨h.1.1, h.1.2, fun z => by have := h.2; rw [z] at this; simp at this⟩
theorem isGl_ok {Γ : Sx} {x : Str} (h : isGl Γ x = true) : SGl Γ x := by
  unfold isGl at h
  unfold SGl
  split at h
  · assumption
  · cases h
theorem isVis_ok {Γ : Sx} {x : Str} (h : isVis Γ x = true) : Vis Γ.sc x := by
  unfold isVis at h
  unfold Vis
  split at h
  · rename_i e; exact .inl e
  · rename_i e; exact .inr (.inl e)
  · rename_i e; exact .inr (.inr e)
  · cases h
theorem isLocal_ok {Γ : Sx} {x : Str} (h : isLocal Γ x = true) : Γ.sc.names.lookup x = some .local := by
  unfold isLocal at h
  split at h
  · assumption
  · cases h
theorem isLocal_no {Γ : Sx} {x : Str} (h : isLocal Γ x = false) : Γ.sc.names.lookup x ≠ some .local := by
  intro z
  unfold isLocal at h
  rw [z] at h
  cases h
theorem isSto_ok {Γ : Sx} {x : Str} (h : isSto Γ x = true) : Sto1 Γ x := by
  unfold isSto at h
  split at h
  · rename_i e; exact ⟨.inl e, .inr e⟩
  · rename_i e; exact ⟨.inr e, .inl h⟩
  · cases h
theorem kindFn_ok {sc : Scope} (h : kindFn sc = true) : sc.kind = .function := by
  unfold kindFn at h
  split at h
  · assumption
  · cases h
section
variable {C : PC} {k : Nat} {G : Gx} {d : Dn} {Γ : Sx}
theorem varE_ok {x : Str} {pos : Pos} {f : EM} (h : varE Γ x = some f) : DE C k Γ (.Name x pos) f := by
  obtain ⟨h1, h2⟩ := on_some h
  simp only [Bool.and_eq_true] at h1
  obtain ⟨i, h3, rfl⟩ := Option.map_eq_some_iff.mp h2
  obtain ⟨a, b, c⟩ := okName_ok h1.2
  exact de_var (ixOf_ok h3) (isVis_ok h1.1) a b
theorem nameE_ok (GO : GOk C k G) {x : Str} {pos : Pos} {f : EM} (h : nameE G Γ x = some f) : DE C k Γ (.Name x pos) f := by
  unfold nameE at h
  split at h
  · exact varE_ok h
  · obtain ⟨h1, h2⟩ := on_some h
    simp only [Bool.and_eq_true] at h1
    obtain ⟨i, h3, rfl⟩ := Option.map_eq_some_iff.mp h2
    obtain ⟨a, b, c⟩ := okName_ok h1.2
    exact de_glob (isGl_ok h1.1) (GO.gi x i h3) a
theorem asL_ok {g : Expr → Option EM} (hg : ∀ {e f}, g e = some f → DE C k Γ e f) : ∀ {es : List Expr} {f : AM}, asL g es = some f → DAs C k Γ es f ∧ es.all noStar = true
  | [], f, h => by cases h; exact ⟨da_nil, rfl⟩
  | e :: es, f, h => by
    obtain ⟨h1, h2⟩ := on_some h
    obtain ⟨x, h3, h4⟩ := Option.bind_eq_some_iff.mp h2
    obtain ⟨y, h5, rfl⟩ := Option.map_eq_some_iff.mp h4
    obtain ⟨h6, h7⟩ := asL_ok hg h5
    exact ⟨da_cons (hg h3) h6 h1, by rw [List.all_cons, h1, h7]; rfl⟩
theorem bin_ok {op : Operator} {f : Sto → T → T → R T} {a b : Expr} {fa fb : EM} {pos : Pos} (h : binT op = some f) (ha : DE C k Γ a fa) (hb : DE C k Γ b fb) : DE C k Γ (.BinOp a op b pos) (e2 f fa fb) := by
  cases op <;> cases h
  · exact de_addL ha hb
  · exact de_sub ha hb
  · exact de_mulL ha hb
  · exact de_mod ha hb
  · exact de_pow ha hb
  · exact de_shl ha hb
  · exact de_shr ha hb
  · exact de_and2 ha hb
  · exact de_fdiv ha hb
theorem cmp_ok {op : CmpOp} {f : Sto → T → T → R T} (h : cmpT op = some f) : ∀ X, XOk C k Γ X → ∃ r, OpR X (compareOp op) r ∧ Op2S C r f := by
  intro X ok
  cases op <;> cases h
  · exact ⟨_, op_eqA ok.units, op_eqAS (K := X.K)⟩
  · exact ⟨_, op_neA ok.units, op_neAS (K := X.K)⟩
  · exact ⟨_, op_ltA (by have := ok.units; omega), op_ltAS (K := X.K)⟩
  · exact ⟨_, op_le, op_i0 fun _ _ _ _ => .bl _⟩
  · exact ⟨_, op_gt, op_i0 fun _ _ _ _ => .bl _⟩
  · exact ⟨_, op_ge, op_i0 fun _ _ _ _ => .bl _⟩
  · exact ⟨_, op_isN, op_isNS⟩
  · exact ⟨_, op_notN, op_notNS⟩
  · exact in_ok X ok
  · exact notIn_ok X ok
theorem vL_ok {g : Expr → Option EM} (hg : ∀ {e f}, g e = some f → DE C k Γ e f) {op : BoolOp} : ∀ {es : List Expr} {f : EM}, vL g op es = some f → DV C k Γ op es f
  | [], f, h => by cases h
  | [a], f, h => dv_one (hg h)
  | a :: b :: r, f, h => by
    obtain ⟨x, h3, h4⟩ := Option.bind_eq_some_iff.mp h
    obtain ⟨y, h5, h6⟩ := Option.map_eq_some_iff.mp h4
    have ih := vL_ok hg h5
    cases op with
    | And => cases h6; exact dv_and (hg h3) ih
    | Or => cases h6; exact dv_or (hg h3) ih
theorem wL_ok {g : Expr → Option BM} (hg : ∀ {e f}, g e = some f → DB C k Γ e f) {op : BoolOp} : ∀ {es : List Expr} {f : BM}, wL g op es = some f → DW C k Γ op es f
  | [], f, h => by cases h
  | [a], f, h => dw_one (hg h)
  | a :: b :: r, f, h => by
    obtain ⟨x, h3, h4⟩ := Option.bind_eq_some_iff.mp h
    obtain ⟨y, h5, h6⟩ := Option.map_eq_some_iff.mp h4
    have ih := wL_ok hg h5
    cases op with
    | And => cases h6; exact dw_and (hg h3) ih
    | Or => cases h6; exact dw_or (hg h3) ih
theorem oL_ok {g : Expr → Option EM} (hg : ∀ {e f}, g e = some f → DE C k Γ e f) {o : Option Expr} {f : OM} (h : oL g o = some f) : DO C k Γ o f := by
  cases o with
  | none => cases h; exact do_none
  | some e =>
    obtain ⟨x, h1, rfl⟩ := Option.map_eq_some_iff.mp h
    exact do_some (hg h1)
theorem call_max2S : CallS C (fun xs H Q => ∃ i j, xs = [.int i, .int j] ∧ Q (.int (if j > i then j else i)) H) fMax2 := by
  intro W m H S σ us xs Q rs r q
  obtain ⟨i, j, rfl, h⟩ := fTwo_ok rs r q
  exact ⟨i, j, rfl, h⟩
theorem call_min2S : CallS C (fun xs H Q => ∃ i j, xs = [.int i, .int j] ∧ Q (.int (if j < i then j else i)) H) fMin2 := by
  intro W m H S σ us xs Q rs r q
  obtain ⟨i, j, rfl, h⟩ := fTwo_ok rs r q
  exact ⟨i, j, rfl, h⟩
end
end Mi
end

section
set_option Elab.async false
set_option linter.all false
set_option maxRecDepth 100000
set_option maxHeartbeats 4000000
/-! Dn2: the denotation is right: calls, expressions -/
namespace Mi
open PySem PySem.Spec L2
section
variable {C : PC} {k : Nat} {G : Gx} {d : Dn} {Γ : Sx}
theorem bltB_ok {x : Str} {f : Sto → List T → R T} (h : bltB.lookup x = some f) : ∃ id, bootBuiltins x = some (.builtin id) ∧ ∀ X, XOk C k Γ X → ∃ r, CallR X (.builtin id) r ∧ CallS C r f := by
  unfold bltB at h
  have go : ∀ {y : Str} {g : Sto → List T → R T} {l : List (Str × (Sto → List T → R T))}, ((y, g) :: l).lookup x = some f → (x = y ∧ g = f) ∨ l.lookup x = some f := fun {y g l} h => by
    rw [List.lookup_cons] at h
    split at h
    · rename_i e; cases h; exact .inl ⟨eq_of_beq e, rfl⟩
    · exact .inr h
  rcases go h with ⟨rfl, rfl⟩ | h
  · exact ⟨"len", boot_len, fun X ok => ⟨_, call_len, call_lenS (K := X.K)⟩⟩
  rcases go h with ⟨rfl, rfl⟩ | h
  · exact ⟨"abs", by decide +kernel, fun X ok => ⟨_, call_abs, call_absS⟩⟩
  rcases go h with ⟨rfl, rfl⟩ | h
  · exact ⟨"sum", PyProof.Rows.boot_sum, fun X ok => ⟨_, cr_sum ok.calm, call_sumS (K := X.K)⟩⟩
  rcases go h with ⟨rfl, rfl⟩ | h
  · exact ⟨"all", PyProof.Rows.boot_all, fun X ok => ⟨_, cr_all ok.calm, call_allS (K := X.K)⟩⟩
  rcases go h with ⟨rfl, rfl⟩ | h
  · exact ⟨"any", PyProof.Rows.boot_any, fun X ok => ⟨_, cr_any ok.calm, call_anyS (K := X.K)⟩⟩
  rcases go h with ⟨rfl, rfl⟩ | h
  · exact ⟨"repr", by decide +kernel, fun X ok => ⟨_, call_reprA ok.gd ok.units, call_reprS (K := X.K)⟩⟩
  cases h
theorem bltT_ok {x : Str} {f : Sto → List T → R T} (h : bltT.lookup x = some f) : ∃ id, bootBuiltins x = some (.type id) ∧ ∀ X, XOk C k Γ X → ∃ r, CallR X (.type id) r ∧ CallS C r f := by
  unfold bltT at h
  have go : ∀ {y : Str} {g : Sto → List T → R T} {l : List (Str × (Sto → List T → R T))}, ((y, g) :: l).lookup x = some f → (x = y ∧ g = f) ∨ l.lookup x = some f := fun {y g l} h => by
    rw [List.lookup_cons] at h
    split at h
    · rename_i e; cases h; exact .inl ⟨eq_of_beq e, rfl⟩
    · exact .inr h
  rcases go h with ⟨rfl, rfl⟩ | h
  · exact ⟨"int", PyProof.Rows.boot_int, fun X ok => ⟨_, call_int1, call_intS⟩⟩
  rcases go h with ⟨rfl, rfl⟩ | h
  · exact ⟨"tuple", PyProof.Rows.boot_tuple, fun X ok => ⟨_, call_tuple_of, call_tupS (K := X.K)⟩⟩
  cases h
theorem ty_ok {y : Str} {n : String} (h : tyNames.lookup y = some n) : bootBuiltins y = some (.type n) ∧ n ∈ isTys := by
  unfold tyNames at h
  have go : ∀ {z : Str} {g : String} {l : List (Str × String)}, ((z, g) :: l).lookup y = some n → (y = z ∧ g = n) ∨ l.lookup y = some n := fun {z g l} h => by
    rw [List.lookup_cons] at h
    split at h
    · rename_i e; cases h; exact .inl ⟨eq_of_beq e, rfl⟩
    · exact .inr h
  rcases go h with ⟨rfl, rfl⟩ | h
  · exact ⟨by decide +kernel, by decide⟩
  rcases go h with ⟨rfl, rfl⟩ | h
  · exact ⟨by decide +kernel, by decide⟩
  rcases go h with ⟨rfl, rfl⟩ | h
  · exact ⟨by decide +kernel, by decide⟩
  rcases go h with ⟨rfl, rfl⟩ | h
  · exact ⟨by decide +kernel, by decide⟩
  rcases go h with ⟨rfl, rfl⟩ | h
  · exact ⟨by decide +kernel, by decide⟩
  cases h
theorem callE_ok (GO : GOk C k G) (DO : DOk C k G d) {x : Str} {es : List Expr} {p pos : Pos} {f : EM} (h : callE G d Γ x es = some f) : DE C k Γ (.Call (.Name x p) es [] pos) f := by
  obtain ⟨h1, h2⟩ := on_some h
  simp only [Bool.and_eq_true] at h1
  obtain ⟨hd, hc, hn⟩ := okName_ok h1.2
  have hg := isGl_ok h1.1
  split at h2
  · rename_i n dt φ e
    obtain ⟨a, h3, rfl⟩ := Option.map_eq_some_iff.mp h2
    obtain ⟨fa, fd, ps, ds, dvs, F, m1, kk, bb, fl, hl⟩ := GO.fns _ _ _ _ e
    subst hl
    obtain ⟨h4, h5⟩ := asL_ok DO.e h3
    cases es with
    | nil =>
      cases h3
      exact de_call0 F hg m1 kk bb fl hd
    | cons e0 es => exact de_call F hg m1 kk bb fl h4 hd h5
  · obtain ⟨h3, h9⟩ := on_some h2
    clear h2
    have hm := GO.free _ h3
    split at h9
    · rename_i e
      have ex := eq_of_beq e
      subst ex
      split at h9
      · obtain ⟨h4, h8⟩ := on_some h9
        clear h9
        simp only [Bool.and_eq_true] at h4
        obtain ⟨n, h5, h6⟩ := Option.bind_eq_some_iff.mp h8
        obtain ⟨g, h7, rfl⟩ := Option.map_eq_some_iff.mp h6
        obtain ⟨a, b, c⟩ := okName_ok h4.2.2.1
        obtain ⟨t1, t2⟩ := ty_ok h5
        exact de_is hg hm (isGl_ok h4.2.1) (GO.free _ h4.2.2.2) t1 t2 (DO.e h7) h4.1 c a
      · cases h9
    · split at h9
      · rename_i e
        have ex := eq_of_beq e
        subst ex
        split at h9
        · obtain ⟨a, h4, rfl⟩ := Option.map_eq_some_iff.mp h9
          obtain ⟨h5, h6⟩ := asL_ok DO.e h4
          exact de_callB (fun X ok => ⟨_, cr_max ok.calm, call_maxS (K := X.K)⟩) hg hm PyProof.Rows.boot_max h5 h6 hn hd
        · obtain ⟨a, h4, rfl⟩ := Option.map_eq_some_iff.mp h9
          obtain ⟨h5, h6⟩ := asL_ok DO.e h4
          exact de_callB (fun X ok => ⟨_, call_max2 ok.calm, call_max2S⟩) hg hm PyProof.Rows.boot_max h5 h6 hn hd
        · cases h9
      · rename_i e _
        have ex := eq_of_beq e
        subst ex
        split at h9
        · obtain ⟨a, h4, rfl⟩ := Option.map_eq_some_iff.mp h9
          obtain ⟨h5, h6⟩ := asL_ok DO.e h4
          exact de_callB (fun X ok => ⟨_, cr_min ok.calm, call_minS (K := X.K)⟩) hg hm PyProof.Rows.boot_min h5 h6 hn hd
        · obtain ⟨a, h4, rfl⟩ := Option.map_eq_some_iff.mp h9
          obtain ⟨h5, h6⟩ := asL_ok DO.e h4
          exact de_callB (fun X ok => ⟨_, call_min2 ok.calm, call_min2S⟩) hg hm PyProof.Rows.boot_min h5 h6 hn hd
        · cases h9
      · split at h9
        · cases h9
        · split at h9
          · rename_i fb eb
            obtain ⟨a, h4, rfl⟩ := Option.map_eq_some_iff.mp h9
            obtain ⟨h5, h6⟩ := asL_ok DO.e h4
            obtain ⟨id, q1, q2⟩ := bltB_ok (C := C) (k := k) (Γ := Γ) eb
            exact de_callB q2 hg hm q1 h5 h6 hn hd
          · split at h9
            · rename_i fb eb
              obtain ⟨a, h4, rfl⟩ := Option.map_eq_some_iff.mp h9
              obtain ⟨h5, h6⟩ := asL_ok DO.e h4
              obtain ⟨id, q1, q2⟩ := bltT_ok (C := C) (k := k) (Γ := Γ) eb
              exact de_callTy q2 hg hm q1 h5 h6 hn hd
            · cases h9
end
end Mi
end

section
set_option Elab.async false
set_option linter.all false
set_option maxRecDepth 100000
set_option maxHeartbeats 4000000
/-! Dn3: the denotation is right: all of an expression -/
namespace Mi
open PySem PySem.Spec L2
section
variable {C : PC} {k : Nat} {G : Gx} {d : Dn} {Γ : Sx}
theorem bnot {b : Bool} (h : (!b) = true) : b = false := by cases b <;> first | rfl | cases h
theorem stE_ok (GO : GOk C k G) (D : DOk C k G d) {e : Expr} {f : EM} (h : stE G d Γ e = some f) : DE C k Γ e f := by
  unfold stE at h
  split at h
  · exact nameE_ok GO h
  · cases h; exact de_int
  · cases h; exact de_bl
  · cases h; exact de_non
  · cases h; exact de_str
  · obtain ⟨a, h1, rfl⟩ := Option.map_eq_some_iff.mp h
    exact de_tup (asL_ok D.e h1).1
  · obtain ⟨g, h1, h2⟩ := Option.bind_eq_some_iff.mp h
    obtain ⟨x, h3, h4⟩ := Option.bind_eq_some_iff.mp h2
    obtain ⟨y, h5, rfl⟩ := Option.map_eq_some_iff.mp h4
    exact bin_ok h1 (D.e h3) (D.e h5)
  · obtain ⟨x, h1, rfl⟩ := Option.map_eq_some_iff.mp h
    exact de_neg (D.e h1)
  · obtain ⟨x, h1, rfl⟩ := Option.map_eq_some_iff.mp h
    exact de_not (D.e h1)
  · exact vL_ok D.e h _
  · obtain ⟨z, h1, h2⟩ := Option.bind_eq_some_iff.mp h
    obtain ⟨x, h3, h4⟩ := Option.bind_eq_some_iff.mp h2
    obtain ⟨y, h5, rfl⟩ := Option.map_eq_some_iff.mp h4
    exact de_if (D.b h1) (D.e h3) (D.e h5)
  · obtain ⟨h0, h⟩ := on_some h
    obtain ⟨g, h1, h2⟩ := Option.bind_eq_some_iff.mp h
    obtain ⟨x, h3, h4⟩ := Option.bind_eq_some_iff.mp h2
    obtain ⟨y, h5, rfl⟩ := Option.map_eq_some_iff.mp h4
    exact de_cmp (cmp_ok h1) (D.e h3) (D.e h5) (bnot h0)
  · obtain ⟨h0, h⟩ := on_some h
    obtain ⟨g, h1, h2⟩ := Option.bind_eq_some_iff.mp h
    obtain ⟨g', h1', h2'⟩ := Option.bind_eq_some_iff.mp h2
    obtain ⟨x, h3, h4⟩ := Option.bind_eq_some_iff.mp h2'
    obtain ⟨y, h5, h6⟩ := Option.bind_eq_some_iff.mp h4
    obtain ⟨z, h7, rfl⟩ := Option.map_eq_some_iff.mp h6
    exact de_chain (cmp_ok h1) (cmp_ok h1') (D.e h3) (D.e h5) (D.e h7) (bnot h0)
  · obtain ⟨x, h1, h2⟩ := Option.bind_eq_some_iff.mp h
    obtain ⟨l, h3, h4⟩ := Option.bind_eq_some_iff.mp h2
    obtain ⟨u, h5, rfl⟩ := Option.map_eq_some_iff.mp h4
    exact de_cut (D.e h1) (oL_ok D.e h3) (oL_ok D.e h5)
  · obtain ⟨x, h1, rfl⟩ := Option.map_eq_some_iff.mp h
    exact de_rev (D.e h1)
  · obtain ⟨x, h1, h2⟩ := Option.bind_eq_some_iff.mp h
    obtain ⟨l, h3, h4⟩ := Option.bind_eq_some_iff.mp h2
    obtain ⟨u, h5, h6⟩ := Option.bind_eq_some_iff.mp h4
    obtain ⟨s, h7, rfl⟩ := Option.map_eq_some_iff.mp h6
    exact de_step (D.e h1) (oL_ok D.e h3) (oL_ok D.e h5) (do_some (D.e h7))
  · obtain ⟨h0, h⟩ := on_some h
    obtain ⟨x, h1, h2⟩ := Option.bind_eq_some_iff.mp h
    obtain ⟨y, h3, rfl⟩ := Option.map_eq_some_iff.mp h2
    exact de_ixA (D.e h1) (D.e h3) h0
  · split at h
    · obtain ⟨x, h1, rfl⟩ := Option.map_eq_some_iff.mp h
      exact (D.n h1).frz
    · exact callE_ok GO D h
  · obtain ⟨h0, h9⟩ := on_some h
    clear h
    simp only [Bool.and_eq_true] at h0
    obtain ⟨x, h1, h2⟩ := Option.bind_eq_some_iff.mp h9
    obtain ⟨y, h3, rfl⟩ := Option.map_eq_some_iff.mp h2
    have e := eq_of_beq h0.1
    subst e
    exact de_app (D.e h1) (D.e h3) h0.2.1 h0.2.2.1 h0.2.2.2
  · obtain ⟨h0, h9⟩ := on_some h
    clear h
    simp only [Bool.and_eq_true] at h0
    obtain ⟨x, h1, h2⟩ := Option.bind_eq_some_iff.mp h9
    obtain ⟨y, h3, h4⟩ := Option.bind_eq_some_iff.mp h2
    obtain ⟨z, h5, rfl⟩ := Option.map_eq_some_iff.mp h4
    have e := eq_of_beq h0.1
    subst e
    exact de_get (D.e h1) (D.e h3) (D.e h5) h0.2.1 h0.2.2.1 h0.2.2.2.1 h0.2.2.2.2
  · obtain ⟨x, h1, rfl⟩ := Option.map_eq_some_iff.mp h
    exact (D.n h1).frz
  · obtain ⟨x, h1, rfl⟩ := Option.map_eq_some_iff.mp h
    exact (D.n h1).frz
  · cases h
theorem stB_ok (D : DOk C k G d) {e : Expr} {f : BM} (h : stB d Γ e = some f) : DB C k Γ e f := by
  unfold stB at h
  split at h
  · obtain ⟨x, h1, rfl⟩ := Option.map_eq_some_iff.mp h
    exact db_not (D.b h1)
  · exact db_bool (wL_ok D.b h)
  · obtain ⟨h0, h⟩ := on_some h
    obtain ⟨g, h1, h2⟩ := Option.bind_eq_some_iff.mp h
    obtain ⟨x, h3, h4⟩ := Option.bind_eq_some_iff.mp h2
    obtain ⟨y, h5, rfl⟩ := Option.map_eq_some_iff.mp h4
    exact db_cmp (cmp_ok h1) (D.e h3) (D.e h5) (bnot h0)
  · obtain ⟨h0, h⟩ := on_some h
    obtain ⟨g, h1, h2⟩ := Option.bind_eq_some_iff.mp h
    obtain ⟨g', h1', h2'⟩ := Option.bind_eq_some_iff.mp h2
    obtain ⟨x, h3, h4⟩ := Option.bind_eq_some_iff.mp h2'
    obtain ⟨y, h5, h6⟩ := Option.bind_eq_some_iff.mp h4
    obtain ⟨z, h7, rfl⟩ := Option.map_eq_some_iff.mp h6
    exact db_chain (cmp_ok h1) (cmp_ok h1') (D.e h3) (D.e h5) (D.e h7) (bnot h0)
  · obtain ⟨h0, h⟩ := on_some h
    obtain ⟨x, h1, rfl⟩ := Option.map_eq_some_iff.mp h
    exact db_tru (D.e h1) h0
/-! ### comprehensions -/
theorem ownL_ix {N : List Str} : ∀ {names : List (Str × NameKind)}, ∀ p ∈ ownL N names, N[p.2]? = some p.1 := fun {names} p hp => by
  obtain ⟨q, _, h⟩ := List.mem_filterMap.mp hp
  obtain ⟨x, kd⟩ := q
  cases kd <;> first | (obtain ⟨i, h1, rfl⟩ := Option.map_eq_some_iff.mp h; exact ixOf_ok h1) | cases h
theorem ownL_has {N : List Str} {names : List (Str × NameKind)} {y : Str × NameKind} (hy : y ∈ names) (hk : y.2 = .local ∨ y.2 = .cell) : y.1 ∈ (ownL N names).map (·.1) ∨ y.1 ∉ N := by
  obtain ⟨x, kd⟩ := y
  cases e : ixOf N x 0 with
  | none => exact .inr (ixOf_no e)
  | some i =>
    left
    refine List.mem_map.mpr ⟨(x, i), List.mem_filterMap.mpr ⟨(x, kd), hy, ?_⟩, rfl⟩
    rcases hk with h | h
    · cases h; show (ixOf N x 0).map _ = _; rw [e]; rfl
    · cases h; show (ixOf N x 0).map _ = _; rw [e]; rfl
theorem blkB_ok {scope : Scope} (h : blkB Γ scope = true) : BlkOk Γ.N Γ.sc scope (ownL Γ.N scope.names) := by
  unfold blkB at h
  simp only [Bool.and_eq_true] at h
  obtain ⟨h1, h2, h3⟩ := h
  refine ⟨?_, fun y hy => ?_, ownL_ix, fun y hy e => ?_, fun y hy e => ownL_has hy e⟩
  · split at h1
    · assumption
    · cases h1
  · unfold uniqB at h2
    exact of_decide_eq_true (List.all_eq_true.mp h2 y hy)
  · unfold freeB at h3
    have := List.all_eq_true.mp h3 y hy
    rw [e] at this
    dsimp only at this
    split at this
    · rename_i q; exact .inl q
    · rename_i q; exact .inr q
    · cases this
theorem tsL_ok {g : Expr → Option BM} (hg : ∀ {e f}, g e = some f → DB C k Γ e f) {es : List Expr} {f : BM} (h : tsL g es = some f) : DTs C k Γ es f := by
  unfold tsL at h
  split at h
  · cases h; exact dts_nil
  · exact dts_one (hg h)
  · cases h
theorem all_mem {l : List Nat} {m : List Nat} (h : (l.all fun i => m.contains i) = true) : ∀ i ∈ l, i ∈ m := fun i hi => by
  have := List.all_eq_true.mp h i hi
  simpa using this
theorem compN_ok (D : DOk C k G d) {elt : Expr} {gs : List Comprehension} {scope : Scope} {pos : Pos} {f : LM} (h : compN d Γ elt gs scope = some f) : DN C k Γ (.ListComp elt gs scope pos) f := by
  unfold compN at h
  obtain ⟨h0, h⟩ := on_some h
  have bo := blkB_ok h0
  split at h
  · obtain ⟨hs, h⟩ := on_some h
    obtain ⟨fi, h1, h2⟩ := Option.bind_eq_some_iff.mp h
    obtain ⟨g, h3, h4⟩ := Option.bind_eq_some_iff.mp h2
    obtain ⟨ha, h4⟩ := on_some h4
    obtain ⟨c, h5, h6⟩ := Option.bind_eq_some_iff.mp h4
    obtain ⟨e, h7, rfl⟩ := Option.map_eq_some_iff.mp h6
    exact dn_comp bo (D.i h1) (D.g h3) (all_mem ha) (tsL_ok D.b h5) (D.e h7) hs
  · obtain ⟨hs, h⟩ := on_some h
    simp only [Bool.and_eq_true] at hs
    obtain ⟨fi, h1, h2⟩ := Option.bind_eq_some_iff.mp h
    obtain ⟨g, h3, h4⟩ := Option.bind_eq_some_iff.mp h2
    obtain ⟨ha, h4⟩ := on_some h4
    obtain ⟨c, h5, h6⟩ := Option.bind_eq_some_iff.mp h4
    obtain ⟨f1, h7, h8⟩ := Option.bind_eq_some_iff.mp h6
    obtain ⟨g1, h9, h10⟩ := Option.bind_eq_some_iff.mp h8
    obtain ⟨hb, h10⟩ := on_some h10
    obtain ⟨c1, h11, h12⟩ := Option.bind_eq_some_iff.mp h10
    obtain ⟨e, h13, rfl⟩ := Option.map_eq_some_iff.mp h12
    exact dn_comp2 bo (D.i h1) (D.g h3) (all_mem ha) (tsL_ok D.b h5) (D.i h7) (D.g h9) (fun i hi => hi) (all_mem hb) (tsL_ok D.b h11) (D.e h13) hs.1 hs.2
  · cases h
theorem stNL_ok (GO : GOk C k G) (D : DOk C k G d) {e : Expr} {f : LM} (h : stNL G d Γ e = some f) : DN C k Γ e f := by
  unfold stNL at h
  split at h
  · obtain ⟨a, h1, rfl⟩ := Option.map_eq_some_iff.mp h
    exact dn_lst (asL_ok D.e h1).1
  · split at h
    · obtain ⟨L, h1, rfl⟩ := Option.map_eq_some_iff.mp h
      exact dn_lock _ (compN_ok D h1)
    · exact compN_ok D h
  · obtain ⟨h0, h9⟩ := on_some h
    clear h
    simp only [Bool.and_eq_true] at h0
    obtain ⟨a, h1, rfl⟩ := Option.map_eq_some_iff.mp h9
    have e := eq_of_beq h0.1
    subst e
    exact dn_list (isGl_ok h0.2.1) (GO.free _ h0.2.2.1) (D.e h1) h0.2.2.2
  · obtain ⟨x, h3, h4⟩ := Option.bind_eq_some_iff.mp h
    obtain ⟨y, h5, rfl⟩ := Option.map_eq_some_iff.mp h4
    exact dn_cat (D.e h3) (D.e h5)
  · obtain ⟨x, h3, h4⟩ := Option.bind_eq_some_iff.mp h
    obtain ⟨y, h5, rfl⟩ := Option.map_eq_some_iff.mp h4
    exact dn_rep (D.e h3) (D.e h5)
  · obtain ⟨x, h1, h2⟩ := Option.bind_eq_some_iff.mp h
    obtain ⟨l, h3, h4⟩ := Option.bind_eq_some_iff.mp h2
    obtain ⟨u, h5, rfl⟩ := Option.map_eq_some_iff.mp h4
    exact dn_cut (D.e h1) (oL_ok D.e h3) (oL_ok D.e h5)
  · cases h
end
end Mi
end

section
set_option Elab.async false
set_option linter.all false
set_option maxRecDepth 100000
set_option maxHeartbeats 4000000
/-! Dn4: the denotation is right: what loops walk, targets, suites, statements, defs -/
namespace Mi
open PySem PySem.Spec L2
section
variable {C : PC} {k : Nat} {G : Gx} {d : Dn} {Γ : Sx}
theorem PI.either {X : Cx} {tg e : Expr} {t1 t2 : TI} (h1 : PI X tg e t1) (h2 : PI X tg e t2) : PI X tg e (fun σ H Q => t1 σ H Q ∨ t2 σ H Q) := ⟨fun pins s σ H Q I h => by
  rcases h with h | h
  · exact h1.run pins s σ H Q I h
  · exact h2.run pins s σ H Q I h⟩
theorem DI.either {tg e : Expr} {f g h : IM} (h1 : DI C k Γ tg e f) (h2 : DI C k Γ tg e g) (hh : ∀ ρ S, h ρ S = f ρ S ∨ h ρ S = g ρ S) : DI C k Γ tg e h := fun X W ok tk =>
  PI.weak (PI.either (h1 X W ok tk) (h2 X W ok tk)) fun σ H Q ⟨m, ρ, S, re, rs, q⟩ => by
    rcases hh ρ S with e | e
    · rw [e] at q; exact .inl ⟨m, ρ, S, re, rs, q⟩
    · rw [e] at q; exact .inr ⟨m, ρ, S, re, rs, q⟩
def iSeqK (f : EM) : IM := fun ρ S => match f ρ S with
  | .ok x S1 => (match dicOf S1 x with
    | some _ => iKeysT (fun _ S => .ok x S) ρ S1
    | none => iSeq (fun _ S => .ok x S) ρ S1)
  | .exc c fs S1 => .exc c fs S1
  | .bad => .bad
theorem di_any {tg e : Expr} {f : EM} (h : DE C k Γ e f) : DI C k Γ tg e (iAny f) := by
  refine DI.either (di_tup h) (DI.either (h := iSeqK f) (di_keys h) (di_seq h) fun ρ S => ?_) fun ρ S => ?_
  · unfold iSeqK iKeysT iSeq
    cases e : f ρ S with
    | bad => exact .inl rfl
    | exc c fs S1 => exact .inl rfl
    | ok x S1 =>
      dsimp only
      cases dicOf S1 x with
      | some _ => exact .inl rfl
      | none => exact .inr rfl
  · unfold iAny iTupT iSeqK
    cases f ρ S with
    | bad => exact .inl rfl
    | exc c fs S1 => exact .inl rfl
    | ok x S1 => cases x <;> first | exact .inl rfl | exact .inr rfl
theorem stI_ok (GO : GOk C k G) (D : DOk C k G d) {tg e : Expr} {f : IM} (h : stI G d Γ tg e = some f) : DI C k Γ tg e f := by
  unfold stI at h
  split at h
  · split at h
    · rename_i e1
      obtain ⟨h0, h9⟩ := on_some h
      clear h
      simp only [Bool.and_eq_true] at h0
      have e := eq_of_beq e1
      subst e
      split at h9
      · obtain ⟨hs, h2⟩ := on_some h9
        obtain ⟨a, h3, rfl⟩ := Option.map_eq_some_iff.mp h2
        exact di_range1 (isGl_ok h0.1) (GO.free _ h0.2) (D.e h3) hs
      · obtain ⟨hs, h2⟩ := on_some h9
        simp only [Bool.and_eq_true] at hs
        obtain ⟨x, h3, h4⟩ := Option.bind_eq_some_iff.mp h2
        obtain ⟨y, h5, rfl⟩ := Option.map_eq_some_iff.mp h4
        exact di_range2 (isGl_ok h0.1) (GO.free _ h0.2) (D.e h3) (D.e h5) hs.1 hs.2
      · cases h9
    · rename_i e1 _
      obtain ⟨h0, h9⟩ := on_some h
      clear h
      simp only [Bool.and_eq_true] at h0
      have e := eq_of_beq e1
      subst e
      split at h9
      · obtain ⟨hs, h2⟩ := on_some h9
        obtain ⟨a, h3, rfl⟩ := Option.map_eq_some_iff.mp h2
        exact di_enum (isGl_ok h0.1) (GO.free _ h0.2) (D.e h3) hs
      · cases h9
    · rename_i e1 _ _
      obtain ⟨h0, h9⟩ := on_some h
      clear h
      simp only [Bool.and_eq_true] at h0
      have e := eq_of_beq e1
      subst e
      split at h9
      · obtain ⟨hs, h2⟩ := on_some h9
        simp only [Bool.and_eq_true] at hs
        obtain ⟨a, h3, rfl⟩ := Option.map_eq_some_iff.mp h2
        exact di_zip (isGl_ok h0.1) (GO.free _ h0.2) (asL_ok D.e h3).1 hs.1 hs.2
      · cases h9
    · obtain ⟨a, h3, rfl⟩ := Option.map_eq_some_iff.mp h
      exact di_any (D.e h3)
  · obtain ⟨a, h3, rfl⟩ := Option.map_eq_some_iff.mp h
    exact di_any (D.e h3)
theorem gsL_ok {g : Expr → Option (GM × List Nat)} (hg : ∀ {e f}, g e = some f → DG C k Γ e f.1 f.2) : ∀ {es : List Expr} {f : GMs × List Nat}, gsL g es = some f →
    DGs C k Γ es f.1 f.2 ∧ (∀ env, (assignEach es env).length = es.length) ∧ (∀ env, (assignEach es env).findIdx? (·.1) = none)
  | [], f, h => by cases h; exact ⟨dgs_nil, fun _ => rfl, fun _ => rfl⟩
  | e :: es, f, h => by
    obtain ⟨h1, h2⟩ := on_some h
    obtain ⟨x, h3, h4⟩ := Option.bind_eq_some_iff.mp h2
    obtain ⟨y, h5, rfl⟩ := Option.map_eq_some_iff.mp h4
    obtain ⟨h6, h7, h8⟩ := gsL_ok hg h5
    have hc : ∀ env, assignEach (e :: es) env = (false, assign e env) :: assignEach es env := fun env => by
      cases e <;> first | rfl | (exact absurd h1 (by simp))
    refine ⟨dgs_cons (hg h3) h6 (fun env => by rw [hc]; rfl), fun env => by rw [hc, List.length_cons, h7]; rfl, fun env => ?_⟩
    rw [hc, List.findIdx?_cons]
    simp [h8 env]
theorem stG_ok (D : DOk C k G d) {e : Expr} {f : GM × List Nat} (h : stG d Γ e = some f) : DG C k Γ e f.1 f.2 := by
  unfold stG at h
  split at h
  · obtain ⟨h1, h2⟩ := on_some h
    obtain ⟨i, h3, rfl⟩ := Option.map_eq_some_iff.mp h2
    exact dg_name (ixOf_ok h3) (isSto_ok h1)
  · obtain ⟨r, h1, rfl⟩ := Option.map_eq_some_iff.mp h
    obtain ⟨h2, h3, h4⟩ := gsL_ok D.g h1
    exact dg_tup h2 h3 h4
  · cases h
/-! ### suites -/
theorem xsL_ok {i : Nat} {g : Expr → Option XV} (hg : ∀ {e v}, g e = some v → DX C k Γ G.xn i e v) : ∀ {es : List Expr} {w : Str → List (Str × T) → Option (List T)}, xsL g es = some w → DXs C k Γ G.xn i es w
  | [], w, h => by cases h; exact dxs_nil
  | e :: es, w, h => by
    obtain ⟨h1, h2⟩ := on_some h
    obtain ⟨x, h3, h4⟩ := Option.bind_eq_some_iff.mp h2
    obtain ⟨y, h5, rfl⟩ := Option.map_eq_some_iff.mp h4
    exact dxs_cons (hg h3) (xsL_ok hg h5) h1
theorem stX_ok (GO : GOk C k G) (D : DOk C k G d) {i : Nat} {e : Expr} {v : XV} (h : stX G d Γ i e = some v) : DX C k Γ G.xn i e v := by
  unfold stX at h
  split at h
  · cases h; exact dx_str
  · cases h; exact dx_bl
  · cases h; exact dx_non
  · obtain ⟨h0, h2⟩ := on_some h
    obtain ⟨w, h1, rfl⟩ := Option.map_eq_some_iff.mp h2
    exact dx_tup (xsL_ok D.x h1) (of_decide_eq_true h0)
  · obtain ⟨h0, h2⟩ := on_some h
    simp only [Bool.and_eq_true, decide_eq_true_eq] at h0
    cases h2
    obtain ⟨a, b, c⟩ := okName_ok h0.2.1
    have e := eq_of_beq h0.2.2.1
    subst e
    exact dx_fld h0.2.2.2 (isVis_ok h0.1) (fun c hc => (GO.xcl c hc).2) a b
  · obtain ⟨h0, h2⟩ := on_some h
    clear h
    simp only [Bool.and_eq_true, decide_eq_true_eq] at h0
    obtain ⟨m, h1, rfl⟩ := Option.map_eq_some_iff.mp h2
    obtain ⟨hf, hv, ho, ho2, hgi, hgy, hfr, hN⟩ := h0
    have e := eq_of_beq hf
    subst e
    obtain ⟨a, b, c⟩ := okName_ok ho
    obtain ⟨a2, b2, c2'⟩ := okName_ok ho2
    obtain ⟨c2, m1, m2, m3⟩ := GO.cl _ _ h1
    exact dx_is (v2 := .ref c2) hN (isVis_ok hv) (isGl_ok hgi) (GO.free _ hfr) (isGl_ok hgy) m1 rfl (fun u r => r) m2 a b a2
  · obtain ⟨h0, h2⟩ := on_some h
    obtain ⟨vt, h3, h4⟩ := Option.bind_eq_some_iff.mp h2
    obtain ⟨va, h5, h6⟩ := Option.bind_eq_some_iff.mp h4
    obtain ⟨vb, h7, rfl⟩ := Option.map_eq_some_iff.mp h6
    exact dx_if (D.x h3) (D.x h5) (D.x h7) h0
  · cases h
theorem sxL_ok {i : Nat} {g : Expr → Option XV} (hg : ∀ {e v}, g e = some v → DX C k Γ G.xn i e v) : ∀ {n : Nat} {st : List Stmt} {v : XV}, sxL g n st = some v → DXS C k Γ G.xn i st v
  | 0, st, v, h => by cases h
  | n + 1, st, v, h => by
    unfold sxL at h
    split at h
    · exact dxs_ret (r := []) (hg h)
    · obtain ⟨h0, h2⟩ := on_some h
      obtain ⟨vt, h3, h4⟩ := Option.bind_eq_some_iff.mp h2
      obtain ⟨va, h5, h6⟩ := Option.bind_eq_some_iff.mp h4
      obtain ⟨vr, h7, rfl⟩ := Option.map_eq_some_iff.mp h6
      exact dxs_if (hg h3) (sxL_ok hg h5) (sxL_ok hg h7) h0
    · cases h
theorem hsL_ok (GO : GOk C k G) (D : DOk C k G d) : ∀ {hds : List ExceptHandler} {l : List (Str × Option Nat × (Str → Bool) × XV)}, hsL G d Γ hds = some l → ∃ l1 : List Cl1, ClOk C k Γ G.xn hds l1 ∧ ∀ c, pickX c l1 = pickV c l
  | [], l, h => by cases h; exact ⟨[], .nil, fun _ => rfl⟩
  | hd :: r, l, h => by
    unfold hsL at h
    split at h
    · rename_i e; cases e
    · rename_i e
      cases e
      obtain ⟨h0, h2⟩ := on_some h
      simp only [Bool.and_eq_true] at h0
      obtain ⟨m, h3, h4⟩ := Option.bind_eq_some_iff.mp h2
      obtain ⟨l', h5, rfl⟩ := Option.map_eq_some_iff.mp h4
      obtain ⟨l1, c1, c2⟩ := hsL_ok GO D h5
      obtain ⟨cc, m1, m2, m3⟩ := GO.cl _ _ h3
      obtain ⟨a, b, c⟩ := okName_ok h0.2
      refine ⟨_, .bare (b0 := .Pass ⟨0, 0, 0, 0⟩) (suite := []) (v := .bl _) (isGl_ok h0.1) m1 a m3 (fun X => pe_bl) (fun m H => .bl _) c1, fun c => ?_⟩
      show (if m.2 c then _ else _) = (if m.2 c then _ else _)
      rw [c2 c]
      rfl
    · rename_i e
      cases e
      obtain ⟨h0, h2⟩ := on_some h
      simp only [Bool.and_eq_true] at h0
      obtain ⟨m, h3, h4⟩ := Option.bind_eq_some_iff.mp h2
      obtain ⟨i, h6, h7⟩ := Option.bind_eq_some_iff.mp h4
      obtain ⟨v, h8, h9⟩ := Option.bind_eq_some_iff.mp h7
      obtain ⟨l', h5, rfl⟩ := Option.map_eq_some_iff.mp h9
      obtain ⟨l1, c1, c2⟩ := hsL_ok GO D h5
      obtain ⟨cc, m1, m2, m3⟩ := GO.cl _ _ h3
      obtain ⟨a, b, c⟩ := okName_ok h0.2.1
      refine ⟨_, .named (isGl_ok h0.1) m1 a (ixOf_ok h6) (isLocal_ok h0.2.2) m3 (sxL_ok D.x h8) c1, fun c => ?_⟩
      show (if m.2 c then _ else _) = (if m.2 c then _ else _)
      rw [c2 c]
    · cases h
/-! ### statements -/
theorem ssL_ok {g : Stmt → Option SM} (hg : ∀ {s f}, g s = some f → DS C k Γ s f) : ∀ {ss : List Stmt} {f : SM}, ssL g ss = some f → DSs C k Γ ss f
  | [], f, h => by cases h; exact dss_nil
  | s :: r, f, h => by
    obtain ⟨x, h3, h4⟩ := Option.bind_eq_some_iff.mp h
    obtain ⟨y, h5, rfl⟩ := Option.map_eq_some_iff.mp h4
    exact dss_cons (hg h3) (ssL_ok hg h5)
theorem bk_of {X : Cx} (ok : XOk C k Γ X) (h : kindFn Γ.sc = true) : (X.env.blockKind == .function) = true := blockKind_fn (by rw [ok.sc]; exact kindFn_ok h)
theorem setN {x : Str} {px pos : Pos} {i : Nat} {a : Expr} {gs : List Comprehension} {sc : Scope} {p : Pos} {L : LM} {o : Bool} (D : DOk C k G d) (hi : ixOf Γ.N x 0 = some i) (hl : isLocal Γ x = true) (hk : kindFn Γ.sc = true) (hp : (px.line == p.line) = true) (hc : clashB sc x = false) (h : compN d Γ a gs sc = some L) :
    DS C k Γ (.Assign [.Name x px] (.ListComp a gs sc p) pos) (sSet i (eKeep o L)) := by
  unfold compN at h
  obtain ⟨h0, h⟩ := on_some h
  have bo := blkB_ok h0
  split at h
  · obtain ⟨hs, h⟩ := on_some h
    obtain ⟨fi, h1, h2⟩ := Option.bind_eq_some_iff.mp h
    obtain ⟨g, h3, h4⟩ := Option.bind_eq_some_iff.mp h2
    obtain ⟨ha, h4⟩ := on_some h4
    obtain ⟨c, h5, h6⟩ := Option.bind_eq_some_iff.mp h4
    obtain ⟨e, h7, rfl⟩ := Option.map_eq_some_iff.mp h6
    exact ds_setLc (ixOf_ok hi) (isLocal_ok hl) (kindFn_ok hk) hp hc bo (D.i h1) (D.g h3) (all_mem ha) (tsL_ok D.b h5) (D.e h7) hs
  · obtain ⟨hs, h⟩ := on_some h
    simp only [Bool.and_eq_true] at hs
    obtain ⟨fi, h1, h2⟩ := Option.bind_eq_some_iff.mp h
    obtain ⟨g, h3, h4⟩ := Option.bind_eq_some_iff.mp h2
    obtain ⟨ha, h4⟩ := on_some h4
    obtain ⟨c, h5, h6⟩ := Option.bind_eq_some_iff.mp h4
    obtain ⟨f1, h7, h8⟩ := Option.bind_eq_some_iff.mp h6
    obtain ⟨g1, h9, h10⟩ := Option.bind_eq_some_iff.mp h8
    obtain ⟨hb, h10⟩ := on_some h10
    obtain ⟨c1, h11, h12⟩ := Option.bind_eq_some_iff.mp h10
    obtain ⟨e, h13, rfl⟩ := Option.map_eq_some_iff.mp h12
    exact ds_setLc2 (ixOf_ok hi) (isLocal_ok hl) (kindFn_ok hk) hp hc bo (D.i h1) (D.g h3) (all_mem ha) (tsL_ok D.b h5) (D.i h7) (D.g h9) (fun i hi => hi) (all_mem hb) (tsL_ok D.b h11) (D.e h13) hs.1 hs.2
  · cases h
theorem assignS_ok (D : DOk C k G d) {tg v : Expr} {pos : Pos} {f : SM} (h : assignS G d Γ tg v = some f) : DS C k Γ (.Assign [tg] v pos) f := by
  unfold assignS at h
  split at h
  · obtain ⟨hs, h9⟩ := on_some h
    clear h
    obtain ⟨i, hi, h2⟩ := Option.bind_eq_some_iff.mp h9
    clear h9
    split at h2
    · split at h2
      · rename_i hl
        obtain ⟨h0, h3⟩ := on_some h2
        simp only [Bool.and_eq_true, Bool.not_eq_true'] at h0
        split at h3
        · cases h3
        · obtain ⟨L, h4, rfl⟩ := Option.map_eq_some_iff.mp h3
          exact setN D hi hl h0.1 h0.2.1 h0.2.2 h4
      · rename_i hl
        obtain ⟨L, h4, rfl⟩ := Option.map_eq_some_iff.mp h2
        exact ds_setC (ixOf_ok hi) (isSto_ok hs) ((D.n h4).keep _) (isLocal_no hl)
    · cases h2
      exact ds_set (ixOf_ok hi) (isSto_ok hs) de_dnew rfl
    · split at h2
      · rename_i hl
        obtain ⟨h0, h3⟩ := on_some h2
        simp only [Bool.and_eq_true, Bool.not_eq_true'] at h0
        obtain ⟨e, h4, rfl⟩ := Option.map_eq_some_iff.mp h3
        unfold dqN at h4
        obtain ⟨h5, h6⟩ := on_some h4
        simp only [Bool.and_eq_true] at h5
        obtain ⟨fi, h7, h8⟩ := Option.bind_eq_some_iff.mp h6
        obtain ⟨g, h9, h10⟩ := Option.bind_eq_some_iff.mp h8
        obtain ⟨ha, h11⟩ := on_some h10
        obtain ⟨n, h12, rfl⟩ := Option.map_eq_some_iff.mp h11
        obtain ⟨a, b, c⟩ := okName_ok h5.2.2.2
        exact ds_setDq (ixOf_ok hi) (isLocal_ok hl) (kindFn_ok h0.1) h0.2.1 h0.2.2 (blkB_ok h5.1) (D.i h7) (D.g h9) (all_mem ha) (ixOf_ok h12) (isVis_ok h5.2.2.1) a b h5.2.1
      · rename_i hl
        obtain ⟨e, h4, rfl⟩ := Option.map_eq_some_iff.mp h2
        unfold dqN at h4
        obtain ⟨h5, h6⟩ := on_some h4
        simp only [Bool.and_eq_true] at h5
        obtain ⟨fi, h7, h8⟩ := Option.bind_eq_some_iff.mp h6
        obtain ⟨g, h9, h10⟩ := Option.bind_eq_some_iff.mp h8
        obtain ⟨ha, h11⟩ := on_some h10
        obtain ⟨n, h12, rfl⟩ := Option.map_eq_some_iff.mp h11
        obtain ⟨a, b, c⟩ := okName_ok h5.2.2.2
        exact ds_setC (ixOf_ok hi) (isSto_ok hs) (de_dq (blkB_ok h5.1) (D.i h7) (D.g h9) (all_mem ha) (ixOf_ok h12) (isVis_ok h5.2.2.1) a b h5.2.1) (isLocal_no hl)
    · obtain ⟨h0, h3⟩ := on_some h2
      split at h3
      · split at h3
        · rename_i L e
          cases h3
          exact ds_set (ixOf_ok hi) (isSto_ok hs) ((D.n e).keep _) h0
        · obtain ⟨g, h4, rfl⟩ := Option.map_eq_some_iff.mp h3
          exact ds_set (ixOf_ok hi) (isSto_ok hs) (D.e h4) h0
      · obtain ⟨g, h4, rfl⟩ := Option.map_eq_some_iff.mp h3
        exact ds_set (ixOf_ok hi) (isSto_ok hs) (D.e h4) h0
  · obtain ⟨h0, h9⟩ := on_some h
    simp only [Bool.and_eq_true] at h0
    obtain ⟨x, h1, h2⟩ := Option.bind_eq_some_iff.mp h9
    obtain ⟨y, h3, h4⟩ := Option.bind_eq_some_iff.mp h2
    obtain ⟨z, h5, rfl⟩ := Option.map_eq_some_iff.mp h4
    exact ds_subA (D.e h1) (D.e h3) (D.e h5) h0.1 h0.2
  · obtain ⟨h0, h9⟩ := on_some h
    clear h
    simp only [Bool.and_eq_true] at h0
    split at h9
    · rename_i e
      obtain ⟨g, h1, h2⟩ := Option.bind_eq_some_iff.mp h9
      obtain ⟨z, h5, rfl⟩ := Option.map_eq_some_iff.mp h2
      exact ds_asg (stG_ok D h1) (D.e h5) h0.1 (fun X ok => sw_of (bk_of ok h0.2) (by rw [ok.sc]; exact e)) (fun env => rfl)
    · rename_i e
      split at h9
      · obtain ⟨hx, h2⟩ := on_some h9
        simp only [Bool.and_eq_true, Bool.not_eq_true'] at hx
        obtain ⟨e1, e2, hne, l1, l2⟩ := hx
        have e1 := eq_of_beq e1
        have e2 := eq_of_beq e2
        subst e1 e2
        obtain ⟨i, h3, h4⟩ := Option.bind_eq_some_iff.mp h2
        obtain ⟨j, h5, h6⟩ := Option.bind_eq_some_iff.mp h4
        obtain ⟨hij, h7⟩ := on_some h6
        obtain ⟨g, h8, rfl⟩ := Option.map_eq_some_iff.mp h7
        exact ds_par (ixOf_ok h3) (ixOf_ok h5) (by simpa using hij) (isLocal_ok l1) (isLocal_ok l2) (asL_ok D.e h8).1 (fun X ok => sw_of (bk_of ok h0.2) (by rw [ok.sc]; exact e))
      · cases h9
    · cases h9
  · cases h
theorem sTry_eq {n : Nat} {xn : Xn} {f : SM} {l1 : List Cl1} {l : List (Str × Option Nat × (Str → Bool) × XV)} (h : ∀ c, pickX c l1 = pickV c l) : sTry n xn f l1 = sTryV n xn f l := by
  funext ρ S
  unfold sTry sTryV
  cases f ρ S with
  | exc c fs ρ1 S1 => (simp only [h]) <;> rfl
  | _ => rfl
theorem stS_ok (GO : GOk C k G) (D : DOk C k G d) {s : Stmt} {f : SM} (h : stS G d Γ s = some f) : DS C k Γ s f := by
  unfold stS at h
  split at h
  · cases h; exact ds_pass
  · cases h; exact ds_break
  · cases h; exact ds_cont
  · obtain ⟨h0, h9⟩ := on_some h
    obtain ⟨g, h4, rfl⟩ := Option.map_eq_some_iff.mp h9
    exact ds_expr (D.e h4) h0
  · obtain ⟨g, h4, rfl⟩ := Option.map_eq_some_iff.mp h
    exact ds_ret (D.e h4)
  · cases h; exact ds_retN
  · obtain ⟨z, h1, h2⟩ := Option.bind_eq_some_iff.mp h
    obtain ⟨x, h3, h4⟩ := Option.bind_eq_some_iff.mp h2
    obtain ⟨y, h5, rfl⟩ := Option.map_eq_some_iff.mp h4
    exact ds_if (D.b h1) (ssL_ok D.s h3) (ssL_ok D.s h5)
  · exact assignS_ok D h
  · obtain ⟨h0, h9⟩ := on_some h
    obtain ⟨i, h1, h2⟩ := Option.bind_eq_some_iff.mp h9
    obtain ⟨g, h4, rfl⟩ := Option.map_eq_some_iff.mp h2
    exact ds_augAdd (ixOf_ok h1) (isSto_ok h0) (D.e h4)
  · obtain ⟨h0, h9⟩ := on_some h
    obtain ⟨i, h1, h2⟩ := Option.bind_eq_some_iff.mp h9
    obtain ⟨g, h4, rfl⟩ := Option.map_eq_some_iff.mp h2
    exact ds_augSub (ixOf_ok h1) (isSto_ok h0) (D.e h4)
  · obtain ⟨h0, h9⟩ := on_some h
    clear h
    simp only [Bool.and_eq_true] at h0
    obtain ⟨fi, h1, h2⟩ := Option.bind_eq_some_iff.mp h9
    obtain ⟨g, h3, h4⟩ := Option.bind_eq_some_iff.mp h2
    obtain ⟨x, h5, h6⟩ := Option.map_eq_some_iff.mp h4
    have base := ds_for (pos := ‹_›) (bnot h0.1) (D.i h1) (D.g h3) (ssL_ok D.s h5) h0.2
    split at h6
    · split at h6
      · cases h6; exact ds_lock _ base
      · cases h6; exact base
    · cases h6; exact base
  · obtain ⟨h0, h9⟩ := on_some h
    obtain ⟨z, h1, h2⟩ := Option.bind_eq_some_iff.mp h9
    obtain ⟨x, h3, rfl⟩ := Option.map_eq_some_iff.mp h2
    exact ds_loop (bnot h0) (D.b h1) (ssL_ok D.s h3)
  · obtain ⟨h0, h9⟩ := on_some h
    simp only [Bool.and_eq_true] at h0
    obtain ⟨fl, h1, h2⟩ := Option.bind_eq_some_iff.mp h9
    obtain ⟨x, h3, rfl⟩ := Option.map_eq_some_iff.mp h2
    obtain ⟨fI, j, ri, rc, m1, hk⟩ := GO.rs _ _ h1
    obtain ⟨a, b, c⟩ := okName_ok h0.2.1
    subst hk
    exact ds_raise ri rc (D.e h3) (isGl_ok h0.1) m1 a h0.2.2
  · obtain ⟨h0, h9⟩ := on_some h
    obtain ⟨x, h1, h2⟩ := Option.bind_eq_some_iff.mp h9
    obtain ⟨l, h3, rfl⟩ := Option.map_eq_some_iff.mp h2
    obtain ⟨l1, c1, c2⟩ := hsL_ok GO D h3
    rw [← sTry_eq c2]
    exact ds_try (fun c hc => (GO.xcl c hc).1) (bnot h0) (ssL_ok D.s h1) c1
  · cases h
theorem step_ok (GO : GOk C k G) (D : DOk C k G d) : DOk C k G (step G d) where
  e := fun h => stE_ok GO D h
  n := fun h => stNL_ok GO D h
  b := fun h => stB_ok D h
  i := fun h => stI_ok GO D h
  g := fun h => stG_ok D h
  s := fun h => stS_ok GO D h
  x := fun h => stX_ok GO D h
theorem dn_nil : DOk C k G (dn G 0) where
  e := fun h => by cases h
  n := fun h => by cases h
  b := fun h => by cases h
  i := fun h => by cases h
  g := fun h => by cases h
  s := fun h => by cases h
  x := fun h => by cases h
theorem dn_ok (GO : GOk C k G) : ∀ n, DOk C k G (dn G n)
  | 0 => dn_nil
  | n + 1 => step_ok GO (dn_ok GO n)
theorem denD_ok (GO : GOk C k G) {n : Nat} {N : List Str} {sc : Scope} {body : List Stmt} {f : SM} (h : denD G n N sc body = some f) : DSs C k ⟨N, sc, false, fun _ => true⟩ body f := ssL_ok (dn_ok GO n).s h
end
end Mi
end

section
set_option Elab.async false
set_option linter.all false
set_option maxRecDepth 100000
set_option maxHeartbeats 2000000
/-! Mh0: what the head tells of a module: its defs, whole numbers, exception classes with an own __init__ -/
namespace Mi
open PySem PySem.Spec L2
/-- an __init__ as data -/
abbrev InW : Type := Option (Str × Str × Arguments × FuncBody × Scope × Addr × List Str × Addr)
def inW (K : PySem.W.Frag) (f : Addr) : InW := match K.lookup f with
  | some ⟨_, _, .func fd, _⟩ => some (fd.name, fd.qualname, fd.params, fd.body, fd.scope, fd.globals, fd.closure.map (·.1), fd.builtins)
  | _ => none
def codeAtB (K : PySem.W.Frag) (file q : Str) : Value → Bool
  | .ref c => PySem.W.codeIn K (.ref c) q && (match K.lookup c with
    | some ⟨_, _, .fields vs, _⟩ => (match vs[2]? with
      | some (Value.str f _) => file == f
      | _ => false)
    | _ => false)
  | _ => false
/-- the class in a cell -/
def cellAt (K : PySem.W.Frag) (c : Addr) : Option Addr := match K.lookup c with
  | some ⟨_, _, .cell (some (.ref D)), _⟩ => some D
  | _ => none
def cellOf (K : PySem.W.Frag) (f : Addr) : Option Addr := match K.lookup f with
  | some ⟨_, _, .func fd, _⟩ => (match fd.closure with
    | [(_, c)] => cellAt K c
    | _ => none)
  | _ => none
def noneB : Value → Bool
  | .none => true
  | _ => false
def iniB (K : PySem.W.Frag) (file q : Str) (f : Addr) : Bool := (match K.lookup f with
  | some ⟨_, _, .func fd, _⟩ => codeAtB K file q fd.code && noneB fd.defaults
  | _ => false) && (match cellOf K f with
  | some D => (PySem.W.clsIn K D).isSome
  | none => false)
structure IniS (P : Program) (name qual arn fld : Str) (params : Arguments) (body : List Stmt) (sc : Scope) : Prop where
  shape : ∃ p0 p1 p2 p3 p4 p5 q0 q1 q2 q3 a0 a1, body = [.Expr (.Call (.Attribute (.Call (.Name "super" p0) [] [] p1) "__init__" p2) [.Name arn p3] [] p4) p5, .Assign [.Attribute (.Name "self" q0) fld q1] (.Name arn q2) q3] ∧
    (∀ env : PySem.Env, ∃ pl : Sem Bool, eval (.Call (.Attribute (.Call (.Name "super" p0) [] [] p1) "__init__" p2) [.Name arn p3] [] p4) env = (do
      let ov ← attributeBase (.Call (.Name "super" p0) [] [] p1) "__init__" env (eval (.Call (.Name "super" p0) [] [] p1) env)
      standAt p2.atName
      let (f, first) ← holding [ov] (getMethod ov "__init__" pl)
      callWith p4 f first (backTo p4 (starEach [.Name arn p3] env)) [])) ∧ (params.posonlyargs ++ params.args).head? = some ⟨"self", a0, a1⟩
  binds : ∀ (kV doc pm : Value) (an : Option Addr) (cd ct : Value) (cc : Addr) (u v : Value), bindArgs (PySem.W.ksFn name qual params body sc .none kV doc pm an cd ct cc) ⟨[u, v], []⟩ = pure [(("self" : Str), u), (arn, v)]
  ne : arn ≠ "self"
  db : (arn == ("__debug__" : Str)) = false
  top : (P.main.scope.names.lookup ("super" : Str)).isSome = false
  nc : ∀ x ∈ sc.names, x.2 ≠ .cell
  co : sc.isCoroutine = false
  gen : sc.isGenerator = false
  kind : sc.kind = .function
  self : sc.names.lookup ("self" : Str) = some .local
  arg : sc.names.lookup arn = some .local
  sup : sc.names.lookup ("super" : Str) = some .globalImplicit
  cls : sc.names.lookup ("__class__" : Str) = some .free
theorem codeAt_of {K : PySem.W.Frag} {file q : Str} {cd : Value} (h : codeAtB K file q cd = true) : ∃ cda ccl cdd vs ccs f tf, cd = .ref cda ∧ PySem.W.codeIn K (.ref cda) q = true ∧ K.lookup cda = some ⟨ccl, cdd, .fields vs, ccs⟩ ∧ vs[2]? = some (.str f tf) ∧ (file == f) = true := by
  cases cd with
  | ref c =>
    obtain ⟨h1, h2⟩ := He.ba (show (PySem.W.codeIn K (.ref c) q && (match K.lookup c with
      | some ⟨_, _, .fields vs, _⟩ => (match vs[2]? with
        | some (Value.str f _) => file == f
        | _ => false)
      | _ => false)) = true from h)
    cases e : K.lookup c with
    | none => rw [e] at h2; cases h2
    | some o =>
      obtain ⟨oc, od, dt, osl⟩ := o
      rw [e] at h2
      cases dt with
      | fields vs =>
        have h3 : (match vs[2]? with
          | some (Value.str f _) => file == f
          | _ => false) = true := h2
        split at h3
        · rename_i f tf hv
          exact ⟨c, oc, od, vs, osl, f, tf, rfl, h1, e, hv, h3⟩
        · cases h3
      | _ => cases h2
  | _ => cases h
theorem cellAt_of {K : PySem.W.Frag} {c D : Addr} (h : cellAt K c = some D) : ∃ cl cld csl, K.lookup c = some ⟨cl, cld, .cell (some (.ref D)), csl⟩ := by
  unfold cellAt at h
  cases e : K.lookup c with
  | none => rw [e] at h; cases h
  | some o =>
    obtain ⟨oc, od, dt, osl⟩ := o
    rw [e] at h
    cases dt with
    | cell v =>
      cases v with
      | none => cases h
      | some u =>
        cases u with
        | ref a => cases h; exact ⟨_, _, _, rfl⟩
        | _ => cases h
    | _ => cases h
section
variable {C : PC}
theorem rsnI_of {f : Addr} {name qual arn fld : Str} {params : Arguments} {body : List Stmt} {sc : Scope} (S : IniS C.P name qual arn fld params body sc)
    (hw : inW C.K f = some (name, qual, params, FuncBody.stmts body, sc, mainGlobals, [("__class__" : Str)], builtinsNs)) (hb : iniB C.K C.P.main.file qual f = true) (hs : C.mg "super" = none) (hop : PySem.W.nsIn C.K cStatics "thirdparty.any" = some none) : RsnI C f fld := by
  refine ⟨?_, hop⟩
  obtain ⟨h1, h2⟩ := He.ba (show ((match C.K.lookup f with
    | some ⟨_, _, .func fd, _⟩ => codeAtB C.K C.P.main.file qual fd.code && noneB fd.defaults
    | _ => false) && (match cellOf C.K f with
    | some D => (PySem.W.clsIn C.K D).isSome
    | none => false)) = true from hb)
  obtain ⟨p0, p1, p2, p3, p4, p5, q0, q1, q2, q3, a0, a1, s1, s2, s3⟩ := S.shape
  cases e : cellOf C.K f with
  | none => rw [e] at h2; cases h2
  | some D =>
  rw [e] at h2
  obtain ⟨cdD, hcd⟩ := Option.isSome_iff_exists.mp h2
  unfold inW at hw
  unfold cellOf at e
  cases q : C.K.lookup f with
  | none => rw [q] at h1; cases h1
  | some o =>
    obtain ⟨oc, od, dt, osl⟩ := o
    rw [q] at h1 hw e
    cases dt with
    | func fd =>
      obtain ⟨n1, n2, n3, n4, n5, n6, n7, n8, n9, n10, n11, n12, n13, n14, n15⟩ := fd
      have hw : (some (n1, n2, n3, n4, n5, n6, n7.map (·.1), n15) : InW) = some (name, qual, params, FuncBody.stmts body, sc, mainGlobals, [("__class__" : Str)], builtinsNs) := hw
      simp only [Option.some.injEq, Prod.mk.injEq] at hw
      obtain ⟨e1, e2, e3, e4, e5, e6, e7, e8⟩ := hw
      replace e1 := e1.symm
      replace e2 := e2.symm
      replace e3 := e3.symm
      replace e4 := e4.symm
      replace e5 := e5.symm
      replace e6 := e6.symm
      replace e8 := e8.symm
      subst e1 e2 e3 e4 e5 e6 e8
      obtain ⟨h3, h4⟩ := He.ba (show (codeAtB C.K C.P.main.file qual n13 && noneB n8) = true from h1)
      have e8 : n8 = .none := by
        cases n8 <;> first | rfl | cases h4
      subst e8
      obtain ⟨cda, ccl, cdd, vs, ccs, fl, tf, rfl, k1, k2, k3, k4⟩ := codeAt_of h3
      match n7, e7, e, q with
      | [(nm, c)], e7, e, q =>
        have hn : nm = "__class__" := by simpa using e7
        subst hn
        obtain ⟨cl, cld, csl, k5⟩ := cellAt_of (show cellAt C.K c = some D from e)
        exact ⟨oc, od, _, _, _, _, _, _, _, _, _, _, cda, _, c, osl, ccl, cdd, vs, ccs, fl, tf, cl, cld, D, csl, cdD, p0, p1, p2, p3, p4, p5, q0, q1, q2, q3, a0, a1, arn,
          rfl, s1, s2, k1, s3, fun u v => S.binds _ _ _ _ _ _ _ u v, S.ne, S.db, k2, k3, k4, S.top, k5, hcd, hs, S.nc, S.co, S.gen, S.kind, S.self, S.arg, S.sup, S.cls⟩
    | _ => cases hw
/-- what is asked of a class with that __init__ -/
def oexB (K : PySem.W.Frag) (Ca : Addr) : Bool := (match K.lookup Ca with
  | some ⟨.type t, _, .cls cd, sl⟩ => decide (t = "type") && (cd.hasDict && (!cd.hasDel && (match cd.mro, sl.toList with
    | .ref C' :: bm, [_, _, _, _, some (.builtin n), _] => decide (C' = Ca) && (decide (n = "ValueError.__new__") && PySem.HandSPX.refsVE bm)
    | _, _ => false)))
  | _ => false) && (decide (PySem.W.findIn K (.ref Ca) "__setattr__" = some (some (.builtin "object.__setattr__"))) && (decide (PySem.W.subIn K (.ref Ca) (.type "BaseException") = some true) && (decide (PySem.W.typeIn K (.ref Ca) = some (.type "type")) && PySem.W.keepIn K (.ref Ca))))
theorem oex_of {K : PySem.W.Frag} {Ca : Addr} (h : oexB K Ca = true) : OexC K Ca := by
  obtain ⟨h1, h⟩ := He.ba h
  obtain ⟨h2, h⟩ := He.ba h
  obtain ⟨h3, h⟩ := He.ba h
  obtain ⟨h4, h5⟩ := He.ba h
  refine ⟨?_, of_decide_eq_true h2, of_decide_eq_true h3, of_decide_eq_true h4, h5⟩
  split at h1
  · rename_i t dd cd sl q
    obtain ⟨a1, g1⟩ := He.ba h1
    obtain ⟨a2, g2⟩ := He.ba g1
    obtain ⟨a3, g3⟩ := He.ba g2
    clear h1 g1 g2
    have a1' := of_decide_eq_true a1
    subst a1'
    obtain ⟨nm, bs, mro, ns, qn, hd, sn, sb, ab, col, del⟩ := cd
    dsimp only at a2 a3 g3
    subst a2
    have a4 : del = false := by cases del <;> first | rfl | cases a3
    subst a4
    split at g3
    · rename_i C' bm k0 k1 k2 k3 n k5 e1
      obtain ⟨b1, g4⟩ := He.ba g3
      obtain ⟨b2, b3⟩ := He.ba g4
      have b1' := of_decide_eq_true b1
      have b2' := of_decide_eq_true b2
      subst b1' b2'
      refine ⟨nm, qn, ns, bs, bm, sn, sb, ab, col, dd, k0, k1, k2, k3, k5, ?_, b3⟩
      obtain ⟨sl⟩ := sl
      dsimp only at e1
      subst e1
      exact q
    · cases g3
  · cases h1
def rsnB (K : PySem.W.Frag) (fI : Addr) (fld : Str) (Ca : Addr) : Bool := oexB K Ca && (decide (PySem.W.findIn K (.ref Ca) "__init__" = some (some (.ref fI))) && (decide (PySem.W.typeIn K (.ref fI) = some (.type "function")) && (decide (PySem.W.findIn K (.ref Ca) fld = some none) &&
  ((match cellOf K fI with
  | some D => decide (PySem.W.mroIn K Ca (.ref D) = some true) && decide (PySem.W.ks_superIn K Ca D "__init__" = some (some (.builtin "ValueError.__init__")))
  | none => false) && decide (PySem.W.subIn K (.ref Ca) (.type "ValueError") = some true)))))
theorem rsnC_of {fI Ca : Addr} {fld : Str} (h : rsnB C.K fI fld Ca = true) : RsnC C fI fld Ca := by
  obtain ⟨h1, h⟩ := He.ba h
  obtain ⟨h2, h⟩ := He.ba h
  obtain ⟨h3, h⟩ := He.ba h
  obtain ⟨h4, h⟩ := He.ba h
  obtain ⟨h5, h6⟩ := He.ba h
  refine ⟨oex_of h1, of_decide_eq_true h2, of_decide_eq_true h3, of_decide_eq_true h4, fun cc cl cld D csl ⟨oc, od, name, qual, params, body, sc, dV, kV, doc, pm, an, cda, ct, osl, lk⟩ hc => ?_, of_decide_eq_true h6⟩
  have e : cellOf C.K fI = some D := by
    unfold cellOf
    rw [lk]
    show cellAt C.K cc = some D
    unfold cellAt
    rw [hc]
  rw [e] at h5
  obtain ⟨h7, h8⟩ := He.ba h5
  exact ⟨of_decide_eq_true h7, of_decide_eq_true h8⟩
def xclB (K : PySem.W.Frag) (a : Addr) : Bool := xfB K a && ((PySem.W.clsIn K a).isSome && (decide (PySem.W.findIn K (.ref a) "__class__" = some (some (.builtin "object.__class__"))) && (decide (PySem.W.specialIn K (.builtin "object.__class__") "__get__" = some (some (.builtin "getset_descriptor.__get__"))) && (decide (PySem.W.takesIn K (.builtin "object.__class__") = some true) && decide (PySem.W.mroIn K a (.type "object") = some true)))))
theorem xcl_of {c : Str} (h : xclB C.K (C.cls c) = true) : XCl C c := by
  obtain ⟨h1, h⟩ := He.ba h
  obtain ⟨h2, h⟩ := He.ba h
  obtain ⟨h3, h⟩ := He.ba h
  obtain ⟨h4, h⟩ := He.ba h
  obtain ⟨h5, h6⟩ := He.ba h
  exact ⟨xfB_ok h1, h2, of_decide_eq_true h3, of_decide_eq_true h4, of_decide_eq_true h5, of_decide_eq_true h6⟩
end
/-! ### a module's tables -/
structure Mt where
  nums : List (Str × Int)
  frees : List Str
  /-- exception classes, each with all that stand above it in the module, itself too -/
  sup : List (Str × List Str)
  /-- those that are raised with the own __init__ -/
  rsn : List Str
  ini : Str
  fld : Str
  muts : List Str
  dts : List Str
  lks : List Str
def Mt.above (M : Mt) (y c : Str) : Bool := ((M.sup.lookup c).getD []).contains y
def Mt.gx (M : Mt) (fns : List (Str × Nat × List T × FM)) : Gx where
  gi := M.nums
  frees := M.frees
  fns := fns
  rs := M.rsn.map fun c => (c, M.fld)
  xn := fun c => M.rsn.contains c
  fld := M.fld
  cl := M.sup.map fun p => (p.1, M.above p.1, M.above p.1)
  muts := M.muts
  dts := M.dts
  lks := M.lks
def noLst (K : PySem.W.Frag) : Bool := K.all fun p => match p.2.cls with
  | .type c => !decide (c = "list")
  | _ => true
def Mt.faB (M : Mt) (K : PySem.W.Frag) : Bool := (M.nums.all fun p => (He.Fa.int p.1 p.2).ok K) && ((M.frees.all fun x => (He.Fa.free x).ok K) && ((M.sup.all fun p => (He.Fa.glo p.1).ok K) && (He.Fa.free "super").ok K))
def Mt.clB (M : Mt) (file q : Str) (K : PySem.W.Frag) : Bool := iniB K file q (He.ma K (He.ga K M.ini) "__init__") && (decide (PySem.W.nsIn K cStatics "thirdparty.any" = some none) && ((M.rsn.all fun c => (He.Fa.glo c).ok K && (rsnB K (He.ma K (He.ga K M.ini) "__init__") M.fld (He.ga K c) && (xclB K (He.ga K c) &&
  (M.sup.all fun y => decide (PySem.W.kitOne K (.ref (He.ga K c)) (.ref (He.ga K y.1)) = some (M.above y.1 c)) && decide (PySem.W.exmOne K (.ref (He.ga K c)) (.ref (He.ga K y.1)) = some (M.above y.1 c)))))) && noLst K))
abbrev AlM : Type := Bool × Bool × List He.FnW × InW
def obM (n : Nat) (M : Mt) (file q : Str) (fn : List He.DefD) (K : PySem.W.Frag) : AlM := (M.faB K && M.clB file q K, fn.all (fun d => (He.Fa.glo d.name).ok K && d.ok K), fn.map (fun d => He.fnW K d.at_), inW K (He.ma K (He.ga K M.ini) "__init__"))
def hookM (n : Nat) (M : Mt) (file q : Str) (fn : List He.DefD) (iv : InW) : PySem.W.Hook where
  α := AlM
  obs := fun s => obM n M file q fn (He.frG s.heap.get? (cStatics :: He.asD s.heap.get? n))
  val := fun _ => (true, true, fn.map He.DefD.val, iv)
  says := fun _ h => ∃ K : PySem.W.Frag, K.In h ∧ obM n M file q fn K = (true, true, fn.map He.DefD.val, iv)
  of := fun _ _ e => ⟨_, He.frG_in, e⟩
  keeps := fun _ _ _ ⟨K, hK, c⟩ k => ⟨K, PySem.W.Frag.In.keeps hK k, c⟩
def obT (n : Nat) (M : Mt) (file q : Str) (fn : List He.DefD) (s : PySem.W.SharedT) : AlM := obM n M file q fn (He.frG (HandSHeadRun.getT s) (cStatics :: He.asD (HandSHeadRun.getT s) n))
theorem obT_eq {n : Nat} {M : Mt} {file q : Str} {fn : List He.DefD} {iv : InW} (s : PySem.W.SharedT) : obT n M file q fn s = (hookM n M file q fn iv).obs s.abs := by
  have e : HandSHeadRun.getT s = s.abs.heap.get? := funext (HandSHeadRun.getT_eq s)
  unfold obT
  rw [e] <;> rfl
/-- what holds of the heap behind the top -/
structure Top (C : PC) (M : Mt) (fn : List He.DefD) : Prop where
  gi : ∀ x i, M.nums.lookup x = some i → ∃ t, C.mg x = some (.int i t)
  free : ∀ x, M.frees.contains x = true → C.mg x = none
  rs : ∀ x fl, (M.rsn.map fun c => (c, M.fld)).lookup x = some fl → ∃ fI, RsnI C fI fl ∧ RsnC C fI fl (C.cls x) ∧ C.mg x = some (.ref (C.cls x))
  xcl : ∀ c, M.rsn.contains c = true → XCl C c ∧ PySem.W.findIn C.K (.ref (C.cls c)) M.fld = some none
  cl : ∀ y m, (M.sup.map fun p => (p.1, M.above p.1, M.above p.1)).lookup y = some m → ∃ c2, C.mg y = some (.ref c2) ∧ (∀ c, M.rsn.contains c = true → PySem.W.kitOne C.K (.ref (C.cls c)) (.ref c2) = some (m.1 c)) ∧ (∀ c, M.rsn.contains c = true → PySem.W.exmOne C.K (.ref (C.cls c)) (.ref c2) = some (m.2 c))
  fn : ∀ (i : Nat) (d : He.DefD), fn[i]? = some d → ∃ f fd, He.fAd C.K d.at_ = f ∧ FunD C.K d.name d.qual d.params d.body d.scope (d.dvs C.K) (d.kws C.K) f fd ∧ C.mg d.name = some (.ref (He.ga C.K d.name))
  nolst : noLst C.K = true
theorem lookup_map_mem {α β : Type} {g : α → β} {key : α → Str} : ∀ {l : List α} {x : Str} {r : β}, (l.map fun p => (key p, g p)).lookup x = some r → ∃ p ∈ l, key p = x ∧ g p = r
  | [], _, _, h => by cases h
  | p :: l, x, r, h => by
    rw [List.map_cons, List.lookup_cons] at h
    split at h
    · rename_i e
      cases h
      exact ⟨p, List.mem_cons_self .., (eq_of_beq e).symm, rfl⟩
    · obtain ⟨p', h1, h2, h3⟩ := lookup_map_mem h
      exact ⟨p', List.mem_cons_of_mem _ h1, h2, h3⟩
theorem top_of {P : Program} {w : World} {base h : Heap} {mg : Str → Option Value} {K : PySem.W.Frag} {n : Nat} {M : Mt} {q arn : Str} {fn : List He.DefD} {name : Str} {params : Arguments} {body : List Stmt} {sc : Scope} (S : IniS P name q arn M.fld params body sc)
    (X : K.In h) (G : h.Ns mainGlobals mg) (e : obM n M P.main.file q fn K = (true, true, fn.map He.DefD.val, some (name, q, params, FuncBody.stmts body, sc, mainGlobals, [("__class__" : Str)], builtinsNs))) :
    Top ⟨P, w, K, mg, base, He.ga K⟩ M fn := by
  have e1 : (M.faB K && M.clB P.main.file q K) = true := congrArg (fun z : AlM => z.1) e
  have e2 : (fn.all fun d : He.DefD => (He.Fa.glo d.name).ok K && d.ok K) = true := congrArg (fun z : AlM => z.2.1) e
  have e3 : (fn.map fun d : He.DefD => He.fnW K d.at_) = fn.map He.DefD.val := congrArg (fun z : AlM => z.2.2.1) e
  have e4 : inW K (He.ma K (He.ga K M.ini) "__init__") = _ := congrArg (fun z : AlM => z.2.2.2) e
  obtain ⟨f1, c1⟩ := He.ba e1
  obtain ⟨f1, f2⟩ := He.ba f1
  obtain ⟨f2, f3⟩ := He.ba f2
  obtain ⟨f3, f4⟩ := He.ba f3
  obtain ⟨c1, c2⟩ := He.ba c1
  obtain ⟨c2, c3⟩ := He.ba c2
  obtain ⟨c3, c4⟩ := He.ba c3
  have hc : ∀ c, M.rsn.contains c = true → (He.Fa.glo c).ok K = true ∧ rsnB K (He.ma K (He.ga K M.ini) "__init__") M.fld (He.ga K c) = true ∧ xclB K (He.ga K c) = true ∧ ∀ y ∈ M.sup, PySem.W.kitOne K (.ref (He.ga K c)) (.ref (He.ga K y.1)) = some (M.above y.1 c) ∧ PySem.W.exmOne K (.ref (He.ga K c)) (.ref (He.ga K y.1)) = some (M.above y.1 c) := fun c hm => by
    have h := List.all_eq_true.mp c3 c (by simpa using hm)
    obtain ⟨h0, h⟩ := He.ba h
    obtain ⟨h1, h⟩ := He.ba h
    obtain ⟨h2, h3⟩ := He.ba h
    refine ⟨h0, h1, h2, fun y hy => ?_⟩
    obtain ⟨h4, h5⟩ := He.ba (List.all_eq_true.mp h3 y hy)
    exact ⟨of_decide_eq_true h4, of_decide_eq_true h5⟩
  refine ⟨fun x i hx => ?_, fun x hx => ?_, fun x fl hx => ?_, fun c hx => ?_, fun y m hx => ?_, fun i d hd => ?_, c4⟩
  · have hm : (x, i) ∈ M.nums := by
      obtain ⟨a, b, h1, _⟩ := List.lookup_eq_some_iff.mp hx
      rw [h1]
      simp
    exact He.int_ok X G (List.all_eq_true.mp f1 _ hm)
  · exact He.free_ok X G (List.all_eq_true.mp f2 x (by simpa using hx))
  · obtain ⟨c, h1, h2, h3⟩ := lookup_map_mem (key := fun c : Str => c) (g := fun _ => M.fld) hx
    subst h2 h3
    obtain ⟨g0, g1, g2, g3⟩ := hc c (by simpa using h1)
    exact ⟨_, rsnI_of (C := ⟨P, w, K, mg, base, He.ga K⟩) S e4 c1 (He.free_ok X G f4) (of_decide_eq_true c2), rsnC_of (C := ⟨P, w, K, mg, base, He.ga K⟩) g1, He.glo_ok X G g0⟩
  · obtain ⟨g0, g1, g2, g3⟩ := hc c hx
    exact ⟨xcl_of (C := ⟨P, w, K, mg, base, He.ga K⟩) g2, (rsnC_of (C := ⟨P, w, K, mg, base, He.ga K⟩) g1).nof⟩
  · obtain ⟨p, h1, h2, h3⟩ := lookup_map_mem (key := fun p : Str × List Str => p.1) (g := fun p => (M.above p.1, M.above p.1)) hx
    subst h2 h3
    exact ⟨He.ga K p.1, He.glo_ok X G (List.all_eq_true.mp f3 p h1), fun c hm => ((hc c hm).2.2.2 p h1).1, fun c hm => ((hc c hm).2.2.2 p h1).2⟩
  · have e5 : (fn.map fun d => He.fnW K d.at_)[i]? = (fn.map He.DefD.val)[i]? := by rw [e3]
    rw [List.getElem?_map, List.getElem?_map, hd] at e5
    have g0 : ((He.Fa.glo d.name).ok K && d.ok K) = true := List.all_eq_true.mp e2 d (List.mem_of_getElem? hd)
    obtain ⟨g1, g2⟩ := He.ba g0
    obtain ⟨fd, F⟩ := He.DefD.funD (Option.some.inj e5) g2
    exact ⟨_, fd, rfl, F, He.glo_ok X G g1⟩
end Mi
end

section
set_option Elab.async false
set_option linter.all false
set_option maxRecDepth 100000
set_option maxHeartbeats 2000000
/-! Mh1: the law's end: the law's def by its denotation -/
namespace Mi
open PySem PySem.Spec L2
theorem rpl_nums {m : Mp} {H : Hp} : ∀ ns : List Int, RpL m H (ns.map V.int) (ns.map T.int)
  | [] => .nil
  | n :: r => .cons (.int n) (rpl_nums r)
/-- the law's def at the script -/
theorem law_den {C : PC} {k : Nat} {f a : Addr} {fd : FuncData} {x : Str} {φ : FM} {s1 : Shared} {vs : List Value} {ns : List Int} {H : Hp} (hbase : C.base = hidT s1.heap H)
    (hH : H = fun b => if b = a then some (.frz { cls := .type "list", data := .seq vs.toArray } (.lst (ns.map V.int))) else none)
    (kin : C.K.In s1.heap) (hg : s1.heap.Ns mainGlobals C.mg) {mb : Str → Option Value} (hb : s1.heap.Ns builtinsNs mb) (hbb : ∀ x : Str, x ≠ "__name__" → mb x = bootBuiltins x) (lim : s1.heap.NoLimit) (hgens : s1.gens = #[])
    (ha : s1.heap.get? a = some { cls := .type "list", data := .seq vs.toArray }) (hi : PyProof.Rows.IntsAre vs ns) (hl : ns.length ≤ sizeLine) (hr : Room k callerA) (hK : C.K.lookup a = none)
    (F : FnD C k f fd [x] φ) (hbind : ∀ (s : Shared) (u : Value), BindsTo s fd ⟨[u], []⟩ [(x, u)]) (hφ : φ [.scr (ns.map T.int)] [] = .ok (.bl true) []) :
    codeAny (model C.P C.w) callerA (.call (.ref f) ⟨[.ref a], []⟩) (fun r s' => r = .ok (.ret (.bool true)) ∧ OldK s1.heap s'.heap ∧ s'.os = s1.os ∧ PyProof.Rows.AllBare s'.gens) s1 := by
  have rv := vals_ints hi
  have Ha : H a = some (.frz { cls := .type "list", data := .seq vs.toArray } (.lst (ns.map V.int))) := by rw [hH]; exact if_pos rfl
  have Hn : ∀ b, b ≠ a → H b = none := fun b hb => by rw [hH]; exact if_neg hb
  have only : ∀ {b u}, H b = some u → b = a := fun {b u} e => by
    by_cases z : b = a
    · exact z
    · rw [Hn b z] at e; cases e
  have hok : HOk C.P C.w H s1.heap := fun b u e => by
    obtain rfl := only e
    rw [Ha] at e
    cases e
    exact ⟨ha, by rw [List.length_map]; exact hl, vs, _, rv, ha⟩
  have dict : ∀ {b : Addr} {o : Obj} {es : Array DictEntry} {ep : Nat}, s1.heap.get? b = some o → o.data = .dict es ep → H b = none := fun {b o es ep} e d => Hn b fun z => by
    subst z
    rw [ha] at e
    cases e
    cases d
  have sub : ∀ {b : Addr} {mm : Str → Option Value}, s1.heap.Ns b mm → (hidT s1.heap H).Ns b mm := fun ⟨o, es, ep, e, d, r⟩ => ⟨o, es, ep, hidT_get e (dict e d), d, r⟩
  have kb : C.K.In (hidT s1.heap H) := fun b o e => hidT_get (kin b o e) (Hn b fun z => by
    subst z
    rw [hK] at e
    cases e)
  have hM : Mod C.K C.mg C.base := by
    rw [hbase]
    obtain ⟨mc, l1, l2⟩ := lim
    exact ⟨kb, sub hg, ⟨mb, sub hb, hbb⟩, ⟨mc, sub l1, l2⟩⟩
  have e0 : Env0 C.P C.w C.K C.mg C.base callerA [] s1 H := by
    refine ⟨rfl, hM, ?_, ?_, trivial, (fun b hb => absurd (show b ∈ ([] : List Addr) from hb) List.not_mem_nil), hok, .of_eq hgens⟩
    · intro b o e
      rw [hbase] at e
      exact of_hidT e
    · rw [hbase, hidT_size]
      exact Nat.le_refl _
  have rs : RS (fun _ => none) H [] := ⟨(fun _ _ _ h => by cases h), (fun _ _ h => by cases h), (fun _ _ h => by cases h), (fun n o h => by simp at h)⟩
  refine codeAny_mono (F.run (m := fun _ => none) (S := []) (E := fun _ _ _ => False) (Q := fun v _ => v = .bl true) (vs := [.ref a]) (us := [.ref a]) (ts := [.scr (ns.map T.int)]) hr rfl e0 (hbind s1 (.ref a)) (.cons rfl .nil) rfl (.cons (.scr Ha (fun _ z => by cases z) (rpl_nums ns)) .nil) rs ?_) fun r s' h => ?_
  · rw [hφ]
    intro m' H' v _ _ r
    cases r
    rfl
  · cases r with
    | error e =>
      obtain ⟨_, _, _, _, _, _, _, _, _, _, _, _, z⟩ := h
      exact z.elim
    | ok fl =>
      cases fl with
      | ret u =>
        obtain ⟨v, H', os, bare, un, hok2, rel, q⟩ := h
        have q : v = .bl true := q
        subst q
        obtain rfl : u = Value.bool true := rel
        refine ⟨rfl, OldK.of_keep fun b o e => ?_, os, bare⟩
        by_cases z : b = a
        · subst z
          have y := un.frzs b _ _ Ha
          obtain ⟨y1, _⟩ := hok2 b _ y
          rw [ha] at e
          cases e
          exact y1
        · exact un.keep b o e (Hn b z) (by intro y; cases y) (by intro y; cases y)
      | next => exact False.elim h
      | brk => exact False.elim h
      | cont => exact False.elim h
/-- a law: F gives the module's facts and the law's def over every base -/
theorem walk_den {l : PySem.W.OpenLaw} {n k : Nat} {q : Program} {loose : List Str} {XP : (Str → Option Value) → Heap → Prop} {YP : World → Heap → Prop} {d : PySem.DefRec} {x : Str} {φ : FM}
    (hn : l.most = some n) (hn2 : n ≤ sizeLine) (hdf : d.params.defaults = []) (hr : Room k callerA)
    (hφ : ∀ ns : List Int, ns.length ≤ n → φ [.scr (ns.map T.int)] [] = .ok (.bl true) [])
    (F : ∀ (w : World) (mg : Str → Option Value) (f : Addr) (h : Heap), YP w h → h.Ns mainGlobals mg → mg d.name = some (.ref f) →
      ∃ (K : PySem.W.Frag) (cls : Str → Addr), K.In h ∧ noLst K = true ∧ ∀ base : Heap, ∃ fd : FuncData, (∀ (s : Shared) (u : Value), BindsTo s fd ⟨[u], []⟩ [(x, u)]) ∧ FnD ⟨l.prog, w, K, mg, base, cls⟩ k f fd [x] φ) :
    PySem.W.WalkO q loose XP YP l.row.toRowW d [] (fun f vs => PySem.call f vs) := by
  refine Att.attach_call hn hdf fun w s0 s1 mg mb f o pm cd doc a vs ns G Y ho hd hcd hmg hobj hnums hlen hgens => ?_
  obtain ⟨K, cls, kin, nol, hF⟩ := F w mg f _ Y G.T.g hmg
  have hK : K.lookup a = none := by
    cases e : K.lookup a with
    | none => rfl
    | some o' =>
      have e1 := kin _ _ e
      rw [hobj] at e1
      cases e1
      have hm : ((a, ({ cls := .type "list", data := .seq vs.toArray } : Obj)) : Addr × Obj) ∈ K := by
        obtain ⟨l1, l2, h1, _⟩ := List.lookup_eq_some_iff.mp e
        rw [h1]
        simp
      have := List.all_eq_true.mp nol _ hm
      cases this
  obtain ⟨fd, hb, hD⟩ := hF (hidT s1.heap fun b => if b = a then some (.frz { cls := .type "list", data := .seq vs.toArray } (.lst (ns.map V.int))) else none)
  exact law_den (C := ⟨l.prog, w, K, mg, _, cls⟩) rfl rfl kin G.T.g G.T.b G.T.builtins G.T.nolimit hgens hobj hnums (Nat.le_trans hlen hn2) hr hK hD hb (hφ ns hlen)
end Mi
end

section
set_option Elab.async false
set_option linter.all false
set_option maxRecDepth 100000
set_option maxHeartbeats 2000000
/-! Mh2: defs one behind another -/
namespace Mi
open PySem PySem.Spec L2
structure GFns (C : PC) (k : Nat) (fns : List (Str × Nat × List T × FM)) : Prop where
  ok : ∀ x n dt φ, fns.lookup x = some (n, dt, φ) → ∃ f fd ps ds dvs, FnD C k f fd ps φ ∧ C.mg x = some (.ref f) ∧ PySem.W.keepIn C.K (.ref f) = true ∧ Binds C.K fd ps ds ∧ Flats dvs ds dt ∧ ps.length = n
theorem GFns.nil {C : PC} {k : Nat} : GFns C k [] := ⟨fun _ _ _ _ h => by cases h⟩
theorem GFns.mono {C : PC} {j k : Nat} {fns : List (Str × Nat × List T × FM)} (F : GFns C j fns) (h : j ≤ k) : GFns C k fns := ⟨fun x n dt φ e => by
  obtain ⟨f, fd, ps, ds, dvs, h1, h2⟩ := F.ok x n dt φ e
  exact ⟨f, fd, ps, ds, dvs, h1.mono h, h2⟩⟩
theorem GFns.cons {C : PC} {k n : Nat} {fns : List (Str × Nat × List T × FM)} {x : Str} {dt : List T} {φ : FM} (F : GFns C k fns)
    (h : ∃ f fd ps ds dvs, FnD C k f fd ps φ ∧ C.mg x = some (.ref f) ∧ PySem.W.keepIn C.K (.ref f) = true ∧ Binds C.K fd ps ds ∧ Flats dvs ds dt ∧ ps.length = n) : GFns C k ((x, n, dt, φ) :: fns) := ⟨fun y n' dt' φ' e => by
  rw [List.lookup_cons] at e
  split at e
  · rename_i z
    cases e
    rw [eq_of_beq z]
    exact h
  · exact F.ok _ _ _ _ e⟩
section
variable {C : PC} {M : Mt} {fn : List He.DefD} {k : Nat} {fns : List (Str × Nat × List T × FM)}
theorem gok_of (Tp : Top C M fn) (F : GFns C (k + 1) fns) : GOk C (k + 1) (M.gx fns) := ⟨Tp.gi, Tp.free, F.ok, fun x fl h => by
  obtain ⟨fI, h1, h2, h3⟩ := Tp.rs x fl h
  exact ⟨fI, k, h1, h2, h3, rfl⟩, Tp.xcl, Tp.cl⟩
theorem fnd_den (Tp : Top C M fn) (F : GFns C (k + 1) fns) {i n : Nat} {d : He.DefD} {N ps : List Str} {g : SM} (hd : fn[i]? = some d) (Sc : FnScope N ps d.scope) (hden : denD (M.gx fns) n N d.scope d.body = some g) :
    ∃ f fd, He.fAd C.K d.at_ = f ∧ FunD C.K d.name d.qual d.params d.body d.scope (d.dvs C.K) (d.kws C.K) f fd ∧ C.mg d.name = some (.ref (He.ga C.K d.name)) ∧ FnD C (k + 2) f fd ps (fnOf N.length g) := by
  obtain ⟨f, fd, e, hF, hm⟩ := Tp.fn i d hd
  refine ⟨f, fd, e, hF, hm, ?_⟩
  obtain ⟨oc, od, dV, kV, doc, pm, an, cdv, ct, osl, rfl, lk, hcd, _, _⟩ := hF.ex
  exact fnd_of lk hcd Sc (denD_ok (gok_of Tp F) hden)
theorem fn_step (Tp : Top C M fn) (F : GFns C (k + 1) fns) {i n : Nat} {x : Str} {params : Arguments} {body : List Stmt} {scope : Scope} {N ps : List Str} {g : SM} (hd : fn[i]? = some ⟨(x, none), x, x, params, body, scope, [], []⟩) (Sc : FnScope N ps scope)
    (hden : denD (M.gx fns) n N scope body = some g)
    (hb : ∀ (kV doc pm : Value) (an : Option Addr) (cdv ct : Value) (us : List Value), us.length = ps.length → bindArgs (PySem.W.fnOf x x params body scope .none kV doc pm an cdv ct) ⟨us, []⟩ = pure (ps.zip us)) : GFns C (k + 2) ((x, ps.length, [], fnOf N.length g) :: fns) := by
  obtain ⟨f, fd, e, hF, hm, hφ⟩ := fnd_den Tp F hd Sc hden
  refine (F.mono (Nat.le_succ _)).cons ⟨f, fd, ps, [], [], hφ, ?_, hF.kp, FunD.bindsN hF hb, .nil, rfl⟩
  rw [← e]
  exact hm
/-- the law's def -/
theorem fn_law (Tp : Top C M fn) (F : GFns C (k + 1) fns) {i n : Nat} {x y : Str} {params : Arguments} {body : List Stmt} {scope : Scope} {N : List Str} {g : SM} {f : Addr} (hd : fn[i]? = some ⟨(x, none), x, x, params, body, scope, [], []⟩) (Sc : FnScope N [y] scope)
    (hden : denD (M.gx fns) n N scope body = some g) (hf : C.mg x = some (.ref f))
    (hb : ∀ (kV doc pm : Value) (an : Option Addr) (cdv ct : Value) (us : List Value), us.length = 1 → bindArgs (PySem.W.fnOf x x params body scope .none kV doc pm an cdv ct) ⟨us, []⟩ = pure (List.zip [y] us)) :
    ∃ fd, (∀ (s : Shared) (u : Value), BindsTo s fd ⟨[u], []⟩ [(y, u)]) ∧ FnD C (k + 2) f fd [y] (fnOf N.length g) := by
  obtain ⟨f', fd, e, hF, hm, hφ⟩ := fnd_den Tp F hd Sc hden
  have e2 : f' = f := by
    rw [hf] at hm
    cases hm
    rw [← e] <;> rfl
  subst e2
  exact ⟨fd, fun s u => FunD.bindsA (ps := [y]) hF hb s [u] rfl, hφ⟩
end
end Mi
end

section
set_option Elab.async false
set_option linter.all false
set_option maxRecDepth 100000
set_option maxHeartbeats 2000000
/-! Sy0: laws of the denotation by which a def is reckoned -/
namespace Mi
open PySem PySem.Spec L2
section
variable {α β : Type} {ρ : Env} {S S1 : Sto}
@[simp] theorem bind_ok {a : α} {k : α → Sto → R β} : (R.ok a S).bind k = k a S := id rfl
@[simp] theorem bind_exc {c : Str} {fs : List (Str × T)} {k : α → Sto → R β} : (R.exc c fs S : R α).bind k = .exc c fs S := id rfl
@[simp] theorem if_true {r : R α} : R.if true r = r := id rfl
@[simp] theorem fif_true {r : RF} : RF.if true r = r := id rfl
@[simp] theorem then_ok {a : α} {k : α → Sto → RF} : (R.ok a S).then ρ k = k a S := id rfl
@[simp] theorem then_exc {c : Str} {fs : List (Str × T)} {k : α → Sto → RF} : (R.exc c fs S : R α).then ρ k = .exc c fs ρ S := id rfl
@[simp] theorem calm_ok {a : α} : (R.ok a S).calm = R.ok a S := id rfl
@[simp] theorem eVar_z {t : T} : eVar 0 (some t :: ρ) S = .ok t S := id rfl
@[simp] theorem eVar_s {x : Option T} {i : Nat} : eVar (i + 1) (x :: ρ) S = eVar i ρ S := id rfl
@[simp] theorem eC_e {t : T} : eC t ρ S = .ok t S := id rfl
@[simp] theorem aNil_e : aNil ρ S = .ok [] S := id rfl
@[simp] theorem aCons_e {f : EM} {g : AM} : aCons f g ρ S = (f ρ S).bind fun x S1 => (g ρ S1).bind fun xs S2 => .ok (x :: xs) S2 := id rfl
@[simp] theorem eTup_e {g : AM} : eTup g ρ S = (g ρ S).bind fun xs S1 => R.if (decide (xs.length ≤ line)) (.ok (.tup xs) S1) := id rfl
@[simp] theorem e2_e {f : Sto → T → T → R T} {a b : EM} : e2 f a b ρ S = (a ρ S).bind fun x S1 => (b ρ S1).bind fun y S2 => f S2 x y := id rfl
@[simp] theorem e1_e {f : Sto → T → R T} {a : EM} : e1 f a ρ S = (a ρ S).bind fun x S1 => f S1 x := id rfl
@[simp] theorem eB_e {f : Sto → List T → R T} {g : AM} : eB f g ρ S = (g ρ S).bind fun xs S1 => f S1 xs := id rfl
@[simp] theorem eCall_e {φ : FM} {n : Nat} {g : AM} : eCall φ n [] g ρ S = (g ρ S).bind fun ts S1 => R.if (ts.length == n) (φ ts S1) := by
  unfold eCall
  simp
@[simp] theorem eIs_e {n : String} {f : EM} : eIs n f ρ S = (f ρ S).bind fun x S1 => match tyT S1 x with
  | some t => .ok (.bl (kinT t n)) S1
  | none => .bad := id rfl
@[simp] theorem bVal_e {f : EM} : bVal f ρ S = (f ρ S).bind fun t S1 => match t with
  | .bl b => .ok b S1
  | _ => .bad := id rfl
@[simp] theorem bTru_e {f : EM} : bTru f ρ S = (f ρ S).bind fun t S1 => match truT S1 t with
  | some b => .ok b S1
  | none => .bad := id rfl
@[simp] theorem bNot_e {f : BM} : bNot f ρ S = (f ρ S).bind fun b S1 => .ok (!b) S1 := id rfl
@[simp] theorem bAnd_e {f g : BM} : bAnd f g ρ S = (f ρ S).bind fun b S1 => match b with
  | true => g ρ S1
  | false => .ok false S1 := id rfl
@[simp] theorem bOr_e {f g : BM} : bOr f g ρ S = (f ρ S).bind fun b S1 => match b with
  | true => .ok true S1
  | false => g ρ S1 := id rfl
@[simp] theorem eAnd_e {f g : EM} : eAnd f g ρ S = (f ρ S).bind fun t S1 => match t with
  | .bl true => g ρ S1
  | .bl false => .ok (.bl false) S1
  | _ => .bad := id rfl
@[simp] theorem eOr_e {f g : EM} : eOr f g ρ S = (f ρ S).bind fun t S1 => match t with
  | .bl true => .ok (.bl true) S1
  | .bl false => g ρ S1
  | _ => .bad := id rfl
@[simp] theorem eNot_e {f : EM} : eNot f ρ S = (f ρ S).bind fun t S1 => match t with
  | .bl b => .ok (.bl (!b)) S1
  | _ => .bad := id rfl
@[simp] theorem eIf_e {c : BM} {f g : EM} : eIf c f g ρ S = (c ρ S).bind fun b S1 => match b with
  | true => f ρ S1
  | false => g ρ S1 := id rfl
@[simp] theorem eChain_e {f g : Sto → T → T → R T} {a b c : EM} : eChain f g a b c ρ S = (a ρ S).bind fun x S1 => (b ρ S1).bind fun y S2 => (f S2 x y).bind fun r S3 => match r with
  | .bl true => (c ρ S3).bind fun z S4 => g S4 y z
  | .bl false => .ok (.bl false) S3
  | _ => .bad := id rfl
@[simp] theorem eFrz_e {f : LM} : eFrz f ρ S = (f ρ S).bind fun l S1 => .ok (.lst l) S1 := id rfl
@[simp] theorem eKeep_f {f : LM} : eKeep false f ρ S = (f ρ S).bind fun l S1 => .ok (.lst l) S1 := id rfl
@[simp] theorem eKeep_t {f : LM} : eKeep true f ρ S = (f ρ S).bind fun l S1 => R.if (T.pures l) (.ok (.obj S1.length) (S1 ++ [.lst l])) := id rfl
@[simp] theorem nLst_e {g : AM} : nLst g ρ S = (g ρ S).bind fun xs S1 => R.if (decide (xs.length ≤ line)) (.ok xs S1) := id rfl
@[simp] theorem nList_e {f : EM} : nList f ρ S = (f ρ S).bind fun x S1 => match seqT S1 x with
  | some l => R.if (decide (l.length ≤ line)) (.ok l S1)
  | none => .bad := id rfl
@[simp] theorem oNone_e : oNone ρ S = .ok none S := id rfl
@[simp] theorem oSome_e {f : EM} : oSome f ρ S = (f ρ S).bind fun t S1 => match t with
  | .int i => .ok (some i) S1
  | _ => .bad := id rfl
@[simp] theorem bYes_e : bYes ρ S = .ok true S := id rfl
/-! ### statements -/
@[simp] theorem sNil_e : sNil ρ S = .go (.nx ρ) S := id rfl
@[simp] theorem sBreak_e : sBreak ρ S = .go (.bk ρ) S := id rfl
@[simp] theorem sCont_e : sCont ρ S = .go (.ct ρ) S := id rfl
@[simp] theorem sSeq_e {f g : SM} : sSeq f g ρ S = (f ρ S).seq g := id rfl
@[simp] theorem seq_nx {g : SM} : (RF.go (.nx ρ) S).seq g = g ρ S := id rfl
@[simp] theorem seq_rt {g : SM} {t : T} : (RF.go (.rt t) S).seq g = .go (.rt t) S := id rfl
@[simp] theorem seq_bk {g : SM} : (RF.go (.bk ρ) S).seq g = .go (.bk ρ) S := id rfl
@[simp] theorem seq_ct {g : SM} : (RF.go (.ct ρ) S).seq g = .go (.ct ρ) S := id rfl
@[simp] theorem seq_exc {g : SM} {c : Str} {fs : List (Str × T)} : (RF.exc c fs ρ S).seq g = .exc c fs ρ S := id rfl
@[simp] theorem sSet_e {i : Nat} {f : EM} : sSet i f ρ S = (f ρ S).then ρ fun t S1 => .go (.nx (ρ.set i (some t))) S1 := id rfl
@[simp] theorem sRet_e {f : EM} : sRet f ρ S = (f ρ S).then ρ fun t S1 => .go (.rt t) S1 := id rfl
@[simp] theorem sDrop_e {f : EM} : sDrop f ρ S = (f ρ S).then ρ fun _ S1 => .go (.nx ρ) S1 := id rfl
@[simp] theorem sIf_e {c : BM} {f g : SM} : sIf c f g ρ S = (c ρ S).then ρ fun b S1 => match b with
  | true => f ρ S1
  | false => g ρ S1 := id rfl
@[simp] theorem sAsg_e {g : GM} {f : EM} : sAsg g f ρ S = (f ρ S).then ρ fun t S1 => match g t ρ with
  | some ρ' => .go (.nx ρ') S1
  | none => .bad := id rfl
@[simp] theorem sPar_e {i j : Nat} {g : AM} : sPar i j g ρ S = (g ρ S).then ρ fun ts S1 => match ts with
  | [x, y] => .go (.nx ((ρ.set i (some x)).set j (some y))) S1
  | _ => .bad := id rfl
@[simp] theorem pure_non : T.pure .non = true := id rfl
@[simp] theorem pure_bl {b : Bool} : T.pure (.bl b) = true := id rfl
@[simp] theorem pure_int {b : Int} : T.pure (.int b) = true := id rfl
@[simp] theorem pure_str {b : Str} : T.pure (.str b) = true := id rfl
@[simp] theorem pure_tup {l : List T} : T.pure (.tup l) = T.pures l := id rfl
@[simp] theorem pure_lst {l : List T} : T.pure (.lst l) = T.pures l := id rfl
@[simp] theorem pures_nil : T.pures [] = true := id rfl
@[simp] theorem pures_cons {t : T} {l : List T} : T.pures (t :: l) = (t.pure && T.pures l) := id rfl
/-- a value at hand: no script, no obj -/
def flat : T → Bool
  | .scr _ => false
  | .obj _ => false
  | _ => true
@[simp] theorem flat_non : flat .non = true := id rfl
@[simp] theorem flat_bl {b : Bool} : flat (.bl b) = true := id rfl
@[simp] theorem flat_int {b : Int} : flat (.int b) = true := id rfl
@[simp] theorem flat_str {b : Str} : flat (.str b) = true := id rfl
@[simp] theorem flat_tup {l : List T} : flat (.tup l) = true := id rfl
@[simp] theorem flat_lst {l : List T} : flat (.lst l) = true := id rfl
/-- a def's end -/
def outR (n : Nat) : RF → R T
  | .go (.rt t) S1 => R.if (decide (n ≤ S1.length)) (outT n t S1)
  | .go (.nx _) S1 => R.if (decide (n ≤ S1.length)) (.ok .non (S1.take n))
  | .exc c fs _ S1 => R.if (decide (n ≤ S1.length) && puresF fs) (.exc c fs (S1.take n))
  | _ => .bad
theorem fnOf_e {n : Nat} {f : SM} {ts : List T} : fnOf n f ts S = outR S.length (f (ts.map some ++ List.replicate (n - ts.length) none) S) := by
  unfold fnOf
  cases f (ts.map some ++ List.replicate (n - ts.length) none) S with
  | go fl S1 => cases fl <;> rfl
  | exc _ _ _ _ => rfl
  | bad => rfl
theorem outT_pure {n : Nat} {t : T} (h : t.pure = true) : outT n t S = .ok t (S.take n) := by
  have e : (∀ i, t ≠ .obj i) → outT n t S = R.if t.pure (.ok t (S.take n)) := fun hn => by cases t <;> first | rfl | exact absurd rfl (hn _)
  rw [e (fun i z => by rw [z] at h; cases h), h]
  rfl
/-- a value without obj, the store as it was -/
theorem outR_rt {t : T} (h : t.pure = true) : outR S.length (.go (.rt t) S) = .ok t S := by
  show R.if (decide (S.length ≤ S.length)) (outT S.length t S) = _
  rw [show decide (S.length ≤ S.length) = true by simp]
  show outT S.length t S = _
  rw [outT_pure h, List.take_length]
@[simp] theorem outR_bl {b : Bool} : outR S.length (.go (.rt (.bl b)) S) = .ok (.bl b) S := outR_rt rfl
@[simp] theorem outR_int {b : Int} : outR S.length (.go (.rt (.int b)) S) = .ok (.int b) S := outR_rt rfl
@[simp] theorem outR_str {b : Str} : outR S.length (.go (.rt (.str b)) S) = .ok (.str b) S := outR_rt rfl
@[simp] theorem outR_non : outR S.length (.go (.rt .non) S) = .ok .non S := outR_rt rfl
theorem outR_tup {l : List T} (h : T.pures l = true) : outR S.length (.go (.rt (.tup l)) S) = .ok (.tup l) S := outR_rt h
theorem outR_lst {l : List T} (h : T.pures l = true) : outR S.length (.go (.rt (.lst l)) S) = .ok (.lst l) S := outR_rt h
@[simp] theorem outR_nx : outR S.length (.go (.nx ρ) S) = .ok .non S := by
  unfold outR
  simp
@[simp] theorem outR_exs {c fl x : Str} : outR S.length (.exc c [(fl, .str x)] ρ S) = .exc c [(fl, .str x)] S := by
  unfold outR
  simp [puresF, T.pure]
theorem outR_exc {c : Str} {fs : List (Str × T)} (h : puresF fs = true) : outR S.length (.exc c fs ρ S) = .exc c fs S := by
  unfold outR
  simp [h]
/-- .. with own things behind the store -/
theorem outR_rt2 {t : T} {S2 : Sto} (h : t.pure = true) (hl : S1.length = S.length) : outR S.length (.go (.rt t) (S1 ++ S2)) = .ok t S1 := by
  show R.if (decide (S.length ≤ (S1 ++ S2).length)) (outT S.length t (S1 ++ S2)) = _
  rw [show decide (S.length ≤ (S1 ++ S2).length) = true by simp [hl]]
  show outT S.length t (S1 ++ S2) = _
  have e : (S1 ++ S2).take S.length = S1 := by rw [← hl, List.take_left]
  rw [outT_pure h, e]
theorem outR_obj {l : List T} {S2 : Sto} (h : T.pures l = true) (hl : S1.length = S.length) : outR S.length (.go (.rt (.obj S.length)) (S1 ++ .lst l :: S2)) = .ok (.lst l) S1 := by
  show R.if (decide (S.length ≤ (S1 ++ .lst l :: S2).length)) (outT S.length (.obj S.length) (S1 ++ .lst l :: S2)) = _
  rw [show decide (S.length ≤ (S1 ++ .lst l :: S2).length) = true by simp [hl]]
  show outT S.length (.obj S.length) (S1 ++ .lst l :: S2) = _
  unfold outT
  have e : (S1 ++ .lst l :: S2)[S.length]? = some (.lst l) := by rw [← hl]; simp
  have e2 : (S1 ++ .lst l :: S2).take S.length = S1 := by rw [← hl, List.take_left]
  simp only [Nat.lt_irrefl, if_false, e, e2, h, if_true]
end
end Mi
end

section
set_option Elab.async false
set_option linter.all false
set_option maxRecDepth 100000
set_option maxHeartbeats 2000000
/-! Sy1: values: whole numbers, lists, indexing, loops -/
namespace Mi
open PySem PySem.Spec L2
section
variable {S : Sto} {ρ : Env}
@[simp] theorem add_ii {a b : Int} : addL S (.int a) (.int b) = .ok (.int (a + b)) S := id rfl
@[simp] theorem sub_ii {a b : Int} : subT S (.int a) (.int b) = .ok (.int (a - b)) S := id rfl
@[simp] theorem neg_i {a : Int} : negT S (.int a) = .ok (.int (-a)) S := id rfl
@[simp] theorem le_ii {a b : Int} : leT S (.int a) (.int b) = .ok (.bl (decide (a ≤ b))) S := id rfl
@[simp] theorem gt_ii {a b : Int} : gtT S (.int a) (.int b) = .ok (.bl (decide (b < a))) S := id rfl
@[simp] theorem ge_ii {a b : Int} : geT S (.int a) (.int b) = .ok (.bl (decide (b ≤ a))) S := id rfl
@[simp] theorem lt_ii {a b : Int} : ltA S (.int a) (.int b) = .ok (.bl (decide (a < b))) S := id rfl
@[simp] theorem iadd_ii {a b : Int} : iaddT S (.int a) (.int b) = .ok (.int (a + b)) S := id rfl
theorem mod_ii {a b : Int} (h : 0 < b) : modT S (.int a) (.int b) = .ok (.int (a % b)) S := by
  show R.if (decide (0 < b)) _ = _
  rw [decide_eq_true h]
  rfl
theorem few_of {b : Int} (h : b.natAbs < 2 ^ 8000) : few 9000 b = true := by
  unfold few
  by_cases z : b.natAbs = 0
  · rw [z]; decide
  · have := (Nat.log2_lt z (k := 8000)).mpr h
    exact decide_eq_true (by omega)
theorem fdiv_ii {a b : Int} (h : 0 < b) (h2 : b.natAbs < 2 ^ 8000) : fdivT S (.int a) (.int b) = .ok (.int (a / b)) S := by
  show R.if (decide (0 < b) && few 9000 b) _ = _
  rw [decide_eq_true h, few_of h2]
  rfl
theorem mul_ii {a b : Int} (h : a.natAbs.log2 + b.natAbs.log2 < 1000000) : mulL S (.int a) (.int b) = .ok (.int (a * b)) S := by
  show R.if (decide (a.natAbs.log2 + b.natAbs.log2 < 1000000)) _ = _
  rw [decide_eq_true h]
  rfl
theorem log2_lt {n k : Nat} (h : n < 2 ^ k) (hk : 0 < k) : n.log2 < k := by
  by_cases z : n = 0
  · rw [z]; simpa using hk
  · exact (Nat.log2_lt z).mpr h
theorem mul_sm {a b : Int} (ha : a.natAbs < 2 ^ 8000) (hb : b.natAbs < 2 ^ 8000) : mulL S (.int a) (.int b) = .ok (.int (a * b)) S :=
  mul_ii (by have := log2_lt ha (by omega); have := log2_lt hb (by omega); omega)
@[simp] theorem eq_ii {a b : Int} : eqA S (.int a) (.int b) = .ok (.bl (a == b)) S := id rfl
@[simp] theorem ne_ii {a b : Int} : neA S (.int a) (.int b) = .ok (.bl (!(a == b))) S := id rfl
@[simp] theorem eq_ss {a b : Str} : eqA S (.str a) (.str b) = .ok (.bl (a == b)) S := id rfl
@[simp] theorem ne_ss {a b : Str} : neA S (.str a) (.str b) = .ok (.bl (!(a == b))) S := id rfl
@[simp] theorem int_i {a : Int} : fInt S [.int a] = .ok (.int a) S := id rfl
@[simp] theorem int_b {b : Bool} : fInt S [.bl b] = .ok (.int (if b then 1 else 0)) S := id rfl
@[simp] theorem abs_i {a : Int} : fAbs S [.int a] = .ok (.int (if a < 0 then -a else a)) S := id rfl
@[simp] theorem len_tup {l : List T} : fLen S [.tup l] = .ok (.int l.length) S := id rfl
@[simp] theorem len_lst {l : List T} : fLen S [.lst l] = .ok (.int l.length) S := id rfl
@[simp] theorem len_scr {l : List T} : fLen S [.scr l] = .ok (.int l.length) S := id rfl
@[simp] theorem tup_lst {l : List T} : fTup S [.lst l] = .ok (.tup l) S := id rfl
@[simp] theorem tup_tup {l : List T} : fTup S [.tup l] = .ok (.tup l) S := id rfl
@[simp] theorem tru_bl {b : Bool} : truT S (.bl b) = some b := id rfl
@[simp] theorem tru_lst {l : List T} : truT S (.lst l) = some (!l.isEmpty) := id rfl
@[simp] theorem tru_tup {l : List T} : truT S (.tup l) = some (!l.isEmpty) := id rfl
@[simp] theorem tru_int {i : Int} : truT S (.int i) = some (i != 0) := id rfl
@[simp] theorem tru_non : truT S .non = some false := id rfl
@[simp] theorem ty_tup {l : List T} : tyT S (.tup l) = some "tuple" := id rfl
@[simp] theorem ty_int {i : Int} : tyT S (.int i) = some "int" := id rfl
@[simp] theorem ty_bl {i : Bool} : tyT S (.bl i) = some "bool" := id rfl
@[simp] theorem ty_str {i : Str} : tyT S (.str i) = some "str" := id rfl
@[simp] theorem ty_non : tyT S .non = some "NoneType" := id rfl
@[simp] theorem ty_lst {l : List T} : tyT S (.lst l) = some "list" := id rfl
theorem ixN_in {n : Nat} {i : Int} (h0 : 0 ≤ i) (h1 : i < n) : ixN n i = some i.toNat := by
  unfold ixN
  rw [if_pos h0, if_pos h1]
theorem ixN_neg {n : Nat} {i : Int} (h0 : i < 0) (h1 : 0 ≤ i + n) : ixN n i = some (i + n).toNat := by
  unfold ixN
  rw [if_neg (by omega), if_pos (by omega)]
theorem at_in {α : Type} {l : List α} {i : Int} (h0 : 0 ≤ i) (h1 : i < l.length) : atI l i = l[i.toNat]? := by
  unfold atI
  rw [ixN_in h0 h1]
  rfl
theorem at_neg {α : Type} {l : List α} {i : Int} (h0 : i < 0) (h1 : 0 ≤ i + l.length) : atI l i = l[(i + l.length).toNat]? := by
  unfold atI
  rw [ixN_neg h0 h1]
  rfl
/-- the i-th of a list of encoded things -/
theorem ix_lst {l : List T} {i : Int} {t : T} (h : atI l i = some t) : ixA S (.lst l) (.int i) = .ok t S := by
  show (match atI l i with
    | some t => R.ok t S
    | none => .bad) = _
  rw [h]
theorem ix_tup {l : List T} {i : Int} {t : T} (h : atI l i = some t) : ixA S (.tup l) (.int i) = .ok t S := by
  show (match atI l i with
    | some t => R.ok t S
    | none => .bad) = _
  rw [h]
theorem ix_obj {l : List T} {i : Int} {t : T} {n : Nat} (hS : S[n]? = some (.lst l)) (h : atI l i = some t) : ixA S (.obj n) (.int i) = .ok t S := by
  have e : dicOf S (.obj n) = none := by unfold dicOf; simp only [hS]
  unfold ixA
  rw [e]
  show ixT S (.obj n) (.int i) = _
  unfold ixT
  have e2 : seqT S (.obj n) = some l := by
    show rdL S (.obj n) = _
    unfold rdL
    simp only [hS]
  simp only [e2, h]
theorem at_map {α : Type} {xs : List α} {f : α → T} {n : Nat} {x : α} (h : xs[n]? = some x) : (xs.map f)[n]? = some (f x) := by rw [List.getElem?_map, h]; rfl
theorem getD_at {α : Type} {xs : List α} {n : Nat} {d : α} (h : n < xs.length) : xs[n]? = some (xs.getD n d) := by
  rw [List.getD_eq_getElem?_getD]
  simp [h]
/-- by a Lean list -/
theorem ix_lm {α : Type} {xs : List α} {f : α → T} {i : Int} {d : α} (h0 : 0 ≤ i) (h1 : i < xs.length) : ixA S (.lst (xs.map f)) (.int i) = .ok (f (xs.getD i.toNat d)) S :=
  ix_lst (by rw [at_in h0 (by simpa using h1)]; exact at_map (getD_at (d := d) (by omega)))
theorem ix_tm {α : Type} {xs : List α} {f : α → T} {i : Int} {d : α} (h0 : 0 ≤ i) (h1 : i < xs.length) : ixA S (.tup (xs.map f)) (.int i) = .ok (f (xs.getD i.toNat d)) S :=
  ix_tup (by rw [at_in h0 (by simpa using h1)]; exact at_map (getD_at (d := d) (by omega)))
theorem tru_map {α : Type} {xs : List α} {f : α → T} : truT S (.lst (xs.map f)) = some (!xs.isEmpty) := by cases xs <;> rfl
theorem getD_mem {α : Type} {xs : List α} {n : Nat} {d : α} (h : n < xs.length) : xs.getD n d ∈ xs := by
  rw [List.getD_eq_getElem?_getD]
  simp only [h, List.getElem?_eq_getElem, Option.getD_some]
  exact List.getElem_mem _
@[simp] theorem sSubA_e {fo fi fe : EM} : sSubA fo fi fe ρ S = (fe ρ S).then ρ fun v S1 => (fo ρ S1).then ρ fun o S2 => (fi ρ S2).then ρ fun j S3 => subA ρ v o j S3 := id rfl
theorem subA_l {n p : Nat} {z : Int} {l : List T} {v : T} (hS : S[n]? = some (.lst l)) (hp : ixN l.length z = some p) (hv : v.pure = true) : subA ρ v (.obj n) (.int z) S = .go (.nx ρ) (S.set n (.lst (l.set p v))) := by
  have e : dicOf S (.obj n) = none := by unfold dicOf; simp only [hS]
  unfold subA
  rw [e]
  show subL ρ v (.obj n) (.int z) S = _
  unfold subL
  simp only [hS, hp, hv]
  rfl
/-! ### own lists behind the store -/
theorem app_own {l : List T} {v : T} {fo fe : EM} {n : Nat} {S1 : Sto} (hn : n = S1.length) (ho : fo ρ (S1 ++ [.lst l]) = .ok (.obj n) (S1 ++ [.lst l])) (he : fe ρ (S1 ++ [.lst l]) = .ok v (S1 ++ [.lst l])) (hl : l.length < line) (hv : v.pure = true) :
    eApp fo fe ρ (S1 ++ [.lst l]) = .ok .non (S1 ++ [.lst (l ++ [v])]) := by
  subst hn
  have e : lstOf (S1 ++ [.lst l]) (.obj S1.length) = some (S1.length, l) := by
    unfold lstOf
    simp
  have e2 : (S1 ++ [MO.lst l]).set S1.length (.lst (l ++ [v])) = S1 ++ [.lst (l ++ [v])] := by simp
  unfold eApp
  rw [ho]
  simp only [bind_ok, e, he, hl, hv, e2, decide_true, Bool.and_self, if_true]
def cutA {α : Type} (xs : List α) (lo hi : Option Int) : List α := (xs.drop (HT.sIx xs.length 0 lo)).take (HT.sIx xs.length xs.length hi - HT.sIx xs.length 0 lo)
theorem cut_map {α : Type} {xs : List α} {f : α → T} {lo hi : Option Int} : cutT (xs.map f) lo hi = (cutA xs lo hi).map f := by
  unfold cutT cutA
  rw [List.map_take, List.map_drop, List.length_map]
theorem cutA_len {α : Type} {xs : List α} {lo hi : Option Int} : (cutA xs lo hi).length ≤ xs.length := by
  unfold cutA
  rw [List.length_take, List.length_drop]
  omega
/-! ### loops -/
@[simp] theorem forL_nil {c : Sto → Bool} {g : GM} {b : SM} : forL c g b [] ρ S = RF.if (c S) (.go (.nx ρ) S) := id rfl
theorem forL_cons {c : Sto → Bool} {g : GM} {b : SM} {t : T} {ts : List T} : forL c g b (t :: ts) ρ S = RF.if (c S) (match g t ρ with
    | some ρ1 => loopR (b ρ1 S) fun ρ2 S2 => forL c g b ts ρ2 S2
    | none => .bad) := id rfl
@[simp] theorem loopR_nx {g : SM} : loopR (.go (.nx ρ) S) g = g ρ S := id rfl
@[simp] theorem loopR_ct {g : SM} : loopR (.go (.ct ρ) S) g = g ρ S := id rfl
@[simp] theorem loopR_bk {g : SM} : loopR (.go (.bk ρ) S) g = .go (.nx ρ) S := id rfl
@[simp] theorem loopR_rt {g : SM} {t : T} : loopR (.go (.rt t) S) g = .go (.rt t) S := id rfl
@[simp] theorem loopR_exc {g : SM} {c : Str} {fs : List (Str × T)} : loopR (.exc c fs ρ S) g = .exc c fs ρ S := id rfl
/-- a loop that keeps I -/
theorem forL_inv {α : Type} {f : α → T} {g : GM} {b : SM} {c : Sto → Bool} (I : List α → Env → Sto → Prop) (hc : ∀ xs ρ S, I xs ρ S → c S = true)
    (step : ∀ x xs ρ S, I (x :: xs) ρ S → ∃ ρ1, g (f x) ρ = some ρ1 ∧ ∃ ρ2 S2, (b ρ1 S = .go (.nx ρ2) S2 ∨ b ρ1 S = .go (.ct ρ2) S2) ∧ I xs ρ2 S2) :
    ∀ {xs : List α} {ρ : Env} {S : Sto}, I xs ρ S → ∃ ρ' S', forL c g b (xs.map f) ρ S = .go (.nx ρ') S' ∧ I [] ρ' S'
  | [], ρ, S, h => ⟨ρ, S, by rw [List.map_nil, forL_nil, hc _ _ _ h]; rfl, h⟩
  | x :: xs, ρ, S, h => by
    obtain ⟨ρ1, e1, ρ2, S2, e2, h2⟩ := step x xs ρ S h
    obtain ⟨ρ', S', e3, h3⟩ := forL_inv I hc step h2
    refine ⟨ρ', S', ?_, h3⟩
    rw [List.map_cons, forL_cons, hc _ _ _ h, e1]
    rcases e2 with e2 | e2
    · simp only [e2, loopR_nx, fif_true, e3]
    · simp only [e2, loopR_ct, fif_true, e3]
@[simp] theorem sFor_e {f : IM} {g : GM} {b : SM} : sFor f g b ρ S = match f ρ S with
  | .ok it S1 => forL it.chk g b it.items ρ S1
  | .exc c fs S1 => .exc c fs ρ S1
  | .bad => .bad := id rfl
@[simp] theorem gN_e {i : Nat} {t : T} : gN i t ρ = some (ρ.set i (some t)) := id rfl
@[simp] theorem iAny_tup {f : EM} {l : List T} (h : f ρ S = .ok (.tup l) S) : iAny f ρ S = .ok ⟨l, fun _ => true⟩ S := by
  unfold iAny
  rw [h]
theorem iAny_lst {f : EM} {l : List T} {S1 : Sto} (h : f ρ S = .ok (.lst l) S1) : iAny f ρ S = .ok ⟨l, fun _ => true⟩ S1 := by
  unfold iAny
  rw [h]
  rfl
theorem iAny_scr {f : EM} {l : List T} {S1 : Sto} (h : f ρ S = .ok (.scr l) S1) : iAny f ρ S = .ok ⟨l, fun _ => true⟩ S1 := by
  unfold iAny
  rw [h]
  rfl
theorem range1_e {f : EM} {n : Int} {S1 : Sto} (h : f ρ S = .ok (.int n) S1) (hn : smallI n = true) : iRange1 f ρ S = .ok ⟨rangeT 0 n.toNat, fun _ => true⟩ S1 := by
  unfold iRange1
  rw [h]
  show R.if (smallI n) _ = _
  rw [hn]
  rfl
theorem range1_n {f : EM} {n : Nat} {S1 : Sto} (h : f ρ S = .ok (.int n) S1) (hn : n < 2 ^ 60) : iRange1 f ρ S = .ok ⟨(List.range n).map fun (i : Nat) => T.int (i : Int), fun _ => true⟩ S1 := by
  rw [range1_e h (by unfold smallI; rw [decide_eq_true (by omega), decide_eq_true (by omega)]; rfl)]
  unfold rangeT
  simp
/-! ### comprehensions -/
/-- an element's value for each, the store as it is -/
theorem compL_map {α : Type} {f h : α → T} {g : GM} {c : BM} {e : EM} {ck : Sto → Bool} (hc : ck S = true) : ∀ {xs : List α}, (∀ x ∈ xs, ∃ ρ1, g (f x) ρ = some ρ1 ∧ c ρ1 S = .ok true S ∧ e ρ1 S = .ok (h x) S) → compL ck g c e ρ (xs.map f) S = .ok (xs.map h) S
  | [], _ => by
    show R.if (ck S) _ = _
    rw [hc]
    rfl
  | x :: xs, k => by
    obtain ⟨ρ1, e1, e2, e3⟩ := k x (List.mem_cons_self ..)
    have ih := compL_map hc (xs := xs) fun y hy => k y (List.mem_cons_of_mem _ hy)
    show R.if (ck S) (match g (f x) ρ with
      | some ρ1 => _
      | none => _) = _
    rw [hc, e1]
    simp only [if_true, e2, calm_ok, bind_ok, e3, ih, List.map_cons]
/-- .. for those that pass -/
theorem compL_flt {α : Type} {f h : α → T} {p : α → Bool} {g : GM} {c : BM} {e : EM} {ck : Sto → Bool} (hc : ck S = true) : ∀ {xs : List α}, (∀ x ∈ xs, ∃ ρ1, g (f x) ρ = some ρ1 ∧ c ρ1 S = .ok (p x) S ∧ (p x = true → e ρ1 S = .ok (h x) S)) → compL ck g c e ρ (xs.map f) S = .ok ((xs.filter p).map h) S
  | [], _ => by
    show R.if (ck S) _ = _
    rw [hc]
    rfl
  | x :: xs, k => by
    obtain ⟨ρ1, e1, e2, e3⟩ := k x (List.mem_cons_self ..)
    have ih := compL_flt hc (xs := xs) fun y hy => k y (List.mem_cons_of_mem _ hy)
    show R.if (ck S) (match g (f x) ρ with
      | some ρ1 => _
      | none => _) = _
    rw [hc, e1]
    cases hp : p x with
    | true => simp only [if_true, e2, hp, calm_ok, bind_ok, e3 hp, ih, List.filter_cons_of_pos hp, List.map_cons]
    | false => simp only [if_true, e2, hp, calm_ok, bind_ok, ih, List.filter_cons]; simp
inductive All2 {α β : Type} (R1 : α → β → Prop) : List α → List β → Prop
  | nil : All2 R1 [] []
  | cons {a : α} {b : β} {l : List α} {r : List β} : R1 a b → All2 R1 l r → All2 R1 (a :: l) (b :: r)
theorem All2.length {α β : Type} {R1 : α → β → Prop} {l : List α} {r : List β} (h : All2 R1 l r) : r.length = l.length := by
  induction h with
  | nil => rfl
  | cons _ _ ih => simp [ih]
theorem All2.right {α β : Type} {R1 : α → β → Prop} {l : List α} {r : List β} (h : All2 R1 l r) : ∀ b ∈ r, ∃ a ∈ l, R1 a b := by
  induction h with
  | nil => intro b hb; cases hb
  | cons k _ ih =>
    intro b hb
    rcases List.mem_cons.mp hb with z | z
    · subst z; exact ⟨_, List.mem_cons_self .., k⟩
    · obtain ⟨a, h1, h2⟩ := ih b z
      exact ⟨a, List.mem_cons_of_mem _ h1, h2⟩
/-- all of a form -/
theorem All2.ex {α β γ : Type} {R1 : α → β → Prop} {P : γ → Prop} {f : γ → β} {l : List α} {r : List β} (h : All2 R1 l r) (k : ∀ a b, R1 a b → ∃ c, P c ∧ b = f c) : ∃ cs : List γ, r = cs.map f ∧ cs.length = l.length ∧ ∀ c ∈ cs, P c := by
  induction h with
  | nil => exact ⟨[], rfl, rfl, fun _ h => by cases h⟩
  | cons a _ ih =>
    obtain ⟨c, h1, h2⟩ := k _ _ a
    obtain ⟨cs, h3, h4, h5⟩ := ih
    refine ⟨c :: cs, by rw [h2, h3]; rfl, by simp [h4], fun x hx => ?_⟩
    rcases List.mem_cons.mp hx with z | z
    · subst z; exact h1
    · exact h5 x z
/-- an element may change the store: I (what is left, the store) is kept, R tells the elements -/
theorem compL_inv {α : Type} {f : α → T} {g : GM} {e : EM} {ck : Sto → Bool} (I : List α → Sto → Prop) (R1 : α → T → Prop) (hc : ∀ xs S, I xs S → ck S = true)
    (step : ∀ x xs S, I (x :: xs) S → ∃ ρ1, g (f x) ρ = some ρ1 ∧ ∃ t S2, e ρ1 S = .ok t S2 ∧ R1 x t ∧ I xs S2) : ∀ {xs : List α} {S : Sto}, I xs S → ∃ l S', compL ck g bYes e ρ (xs.map f) S = .ok l S' ∧ All2 R1 xs l ∧ I [] S'
  | [], S, h => ⟨[], S, by show R.if (ck S) _ = _; rw [hc _ _ h]; rfl, .nil, h⟩
  | x :: xs, S, h => by
    obtain ⟨ρ1, e1, t, S2, e2, r, h2⟩ := step x xs S h
    obtain ⟨l, S', e3, r2, h3⟩ := compL_inv I R1 hc step (xs := xs) h2
    refine ⟨t :: l, S', ?_, .cons r r2, h3⟩
    show R.if (ck S) (match g (f x) ρ with
      | some ρ1 => _
      | none => _) = _
    rw [hc _ _ h, e1]
    simp only [if_true, bYes_e, e2, calm_ok, bind_ok, e3]
@[simp] theorem nComp_e {f : IM} {g : GM} {c : BM} {e : EM} {vs : List Nat} : nComp f g c e vs ρ S = (f ρ S).bind fun it S1 => R.if (decide (it.items.length ≤ line)) (compL it.chk g c e (wipeE ρ vs) it.items S1) := id rfl
end
end Mi
end

section
set_option Elab.async false
set_option linter.all false
set_option maxRecDepth 100000
set_option maxHeartbeats 2000000
namespace Cm
open PySem PySem.Spec L2 Mi
/-- _law_draws(script): 0 script 1 draws 2 cell 3 rest 4 k 5 mixed -/
noncomputable def B2__law_draws : SM := sSeq (sIf (bVal (e2 gtT (eVar 3) (eC (.int 0)))) (sSeq (sDrop (eApp (eVar 1) (e2 modT (eB fInt (aCons (eVar 3) aNil)) (eC (.int 1009)))))
  (sSeq (sSet 3 (e2 fdivT (eVar 3) (eC (.int 1009))))
  sNil)) sNil)
  sNil
noncomputable def B3__law_draws : SM := sSeq (sSet 5 (e2 modT (eB fInt (aCons (e2 addL (e2 addL (e2 mulL (eVar 5) (eC (.int 16807))) (e2 mulL (eC (.int 69621)) (eVar 4))) (eC (.int 5))) aNil)) (eC (.int 2147483629))))
  (sSeq (sDrop (eApp (eVar 1) (e2 fdivT (eVar 5) (eC (.int 1009)))))
  sNil)
noncomputable def B1__law_draws : SM := sSeq (sSet 3 (eB fAbs (aCons (eVar 2) aNil)))
  (sSeq (sIf (bVal (e2 geT (eVar 3) (e2 powT (eC (.int 10)) (eC (.int 18))))) (sSeq (sFor (iRange1 (eC (.int 60))) (gN 4) B2__law_draws)
  sNil) (sSeq (sSet 5 (e2 modT (eB fInt (aCons (e2 addL (e2 mulL (eVar 3) (eC (.int 48271))) (eC (.int 11))) aNil)) (eC (.int 2147483647))))
  (sSeq (sFor (iRange1 (eC (.int 12))) (gN 4) B3__law_draws)
  sNil)))
  sNil)
noncomputable def D__law_draws : SM := sSeq (sSet 1 (eKeep true (nLst aNil)))
  (sSeq (sFor (iAny (eCut (eVar 0) oNone (oSome (eC (.int 63))))) (gN 2) B1__law_draws)
  (sSeq (sRet (eVar 1))
  sNil))
noncomputable def F__law_draws : FM := fnOf 6 D__law_draws
/-- _law_more(draws, place): 0 draws 1 place 2 mixed 3 k -/
noncomputable def B1__law_more : SM := sSeq (sIf (bTru (eVar 0)) (sSeq (sSet 2 (e2 addL (eVar 2) (e2 ixA (eVar 0) (e2 modT (eB fInt (aCons (e2 addL (e2 mulL (eVar 1) (e2 addL (eVar 3) (eC (.int 5)))) (eVar 3)) aNil)) (eB fLen (aCons (eVar 0) aNil))))))
  sNil) sNil)
  (sSeq (sSet 2 (e2 modT (eB fInt (aCons (e2 addL (e2 addL (e2 mulL (eVar 2) (eC (.int 16807))) (e2 mulL (eC (.int 69621)) (eVar 3))) (eC (.int 5))) aNil)) (eC (.int 2147483629))))
  sNil)
noncomputable def D__law_more : SM := sSeq (sSet 2 (e2 modT (eB fInt (aCons (e2 addL (e2 addL (e2 mulL (eVar 1) (eC (.int 48271))) (eB fLen (aCons (eVar 0) aNil))) (eC (.int 11))) aNil)) (eC (.int 2147483629))))
  (sSeq (sFor (iRange1 (eC (.int 3))) (gN 3) B1__law_more)
  (sSeq (sRet (e2 fdivT (eVar 2) (eC (.int 1009))))
  sNil))
noncomputable def F__law_more : FM := fnOf 4 D__law_more
/-- _law_take(draws, at, many): 0 draws 1 at 2 many 3 place -/
noncomputable def D__law_take : SM := sSeq (sSet 3 (e2 ixA (eVar 1) (eC (.int 0))))
  (sSeq (sSubA (eVar 1) (eC (.int 0)) (e2 addL (eVar 3) (eC (.int 1))))
  (sSeq (sRet (e2 modT (eB fInt (aCons (eIf (bVal (e2 ltA (eVar 3) (eB fLen (aCons (eVar 0) aNil)))) (e2 ixA (eVar 0) (eVar 3)) (eCall F__law_more 2 [] (aCons (eVar 0) (aCons (eVar 3) aNil)))) aNil)) (eVar 2)))
  sNil))
noncomputable def F__law_take : FM := fnOf 4 D__law_take
/-- _law_one(rows, draws, at): 0 rows 1 draws 2 at -/
noncomputable def D__law_one : SM := sSeq (sRet (e2 ixA (eVar 0) (eCall F__law_take 3 [] (aCons (eVar 1) (aCons (eVar 2) (aCons (eB fLen (aCons (eVar 0) aNil)) aNil))))))
  sNil
noncomputable def F__law_one : FM := fnOf 3 D__law_one
/-- is_integer(value): 0 value -/
noncomputable def D_is_integer : SM := sSeq (sRet (eAnd (eIs "int" (eVar 0)) (eNot (eIs "bool" (eVar 0)))))
  sNil
noncomputable def F_is_integer : FM := fnOf 1 D_is_integer
/-- in_range(value, least, most): 0 value 1 least 2 most -/
noncomputable def D_in_range : SM := sSeq (sRet (eAnd (eCall F_is_integer 1 [] (aCons (eVar 0) aNil)) (eChain leT leT (eVar 1) (eVar 0) (eVar 2))))
  sNil
noncomputable def F_in_range : FM := fnOf 3 D_in_range
/-- _law_bits(count, draws, at): 0 count 1 draws 2 at 3 bits 4 mixed 5 k -/
noncomputable def B1__law_bits : SM := sSeq (sIf (bVal (e2 eqA (e2 modT (eB fInt (aCons (eVar 5) aNil)) (eC (.int 9))) (eC (.int 0)))) (sSeq (sSet 4 (eCall F__law_take 3 [] (aCons (eVar 1) (aCons (eVar 2) (aCons (eC (.int 1009)) aNil)))))
  sNil) sNil)
  (sSeq (sDrop (eApp (eVar 3) (e2 modT (eB fInt (aCons (eVar 4) aNil)) (eC (.int 2)))))
  (sSeq (sSet 4 (e2 fdivT (eVar 4) (eC (.int 2))))
  sNil))
noncomputable def D__law_bits : SM := sSeq (sSet 3 (eKeep true (nLst aNil)))
  (sSeq (sSet 4 (eCall F__law_take 3 [] (aCons (eVar 1) (aCons (eVar 2) (aCons (eC (.int 1009)) aNil)))))
  (sSeq (sFor (iRange1 (eVar 0)) (gN 5) B1__law_bits)
  (sSeq (sRet (eB fTup (aCons (eVar 3) aNil)))
  sNil)))
noncomputable def F__law_bits : FM := fnOf 6 D__law_bits
/-- _law_cloth(most, draws, at): 0 most 1 draws 2 at -/
noncomputable def E1__law_cloth : EM := eCall F__law_bits 3 [] (aCons (eVar 1) (aCons (eVar 2) (aCons (eVar 3) aNil)))
noncomputable def E3__law_cloth : EM := e2 modT (eB fInt (aCons (e2 addL (e2 addL (eVar 13) (eVar 12)) (eVar 10)) aNil)) (eC (.int 2))
noncomputable def E2__law_cloth : EM := eB fTup (aCons (eFrz (nComp (iRange1 (eVar 1)) (gN 12) bYes E3__law_cloth [12])) aNil)
noncomputable def E5__law_cloth : EM := e2 ixA (eVar 14) (eVar 13)
noncomputable def E4__law_cloth : EM := eB fTup (aCons (eFrz (nComp (iAny (eVar 9)) (gN 14) bYes E5__law_cloth [14])) aNil)
noncomputable def E6__law_cloth : EM := eCall F__law_one 3 [] (aCons (eVar 8) (aCons (eVar 2) (aCons (eVar 3) aNil)))
noncomputable def E7__law_cloth : EM := eCall F__law_bits 3 [] (aCons (eVar 0) (aCons (eVar 2) (aCons (eVar 3) aNil)))
noncomputable def E8__law_cloth : EM := e2 ixA (eVar 7) (eCall F__law_take 3 [] (aCons (eVar 2) (aCons (eVar 3) (aCons (eC (.int 2)) aNil))))
noncomputable def E9__law_cloth : EM := eCall F__law_bits 3 [] (aCons (eVar 1) (aCons (eVar 2) (aCons (eVar 3) aNil)))
noncomputable def E11__law_cloth : EM := e2 ixA (eVar 5) (e2 modT (eB fInt (aCons (e2 addL (eVar 12) (e2 mulL (eVar 13) (eVar 6))) aNil)) (eVar 1))
noncomputable def E10__law_cloth : EM := eB fTup (aCons (eFrz (nComp (iRange1 (eVar 1)) (gN 12) bYes E11__law_cloth [12])) aNil)
noncomputable def D__law_cloth : SM := sSeq (sSet 4 (eCall F__law_take 3 [] (aCons (eVar 2) (aCons (eVar 3) (aCons (eC (.int 7)) aNil)))))
  (sSeq (sIf (bVal (e2 eqA (eVar 4) (eC (.int 0)))) (sSeq (sSet 5 (eCall F__law_bits 3 [] (aCons (eVar 1) (aCons (eVar 2) (aCons (eVar 3) aNil)))))
  (sSeq (sSet 6 (eCall F__law_take 3 [] (aCons (eVar 2) (aCons (eVar 3) (aCons (eVar 1) aNil)))))
  (sSeq (sRet (eB fTup (aCons (eFrz (nComp (iRange1 (eVar 0)) (gN 13) bYes E10__law_cloth [13])) aNil)))
  sNil))) sNil)
  (sSeq (sIf (bVal (e2 eqA (eVar 4) (eC (.int 1)))) (sSeq (sSet 7 (eKeep false (nComp (iRange1 (eC (.int 2))) (gN 11) bYes E9__law_cloth [11])))
  (sSeq (sRet (eB fTup (aCons (eFrz (nComp (iRange1 (eVar 0)) (gN 13) bYes E8__law_cloth [13])) aNil)))
  sNil)) sNil)
  (sSeq (sIf (bVal (e2 eqA (eVar 4) (eC (.int 2)))) (sSeq (sSet 8 (eKeep false (nComp (iRange1 (eC (.int 3))) (gN 11) bYes E7__law_cloth [11])))
  (sSeq (sSet 9 (eKeep false (nComp (iRange1 (eVar 1)) (gN 12) bYes E6__law_cloth [12])))
  (sSeq (sRet (eB fTup (aCons (eFrz (nComp (iRange1 (eVar 0)) (gN 13) bYes E4__law_cloth [13])) aNil)))
  sNil))) sNil)
  (sSeq (sIf (bVal (e2 eqA (eVar 4) (eC (.int 3)))) (sSeq (sSet 10 (eCall F__law_take 3 [] (aCons (eVar 2) (aCons (eVar 3) (aCons (eC (.int 2)) aNil)))))
  (sSeq (sRet (eB fTup (aCons (eFrz (nComp (iRange1 (eVar 0)) (gN 13) bYes E2__law_cloth [13])) aNil)))
  sNil)) sNil)
  (sSeq (sRet (eB fTup (aCons (eFrz (nComp (iRange1 (eVar 0)) (gN 13) bYes E1__law_cloth [13])) aNil)))
  sNil)))))
noncomputable def F__law_cloth : FM := fnOf 15 D__law_cloth
/-- check_cloth(cloth): 0 cloth 1 row 2 part -/
noncomputable def E1_check_cloth : EM := eCall F_in_range 3 [] (aCons (eVar 2) (aCons (eC (.int 0)) (aCons (eC (.int 1)) aNil)))
noncomputable def E2_check_cloth : EM := e2 eqA (eB fLen (aCons (eVar 1) aNil)) (eB fLen (aCons (e2 ixA (eVar 0) (eC (.int 0))) aNil))
noncomputable def D_check_cloth : SM := sSeq (sIf (bOr (bNot (bTru (eIs "tuple" (eVar 0)))) (bNot (bTru (eB fAll (aCons (eFrz (nComp (iAny (eVar 0)) (gN 1) bYes (eIs "tuple" (eVar 1)) [1])) aNil))))) (sSeq (sRaise "ClothError" "reason" (eC (.str "form")))
  sNil) sNil)
  (sSeq (sIf (bNot (bVal (eChain leT leT (eC (.int 1)) (eB fLen (aCons (eVar 0) aNil)) (eC (.int 24))))) (sSeq (sRaise "ClothError" "reason" (eC (.str "picks")))
  sNil) sNil)
  (sSeq (sIf (bOr (bNot (bVal (eChain leT leT (eC (.int 1)) (eB fLen (aCons (e2 ixA (eVar 0) (eC (.int 0))) aNil)) (eC (.int 24))))) (bNot (bTru (eB fAll (aCons (eFrz (nComp (iAny (eVar 0)) (gN 1) bYes E2_check_cloth [1])) aNil))))) (sSeq (sRaise "ClothError" "reason" (eC (.str "ends")))
  sNil) sNil)
  (sSeq (sIf (bNot (bTru (eB fAll (aCons (eFrz (nComp2 (iAny (eVar 0)) (gN 1) bYes (iAny (eVar 1)) (gN 2) bYes E1_check_cloth [1, 2] [2])) aNil)))) (sSeq (sRaise "ClothError" "reason" (eC (.str "crossing")))
  sNil) sNil)
  sNil)))
noncomputable def F_check_cloth : FM := fnOf 3 D_check_cloth
/-- _law_has_form(value, table): 0 value 1 table 2 k 3 entry -/
noncomputable def Q2__law_has_form : BM := bOr (bNot (bTru (eIs "int" (eVar 3)))) (bTru (eIs "bool" (eVar 3)))
noncomputable def B1__law_has_form : SM := sSeq (sIf (bOr (bNot (bTru (eIs "tuple" (e2 ixA (eVar 0) (eVar 2))))) (bVal (e2 neA (eB fLen (aCons (e2 ixA (eVar 0) (eVar 2)) aNil)) (eB fLen (aCons (e2 ixA (eVar 1) (eVar 2)) aNil))))) (sSeq (sRet (eC (.bl false)))
  sNil) sNil)
  (sSeq (sIf (bVal (e2 neA (eFrz (nComp (iAny (e2 ixA (eVar 0) (eVar 2))) (gN 3) Q2__law_has_form (eVar 3) [3])) (eFrz (nLst aNil)))) (sSeq (sRet (eC (.bl false)))
  sNil) sNil)
  sNil)
noncomputable def D__law_has_form : SM := sSeq (sIf (bOr (bNot (bTru (eIs "tuple" (eVar 0)))) (bVal (e2 neA (eB fLen (aCons (eVar 0) aNil)) (eB fLen (aCons (eVar 1) aNil))))) (sSeq (sRet (eC (.bl false)))
  sNil) sNil)
  (sSeq (sFor (iRange1 (eB fLen (aCons (eVar 1) aNil))) (gN 2) B1__law_has_form)
  (sSeq (sRet (eC (.bl true)))
  sNil))
noncomputable def F__law_has_form : FM := fnOf 4 D__law_has_form
/-- _law_reason(bent, table): 0 bent 1 table -/
noncomputable def D__law_reason : SM := sSeq (sIf (bNot (bTru (eCall F__law_has_form 2 [] (aCons (eVar 0) (aCons (eVar 1) aNil))))) (sSeq (sRet (eC (.str "form")))
  sNil) sNil)
  (sSeq (sRet (eIf (bVal (e2 eqA (eB fRepr (aCons (eVar 0) aNil)) (eB fRepr (aCons (eVar 1) aNil)))) (eC .non) (eC (.str "entry"))))
  sNil)
noncomputable def F__law_reason : FM := fnOf 2 D__law_reason
/-- _law_same_as(actual, due): 0 actual 1 due -/
noncomputable def D__law_same_as : SM := sSeq (sRet (eAnd (e2 eqA (eVar 0) (eVar 1)) (e2 eqA (eB fRepr (aCons (eVar 0) aNil)) (eB fRepr (aCons (eVar 1) aNil)))))
  sNil
noncomputable def F__law_same_as : FM := fnOf 2 D__law_same_as
/-- _law_some_cloth(most, draws, at): 0 most 1 draws 2 at 3 picks -/
noncomputable def D__law_some_cloth : SM := sSeq (sSet 3 (e2 addL (eC (.int 1)) (eCall F__law_take 3 [] (aCons (eVar 1) (aCons (eVar 2) (aCons (eVar 0) aNil))))))
  (sSeq (sRet (eCall F__law_cloth 4 [] (aCons (eVar 3) (aCons (e2 addL (eC (.int 1)) (eCall F__law_take 3 [] (aCons (eVar 1) (aCons (eVar 2) (aCons (eVar 0) aNil))))) (aCons (eVar 1) (aCons (eVar 2) aNil))))))
  sNil)
noncomputable def F__law_some_cloth : FM := fnOf 4 D__law_some_cloth
/-- _law_plan(most, draws, at): 0 most 1 draws 2 at 3 found 4 part 5 k -/
noncomputable def E1__law_plan : EM := eCall F__law_one 3 [] (aCons (eVar 1) (aCons (eVar 2) (aCons (eVar 3) aNil)))
noncomputable def E2__law_plan : EM := eCall F__law_one 3 [] (aCons (eVar 1) (aCons (eVar 2) (aCons (eVar 3) aNil)))
noncomputable def D__law_plan : SM := sSeq (sSet 4 (eB fTup (aCons (eFrz (nComp (iAny (e2 ixA (eVar 0) (eC (.int 0)))) (gN 5) bYes E2__law_plan [5])) aNil)))
  (sSeq (sRet (eTup (aCons (eVar 4) (aCons (eB fTup (aCons (eFrz (nComp (iAny (eVar 0)) (gN 6) bYes E1__law_plan [6])) aNil)) aNil))))
  sNil)
noncomputable def F__law_plan : FM := fnOf 7 D__law_plan
/-- _law_picture(cards, draws, at): 0 cards 1 draws 2 at 3 rows 4 row 5 k 6 j 7 colour 8 slant -/
noncomputable def E2__law_picture : EM := eIf (bVal (e2 eqA (e2 ixA (e2 ixA (eVar 0) (eVar 3)) (eVar 4)) (eC (.int 1)))) (e2 ixA (e2 ixA (eVar 1) (eC (.int 0))) (eVar 4)) (e2 ixA (e2 ixA (eVar 1) (eC (.int 1))) (eVar 3))
noncomputable def B1__law_picture : SM := sSeq (sDrop (eApp (eVar 2) (eB fTup (aCons (eFrz (nComp (iRange1 (eB fLen (aCons (e2 ixA (eVar 0) (eC (.int 0))) aNil))) (gN 4) bYes E2__law_picture [4])) aNil))))
  sNil
noncomputable def D__law_picture : SM := sSeq (sSet 2 (eFrz (nLst aNil)))
  (sSeq (sFor (iRange1 (eB fLen (aCons (eVar 0) aNil))) (gN 3) B1__law_picture)
  (sSeq (sRet (eB fTup (aCons (eVar 2) aNil)))
  sNil))
noncomputable def F__law_picture : FM := fnOf 5 D__law_picture
/-- _law_threads(cloth): 0 cloth 1 end 2 pick -/
noncomputable def E1__law_threads : EM := eTup (aCons (eC (.str "end")) (aCons (eVar 1) aNil))
noncomputable def E2__law_threads : EM := eTup (aCons (eC (.str "pick")) (aCons (eVar 2) aNil))
noncomputable def D__law_threads : SM := sSeq (sRet (e2 addL (eFrz (nComp (iRange1 (eB fLen (aCons (e2 ixA (eVar 0) (eC (.int 0))) aNil))) (gN 1) bYes E1__law_threads [1])) (eFrz (nComp (iRange1 (eB fLen (aCons (eVar 0) aNil))) (gN 2) bYes E2__law_threads [2]))))
  sNil
noncomputable def F__law_threads : FM := fnOf 3 D__law_threads
/-- shown(card, place, turn): 0 card 1 place 2 turn 3 colour -/
noncomputable def D_shown : SM := sSeq (sRet (eIf (bVal (e2 eqA (e2 ixA (e2 ixA (eVar 0) (eVar 1)) (eVar 2)) (eC (.int 1)))) (eTup (aCons (eC (.str "end")) (aCons (eVar 2) aNil))) (eTup (aCons (eC (.str "pick")) (aCons (eVar 1) aNil)))))
  sNil
noncomputable def F_shown : FM := fnOf 3 D_shown
/-- threads_of(cloth): 0 cloth 1 ends 2 number -/
noncomputable def E1_threads_of : EM := eTup (aCons (eC (.str "end")) (aCons (eVar 1) aNil))
noncomputable def E2_threads_of : EM := eTup (aCons (eC (.str "pick")) (aCons (eVar 2) aNil))
noncomputable def D_threads_of : SM := sSeq (sRet (e2 addL (eFrz (nComp (iRange1 (eB fLen (aCons (e2 ixA (eVar 0) (eC (.int 0))) aNil))) (gN 1) bYes E1_threads_of [1])) (eFrz (nComp (iRange1 (eB fLen (aCons (eVar 0) aNil))) (gN 2) bYes E2_threads_of [2]))))
  sNil
noncomputable def F_threads_of : FM := fnOf 3 D_threads_of
/-- _law_draft(most, draws, at): 0 most 1 draws 2 at 3 shafts 4 treadles 5 threading 6 tieup 7 few 8 treadling 9 k 10 row 11 treadle 12 shaft -/
noncomputable def Q2__law_draft : BM := bVal (e2 eqA (eCall F__law_take 3 [] (aCons (eVar 1) (aCons (eVar 2) (aCons (eC (.int 4)) aNil)))) (eC (.int 0)))
noncomputable def B1__law_draft : SM := sSeq (sSet 10 (eKeep false (nComp (iRange1 (eVar 4)) (gN 11) Q2__law_draft (eVar 11) [11])))
  (sSeq (sIf (bTru (eVar 7)) (sSeq (sSet 10 (eIf (bVal (e2 gtT (eVar 4) (eC (.int 0)))) (eFrz (nLst (aCons (eCall F__law_take 3 [] (aCons (eVar 1) (aCons (eVar 2) (aCons (eVar 4) aNil)))) aNil))) (eFrz (nLst aNil))))
  sNil) sNil)
  (sSeq (sDrop (eApp (eVar 8) (eB fTup (aCons (eVar 10) aNil))))
  sNil))
noncomputable def Q4__law_draft : BM := bVal (e2 eqA (eCall F__law_take 3 [] (aCons (eVar 1) (aCons (eVar 2) (aCons (eC (.int 2)) aNil)))) (eC (.int 0)))
noncomputable def E3__law_draft : EM := eB fTup (aCons (eFrz (nComp (iRange1 (eVar 3)) (gN 12) Q4__law_draft (eVar 12) [12])) aNil)
noncomputable def E5__law_draft : EM := eCall F__law_take 3 [] (aCons (eVar 1) (aCons (eVar 2) (aCons (eVar 3) aNil)))
noncomputable def D__law_draft : SM := sSeq (sSet 3 (e2 addL (eC (.int 1)) (eCall F__law_take 3 [] (aCons (eVar 1) (aCons (eVar 2) (aCons (e2 ixA (eFrz (nLst (aCons (eC (.int 3)) (aCons (eC (.int 6)) (aCons (eC (.int 16)) aNil))))) (eCall F__law_take 3 [] (aCons (eVar 1) (aCons (eVar 2) (aCons (eC (.int 3)) aNil))))) aNil))))))
  (sSeq (sSet 4 (eCall F__law_take 3 [] (aCons (eVar 1) (aCons (eVar 2) (aCons (e2 ixA (eFrz (nLst (aCons (eC (.int 3)) (aCons (eC (.int 5)) (aCons (eC (.int 17)) aNil))))) (eCall F__law_take 3 [] (aCons (eVar 1) (aCons (eVar 2) (aCons (eC (.int 3)) aNil))))) aNil)))))
  (sSeq (sSet 5 (eB fTup (aCons (eFrz (nComp (iRange1 (e2 addL (eC (.int 1)) (eCall F__law_take 3 [] (aCons (eVar 1) (aCons (eVar 2) (aCons (eVar 0) aNil)))))) (gN 9) bYes E5__law_draft [9])) aNil)))
  (sSeq (sSet 6 (eB fTup (aCons (eFrz (nComp (iRange1 (eVar 4)) (gN 9) bYes E3__law_draft [9])) aNil)))
  (sSeq (sSet 7 (e2 eqA (eCall F__law_take 3 [] (aCons (eVar 1) (aCons (eVar 2) (aCons (eC (.int 2)) aNil)))) (eC (.int 0))))
  (sSeq (sSet 8 (eFrz (nLst aNil)))
  (sSeq (sFor (iRange1 (e2 addL (eC (.int 1)) (eCall F__law_take 3 [] (aCons (eVar 1) (aCons (eVar 2) (aCons (eVar 0) aNil)))))) (gN 9) B1__law_draft)
  (sSeq (sRet (eTup (aCons (eVar 5) (aCons (eVar 6) (aCons (eB fTup (aCons (eVar 8) aNil)) aNil)))))
  sNil)))))))
noncomputable def F__law_draft : FM := fnOf 13 D__law_draft
/-- _law_least(draft, cloth, most): 0 draft 1 cloth 2 most 3 many 4 m 5 found -/
noncomputable def E1__law_least : EM := eCut (eVar 5) oNone (oSome (e2 ixA (eVar 3) (eC (.int 0))))
noncomputable def Q3__law_least : BM := bVal (e2 neA (eVar 5) (e2 mulL (eCut (eVar 5) oNone (oSome (eVar 4))) (e2 fdivT (eB fLen (aCons (eVar 5) aNil)) (eVar 4))))
noncomputable def Q2__law_least : BM := bAnd (bVal (e2 eqA (e2 modT (eB fInt (aCons (eB fLen (aCons (e2 ixA (eVar 0) (eC (.int 0))) aNil)) aNil)) (eVar 4)) (eC (.int 0)))) (bNot (bTru (eFrz (nComp (iAny (eVar 2)) (gN 5) Q3__law_least (eVar 5) [5]))))
noncomputable def Q4__law_least : BM := bAnd (bVal (e2 eqA (e2 modT (eB fInt (aCons (eB fLen (aCons (eVar 0) aNil)) aNil)) (eVar 4)) (eC (.int 0)))) (bVal (e2 eqA (eVar 0) (e2 mulL (eCut (eVar 0) oNone (oSome (eVar 4))) (e2 fdivT (eB fLen (aCons (eVar 0) aNil)) (eVar 4)))))
noncomputable def D__law_least : SM := sSeq (sSet 1 (eKeep false (nComp (iRange2 (eC (.int 1)) (e2 addL (eB fLen (aCons (eVar 0) aNil)) (eC (.int 1)))) (gN 4) Q4__law_least (eVar 4) [4])))
  (sSeq (sSet 2 (eCut (eVar 0) oNone (oSome (e2 ixA (eVar 1) (eC (.int 0))))))
  (sSeq (sSet 3 (eKeep false (nComp (iRange2 (eC (.int 1)) (e2 addL (eB fLen (aCons (e2 ixA (eVar 0) (eC (.int 0))) aNil)) (eC (.int 1)))) (gN 4) Q2__law_least (eVar 4) [4])))
  (sSeq (sRet (eB fTup (aCons (eFrz (nComp (iAny (eVar 2)) (gN 5) bYes E1__law_least [5])) aNil)))
  sNil)))
noncomputable def F__law_least : FM := fnOf 6 D__law_least
/-- _law_row(many, draws, at): 0 many 1 draws 2 at 3 k -/
noncomputable def E1__law_row : EM := eCall F__law_take 3 [] (aCons (eVar 1) (aCons (eVar 2) (aCons (eC (.int 2)) aNil)))
noncomputable def D__law_row : SM := sSeq (sRet (eB fTup (aCons (eFrz (nComp (iRange1 (eVar 0)) (gN 3) bYes E1__law_row [3])) aNil)))
  sNil
noncomputable def F__law_row : FM := fnOf 4 D__law_row
/-- _law_shows(cloth, thread): 0 cloth 1 thread 2 e 3 p -/
noncomputable def Q1__law_shows : BM := bVal (e2 eqA (e2 ixA (e2 ixA (eVar 0) (e2 ixA (eVar 1) (eC (.int 1)))) (eVar 2)) (eC (.int 0)))
noncomputable def E1__law_shows : EM := eTup (aCons (e2 ixA (eVar 1) (eC (.int 1))) (aCons (eVar 2) aNil))
noncomputable def Q2__law_shows : BM := bVal (e2 eqA (e2 ixA (e2 ixA (eVar 0) (eVar 3)) (e2 ixA (eVar 1) (eC (.int 1)))) (eC (.int 1)))
noncomputable def E2__law_shows : EM := eTup (aCons (eVar 3) (aCons (e2 ixA (eVar 1) (eC (.int 1))) aNil))
noncomputable def D__law_shows : SM := sSeq (sIf (bVal (e2 eqA (e2 ixA (eVar 1) (eC (.int 0))) (eC (.str "end")))) (sSeq (sRet (eFrz (nComp (iRange1 (eB fLen (aCons (eVar 0) aNil))) (gN 3) Q2__law_shows E2__law_shows [3])))
  sNil) sNil)
  (sSeq (sRet (eFrz (nComp (iRange1 (eB fLen (aCons (e2 ixA (eVar 0) (eC (.int 0))) aNil))) (gN 2) Q1__law_shows E1__law_shows [2])))
  sNil)
noncomputable def F__law_shows : FM := fnOf 4 D__law_shows
/-- is_colour(value): 0 value -/
noncomputable def D_is_colour : SM := sSeq (sRet (eAnd (eIs "str" (eVar 0)) (eChain leT leT (eC (.int 1)) (eB fLen (aCons (eVar 0) aNil)) (eC (.int 12)))))
  sNil
noncomputable def F_is_colour : FM := fnOf 1 D_is_colour
/-- are_colours(value, count): 0 value 1 count 2 part -/
noncomputable def E1_are_colours : EM := eCall F_is_colour 1 [] (aCons (eVar 2) aNil)
noncomputable def D_are_colours : SM := sSeq (sRet (eAnd (eIs "tuple" (eVar 0)) (eAnd (e2 eqA (eB fLen (aCons (eVar 0) aNil)) (eVar 1)) (eB fAll (aCons (eFrz (nComp (iAny (eVar 0)) (gN 2) bYes E1_are_colours [2])) aNil)))))
  sNil
noncomputable def F_are_colours : FM := fnOf 3 D_are_colours
/-- is_ascending(value, least, most): 0 value 1 least 2 most 3 first 4 second 5 part -/
noncomputable def E1_is_ascending : EM := e2 ltA (eVar 3) (eVar 4)
noncomputable def E2_is_ascending : EM := eCall F_in_range 3 [] (aCons (eVar 5) (aCons (eVar 1) (aCons (eVar 2) aNil)))
noncomputable def D_is_ascending : SM := sSeq (sIf (bOr (bNot (bTru (eIs "tuple" (eVar 0)))) (bNot (bTru (eB fAll (aCons (eFrz (nComp (iAny (eVar 0)) (gN 5) bYes E2_is_ascending [5])) aNil))))) (sSeq (sRet (eC (.bl false)))
  sNil) sNil)
  (sSeq (sRet (eB fAll (aCons (eFrz (nComp (iZipT (aCons (eCut (eVar 0) oNone (oSome (e1 negT (eC (.int 1))))) (aCons (eCut (eVar 0) (oSome (eC (.int 1))) oNone) aNil))) (gTupM 2 (gsCons (gN 3) (gsCons (gN 4) gsNil))) bYes E1_is_ascending [3, 4])) aNil)))
  sNil)
noncomputable def F_is_ascending : FM := fnOf 6 D_is_ascending
/-- check_draft(draft): 0 draft 1 threading 2 tieup 3 treadling 4 pressed 5 part 6 shaft 7 ties -/
noncomputable def E1_check_draft : EM := eCall F_is_ascending 3 [] (aCons (eVar 4) (aCons (eC (.int 0)) (aCons (e2 subT (eB fLen (aCons (eVar 2) aNil)) (eC (.int 1))) aNil)))
noncomputable def E2_check_draft : EM := eCall F_is_ascending 3 [] (aCons (eVar 7) (aCons (eC (.int 0)) (aCons (e2 subT (eC (.int 16)) (eC (.int 1))) aNil)))
noncomputable def E3_check_draft : EM := eCall F_in_range 3 [] (aCons (eVar 6) (aCons (eC (.int 0)) (aCons (e2 subT (eC (.int 16)) (eC (.int 1))) aNil)))
noncomputable def D_check_draft : SM := sSeq (sIf (bOr (bNot (bTru (eIs "tuple" (eVar 0)))) (bOr (bVal (e2 neA (eB fLen (aCons (eVar 0) aNil)) (eC (.int 3)))) (bNot (bTru (eB fAll (aCons (eFrz (nComp (iAny (eVar 0)) (gN 5) bYes (eIs "tuple" (eVar 5)) [5])) aNil)))))) (sSeq (sRaise "DraftError" "reason" (eC (.str "form")))
  sNil) sNil)
  (sSeq (sAsg (gTupM 3 (gsCons (gN 1) (gsCons (gN 2) (gsCons (gN 3) gsNil)))) (eVar 0))
  (sSeq (sIf (bOr (bNot (bVal (eChain leT leT (eC (.int 1)) (eB fLen (aCons (eVar 1) aNil)) (eC (.int 24))))) (bNot (bTru (eB fAll (aCons (eFrz (nComp (iAny (eVar 1)) (gN 6) bYes E3_check_draft [6])) aNil))))) (sSeq (sRaise "DraftError" "reason" (eC (.str "threading")))
  sNil) sNil)
  (sSeq (sIf (bOr (bVal (e2 gtT (eB fLen (aCons (eVar 2) aNil)) (eC (.int 16)))) (bNot (bTru (eB fAll (aCons (eFrz (nComp (iAny (eVar 2)) (gN 7) bYes E2_check_draft [7])) aNil))))) (sSeq (sRaise "DraftError" "reason" (eC (.str "tieup")))
  sNil) sNil)
  (sSeq (sIf (bNot (bVal (eChain leT leT (eC (.int 1)) (eB fLen (aCons (eVar 3) aNil)) (eC (.int 24))))) (sSeq (sRaise "DraftError" "reason" (eC (.str "treadling")))
  sNil) sNil)
  (sSeq (sIf (bNot (bTru (eB fAll (aCons (eFrz (nComp (iAny (eVar 3)) (gN 4) bYes E1_check_draft [4])) aNil)))) (sSeq (sRaise "DraftError" "reason" (eC (.str "treadling")))
  sNil) sNil)
  sNil)))))
noncomputable def F_check_draft : FM := fnOf 8 D_check_draft
/-- colour_of(plan, thread): 0 plan 1 thread -/
noncomputable def D_colour_of : SM := sSeq (sRet (e2 ixA (e2 ixA (eVar 0) (eIf (bVal (e2 eqA (e2 ixA (eVar 1) (eC (.int 0))) (eC (.str "end")))) (eC (.int 0)) (eC (.int 1)))) (e2 ixA (eVar 1) (eC (.int 1)))))
  sNil
noncomputable def F_colour_of : FM := fnOf 2 D_colour_of
/-- columns_of(rows): 0 rows 1 place 2 row -/
noncomputable def E2_columns_of : EM := e2 ixA (eVar 2) (eVar 1)
noncomputable def E1_columns_of : EM := eB fTup (aCons (eFrz (nComp (iAny (eVar 0)) (gN 2) bYes E2_columns_of [2])) aNil)
noncomputable def D_columns_of : SM := sSeq (sRet (eB fTup (aCons (eFrz (nComp (iRange1 (eB fLen (aCons (e2 ixA (eVar 0) (eC (.int 0))) aNil))) (gN 1) bYes E1_columns_of [1])) aNil)))
  sNil
noncomputable def F_columns_of : FM := fnOf 3 D_columns_of
/-- _law_moved(number, picks, ends, p, e): 0 number 1 picks 2 ends 3 p 4 e 5 made 6 r 7 c -/
noncomputable def E2__law_moved : EM := e2 ixA (eVar 7) (e2 modT (eB fInt (aCons (e2 subT (eVar 8) (eVar 2)) aNil)) (eVar 6))
noncomputable def B1__law_moved : SM := sSeq (sSet 7 (e2 ixA (eVar 0) (e2 modT (eB fInt (aCons (e2 subT (eVar 4) (eVar 1)) aNil)) (eVar 5))))
  (sSeq (sDrop (eApp (eVar 3) (eB fTup (aCons (eFrz (nComp (iRange1 (eVar 6)) (gN 8) bYes E2__law_moved [8])) aNil))))
  sNil)
noncomputable def D__law_moved : SM := sSeq (sPar 5 6 (aCons (eB fLen (aCons (eVar 0) aNil)) (aCons (eB fLen (aCons (e2 ixA (eVar 0) (eC (.int 0))) aNil)) aNil)))
  (sSeq (sSet 3 (eKeep true (nLst aNil)))
  (sSeq (sFor (iRange1 (eVar 5)) (gN 4) B1__law_moved)
  (sSeq (sRet (eB fTup (aCons (eVar 3) aNil)))
  sNil)))
noncomputable def F__law_moved : FM := fnOf 9 D__law_moved
/-- _law_planted(picks, ends, draws, at): 0 picks 1 ends 2 draws 3 at 4 above 5 under 6 cloth 7 pick 8 row 9 end 10 k -/
noncomputable def B2__law_planted : SM := sSeq (sIf (bVal (e2 neA (e2 ixA (eVar 4) (eVar 9)) (e2 ixA (eVar 5) (eVar 7)))) (sSeq (sSubA (eVar 8) (eVar 9) (e2 ixA (eVar 4) (eVar 9)))
  sNil) sNil)
  sNil
noncomputable def B1__law_planted : SM := sSeq (sSet 8 (eFrz (nList (eCall F__law_row 3 [] (aCons (eVar 1) (aCons (eVar 2) (aCons (eVar 3) aNil)))))))
  (sSeq (sFor (iRange1 (eVar 1)) (gN 9) B2__law_planted)
  (sSeq (sDrop (eApp (eVar 6) (eB fTup (aCons (eVar 8) aNil))))
  sNil))
noncomputable def E3__law_planted : EM := eCall F__law_take 3 [] (aCons (eVar 2) (aCons (eVar 3) (aCons (eC (.int 2)) aNil)))
noncomputable def E4__law_planted : EM := eCall F__law_take 3 [] (aCons (eVar 2) (aCons (eVar 3) (aCons (eC (.int 2)) aNil)))
noncomputable def D__law_planted : SM := sSeq (sSet 4 (eKeep false (nComp (iRange1 (eVar 1)) (gN 10) bYes E4__law_planted [10])))
  (sSeq (sSet 5 (eKeep false (nComp (iRange1 (eVar 0)) (gN 10) bYes E3__law_planted [10])))
  (sSeq (sSet 6 (eFrz (nLst aNil)))
  (sSeq (sFor (iRange1 (eVar 0)) (gN 7) B1__law_planted)
  (sSeq (sRet (eB fTup (aCons (eVar 6) aNil)))
  sNil))))
noncomputable def F__law_planted : FM := fnOf 11 D__law_planted
/-- _law_sized(picks, ends, draws, at): 0 picks 1 ends 2 draws 3 at 4 choice 5 row 6 step 7 rows 8 rare 9 k 10 pick 11 end -/
noncomputable def E1__law_sized : EM := eCall F__law_row 3 [] (aCons (eVar 1) (aCons (eVar 2) (aCons (eVar 3) aNil)))
noncomputable def E2__law_sized : EM := eB fTup (aCons (eVar 5) aNil)
noncomputable def E4__law_sized : EM := eIf (bVal (e2 eqA (eCall F__law_take 3 [] (aCons (eVar 2) (aCons (eVar 3) (aCons (eC (.int 7)) aNil)))) (eC (.int 0)))) (eVar 8) (e2 subT (eC (.int 1)) (eVar 8))
noncomputable def E3__law_sized : EM := eFrz (nComp (iRange1 (eVar 1)) (gN 11) bYes E4__law_sized [11])
noncomputable def E5__law_sized : EM := eCall F__law_one 3 [] (aCons (eVar 7) (aCons (eVar 2) (aCons (eVar 3) aNil)))
noncomputable def E6__law_sized : EM := eCall F__law_row 3 [] (aCons (eVar 1) (aCons (eVar 2) (aCons (eVar 3) aNil)))
noncomputable def E8__law_sized : EM := e2 ixA (eVar 5) (e2 modT (eB fInt (aCons (e2 addL (eVar 11) (e2 mulL (eVar 6) (eVar 10))) aNil)) (eVar 1))
noncomputable def E7__law_sized : EM := eB fTup (aCons (eFrz (nComp (iRange1 (eVar 1)) (gN 11) bYes E8__law_sized [11])) aNil)
noncomputable def D__law_sized : SM := sSeq (sSet 4 (eCall F__law_take 3 [] (aCons (eVar 2) (aCons (eVar 3) (aCons (eC (.int 6)) aNil)))))
  (sSeq (sIf (bVal (e2 eqA (eVar 4) (eC (.int 1)))) (sSeq (sSet 5 (eCall F__law_row 3 [] (aCons (eVar 1) (aCons (eVar 2) (aCons (eVar 3) aNil)))))
  (sSeq (sSet 6 (eCall F__law_take 3 [] (aCons (eVar 2) (aCons (eVar 3) (aCons (eVar 1) aNil)))))
  (sSeq (sRet (eB fTup (aCons (eFrz (nComp (iRange1 (eVar 0)) (gN 10) bYes E7__law_sized [10])) aNil)))
  sNil))) sNil)
  (sSeq (sIf (bVal (e2 eqA (eVar 4) (eC (.int 2)))) (sSeq (sSet 7 (eKeep false (nComp (iRange1 (e2 addL (eC (.int 1)) (eCall F__law_take 3 [] (aCons (eVar 2) (aCons (eVar 3) (aCons (eC (.int 3)) aNil)))))) (gN 9) bYes E6__law_sized [9])))
  (sSeq (sRet (eB fTup (aCons (eFrz (nComp (iRange1 (eVar 0)) (gN 10) bYes E5__law_sized [10])) aNil)))
  sNil)) sNil)
  (sSeq (sIf (bVal (e2 eqA (eVar 4) (eC (.int 3)))) (sSeq (sRet (eCall F__law_planted 4 [] (aCons (eVar 0) (aCons (eVar 1) (aCons (eVar 2) (aCons (eVar 3) aNil))))))
  sNil) sNil)
  (sSeq (sIf (bVal (e2 eqA (eVar 4) (eC (.int 4)))) (sSeq (sSet 8 (eCall F__law_take 3 [] (aCons (eVar 2) (aCons (eVar 3) (aCons (eC (.int 2)) aNil)))))
  (sSeq (sSet 7 (eKeep false (nComp (iRange1 (eVar 0)) (gN 10) bYes E3__law_sized [10])))
  (sSeq (sRet (eB fTup (aCons (eFrz (nComp (iAny (eVar 7)) (gN 5) bYes E2__law_sized [5])) aNil)))
  sNil))) sNil)
  (sSeq (sRet (eB fTup (aCons (eFrz (nComp (iRange1 (eVar 0)) (gN 10) bYes E1__law_sized [10])) aNil)))
  sNil)))))
noncomputable def F__law_sized : FM := fnOf 12 D__law_sized
/-- _law_way(cloth, way): 0 cloth 1 way 2 rows 3 row 4 e 5 part -/
noncomputable def E2__law_way : EM := e2 subT (eC (.int 1)) (eVar 5)
noncomputable def E1__law_way : EM := eB fTup (aCons (eFrz (nComp (iAny (eVar 3)) (gN 5) bYes E2__law_way [5])) aNil)
noncomputable def E4__law_way : EM := e2 subT (eC (.int 1)) (e2 ixA (eVar 3) (eVar 4))
noncomputable def E3__law_way : EM := eB fTup (aCons (eFrz (nComp (iAny (eVar 2)) (gN 3) bYes E4__law_way [3])) aNil)
noncomputable def D__law_way : SM := sSeq (sSet 2 (eVar 0))
  (sSeq (sIf (bVal (e2 eqA (e2 ixA (eVar 1) (eC (.int 0))) (eC (.int 1)))) (sSeq (sSet 2 (eB fTup (aCons (eFrz (nComp (iAny (eVar 2)) (gN 3) bYes (eRevA (eVar 3)) [3])) aNil)))
  sNil) sNil)
  (sSeq (sIf (bVal (e2 eqA (e2 ixA (eVar 1) (eC (.int 1))) (eC (.int 1)))) (sSeq (sSet 2 (eRevA (eVar 2)))
  sNil) sNil)
  (sSeq (sIf (bVal (e2 eqA (e2 ixA (eVar 1) (eC (.int 2))) (eC (.int 1)))) (sSeq (sSet 2 (eB fTup (aCons (eFrz (nComp (iRange1 (eB fLen (aCons (e2 ixA (eVar 2) (eC (.int 0))) aNil))) (gN 4) bYes E3__law_way [4])) aNil)))
  sNil) sNil)
  (sSeq (sIf (bVal (e2 eqA (e2 ixA (eVar 1) (eC (.int 3))) (eC (.int 1)))) (sSeq (sSet 2 (eB fTup (aCons (eFrz (nComp (iAny (eVar 2)) (gN 3) bYes E1__law_way [3])) aNil)))
  sNil) sNil)
  (sSeq (sRet (eVar 2))
  sNil)))))
noncomputable def F__law_way : FM := fnOf 6 D__law_way
/-- _law_turned(cloth, places): 0 cloth 1 places 2 rows 3 pick 4 end 5 row -/
noncomputable def D__law_turned : SM := sSeq (sRet (eCall F__law_moved 3 [] (aCons (eCall F__law_way 2 [] (aCons (eVar 0) (aCons (e2 ixA (eVar 1) (eC (.int 0))) aNil))) (aCons (e2 ixA (eVar 1) (eC (.int 1))) (aCons (e2 ixA (eVar 1) (eC (.int 2))) aNil)))))
  sNil
noncomputable def F__law_turned : FM := fnOf 2 D__law_turned
/-- demand_plan(plan): 0 plan 1 row -/
noncomputable def D_demand_plan : SM := sSeq (sIf (bOr (bNot (bTru (eIs "tuple" (eVar 1)))) (bVal (e2 neA (eB fLen (aCons (eVar 1) aNil)) (eC (.int 2))))) (sSeq (sRaise "ArgumentError" "reason" (eC (.str "plan")))
  sNil) sNil)
  (sSeq (sIf (bOr (bNot (bTru (eCall F_are_colours 2 [] (aCons (e2 ixA (eVar 1) (eC (.int 0))) (aCons (eB fLen (aCons (e2 ixA (eVar 0) (eC (.int 0))) aNil)) aNil))))) (bNot (bTru (eCall F_are_colours 2 [] (aCons (e2 ixA (eVar 1) (eC (.int 1))) (aCons (eB fLen (aCons (eVar 0) aNil)) aNil)))))) (sSeq (sRaise "ArgumentError" "reason" (eC (.str "plan")))
  sNil) sNil)
  sNil)
noncomputable def F_demand_plan : FM := fnOf 2 D_demand_plan
/-- divisor(first, second): 0 first 1 second -/
noncomputable def Q1_divisor : BM := bVal (e2 gtT (eVar 1) (eC (.int 0)))
noncomputable def B1_divisor : SM := sSeq (sPar 0 1 (aCons (eVar 1) (aCons (e2 modT (eVar 0) (eVar 1)) aNil)))
  sNil
noncomputable def D_divisor : SM := sSeq (sLoop Q1_divisor B1_divisor)
  (sSeq (sRet (eVar 0))
  sNil)
noncomputable def F_divisor : FM := fnOf 2 D_divisor
/-- is_picture(value, picks, ends): 0 value 1 picks 2 ends 3 row -/
noncomputable def E1_is_picture : EM := eCall F_are_colours 2 [] (aCons (eVar 3) (aCons (eVar 2) aNil))
noncomputable def D_is_picture : SM := sSeq (sRet (eAnd (eIs "tuple" (eVar 0)) (eAnd (e2 eqA (eB fLen (aCons (eVar 0) aNil)) (eVar 1)) (eB fAll (aCons (eFrz (nComp (iAny (eVar 0)) (gN 3) bYes E1_is_picture [3])) aNil)))))
  sNil
noncomputable def F_is_picture : FM := fnOf 4 D_is_picture
/-- picture_of(cloth, plan): 0 cloth 1 plan 2 rows 3 pick 4 end -/
noncomputable def E2_picture_of : EM := eCall F_colour_of 2 [] (aCons (eVar 1) (aCons (eCall F_shown 3 [] (aCons (eVar 0) (aCons (eVar 3) (aCons (eVar 4) aNil)))) aNil))
noncomputable def B1_picture_of : SM := sSeq (sDrop (eApp (eVar 2) (eB fTup (aCons (eFrz (nComp (iRange1 (eB fLen (aCons (e2 ixA (eVar 0) (eC (.int 0))) aNil))) (gN 4) bYes E2_picture_of [4])) aNil))))
  sNil
noncomputable def D_picture_of : SM := sSeq (sSet 2 (eFrz (nLst aNil)))
  (sSeq (sFor (iRange1 (eB fLen (aCons (eVar 0) aNil))) (gN 3) B1_picture_of)
  (sSeq (sRet (eB fTup (aCons (eVar 2) aNil)))
  sNil))
noncomputable def F_picture_of : FM := fnOf 5 D_picture_of
/-- size_of(number): 0 number 1 place -/
noncomputable def D_size_of : SM := sSeq (sRet (eTup (aCons (eB fLen (aCons (eVar 0) aNil)) (aCons (eB fLen (aCons (e2 ixA (eVar 0) (eC (.int 0))) aNil)) aNil))))
  sNil
noncomputable def F_size_of : FM := fnOf 1 D_size_of
/-- _law_at(cloth, pick, end): 0 cloth 1 pick 2 end -/
noncomputable def E1__law_at : EM := eTup (aCons (e2 ixA (eVar 1) (eC (.int 1))) (aCons (eVar 2) aNil))
noncomputable def E2__law_at : EM := eTup (aCons (eVar 3) (aCons (e2 ixA (eVar 1) (eC (.int 1))) aNil))
noncomputable def D__law_at : SM := sSeq (sIf (bVal (e2 eqA (e2 ixA (eVar 1) (eC (.int 0))) (eC (.str "end")))) (sSeq (sRet (eFrz (nComp (iRange1 (eB fLen (aCons (eVar 0) aNil))) (gN 3) bYes E2__law_at [3])))
  sNil) sNil)
  (sSeq (sRet (eFrz (nComp (iRange1 (eB fLen (aCons (e2 ixA (eVar 0) (eC (.int 0))) aNil))) (gN 2) bYes E1__law_at [2])))
  sNil)
noncomputable def F__law_at : FM := fnOf 4 D__law_at
/-- _law_ways(pressed): 0 pressed -/
noncomputable def E1__law_ways : EM := eTup (aCons (e2 fdivT (eVar 0) (eC (.int 8))) (aCons (e2 modT (eB fInt (aCons (e2 fdivT (eVar 0) (eC (.int 4))) aNil)) (eC (.int 2))) (aCons (e2 modT (eB fInt (aCons (e2 fdivT (eVar 0) (eC (.int 2))) aNil)) (eC (.int 2))) (aCons (e2 modT (eB fInt (aCons (eVar 0) aNil)) (eC (.int 2))) aNil))))
noncomputable def D__law_ways : SM := sSeq (sRet (eFrz (nComp (iRange1 (eC (.int 16))) (gN 0) bYes E1__law_ways [0])))
  sNil
noncomputable def F__law_ways : FM := fnOf 1 D__law_ways
/-- _law_turns(most, draws, at): 0 most 1 draws 2 at 3 k -/
noncomputable def E3__law_turns : EM := eTup (aCons (eVar 2) (aCons (eVar 3) (aCons (eVar 6) aNil)))
noncomputable def B2__law_turns : SM := sSeq (sSet 1 (e2 addL (eVar 1) (eFrz (nComp (iRange1 (eVar 5)) (gN 6) bYes E3__law_turns [6]))))
  sNil
noncomputable def B1__law_turns : SM := sSeq (sAsg (gTupM 2 (gsCons (gN 4) (gsCons (gN 5) gsNil))) (eIf (bVal (e2 eqA (e2 ixA (eVar 2) (eC (.int 2))) (eC (.int 1)))) (eTup (aCons (eB fLen (aCons (e2 ixA (eVar 0) (eC (.int 0))) aNil)) (aCons (eB fLen (aCons (eVar 0) aNil)) aNil))) (eTup (aCons (eB fLen (aCons (eVar 0) aNil)) (aCons (eB fLen (aCons (e2 ixA (eVar 0) (eC (.int 0))) aNil)) aNil)))))
  (sSeq (sFor (iRange1 (eVar 4)) (gN 3) B2__law_turns)
  sNil)
noncomputable def D__law_turns : SM := sSeq (sSet 1 (eFrz (nLst aNil)))
  (sSeq (sFor (iAny (eCall F__law_ways 0 [] aNil)) (gN 2) B1__law_turns)
  (sSeq (sRet (eVar 1))
  sNil))
noncomputable def F__law_turns : FM := fnOf 7 D__law_turns
/-- demand_picture(cards, picture): 0 cards 1 picture 2 row 3 colour -/
noncomputable def D_demand_picture : SM := sSeq (sIf (bNot (bTru (eCall F_is_picture 3 [] (aCons (eVar 1) (aCons (eB fLen (aCons (eVar 0) aNil)) (aCons (eB fLen (aCons (e2 ixA (eVar 0) (eC (.int 0))) aNil)) aNil)))))) (sSeq (sRaise "ArgumentError" "reason" (eC (.str "picture")))
  sNil) sNil)
  sNil
noncomputable def F_demand_picture : FM := fnOf 2 D_demand_picture
/-- rest_of(number, size): 0 number 1 size -/
noncomputable def D_rest_of : SM := sSeq (sRet (e2 modT (eVar 0) (eVar 1)))
  sNil
noncomputable def F_rest_of : FM := fnOf 2 D_rest_of
/-- is_period(rows, step): 0 rows 1 step 2 place -/
noncomputable def E1_is_period : EM := e2 eqA (e2 ixA (eVar 0) (eVar 2)) (e2 ixA (eVar 0) (eCall F_rest_of 2 [] (aCons (e2 addL (eVar 2) (eVar 1)) (aCons (eB fLen (aCons (eVar 0) aNil)) aNil))))
noncomputable def D_is_period : SM := sSeq (sRet (eB fAll (aCons (eFrz (nComp (iRange1 (eB fLen (aCons (eVar 0) aNil))) (gN 2) bYes E1_is_period [2])) aNil)))
  sNil
noncomputable def F_is_period : FM := fnOf 3 D_is_period
/-- is_place(value): 0 value 1 part -/
noncomputable def E1_is_place : EM := eCall F_is_integer 1 [] (aCons (eVar 2) aNil)
noncomputable def D_is_place : SM := sSeq (sIf (bOr (bNot (bTru (eIs "tuple" (eVar 0)))) (bOr (bVal (e2 neA (eB fLen (aCons (eVar 0) aNil)) (eC (.int 2)))) (bNot (bTru (eB fAll (aCons (eFrz (nComp (iAny (eVar 0)) (gN 2) bYes E1_is_place [2])) aNil)))))) (sSeq (sRet (eC (.bl false)))
  sNil) sNil)
  (sSeq (sRet (eAnd (eChain leT ltA (eC (.int 0)) (e2 ixA (eVar 0) (eC (.int 0))) (eB fLen (aCons (eVar 1) aNil))) (eChain leT ltA (eC (.int 0)) (e2 ixA (eVar 0) (eC (.int 1))) (eB fLen (aCons (e2 ixA (eVar 1) (eC (.int 0))) aNil)))))
  sNil)
noncomputable def F_is_place : FM := fnOf 3 D_is_place
/-- least_period(rows): 0 rows 1 step -/
noncomputable def Q1_least_period : BM := bAnd (bVal (e2 eqA (e2 modT (eB fLen (aCons (eVar 0) aNil)) (eVar 1)) (eC (.int 0)))) (bTru (eCall F_is_period 2 [] (aCons (eVar 0) (aCons (eVar 1) aNil))))
noncomputable def D_least_period : SM := sSeq (sRet (e2 ixA (eFrz (nComp (iRange2 (eC (.int 1)) (e2 addL (eB fLen (aCons (eVar 0) aNil)) (eC (.int 1)))) (gN 1) Q1_least_period (eVar 1) [1])) (eC (.int 0))))
  sNil
noncomputable def F_least_period : FM := fnOf 2 D_least_period
/-- moved(places, turn): 0 places 1 turn 2 place 3 part -/
noncomputable def E1_moved : EM := e2 addL (eCut (eVar 6) (oSome (eVar 4)) oNone) (eCut (eVar 6) oNone (oSome (eVar 4)))
noncomputable def D_moved : SM := sSeq (sSet 3 (eCall F_rest_of 2 [] (aCons (e1 negT (eVar 1)) (aCons (eB fLen (aCons (eVar 0) aNil)) aNil))))
  (sSeq (sSet 4 (eCall F_rest_of 2 [] (aCons (e1 negT (eVar 2)) (aCons (eB fLen (aCons (e2 ixA (eVar 0) (eC (.int 0))) aNil)) aNil))))
  (sSeq (sSet 5 (e2 addL (eCut (eVar 0) (oSome (eVar 3)) oNone) (eCut (eVar 0) oNone (oSome (eVar 3)))))
  (sSeq (sRet (eB fTup (aCons (eFrz (nComp (iAny (eVar 5)) (gN 6) bYes E1_moved [6])) aNil)))
  sNil)))
noncomputable def F_moved : FM := fnOf 7 D_moved
/-- plan_from(cloth, chosen): 0 cloth 1 chosen 2 warp 3 end 4 pick -/
noncomputable def E1_plan_from : EM := e2 ixA (eVar 1) (eTup (aCons (eC (.str "pick")) (aCons (eVar 4) aNil)))
noncomputable def E2_plan_from : EM := e2 ixA (eVar 1) (eTup (aCons (eC (.str "end")) (aCons (eVar 3) aNil)))
noncomputable def D_plan_from : SM := sSeq (sSet 2 (eB fTup (aCons (eFrz (nComp (iRange1 (eB fLen (aCons (e2 ixA (eVar 0) (eC (.int 0))) aNil))) (gN 3) bYes E2_plan_from [3])) aNil)))
  (sSeq (sRet (eTup (aCons (eVar 2) (aCons (eB fTup (aCons (eFrz (nComp (iRange1 (eB fLen (aCons (eVar 0) aNil))) (gN 4) bYes E1_plan_from [4])) aNil)) aNil))))
  sNil)
noncomputable def F_plan_from : FM := fnOf 5 D_plan_from
/-- reduced_of(cloth): 0 cloth 1 rows 2 ends 3 row -/
noncomputable def E1_reduced_of : EM := eCut (eVar 3) oNone (oSome (eVar 2))
noncomputable def D_reduced_of : SM := sSeq (sSet 1 (eCut (eVar 0) oNone (oSome (eCall F_least_period 1 [] (aCons (eVar 0) aNil)))))
  (sSeq (sSet 2 (eCall F_least_period 1 [] (aCons (eCall F_columns_of 1 [] (aCons (eVar 1) aNil)) aNil)))
  (sSeq (sRet (eB fTup (aCons (eFrz (nComp (iAny (eVar 1)) (gN 3) bYes E1_reduced_of [3])) aNil)))
  sNil))
noncomputable def F_reduced_of : FM := fnOf 4 D_reduced_of
/-- _law_below(one, other): 0 one 1 other -/
noncomputable def D__law_below : SM := sSeq (sRet (e2 ltA (e2 mulL (e2 ixA (eVar 0) (eC (.int 0))) (e2 ixA (eVar 1) (eC (.int 1)))) (e2 mulL (e2 ixA (eVar 1) (eC (.int 0))) (e2 ixA (eVar 0) (eC (.int 1))))))
  sNil
noncomputable def F__law_below : FM := fnOf 2 D__law_below
/-- _law_bent_table(table, draws, at): 0 table 1 draws 2 at 3 k 4 row 5 j 6 near 7 more -/
noncomputable def D__law_bent_table : SM := sSeq (sSet 3 (eCall F__law_take 3 [] (aCons (eVar 1) (aCons (eVar 2) (aCons (eB fLen (aCons (eVar 0) aNil)) aNil)))))
  (sSeq (sSet 4 (e2 ixA (eVar 0) (eVar 3)))
  (sSeq (sSet 5 (eCall F__law_take 3 [] (aCons (eVar 1) (aCons (eVar 2) (aCons (eB fLen (aCons (eVar 4) aNil)) aNil)))))
  (sSeq (sSet 6 (eIf (bVal (e2 isNT (e2 ixA (eVar 4) (eVar 5)) (eC .non))) (eC (.int 0)) (e2 ixA (eVar 4) (eVar 5))))
  (sSeq (sSet 7 (eCall F__law_one 3 [] (aCons (eFrz (nLst (aCons (e2 addL (eVar 6) (eC (.int 1))) (aCons (e2 subT (eVar 6) (eC (.int 1))) (aCons (eC (.int 0)) (aCons (eC .non) (aCons (eVar 6) (aCons (eC (.bl true)) (aCons (eC (.str "0")) (aCons (eC (.int 1000)) aNil)))))))))) (aCons (eVar 1) (aCons (eVar 2) aNil)))))
  (sSeq (sIf (bVal (e2 gtT (eCall F__law_take 3 [] (aCons (eVar 1) (aCons (eVar 2) (aCons (eC (.int 5)) aNil)))) (eC (.int 0)))) (sSeq (sRet (e2 addL (e2 addL (eCut (eVar 0) oNone (oSome (eVar 3))) (eTup (aCons (e2 addL (e2 addL (eCut (eVar 4) oNone (oSome (eVar 5))) (eTup (aCons (eVar 7) aNil))) (eCut (eVar 4) (oSome (e2 addL (eVar 5) (eC (.int 1)))) oNone)) aNil))) (eCut (eVar 0) (oSome (e2 addL (eVar 3) (eC (.int 1)))) oNone)))
  sNil) sNil)
  (sSeq (sRet (eCall F__law_one 3 [] (aCons (eFrz (nLst (aCons (eCut (eVar 0) (oSome (eC (.int 1))) oNone) (aCons (e2 addL (eVar 0) (eCut (eVar 0) oNone (oSome (eC (.int 1))))) (aCons (eC .non) (aCons (eTup (aCons (eVar 0) aNil)) (aCons (eRevA (eVar 0)) (aCons (e2 addL (e2 addL (eCut (eVar 0) oNone (oSome (eVar 3))) (eTup (aCons (eCut (eVar 4) (oSome (eC (.int 1))) oNone) aNil))) (eCut (eVar 0) (oSome (e2 addL (eVar 3) (eC (.int 1)))) oNone)) (aCons (e2 addL (e2 addL (eCut (eVar 0) oNone (oSome (eVar 3))) (eTup (aCons (eC .non) aNil))) (eCut (eVar 0) (oSome (e2 addL (eVar 3) (eC (.int 1)))) oNone)) aNil))))))))) (aCons (eVar 1) (aCons (eVar 2) aNil)))))
  sNil))))))
noncomputable def F__law_bent_table : FM := fnOf 8 D__law_bent_table
/-- _law_follows(rows, known, claim): 0 rows 1 known 2 claim 3 places 4 told 5 sort 6 number 7 colour 8 holds 9 p 10 e -/
noncomputable def B1__law_follows : SM := sSeq (sIf (bVal (e2 eqA (e2 ixA (e2 ixA (eVar 0) (eVar 9)) (eVar 10)) (eVar 7))) (sSeq (sDrop (eApp (eVar 4) (eIf (bVal (e2 eqA (eVar 5) (eC (.str "end")))) (eTup (aCons (eC (.str "pick")) (aCons (eVar 9) (aCons (eVar 7) (aCons (eC (.bl true)) aNil))))) (eTup (aCons (eC (.str "end")) (aCons (eVar 10) (aCons (eVar 7) (aCons (eC (.bl true)) aNil))))))))
  (sSeq (sIf (bVal (e2 eqA (e2 ixA (e2 ixA (eVar 1) (eVar 9)) (eVar 10)) (eIf (bVal (e2 eqA (eVar 5) (eC (.str "end")))) (eC (.int 1)) (eC (.int 0))))) (sSeq (sDrop (eApp (eVar 4) (eTup (aCons (eVar 5) (aCons (eVar 6) (aCons (eVar 7) (aCons (eC (.bl true)) aNil)))))))
  sNil) sNil)
  sNil)) sNil)
  sNil
noncomputable def Q2__law_follows : BM := bVal (e2 neA (e2 ixA (e2 ixA (eVar 0) (eVar 9)) (eVar 10)) (eVar 7))
noncomputable def E2__law_follows : EM := eTup (aCons (eVar 5) (aCons (eVar 6) (aCons (e2 ixA (e2 ixA (eVar 0) (eVar 9)) (eVar 10)) (aCons (eC (.bl false)) aNil))))
noncomputable def D__law_follows : SM := sSeq (sAsg (gTupM 4 (gsCons (gN 5) (gsCons (gN 6) (gsCons (gN 7) (gsCons (gN 8) gsNil))))) (eVar 2))
  (sSeq (sSet 3 (eCall F__law_at 2 [] (aCons (eVar 0) (aCons (eTup (aCons (eVar 5) (aCons (eVar 6) aNil))) aNil))))
  (sSeq (sIf (bTru (eVar 8)) (sSeq (sRet (eFrz (nComp (iAny (eVar 3)) (gTupM 2 (gsCons (gN 9) (gsCons (gN 10) gsNil))) Q2__law_follows E2__law_follows [9, 10])))
  sNil) sNil)
  (sSeq (sSet 4 (eKeep true (nLst aNil)))
  (sSeq (sFor (iAny (eVar 3)) (gTupM 2 (gsCons (gN 9) (gsCons (gN 10) gsNil))) B1__law_follows)
  (sSeq (sRet (eVar 4))
  sNil)))))
noncomputable def F__law_follows : FM := fnOf 11 D__law_follows
/-- _law_integer(value, least, most): 0 value 1 least 2 most -/
noncomputable def D__law_integer : SM := sSeq (sRet (eAnd (eIs "int" (eVar 0)) (eAnd (eNot (eIs "bool" (eVar 0))) (eChain leT leT (eVar 1) (eVar 0) (eVar 2)))))
  sNil
noncomputable def F__law_integer : FM := fnOf 3 D__law_integer
/-- _law_is_claim(rows, value): 0 rows 1 value -/
noncomputable def D__law_is_claim : SM := sSeq (sIf (bOr (bNot (bTru (eIs "tuple" (eVar 1)))) (bOr (bVal (e2 neA (eB fLen (aCons (eVar 1) aNil)) (eC (.int 4)))) (bOr (bVal (e2 (inD not) (e2 ixA (eVar 1) (eC (.int 0))) (eTup (aCons (eC (.str "end")) (aCons (eC (.str "pick")) aNil))))) (bNot (bTru (eIs "str" (e2 ixA (eVar 1) (eC (.int 2))))))))) (sSeq (sRet (eC (.bl false)))
  sNil) sNil)
  (sSeq (sIf (bOr (bNot (bTru (eIs "int" (e2 ixA (eVar 1) (eC (.int 1)))))) (bOr (bTru (eIs "bool" (e2 ixA (eVar 1) (eC (.int 1))))) (bNot (bTru (eIs "bool" (e2 ixA (eVar 1) (eC (.int 3)))))))) (sSeq (sRet (eC (.bl false)))
  sNil) sNil)
  (sSeq (sRet (eChain leT ltA (eC (.int 0)) (e2 ixA (eVar 1) (eC (.int 1))) (eIf (bVal (e2 eqA (e2 ixA (eVar 1) (eC (.int 0))) (eC (.str "end")))) (eB fLen (aCons (e2 ixA (eVar 0) (eC (.int 0))) aNil)) (eB fLen (aCons (eVar 0) aNil)))))
  sNil))
noncomputable def F__law_is_claim : FM := fnOf 2 D__law_is_claim
/-- _law_is_chain(rows, known, chain): 0 rows 1 known 2 chain 3 claim 4 k -/
noncomputable def Q1__law_is_chain : BM := bVal (e2 (inD not) (e2 ixA (eVar 2) (e2 addL (eVar 4) (eC (.int 1)))) (eCall F__law_follows 3 [] (aCons (eVar 0) (aCons (eVar 1) (aCons (e2 ixA (eVar 2) (eVar 4)) aNil)))))
noncomputable def Q2__law_is_chain : BM := bNot (bTru (eCall F__law_is_claim 2 [] (aCons (eVar 0) (aCons (eVar 3) aNil))))
noncomputable def D__law_is_chain : SM := sSeq (sIf (bOr (bNot (bTru (eIs "tuple" (eVar 2)))) (bOr (bVal (e2 ltA (eB fLen (aCons (eVar 2) aNil)) (eC (.int 2)))) (bTru (eFrz (nComp (iAny (eVar 2)) (gN 3) Q2__law_is_chain (eVar 3) [3]))))) (sSeq (sRet (eC (.bl false)))
  sNil) sNil)
  (sSeq (sRet (eNot (eFrz (nComp (iRange1 (e2 subT (eB fLen (aCons (eVar 2) aNil)) (eC (.int 1)))) (gN 4) Q1__law_is_chain (eVar 4) [4]))))
  sNil)
noncomputable def F__law_is_chain : FM := fnOf 5 D__law_is_chain
/-- _law_is_plan(rows, plan): 0 rows 1 plan 2 part 3 colour -/
noncomputable def Q1__law_is_plan : BM := bOr (bNot (bTru (eIs "str" (eVar 3)))) (bNot (bVal (eChain leT leT (eC (.int 1)) (eB fLen (aCons (eVar 3) aNil)) (eC (.int 12)))))
noncomputable def Q2__law_is_plan : BM := bNot (bTru (eIs "tuple" (eVar 2)))
noncomputable def D__law_is_plan : SM := sSeq (sIf (bOr (bNot (bTru (eIs "tuple" (eVar 1)))) (bOr (bVal (e2 neA (eB fLen (aCons (eVar 1) aNil)) (eC (.int 2)))) (bTru (eFrz (nComp (iAny (eVar 1)) (gN 2) Q2__law_is_plan (eVar 2) [2]))))) (sSeq (sRet (eC (.bl false)))
  sNil) sNil)
  (sSeq (sIf (bVal (e2 neA (eTup (aCons (eB fLen (aCons (e2 ixA (eVar 1) (eC (.int 0))) aNil)) (aCons (eB fLen (aCons (e2 ixA (eVar 1) (eC (.int 1))) aNil)) aNil))) (eTup (aCons (eB fLen (aCons (e2 ixA (eVar 0) (eC (.int 0))) aNil)) (aCons (eB fLen (aCons (eVar 0) aNil)) aNil))))) (sSeq (sRet (eC (.bl false)))
  sNil) sNil)
  (sSeq (sRet (eNot (eFrz (nComp (iAny (e2 addL (e2 ixA (eVar 1) (eC (.int 0))) (e2 ixA (eVar 1) (eC (.int 1))))) (gN 3) Q1__law_is_plan (eVar 3) [3]))))
  sNil))
noncomputable def F__law_is_plan : FM := fnOf 4 D__law_is_plan
/-- _law_least_terms(over, under): 0 over 1 under 2 first 3 second -/
noncomputable def Q1__law_least_terms : BM := bVal (e2 gtT (eVar 3) (eC (.int 0)))
noncomputable def B1__law_least_terms : SM := sSeq (sPar 2 3 (aCons (eVar 3) (aCons (e2 modT (eB fInt (aCons (eVar 2) aNil)) (eVar 3)) aNil)))
  sNil
noncomputable def D__law_least_terms : SM := sSeq (sPar 2 3 (aCons (eVar 0) (aCons (eVar 1) aNil)))
  (sSeq (sLoop Q1__law_least_terms B1__law_least_terms)
  (sSeq (sRet (eTup (aCons (e2 fdivT (eVar 0) (eVar 2)) (aCons (e2 fdivT (eVar 1) (eVar 2)) aNil))))
  sNil))
noncomputable def F__law_least_terms : FM := fnOf 4 D__law_least_terms
/-- _law_orders(count): 0 count 1 rows 2 k 3 longer 4 row 5 j -/
noncomputable def Q3__law_orders : BM := bVal (e2 (inD not) (eVar 5) (eVar 4))
noncomputable def E3__law_orders : EM := e2 addL (eVar 4) (eTup (aCons (eVar 5) aNil))
noncomputable def B2__law_orders : SM := sSeq (sSet 3 (e2 addL (eVar 3) (eFrz (nComp (iRange1 (eVar 0)) (gN 5) Q3__law_orders E3__law_orders [5]))))
  sNil
noncomputable def B1__law_orders : SM := sSeq (sSet 3 (eFrz (nLst aNil)))
  (sSeq (sFor (iAny (eFrz (nList (eVar 1)))) (gN 4) B2__law_orders)
  (sSeq (sSet 1 (eVar 3))
  sNil))
noncomputable def D__law_orders : SM := sSeq (sSet 1 (eFrz (nLst (aCons (eTup aNil) aNil))))
  (sSeq (sFor (iRange1 (eVar 0)) (gN 2) B1__law_orders)
  (sSeq (sRet (eVar 1))
  sNil))
noncomputable def F__law_orders : FM := fnOf 6 D__law_orders
/-- _law_plus(one, other): 0 one 1 other -/
noncomputable def D__law_plus : SM := sSeq (sRet (eCall F__law_least_terms 2 [] (aCons (e2 addL (e2 mulL (e2 ixA (eVar 0) (eC (.int 0))) (e2 ixA (eVar 1) (eC (.int 1)))) (e2 mulL (e2 ixA (eVar 1) (eC (.int 0))) (e2 ixA (eVar 0) (eC (.int 1))))) (aCons (e2 mulL (e2 ixA (eVar 0) (eC (.int 1))) (e2 ixA (eVar 1) (eC (.int 1)))) aNil))))
  sNil
noncomputable def F__law_plus : FM := fnOf 2 D__law_plus
/-- _law_put(row, k, value): 0 row 1 k 2 value -/
noncomputable def D__law_put : SM := sSeq (sRet (e2 addL (e2 addL (eCut (eVar 0) oNone (oSome (eVar 1))) (eTup (aCons (eVar 2) aNil))) (eCut (eVar 0) (oSome (e2 addL (eVar 1) (eC (.int 1)))) oNone)))
  sNil
noncomputable def F__law_put : FM := fnOf 3 D__law_put
/-- _law_times(one, number): 0 one 1 number -/
noncomputable def D__law_times : SM := sSeq (sRet (eCall F__law_least_terms 2 [] (aCons (e2 mulL (e2 ixA (eVar 0) (eC (.int 0))) (eVar 1)) (aCons (e2 ixA (eVar 0) (eC (.int 1))) aNil))))
  sNil
noncomputable def F__law_times : FM := fnOf 2 D__law_times
/-- lies_above(cloth, first, second): 0 cloth 1 first 2 second -/
noncomputable def D_lies_above : SM := sSeq (sIf (bVal (e2 eqA (e2 ixA (eVar 1) (eC (.int 0))) (e2 ixA (eVar 2) (eC (.int 0))))) (sSeq (sRet (eC (.bl false)))
  sNil) sNil)
  (sSeq (sIf (bVal (e2 eqA (e2 ixA (eVar 1) (eC (.int 0))) (eC (.str "end")))) (sSeq (sRet (e2 eqA (e2 ixA (e2 ixA (eVar 0) (e2 ixA (eVar 2) (eC (.int 1)))) (e2 ixA (eVar 1) (eC (.int 1)))) (eC (.int 1))))
  sNil) sNil)
  (sSeq (sRet (e2 eqA (e2 ixA (e2 ixA (eVar 0) (e2 ixA (eVar 1) (eC (.int 1)))) (e2 ixA (eVar 2) (eC (.int 1)))) (eC (.int 0))))
  sNil))
noncomputable def F_lies_above : FM := fnOf 3 D_lies_above
/-- above_of(cloth, thread): 0 cloth 1 thread 2 other -/
noncomputable def Q1_above_of : BM := bTru (eCall F_lies_above 3 [] (aCons (eVar 0) (aCons (eVar 2) (aCons (eVar 1) aNil))))
noncomputable def D_above_of : SM := sSeq (sRet (eFrz (nComp (iAny (eCall F_threads_of 1 [] (aCons (eVar 0) aNil))) (gN 2) Q1_above_of (eVar 2) [2])))
  sNil
noncomputable def F_above_of : FM := fnOf 3 D_above_of
/-- agrees(cloth, known): 0 cloth 1 known 2 pairs 3 row 4 line 5 part 6 above -/
noncomputable def E1_agrees : EM := eOr (e2 isNT (eVar 6) (eC .non)) (e2 eqA (eVar 5) (eVar 6))
noncomputable def E2_agrees : EM := eTup (aCons (eVar 5) (aCons (eVar 6) aNil))
noncomputable def D_agrees : SM := sSeq (sSet 2 (eKeep false (nComp2 (iZipT (aCons (eVar 0) (aCons (eVar 1) aNil))) (gTupM 2 (gsCons (gN 3) (gsCons (gN 4) gsNil))) bYes (iZipT (aCons (eVar 3) (aCons (eVar 4) aNil))) (gTupM 2 (gsCons (gN 5) (gsCons (gN 6) gsNil))) bYes E2_agrees [3, 4, 5, 6] [5, 6])))
  (sSeq (sRet (eB fAll (aCons (eFrz (nComp (iAny (eVar 2)) (gTupM 2 (gsCons (gN 5) (gsCons (gN 6) gsNil))) bYes E1_agrees [5, 6])) aNil)))
  sNil)
noncomputable def F_agrees : FM := fnOf 7 D_agrees
/-- all_ways(): 0 number -/
noncomputable def E1_all_ways : EM := eTup (aCons (e2 fdivT (eVar 0) (eC (.int 8))) (aCons (e2 modT (e2 fdivT (eVar 0) (eC (.int 4))) (eC (.int 2))) (aCons (e2 modT (e2 fdivT (eVar 0) (eC (.int 2))) (eC (.int 2))) (aCons (e2 modT (eVar 0) (eC (.int 2))) aNil))))
noncomputable def D_all_ways : SM := sSeq (sRet (eFrz (nComp (iRange1 (eC (.int 16))) (gN 0) bYes E1_all_ways [0])))
  sNil
noncomputable def F_all_ways : FM := fnOf 1 D_all_ways
/-- complement(cloth): 0 cloth 1 row 2 part -/
noncomputable def E2_complement : EM := e2 subT (eC (.int 1)) (eVar 2)
noncomputable def E1_complement : EM := eB fTup (aCons (eFrz (nComp (iAny (eVar 1)) (gN 2) bYes E2_complement [2])) aNil)
noncomputable def D_complement : SM := sSeq (sRet (eB fTup (aCons (eFrz (nComp (iAny (eVar 0)) (gN 1) bYes E1_complement [1])) aNil)))
  sNil
noncomputable def F_complement : FM := fnOf 3 D_complement
/-- by_way(cloth, way): 0 cloth 1 way 2 row -/
noncomputable def D_by_way : SM := sSeq (sIf (bVal (e2 eqA (e2 ixA (eVar 1) (eC (.int 0))) (eC (.int 1)))) (sSeq (sSet 0 (eB fTup (aCons (eFrz (nComp (iAny (eVar 0)) (gN 2) bYes (eRevA (eVar 2)) [2])) aNil)))
  sNil) sNil)
  (sSeq (sIf (bVal (e2 eqA (e2 ixA (eVar 1) (eC (.int 1))) (eC (.int 1)))) (sSeq (sSet 0 (eRevA (eVar 0)))
  sNil) sNil)
  (sSeq (sIf (bVal (e2 eqA (e2 ixA (eVar 1) (eC (.int 2))) (eC (.int 1)))) (sSeq (sSet 0 (eCall F_complement 1 [] (aCons (eCall F_columns_of 1 [] (aCons (eVar 0) aNil)) aNil)))
  sNil) sNil)
  (sSeq (sRet (eIf (bVal (e2 eqA (e2 ixA (eVar 1) (eC (.int 3))) (eC (.int 1)))) (eCall F_complement 1 [] (aCons (eVar 0) aNil)) (eVar 0)))
  sNil)))
noncomputable def F_by_way : FM := fnOf 3 D_by_way
/-- chain_to(before, claim): 0 before 1 claim 2 chain -/
noncomputable def Q1_chain_to : BM := bVal (e2 notNT (e2 ixA (eVar 0) (e2 ixA (eVar 2) (e1 negT (eC (.int 1))))) (eC .non))
noncomputable def B1_chain_to : SM := sSeq (sDrop (eApp (eVar 2) (e2 ixA (eVar 0) (e2 ixA (eVar 2) (e1 negT (eC (.int 1)))))))
  sNil
noncomputable def D_chain_to : SM := sSeq (sSet 2 (eFrz (nLst (aCons (eVar 1) aNil))))
  (sSeq (sLoop Q1_chain_to B1_chain_to)
  (sSeq (sRet (eB fTup (aCons (eRevA (eVar 2)) aNil)))
  sNil))
noncomputable def F_chain_to : FM := fnOf 3 D_chain_to
/-- places_of(cloth, thread): 0 cloth 1 thread 2 end 3 pick -/
noncomputable def Q1_places_of : BM := bVal (e2 eqA (e2 ixA (e2 ixA (eVar 0) (e2 ixA (eVar 1) (eC (.int 1)))) (eVar 2)) (eC (.int 0)))
noncomputable def E1_places_of : EM := eTup (aCons (e2 ixA (eVar 1) (eC (.int 1))) (aCons (eVar 2) aNil))
noncomputable def Q2_places_of : BM := bVal (e2 eqA (e2 ixA (e2 ixA (eVar 0) (eVar 3)) (e2 ixA (eVar 1) (eC (.int 1)))) (eC (.int 1)))
noncomputable def E2_places_of : EM := eTup (aCons (eVar 3) (aCons (e2 ixA (eVar 1) (eC (.int 1))) aNil))
noncomputable def D_places_of : SM := sSeq (sIf (bVal (e2 eqA (e2 ixA (eVar 1) (eC (.int 0))) (eC (.str "end")))) (sSeq (sRet (eFrz (nComp (iRange1 (eB fLen (aCons (eVar 0) aNil))) (gN 3) Q2_places_of E2_places_of [3])))
  sNil) sNil)
  (sSeq (sRet (eFrz (nComp (iRange1 (eB fLen (aCons (e2 ixA (eVar 0) (eC (.int 0))) aNil))) (gN 2) Q1_places_of E1_places_of [2])))
  sNil)
noncomputable def F_places_of : FM := fnOf 4 D_places_of
/-- colours_at(cloth, rows, thread): 0 cloth 1 rows 2 thread 3 pick 4 end -/
noncomputable def E1_colours_at : EM := e2 ixA (e2 ixA (eVar 1) (eVar 3)) (eVar 4)
noncomputable def D_colours_at : SM := sSeq (sRet (eFrz (nComp (iAny (eCall F_places_of 2 [] (aCons (eVar 0) (aCons (eVar 2) aNil)))) (gTupM 2 (gsCons (gN 3) (gsCons (gN 4) gsNil))) bYes E1_colours_at [3, 4])))
  sNil
noncomputable def F_colours_at : FM := fnOf 5 D_colours_at
/-- is_fraction(value): 0 value 1 part -/
noncomputable def E1_is_fraction : EM := eCall F_is_integer 1 [] (aCons (eVar 1) aNil)
noncomputable def D_is_fraction : SM := sSeq (sIf (bOr (bNot (bTru (eIs "tuple" (eVar 0)))) (bOr (bVal (e2 neA (eB fLen (aCons (eVar 0) aNil)) (eC (.int 2)))) (bNot (bTru (eB fAll (aCons (eFrz (nComp (iAny (eVar 0)) (gN 1) bYes E1_is_fraction [1])) aNil)))))) (sSeq (sRet (eC (.bl false)))
  sNil) sNil)
  (sSeq (sRet (eAnd (e2 geT (e2 ixA (eVar 0) (eC (.int 0))) (eC (.int 0))) (eAnd (e2 geT (e2 ixA (eVar 0) (eC (.int 1))) (eC (.int 1))) (e2 eqA (eCall F_divisor 2 [] (aCons (e2 ixA (eVar 0) (eC (.int 0))) (aCons (e2 ixA (eVar 0) (eC (.int 1))) aNil))) (eC (.int 1))))))
  sNil)
noncomputable def F_is_fraction : FM := fnOf 2 D_is_fraction
/-- demand_lengths(rows, most): 0 rows 1 most 2 one -/
noncomputable def E1_demand_lengths : EM := eCall F_is_fraction 1 [] (aCons (eVar 2) aNil)
noncomputable def D_demand_lengths : SM := sSeq (sIf (bOr (bNot (bTru (eIs "tuple" (eVar 0)))) (bOr (bVal (e2 gtT (eB fLen (aCons (eVar 0) aNil)) (eVar 1))) (bNot (bTru (eB fAll (aCons (eFrz (nComp (iAny (eVar 0)) (gN 2) bYes E1_demand_lengths [2])) aNil)))))) (sSeq (sRaise "ArgumentError" "reason" (eC (.str "lengths")))
  sNil) sNil)
  sNil
noncomputable def F_demand_lengths : FM := fnOf 3 D_demand_lengths
/-- demand_rows(rows, known): 0 rows 1 known 2 row 3 part -/
noncomputable def E2_demand_rows : EM := eOr (e2 isNT (eVar 3) (eC .non)) (eAnd (eCall F_is_integer 1 [] (aCons (eVar 3) aNil)) (eChain leT leT (eC (.int 0)) (eVar 3) (eC (.int 1))))
noncomputable def B1_demand_rows : SM := sSeq (sIf (bOr (bNot (bTru (eIs "tuple" (eVar 2)))) (bVal (e2 neA (eB fLen (aCons (eVar 2) aNil)) (eB fLen (aCons (e2 ixA (eVar 0) (eC (.int 0))) aNil))))) (sSeq (sRaise "ArgumentError" "reason" (eC (.str "known")))
  sNil) sNil)
  (sSeq (sIf (bNot (bTru (eB fAll (aCons (eFrz (nComp (iAny (eVar 2)) (gN 3) bYes E2_demand_rows [3])) aNil)))) (sSeq (sRaise "ArgumentError" "reason" (eC (.str "known")))
  sNil) sNil)
  sNil)
noncomputable def D_demand_rows : SM := sSeq (sIf (bOr (bNot (bTru (eIs "tuple" (eVar 0)))) (bOr (bNot (bVal (eChain leT leT (eC (.int 1)) (eB fLen (aCons (eVar 0) aNil)) (eC (.int 24))))) (bNot (bTru (eIs "tuple" (e2 ixA (eVar 0) (eC (.int 0)))))))) (sSeq (sRaise "ArgumentError" "reason" (eC (.str "picture")))
  sNil) sNil)
  (sSeq (sIf (bOr (bNot (bVal (eChain leT leT (eC (.int 1)) (eB fLen (aCons (e2 ixA (eVar 0) (eC (.int 0))) aNil)) (eC (.int 24))))) (bNot (bTru (eCall F_is_picture 3 [] (aCons (eVar 0) (aCons (eB fLen (aCons (eVar 0) aNil)) (aCons (eB fLen (aCons (e2 ixA (eVar 0) (eC (.int 0))) aNil)) aNil))))))) (sSeq (sRaise "ArgumentError" "reason" (eC (.str "picture")))
  sNil) sNil)
  (sSeq (sIf (bOr (bNot (bTru (eIs "tuple" (eVar 1)))) (bVal (e2 neA (eB fLen (aCons (eVar 1) aNil)) (eB fLen (aCons (eVar 0) aNil))))) (sSeq (sRaise "ArgumentError" "reason" (eC (.str "known")))
  sNil) sNil)
  (sSeq (sFor (iAny (eVar 1)) (gN 2) B1_demand_rows)
  sNil)))
noncomputable def F_demand_rows : FM := fnOf 4 D_demand_rows
/-- denied(claim): 0 claim -/
noncomputable def D_denied : SM := sSeq (sRet (e2 addL (eCut (eVar 0) oNone (oSome (eC (.int 3)))) (eTup (aCons (eNot (e2 ixA (eVar 0) (eC (.int 3)))) aNil))))
  sNil
noncomputable def F_denied : FM := fnOf 1 D_denied
/-- fraction(over, under): 0 over 1 under 2 common -/
noncomputable def D_fraction : SM := sSeq (sSet 2 (eCall F_divisor 2 [] (aCons (eVar 0) (aCons (eVar 1) aNil))))
  (sSeq (sRet (eTup (aCons (e2 fdivT (eVar 0) (eVar 2)) (aCons (e2 fdivT (eVar 1) (eVar 2)) aNil))))
  sNil)
noncomputable def F_fraction : FM := fnOf 3 D_fraction
/-- in_order(cloth, threads): 0 cloth 1 threads 2 thread -/
noncomputable def Q1_in_order : BM := bVal (e2 (inD id) (eVar 2) (eVar 1))
noncomputable def D_in_order : SM := sSeq (sRet (eB fTup (aCons (eFrz (nComp (iAny (eCall F_threads_of 1 [] (aCons (eVar 0) aNil))) (gN 2) Q1_in_order (eVar 2) [2])) aNil)))
  sNil
noncomputable def F_in_order : FM := fnOf 3 D_in_order
/-- is_claim(value): 0 value -/
noncomputable def D_is_claim : SM := sSeq (sIf (bOr (bNot (bTru (eIs "tuple" (eVar 0)))) (bOr (bVal (e2 neA (eB fLen (aCons (eVar 0) aNil)) (eC (.int 4)))) (bOr (bVal (e2 (inD not) (e2 ixA (eVar 0) (eC (.int 0))) (eTup (aCons (eC (.str "end")) (aCons (eC (.str "pick")) aNil))))) (bNot (bTru (eCall F_is_integer 1 [] (aCons (e2 ixA (eVar 0) (eC (.int 1))) aNil))))))) (sSeq (sRet (eC (.bl false)))
  sNil) sNil)
  (sSeq (sRet (eAnd (eIs "str" (e2 ixA (eVar 0) (eC (.int 2)))) (eIs "bool" (e2 ixA (eVar 0) (eC (.int 3))))))
  sNil)
noncomputable def F_is_claim : FM := fnOf 1 D_is_claim
/-- is_plan(cloth, plan): 0 cloth 1 plan -/
noncomputable def D_is_plan : SM := sSeq (sIf (bOr (bNot (bTru (eIs "tuple" (eVar 1)))) (bVal (e2 neA (eB fLen (aCons (eVar 1) aNil)) (eC (.int 2))))) (sSeq (sRet (eC (.bl false)))
  sNil) sNil)
  (sSeq (sRet (eAnd (eCall F_is_picture 3 [] (aCons (eTup (aCons (e2 ixA (eVar 1) (eC (.int 0))) aNil)) (aCons (eC (.int 1)) (aCons (eB fLen (aCons (e2 ixA (eVar 0) (eC (.int 0))) aNil)) aNil)))) (eCall F_is_picture 3 [] (aCons (eTup (aCons (e2 ixA (eVar 1) (eC (.int 1))) aNil)) (aCons (eC (.int 1)) (aCons (eB fLen (aCons (eVar 0) aNil)) aNil))))))
  sNil)
noncomputable def F_is_plan : FM := fnOf 2 D_is_plan
/-- plus(first, second): 0 first 1 second -/
noncomputable def D_plus : SM := sSeq (sRet (eCall F_fraction 2 [] (aCons (e2 addL (e2 mulL (e2 ixA (eVar 0) (eC (.int 0))) (e2 ixA (eVar 1) (eC (.int 1)))) (e2 mulL (e2 ixA (eVar 1) (eC (.int 0))) (e2 ixA (eVar 0) (eC (.int 1))))) (aCons (e2 mulL (e2 ixA (eVar 0) (eC (.int 1))) (e2 ixA (eVar 1) (eC (.int 1)))) aNil))))
  sNil
noncomputable def F_plus : FM := fnOf 2 D_plus
/-- turns_of(cloth): 0 cloth 1 found 2 way 3 rows 4 picks 5 ends -/
noncomputable def B3_turns_of : SM := sSeq (sDrop (eApp (eVar 1) (eTup (aCons (eTup (aCons (eVar 2) (aCons (eVar 4) (aCons (eVar 5) aNil)))) (aCons (eCall F_moved 3 [] (aCons (eVar 3) (aCons (eVar 4) (aCons (eVar 5) aNil)))) aNil)))))
  sNil
noncomputable def B2_turns_of : SM := sSeq (sFor (iRange1 (eB fLen (aCons (e2 ixA (eVar 3) (eC (.int 0))) aNil))) (gN 5) B3_turns_of)
  sNil
noncomputable def B1_turns_of : SM := sSeq (sSet 3 (eCall F_by_way 2 [] (aCons (eVar 0) (aCons (eVar 2) aNil))))
  (sSeq (sFor (iRange1 (eB fLen (aCons (eVar 3) aNil))) (gN 4) B2_turns_of)
  sNil)
noncomputable def D_turns_of : SM := sSeq (sSet 1 (eFrz (nLst aNil)))
  (sSeq (sFor (iAny (eCall F_all_ways 0 [] aNil)) (gN 2) B1_turns_of)
  (sSeq (sRet (eVar 1))
  sNil))
noncomputable def F_turns_of : FM := fnOf 6 D_turns_of
end Cm
end

section
set_option Elab.async false
set_option linter.all false
set_option maxRecDepth 100000
set_option maxHeartbeats 2000000
/-! Cmb: what the shared defs reckon: whole numbers, draws -/
namespace Cm
open PySem PySem.Spec L2 Mi
/-- a whole number, no bool -/
def isI : T → Bool
  | .int _ => true
  | _ => false
def inR (a b : Int) : T → Bool
  | .int i => decide (a ≤ i) && decide (i ≤ b)
  | _ => false
theorem is_integer_e {t : T} {S : Sto} (h : flat t = true) : F_is_integer [t] S = .ok (.bl (isI t)) S := by
  cases t with
  | scr _ => cases h
  | obj _ => cases h
  | _ => simp [F_is_integer, fnOf_e, D_is_integer, kinT, isI]
theorem in_range_e {t : T} {S : Sto} {a b : Int} (h : flat t = true) : F_in_range [t, .int a, .int b] S = .ok (.bl (inR a b t)) S := by
  cases t with
  | scr _ => cases h
  | obj _ => cases h
  | int i =>
    simp [F_in_range, fnOf_e, D_in_range, is_integer_e, isI, inR]
    cases h : decide (a ≤ i) <;> simp
  | _ => simp [F_in_range, fnOf_e, D_in_range, is_integer_e, isI, inR]
/-- the draws: whole numbers, not too great -/
def Dr (ds : List Int) : Prop := ds.length ≤ 100000 ∧ ∀ d ∈ ds, 0 ≤ d ∧ d < 2147483648
abbrev tL (ds : List Int) : T := .lst (ds.map T.int)
theorem more_b {ds : List Int} {p k m : Int} (hd : Dr ds) (h0 : 0 ≤ p) (h1 : p < 2 ^ 40) (hk0 : 0 ≤ k) (hk1 : k ≤ 2) (hm0 : 0 ≤ m) (hm1 : m < 2147483629) :
    ∃ m' : Int, 0 ≤ m' ∧ m' < 2147483629 ∧ ∀ S, B1__law_more [some (tL ds), some (.int p), some (.int m), some (.int k)] S = .go (.nx [some (tL ds), some (.int p), some (.int m'), some (.int k)]) S := by
  have fin : ∀ q : Int, 0 ≤ q → q < 2 ^ 40 → ∃ m' : Int, 0 ≤ m' ∧ m' < 2147483629 ∧ ∀ S, modT S (.int (q * 16807 + 69621 * k + 5)) (.int 2147483629) = .ok (.int m') S ∧ mulL S (.int q) (.int 16807) = .ok (.int (q * 16807)) S ∧ mulL S (.int 69621) (.int k) = .ok (.int (69621 * k)) S := fun q q0 q1 =>
    ⟨_, Int.emod_nonneg _ (by omega), Int.emod_lt_of_pos _ (by omega), fun S => ⟨mod_ii (by omega), mul_sm (by omega) (by omega), mul_sm (by omega) (by omega)⟩⟩
  by_cases he : ds = []
  · subst he
    obtain ⟨m', a, b, c⟩ := fin m hm0 (by omega)
    refine ⟨m', a, b, fun S => ?_⟩
    obtain ⟨c1, c2, c3⟩ := c S
    simp [B1__law_more, c1, c2, c3]
  · have hlen : (0 : Int) < (ds.length : Int) := by
      cases ds with
      | nil => exact absurd rfl he
      | cons d r => simp
    have i0 := Int.emod_nonneg (p * (k + 5) + k) (Int.ne_of_gt hlen)
    have i1 := Int.emod_lt_of_pos (p * (k + 5) + k) hlen
    have hx := fun S => ix_lm (S := S) (xs := ds) (f := T.int) (d := 0) i0 i1
    have hb := hd.2 _ (getD_mem (xs := ds) (d := 0) (n := ((p * (k + 5) + k) % (ds.length : Int)).toNat) (by omega))
    generalize ds.getD ((p * (k + 5) + k) % (ds.length : Int)).toNat 0 = y at hx hb
    obtain ⟨m', a, b, c⟩ := fin (m + y) (by omega) (by omega)
    refine ⟨m', a, b, fun S => ?_⟩
    obtain ⟨c1, c2, c3⟩ := c S
    have e1 := mul_sm (S := S) (a := p) (b := k + 5) (by omega) (by omega)
    have e2 := mod_ii (S := S) (a := p * (k + 5) + k) hlen
    have e3 : ds.isEmpty = false := by simpa using he
    simp [B1__law_more, tru_map, e3, e1, e2, hx, c1, c2, c3]
theorem more_e {ds : List Int} {p : Int} (hd : Dr ds) (h0 : 0 ≤ p) (h1 : p < 2 ^ 40) : ∃ r : Int, ∀ S, F__law_more [tL ds, .int p] S = .ok (.int r) S := by
  obtain ⟨m1, a1, b1, d1⟩ := more_b (m := (p * 48271 + ds.length + 11) % 2147483629) (k := 0) hd h0 h1 (by omega) (by omega) (Int.emod_nonneg _ (by omega)) (Int.emod_lt_of_pos _ (by omega))
  obtain ⟨m2, a2, b2, d2⟩ := more_b (m := m1) (k := 1) hd h0 h1 (by omega) (by omega) a1 b1
  obtain ⟨m3, a3, b3, d3⟩ := more_b (m := m2) (k := 2) hd h0 h1 (by omega) (by omega) a2 b2
  refine ⟨m3 / 1009, fun S => ?_⟩
  have c0 := mul_sm (S := S) (a := p) (b := 48271) (by omega) (by omega)
  have c1 := mod_ii (S := S) (a := p * 48271 + ds.length + 11) (b := 2147483629) (by omega)
  have c2 := fdiv_ii (S := S) (a := m3) (b := 1009) (by omega) (by omega)
  have hr : (iRange1 (eC (.int 3)) : IM) = fun ρ S => .ok ⟨[.int 0, .int 1, .int 2], fun _ => true⟩ S := rfl
  simp [F__law_more, fnOf_e, D__law_more, c0, c1, hr, forL_cons, d1, d2, d3, c2]
/-- the place: the counter's list -/
def At (S : Sto) (n : Nat) (p : Int) : Prop := S[n]? = some (.lst [.int p]) ∧ 0 ≤ p ∧ p < 2 ^ 40
theorem outR_keep {S S1 : Sto} {t : T} (h : t.pure = true) (hl : S1.length = S.length) : outR S.length (.go (.rt t) S1) = .ok t S1 := by
  have := outR_rt2 (S := S) (S1 := S1) (S2 := []) h hl
  rwa [List.append_nil] at this
theorem take_e {ds : List Int} {p m : Int} {n : Nat} {S : Sto} (hd : Dr ds) (hA : At S n p) (hm : 0 < m) :
    ∃ r : Int, 0 ≤ r ∧ r < m ∧ F__law_take [tL ds, .obj n, .int m] S = .ok (.int r) (S.set n (.lst [.int (p + 1)])) := by
  obtain ⟨hS, h0, h1⟩ := hA
  have e1 : ixA S (.obj n) (.int 0) = .ok (.int p) S := ix_obj hS rfl
  have e2 : ∀ ρ : Mi.Env, subA ρ (.int (p + 1)) (.obj n) (.int 0) S = .go (.nx ρ) (S.set n (.lst [.int (p + 1)])) := fun ρ => subA_l (p := 0) hS rfl rfl
  have key : ∃ q : Int, ∀ S, eIf (bVal (Mi.e2 ltA (eVar 3) (eB fLen (aCons (eVar 0) aNil)))) (Mi.e2 ixA (eVar 0) (eVar 3)) (eCall F__law_more 2 [] (aCons (eVar 0) (aCons (eVar 3) aNil))) [some (tL ds), some (.obj n), some (.int m), some (.int p)] S = .ok (.int q) S := by
    by_cases hp : p < (ds.length : Int)
    · refine ⟨ds.getD p.toNat 0, fun S => ?_⟩
      have e4 := ix_lm (S := S) (xs := ds) (f := T.int) (d := 0) h0 hp
      simp [hp, e4]
    · obtain ⟨q, hq⟩ := more_e hd h0 h1
      exact ⟨q, fun S => by simp [hp, hq]⟩
  obtain ⟨q, hq⟩ := key
  refine ⟨q % m, Int.emod_nonneg _ (by omega), Int.emod_lt_of_pos _ hm, ?_⟩
  have e3 := mod_ii (S := S.set n (.lst [.int (p + 1)])) (a := q) hm
  have hq' := hq (S.set n (.lst [.int (p + 1)]))
  unfold F__law_take
  rw [fnOf_e]
  unfold D__law_take
  rw [← outR_keep (S := S) (S1 := S.set n (.lst [.int (p + 1)])) (t := .int (q % m)) rfl (by simp)]
  congr 1
  simp [e1, e2, -eIf_e, hq', e3]
theorem at_set {S : Sto} {n : Nat} {p q : Int} (h : At S n p) (h0 : 0 ≤ q) (h1 : q < 2 ^ 40) : At (S.set n (.lst [.int q])) n q := by
  obtain ⟨hS, _⟩ := h
  have : n < S.length := (List.getElem?_eq_some_iff.mp hS).1
  exact ⟨by simp [this], h0, h1⟩
theorem one_e {ds : List Int} {p : Int} {n : Nat} {S : Sto} {l : List T} {rows : T} (hr : rows = .lst l ∨ rows = .tup l) (hl : l ≠ []) (hp : T.pures l = true) (hd : Dr ds) (hA : At S n p) :
    ∃ (i : Nat) (t : T), l[i]? = some t ∧ F__law_one [rows, tL ds, .obj n] S = .ok t (S.set n (.lst [.int (p + 1)])) := by
  have hlen : (0 : Int) < (l.length : Int) := by
    cases l with
    | nil => exact absurd rfl hl
    | cons _ _ => simp
  obtain ⟨r, r0, r1, e⟩ := take_e (m := l.length) hd hA hlen
  have hi : r.toNat < l.length := by omega
  have hat : atI l r = some l[r.toNat] := by rw [at_in r0 r1]; simp [hi]
  refine ⟨r.toNat, l[r.toNat], by simp [hi], ?_⟩
  have hpure : (l[r.toNat]).pure = true := by
    have : ∀ {l : List T} {t : T}, T.pures l = true → t ∈ l → t.pure = true := by
      intro l t h ht
      induction l with
      | nil => cases ht
      | cons a b ih =>
        simp only [pures_cons, Bool.and_eq_true] at h
        rcases List.mem_cons.mp ht with z | z
        · rw [z]; exact h.1
        · exact ih h.2 z
    exact this hp (List.getElem_mem _)
  unfold F__law_one
  rw [fnOf_e]
  rw [← outR_keep (S := S) (S1 := S.set n (.lst [.int (p + 1)])) (t := l[r.toNat]) hpure (by simp)]
  congr 1
  rcases hr with z | z
  · subst z
    simp [D__law_one, e, ix_lst hat]
  · subst z
    simp [D__law_one, e, ix_tup hat]
/-! ### the draws -/
@[simp] theorem fd_1009 {S : Sto} {a : Int} : fdivT S (.int a) (.int 1009) = .ok (.int (a / 1009)) S := fdiv_ii (by omega) (by omega)
@[simp] theorem fd_2 {S : Sto} {a : Int} : fdivT S (.int a) (.int 2) = .ok (.int (a / 2)) S := fdiv_ii (by omega) (by omega)
def Ds (n : Nat) (ds : List Int) : Prop := ds.length ≤ n ∧ ∀ d ∈ ds, 0 ≤ d ∧ d < 2147483648
theorem Ds.add {n : Nat} {ds : List Int} {d : Int} (h : Ds n ds) (h0 : 0 ≤ d) (h1 : d < 2147483648) : Ds (n + 1) (ds ++ [d]) := by
  refine ⟨by simpa using h.1, fun x hx => ?_⟩
  rcases List.mem_append.mp hx with z | z
  · exact h.2 x z
  · rw [List.mem_singleton.mp z]; exact ⟨h0, h1⟩
theorem Ds.le {n m : Nat} {ds : List Int} (h : Ds n ds) (k : n ≤ m) : Ds m ds := ⟨Nat.le_trans h.1 k, h.2⟩
theorem app_d {S : Sto} {ρ : Mi.Env} {ds : List Int} {v : Int} {fe : EM} (h1 : eVar 1 ρ (S ++ [.lst (ds.map T.int)]) = .ok (.obj S.length) (S ++ [.lst (ds.map T.int)])) (h2 : fe ρ (S ++ [.lst (ds.map T.int)]) = .ok (.int v) (S ++ [.lst (ds.map T.int)])) (hl : ds.length < 100000) :
    eApp (eVar 1) fe ρ (S ++ [.lst (ds.map T.int)]) = .ok .non (S ++ [.lst ((ds ++ [v]).map T.int)]) := by
  rw [app_own rfl h1 h2 (by rw [List.length_map]; show ds.length < 16777216; omega) rfl, List.map_append]
  rfl
theorem draws_b2 {S : Sto} {ds : List Int} {r : Int} {m : Nat} {x c k q : Option T} (h : Ds m ds) (hm : m < 100000) : ∃ (r' : Int) (ds' : List Int), Ds (m + 1) ds' ∧
    B2__law_draws [x, some (.obj S.length), c, some (.int r), k, q] (S ++ [.lst (ds.map T.int)]) = .go (.nx [x, some (.obj S.length), c, some (.int r'), k, q]) (S ++ [.lst (ds'.map T.int)]) := by
  by_cases hr : 0 < r
  · have b0 := Int.emod_nonneg r (b := 1009) (by omega)
    have b1 := Int.emod_lt_of_pos r (b := 1009) (by omega)
    refine ⟨r / 1009, ds ++ [r % 1009], h.add b0 (by omega), ?_⟩
    have e1 := app_d (S := S) (ρ := [x, some (.obj S.length), c, some (.int r), k, q]) (ds := ds) (v := r % 1009) (fe := Mi.e2 modT (eB fInt (aCons (eVar 3) aNil)) (eC (.int 1009))) rfl (by simp [mod_ii]) (by have := h.1; omega)
    simp [B2__law_draws, hr, e1]
  · exact ⟨r, ds, h.le (by omega), by simp [B2__law_draws, hr]⟩
theorem draws_b3 {S : Sto} {ds : List Int} {r kk : Int} {m : Nat} {x c k : Option T} (h : Ds m ds) (hm : m < 100000) (hk0 : 0 ≤ kk) (hk1 : kk < 12) (h0 : 0 ≤ r) (h1 : r < 2147483648) : ∃ (r' : Int) (ds' : List Int), 0 ≤ r' ∧ r' < 2147483648 ∧ Ds (m + 1) ds' ∧
    B3__law_draws [x, some (.obj S.length), c, k, some (.int kk), some (.int r)] (S ++ [.lst (ds.map T.int)]) = .go (.nx [x, some (.obj S.length), c, k, some (.int kk), some (.int r')]) (S ++ [.lst (ds'.map T.int)]) := by
  have b0 := Int.emod_nonneg (r * 16807 + 69621 * kk + 5) (b := 2147483629) (by omega)
  have b1 := Int.emod_lt_of_pos (r * 16807 + 69621 * kk + 5) (b := 2147483629) (by omega)
  refine ⟨(r * 16807 + 69621 * kk + 5) % 2147483629, ds ++ [(r * 16807 + 69621 * kk + 5) % 2147483629 / 1009], b0, by omega, h.add (by omega) (by omega), ?_⟩
  have e1 := app_d (S := S) (ρ := [x, some (.obj S.length), c, k, some (.int kk), some (.int ((r * 16807 + 69621 * kk + 5) % 2147483629))]) (ds := ds) (v := (r * 16807 + 69621 * kk + 5) % 2147483629 / 1009) (fe := Mi.e2 fdivT (eVar 5) (eC (.int 1009))) rfl (by simp) (by have := h.1; omega)
  have c1 := fun S => mul_sm (S := S) (a := r) (b := 16807) (by omega) (by omega)
  have c2 := fun S => mul_sm (S := S) (a := 69621) (b := kk) (by omega) (by omega)
  simp [B3__law_draws, c1, c2, mod_ii, e1]
theorem pow18 {S : Sto} : powT S (.int 10) (.int 18) = .ok (.int 1000000000000000000) S := by rfl
theorem draws_b1 {S : Sto} {ds : List Int} {cell : Int} {m : Nat} {x r k q : Option T} (h : Ds m ds) (hm : m + 60 ≤ 100000) : ∃ (r' k' q' : Option T) (ds' : List Int), Ds (m + 60) ds' ∧
    B1__law_draws [x, some (.obj S.length), some (.int cell), r, k, q] (S ++ [.lst (ds.map T.int)]) = .go (.nx [x, some (.obj S.length), some (.int cell), r', k', q']) (S ++ [.lst (ds'.map T.int)]) := by
  generalize ha : (if cell < 0 then -cell else cell) = a
  have ha0 : 0 ≤ a := by rw [← ha]; split <;> omega
  by_cases hb : (1000000000000000000 : Int) ≤ a
  · obtain ⟨ρ', S', e, r1, k1, q1, d1, h1, h2, h3⟩ := forL_inv (g := gN 4) (b := B2__law_draws) (c := fun _ => true) (f := fun i : Nat => T.int i) (xs := List.range 60)
      (fun xs ρ S' => ∃ (r1 : Int) (k1 q1 : Option T) (d1 : List Int), ρ = [x, some (.obj S.length), some (.int cell), some (.int r1), k1, q1] ∧ S' = S ++ [.lst (d1.map T.int)] ∧ (xs.length ≤ 60 ∧ Ds (m + (60 - xs.length)) d1)) (fun _ _ _ _ => rfl)
      (fun i xs ρ S' ⟨r1, k1, q1, d1, h1, h2, h3, h4⟩ => by
        subst h1 h2
        simp only [List.length_cons] at h3 h4
        refine ⟨_, rfl, ?_⟩
        obtain ⟨r2, d2, h5, h6⟩ := draws_b2 (S := S) (r := r1) (x := x) (c := some (.int cell)) (k := some (.int (i : Int))) (q := q1) h4 (by omega)
        exact ⟨_, _, .inl h6, r2, _, q1, d2, rfl, rfl, by omega, h5.le (by omega)⟩)
      (ρ := [x, some (.obj S.length), some (.int cell), some (.int a), k, q]) (S := S ++ [.lst (ds.map T.int)]) ⟨a, k, q, ds, rfl, rfl, by simp, by simpa using h⟩
    subst h1 h2
    refine ⟨some (.int r1), k1, q1, d1, h3.2.le (by simp), ?_⟩
    have e2 := range1_n (f := eC (.int 60)) (ρ := [x, some (.obj S.length), some (.int cell), some (.int a), k, q]) (S := S ++ [.lst (ds.map T.int)]) (n := 60) rfl (by omega)
    simp [B1__law_draws, ha, pow18, hb, e2, e]
  · have hb2 : a < 1000000000000000000 := by omega
    have c1 := fun S => mul_sm (S := S) (a := a) (b := 48271) (by omega) (by omega)
    have i0 := Int.emod_nonneg (a * 48271 + 11) (b := 2147483647) (by omega)
    have i1 := Int.emod_lt_of_pos (a * 48271 + 11) (b := 2147483647) (by omega)
    obtain ⟨ρ', S', e, k1, q1, d1, h1, h2, h3⟩ := forL_inv (g := gN 4) (b := B3__law_draws) (c := fun _ => true) (f := fun i : Nat => T.int i) (xs := List.range 12)
      (fun xs ρ S' => ∃ (k1 : Option T) (q1 : Int) (d1 : List Int), ρ = [x, some (.obj S.length), some (.int cell), some (.int a), k1, some (.int q1)] ∧ S' = S ++ [.lst (d1.map T.int)] ∧ ((∀ i ∈ xs, i < 12) ∧ (0 ≤ q1 ∧ q1 < 2147483648) ∧ xs.length ≤ 12 ∧ Ds (m + (12 - xs.length)) d1)) (fun _ _ _ _ => rfl)
      (fun i xs ρ S' ⟨k1, q1, d1, h1, h2, h0, hq, h3, h4⟩ => by
        subst h1 h2
        simp only [List.length_cons] at h3 h4
        refine ⟨_, rfl, ?_⟩
        have hi := h0 i (List.mem_cons_self ..)
        obtain ⟨q2, d2, j0, j1, h5, h6⟩ := draws_b3 (S := S) (r := q1) (kk := (i : Int)) (x := x) (c := some (.int cell)) (k := some (.int a)) h4 (by omega) (by omega) (by omega) hq.1 hq.2
        exact ⟨_, _, .inl h6, _, q2, d2, rfl, rfl, fun y hy => h0 y (List.mem_cons_of_mem _ hy), ⟨j0, j1⟩, by omega, h5.le (by omega)⟩)
      (ρ := [x, some (.obj S.length), some (.int cell), some (.int a), k, some (.int ((a * 48271 + 11) % 2147483647))]) (S := S ++ [.lst (ds.map T.int)]) ⟨k, _, ds, rfl, rfl, fun i hi => by simpa using hi, ⟨i0, by omega⟩, by simp, by simpa using h⟩
    subst h1 h2
    refine ⟨some (.int a), k1, some (.int q1), d1, h3.2.2.2.le (by simp), ?_⟩
    have e2 := range1_n (f := eC (.int 12)) (ρ := [x, some (.obj S.length), some (.int cell), some (.int a), k, some (.int ((a * 48271 + 11) % 2147483647))]) (S := S ++ [.lst (ds.map T.int)]) (n := 12) rfl (by omega)
    simp [B1__law_draws, ha, pow18, hb, c1, mod_ii, e2, e]
theorem pures_nums : ∀ ds : List Int, T.pures (ds.map T.int) = true
  | [] => rfl
  | d :: ds => by simp [pures_nums ds]
theorem draws_e {ns : List Int} {S : Sto} (hn : ns.length ≤ 63) : ∃ ds : List Int, Dr ds ∧ F__law_draws [.scr (ns.map T.int)] S = .ok (tL ds) S := by
  have hc := cutA_len (xs := ns) (lo := none) (hi := some 63)
  obtain ⟨ρ', S', e, r1, k1, q1, c1, d1, h1, h2, h3⟩ := forL_inv (g := gN 2) (b := B1__law_draws) (c := fun _ => true) (f := T.int) (xs := cutA ns none (some 63))
    (fun xs ρ S' => ∃ (r1 k1 q1 c1 : Option T) (d1 : List Int), ρ = [some (.scr (ns.map T.int)), some (.obj S.length), c1, r1, k1, q1] ∧ S' = S ++ [.lst (d1.map T.int)] ∧ (xs.length ≤ 63 ∧ Ds (60 * (63 - xs.length)) d1)) (fun _ _ _ _ => rfl)
    (fun i xs ρ S' ⟨r1, k1, q1, c1, d1, h1, h2, h3, h4⟩ => by
      subst h1 h2
      simp only [List.length_cons] at h3 h4
      refine ⟨_, rfl, ?_⟩
      obtain ⟨r2, k2, q2, d2, h5, h6⟩ := draws_b1 (S := S) (cell := i) (x := some (.scr (ns.map T.int))) (r := r1) (k := k1) (q := q1) h4 (by omega)
      exact ⟨_, _, .inl h6, r2, k2, q2, _, d2, rfl, rfl, by omega, h5.le (by omega)⟩)
    (ρ := [some (.scr (ns.map T.int)), some (.obj S.length), none, none, none, none]) (S := S ++ [.lst []]) ⟨none, none, none, none, [], rfl, rfl, by omega, by simp [Ds]⟩
  subst h1 h2
  refine ⟨d1, ⟨Nat.le_trans h3.2.1 (by simp), h3.2.2⟩, ?_⟩
  have ec : ∀ ρ, eVar 0 ρ (S ++ [.lst []]) = .ok (.scr (ns.map T.int)) (S ++ [.lst []]) → eCut (eVar 0) oNone (oSome (eC (.int 63))) ρ (S ++ [.lst []]) = .ok (.lst ((cutA ns none (some 63)).map T.int)) (S ++ [.lst []]) := fun ρ h => by
    unfold eCut
    rw [h]
    have hl : decide ((ns.map T.int).length ≤ line) = true := decide_eq_true (by rw [List.length_map]; show ns.length ≤ 16777216; omega)
    simp only [eFrz_e, nCut, bind_ok, oNone_e, oSome_e, eC_e, seqT, hl, Mi.if_true, cut_map]
  have ei := iAny_lst (ec [some (.scr (ns.map T.int)), some (.obj S.length), none, none, none, none] rfl)
  rw [F__law_draws, fnOf_e, ← outR_obj (S := S) (S1 := S) (S2 := []) (pures_nums d1) rfl]
  congr 1
  simp [D__law_draws, ei, e]
end Cm
end

section
set_option Elab.async false
set_option linter.all false
set_option maxRecDepth 100000
set_option maxHeartbeats 2000000
/-! Cmc: draws with a moving counter; comprehensions; bits and cloths -/
namespace Cm
open PySem PySem.Spec L2 Mi
section
variable {S S' : Sto} {n : Nat} {p q : Int} {α β : Type} {ds : List Int} {ρ : Mi.Env}
/-- the store with the counter at p -/
def Sp (S : Sto) (n : Nat) (p : Int) : Sto := S.set n (.lst [.int p])
@[simp] theorem sp_len : (Sp S n p).length = S.length := by simp [Sp]
theorem sp_set : (Sp S n p).set n (.lst [.int q]) = Sp S n q := by simp [Sp]
theorem sp_at (hn : n < S.length) (h0 : 0 ≤ p) (h1 : p < 2 ^ 40) : At (Sp S n p) n p := ⟨by simp [Sp, hn], h0, h1⟩
theorem sp_app (hn : n < S.length) {R : Sto} : Sp (S ++ R) n p = Sp S n p ++ R := by
  unfold Sp
  rw [List.set_append_left _ _ hn]
/-- f moves the counter by k at most and gives P -/
def Tk (S : Sto) (n : Nat) (f : Sto → R α) (k : Nat) (P : α → Prop) : Prop := ∀ p : Int, 0 ≤ p → p + k < 2 ^ 40 → ∃ t q, P t ∧ p ≤ q ∧ q ≤ p + k ∧ f (Sp S n p) = .ok t (Sp S n q)
theorem Tk.of {f g : Sto → R α} {k : Nat} {P : α → Prop} (h : Tk S n g k P) (e : ∀ S', f S' = g S') : Tk S n f k P := by
  have : f = g := funext e
  rw [this]; exact h
theorem Tk.imp {f : Sto → R α} {k k' : Nat} {P P' : α → Prop} (h : Tk S n f k P) (hk : k ≤ k') (hP : ∀ t, P t → P' t) : Tk S n f k' P' := fun p h0 h1 => by
  obtain ⟨t, q, a, b, c, d⟩ := h p h0 (by omega)
  exact ⟨t, q, hP t a, b, by omega, d⟩
/-- a def's end -/
theorem fn_k {m k : Nat} {D : SM} {ts : List T} {P : T → Prop} (hP : ∀ t, P t → t.pure = true)
    (h : ∀ p : Int, 0 ≤ p → p + k < 2 ^ 40 → ∃ t q, P t ∧ p ≤ q ∧ q ≤ p + k ∧ D (ts.map some ++ List.replicate (m - ts.length) none) (Sp S n p) = .go (.rt t) (Sp S n q)) : Tk S n (fnOf m D ts) k P := fun p h0 h1 => by
  obtain ⟨t, q, a, b, c, d⟩ := h p h0 h1
  exact ⟨t, q, a, b, c, by rw [fnOf_e, d, outR_keep (hP t a) (by simp)]⟩
theorem take_k {m : Int} (hd : Dr ds) (hn : n < S.length) (hm : 0 < m) : Tk S n (F__law_take [tL ds, .obj n, .int m]) 1 (fun t => ∃ r : Int, 0 ≤ r ∧ r < m ∧ t = .int r) := fun p h0 h1 => by
  obtain ⟨r, r0, r1, e⟩ := take_e (m := m) hd (sp_at hn h0 (by omega)) hm
  exact ⟨_, p + 1, ⟨r, r0, r1, rfl⟩, by omega, by omega, by rw [e, sp_set]⟩
theorem one_k {l : List T} {rows : T} (hr : rows = .lst l ∨ rows = .tup l) (hl : l ≠ []) (hp : T.pures l = true) (hd : Dr ds) (hn : n < S.length) : Tk S n (F__law_one [rows, tL ds, .obj n]) 1 (fun t => t ∈ l) := fun p h0 h1 => by
  obtain ⟨i, t, h, e⟩ := one_e hr hl hp hd (sp_at hn h0 (by omega))
  exact ⟨_, p + 1, List.mem_of_getElem? h, by omega, by omega, by rw [e, sp_set]⟩
/-! ### comprehensions -/
theorem compL_k {xs : List β} {h : β → T} {g : GM} {e : EM} {k : Nat} {P : β → T → Prop} (he : ∀ x ∈ xs, ∃ ρ1, g (h x) ρ = some ρ1 ∧ Tk S n (e ρ1) k (P x)) :
    Tk S n (compL (fun _ => true) g bYes e ρ (xs.map h)) (k * xs.length) (fun l => All2 P xs l) := by
  induction xs with
  | nil => exact fun p h0 h1 => ⟨[], p, .nil, by omega, by omega, rfl⟩
  | cons x xs ih =>
    intro p h0 h1
    obtain ⟨ρ1, e1, tk⟩ := he x (List.mem_cons_self ..)
    have hk : k * (x :: xs).length = k * xs.length + k := by rw [List.length_cons, Nat.mul_add, Nat.mul_one]
    rw [hk] at h1 ⊢
    obtain ⟨t, q, a, b, c, d⟩ := tk p h0 (by omega)
    obtain ⟨l, q', a', b', c', d'⟩ := ih (fun y hy => he y (List.mem_cons_of_mem _ hy)) q (by omega) (by omega)
    refine ⟨t :: l, q', .cons a a', by omega, by omega, ?_⟩
    show R.if true (match g (h x) ρ with
      | some ρ1 => _
      | none => _) = _
    rw [e1]
    simp only [Mi.if_true, bYes_e, d, calm_ok, bind_ok, d']
theorem comp_k {xs : List β} {h : β → T} {f : IM} {g : GM} {e : EM} {vs : List Nat} {k : Nat} {P : β → T → Prop} (hf : ∀ S', f ρ S' = .ok ⟨xs.map h, fun _ => true⟩ S') (hl : xs.length ≤ 100000)
    (he : ∀ x ∈ xs, ∃ ρ1, g (h x) (wipeE ρ vs) = some ρ1 ∧ Tk S n (e ρ1) k (P x)) : Tk S n (nComp f g bYes e vs ρ) (k * xs.length) (fun l => All2 P xs l) := by
  refine (compL_k he).of fun S' => ?_
  rw [nComp_e, hf, bind_ok]
  have : decide ((xs.map h).length ≤ line) = true := decide_eq_true (by rw [List.length_map]; show xs.length ≤ 16777216; omega)
  simp only [this, Mi.if_true]
/-- .. of a range -/
theorem compR_k {m : Nat} {fe : EM} {g : GM} {e : EM} {vs : List Nat} {k : Nat} {P : Nat → T → Prop} (hf : ∀ S', fe ρ S' = .ok (.int m) S') (hl : m ≤ 1000)
    (he : ∀ i, i < m → ∃ ρ1, g (.int (i : Int)) (wipeE ρ vs) = some ρ1 ∧ Tk S n (e ρ1) k (P i)) : Tk S n (nComp (iRange1 fe) g bYes e vs ρ) (k * m) (fun l => All2 P (List.range m) l) := by
  have := comp_k (S := S) (n := n) (ρ := ρ) (f := iRange1 fe) (g := g) (e := e) (vs := vs) (k := k) (P := P) (xs := List.range m) (h := fun (i : Nat) => T.int (i : Int)) (fun S' => range1_n (hf S') (by omega)) (by simp; omega) (fun i hi => he i (by simpa using hi))
  simpa using this
/-- a comprehension that leaves the store -/
theorem comp_e {xs : List β} {h r : β → T} {f : IM} {g : GM} {e : EM} {vs : List Nat} (hf : f ρ S = .ok ⟨xs.map h, fun _ => true⟩ S) (hl : xs.length ≤ 100000)
    (he : ∀ x ∈ xs, ∃ ρ1, g (h x) (wipeE ρ vs) = some ρ1 ∧ e ρ1 S = .ok (r x) S) : nComp f g bYes e vs ρ S = .ok (xs.map r) S := by
  rw [nComp_e, hf, bind_ok]
  have : decide ((xs.map h).length ≤ line) = true := decide_eq_true (by rw [List.length_map]; show xs.length ≤ 16777216; omega)
  simp only [this, Mi.if_true]
  exact compL_map rfl fun x hx => by
    obtain ⟨ρ1, a, b⟩ := he x hx
    exact ⟨ρ1, a, rfl, b⟩
theorem compR_e {m : Nat} {r : Nat → T} {fe : EM} {g : GM} {e : EM} {vs : List Nat} (hf : fe ρ S = .ok (.int m) S) (hl : m ≤ 1000)
    (he : ∀ i, i < m → ∃ ρ1, g (.int (i : Int)) (wipeE ρ vs) = some ρ1 ∧ e ρ1 S = .ok (r i) S) : nComp (iRange1 fe) g bYes e vs ρ S = .ok ((List.range m).map r) S :=
  comp_e (h := fun (i : Nat) => T.int (i : Int)) (range1_n hf (by omega)) (by simp; omega) fun i hi => he i (by simpa using hi)
/-- .. with a test -/
theorem compF_e {xs : List β} {h r : β → T} {c : β → Bool} {f : IM} {g : GM} {e : EM} {b : BM} {vs : List Nat} (hf : f ρ S = .ok ⟨xs.map h, fun _ => true⟩ S) (hl : xs.length ≤ 100000)
    (he : ∀ x ∈ xs, ∃ ρ1, g (h x) (wipeE ρ vs) = some ρ1 ∧ b ρ1 S = .ok (c x) S ∧ (c x = true → e ρ1 S = .ok (r x) S)) : nComp f g b e vs ρ S = .ok ((xs.filter c).map r) S := by
  rw [nComp_e, hf, bind_ok]
  have : decide ((xs.map h).length ≤ line) = true := decide_eq_true (by rw [List.length_map]; show xs.length ≤ 16777216; omega)
  simp only [this, Mi.if_true]
  exact compL_flt rfl he
theorem blsT_map {xs : List β} {c : β → Bool} : blsT (xs.map fun x => .bl (c x)) = some (xs.map c) := by
  induction xs with
  | nil => rfl
  | cons x xs ih => simp [blsT, ih]
theorem intsT_map {xs : List β} {c : β → Int} : intsT (xs.map fun x => .int (c x)) = some (xs.map c) := by
  induction xs with
  | nil => rfl
  | cons x xs ih => simp [intsT, ih]
theorem all_map {xs : List β} {c : β → Bool} : fAll S [.lst (xs.map fun x => .bl (c x))] = .ok (.bl (xs.all c)) S := by
  show (match (some (xs.map fun x => T.bl (c x))).bind blsT with
    | some ns => _
    | none => _) = _
  simp only [Option.bind_some, blsT_map]
  simp [List.all_map]
theorem sum_map {xs : List β} {c : β → Int} : fSum S [.lst (xs.map fun x => .int (c x))] = .ok (.int (xs.map c).sum) S := by
  show (match (some (xs.map fun x => T.int (c x))).bind intsT with
    | some ns => _
    | none => _) = _
  simp only [Option.bind_some, intsT_map]
theorem tup_obj {l : List T} (h : S[n]? = some (.lst l)) : fTup S [.obj n] = .ok (.tup l) S := by
  unfold fTup
  show (match rdL S (.obj n) with
    | some l => _
    | none => _) = _
  unfold rdL
  simp only [h]
/-! ### bits -/
def isBit (b : Int) : Prop := b = 0 ∨ b = 1
def Bits (c : Nat) (bs : List Int) : Prop := bs.length = c ∧ ∀ b ∈ bs, isBit b
theorem for_range {m : Nat} {fe : EM} {g : GM} {b : SM} (hf : fe ρ S = .ok (.int m) S) (hm : m ≤ 100000) : sFor (iRange1 fe) g b ρ S = forL (fun _ => true) g b ((List.range m).map fun (i : Nat) => T.int (i : Int)) ρ S := by
  rw [sFor_e, range1_n hf (by omega)]
theorem for_it {l : List T} {f : IM} {g : GM} {b : SM} (hf : f ρ S = .ok ⟨l, fun _ => true⟩ S) : sFor f g b ρ S = forL (fun _ => true) g b l ρ S := by
  rw [sFor_e, hf]
abbrev bEnv (c : Nat) (ds : List Int) (n m : Nat) (mx : Int) (kk : Option T) : Mi.Env := [some (.int c), some (tL ds), some (.obj n), some (.obj m), some (.int mx), kk]
theorem take_r {m : Int} {R : Sto} (hd : Dr ds) (hn : n < S.length) (h0 : 0 ≤ p) (h1 : p + 1 < 2 ^ 40) (hm : 0 < m) : ∃ r : Int, 0 ≤ r ∧ r < m ∧ F__law_take [tL ds, .obj n, .int m] (Sp S n p ++ R) = .ok (.int r) (Sp S n (p + 1) ++ R) := by
  obtain ⟨r, r0, r1, e⟩ := take_e (S := Sp (S ++ R) n p) (m := m) hd (sp_at (by simp; omega) h0 (by omega)) hm
  rw [sp_set, sp_app hn, sp_app hn] at e
  exact ⟨r, r0, r1, e⟩
theorem bits_a {c m : Nat} {mx : Int} {bs : List Int} {kk : Option T} {S1 : Sto} (hm : m = S1.length) (hl : bs.length ≤ 1000) :
    sSeq (sDrop (eApp (eVar 3) (Mi.e2 modT (eB fInt (aCons (eVar 4) aNil)) (eC (.int 2))))) (sSeq (sSet 4 (Mi.e2 fdivT (eVar 4) (eC (.int 2)))) sNil) (bEnv c ds n m mx kk) (S1 ++ [.lst (bs.map T.int)]) =
      .go (.nx (bEnv c ds n m (mx / 2) kk)) (S1 ++ [.lst ((bs ++ [mx % 2]).map T.int)]) := by
  have ea := app_own (S1 := S1) (n := m) (l := bs.map T.int) (v := .int (mx % 2)) (ρ := bEnv c ds n m mx kk) (fo := eVar 3) (fe := Mi.e2 modT (eB fInt (aCons (eVar 4) aNil)) (eC (.int 2))) hm rfl (by simp [mod_ii]) (by rw [List.length_map]; show bs.length < 16777216; omega) rfl
  simp [ea, List.map_append]
theorem bits_b {c i : Nat} {mx : Int} {bs : List Int} {kk : Option T} (hd : Dr ds) (hn : n < S.length) (hl : bs.length ≤ 1000) (h0 : 0 ≤ p) (h1 : p + 1 < 2 ^ 40) :
    ∃ (mx' q : Int), p ≤ q ∧ q ≤ p + 1 ∧ B1__law_bits (bEnv c ds n S.length mx (some (.int (i : Int)))) (Sp S n p ++ [.lst (bs.map T.int)]) = .go (.nx (bEnv c ds n S.length (mx' / 2) (some (.int (i : Int))))) (Sp S n q ++ [.lst ((bs ++ [mx' % 2]).map T.int)]) := by
  obtain ⟨r, r0, r1, e⟩ := take_r (R := [.lst (bs.map T.int)]) (m := 1009) hd hn h0 h1 (by omega)
  by_cases h9 : (i : Int) % 9 = 0
  · refine ⟨r, p + 1, by omega, by omega, ?_⟩
    rw [← bits_a (by simp) hl]
    unfold B1__law_bits
    rw [sSeq_e]
    have h9' : ((i : Int) % 9 == 0) = true := beq_iff_eq.mpr h9
    simp [mod_ii, h9', e]
  · refine ⟨mx, p, by omega, by omega, ?_⟩
    rw [← bits_a (by simp) hl]
    unfold B1__law_bits
    rw [sSeq_e]
    have h9' : ((i : Int) % 9 == 0) = false := beq_eq_false_iff_ne.mpr h9
    simp [mod_ii, h9']
theorem bits_f (c : Nat) (hd : Dr ds) (hn : n < S.length) : ∀ (l : List Nat) (bs : List Int) (mx : Int) (kk : Option T) (p : Int), bs.length + l.length ≤ 1000 → 0 ≤ p → p + l.length < 2 ^ 40 → ∃ (bs' : List Int) (mx' q : Int) (kk' : Option T), p ≤ q ∧ q ≤ p + l.length ∧ Bits l.length bs' ∧
    forL (fun _ => true) (gN 5) B1__law_bits (l.map fun (i : Nat) => T.int (i : Int)) (bEnv c ds n S.length mx kk) (Sp S n p ++ [.lst (bs.map T.int)]) = .go (.nx (bEnv c ds n S.length mx' kk')) (Sp S n q ++ [.lst ((bs ++ bs').map T.int)])
  | [], bs, mx, kk, p, _, _, _ => ⟨[], mx, p, kk, by omega, by simp, ⟨rfl, fun _ h => by cases h⟩, by simp⟩
  | i :: l, bs, mx, kk, p, hl, h0, h1 => by
    rw [List.length_cons] at hl h1
    obtain ⟨m1, q1, a1, b1, e1⟩ := bits_b (c := c) (i := i) (mx := mx) (bs := bs) (kk := kk) hd hn (by omega) h0 (by omega)
    obtain ⟨bs', m2, q2, kk', a2, b2, c2, e2⟩ := bits_f c hd hn l (bs ++ [m1 % 2]) (m1 / 2) (some (.int (i : Int))) q1 (by rw [List.length_append, List.length_singleton]; omega) (by omega) (by omega)
    refine ⟨m1 % 2 :: bs', m2, q2, kk', by omega, by rw [List.length_cons]; omega, ⟨by rw [List.length_cons, c2.1, List.length_cons], fun b hb => ?_⟩, ?_⟩
    · rcases List.mem_cons.mp hb with z | z
      · rw [z]
        exact Int.emod_two_eq m1
      · exact c2.2 b z
    · have eg : gN 5 (.int (i : Int)) (bEnv c ds n S.length mx kk) = some (bEnv c ds n S.length mx (some (.int (i : Int)))) := rfl
      rw [List.map_cons, forL_cons, fif_true]
      simp only [eg, e1, loopR_nx, e2, List.append_assoc, List.singleton_append]
theorem bits_k {c : Nat} (hc : c ≤ 1000) (hd : Dr ds) (hn : n < S.length) : Tk S n (F__law_bits [.int c, tL ds, .obj n]) (c + 2) (fun t => ∃ bs, Bits c bs ∧ t = .tup (bs.map T.int)) := by
  intro p h0 h1
  obtain ⟨r, r0, r1, e0⟩ := take_r (R := [.lst []]) (m := 1009) hd hn h0 (by omega) (by omega)
  obtain ⟨bs, m', q, kk, a, b, hb, e⟩ := bits_f c hd hn (List.range c) [] r none (p + 1) (by simpa using hc) (by omega) (by simp; omega)
  rw [List.length_range] at b hb
  refine ⟨_, q, ⟨bs, hb, rfl⟩, by omega, by omega, ?_⟩
  rw [F__law_bits, fnOf_e, ← outR_rt2 (S := Sp S n p) (S1 := Sp S n q) (S2 := [.lst (bs.map T.int)]) (t := .tup (bs.map T.int)) (pures_nums bs) (by simp)]
  congr 1
  have er := for_range (fe := eVar 0) (g := gN 5) (b := B1__law_bits) (ρ := bEnv c ds n S.length r none) (S := Sp S n (p + 1) ++ [.lst []]) (m := c) rfl (by omega)
  have et := tup_obj (S := Sp S n q ++ [.lst (bs.map T.int)]) (n := S.length) (l := bs.map T.int) (by simp)
  simp at e
  simp [D__law_bits, e0, er, e, et, -sFor_e]
end
end Cm
end

section
set_option Elab.async false
set_option linter.all false
set_option maxRecDepth 100000
set_option maxHeartbeats 2000000
/-! Cmd: cloths -/
namespace Cm
open PySem PySem.Spec L2 Mi
section
variable {S : Sto} {n : Nat} {p q : Int} {ds : List Int} {ρ : Mi.Env}
/-- m picks, w ends -/
def Cl (m w : Nat) (rows : List (List Int)) : Prop := rows.length = m ∧ (1 ≤ m ∧ m ≤ 24) ∧ (1 ≤ w ∧ w ≤ 24) ∧ ∀ r ∈ rows, Bits w r
abbrev tR (r : List Int) : T := .tup (r.map T.int)
abbrev cl (rows : List (List Int)) : T := .tup (rows.map tR)
theorem pures_map {α : Type} {xs : List α} {f : α → T} (h : ∀ x ∈ xs, (f x).pure = true) : T.pures (xs.map f) = true := by
  induction xs with
  | nil => rfl
  | cons x xs ih => simp [h x (List.mem_cons_self ..), ih fun y hy => h y (List.mem_cons_of_mem _ hy)]
theorem pure_tR {r : List Int} : (tR r).pure = true := pures_nums r
theorem pure_cl {rows : List (List Int)} : (cl rows).pure = true := pures_map fun _ _ => pure_tR
theorem bits_get {w : Nat} {r : List Int} {i : Nat} (h : Bits w r) : isBit (r.getD i 0) := by
  by_cases hi : i < r.length
  · exact h.2 _ (Mi.getD_mem hi)
  · rw [List.getD_eq_getElem?_getD, List.getElem?_eq_none (by omega)]
    exact .inl rfl
theorem bits_of {w : Nat} {f : Nat → Int} (h : ∀ i, i < w → isBit (f i)) : Bits w ((List.range w).map f) := ⟨by simp, fun b hb => by
  obtain ⟨i, h1, h2⟩ := List.mem_map.mp hb
  rw [← h2]
  exact h i (by simpa using h1)⟩
theorem cloth_k {m w : Nat} (hm : 1 ≤ m ∧ m ≤ 24) (hw : 1 ≤ w ∧ w ≤ 24) (hd : Dr ds) (hn : n < S.length) :
    Tk S n (F__law_cloth [.int m, .int w, tL ds, .obj n]) 1000 (fun t => ∃ rows, Cl m w rows ∧ t = cl rows) := by
  refine fn_k (fun t ⟨rows, _, h⟩ => by rw [h]; exact pure_cl) fun p h0 h1 => ?_
  have mul : m * (w + 2) ≤ 24 * 26 := Nat.mul_le_mul hm.2 (by omega)
  obtain ⟨_, q1, ⟨r, r0, r1, rfl⟩, a1, b1, e1⟩ := take_k (m := 7) hd hn (by omega) p h0 (by omega)
  have env : ∀ l : List T, l.length = 4 → l.map some ++ List.replicate (15 - l.length) none = l.map some ++ [none, none, none, none, none, none, none, none, none, none, none] := fun l h => by rw [h]; rfl
  rw [env _ rfl]
  by_cases c0 : r = 0
  · subst c0
    obtain ⟨_, q2, ⟨bs, hb, rfl⟩, a2, b2, e2⟩ := bits_k (c := w) (by omega) hd hn q1 (by omega) (by omega)
    obtain ⟨_, q3, ⟨st, s0, s1, rfl⟩, a3, b3, e3⟩ := take_k (m := w) hd hn (by omega) q2 (by omega) (by omega)
    refine ⟨cl ((List.range m).map fun (i : Nat) => (List.range w).map fun (e : Nat) => bs.getD (((e : Int) + i * st) % w).toNat 0), q3, ⟨_, ⟨by simp, hm, hw, ?_⟩, rfl⟩, by omega, by omega, ?_⟩
    · intro r hr
      obtain ⟨i, _, h⟩ := List.mem_map.mp hr
      rw [← h]
      exact bits_of fun e _ => bits_get hb
    · have e4 := compR_e (S := Sp S n q3) (ρ := [some (.int m), some (.int w), some (tL ds), some (.obj n), some (.int 0), some (tR bs), some (.int st), none, none, none, none, none, none, none, none]) (m := m) (fe := eVar 0) (g := gN 13) (e := E10__law_cloth) (vs := [13])
        (r := fun i => tR ((List.range w).map fun (e : Nat) => bs.getD (((e : Int) + i * st) % w).toNat 0)) rfl (by omega) (fun i hi => ⟨_, rfl, by
          have e5 := compR_e (S := Sp S n q3) (ρ := [some (.int m), some (.int w), some (tL ds), some (.obj n), some (.int 0), some (tR bs), some (.int st), none, none, none, none, none, none, some (.int (i : Int)), none]) (m := w) (fe := eVar 1) (g := gN 12) (e := E11__law_cloth) (vs := [12])
            (r := fun e => .int (bs.getD (((e : Int) + i * st) % w).toNat 0)) rfl (by omega) (fun e he => ⟨_, rfl, by
              have i0 := Int.emod_nonneg ((e : Int) + i * st) (b := w) (by omega)
              have i1 := Int.emod_lt_of_pos ((e : Int) + i * st) (b := w) (by omega)
              have f1 := ix_tm (S := Sp S n q3) (xs := bs) (f := T.int) (d := 0) i0 (by rw [hb.1]; exact i1)
              have f2 := mul_sm (S := Sp S n q3) (a := (i : Int)) (b := st) (by omega) (by omega)
              have f3 := mod_ii (S := Sp S n q3) (a := (e : Int) + i * st) (b := w) (by omega)
              simp [E11__law_cloth, f1, f2, f3, wipeE]⟩)
          simp [E10__law_cloth, wipeE, e5, Function.comp_def, -nComp_e]⟩)
      simp [D__law_cloth, e1, e2, e3, e4, Function.comp_def, -nComp_e]
  by_cases c1 : r = 1
  · subst c1
    obtain ⟨l, q2, hl, a2, b2, e2⟩ := compR_k (S := S) (n := n) (ρ := [some (.int m), some (.int w), some (tL ds), some (.obj n), some (.int 1), none, none, none, none, none, none, none, none, none, none]) (m := 2) (fe := eC (.int 2)) (g := gN 11) (e := E9__law_cloth) (vs := [11]) (k := w + 2)
      (P := fun _ t => ∃ bs, Bits w bs ∧ t = tR bs) (fun _ => rfl) (by omega) (fun i hi => ⟨_, rfl, (bits_k (c := w) (by omega) hd hn).of fun S' => by simp [E9__law_cloth, wipeE]⟩) q1 (by omega) (by omega)
    obtain ⟨cs, rfl, g1, g2⟩ := hl.ex (P := Bits w) (f := tR) fun _ _ h => h
    obtain ⟨l2, q3, hl2, a3, b3, e3⟩ := compR_k (S := S) (n := n) (ρ := [some (.int m), some (.int w), some (tL ds), some (.obj n), some (.int 1), none, none, some (.lst (cs.map tR)), none, none, none, none, none, none, none]) (m := m) (fe := eVar 0) (g := gN 13) (e := E8__law_cloth) (vs := [13]) (k := 1)
      (P := fun _ t => ∃ bs, Bits w bs ∧ t = tR bs) (fun _ => rfl) (by omega) (fun i hi => ⟨_, rfl, fun p h0 h1 => by
        obtain ⟨_, q, ⟨r, r0, r1, rfl⟩, a, b, e⟩ := take_k (m := 2) hd hn (by omega) p h0 (by omega)
        have hr : r < cs.length := by rw [g1]; simpa using r1
        have f1 := ix_lm (S := Sp S n q) (xs := cs) (f := tR) (d := []) r0 hr
        exact ⟨_, q, ⟨cs.getD r.toNat [], g2 _ (getD_mem (by omega)), rfl⟩, a, b, by simp [E8__law_cloth, wipeE, e, f1]⟩⟩) q2 (by omega) (by omega)
    obtain ⟨rs, rfl, k1, k2⟩ := hl2.ex (P := Bits w) (f := tR) fun _ _ h => h
    refine ⟨cl rs, q3, ⟨rs, ⟨by simpa using k1, hm, hw, k2⟩, rfl⟩, by omega, by omega, ?_⟩
    simp [D__law_cloth, e1, e2, e3, Function.comp_def, -nComp_e]
  by_cases c2 : r = 2
  · subst c2
    obtain ⟨l, q2, hl, a2, b2, e2⟩ := compR_k (S := S) (n := n) (ρ := [some (.int m), some (.int w), some (tL ds), some (.obj n), some (.int 2), none, none, none, none, none, none, none, none, none, none]) (m := 3) (fe := eC (.int 3)) (g := gN 11) (e := E7__law_cloth) (vs := [11]) (k := m + 2)
      (P := fun _ t => ∃ bs, Bits m bs ∧ t = tR bs) (fun _ => rfl) (by omega) (fun i hi => ⟨_, rfl, (bits_k (c := m) (by omega) hd hn).of fun S' => by simp [E7__law_cloth, wipeE]⟩) q1 (by omega) (by omega)
    obtain ⟨cs, rfl, g1, g2⟩ := hl.ex (P := Bits m) (f := tR) fun _ _ h => h
    have hne : cs.map tR ≠ [] := by intro z; have := congrArg List.length z; simp [g1] at this
    obtain ⟨l2, q3, hl2, a3, b3, e3⟩ := compR_k (S := S) (n := n) (ρ := [some (.int m), some (.int w), some (tL ds), some (.obj n), some (.int 2), none, none, none, some (.lst (cs.map tR)), none, none, none, none, none, none]) (m := w) (fe := eVar 1) (g := gN 12) (e := E6__law_cloth) (vs := [12]) (k := 1)
      (P := fun _ t => t ∈ cs.map tR) (fun _ => rfl) (by omega) (fun i hi => ⟨_, rfl, (one_k (.inl rfl) hne (pures_map fun _ _ => pure_tR) hd hn).of fun S' => by simp [E6__law_cloth, wipeE]⟩) q2 (by omega) (by omega)
    obtain ⟨rs, rfl, k1, k2⟩ := hl2.ex (P := Bits m) (f := tR) fun _ _ h => by
      obtain ⟨c, c1, c2⟩ := List.mem_map.mp h
      exact ⟨c, g2 c c1, c2.symm⟩
    refine ⟨cl ((List.range m).map fun (i : Nat) => rs.map fun c => c.getD i 0), q3, ⟨_, ⟨by simp, hm, hw, ?_⟩, rfl⟩, by omega, by omega, ?_⟩
    · intro r hr
      obtain ⟨i, _, h⟩ := List.mem_map.mp hr
      rw [← h]
      refine ⟨by simpa using k1, fun b hb => ?_⟩
      obtain ⟨c, d1, d2⟩ := List.mem_map.mp hb
      rw [← d2]
      exact bits_get (k2 c d1)
    · have e4 := compR_e (S := Sp S n q3) (ρ := [some (.int m), some (.int w), some (tL ds), some (.obj n), some (.int 2), none, none, none, some (.lst (cs.map tR)), some (.lst (rs.map tR)), none, none, none, none, none]) (m := m) (fe := eVar 0) (g := gN 13) (e := E4__law_cloth) (vs := [13])
        (r := fun i => tR (rs.map fun c => c.getD i 0)) rfl (by omega) (fun i hi => ⟨_, rfl, by
          have e5 := comp_e (S := Sp S n q3) (ρ := [some (.int m), some (.int w), some (tL ds), some (.obj n), some (.int 2), none, none, none, some (.lst (cs.map tR)), some (.lst (rs.map tR)), none, none, none, some (.int (i : Int)), none]) (xs := rs) (h := tR) (f := iAny (eVar 9)) (g := gN 14) (e := E5__law_cloth) (vs := [14])
            (r := fun c => .int (c.getD i 0)) (iAny_lst rfl) (by have : rs.length = w := by simpa using k1
                                                                 omega) (fun c hc => ⟨_, rfl, by
              have f1 := ix_tm (S := Sp S n q3) (xs := c) (f := T.int) (d := 0) (i := (i : Int)) (by omega) (by rw [(k2 c hc).1]; omega)
              simp at f1
              simp [E5__law_cloth, f1, wipeE]⟩)
          simp [E4__law_cloth, wipeE, e5, Function.comp_def, -nComp_e]⟩)
      simp [D__law_cloth, e1, e2, e3, e4, Function.comp_def, -nComp_e]
  by_cases c3 : r = 3
  · subst c3
    obtain ⟨_, q2, ⟨st, s0, s1, rfl⟩, a2, b2, e2⟩ := take_k (m := 2) hd hn (by omega) q1 (by omega) (by omega)
    refine ⟨cl ((List.range m).map fun (i : Nat) => (List.range w).map fun (e : Nat) => ((i : Int) + e + st) % 2), q2, ⟨_, ⟨by simp, hm, hw, ?_⟩, rfl⟩, by omega, by omega, ?_⟩
    · intro r hr
      obtain ⟨i, _, h⟩ := List.mem_map.mp hr
      rw [← h]
      exact bits_of fun e _ => Int.emod_two_eq _
    · have e4 := compR_e (S := Sp S n q2) (ρ := [some (.int m), some (.int w), some (tL ds), some (.obj n), some (.int 3), none, none, none, none, none, some (.int st), none, none, none, none]) (m := m) (fe := eVar 0) (g := gN 13) (e := E2__law_cloth) (vs := [13])
        (r := fun i => tR ((List.range w).map fun (e : Nat) => ((i : Int) + e + st) % 2)) rfl (by omega) (fun i hi => ⟨_, rfl, by
          have e5 := compR_e (S := Sp S n q2) (ρ := [some (.int m), some (.int w), some (tL ds), some (.obj n), some (.int 3), none, none, none, none, none, some (.int st), none, none, some (.int (i : Int)), none]) (m := w) (fe := eVar 1) (g := gN 12) (e := E3__law_cloth) (vs := [12])
            (r := fun e => .int (((i : Int) + e + st) % 2)) rfl (by omega) (fun e he => ⟨_, rfl, by
              simp [E3__law_cloth, mod_ii, wipeE]⟩)
          simp [E2__law_cloth, wipeE, e5, Function.comp_def, -nComp_e]⟩)
      simp [D__law_cloth, e1, e2, e4, Function.comp_def, -nComp_e]
  · obtain ⟨l, q2, hl, a2, b2, e2⟩ := compR_k (S := S) (n := n) (ρ := [some (.int m), some (.int w), some (tL ds), some (.obj n), some (.int r), none, none, none, none, none, none, none, none, none, none]) (m := m) (fe := eVar 0) (g := gN 13) (e := E1__law_cloth) (vs := [13]) (k := w + 2)
      (P := fun _ t => ∃ bs, Bits w bs ∧ t = tR bs) (fun _ => rfl) (by omega) (fun i hi => ⟨_, rfl, (bits_k (c := w) (by omega) hd hn).of fun S' => by simp [E1__law_cloth, wipeE]⟩) q1 (by omega) (by rw [Nat.mul_comm] at mul; omega)
    obtain ⟨rs, rfl, k1, k2⟩ := hl.ex (P := Bits w) (f := tR) fun _ _ h => h
    refine ⟨cl rs, q2, ⟨rs, ⟨by simpa using k1, hm, hw, k2⟩, rfl⟩, by omega, by rw [Nat.mul_comm] at mul; omega, ?_⟩
    have nb : ∀ k : Int, ¬ r = k → (r == k) = false := fun k h => beq_eq_false_iff_ne.mpr h
    simp [D__law_cloth, e1, e2, nb _ c0, nb _ c1, nb _ c2, nb _ c3, Function.comp_def, -nComp_e]
theorem some_k {m : Nat} (hm : 1 ≤ m ∧ m ≤ 24) (hd : Dr ds) (hn : n < S.length) : Tk S n (F__law_some_cloth [.int m, tL ds, .obj n]) 1002 (fun t => ∃ a b rows, (a ≤ m ∧ b ≤ m) ∧ Cl a b rows ∧ t = cl rows) := by
  refine fn_k (fun t ⟨_, _, rows, _, _, h⟩ => by rw [h]; exact pure_cl) fun p h0 h1 => ?_
  obtain ⟨_, q1, ⟨x, x0, x1, rfl⟩, a1, b1, e1⟩ := take_k (m := m) hd hn (by omega) p h0 (by omega)
  obtain ⟨_, q2, ⟨y, y0, y1, rfl⟩, a2, b2, e2⟩ := take_k (m := m) hd hn (by omega) q1 (by omega) (by omega)
  obtain ⟨_, q3, ⟨rows, hc, rfl⟩, a3, b3, e3⟩ := cloth_k (m := (1 + x).toNat) (w := (1 + y).toNat) (by omega) (by omega) hd hn q2 (by omega) (by omega)
  have hx : (((1 + x).toNat : Nat) : Int) = 1 + x := by omega
  have hy : (((1 + y).toNat : Nat) : Int) = 1 + y := by omega
  rw [hx, hy] at e3
  refine ⟨_, q3, ⟨_, _, rows, ⟨by omega, by omega⟩, hc, rfl⟩, by omega, by omega, ?_⟩
  simp [D__law_some_cloth, e1, e2, e3]
end
end Cm
end

section
set_option Elab.async false
set_option linter.all false
set_option maxRecDepth 100000
set_option maxHeartbeats 2000000
/-! Cme: values that are told: == and repr of the same; a right cloth -/
namespace Cm
open PySem PySem.Spec L2 Mi
section
variable {S : Sto} {n : Nat} {p q : Int} {ds : List Int} {ρ : Mi.Env}
/-- of few levels, its numbers and texts not too long -/
def fit : Nat → T → Bool
  | _, .non => true
  | _, .bl _ => true
  | _, .int i => decide (i.natAbs < 2 ^ 1900)
  | _, .str s => PyData.strOk s && decide ((reprText s).length ≤ 1900)
  | d + 1, .tup l => l.all (fit d)
  | d + 1, .lst l => l.all (fit d)
  | _, _ => false
mutual
def nn : T → Nat
  | .tup l => 1 + nns l
  | .lst l => 1 + nns l
  | .scr l => 1 + nns l
  | _ => 1
def nns : List T → Nat
  | [] => 0
  | t :: l => nn t + nns l
end
theorem nns_le {c : Nat} : ∀ {l : List T}, (∀ t ∈ l, nn t ≤ c) → nns l ≤ c * l.length
  | [], _ => by simp [nns]
  | t :: l, h => by
    have := nns_le (c := c) fun u hu => h u (List.mem_cons_of_mem _ hu)
    have := h t (List.mem_cons_self ..)
    simp only [nns, List.length_cons, Nat.mul_add, Nat.mul_one]
    omega
theorem join_len : ∀ {l : List Str} {c : Nat}, (l.map fun s => s.length + 2).sum ≤ c → (Str.join ", " l).length ≤ c
  | [], c, h => by show 0 ≤ c; omega
  | [x], c, h => by
    simp only [List.map_cons, List.map_nil, List.sum_cons, List.sum_nil] at h
    show x.length ≤ c
    omega
  | x :: y :: l, c, h => by
    rw [List.map_cons, List.sum_cons] at h
    have ih := join_len (l := y :: l) (c := c - (x.length + 2)) (by omega)
    show (x ++ (", " : Str) ++ Str.join ", " (y :: l)).length ≤ c
    rw [strLen_append, strLen_append]
    have : (", " : Str).length = 2 := rfl
    omega
theorem from_len : ∀ {l : List Str} {k : Nat} {acc : Str}, (textFrom k acc l).length ≤ acc.length + (l.map fun s => s.length + 2).sum
  | [], _, _ => Nat.le_refl _
  | x :: l, k, acc => by
    rw [List.map_cons, List.sum_cons]
    refine Nat.le_trans (from_len (l := l)) ?_
    rw [strLen_append, strLen_append]
    have : (if k > 0 then ", " else "" : String).length ≤ 2 := by split <;> decide
    have e : (Str.ofString (if k > 0 then ", " else "" : String)).length ≤ 2 := by split <;> decide
    have e2 : (((if k > 0 then ", " else "" : String) : String) : Str).length ≤ 2 := e
    omega
mutual
theorem fit_ok : ∀ {d : Nat} {t : T}, fit d t = true → t.dat d = true ∧ t.toD.showable = true ∧ t.toD.hasDict = false ∧ t.toD.shown.length + 2 ≤ 2000 * nn t ∧ t.eqv t = true ∧ t.pure = true
  | _, .non, _ => by
    refine ⟨by simp [T.dat], by simp [T.toD, PyData.showable], by simp [T.toD, PyData.hasDict], ?_, by simp [T.eqv], rfl⟩
    simp only [T.toD, PyData.shown, nn]
    decide
  | _, .bl b, _ => by
    refine ⟨by simp [T.dat], by simp [T.toD, PyData.showable], by simp [T.toD, PyData.hasDict], ?_, by simp [T.eqv], rfl⟩
    simp only [T.toD, PyData.shown, nn]
    cases b <;> decide
  | _, .int i, h => by
    have h : i.natAbs < 2 ^ 1900 := by simpa only [fit, decide_eq_true_eq] using h
    have hl : i.natAbs.log2 < 1920 := Nat.lt_of_lt_of_le (log2_lt h (by omega)) (by omega)
    refine ⟨by simp [T.dat], ?_, by simp [T.toD, PyData.hasDict], ?_, by simp [T.eqv], rfl⟩
    · simp only [T.toD, PyData.showable]
      exact decide_eq_true hl
    · simp only [T.toD, PyData.shown, nn]
      have : (PySem.Str.ofString (toString i)).length ≤ 1921 := by rw [PySem.ofString_length]; exact PySem.int_text_length_le (k := 1920) (by omega) hl
      have : (toString i : Str).length ≤ 1921 := this
      omega
  | _, .str s, h => by
    simp only [fit, Bool.and_eq_true, decide_eq_true_eq] at h
    refine ⟨by simpa [T.dat] using h.1, by simp [T.toD, PyData.showable], by simp [T.toD, PyData.hasDict], ?_, by simp [T.eqv], rfl⟩
    simp only [T.toD, PyData.shown, nn]
    omega
  | d + 1, .tup l, h => by
    simp only [fit] at h
    obtain ⟨a, b, c, e, f, g⟩ := fits_ok h
    refine ⟨a, by simpa [T.toD, PyData.showable] using b, by simpa [T.toD, PyData.hasDict] using c, ?_, by simpa [T.eqv] using f, g⟩
    simp only [T.toD, PyData.shown, nn]
    unfold tupleText
    rw [strLen_append, strLen_append]
    have := join_len e
    have e1 : ("(" : Str).length = 1 := rfl
    have e2 : (if (PyData.shownAll (T.toDs l)).length == 1 then ",)" else ")" : String).length ≤ 2 := by split <;> decide
    have e3 : (Str.ofString (if (PyData.shownAll (T.toDs l)).length == 1 then ",)" else ")" : String)).length ≤ 2 := by split <;> decide
    have e4 : ((if (PyData.shownAll (T.toDs l)).length == 1 then ",)" else ")" : String) : Str).length ≤ 2 := e3
    omega
  | d + 1, .lst l, h => by
    simp only [fit] at h
    obtain ⟨a, b, c, e, f, g⟩ := fits_ok h
    refine ⟨a, by simpa [T.toD, PyData.showable] using b, by simpa [T.toD, PyData.hasDict] using c, ?_, by simpa [T.eqv] using f, g⟩
    simp only [T.toD, PyData.shown, nn]
    unfold listText
    rw [strLen_append]
    have := from_len (l := PyData.shownAll (T.toDs l)) (k := 0) (acc := "[")
    have e1 : ("[" : Str).length = 1 := rfl
    have e2 : ("]" : Str).length = 1 := rfl
    omega
  | 0, .tup l, h => by simp [fit] at h
  | 0, .lst l, h => by simp [fit] at h
  | 0, .scr l, h => by simp [fit] at h
  | 0, .obj l, h => by simp [fit] at h
  | d + 1, .scr l, h => by simp [fit] at h
  | d + 1, .obj l, h => by simp [fit] at h
theorem fits_ok : ∀ {d : Nat} {l : List T}, l.all (fit d) = true → l.all (T.dat d) = true ∧ PyData.showableAll (T.toDs l) = true ∧ PyData.hasDictAll (T.toDs l) = false ∧ ((PyData.shownAll (T.toDs l)).map fun s => s.length + 2).sum ≤ 2000 * nns l ∧ T.eqvs l l = true ∧ T.pures l = true
  | _, [], _ => ⟨rfl, rfl, rfl, Nat.zero_le _, rfl, rfl⟩
  | d, t :: l, h => by
    simp only [List.all_cons, Bool.and_eq_true] at h
    obtain ⟨a, b, c, e, f, g⟩ := fit_ok h.1
    obtain ⟨a1, b1, c1, e1, f1, g1⟩ := fits_ok h.2
    refine ⟨by simp [a, a1], by simp [T.toDs, PyData.showableAll, b, b1], by simp [T.toDs, PyData.hasDictAll, c, c1], ?_, by simp [T.eqvs, f, f1], by simp [g, g1]⟩
    simp only [T.toDs, PyData.shownAll, List.map_cons, List.sum_cons, nns]
    omega
end
theorem valT_pure {t : T} (h : t.pure = true) : valT S t = t := by cases t <;> first | rfl | cases h
theorem flat_pure {t : T} (h : t.pure = true) : t.pure = true := h
theorem repr_e {t : T} (h : fit 60 t = true) (hn : nn t ≤ 8000) : fRepr S [t] = .ok (.str t.toD.shown) S := by
  obtain ⟨a, b, c, e, f, g⟩ := fit_ok h
  have hl : decide (t.toD.shown.length ≤ line) = true := decide_eq_true (by show _ ≤ 16777216; omega)
  show R.if ((valT S t).dat 60 && ((valT S t).toD.showable && (!(valT S t).toD.hasDict && decide ((valT S t).toD.shown.length ≤ line)))) (R.ok (T.str (valT S t).toD.shown) S) = _
  rw [valT_pure g, a, b, c, hl]
  rfl
theorem eq_same {t : T} (h : fit 60 t = true) : eqA S t t = .ok (.bl true) S := by
  obtain ⟨a, b, c, e, f, g⟩ := fit_ok h
  have key : eqT S t t = .ok (.bl true) S := by
    unfold eqT
    rw [valT_pure g, a, f]
    rfl
  cases t with
  | str x => simp
  | _ => exact key
theorem same_e {t : T} (h : fit 60 t = true) (hn : nn t ≤ 8000) : F__law_same_as [t, t] S = .ok (.bl true) S := by
  rw [F__law_same_as, fnOf_e, ← outR_bl]
  congr 1
  simp [D__law_same_as, eq_same h, repr_e h hn]
/-! ### a right cloth -/
theorem in_range_i {a b i : Int} : F_in_range [.int i, .int a, .int b] S = .ok (.bl (decide (a ≤ i) && decide (i ≤ b))) S := in_range_e rfl
theorem cl_ne {m w : Nat} {rows : List (List Int)} (h : Cl m w rows) : ∃ r rs, rows = r :: rs ∧ r.length = w := by
  cases rows with
  | nil => have := h.1; have := h.2.1; simp at *; omega
  | cons r rs => exact ⟨r, rs, rfl, (h.2.2.2 r (List.mem_cons_self ..)).1⟩
theorem ix0_cl {m w : Nat} {rows : List (List Int)} (h : Cl m w rows) : ∃ r ∈ rows, r.length = w ∧ ∀ S, ixA S (cl rows) (.int 0) = .ok (tR r) S := by
  obtain ⟨r, rs, e, hl⟩ := cl_ne h
  subst e
  exact ⟨r, List.mem_cons_self .., hl, fun S => ix_tup (by rw [at_in (by omega) (by simp)]; rfl)⟩
end
end Cm
end

section
set_option Elab.async false
set_option linter.all false
set_option maxRecDepth 100000
set_option maxHeartbeats 2000000
/-! Cmf: check_cloth, threads, plans, fractions -/
namespace Cm
open PySem PySem.Spec L2 Mi
section
variable {S : Sto} {n : Nat} {p q : Int} {ds : List Int} {ρ : Mi.Env} {α β γ : Type}
theorem len_str {s : Str} (h : s.length ≤ 16777216) : fLen S [.str s] = .ok (.int s.length) S := by
  show R.if (decide (s.length ≤ line)) _ = _
  rw [show decide (s.length ≤ line) = true from decide_eq_true h]
  rfl
@[simp] theorem line_eq : line = 16777216 := by rfl
@[simp] theorem kin_tup : kinT "tuple" "tuple" = true := by decide
@[simp] theorem kin_int : kinT "int" "int" = true := by decide
@[simp] theorem kin_str : kinT "str" "str" = true := by decide
theorem fn_e {m : Nat} {D : SM} {ts : List T} {t : T} (hp : t.pure = true) (h : D (ts.map some ++ List.replicate (m - ts.length) none) S = .go (.rt t) S) : fnOf m D ts S = .ok t S := by rw [fnOf_e, h, outR_rt hp]
theorem fn_nx {m : Nat} {D : SM} {ts : List T} {ρ : Mi.Env} (h : D (ts.map some ++ List.replicate (m - ts.length) none) S = .go (.nx ρ) S) : fnOf m D ts S = .ok .non S := by rw [fnOf_e, h, outR_nx]
theorem fn_exs {m : Nat} {D : SM} {ts : List T} {ρ : Mi.Env} {c fl x : Str} (h : D (ts.map some ++ List.replicate (m - ts.length) none) S = .exc c [(fl, .str x)] ρ S) : fnOf m D ts S = .exc c [(fl, .str x)] S := by rw [fnOf_e, h, outR_exs]
theorem blsT_all {c : β → Bool} {r : β → T} : ∀ {xs : List β}, (∀ x ∈ xs, r x = .bl (c x)) → blsT (xs.map r) = some (xs.map c)
  | [], _ => rfl
  | x :: xs, h => by
    rw [List.map_cons, h x (List.mem_cons_self ..)]
    show (blsT (xs.map r)).map _ = _
    rw [blsT_all fun y hy => h y (List.mem_cons_of_mem _ hy)]
    rfl
theorem all_true {l : List T} (h : ∀ t ∈ l, t = .bl true) : fAll S [.lst l] = .ok (.bl true) S := by
  have := blsT_all (xs := l) (r := id) (c := fun _ => true) h
  rw [List.map_id] at this
  show (match (some l).bind blsT with
    | some ns => _
    | none => _) = _
  simp only [Option.bind_some, this]
  simp
/-- two clauses, the store as it is -/
theorem comp2_e {xs : List β} {h : β → T} {ys : β → List γ} {h1 : γ → T} {r : β → γ → T} {f f1 : IM} {g g1 : GM} {e : EM} {vs vs1 : List Nat} (hf : f ρ S = .ok ⟨xs.map h, fun _ => true⟩ S) (hl : xs.length ≤ 4096)
    (he : ∀ x ∈ xs, ∃ ρ1, g (h x) (wipeE ρ vs) = some ρ1 ∧ f1 ρ1 S = .ok ⟨(ys x).map h1, fun _ => true⟩ S ∧ (ys x).length ≤ 4096 ∧ ∀ y ∈ ys x, ∃ ρ2, g1 (h1 y) (wipeE ρ1 vs1) = some ρ2 ∧ e ρ2 S = .ok (r x y) S) :
    nComp2 f g bYes f1 g1 bYes e vs vs1 ρ S = .ok (xs.flatMap fun x => (ys x).map (r x)) S := by
  have key : ∀ l : List β, (∀ x ∈ l, x ∈ xs) → compL2 (fun _ => true) g bYes f1 g1 bYes e vs1 (wipeE ρ vs) (l.map h) S = .ok (l.flatMap fun x => (ys x).map (r x)) S := by
    intro l
    induction l with
    | nil => intro _; rfl
    | cons x l ih =>
      intro hx
      obtain ⟨ρ1, a1, a2, a3, a4⟩ := he x (hx x (List.mem_cons_self ..))
      have a5 := compL_map (S := S) (ρ := wipeE ρ1 vs1) (g := g1) (c := bYes) (e := e) (ck := fun _ => true) (f := h1) (h := r x) rfl (xs := ys x) fun y hy => by
        obtain ⟨ρ2, b1, b2⟩ := a4 y hy
        exact ⟨ρ2, b1, rfl, b2⟩
      have ih := ih fun y hy => hx y (List.mem_cons_of_mem _ hy)
      show R.if true (match g (h x) (wipeE ρ vs) with
        | some ρ1 => _
        | none => _) = _
      have hd : decide (((ys x).map h1).length ≤ 4096) = true := decide_eq_true (by rw [List.length_map]; exact a3)
      rw [a1]
      simp only [Mi.if_true, bYes_e, calm_ok, bind_ok, a2, hd, a5, ih, List.flatMap_cons]
  show (f ρ S).bind _ = _
  rw [hf]
  have hd : decide ((xs.map h).length ≤ 4096) = true := decide_eq_true (by rw [List.length_map]; exact hl)
  simp only [bind_ok, hd, Mi.if_true, key xs fun x hx => hx]
theorem bit_in {b : Int} (h : isBit b) : (decide (0 ≤ b) && decide (b ≤ 1)) = true := by rcases h with h | h <;> subst h <;> rfl
theorem check_e {m w : Nat} {rows : List (List Int)} (h : Cl m w rows) : F_check_cloth [cl rows] S = .ok .non S := by
  obtain ⟨r0, hr0, hl0, ix0⟩ := ix0_cl h
  obtain ⟨h1, h2, h3, h4⟩ := h
  have c1 := comp_e (S := S) (ρ := [some (cl rows), none, none]) (xs := rows) (h := tR) (r := fun _ => .bl true) (f := iAny (eVar 0)) (g := gN 1) (e := eIs "tuple" (eVar 1)) (vs := [1]) (iAny_tup rfl) (by omega) fun x _ => ⟨_, rfl, by simp [wipeE]⟩
  have c2 := comp_e (S := S) (ρ := [some (cl rows), none, none]) (xs := rows) (h := tR) (r := fun _ => .bl true) (f := iAny (eVar 0)) (g := gN 1) (e := E2_check_cloth) (vs := [1]) (iAny_tup rfl) (by omega) fun x hx => ⟨_, rfl, by
    have := (h4 x hx).1
    simp [E2_check_cloth, wipeE, ix0, this, hl0]⟩
  have c3 := comp2_e (S := S) (ρ := [some (cl rows), none, none]) (xs := rows) (h := tR) (ys := fun x => x) (h1 := T.int) (r := fun _ _ => .bl true) (f := iAny (eVar 0)) (f1 := iAny (eVar 1)) (g := gN 1) (g1 := gN 2) (e := E1_check_cloth) (vs := [1, 2]) (vs1 := [2]) (iAny_tup rfl) (by omega) fun x hx => ⟨_, rfl, iAny_tup rfl, by have := (h4 x hx).1; omega, fun y hy => ⟨_, rfl, by
    have e := in_range_i (S := S) (a := 0) (b := 1) (i := y)
    rw [bit_in ((h4 x hx).2 y hy)] at e
    simp [E1_check_cloth, wipeE, e]⟩⟩
  have a1 := all_true (S := S) (l := rows.map fun _ => T.bl true) (by simp)
  have a3 := all_true (S := S) (l := rows.flatMap fun x => x.map fun _ => T.bl true) (by
    intro t ht
    obtain ⟨x, _, h⟩ := List.mem_flatMap.mp ht
    obtain ⟨y, _, h⟩ := List.mem_map.mp h
    exact h.symm)
  have d1 : decide ((1 : Int) ≤ rows.length) = true := decide_eq_true (by omega)
  have d2 : decide ((rows.length : Int) ≤ 24) = true := decide_eq_true (by omega)
  have d3 : decide ((1 : Int) ≤ r0.length) = true := decide_eq_true (by omega)
  have d4 : decide ((r0.length : Int) ≤ 24) = true := decide_eq_true (by omega)
  refine fn_nx (ρ := [some (cl rows), none, none]) ?_
  simp only [D_check_cloth, sSeq_e, sIf_e, bOr_e, bNot_e, bTru_e, bVal_e, eIs_e, eB_e, aCons_e, aNil_e, eFrz_e, eChain_e, Mi.e2_e, eC_e, List.map_cons, List.map_nil, List.length_cons, List.length_nil, List.replicate, List.cons_append, List.nil_append, eVar_z, bind_ok, ty_tup, kin_tup, tru_bl, c1, c2, c3, a1, a3, then_ok, ix0, len_tup, List.length_map, le_ii, d1, d2, d3, d4, Bool.not_true, Bool.not_false, seq_nx, sNil_e]
/-! ### threads -/
/-- a thread: an end? its number -/
abbrev tT (t : Bool × Nat) : T := .tup [.str (if t.1 then "end" else "pick"), .int (t.2 : Int)]
def thr (m w : Nat) : List (Bool × Nat) := ((List.range w).map fun e => (true, e)) ++ (List.range m).map fun i => (false, i)
theorem thr_len {m w : Nat} : (thr m w).length = w + m := by simp [thr]
theorem threads_e {m w : Nat} {rows : List (List Int)} (h : Cl m w rows) : F_threads_of [cl rows] S = .ok (.lst ((thr m w).map tT)) S := by
  obtain ⟨r0, hr0, hl0, ix0⟩ := ix0_cl h
  obtain ⟨h1, h2, h3, h4⟩ := h
  have c1 := compR_e (S := S) (ρ := [some (cl rows), none, none]) (m := w) (r := fun e => tT (true, e)) (fe := eB fLen (aCons (Mi.e2 ixA (eVar 0) (eC (.int 0))) aNil)) (g := gN 1) (e := E1_threads_of) (vs := [1]) (by simp [ix0, hl0]) (by omega) fun i _ => ⟨_, rfl, by simp [E1_threads_of, wipeE]⟩
  have c2 := compR_e (S := S) (ρ := [some (cl rows), none, none]) (m := m) (r := fun e => tT (false, e)) (fe := eB fLen (aCons (eVar 0) aNil)) (g := gN 2) (e := E2_threads_of) (vs := [2]) (by simp [h1]) (by omega) fun i _ => ⟨_, rfl, by simp [E2_threads_of, wipeE]⟩
  refine fn_e (pures_map fun _ _ => by rfl) ?_
  have d : decide (((List.range w).map fun e => tT (true, e)).length + ((List.range m).map fun e => tT (false, e)).length ≤ line) = true := decide_eq_true (by simp; omega)
  have ad : addL S (.lst ((List.range w).map fun e => tT (true, e))) (.lst ((List.range m).map fun e => tT (false, e))) = .ok (.lst (((List.range w).map fun e => tT (true, e)) ++ (List.range m).map fun e => tT (false, e))) S := by
    unfold addL
    simp only [isL, rdL, d, Mi.if_true]
  simp only [D_threads_of, sSeq_e, sRet_e, Mi.e2_e, eFrz_e, List.map_cons, List.map_nil, List.length_cons, List.length_nil, List.replicate, List.cons_append, List.nil_append, c1, c2, bind_ok, ad, then_ok, seq_rt, thr, List.map_append, List.map_map, Function.comp_def]
end
end Cm
end

section
set_option Elab.async false
set_option linter.all false
set_option maxRecDepth 100000
set_option maxHeartbeats 2000000
set_option exponentiation.threshold 9000
/-! Cmg: fractions, plans -/
namespace Cm
open PySem PySem.Spec L2 Mi
section
variable {S : Sto} {n : Nat} {p q : Int} {ds : List Int} {ρ : Mi.Env} {α β γ : Type}
abbrev nI (a : Nat) : T := .int (a : Int)
theorem gcd_next {a b : Nat} : Nat.gcd (b + 1) (a % (b + 1)) = Nat.gcd a (b + 1) := by rw [Nat.gcd_comm a, Nat.gcd_rec (b + 1) a, Nat.gcd_comm]
theorem cast_mod {a b : Nat} : ((a : Int) % (b : Int)) = ((a % b : Nat) : Int) := (Int.natCast_emod a b).symm
theorem cast_div {a b : Nat} : ((a : Int) / (b : Int)) = ((a / b : Nat) : Int) := (Int.natCast_ediv a b).symm
theorem mod_nn {a b : Nat} (h : 0 < b) : modT S (nI a) (nI b) = .ok (nI (a % b)) S := by rw [mod_ii (by omega), cast_mod]
theorem div_nn {a b : Nat} (h : 0 < b) (h2 : b < 2 ^ 8000) : fdivT S (nI a) (nI b) = .ok (nI (a / b)) S := by rw [fdiv_ii (by omega) (by simpa using h2), cast_div]
theorem divisor_l (b a : Nat) : sLoop Q1_divisor B1_divisor [some (nI a), some (nI b)] S = .go (.nx [some (nI (Nat.gcd a b)), some (nI 0)]) S := by
  match b with
  | 0 =>
    rw [Nat.gcd_zero_right]
    exact sLoop_end (by simp [Q1_divisor])
  | b + 1 =>
    have hm := mod_nn (S := S) (a := a) (b := b + 1) (by omega)
    rw [sLoop_step (ρ2 := [some (nI (b + 1)), some (nI (a % (b + 1)))]) (S1 := S) (S2 := S) (by
      have : decide ((0 : Int) < ((b + 1 : Nat) : Int)) = true := decide_eq_true (by omega)
      simp only [Q1_divisor, bVal_e, Mi.e2_e, eVar_s, eVar_z, bind_ok, eC_e, gt_ii, this]) (by
      simp only [B1_divisor, sSeq_e, sPar_e, aCons_e, aNil_e, Mi.e2_e, eVar_s, eVar_z, bind_ok, hm, then_ok, seq_nx, sNil_e]
      rfl), ← gcd_next]
    exact divisor_l (a % (b + 1)) (b + 1)
termination_by b
decreasing_by exact Nat.mod_lt _ (by omega)
theorem divisor_e {a b : Nat} : F_divisor [nI a, nI b] S = .ok (nI (Nat.gcd a b)) S := by
  refine fn_e (by rfl) ?_
  have := divisor_l (S := S) b a
  show D_divisor [some (nI a), some (nI b)] S = _
  simp only [D_divisor, sSeq_e, List.map_cons, List.map_nil, List.length_cons, List.length_nil, List.replicate, List.cons_append, List.nil_append, this, seq_nx, sRet_e, eVar_z, then_ok, seq_rt]
theorem least_l (b a : Nat) (x y : Option T) : sLoop Q1__law_least_terms B1__law_least_terms [x, y, some (nI a), some (nI b)] S = .go (.nx [x, y, some (nI (Nat.gcd a b)), some (nI 0)]) S := by
  match b with
  | 0 =>
    rw [Nat.gcd_zero_right]
    exact sLoop_end (by simp [Q1__law_least_terms])
  | b + 1 =>
    have hm := mod_nn (S := S) (a := a) (b := b + 1) (by omega)
    rw [sLoop_step (ρ2 := [x, y, some (nI (b + 1)), some (nI (a % (b + 1)))]) (S1 := S) (S2 := S) (by
      have : decide ((0 : Int) < ((b + 1 : Nat) : Int)) = true := decide_eq_true (by omega)
      simp only [Q1__law_least_terms, bVal_e, Mi.e2_e, eVar_s, eVar_z, bind_ok, eC_e, gt_ii, this]) (by
      simp only [B1__law_least_terms, sSeq_e, sPar_e, aCons_e, aNil_e, Mi.e2_e, eB_e, eVar_s, eVar_z, bind_ok, int_i, hm, then_ok, seq_nx, sNil_e]
      rfl), ← gcd_next]
    exact least_l (a % (b + 1)) (b + 1) x y
termination_by b
decreasing_by exact Nat.mod_lt _ (by omega)
/-- in least terms -/
def fq (a b : Nat) : Nat × Nat := (a / Nat.gcd a b, b / Nat.gcd a b)
abbrev tF (x : Nat × Nat) : T := .tup [nI x.1, nI x.2]
theorem frac_D {a b : Nat} {f g : EM} (hb : 0 < b) (h2 : b < 2 ^ 8000) (hf : ∀ S, f ρ S = .ok (nI a) S) (hg : ∀ S, g ρ S = .ok (nI b) S) {k : EM} (hk : ∀ S, k ρ S = .ok (nI (Nat.gcd a b)) S) :
    eTup (aCons (Mi.e2 fdivT f k) (aCons (Mi.e2 fdivT g k) aNil)) ρ S = .ok (tF (fq a b)) S := by
  have h3 : 0 < Nat.gcd a b := Nat.gcd_pos_of_pos_right _ hb
  have h4 : Nat.gcd a b < 2 ^ 8000 := Nat.lt_of_le_of_lt (Nat.gcd_le_right _ hb) h2
  have e1 := div_nn (S := S) (a := a) h3 h4
  have e2 := div_nn (S := S) (a := b) h3 h4
  have d : decide (2 ≤ line) = true := by decide
  simp only [eTup_e, aCons_e, aNil_e, Mi.e2_e, hf, hg, hk, bind_ok, e1, e2, List.length_cons, List.length_nil, d, Mi.if_true, fq]
theorem fraction_e {a b : Nat} (hb : 0 < b) (h2 : b < 2 ^ 8000) : F_fraction [nI a, nI b] S = .ok (tF (fq a b)) S := by
  refine fn_e (by rfl) ?_
  have e := frac_D (S := S) (ρ := [some (nI a), some (nI b), some (nI (Nat.gcd a b))]) (f := eVar 0) (g := eVar 1) (k := eVar 2) hb h2 (fun _ => by rfl) (fun _ => by rfl) (fun _ => by rfl)
  simp only [D_fraction, sSeq_e, sSet_e, List.map_cons, List.map_nil, List.length_cons, List.length_nil, List.replicate, List.cons_append, List.nil_append, eCall_e, aCons_e, aNil_e, bind_ok, eVar_z, eVar_s, beq_self_eq_true, Mi.if_true, divisor_e, then_ok, seq_nx, List.set_cons_succ, List.set_cons_zero, sRet_e, e, seq_rt]
theorem least_e {a b : Nat} (hb : 0 < b) (h2 : b < 2 ^ 8000) : F__law_least_terms [nI a, nI b] S = .ok (tF (fq a b)) S := by
  refine fn_e (by rfl) ?_
  have e := frac_D (S := S) (ρ := [some (nI a), some (nI b), some (nI (Nat.gcd a b)), some (nI 0)]) (f := eVar 0) (g := eVar 1) (k := eVar 2) hb h2 (fun _ => by rfl) (fun _ => by rfl) (fun _ => by rfl)
  have l := least_l (S := S) b a (some (nI a)) (some (nI b))
  simp only [D__law_least_terms, sSeq_e, sPar_e, List.map_cons, List.map_nil, List.length_cons, List.length_nil, List.replicate, List.cons_append, List.nil_append, aCons_e, aNil_e, bind_ok, eVar_z, eVar_s, then_ok, seq_nx, List.set_cons_succ, List.set_cons_zero, l, sRet_e, e, seq_rt]
def pl (x y : Nat × Nat) : Nat × Nat := fq (x.1 * y.2 + y.1 * x.2) (x.2 * y.2)
def tm (x : Nat × Nat) (k : Nat) : Nat × Nat := fq (x.1 * k) x.2
/-- not too great -/
def Bd (k : Nat) (x : Nat × Nat) : Prop := 0 < x.2 ∧ x.1 < 2 ^ (40 * k) ∧ x.2 < 2 ^ (40 * k)
theorem fq_bd {k a b : Nat} (h0 : 0 < b) (h1 : a < 2 ^ (40 * k)) (h2 : b < 2 ^ (40 * k)) : Bd k (fq a b) :=
  ⟨Nat.div_pos (Nat.gcd_le_right _ h0) (Nat.gcd_pos_of_pos_right _ h0), Nat.lt_of_le_of_lt (Nat.div_le_self ..) h1, Nat.lt_of_le_of_lt (Nat.div_le_self ..) h2⟩
theorem mul_lt {a b i j : Nat} (h1 : a < 2 ^ i) (h2 : b < 2 ^ j) : a * b < 2 ^ (i + j) := by
  rw [Nat.pow_add]
  exact Nat.mul_lt_mul_of_lt_of_lt h1 h2
theorem pow_le {a i j : Nat} (h : a < 2 ^ i) (k : i ≤ j) : a < 2 ^ j := Nat.lt_of_lt_of_le h (Nat.pow_le_pow_right (by omega) k)
theorem pl_in {j k : Nat} {x y : Nat × Nat} (h1 : Bd j x) (h2 : Bd k y) : 0 < x.2 * y.2 ∧ x.1 * y.2 + y.1 * x.2 < 2 ^ (40 * (j + k + 1)) ∧ x.2 * y.2 < 2 ^ (40 * (j + k + 1)) := by
  have a := mul_lt h1.2.1 h2.2.2
  have b := mul_lt h2.2.1 h1.2.2
  have c := mul_lt h1.2.2 h2.2.2
  rw [show 40 * k + 40 * j = 40 * j + 40 * k by omega] at b
  have e : 2 ^ (40 * (j + k + 1)) = 2 ^ (40 * j + 40 * k) * 2 ^ 40 := by rw [← Nat.pow_add]; congr 1; omega
  rw [e]
  exact ⟨Nat.mul_pos h1.1 h2.1, by omega, by omega⟩
theorem pl_bd {j k : Nat} {x y : Nat × Nat} (h1 : Bd j x) (h2 : Bd k y) : Bd (j + k + 1) (pl x y) := by
  obtain ⟨a, b, c⟩ := pl_in h1 h2
  exact fq_bd a b c
theorem tm_bd {j k : Nat} {x : Nat × Nat} (h1 : Bd j x) (h2 : k < 2 ^ 40) : Bd (j + 1) (tm x k) :=
  fq_bd h1.1 (by rw [Nat.mul_add, Nat.mul_one]; exact mul_lt h1.2.1 h2) (pow_le h1.2.2 (by omega))
theorem Bd.le {j k : Nat} {x : Nat × Nat} (h : Bd j x) (h2 : j ≤ k) : Bd k x := ⟨h.1, pow_le h.2.1 (by omega), pow_le h.2.2 (by omega)⟩
theorem mul_nn {a b : Nat} (ha : a < 2 ^ 8000) (hb : b < 2 ^ 8000) : mulL S (nI a) (nI b) = .ok (nI (a * b)) S := by
  rw [mul_sm (by simpa using ha) (by simpa using hb)]
  rfl
theorem add_nn {a b : Nat} : addL S (nI a) (nI b) = .ok (nI (a + b)) S := id rfl
theorem ix0_F {x : Nat × Nat} : ixA S (tF x) (.int 0) = .ok (nI x.1) S := ix_tup (by rw [at_in (by omega) (by simp)]; rfl)
theorem ix1_F {x : Nat × Nat} : ixA S (tF x) (.int 1) = .ok (nI x.2) S := ix_tup (by rw [at_in (by omega) (by simp)]; rfl)
theorem plus_D {φ : FM} (hφ : ∀ (a b : Nat) (S : Sto), 0 < b → b < 2 ^ 8000 → φ [nI a, nI b] S = .ok (tF (fq a b)) S) {j k : Nat} {x y : Nat × Nat} (h1 : Bd j x) (h2 : Bd k y) (h3 : j + k ≤ 100) :
    eCall φ 2 [] (aCons (Mi.e2 addL (Mi.e2 mulL (Mi.e2 ixA (eVar 0) (eC (.int 0))) (Mi.e2 ixA (eVar 1) (eC (.int 1)))) (Mi.e2 mulL (Mi.e2 ixA (eVar 1) (eC (.int 0))) (Mi.e2 ixA (eVar 0) (eC (.int 1))))) (aCons (Mi.e2 mulL (Mi.e2 ixA (eVar 0) (eC (.int 1))) (Mi.e2 ixA (eVar 1) (eC (.int 1)))) aNil)) [some (tF x), some (tF y)] S = .ok (tF (pl x y)) S := by
  have q1 := pow_le (j := 8000) h1.2.1 (by omega)
  have q2 := pow_le (j := 8000) h1.2.2 (by omega)
  have q3 := pow_le (j := 8000) h2.2.1 (by omega)
  have q4 := pow_le (j := 8000) h2.2.2 (by omega)
  obtain ⟨a, b, c⟩ := pl_in h1 h2
  have q5 := pow_le (j := 8000) c (by omega)
  have m1 := mul_nn (S := S) q1 q4
  have m2 := mul_nn (S := S) q3 q2
  have m3 := mul_nn (S := S) q2 q4
  have e := hφ (x.1 * y.2 + y.1 * x.2) _ S a q5
  simp only [eCall_e, aCons_e, aNil_e, Mi.e2_e, eVar_z, eVar_s, eC_e, bind_ok, ix0_F, ix1_F, m1, m2, m3, add_nn, List.length_cons, List.length_nil, beq_self_eq_true, Mi.if_true, e, pl]
theorem plus_e {j k : Nat} {x y : Nat × Nat} (h1 : Bd j x) (h2 : Bd k y) (h3 : j + k ≤ 100) : F_plus [tF x, tF y] S = .ok (tF (pl x y)) S := by
  refine fn_e (by rfl) ?_
  have e := plus_D (S := S) (φ := F_fraction) (fun a b S h1 h2 => fraction_e h1 h2) h1 h2 h3
  show D_plus [some (tF x), some (tF y)] S = _
  simp only [D_plus, sSeq_e, sRet_e, List.map_cons, List.map_nil, List.length_cons, List.length_nil, List.replicate, List.cons_append, List.nil_append, e, then_ok, seq_rt]
theorem lplus_e {j k : Nat} {x y : Nat × Nat} (h1 : Bd j x) (h2 : Bd k y) (h3 : j + k ≤ 100) : F__law_plus [tF x, tF y] S = .ok (tF (pl x y)) S := by
  refine fn_e (by rfl) ?_
  have e := plus_D (S := S) (φ := F__law_least_terms) (fun a b S h1 h2 => least_e h1 h2) h1 h2 h3
  show D__law_plus [some (tF x), some (tF y)] S = _
  simp only [D__law_plus, sSeq_e, sRet_e, List.map_cons, List.map_nil, List.length_cons, List.length_nil, List.replicate, List.cons_append, List.nil_append, e, then_ok, seq_rt]
theorem ltimes_e {j k : Nat} {x : Nat × Nat} (h1 : Bd j x) (h2 : k < 2 ^ 40) (h3 : j ≤ 100) : F__law_times [tF x, nI k] S = .ok (tF (tm x k)) S := by
  refine fn_e (by rfl) ?_
  have m1 := mul_nn (S := S) (pow_le (j := 8000) h1.2.1 (by omega)) (pow_le (j := 8000) h2 (by omega))
  have e := least_e (S := S) (a := x.1 * k) h1.1 (pow_le (j := 8000) h1.2.2 (by omega))
  simp only [D__law_times, sSeq_e, sRet_e, List.map_cons, List.map_nil, List.length_cons, List.length_nil, List.replicate, List.cons_append, List.nil_append, eCall_e, aCons_e, aNil_e, Mi.e2_e, eVar_z, eVar_s, eC_e, bind_ok, ix0_F, ix1_F, m1, beq_self_eq_true, Mi.if_true, e, then_ok, seq_rt, tm]
theorem fq_mul {g x y : Nat} (h : 0 < g) : fq (g * x) (g * y) = fq x y := by
  unfold fq
  rw [Nat.gcd_mul_left, Nat.mul_div_mul_left _ _ h, Nat.mul_div_mul_left _ _ h]
/-- a whole number and a fraction in least terms -/
theorem pl_one {s n b : Nat} (hb : 0 < b) : pl (s, 1) (fq n b) = fq (s * b + n) b := by
  have h3 : 0 < Nat.gcd n b := Nat.gcd_pos_of_pos_right _ hb
  have e1 : n.gcd b * (n / n.gcd b) = n := Nat.mul_div_cancel' (Nat.gcd_dvd_left ..)
  have e2 : n.gcd b * (b / n.gcd b) = b := Nat.mul_div_cancel' (Nat.gcd_dvd_right ..)
  have := fq_mul (x := s * (b / n.gcd b) + n / n.gcd b) (y := b / n.gcd b) h3
  rw [Nat.mul_add, e1, e2, Nat.mul_left_comm, e2] at this
  rw [this]
  simp [pl, fq]
/-! ### plans -/
theorem plan_k {m w : Nat} {rows : List (List Int)} {cs : List T} (h : Cl m w rows) (hc : cs ≠ []) (hp : T.pures cs = true) (hd : Dr ds) (hn : n < S.length) :
    Tk S n (F__law_plan [cl rows, .lst cs, tL ds, .obj n]) 50 (fun t => ∃ xs ys : List T, xs.length = w ∧ ys.length = m ∧ (∀ x ∈ xs, x ∈ cs) ∧ (∀ x ∈ ys, x ∈ cs) ∧ t = .tup [.tup xs, .tup ys]) := by
  have pm : ∀ l : List T, (∀ x ∈ l, x ∈ cs) → T.pures l = true := fun l hl => by
    have : ∀ {l : List T} {t : T}, T.pures l = true → t ∈ l → t.pure = true := by
      intro l t h ht
      induction l with
      | nil => cases ht
      | cons a b ih =>
        simp only [pures_cons, Bool.and_eq_true] at h
        rcases List.mem_cons.mp ht with z | z
        · rw [z]; exact h.1
        · exact ih h.2 z
    have h2 := pures_map (xs := l) (f := id) fun x hx => this hp (hl x hx)
    simpa using h2
  refine fn_k (fun t ⟨xs, ys, _, _, h1, h2, e⟩ => by rw [e]; simp [pm _ h1, pm _ h2]) fun p h0 h1 => ?_
  obtain ⟨r0, hr0, hl0, ix0⟩ := ix0_cl h
  obtain ⟨g1, g2, g3, g4⟩ := h
  obtain ⟨l, q1, hl, a1, b1, e1⟩ := comp_k (S := S) (n := n) (ρ := [some (cl rows), some (.lst cs), some (tL ds), some (.obj n), none, none, none]) (xs := r0) (h := T.int) (f := iAny (Mi.e2 ixA (eVar 0) (eC (.int 0)))) (g := gN 5) (e := E2__law_plan) (vs := [5]) (k := 1)
    (P := fun _ t => t ∈ cs) (fun S' => iAny_tup (by simp [ix0])) (by omega) (fun i hi => ⟨_, rfl, (one_k (.inl rfl) hc hp hd hn).of fun S' => by simp [E2__law_plan, wipeE]⟩) p h0 (by omega)
  obtain ⟨l2, q2, hl2, a2, b2, e2⟩ := comp_k (S := S) (n := n) (ρ := [some (cl rows), some (.lst cs), some (tL ds), some (.obj n), some (.tup l), none, none]) (xs := rows) (h := tR) (f := iAny (eVar 0)) (g := gN 6) (e := E1__law_plan) (vs := [6]) (k := 1)
    (P := fun _ t => t ∈ cs) (fun S' => iAny_tup (by simp)) (by omega) (fun i hi => ⟨_, rfl, (one_k (.inl rfl) hc hp hd hn).of fun S' => by simp [E1__law_plan, wipeE]⟩) q1 (by omega) (by omega)
  refine ⟨_, q2, ⟨l, l2, by rw [hl.length, hl0], by rw [hl2.length, g1], fun x hx => (hl.right x hx).elim fun _ h => h.2, fun x hx => (hl2.right x hx).elim fun _ h => h.2, rfl⟩, by omega, by omega, ?_⟩
  simp [D__law_plan, e1, e2, -nComp_e]
end
end Cm
end

section
set_option Elab.async false
set_option linter.all false
set_option maxRecDepth 100000
set_option maxHeartbeats 2000000
/-! Cmh: own lists anywhere in the store; enumerate, zip, tests that draw, dicts of pairs -/
namespace Cm
open PySem PySem.Spec L2 Mi
section
variable {S S' : Sto} {n : Nat} {p q : Int} {ds : List Int} {ρ : Mi.Env} {α β γ : Type}
theorem app_at {l : List T} {v : T} {fo fe : EM} (hS : S[n]? = some (.lst l)) (ho : fo ρ S = .ok (.obj n) S) (he : fe ρ S = .ok v S) (hl : l.length ≤ 100000) (hv : v.pure = true) : eApp fo fe ρ S = .ok .non (S.set n (.lst (l ++ [v]))) := by
  have e : lstOf S (.obj n) = some (n, l) := by
    unfold lstOf
    simp only [hS]
  have d : decide (l.length < line) = true := decide_eq_true (by show l.length < 16777216; omega)
  unfold eApp
  rw [ho]
  simp only [bind_ok, e, he, hv, d, Bool.and_self, Mi.if_true]
/-- the store behind a base: the first thing is a list that grows, the others may be anything -/
theorem set_mid {A J : Sto} {x y : MO} (h : n = A.length) : (A ++ x :: J).set n y = A ++ y :: J := by
  subst h
  simp
theorem get_mid {A J : Sto} {x : MO} (h : n = A.length) : (A ++ x :: J)[n]? = some x := by
  subst h
  simp
theorem get_end {A : Sto} {x : MO} (h : n = A.length) : (A ++ [x])[n]? = some x := get_mid (J := []) h
theorem set_end {A : Sto} {x y : MO} (h : n = A.length) : (A ++ [x]).set n y = A ++ [y] := set_mid (J := []) h
/-! ### what is walked -/
theorem enum_it {f : EM} {l : List T} (h : f ρ S = .ok (.lst l) S ∨ f ρ S = .ok (.tup l) S) : iEnumT f ρ S = .ok ⟨enumT l, fun _ => true⟩ S := by
  unfold iEnumT
  rcases h with h | h <;> rw [h] <;> rfl
theorem range2_n {f g : EM} {a b : Nat} (hf : f ρ S = .ok (nI a) S) (hg : g ρ S = .ok (nI b) S) (ha : a ≤ 100000) (hb : b ≤ 100000) : iRange2 f g ρ S = .ok ⟨(List.range (b - a)).map fun (i : Nat) => T.int ((a : Int) + i), fun _ => true⟩ S := by
  unfold iRange2
  rw [hf, bind_ok, hg, bind_ok]
  have d1 : smallI (a : Int) = true := by unfold smallI; rw [decide_eq_true (by omega), decide_eq_true (by omega)]; rfl
  have d2 : smallI (b : Int) = true := by unfold smallI; rw [decide_eq_true (by omega), decide_eq_true (by omega)]; rfl
  have e : ((b : Int) - a).toNat = b - a := by omega
  simp only [d1, d2, Bool.and_self, Mi.if_true, e, rangeT]
/-- a test that draws: a part of the list, in its order -/
theorem compQ_k {xs : List β} {h : β → T} {f : IM} {g : GM} {b : BM} {e : EM} {vs : List Nat} {k : Nat} (hf : ∀ S', f ρ S' = .ok ⟨xs.map h, fun _ => true⟩ S') (hl : xs.length ≤ 100000)
    (he : ∀ x ∈ xs, ∃ ρ1, g (h x) (wipeE ρ vs) = some ρ1 ∧ Tk S n (b ρ1) k (fun _ => True) ∧ ∀ S', e ρ1 S' = .ok (h x) S') : Tk S n (nComp f g b e vs ρ) (k * xs.length) (fun l => ∃ ys : List β, ys.Sublist xs ∧ l = ys.map h) := by
  have key : ∀ l : List β, (∀ x ∈ l, x ∈ xs) → Tk S n (compL (fun _ => true) g b e (wipeE ρ vs) (l.map h)) (k * l.length) (fun r => ∃ ys : List β, ys.Sublist l ∧ r = ys.map h) := by
    intro l
    induction l with
    | nil => exact fun _ p h0 h1 => ⟨[], p, ⟨[], .slnil, rfl⟩, by omega, by omega, rfl⟩
    | cons x l ih =>
      intro hx p h0 h1
      obtain ⟨ρ1, e1, tk, e2⟩ := he x (hx x (List.mem_cons_self ..))
      have hk : k * (x :: l).length = k * l.length + k := by rw [List.length_cons, Nat.mul_add, Nat.mul_one]
      rw [hk] at h1 ⊢
      obtain ⟨t, q, _, b0, c, d⟩ := tk p h0 (by omega)
      obtain ⟨r, q', ⟨ys, a', er⟩, b', c', d'⟩ := ih (fun y hy => hx y (List.mem_cons_of_mem _ hy)) q (by omega) (by omega)
      subst er
      have un : compL (fun _ => true) g b e (wipeE ρ vs) ((x :: l).map h) (Sp S n p) = (match t with
        | true => (e ρ1 (Sp S n q)).calm.bind fun y S2 => (compL (fun _ => true) g b e (wipeE ρ vs) (l.map h) S2).bind fun ys S3 => .ok (y :: ys) S3
        | false => compL (fun _ => true) g b e (wipeE ρ vs) (l.map h) (Sp S n q)) := by
        show R.if true (match g (h x) (wipeE ρ vs) with
          | some ρ1 => _
          | none => _) = _
        rw [e1]
        simp only [Mi.if_true, d, calm_ok, bind_ok]
        cases t <;> rfl
      cases t with
      | true => exact ⟨_, q', ⟨x :: ys, a'.cons₂ x, rfl⟩, by omega, by omega, by rw [un]; simp only [e2, calm_ok, bind_ok, d', List.map_cons]⟩
      | false => exact ⟨_, q', ⟨ys, a'.cons x, rfl⟩, by omega, by omega, by rw [un]; exact d'⟩
  refine (key xs fun x hx => hx).of fun S' => ?_
  rw [nComp_e, hf, bind_ok]
  have : decide ((xs.map h).length ≤ line) = true := decide_eq_true (by rw [List.length_map]; show xs.length ≤ 16777216; omega)
  simp only [this, Mi.if_true]
end
end Cm
end

section
set_option Elab.async false
set_option linter.all false
set_option maxRecDepth 100000
set_option maxHeartbeats 2000000
namespace L61
open PySem PySem.Spec L2 Mi Cm
def MT : Mt := { nums := [("MAX_ENDS", 24), ("MAX_PICKS", 24), ("MAX_STACK", 4)], frees := ["ValueError", "abs", "all", "bool", "enumerate", "int", "isinstance", "len", "max", "range", "repr", "tuple", "zip"], sup := [("WeaveError", ["WeaveError"]), ("ReasonError", ["ReasonError", "WeaveError"]), ("ClothError", ["ClothError", "ReasonError", "WeaveError"]), ("ArgumentError", ["ArgumentError", "ReasonError", "WeaveError"]), ("TooMany", ["TooMany", "ReasonError", "WeaveError"])], rsn := ["ArgumentError", "ClothError", "TooMany"], ini := "ReasonError", fld := "reason", muts := ["draws", "at", "bits", "rows", "row", "cloths", "stitches"], dts := ["known"], lks := [] }
/-- _law_cloth(picks, ends, draws, at): 0 picks 1 ends 2 draws 3 at 4 kind 5 row 6 step 7 rows 8 columns 9 chosen 10 plain 11 k 12 e 13 p 14 column -/
noncomputable def E1__law_cloth : EM := eCall F__law_bits 3 [] (aCons (eVar 1) (aCons (eVar 2) (aCons (eVar 3) aNil)))
noncomputable def E3__law_cloth : EM := e2 modT (eB fInt (aCons (e2 addL (e2 addL (eVar 13) (eVar 12)) (eVar 10)) aNil)) (eC (.int 2))
noncomputable def E2__law_cloth : EM := eB fTup (aCons (eFrz (nComp (iRange1 (eVar 1)) (gN 12) bYes E3__law_cloth [12])) aNil)
noncomputable def E5__law_cloth : EM := e2 ixA (eVar 14) (eVar 13)
noncomputable def E4__law_cloth : EM := eB fTup (aCons (eFrz (nComp (iAny (eVar 9)) (gN 14) bYes E5__law_cloth [14])) aNil)
noncomputable def E6__law_cloth : EM := eCall F__law_one 3 [] (aCons (eVar 8) (aCons (eVar 2) (aCons (eVar 3) aNil)))
noncomputable def E7__law_cloth : EM := eCall F__law_bits 3 [] (aCons (eVar 0) (aCons (eVar 2) (aCons (eVar 3) aNil)))
noncomputable def E8__law_cloth : EM := e2 ixA (eVar 7) (eCall F__law_take 3 [] (aCons (eVar 2) (aCons (eVar 3) (aCons (eC (.int 2)) aNil))))
noncomputable def E9__law_cloth : EM := eCall F__law_bits 3 [] (aCons (eVar 1) (aCons (eVar 2) (aCons (eVar 3) aNil)))
noncomputable def E11__law_cloth : EM := e2 ixA (eVar 5) (e2 modT (eB fInt (aCons (e2 addL (eVar 12) (e2 mulL (eVar 13) (eVar 6))) aNil)) (eVar 1))
noncomputable def E10__law_cloth : EM := eB fTup (aCons (eFrz (nComp (iRange1 (eVar 1)) (gN 12) bYes E11__law_cloth [12])) aNil)
noncomputable def D__law_cloth : SM := sSeq (sSet 4 (eCall F__law_take 3 [] (aCons (eVar 2) (aCons (eVar 3) (aCons (eC (.int 7)) aNil)))))
  (sSeq (sIf (bVal (e2 eqA (eVar 4) (eC (.int 0)))) (sSeq (sSet 5 (eCall F__law_bits 3 [] (aCons (eVar 1) (aCons (eVar 2) (aCons (eVar 3) aNil)))))
  (sSeq (sSet 6 (eCall F__law_take 3 [] (aCons (eVar 2) (aCons (eVar 3) (aCons (eVar 1) aNil)))))
  (sSeq (sRet (eB fTup (aCons (eFrz (nComp (iRange1 (eVar 0)) (gN 13) bYes E10__law_cloth [13])) aNil)))
  sNil))) sNil)
  (sSeq (sIf (bVal (e2 eqA (eVar 4) (eC (.int 1)))) (sSeq (sSet 7 (eKeep true (nComp (iRange1 (eC (.int 2))) (gN 11) bYes E9__law_cloth [11])))
  (sSeq (sRet (eB fTup (aCons (eFrz (nComp (iRange1 (eVar 0)) (gN 13) bYes E8__law_cloth [13])) aNil)))
  sNil)) sNil)
  (sSeq (sIf (bVal (e2 eqA (eVar 4) (eC (.int 2)))) (sSeq (sSet 8 (eKeep false (nComp (iRange1 (eC (.int 3))) (gN 11) bYes E7__law_cloth [11])))
  (sSeq (sSet 9 (eKeep false (nComp (iRange1 (eVar 1)) (gN 12) bYes E6__law_cloth [12])))
  (sSeq (sRet (eB fTup (aCons (eFrz (nComp (iRange1 (eVar 0)) (gN 13) bYes E4__law_cloth [13])) aNil)))
  sNil))) sNil)
  (sSeq (sIf (bVal (e2 eqA (eVar 4) (eC (.int 3)))) (sSeq (sSet 10 (eCall F__law_take 3 [] (aCons (eVar 2) (aCons (eVar 3) (aCons (eC (.int 2)) aNil)))))
  (sSeq (sRet (eB fTup (aCons (eFrz (nComp (iRange1 (eVar 0)) (gN 13) bYes E2__law_cloth [13])) aNil)))
  sNil)) sNil)
  (sSeq (sRet (eB fTup (aCons (eFrz (nComp (iRange1 (eVar 0)) (gN 13) bYes E1__law_cloth [13])) aNil)))
  sNil)))))
noncomputable def F__law_cloth : FM := fnOf 15 D__law_cloth
/-- _law_stacked(cloths): 0 cloths 1 many 2 rows 3 p 4 row 5 e 6 upper 7 lower -/
noncomputable def B2__law_stacked : SM := sSeq (sPar 6 7 (aCons (e2 modT (eB fInt (aCons (eVar 5) aNil)) (eVar 1)) (aCons (e2 modT (eB fInt (aCons (eVar 3) aNil)) (eVar 1)) aNil)))
  (sSeq (sIf (bVal (e2 eqA (eVar 6) (eVar 7))) (sSeq (sDrop (eApp (eVar 4) (e2 ixA (e2 ixA (e2 ixA (eVar 0) (eVar 6)) (e2 fdivT (eVar 3) (eVar 1))) (e2 fdivT (eVar 5) (eVar 1)))))
  sNil) (sSeq (sDrop (eApp (eVar 4) (eB fInt (aCons (e2 ltA (eVar 6) (eVar 7)) aNil))))
  sNil))
  sNil)
noncomputable def B1__law_stacked : SM := sSeq (sSet 4 (eKeep true (nLst aNil)))
  (sSeq (sFor (iRange1 (e2 mulL (eB fLen (aCons (e2 ixA (e2 ixA (eVar 0) (eC (.int 0))) (eC (.int 0))) aNil)) (eVar 1))) (gN 5) B2__law_stacked)
  (sSeq (sDrop (eApp (eVar 2) (eB fTup (aCons (eVar 4) aNil))))
  sNil))
noncomputable def D__law_stacked : SM := sSeq (sSet 1 (eB fLen (aCons (eVar 0) aNil)))
  (sSeq (sSet 2 (eKeep true (nLst aNil)))
  (sSeq (sFor (iRange1 (e2 mulL (eB fLen (aCons (e2 ixA (eVar 0) (eC (.int 0))) aNil)) (eVar 1))) (gN 3) B1__law_stacked)
  (sSeq (sRet (eB fTup (aCons (eVar 2) aNil)))
  sNil)))
noncomputable def F__law_stacked : FM := fnOf 8 D__law_stacked
/-- _law_turned(cloth, places): 0 cloth 1 places 2 p 3 e -/
noncomputable def E2__law_turned : EM := eIf (bVal (e2 (inD id) (eTup (aCons (eVar 2) (aCons (eVar 3) aNil))) (eVar 1))) (e2 subT (eC (.int 1)) (e2 ixA (e2 ixA (eVar 0) (eVar 2)) (eVar 3))) (e2 ixA (e2 ixA (eVar 0) (eVar 2)) (eVar 3))
noncomputable def E1__law_turned : EM := eB fTup (aCons (eFrz (nComp (iRange1 (eB fLen (aCons (e2 ixA (eVar 0) (eC (.int 0))) aNil))) (gN 3) bYes E2__law_turned [3])) aNil)
noncomputable def D__law_turned : SM := sSeq (sRet (eB fTup (aCons (eFrz (nComp (iRange1 (eB fLen (aCons (eVar 0) aNil))) (gN 2) bYes E1__law_turned [2])) aNil)))
  sNil
noncomputable def F__law_turned : FM := fnOf 4 D__law_turned
/-- _law_between(cloth, many): 0 cloth 1 many 2 found 3 p 4 e -/
noncomputable def Q2__law_between : BM := bVal (e2 neA (e2 modT (eB fInt (aCons (eVar 3) aNil)) (eVar 1)) (e2 modT (eB fInt (aCons (eVar 4) aNil)) (eVar 1)))
noncomputable def E2__law_between : EM := eTup (aCons (eVar 3) (aCons (eVar 4) aNil))
noncomputable def B1__law_between : SM := sSeq (sSet 2 (e2 addL (eVar 2) (eFrz (nComp (iRange1 (eB fLen (aCons (e2 ixA (eVar 0) (eC (.int 0))) aNil))) (gN 4) Q2__law_between E2__law_between [4]))))
  sNil
noncomputable def D__law_between : SM := sSeq (sSet 2 (eFrz (nLst aNil)))
  (sSeq (sFor (iRange1 (eB fLen (aCons (eVar 0) aNil))) (gN 3) B1__law_between)
  (sSeq (sRet (eVar 2))
  sNil))
noncomputable def F__law_between : FM := fnOf 5 D__law_between
/-- _law_unstacked(cloth, many): 0 cloth 1 many 2 cloths 3 j 4 plain 5 rows 6 p 7 row 8 e -/
noncomputable def Q1__law_unstacked : BM := bVal (e2 neA (e2 ixA (e2 ixA (eVar 4) (eVar 6)) (eVar 8)) (e2 ixA (e2 ixA (eVar 0) (eVar 6)) (eVar 8)))
noncomputable def E1__law_unstacked : EM := eTup (aCons (eVar 6) (aCons (eVar 8) aNil))
noncomputable def Q4__law_unstacked : BM := bVal (e2 eqA (e2 modT (eB fInt (aCons (eVar 8) aNil)) (eVar 1)) (eVar 3))
noncomputable def E4__law_unstacked : EM := e2 ixA (eVar 7) (eVar 8)
noncomputable def E3__law_unstacked : EM := eB fTup (aCons (eFrz (nComp (iRange1 (eB fLen (aCons (eVar 7) aNil))) (gN 8) Q4__law_unstacked E4__law_unstacked [8])) aNil)
noncomputable def Q5__law_unstacked : BM := bVal (e2 eqA (e2 modT (eB fInt (aCons (eVar 6) aNil)) (eVar 1)) (eVar 3))
noncomputable def E5__law_unstacked : EM := e2 ixA (eVar 0) (eVar 6)
noncomputable def B2__law_unstacked : SM := sSeq (sSet 5 (eKeep true (nComp (iRange1 (eB fLen (aCons (eVar 0) aNil))) (gN 6) Q5__law_unstacked E5__law_unstacked [6])))
  (sSeq (sDrop (eApp (eVar 2) (eB fTup (aCons (eFrz (nComp (iAny (eVar 5)) (gN 7) bYes E3__law_unstacked [7])) aNil))))
  sNil)
noncomputable def D__law_unstacked : SM := sSeq (sSet 2 (eKeep true (nLst aNil)))
  (sSeq (sFor (iRange1 (eVar 1)) (gN 3) B2__law_unstacked)
  (sSeq (sSet 4 (eCall F__law_stacked 1 [] (aCons (eB fTup (aCons (eVar 2) aNil)) aNil)))
  (sSeq (sRet (eTup (aCons (eB fTup (aCons (eVar 2) aNil)) (aCons (eB fTup (aCons (eFrz (nComp (iAny (eCall F__law_between 2 [] (aCons (eVar 0) (aCons (eVar 1) aNil)))) (gTupM 2 (gsCons (gN 6) (gsCons (gN 8) gsNil))) Q1__law_unstacked E1__law_unstacked [6, 8])) aNil)) aNil))))
  sNil)))
noncomputable def F__law_unstacked : FM := fnOf 9 D__law_unstacked
/-- _law_loosest(cloth): 0 cloth 1 best 2 many -/
noncomputable def B1__law_loosest : SM := sSeq (sIf (bAnd (bVal (e2 eqA (e2 modT (eB fInt (aCons (eB fLen (aCons (eVar 0) aNil)) aNil)) (eVar 2)) (eC (.int 0)))) (bAnd (bVal (e2 eqA (e2 modT (eB fInt (aCons (eB fLen (aCons (e2 ixA (eVar 0) (eC (.int 0))) aNil)) aNil)) (eVar 2)) (eC (.int 0)))) (bVal (e2 eqA (e2 ixA (eCall F__law_unstacked 2 [] (aCons (eVar 0) (aCons (eVar 2) aNil))) (eC (.int 1))) (eTup aNil))))) (sSeq (sSet 1 (eVar 2))
  sNil) sNil)
  sNil
noncomputable def D__law_loosest : SM := sSeq (sSet 1 (eC (.int 1)))
  (sSeq (sFor (iRange2 (eC (.int 2)) (eC (.int 5))) (gN 2) B1__law_loosest)
  (sSeq (sRet (eVar 1))
  sNil))
noncomputable def F__law_loosest : FM := fnOf 3 D__law_loosest
/-- _law_folded(cloth): 0 cloth 1 half 2 upper 3 lower 4 row 5 part -/
noncomputable def E2__law_folded : EM := e2 subT (eC (.int 1)) (eVar 5)
noncomputable def E1__law_folded : EM := eB fTup (aCons (eRevA (eFrz (nComp (iAny (eCut (eVar 4) (oSome (eVar 1)) oNone)) (gN 5) bYes E2__law_folded [5]))) aNil)
noncomputable def E3__law_folded : EM := eCut (eVar 4) oNone (oSome (eVar 1))
noncomputable def D__law_folded : SM := sSeq (sSet 1 (e2 fdivT (eB fLen (aCons (e2 ixA (eVar 0) (eC (.int 0))) aNil)) (eC (.int 2))))
  (sSeq (sSet 2 (eB fTup (aCons (eFrz (nComp (iAny (eVar 0)) (gN 4) bYes E3__law_folded [4])) aNil)))
  (sSeq (sSet 3 (eB fTup (aCons (eFrz (nComp (iAny (eVar 0)) (gN 4) bYes E1__law_folded [4])) aNil)))
  (sSeq (sRet (eCall F__law_stacked 1 [] (aCons (eTup (aCons (eVar 2) (aCons (eVar 3) aNil))) aNil)))
  sNil)))
noncomputable def F__law_folded : FM := fnOf 6 D__law_folded
/-- is_cloth(value): 0 value -/
noncomputable def D_is_cloth : SM := sSeq (sTryV 1 (MT.gx []).xn (sSeq (sDrop (eCall F_check_cloth 1 [] (aCons (eVar 0) aNil)))
  sNil) [("ClothError", none, MT.above "ClothError", xC (.bl false))])
  (sSeq (sRet (eC (.bl true)))
  sNil)
noncomputable def F_is_cloth : FM := fnOf 1 D_is_cloth
/-- demand_cloths(cloths): 0 cloths 1 one -/
noncomputable def E1_demand_cloths : EM := e2 eqA (eCall F_size_of 1 [] (aCons (eVar 1) aNil)) (eCall F_size_of 1 [] (aCons (e2 ixA (eVar 0) (eC (.int 0))) aNil))
noncomputable def E2_demand_cloths : EM := eCall F_is_cloth 1 [] (aCons (eVar 1) aNil)
noncomputable def D_demand_cloths : SM := sSeq (sIf (bOr (bNot (bTru (eIs "tuple" (eVar 0)))) (bOr (bNot (bVal (eChain leT leT (eC (.int 1)) (eB fLen (aCons (eVar 0) aNil)) (eC (.int 4))))) (bNot (bTru (eB fAll (aCons (eFrz (nComp (iAny (eVar 0)) (gN 1) bYes E2_demand_cloths [1])) aNil)))))) (sSeq (sRaise "ArgumentError" "reason" (eC (.str "cloths")))
  sNil) sNil)
  (sSeq (sIf (bNot (bTru (eB fAll (aCons (eFrz (nComp (iAny (eVar 0)) (gN 1) bYes E1_demand_cloths [1])) aNil)))) (sSeq (sRaise "ArgumentError" "reason" (eC (.str "cloths")))
  sNil) sNil)
  sNil)
noncomputable def F_demand_cloths : FM := fnOf 2 D_demand_cloths
/-- crossing(cloths, pick, end): 0 cloths 1 pick 2 end 3 count 4 upper 5 lower -/
noncomputable def D_crossing : SM := sSeq (sSet 3 (eB fLen (aCons (eVar 0) aNil)))
  (sSeq (sPar 4 5 (aCons (e2 modT (eVar 2) (eVar 3)) (aCons (e2 modT (eVar 1) (eVar 3)) aNil)))
  (sSeq (sIf (bVal (e2 eqA (eVar 4) (eVar 5))) (sSeq (sRet (e2 ixA (e2 ixA (e2 ixA (eVar 0) (eVar 4)) (e2 fdivT (eVar 1) (eVar 3))) (e2 fdivT (eVar 2) (eVar 3))))
  sNil) sNil)
  (sSeq (sRet (eIf (bVal (e2 ltA (eVar 4) (eVar 5))) (eC (.int 1)) (eC (.int 0))))
  sNil)))
noncomputable def F_crossing : FM := fnOf 6 D_crossing
/-- stacked_of(cloths): 0 cloths 1 count 2 rows 3 pick 4 picks 5 ends 6 end -/
noncomputable def E2_stacked_of : EM := eCall F_crossing 3 [] (aCons (eVar 0) (aCons (eVar 3) (aCons (eVar 6) aNil)))
noncomputable def B1_stacked_of : SM := sSeq (sDrop (eApp (eVar 2) (eB fTup (aCons (eFrz (nComp (iRange1 (e2 mulL (eVar 5) (eVar 1))) (gN 6) bYes E2_stacked_of [6])) aNil))))
  sNil
noncomputable def D_stacked_of : SM := sSeq (sAsg (gTupM 2 (gsCons (gN 4) (gsCons (gN 5) gsNil))) (eCall F_size_of 1 [] (aCons (e2 ixA (eVar 0) (eC (.int 0))) aNil)))
  (sSeq (sSet 1 (eB fLen (aCons (eVar 0) aNil)))
  (sSeq (sSet 2 (eKeep true (nLst aNil)))
  (sSeq (sFor (iRange1 (e2 mulL (eVar 4) (eVar 1))) (gN 3) B1_stacked_of)
  (sSeq (sRet (eB fTup (aCons (eVar 2) aNil)))
  sNil))))
noncomputable def F_stacked_of : FM := fnOf 7 D_stacked_of
/-- demand_size(cloths): 0 cloths 1 picks 2 ends -/
noncomputable def D_demand_size : SM := sSeq (sAsg (gTupM 2 (gsCons (gN 1) (gsCons (gN 2) gsNil))) (eCall F_size_of 1 [] (aCons (e2 ixA (eVar 0) (eC (.int 0))) aNil)))
  (sSeq (sIf (bOr (bVal (e2 gtT (e2 mulL (eVar 1) (eB fLen (aCons (eVar 0) aNil))) (eC (.int 24)))) (bVal (e2 gtT (e2 mulL (eVar 2) (eB fLen (aCons (eVar 0) aNil))) (eC (.int 24))))) (sSeq (sRaise "TooMany" "reason" (eC (.str "size")))
  sNil) sNil)
  sNil)
noncomputable def F_demand_size : FM := fnOf 3 D_demand_size
/-- stacked(cloths): 0 cloths -/
noncomputable def D_stacked : SM := sSeq (sDrop (eCall F_demand_cloths 1 [] (aCons (eVar 0) aNil)))
  (sSeq (sDrop (eCall F_demand_size 1 [] (aCons (eVar 0) aNil)))
  (sSeq (sRet (eCall F_stacked_of 1 [] (aCons (eVar 0) aNil)))
  sNil))
noncomputable def F_stacked : FM := fnOf 1 D_stacked
/-- is_stitch(value, cloths): 0 value 1 cloths 2 count 3 picks 4 ends 5 part -/
noncomputable def E1_is_stitch : EM := eCall F_is_integer 1 [] (aCons (eVar 5) aNil)
noncomputable def D_is_stitch : SM := sSeq (sIf (bOr (bNot (bTru (eIs "tuple" (eVar 0)))) (bOr (bVal (e2 neA (eB fLen (aCons (eVar 0) aNil)) (eC (.int 2)))) (bNot (bTru (eB fAll (aCons (eFrz (nComp (iAny (eVar 0)) (gN 5) bYes E1_is_stitch [5])) aNil)))))) (sSeq (sRet (eC (.bl false)))
  sNil) sNil)
  (sSeq (sAsg (gTupM 2 (gsCons (gN 3) (gsCons (gN 4) gsNil))) (eCall F_size_of 1 [] (aCons (e2 ixA (eVar 1) (eC (.int 0))) aNil)))
  (sSeq (sSet 2 (eB fLen (aCons (eVar 1) aNil)))
  (sSeq (sIf (bOr (bNot (bVal (eChain leT ltA (eC (.int 0)) (e2 ixA (eVar 0) (eC (.int 0))) (e2 mulL (eVar 3) (eVar 2))))) (bNot (bVal (eChain leT ltA (eC (.int 0)) (e2 ixA (eVar 0) (eC (.int 1))) (e2 mulL (eVar 4) (eVar 2)))))) (sSeq (sRet (eC (.bl false)))
  sNil) sNil)
  (sSeq (sRet (e2 neA (e2 modT (e2 ixA (eVar 0) (eC (.int 0))) (eVar 2)) (e2 modT (e2 ixA (eVar 0) (eC (.int 1))) (eVar 2))))
  sNil))))
noncomputable def F_is_stitch : FM := fnOf 6 D_is_stitch
/-- stitched(cloths, stitches): 0 cloths 1 stitches 2 known 3 rows 4 pick 5 row 6 stitch 7 first 8 second 9 end 10 part -/
noncomputable def E2_stitched : EM := eIf (bVal (e2 (inD id) (eTup (aCons (eVar 4) (aCons (eVar 9) aNil))) (eVar 2))) (e2 subT (eC (.int 1)) (eVar 10)) (eVar 10)
noncomputable def B1_stitched : SM := sSeq (sDrop (eApp (eVar 3) (eB fTup (aCons (eFrz (nComp (iEnumT (eVar 5)) (gTupM 2 (gsCons (gN 9) (gsCons (gN 10) gsNil))) bYes E2_stitched [9, 10])) aNil))))
  sNil
noncomputable def E3_stitched : EM := e2 ltA (eVar 7) (eVar 8)
noncomputable def E4_stitched : EM := eCall F_is_stitch 2 [] (aCons (eVar 6) (aCons (eVar 0) aNil))
noncomputable def D_stitched : SM := sSeq (sDrop (eCall F_demand_cloths 1 [] (aCons (eVar 0) aNil)))
  (sSeq (sIf (bOr (bNot (bTru (eIs "tuple" (eVar 1)))) (bNot (bTru (eB fAll (aCons (eFrz (nComp (iAny (eVar 1)) (gN 6) bYes E4_stitched [6])) aNil))))) (sSeq (sRaise "ArgumentError" "reason" (eC (.str "stitches")))
  sNil) sNil)
  (sSeq (sIf (bNot (bTru (eB fAll (aCons (eFrz (nComp (iZipT (aCons (eCut (eVar 1) oNone (oSome (e1 negT (eC (.int 1))))) (aCons (eCut (eVar 1) (oSome (eC (.int 1))) oNone) aNil))) (gTupM 2 (gsCons (gN 7) (gsCons (gN 8) gsNil))) bYes E3_stitched [7, 8])) aNil)))) (sSeq (sRaise "ArgumentError" "reason" (eC (.str "stitches")))
  sNil) sNil)
  (sSeq (sDrop (eCall F_demand_size 1 [] (aCons (eVar 0) aNil)))
  (sSeq (sSet 2 (eDq true (iAny (eVar 1)) (gN 6) 6 (.bl true) [6]))
  (sSeq (sSet 3 (eKeep true (nLst aNil)))
  (sSeq (sFor (iEnumT (eCall F_stacked_of 1 [] (aCons (eVar 0) aNil))) (gTupM 2 (gsCons (gN 4) (gsCons (gN 5) gsNil))) B1_stitched)
  (sSeq (sRet (eB fTup (aCons (eVar 3) aNil)))
  sNil)))))))
noncomputable def F_stitched : FM := fnOf 11 D_stitched
/-- unstacked(cloth, count): 0 cloth 1 count 2 cloths 3 stitches 4 pick 5 row 6 place 7 end 8 part -/
noncomputable def Q2_unstacked : BM := bVal (e2 neA (e2 ixA (e2 ixA (eVar 0) (eVar 4)) (eVar 7)) (eVar 8))
noncomputable def E2_unstacked : EM := eTup (aCons (eVar 4) (aCons (eVar 7) aNil))
noncomputable def B1_unstacked : SM := sSeq (sAug 3 iaddT (eFrz (nComp (iEnumT (eVar 5)) (gTupM 2 (gsCons (gN 7) (gsCons (gN 8) gsNil))) Q2_unstacked E2_unstacked [7, 8])))
  sNil
noncomputable def E4_unstacked : EM := eStep (eVar 5) (oSome (eVar 6)) oNone (oSome (eVar 1))
noncomputable def E3_unstacked : EM := eB fTup (aCons (eFrz (nComp (iAny (eStep (eVar 0) (oSome (eVar 6)) oNone (oSome (eVar 1)))) (gN 5) bYes E4_unstacked [5])) aNil)
noncomputable def D_unstacked : SM := sSeq (sDrop (eCall F_check_cloth 1 [] (aCons (eVar 0) aNil)))
  (sSeq (sIf (bOr (bNot (bTru (eCall F_is_integer 1 [] (aCons (eVar 1) aNil)))) (bOr (bNot (bVal (eChain leT leT (eC (.int 1)) (eVar 1) (eC (.int 4))))) (bOr (bVal (e2 neA (e2 modT (eB fLen (aCons (eVar 0) aNil)) (eVar 1)) (eC (.int 0)))) (bVal (e2 neA (e2 modT (eB fLen (aCons (e2 ixA (eVar 0) (eC (.int 0))) aNil)) (eVar 1)) (eC (.int 0))))))) (sSeq (sRaise "ArgumentError" "reason" (eC (.str "count")))
  sNil) sNil)
  (sSeq (sSet 2 (eB fTup (aCons (eFrz (nComp (iRange1 (eVar 1)) (gN 6) bYes E3_unstacked [6])) aNil)))
  (sSeq (sSet 3 (eKeep true (nLst aNil)))
  (sSeq (sFor (iEnumT (eCall F_stacked_of 1 [] (aCons (eVar 2) aNil))) (gTupM 2 (gsCons (gN 4) (gsCons (gN 5) gsNil))) B1_unstacked)
  (sSeq (sRet (eTup (aCons (eVar 2) (aCons (eB fTup (aCons (eVar 3) aNil)) aNil))))
  sNil)))))
noncomputable def F_unstacked : FM := fnOf 9 D_unstacked
/-- loosest(cloth): 0 cloth 1 counts 2 count -/
noncomputable def Q1_loosest : BM := bVal (e2 eqA (e2 ixA (eCall F_unstacked 2 [] (aCons (eVar 0) (aCons (eVar 2) aNil))) (eC (.int 1))) (eTup aNil))
noncomputable def Q2_loosest : BM := bAnd (bVal (e2 eqA (e2 modT (eB fLen (aCons (eVar 0) aNil)) (eVar 2)) (eC (.int 0)))) (bVal (e2 eqA (e2 modT (eB fLen (aCons (e2 ixA (eVar 0) (eC (.int 0))) aNil)) (eVar 2)) (eC (.int 0))))
noncomputable def D_loosest : SM := sSeq (sDrop (eCall F_check_cloth 1 [] (aCons (eVar 0) aNil)))
  (sSeq (sSet 1 (eKeep false (nComp (iRange2 (eC (.int 1)) (e2 addL (eC (.int 4)) (eC (.int 1)))) (gN 2) Q2_loosest (eVar 2) [2])))
  (sSeq (sRet (eB fMax (aCons (eFrz (nComp (iAny (eVar 1)) (gN 2) Q1_loosest (eVar 2) [2])) aNil)))
  sNil))
noncomputable def F_loosest : FM := fnOf 3 D_loosest
/-- folded(cloth): 0 cloth 1 half 2 upper 3 lower 4 row 5 part -/
noncomputable def E2_folded : EM := e2 subT (eC (.int 1)) (eVar 5)
noncomputable def E1_folded : EM := eB fTup (aCons (eFrz (nComp (iAny (eRevA (eCut (eVar 4) (oSome (eVar 1)) oNone))) (gN 5) bYes E2_folded [5])) aNil)
noncomputable def E3_folded : EM := eCut (eVar 4) oNone (oSome (eVar 1))
noncomputable def D_folded : SM := sSeq (sDrop (eCall F_check_cloth 1 [] (aCons (eVar 0) aNil)))
  (sSeq (sIf (bOr (bVal (e2 neA (e2 modT (eB fLen (aCons (e2 ixA (eVar 0) (eC (.int 0))) aNil)) (eC (.int 2))) (eC (.int 0)))) (bVal (e2 gtT (e2 mulL (eB fLen (aCons (eVar 0) aNil)) (eC (.int 2))) (eC (.int 24))))) (sSeq (sRaise "ArgumentError" "reason" (eC (.str "cloth")))
  sNil) sNil)
  (sSeq (sSet 1 (e2 fdivT (eB fLen (aCons (e2 ixA (eVar 0) (eC (.int 0))) aNil)) (eC (.int 2))))
  (sSeq (sSet 2 (eB fTup (aCons (eFrz (nComp (iAny (eVar 0)) (gN 4) bYes E3_folded [4])) aNil)))
  (sSeq (sSet 3 (eB fTup (aCons (eFrz (nComp (iAny (eVar 0)) (gN 4) bYes E1_folded [4])) aNil)))
  (sSeq (sRet (eCall F_stacked_of 1 [] (aCons (eTup (aCons (eVar 2) (aCons (eVar 3) aNil))) aNil)))
  sNil)))))
noncomputable def F_folded : FM := fnOf 6 D_folded
/-- _law_told(which, first, second): 0 which 1 first 2 second 3 e -/
noncomputable def D__law_told : SM := sSeq (sTryV 4 (MT.gx []).xn (sSeq (sIf (bVal (e2 eqA (eVar 0) (eC (.int 0)))) (sSeq (sRet (eCall F_stacked 1 [] (aCons (eVar 1) aNil)))
  sNil) sNil)
  (sSeq (sIf (bVal (e2 eqA (eVar 0) (eC (.int 1)))) (sSeq (sRet (eCall F_stitched 2 [] (aCons (eVar 1) (aCons (eVar 2) aNil))))
  sNil) sNil)
  (sSeq (sIf (bVal (e2 eqA (eVar 0) (eC (.int 2)))) (sSeq (sRet (eCall F_unstacked 2 [] (aCons (eVar 1) (aCons (eVar 2) aNil))))
  sNil) sNil)
  (sSeq (sRet (eIf (bVal (e2 eqA (eVar 0) (eC (.int 3)))) (eCall F_loosest 1 [] (aCons (eVar 1) aNil)) (eCall F_folded 1 [] (aCons (eVar 1) aNil))))
  sNil)))) [("WeaveError", some 3, MT.above "WeaveError", (xIf (xIsi (MT.above "TooMany")) (xTup (xCons (xC (.str "many")) (xCons (xFld "reason") xNil))) (xIf (xIsi (MT.above "ArgumentError")) (xTup (xCons (xC (.str "argument")) (xCons (xFld "reason") xNil))) (xTup (xCons (xC (.str "cloth")) (xCons (xIsi (MT.above "ClothError")) xNil))))))])
  sNil
noncomputable def F__law_told : FM := fnOf 4 D__law_told
/-- law(script): 0 script 1 draws 2 at 3 many 4 cloths 5 large 6 between 7 places 8 any_cloth 9 cloth 10 odd 11 rows 12 bad 13 ill 14 picks 15 ends 16 wide 17 due 18 k 19 place 20 which -/
noncomputable def E1_law : EM := eCall F__law_told 3 [] (aCons (eVar 20) (aCons (eVar 13) (aCons (eVar 12) aNil)))
noncomputable def B2_law : SM := sSeq (sIf (bOr (bNot (bTru (eCall F__law_same_as 2 [] (aCons (eCall F__law_told 3 [] (aCons (eC (.int 2)) (aCons (eVar 9) (aCons (eVar 3) aNil)))) (aCons (eCall F__law_unstacked 2 [] (aCons (eVar 9) (aCons (eVar 3) aNil))) aNil))))) (bNot (bTru (eCall F__law_same_as 2 [] (aCons (eCall F__law_told 3 [] (aCons (eC (.int 3)) (aCons (eVar 9) (aCons (eC .non) aNil)))) (aCons (eCall F__law_loosest 1 [] (aCons (eVar 9) aNil)) aNil)))))) (sSeq (sRet (eC (.bl false)))
  sNil) sNil)
  (sSeq (sSet 16 (eB fLen (aCons (e2 ixA (eVar 9) (eC (.int 0))) aNil)))
  (sSeq (sSet 17 (eIf (bOr (bVal (e2 eqA (e2 modT (eB fInt (aCons (eVar 16) aNil)) (eC (.int 2))) (eC (.int 1)))) (bVal (e2 gtT (eB fLen (aCons (eVar 9) aNil)) (eC (.int 12))))) (eTup (aCons (eC (.str "argument")) (aCons (eC (.str "cloth")) aNil))) (eCall F__law_folded 1 [] (aCons (eVar 9) aNil))))
  (sSeq (sIf (bNot (bTru (eCall F__law_same_as 2 [] (aCons (eCall F__law_told 3 [] (aCons (eC (.int 4)) (aCons (eVar 9) (aCons (eC .non) aNil)))) (aCons (eVar 17) aNil))))) (sSeq (sRet (eC (.bl false)))
  sNil) sNil)
  sNil)))
noncomputable def Q3_law : BM := bVal (e2 eqA (eCall F__law_take 3 [] (aCons (eVar 1) (aCons (eVar 2) (aCons (eC (.int 6)) aNil)))) (eC (.int 0)))
noncomputable def E4_law : EM := eCall F__law_cloth 4 [] (aCons (eVar 14) (aCons (eVar 15) (aCons (eVar 1) (aCons (eVar 2) aNil))))
noncomputable def D_law : SM := sSeq (sSet 1 (eCall F__law_draws 1 [] (aCons (eVar 0) aNil)))
  (sSeq (sSet 2 (eKeep true (nLst (aCons (eC (.int 0)) aNil))))
  (sSeq (sSet 3 (e2 addL (eC (.int 1)) (eCall F__law_take 3 [] (aCons (eVar 1) (aCons (eVar 2) (aCons (eC (.int 4)) aNil))))))
  (sSeq (sAsg (gTupM 2 (gsCons (gN 14) (gsCons (gN 15) gsNil))) (eTup (aCons (e2 addL (eC (.int 1)) (eCall F__law_take 3 [] (aCons (eVar 1) (aCons (eVar 2) (aCons (eC (.int 6)) aNil))))) (aCons (e2 addL (eC (.int 1)) (eCall F__law_take 3 [] (aCons (eVar 1) (aCons (eVar 2) (aCons (eC (.int 6)) aNil))))) aNil))))
  (sSeq (sIf (bVal (e2 eqA (eCall F__law_take 3 [] (aCons (eVar 1) (aCons (eVar 2) (aCons (eC (.int 8)) aNil)))) (eC (.int 0)))) (sSeq (sSet 14 (eC (.int 13)))
  sNil) sNil)
  (sSeq (sSet 4 (eB fTup (aCons (eFrz (nComp (iRange1 (eVar 3)) (gN 18) bYes E4_law [18])) aNil)))
  (sSeq (sIf (bVal (e2 gtT (e2 mulL (eVar 14) (eVar 3)) (eC (.int 24)))) (sSeq (sRet (eAnd (e2 eqA (eCall F__law_told 3 [] (aCons (eC (.int 0)) (aCons (eVar 4) (aCons (eC .non) aNil)))) (eTup (aCons (eC (.str "many")) (aCons (eC (.str "size")) aNil)))) (e2 eqA (eCall F__law_told 3 [] (aCons (eC (.int 1)) (aCons (eVar 4) (aCons (eTup aNil) aNil)))) (eTup (aCons (eC (.str "many")) (aCons (eC (.str "size")) aNil))))))
  sNil) sNil)
  (sSeq (sSet 5 (eCall F__law_stacked 1 [] (aCons (eVar 4) aNil)))
  (sSeq (sSet 6 (eCall F__law_between 2 [] (aCons (eVar 5) (aCons (eVar 3) aNil))))
  (sSeq (sSet 7 (eB fTup (aCons (eFrz (nComp (iAny (eVar 6)) (gN 19) Q3_law (eVar 19) [19])) aNil)))
  (sSeq (sIf (bOr (bNot (bTru (eCall F__law_same_as 2 [] (aCons (eCall F__law_told 3 [] (aCons (eC (.int 0)) (aCons (eVar 4) (aCons (eC .non) aNil)))) (aCons (eVar 5) aNil))))) (bNot (bTru (eCall F__law_same_as 2 [] (aCons (eCall F__law_told 3 [] (aCons (eC (.int 1)) (aCons (eVar 4) (aCons (eVar 7) aNil)))) (aCons (eCall F__law_turned 2 [] (aCons (eVar 5) (aCons (eVar 7) aNil))) aNil)))))) (sSeq (sRet (eC (.bl false)))
  sNil) sNil)
  (sSeq (sSet 8 (eCall F__law_cloth 4 [] (aCons (e2 mulL (eVar 14) (eVar 3)) (aCons (e2 mulL (eVar 15) (eVar 3)) (aCons (eVar 1) (aCons (eVar 2) aNil))))))
  (sSeq (sFor (iAny (eFrz (nLst (aCons (eCall F__law_turned 2 [] (aCons (eVar 5) (aCons (eVar 7) aNil))) (aCons (eVar 5) (aCons (eVar 8) aNil)))))) (gN 9) B2_law)
  (sSeq (sSet 10 (eCall F__law_one 3 [] (aCons (eFrz (nLst (aCons (eC .non) (aCons (eTup aNil) (aCons (e2 addL (eVar 4) (eTup (aCons (eTup (aCons (e2 mulL (eTup (aCons (eC (.int 1)) aNil)) (e2 addL (eVar 15) (eC (.int 1)))) aNil)) aNil))) (aCons (e2 mulL (eVar 4) (eC (.int 5))) (aCons (eTup (aCons (eTup aNil) aNil)) (aCons (eTup (aCons (eTup (aCons (eTup (aCons (eC (.int 2)) aNil)) aNil)) aNil)) (aCons (e2 ixA (eVar 5) (eC (.int 0))) aNil))))))))) (aCons (eVar 1) (aCons (eVar 2) aNil)))))
  (sSeq (sIf (bOr (bVal (e2 neA (eCall F__law_told 3 [] (aCons (eC (.int 0)) (aCons (eVar 10) (aCons (eC .non) aNil)))) (eTup (aCons (eC (.str "argument")) (aCons (eC (.str "cloths")) aNil))))) (bVal (e2 neA (eCall F__law_told 3 [] (aCons (eC (.int 1)) (aCons (eVar 10) (aCons (eC .non) aNil)))) (eTup (aCons (eC (.str "argument")) (aCons (eC (.str "cloths")) aNil)))))) (sSeq (sRet (eC (.bl false)))
  sNil) sNil)
  (sSeq (sSet 11 (eKeep true (nLst (aCons (eC .non) (aCons (eTup (aCons (eC (.int 5)) aNil)) (aCons (eTup (aCons (eTup (aCons (eC (.int 0)) (aCons (eC (.int 0)) aNil))) aNil)) (aCons (eTup (aCons (eTup (aCons (eC (.int 0)) (aCons (eB fLen (aCons (e2 ixA (eVar 5) (eC (.int 0))) aNil)) aNil))) aNil)) (aCons (eTup (aCons (eTup (aCons (eC (.bl true)) (aCons (eC (.int 0)) aNil))) aNil)) (aCons (eTup (aCons (eC (.str "00")) aNil)) aNil)))))))))
  (sSeq (sSet 11 (eIf (bTru (eVar 6)) (e2 addL (eVar 11) (eFrz (nLst (aCons (eTup (aCons (e2 ixA (eVar 6) (eC (.int 0))) (aCons (e2 ixA (eVar 6) (eC (.int 0))) aNil))) (aCons (eIf (bVal (e2 gtT (eB fLen (aCons (eVar 6) aNil)) (eC (.int 1)))) (eB fTup (aCons (eRevA (eCut (eVar 6) oNone (oSome (eC (.int 2))))) aNil)) (eC .non)) aNil))))) (eVar 11)))
  (sSeq (sIf (bVal (e2 neA (eCall F__law_told 3 [] (aCons (eC (.int 1)) (aCons (eVar 4) (aCons (eCall F__law_one 3 [] (aCons (eVar 11) (aCons (eVar 1) (aCons (eVar 2) aNil)))) aNil)))) (eTup (aCons (eC (.str "argument")) (aCons (eC (.str "stitches")) aNil))))) (sSeq (sRet (eC (.bl false)))
  sNil) sNil)
  (sSeq (sSet 12 (eCall F__law_one 3 [] (aCons (eFrz (nLst (aCons (eC (.int 0)) (aCons (eC (.int 5)) (aCons (eC .non) (aCons (eC (.bl true)) (aCons (eC (.str "1")) (aCons (e1 negT (eC (.int 1))) aNil)))))))) (aCons (eVar 1) (aCons (eVar 2) aNil)))))
  (sSeq (sSet 13 (eCall F__law_one 3 [] (aCons (eFrz (nLst (aCons (eC .non) (aCons (eTup aNil) (aCons (eTup (aCons (eTup (aCons (eC (.int 1)) aNil)) (aCons (eTup (aCons (eC (.int 1)) (aCons (eC (.int 0)) aNil))) aNil))) aNil))))) (aCons (eVar 1) (aCons (eVar 2) aNil)))))
  (sSeq (sRet (eAnd (e2 eqA (eCall F__law_told 3 [] (aCons (eC (.int 2)) (aCons (eVar 5) (aCons (eVar 12) aNil)))) (eTup (aCons (eC (.str "argument")) (aCons (eC (.str "count")) aNil)))) (e2 eqA (eFrz (nComp (iAny (eTup (aCons (eC (.int 2)) (aCons (eC (.int 3)) (aCons (eC (.int 4)) aNil))))) (gN 20) bYes E1_law [20])) (e2 mulL (eFrz (nLst (aCons (eTup (aCons (eC (.str "cloth")) (aCons (eC (.bl true)) aNil))) aNil))) (eC (.int 3))))))
  sNil))))))))))))))))))))
noncomputable def F_law : FM := fnOf 21 D_law
end L61
end

section
set_option Elab.async false
set_option linter.all false
set_option maxRecDepth 100000
set_option maxHeartbeats 0
namespace L61
open PySem PySem.Spec L2 Mi Cm
def top (i : Nat) : Stmt := PySem.Challenge.pw_hangstogether_k61_whole_cloths_one_above.main.body.getD i (.Pass ⟨0, 0, 0, 0⟩)
def dd (x : Str) (i : Nat) : He.DefD := ⟨(x, none), x, x, defArgs (top i), defBody (top i), defScope (top i), [], []⟩
def fnl : List He.DefD := [dd "_law_draws" 29, dd "_law_more" 30, dd "_law_take" 31, dd "_law_one" 32, dd "_law_bits" 33, dd "_law_cloth" 34, dd "_law_same_as" 36, dd "_law_stacked" 37, dd "_law_turned" 38, dd "_law_between" 39, dd "_law_unstacked" 40, dd "_law_loosest" 41, dd "_law_folded" 42, dd "is_integer" 1, dd "in_range" 2, dd "check_cloth" 13, dd "is_cloth" 14, dd "size_of" 16, dd "demand_cloths" 18, dd "crossing" 19, dd "stacked_of" 20, dd "demand_size" 21, dd "stacked" 22, dd "is_stitch" 23, dd "stitched" 24, dd "unstacked" 25, dd "loosest" 26, dd "folded" 27, dd "_law_told" 43, dd "law" 44]
def L0 : List (Str × Nat × List T × FM) := []
noncomputable def L1 : List (Str × Nat × List T × FM) := ("_law_draws", 1, [], F__law_draws) :: L0
noncomputable def L2 : List (Str × Nat × List T × FM) := ("_law_more", 2, [], F__law_more) :: L1
noncomputable def L3 : List (Str × Nat × List T × FM) := ("_law_take", 3, [], F__law_take) :: L2
noncomputable def L4 : List (Str × Nat × List T × FM) := ("_law_one", 3, [], F__law_one) :: L3
noncomputable def L5 : List (Str × Nat × List T × FM) := ("_law_bits", 3, [], F__law_bits) :: L4
noncomputable def L6 : List (Str × Nat × List T × FM) := ("_law_cloth", 4, [], F__law_cloth) :: L5
noncomputable def L7 : List (Str × Nat × List T × FM) := ("_law_same_as", 2, [], F__law_same_as) :: L6
noncomputable def L8 : List (Str × Nat × List T × FM) := ("_law_stacked", 1, [], F__law_stacked) :: L7
noncomputable def L9 : List (Str × Nat × List T × FM) := ("_law_turned", 2, [], F__law_turned) :: L8
noncomputable def L10 : List (Str × Nat × List T × FM) := ("_law_between", 2, [], F__law_between) :: L9
noncomputable def L11 : List (Str × Nat × List T × FM) := ("_law_unstacked", 2, [], F__law_unstacked) :: L10
noncomputable def L12 : List (Str × Nat × List T × FM) := ("_law_loosest", 1, [], F__law_loosest) :: L11
noncomputable def L13 : List (Str × Nat × List T × FM) := ("_law_folded", 1, [], F__law_folded) :: L12
noncomputable def L14 : List (Str × Nat × List T × FM) := ("is_integer", 1, [], F_is_integer) :: L13
noncomputable def L15 : List (Str × Nat × List T × FM) := ("in_range", 3, [], F_in_range) :: L14
noncomputable def L16 : List (Str × Nat × List T × FM) := ("check_cloth", 1, [], F_check_cloth) :: L15
noncomputable def L17 : List (Str × Nat × List T × FM) := ("is_cloth", 1, [], F_is_cloth) :: L16
noncomputable def L18 : List (Str × Nat × List T × FM) := ("size_of", 1, [], F_size_of) :: L17
noncomputable def L19 : List (Str × Nat × List T × FM) := ("demand_cloths", 1, [], F_demand_cloths) :: L18
noncomputable def L20 : List (Str × Nat × List T × FM) := ("crossing", 3, [], F_crossing) :: L19
noncomputable def L21 : List (Str × Nat × List T × FM) := ("stacked_of", 1, [], F_stacked_of) :: L20
noncomputable def L22 : List (Str × Nat × List T × FM) := ("demand_size", 1, [], F_demand_size) :: L21
noncomputable def L23 : List (Str × Nat × List T × FM) := ("stacked", 1, [], F_stacked) :: L22
noncomputable def L24 : List (Str × Nat × List T × FM) := ("is_stitch", 2, [], F_is_stitch) :: L23
noncomputable def L25 : List (Str × Nat × List T × FM) := ("stitched", 2, [], F_stitched) :: L24
noncomputable def L26 : List (Str × Nat × List T × FM) := ("unstacked", 2, [], F_unstacked) :: L25
noncomputable def L27 : List (Str × Nat × List T × FM) := ("loosest", 1, [], F_loosest) :: L26
noncomputable def L28 : List (Str × Nat × List T × FM) := ("folded", 1, [], F_folded) :: L27
noncomputable def L29 : List (Str × Nat × List T × FM) := ("_law_told", 3, [], F__law_told) :: L28
noncomputable def L30 : List (Str × Nat × List T × FM) := ("law", 1, [], F_law) :: L29
theorem den__law_draws : denD (MT.gx L0) 60 ["script", "draws", "cell", "rest", "k", "mixed"] (defScope (top 29)) (defBody (top 29)) = some D__law_draws := by kernel_rfl
theorem sc__law_draws : FnScope ["script", "draws", "cell", "rest", "k", "mixed"] ["script"] (defScope (top 29)) := ⟨rfl, rfl, rfl, by decide +kernel, rfl, by decide +kernel, by decide +kernel⟩
theorem st__law_draws {C : PC} (Tp : Top C MT fnl) (F : GFns C 1 L0) : GFns C 2 L1 := fn_step Tp F (i := 0) rfl sc__law_draws den__law_draws fun _ _ _ _ _ _ us hl => match us, hl with | [_], _ => rfl
theorem den__law_more : denD (MT.gx L1) 60 ["draws", "place", "mixed", "k"] (defScope (top 30)) (defBody (top 30)) = some D__law_more := by kernel_rfl
theorem sc__law_more : FnScope ["draws", "place", "mixed", "k"] ["draws", "place"] (defScope (top 30)) := ⟨rfl, rfl, rfl, by decide +kernel, rfl, by decide +kernel, by decide +kernel⟩
theorem st__law_more {C : PC} (Tp : Top C MT fnl) (F : GFns C 2 L1) : GFns C 3 L2 := fn_step Tp F (i := 1) rfl sc__law_more den__law_more fun _ _ _ _ _ _ us hl => match us, hl with | [_, _], _ => rfl
theorem den__law_take : denD (MT.gx L2) 60 ["draws", "at", "many", "place"] (defScope (top 31)) (defBody (top 31)) = some D__law_take := by kernel_rfl
theorem sc__law_take : FnScope ["draws", "at", "many", "place"] ["draws", "at", "many"] (defScope (top 31)) := ⟨rfl, rfl, rfl, by decide +kernel, rfl, by decide +kernel, by decide +kernel⟩
theorem st__law_take {C : PC} (Tp : Top C MT fnl) (F : GFns C 3 L2) : GFns C 4 L3 := fn_step Tp F (i := 2) rfl sc__law_take den__law_take fun _ _ _ _ _ _ us hl => match us, hl with | [_, _, _], _ => rfl
theorem den__law_one : denD (MT.gx L3) 60 ["rows", "draws", "at"] (defScope (top 32)) (defBody (top 32)) = some D__law_one := by kernel_rfl
theorem sc__law_one : FnScope ["rows", "draws", "at"] ["rows", "draws", "at"] (defScope (top 32)) := ⟨rfl, rfl, rfl, by decide +kernel, rfl, by decide +kernel, by decide +kernel⟩
theorem st__law_one {C : PC} (Tp : Top C MT fnl) (F : GFns C 4 L3) : GFns C 5 L4 := fn_step Tp F (i := 3) rfl sc__law_one den__law_one fun _ _ _ _ _ _ us hl => match us, hl with | [_, _, _], _ => rfl
theorem den__law_bits : denD (MT.gx L4) 60 ["count", "draws", "at", "bits", "mixed", "k"] (defScope (top 33)) (defBody (top 33)) = some D__law_bits := by kernel_rfl
theorem sc__law_bits : FnScope ["count", "draws", "at", "bits", "mixed", "k"] ["count", "draws", "at"] (defScope (top 33)) := ⟨rfl, rfl, rfl, by decide +kernel, rfl, by decide +kernel, by decide +kernel⟩
theorem st__law_bits {C : PC} (Tp : Top C MT fnl) (F : GFns C 5 L4) : GFns C 6 L5 := fn_step Tp F (i := 4) rfl sc__law_bits den__law_bits fun _ _ _ _ _ _ us hl => match us, hl with | [_, _, _], _ => rfl
theorem den__law_cloth : denD (MT.gx L5) 60 ["picks", "ends", "draws", "at", "kind", "row", "step", "rows", "columns", "chosen", "plain", "k", "e", "p", "column"] (defScope (top 34)) (defBody (top 34)) = some D__law_cloth := by kernel_rfl
theorem sc__law_cloth : FnScope ["picks", "ends", "draws", "at", "kind", "row", "step", "rows", "columns", "chosen", "plain", "k", "e", "p", "column"] ["picks", "ends", "draws", "at"] (defScope (top 34)) := ⟨rfl, rfl, rfl, by decide +kernel, rfl, by decide +kernel, by decide +kernel⟩
theorem st__law_cloth {C : PC} (Tp : Top C MT fnl) (F : GFns C 6 L5) : GFns C 7 L6 := fn_step Tp F (i := 5) rfl sc__law_cloth den__law_cloth fun _ _ _ _ _ _ us hl => match us, hl with | [_, _, _, _], _ => rfl
theorem den__law_same_as : denD (MT.gx L6) 60 ["actual", "due"] (defScope (top 36)) (defBody (top 36)) = some D__law_same_as := by kernel_rfl
theorem sc__law_same_as : FnScope ["actual", "due"] ["actual", "due"] (defScope (top 36)) := ⟨rfl, rfl, rfl, by decide +kernel, rfl, by decide +kernel, by decide +kernel⟩
theorem st__law_same_as {C : PC} (Tp : Top C MT fnl) (F : GFns C 7 L6) : GFns C 8 L7 := fn_step Tp F (i := 6) rfl sc__law_same_as den__law_same_as fun _ _ _ _ _ _ us hl => match us, hl with | [_, _], _ => rfl
theorem den__law_stacked : denD (MT.gx L7) 60 ["cloths", "many", "rows", "p", "row", "e", "upper", "lower"] (defScope (top 37)) (defBody (top 37)) = some D__law_stacked := by kernel_rfl
theorem sc__law_stacked : FnScope ["cloths", "many", "rows", "p", "row", "e", "upper", "lower"] ["cloths"] (defScope (top 37)) := ⟨rfl, rfl, rfl, by decide +kernel, rfl, by decide +kernel, by decide +kernel⟩
theorem st__law_stacked {C : PC} (Tp : Top C MT fnl) (F : GFns C 8 L7) : GFns C 9 L8 := fn_step Tp F (i := 7) rfl sc__law_stacked den__law_stacked fun _ _ _ _ _ _ us hl => match us, hl with | [_], _ => rfl
theorem den__law_turned : denD (MT.gx L8) 60 ["cloth", "places", "p", "e"] (defScope (top 38)) (defBody (top 38)) = some D__law_turned := by kernel_rfl
theorem sc__law_turned : FnScope ["cloth", "places", "p", "e"] ["cloth", "places"] (defScope (top 38)) := ⟨rfl, rfl, rfl, by decide +kernel, rfl, by decide +kernel, by decide +kernel⟩
theorem st__law_turned {C : PC} (Tp : Top C MT fnl) (F : GFns C 9 L8) : GFns C 10 L9 := fn_step Tp F (i := 8) rfl sc__law_turned den__law_turned fun _ _ _ _ _ _ us hl => match us, hl with | [_, _], _ => rfl
theorem den__law_between : denD (MT.gx L9) 60 ["cloth", "many", "found", "p", "e"] (defScope (top 39)) (defBody (top 39)) = some D__law_between := by kernel_rfl
theorem sc__law_between : FnScope ["cloth", "many", "found", "p", "e"] ["cloth", "many"] (defScope (top 39)) := ⟨rfl, rfl, rfl, by decide +kernel, rfl, by decide +kernel, by decide +kernel⟩
theorem st__law_between {C : PC} (Tp : Top C MT fnl) (F : GFns C 10 L9) : GFns C 11 L10 := fn_step Tp F (i := 9) rfl sc__law_between den__law_between fun _ _ _ _ _ _ us hl => match us, hl with | [_, _], _ => rfl
theorem den__law_unstacked : denD (MT.gx L10) 60 ["cloth", "many", "cloths", "j", "plain", "rows", "p", "row", "e"] (defScope (top 40)) (defBody (top 40)) = some D__law_unstacked := by kernel_rfl
theorem sc__law_unstacked : FnScope ["cloth", "many", "cloths", "j", "plain", "rows", "p", "row", "e"] ["cloth", "many"] (defScope (top 40)) := ⟨rfl, rfl, rfl, by decide +kernel, rfl, by decide +kernel, by decide +kernel⟩
theorem st__law_unstacked {C : PC} (Tp : Top C MT fnl) (F : GFns C 11 L10) : GFns C 12 L11 := fn_step Tp F (i := 10) rfl sc__law_unstacked den__law_unstacked fun _ _ _ _ _ _ us hl => match us, hl with | [_, _], _ => rfl
theorem den__law_loosest : denD (MT.gx L11) 60 ["cloth", "best", "many"] (defScope (top 41)) (defBody (top 41)) = some D__law_loosest := by kernel_rfl
theorem sc__law_loosest : FnScope ["cloth", "best", "many"] ["cloth"] (defScope (top 41)) := ⟨rfl, rfl, rfl, by decide +kernel, rfl, by decide +kernel, by decide +kernel⟩
theorem st__law_loosest {C : PC} (Tp : Top C MT fnl) (F : GFns C 12 L11) : GFns C 13 L12 := fn_step Tp F (i := 11) rfl sc__law_loosest den__law_loosest fun _ _ _ _ _ _ us hl => match us, hl with | [_], _ => rfl
theorem den__law_folded : denD (MT.gx L12) 60 ["cloth", "half", "upper", "lower", "row", "part"] (defScope (top 42)) (defBody (top 42)) = some D__law_folded := by kernel_rfl
theorem sc__law_folded : FnScope ["cloth", "half", "upper", "lower", "row", "part"] ["cloth"] (defScope (top 42)) := ⟨rfl, rfl, rfl, by decide +kernel, rfl, by decide +kernel, by decide +kernel⟩
theorem st__law_folded {C : PC} (Tp : Top C MT fnl) (F : GFns C 13 L12) : GFns C 14 L13 := fn_step Tp F (i := 12) rfl sc__law_folded den__law_folded fun _ _ _ _ _ _ us hl => match us, hl with | [_], _ => rfl
theorem den_is_integer : denD (MT.gx L13) 60 ["value"] (defScope (top 1)) (defBody (top 1)) = some D_is_integer := by kernel_rfl
theorem sc_is_integer : FnScope ["value"] ["value"] (defScope (top 1)) := ⟨rfl, rfl, rfl, by decide +kernel, rfl, by decide +kernel, by decide +kernel⟩
theorem st_is_integer {C : PC} (Tp : Top C MT fnl) (F : GFns C 14 L13) : GFns C 15 L14 := fn_step Tp F (i := 13) rfl sc_is_integer den_is_integer fun _ _ _ _ _ _ us hl => match us, hl with | [_], _ => rfl
theorem den_in_range : denD (MT.gx L14) 60 ["value", "least", "most"] (defScope (top 2)) (defBody (top 2)) = some D_in_range := by kernel_rfl
theorem sc_in_range : FnScope ["value", "least", "most"] ["value", "least", "most"] (defScope (top 2)) := ⟨rfl, rfl, rfl, by decide +kernel, rfl, by decide +kernel, by decide +kernel⟩
theorem st_in_range {C : PC} (Tp : Top C MT fnl) (F : GFns C 15 L14) : GFns C 16 L15 := fn_step Tp F (i := 14) rfl sc_in_range den_in_range fun _ _ _ _ _ _ us hl => match us, hl with | [_, _, _], _ => rfl
theorem den_check_cloth : denD (MT.gx L15) 60 ["cloth", "row", "part"] (defScope (top 13)) (defBody (top 13)) = some D_check_cloth := by kernel_rfl
theorem sc_check_cloth : FnScope ["cloth", "row", "part"] ["cloth"] (defScope (top 13)) := ⟨rfl, rfl, rfl, by decide +kernel, rfl, by decide +kernel, by decide +kernel⟩
theorem st_check_cloth {C : PC} (Tp : Top C MT fnl) (F : GFns C 16 L15) : GFns C 17 L16 := fn_step Tp F (i := 15) rfl sc_check_cloth den_check_cloth fun _ _ _ _ _ _ us hl => match us, hl with | [_], _ => rfl
theorem den_is_cloth : denD (MT.gx L16) 60 ["value"] (defScope (top 14)) (defBody (top 14)) = some D_is_cloth := by kernel_rfl
theorem sc_is_cloth : FnScope ["value"] ["value"] (defScope (top 14)) := ⟨rfl, rfl, rfl, by decide +kernel, rfl, by decide +kernel, by decide +kernel⟩
theorem st_is_cloth {C : PC} (Tp : Top C MT fnl) (F : GFns C 17 L16) : GFns C 18 L17 := fn_step Tp F (i := 16) rfl sc_is_cloth den_is_cloth fun _ _ _ _ _ _ us hl => match us, hl with | [_], _ => rfl
theorem den_size_of : denD (MT.gx L17) 60 ["rows"] (defScope (top 16)) (defBody (top 16)) = some D_size_of := by kernel_rfl
theorem sc_size_of : FnScope ["rows"] ["rows"] (defScope (top 16)) := ⟨rfl, rfl, rfl, by decide +kernel, rfl, by decide +kernel, by decide +kernel⟩
theorem st_size_of {C : PC} (Tp : Top C MT fnl) (F : GFns C 18 L17) : GFns C 19 L18 := fn_step Tp F (i := 17) rfl sc_size_of den_size_of fun _ _ _ _ _ _ us hl => match us, hl with | [_], _ => rfl
theorem den_demand_cloths : denD (MT.gx L18) 60 ["cloths", "one"] (defScope (top 18)) (defBody (top 18)) = some D_demand_cloths := by kernel_rfl
theorem sc_demand_cloths : FnScope ["cloths", "one"] ["cloths"] (defScope (top 18)) := ⟨rfl, rfl, rfl, by decide +kernel, rfl, by decide +kernel, by decide +kernel⟩
theorem st_demand_cloths {C : PC} (Tp : Top C MT fnl) (F : GFns C 19 L18) : GFns C 20 L19 := fn_step Tp F (i := 18) rfl sc_demand_cloths den_demand_cloths fun _ _ _ _ _ _ us hl => match us, hl with | [_], _ => rfl
theorem den_crossing : denD (MT.gx L19) 60 ["cloths", "pick", "end", "count", "upper", "lower"] (defScope (top 19)) (defBody (top 19)) = some D_crossing := by kernel_rfl
theorem sc_crossing : FnScope ["cloths", "pick", "end", "count", "upper", "lower"] ["cloths", "pick", "end"] (defScope (top 19)) := ⟨rfl, rfl, rfl, by decide +kernel, rfl, by decide +kernel, by decide +kernel⟩
theorem st_crossing {C : PC} (Tp : Top C MT fnl) (F : GFns C 20 L19) : GFns C 21 L20 := fn_step Tp F (i := 19) rfl sc_crossing den_crossing fun _ _ _ _ _ _ us hl => match us, hl with | [_, _, _], _ => rfl
theorem den_stacked_of : denD (MT.gx L20) 60 ["cloths", "count", "rows", "pick", "picks", "ends", "end"] (defScope (top 20)) (defBody (top 20)) = some D_stacked_of := by kernel_rfl
theorem sc_stacked_of : FnScope ["cloths", "count", "rows", "pick", "picks", "ends", "end"] ["cloths"] (defScope (top 20)) := ⟨rfl, rfl, rfl, by decide +kernel, rfl, by decide +kernel, by decide +kernel⟩
theorem st_stacked_of {C : PC} (Tp : Top C MT fnl) (F : GFns C 21 L20) : GFns C 22 L21 := fn_step Tp F (i := 20) rfl sc_stacked_of den_stacked_of fun _ _ _ _ _ _ us hl => match us, hl with | [_], _ => rfl
theorem den_demand_size : denD (MT.gx L21) 60 ["cloths", "picks", "ends"] (defScope (top 21)) (defBody (top 21)) = some D_demand_size := by kernel_rfl
theorem sc_demand_size : FnScope ["cloths", "picks", "ends"] ["cloths"] (defScope (top 21)) := ⟨rfl, rfl, rfl, by decide +kernel, rfl, by decide +kernel, by decide +kernel⟩
theorem st_demand_size {C : PC} (Tp : Top C MT fnl) (F : GFns C 22 L21) : GFns C 23 L22 := fn_step Tp F (i := 21) rfl sc_demand_size den_demand_size fun _ _ _ _ _ _ us hl => match us, hl with | [_], _ => rfl
theorem den_stacked : denD (MT.gx L22) 60 ["cloths"] (defScope (top 22)) (defBody (top 22)) = some D_stacked := by kernel_rfl
theorem sc_stacked : FnScope ["cloths"] ["cloths"] (defScope (top 22)) := ⟨rfl, rfl, rfl, by decide +kernel, rfl, by decide +kernel, by decide +kernel⟩
theorem st_stacked {C : PC} (Tp : Top C MT fnl) (F : GFns C 23 L22) : GFns C 24 L23 := fn_step Tp F (i := 22) rfl sc_stacked den_stacked fun _ _ _ _ _ _ us hl => match us, hl with | [_], _ => rfl
theorem den_is_stitch : denD (MT.gx L23) 60 ["value", "cloths", "count", "picks", "ends", "part"] (defScope (top 23)) (defBody (top 23)) = some D_is_stitch := by kernel_rfl
theorem sc_is_stitch : FnScope ["value", "cloths", "count", "picks", "ends", "part"] ["value", "cloths"] (defScope (top 23)) := ⟨rfl, rfl, rfl, by decide +kernel, rfl, by decide +kernel, by decide +kernel⟩
theorem st_is_stitch {C : PC} (Tp : Top C MT fnl) (F : GFns C 24 L23) : GFns C 25 L24 := fn_step Tp F (i := 23) rfl sc_is_stitch den_is_stitch fun _ _ _ _ _ _ us hl => match us, hl with | [_, _], _ => rfl
theorem den_stitched : denD (MT.gx L24) 60 ["cloths", "stitches", "known", "rows", "pick", "row", "stitch", "first", "second", "end", "part"] (defScope (top 24)) (defBody (top 24)) = some D_stitched := by kernel_rfl
theorem sc_stitched : FnScope ["cloths", "stitches", "known", "rows", "pick", "row", "stitch", "first", "second", "end", "part"] ["cloths", "stitches"] (defScope (top 24)) := ⟨rfl, rfl, rfl, by decide +kernel, rfl, by decide +kernel, by decide +kernel⟩
theorem st_stitched {C : PC} (Tp : Top C MT fnl) (F : GFns C 25 L24) : GFns C 26 L25 := fn_step Tp F (i := 24) rfl sc_stitched den_stitched fun _ _ _ _ _ _ us hl => match us, hl with | [_, _], _ => rfl
theorem den_unstacked : denD (MT.gx L25) 60 ["cloth", "count", "cloths", "stitches", "pick", "row", "place", "end", "part"] (defScope (top 25)) (defBody (top 25)) = some D_unstacked := by kernel_rfl
theorem sc_unstacked : FnScope ["cloth", "count", "cloths", "stitches", "pick", "row", "place", "end", "part"] ["cloth", "count"] (defScope (top 25)) := ⟨rfl, rfl, rfl, by decide +kernel, rfl, by decide +kernel, by decide +kernel⟩
theorem st_unstacked {C : PC} (Tp : Top C MT fnl) (F : GFns C 26 L25) : GFns C 27 L26 := fn_step Tp F (i := 25) rfl sc_unstacked den_unstacked fun _ _ _ _ _ _ us hl => match us, hl with | [_, _], _ => rfl
theorem den_loosest : denD (MT.gx L26) 60 ["cloth", "counts", "count"] (defScope (top 26)) (defBody (top 26)) = some D_loosest := by kernel_rfl
theorem sc_loosest : FnScope ["cloth", "counts", "count"] ["cloth"] (defScope (top 26)) := ⟨rfl, rfl, rfl, by decide +kernel, rfl, by decide +kernel, by decide +kernel⟩
theorem st_loosest {C : PC} (Tp : Top C MT fnl) (F : GFns C 27 L26) : GFns C 28 L27 := fn_step Tp F (i := 26) rfl sc_loosest den_loosest fun _ _ _ _ _ _ us hl => match us, hl with | [_], _ => rfl
theorem den_folded : denD (MT.gx L27) 60 ["cloth", "half", "upper", "lower", "row", "part"] (defScope (top 27)) (defBody (top 27)) = some D_folded := by kernel_rfl
theorem sc_folded : FnScope ["cloth", "half", "upper", "lower", "row", "part"] ["cloth"] (defScope (top 27)) := ⟨rfl, rfl, rfl, by decide +kernel, rfl, by decide +kernel, by decide +kernel⟩
theorem st_folded {C : PC} (Tp : Top C MT fnl) (F : GFns C 28 L27) : GFns C 29 L28 := fn_step Tp F (i := 27) rfl sc_folded den_folded fun _ _ _ _ _ _ us hl => match us, hl with | [_], _ => rfl
theorem den__law_told : denD (MT.gx L28) 60 ["which", "first", "second", "e"] (defScope (top 43)) (defBody (top 43)) = some D__law_told := by kernel_rfl
theorem sc__law_told : FnScope ["which", "first", "second", "e"] ["which", "first", "second"] (defScope (top 43)) := ⟨rfl, rfl, rfl, by decide +kernel, rfl, by decide +kernel, by decide +kernel⟩
theorem st__law_told {C : PC} (Tp : Top C MT fnl) (F : GFns C 29 L28) : GFns C 30 L29 := fn_step Tp F (i := 28) rfl sc__law_told den__law_told fun _ _ _ _ _ _ us hl => match us, hl with | [_, _, _], _ => rfl
theorem den_law : denD (MT.gx L29) 60 ["script", "draws", "at", "many", "cloths", "large", "between", "places", "any_cloth", "cloth", "odd", "rows", "bad", "ill", "picks", "ends", "wide", "due", "k", "place", "which"] (defScope (top 44)) (defBody (top 44)) = some D_law := by kernel_rfl
theorem sc_law : FnScope ["script", "draws", "at", "many", "cloths", "large", "between", "places", "any_cloth", "cloth", "odd", "rows", "bad", "ill", "picks", "ends", "wide", "due", "k", "place", "which"] ["script"] (defScope (top 44)) := ⟨rfl, rfl, rfl, by decide +kernel, rfl, by decide +kernel, by decide +kernel⟩
theorem chain {C : PC} (Tp : Top C MT fnl) : GFns C 30 L29 := st__law_told Tp ( st_folded Tp ( st_loosest Tp ( st_unstacked Tp ( st_stitched Tp ( st_is_stitch Tp ( st_stacked Tp ( st_demand_size Tp ( st_stacked_of Tp ( st_crossing Tp ( st_demand_cloths Tp ( st_size_of Tp ( st_is_cloth Tp ( st_check_cloth Tp ( st_in_range Tp ( st_is_integer Tp ( st__law_folded Tp ( st__law_loosest Tp ( st__law_unstacked Tp ( st__law_between Tp ( st__law_turned Tp ( st__law_stacked Tp ( st__law_same_as Tp ( st__law_cloth Tp ( st__law_bits Tp ( st__law_one Tp ( st__law_take Tp ( st__law_more Tp ( st__law_draws Tp (GFns.nil)))))))))))))))))))))))))))))
theorem law_fn {C : PC} (Tp : Top C MT fnl) {f : Addr} (hf : C.mg "law" = some (.ref f)) : ∃ fd, (∀ (s : Shared) (u : Value), BindsTo s fd ⟨[u], []⟩ [("script", u)]) ∧ FnD C 31 f fd ["script"] F_law := fn_law Tp (chain Tp) (i := 29) rfl sc_law den_law hf fun _ _ _ _ _ _ us hl => match us, hl with | [_], _ => rfl
end L61
end

section
set_option Elab.async false
set_option linter.all false
set_option maxRecDepth 100000
set_option maxHeartbeats 0
namespace L61
open PySem PySem.Spec L2 Mi
abbrev RR : PySem.W.OpenRow := PySem.W.OpenLaw.row PySem.Challenge.rw_hangstogether_k61_whole_cloths_one_above
def iniD : Stmt := match top 5 with
  | .ClassDef _ _ _ body _ _ _ _ _ _ _ => body.getD 0 (.Pass ⟨0, 0, 0, 0⟩)
  | s => s
theorem ini_s : IniS RR.prog "__init__" "ReasonError.__init__" "reason" "reason" (defArgs iniD) (defBody iniD) (defScope iniD) := ⟨⟨_, _, _, _, _, _, _, _, _, _, _, _, rfl, fun env => ⟨_, rfl⟩, rfl⟩, fun _ _ _ _ _ _ _ _ _ => rfl, by decide, by decide, by kernel_rfl, by decide +kernel, rfl, rfl, rfl, rfl, rfl, rfl, rfl⟩
abbrev iv : InW := some ("__init__", "ReasonError.__init__", defArgs iniD, .stmts (defBody iniD), defScope iniD, mainGlobals, [("__class__" : Str)], builtinsNs)
abbrev hk : PySem.W.Hook := hookM 5 MT RR.prog.main.file "ReasonError.__init__" fnl iv
def ob (s : PySem.W.SharedT) : AlM := obT 5 MT RR.prog.main.file "ReasonError.__init__" fnl s
def lo0 : List PySem.Str := ["__name__", "is_integer", "in_range", "WeaveError", "ReasonError", "ClothError", "ArgumentError", "TooMany", "MAX_ENDS", "MAX_PICKS", "MAX_STACK", "check_cloth", "is_cloth", "size_of", "demand_cloths", "crossing", "stacked_of", "demand_size", "stacked", "is_stitch", "stitched", "unstacked", "loosest", "folded", "_law_draws", "_law_more", "_law_take", "_law_one", "_law_bits", "_law_cloth"]
def lo1 : List PySem.Str := ["_law_some_cloth", "_law_same_as", "_law_stacked", "_law_turned", "_law_between", "_law_unstacked", "_law_loosest", "_law_folded", "_law_told"]
def lo : List PySem.Str := lo0 ++ lo1
theorem ob_eq (s : PySem.W.SharedT) : ob s = hk.obs s.abs := obT_eq s
theorem run (w : World) : HandSHeadRun.RunEq RR (PySem.W.view RR.prog [44]) hk ob 4000 lo w := by
  intro os
  kernel_rfl
end L61
end

section
set_option Elab.async false
set_option linter.all false
set_option maxRecDepth 100000
set_option maxHeartbeats 0
open PySem PySem.W PySem.Calls PyProof.Rows
theorem L61.holds_of (hφ : ∀ ns : List Int, ns.length ≤ 63 → L61.F_law [.scr (ns.map Mi.T.int)] [] = .ok (.bl true) []) : PySem.Challenge.rw_hangstogether_k61_whole_cloths_one_above.Holds := by
  w_on; o_law
  refine HandSHeadRun.head_any (r := OpenLaw.row PySem.Challenge.rw_hangstogether_k61_whole_cloths_one_above) (q := view (OpenLaw.row PySem.Challenge.rw_hangstogether_k61_whole_cloths_one_above).prog [44]) (H := L61.hk) (ob := L61.ob) (M := 4000) (loose := L61.lo) (d := HandSHeadRun.topDef (OpenLaw.row PySem.Challenge.rw_hangstogether_k61_whole_cloths_one_above).prog 44) (kwd := []) L61.ob_eq
    (by kernel_rfl) (fun s => by kernel_rfl) L61.run (by kernel_rfl) (by kernel_rfl) (by kernel_rfl) (by rfl) (by first | assumption | decide +kernel) (by decide +kernel) ⟨rfl, rfl, rfl, rfl, rfl, by decide +kernel⟩ ?hw ?hc
  case hw => w_witness2
  case hc =>
    refine Mi.walk_den (l := PySem.Challenge.rw_hangstogether_k61_whole_cloths_one_above) (n := 63) (k := 31) (x := "script") (φ := L61.F_law) rfl (by decide) (by kernel_rfl) ⟨rfl, by decide, by decide⟩ hφ ?_
    intro w mg fa h ⟨K, kin, c⟩ G hm
    have hm2 : mg ("law" : PySem.Str) = some (.ref fa) := by
      have e : (HandSHeadRun.topDef (OpenLaw.row PySem.Challenge.rw_hangstogether_k61_whole_cloths_one_above).prog 44).name = ("law" : PySem.Str) := by kernel_rfl
      rw [← e]
      exact hm
    have Tp : ∀ base : Heap, Mi.Top ⟨(PySem.Challenge.rw_hangstogether_k61_whole_cloths_one_above).prog, w, K, mg, base, He.ga K⟩ L61.MT L61.fnl := fun base => Mi.top_of L61.ini_s kin G c
    exact ⟨K, He.ga K, kin, (Tp h).nolst, fun base => L61.law_fn (Tp base) hm2⟩
end

section
set_option Elab.async false
set_option linter.all false
set_option maxRecDepth 100000
set_option maxHeartbeats 2000000
set_option exponentiation.threshold 9000
/-! K61a: cloths one above the other -/
namespace L61
open PySem PySem.Spec L2 Mi Cm
section
variable {S : Sto} {n : Nat} {p q : Int} {ds : List Int} {ρ : Mi.Env} {α β γ : Type}
/-- a list that grows by one thing a turn; J: whatever stands behind it -/
theorem build_j {g : GM} {b : SM} {E : γ → Mi.Env} {h f : β → T} {K : Nat} : ∀ {xs : List β}, (∀ x ∈ xs, ∀ c (acc : List T) (J : Sto), acc.length ≤ K → ∃ c1, g (h x) (E c) = some (E c1) ∧ ∃ c2 J2, b (E c1) (S ++ .lst acc :: J) = .go (.nx (E c2)) (S ++ .lst (acc ++ [f x]) :: J2)) →
    ∀ (c : γ) (acc : List T) (J : Sto), acc.length + xs.length ≤ K → ∃ c' J', forL (fun _ => true) g b (xs.map h) (E c) (S ++ .lst acc :: J) = .go (.nx (E c')) (S ++ .lst (acc ++ xs.map f) :: J')
  | [], _, c, acc, J, _ => ⟨c, J, by rw [List.map_nil, forL_nil, fif_true, List.map_nil, List.append_nil]⟩
  | x :: xs, hb, c, acc, J, hl => by
    rw [List.length_cons] at hl
    obtain ⟨c1, e1, c2, J2, e2⟩ := hb x (List.mem_cons_self ..) c acc J (by omega)
    obtain ⟨c', J', e3⟩ := build_j (xs := xs) (fun y hy => hb y (List.mem_cons_of_mem _ hy)) c2 (acc ++ [f x]) J2 (by simp; omega)
    refine ⟨c', J', ?_⟩
    rw [List.map_cons, forL_cons, fif_true, e1]
    simp only [e2, loopR_nx, e3, List.map_cons, List.append_assoc, List.singleton_append]
abbrev tCs (Cs : List (List (List Int))) : T := .tup (Cs.map cl)
def Cls (m w : Nat) (Cs : List (List (List Int))) : Prop := (1 ≤ Cs.length ∧ Cs.length ≤ 4) ∧ ∀ C ∈ Cs, Cl m w C
def at3 (Cs : List (List (List Int))) (k p e : Nat) : Int := ((Cs.getD k []).getD p []).getD e 0
/-- a crossing of the stack -/
def stk (Cs : List (List (List Int))) (p e : Nat) : Int := if e % Cs.length = p % Cs.length then at3 Cs (e % Cs.length) (p / Cs.length) (e / Cs.length) else if e % Cs.length < p % Cs.length then 1 else 0
def stkd (m w : Nat) (Cs : List (List (List Int))) : List (List Int) := (List.range (m * Cs.length)).map fun p => (List.range (w * Cs.length)).map fun e => stk Cs p e
theorem Cls.ne {m w : Nat} {Cs : List (List (List Int))} (h : Cls m w Cs) : ∃ C Cr, Cs = C :: Cr ∧ Cl m w C := by
  cases Cs with
  | nil => have := h.1.1; simp at this
  | cons C Cr => exact ⟨C, Cr, rfl, h.2 C (List.mem_cons_self ..)⟩
theorem ixCs0 {m w : Nat} {Cs : List (List (List Int))} (h : Cls m w Cs) : ∃ C, Cl m w C ∧ ∀ S, ixA S (tCs Cs) (.int 0) = .ok (cl C) S := by
  obtain ⟨C, Cr, e, hc⟩ := h.ne
  subst e
  exact ⟨C, hc, fun S => ix_tup (by rw [at_in (by omega) (by simp)]; rfl)⟩
theorem size_of_e {m w : Nat} {rows : List (List Int)} (h : Cl m w rows) : F_size_of [cl rows] S = .ok (.tup [nI m, nI w]) S := by
  obtain ⟨r0, hr0, hl0, ix0⟩ := ix0_cl h
  refine fn_e (by rfl) ?_
  show D_size_of [some (cl rows)] S = _
  have dl : decide (2 ≤ line) = true := by decide
  simp only [D_size_of, sSeq_e, sRet_e, eTup_e, eB_e, aCons_e, aNil_e, Mi.e2_e, eVar_z, eC_e, bind_ok, ix0, len_tup, List.length_map, h.1, hl0, List.length_cons, List.length_nil, Nat.zero_add, Nat.reduceAdd, dl, Mi.if_true, then_ok, seq_rt]
theorem at3_ix {m w : Nat} {Cs : List (List (List Int))} (h : Cls m w Cs) {k p e : Nat} (hk : k < Cs.length) (hp : p < m) (he : e < w) :
    ∃ C r, ixA S (tCs Cs) (nI k) = .ok (cl C) S ∧ ixA S (cl C) (nI p) = .ok (tR r) S ∧ ixA S (tR r) (nI e) = .ok (.int (at3 Cs k p e)) S := by
  have h1 := ix_tm (S := S) (xs := Cs) (f := cl) (d := []) (i := (k : Int)) (by omega) (by omega)
  have hC := h.2 _ (Mi.getD_mem (d := []) hk)
  have h2 := ix_tm (S := S) (xs := Cs.getD k []) (f := tR) (d := []) (i := (p : Int)) (by omega) (by rw [hC.1]; omega)
  have hr := hC.2.2.2 _ (Mi.getD_mem (d := []) (by rw [hC.1]; exact hp))
  have h3 := ix_tm (S := S) (xs := (Cs.getD k []).getD p []) (f := T.int) (d := 0) (i := (e : Int)) (by omega) (by rw [hr.1]; omega)
  rw [Int.toNat_natCast] at h1 h2 h3
  exact ⟨_, _, h1, h2, h3⟩
theorem beq_nat {a b : Nat} : ((a : Int) == (b : Int)) = decide (a = b) := by
  by_cases h : a = b
  · subst h; simp
  · rw [decide_eq_false h]; exact beq_eq_false_iff_ne.mpr (by omega)
theorem lt_nat {a b : Nat} : decide ((a : Int) < (b : Int)) = decide (a < b) := by
  by_cases h : a < b
  · rw [decide_eq_true h, decide_eq_true (by omega)]
  · rw [decide_eq_false h, decide_eq_false (by omega)]
theorem crossing_e {m w : Nat} {Cs : List (List (List Int))} (h : Cls m w Cs) {p e : Nat} (hp : p < m * Cs.length) (he : e < w * Cs.length) : F_crossing [tCs Cs, nI p, nI e] S = .ok (.int (stk Cs p e)) S := by
  have hn := h.1
  refine fn_e (by rfl) ?_
  show D_crossing [some (tCs Cs), some (nI p), some (nI e), none, none, none] S = _
  have m1 := mod_nn (S := S) (a := e) (b := Cs.length) (by omega)
  have m2 := mod_nn (S := S) (a := p) (b := Cs.length) (by omega)
  have d1 := div_nn (S := S) (a := p) (b := Cs.length) (by omega) (by omega)
  have d2 := div_nn (S := S) (a := e) (b := Cs.length) (by omega) (by omega)
  have q1 : p / Cs.length < m := Nat.div_lt_of_lt_mul (by rw [Nat.mul_comm]; exact hp)
  have q2 : e / Cs.length < w := Nat.div_lt_of_lt_mul (by rw [Nat.mul_comm]; exact he)
  have q3 : e % Cs.length < Cs.length := Nat.mod_lt _ (by omega)
  obtain ⟨C, r, i1, i2, i3⟩ := at3_ix (S := S) h q3 q1 q2
  unfold stk
  by_cases c : e % Cs.length = p % Cs.length
  · rw [if_pos c]
    have b : ((((e % Cs.length : Nat) : Int)) == ((p % Cs.length : Nat) : Int)) = true := by rw [beq_nat, decide_eq_true c]
    simp only [D_crossing, sSeq_e, sSet_e, eB_e, aCons_e, aNil_e, eVar_s, eVar_z, bind_ok, len_tup, List.length_map, then_ok, seq_nx, List.set_cons_succ, List.set_cons_zero, sPar_e, Mi.e2_e, m1, m2, sIf_e, bVal_e, eq_ii, b, sRet_e, i1, d1, d2, i2, i3, seq_rt]
  · rw [if_neg c]
    have b : ((((e % Cs.length : Nat) : Int)) == ((p % Cs.length : Nat) : Int)) = false := by rw [beq_nat, decide_eq_false c]
    by_cases c2 : e % Cs.length < p % Cs.length
    · rw [if_pos c2]
      have b2 : decide ((((e % Cs.length : Nat) : Int)) < ((p % Cs.length : Nat) : Int)) = true := by rw [lt_nat, decide_eq_true c2]
      simp only [D_crossing, sSeq_e, sSet_e, eB_e, aCons_e, aNil_e, eVar_s, eVar_z, eC_e, bind_ok, len_tup, List.length_map, then_ok, seq_nx, List.set_cons_succ, List.set_cons_zero, sPar_e, Mi.e2_e, m1, m2, sIf_e, bVal_e, eq_ii, b, sNil_e, sRet_e, eIf_e, lt_ii, b2, seq_rt]
    · rw [if_neg c2]
      have b2 : decide ((((e % Cs.length : Nat) : Int)) < ((p % Cs.length : Nat) : Int)) = false := by rw [lt_nat, decide_eq_false c2]
      simp only [D_crossing, sSeq_e, sSet_e, eB_e, aCons_e, aNil_e, eVar_s, eVar_z, eC_e, bind_ok, len_tup, List.length_map, then_ok, seq_nx, List.set_cons_succ, List.set_cons_zero, sPar_e, Mi.e2_e, m1, m2, sIf_e, bVal_e, eq_ii, b, sNil_e, sRet_e, eIf_e, lt_ii, b2, seq_rt]
theorem mul_le {m w : Nat} {Cs : List (List (List Int))} (h : Cls m w Cs) : m * Cs.length ≤ 96 ∧ w * Cs.length ≤ 96 := by
  obtain ⟨C, Cr, e, hc⟩ := h.ne
  have := hc.2.1
  have := hc.2.2.1
  have := h.1
  exact ⟨Nat.mul_le_mul (show m ≤ 24 by omega) (show Cs.length ≤ 4 by omega), Nat.mul_le_mul (show w ≤ 24 by omega) (show Cs.length ≤ 4 by omega)⟩
theorem stacked_of_e {m w : Nat} {Cs : List (List (List Int))} (h : Cls m w Cs) : F_stacked_of [tCs Cs] S = .ok (cl (stkd m w Cs)) S := by
  obtain ⟨C0, hC0, ix0⟩ := ixCs0 h
  have hl := mul_le h
  have hn := h.1
  have m1 := fun S => mul_nn (S := S) (a := w) (b := Cs.length) (by have := hC0.2.2.1; omega) (by omega)
  have m2 := fun S => mul_nn (S := S) (a := m) (b := Cs.length) (by have := hC0.2.1; omega) (by omega)
  obtain ⟨c', J', el⟩ := build_j (S := S) (g := gN 3) (b := B1_stacked_of) (E := fun c => [some (tCs Cs), some (nI Cs.length), some (.obj S.length), c, some (nI m), some (nI w), none]) (h := fun (i : Nat) => nI i) (f := fun p => tR ((List.range (w * Cs.length)).map fun e => stk Cs p e)) (K := 1000) (xs := List.range (m * Cs.length))
    (fun p hp c acc J ha => ⟨some (nI p), rfl, some (nI p), J, by
      have hp : p < m * Cs.length := by simpa using hp
      have c1 := compR_e (S := S ++ .lst acc :: J) (ρ := [some (tCs Cs), some (nI Cs.length), some (.obj S.length), some (nI p), some (nI m), some (nI w), none]) (m := w * Cs.length) (r := fun e => .int (stk Cs p e)) (fe := Mi.e2 mulL (eVar 5) (eVar 1)) (g := gN 6) (e := E2_stacked_of) (vs := [6]) (by simp only [Mi.e2_e, eVar_s, eVar_z, bind_ok, m1]) (by omega) fun e he => ⟨_, rfl, by
        simp only [E2_stacked_of, wipeE, List.set_cons_succ, List.set_cons_zero, eCall_e, aCons_e, aNil_e, eVar_s, eVar_z, bind_ok, List.length_cons, List.length_nil, beq_self_eq_true, Mi.if_true, crossing_e h hp he]⟩
      have ap := app_at (S := S ++ .lst acc :: J) (n := S.length) (l := acc) (v := tR ((List.range (w * Cs.length)).map fun e => stk Cs p e)) (ρ := [some (tCs Cs), some (nI Cs.length), some (.obj S.length), some (nI p), some (nI m), some (nI w), none]) (fo := eVar 2) (fe := eB fTup (aCons (eFrz (nComp (iRange1 (Mi.e2 mulL (eVar 5) (eVar 1))) (gN 6) bYes E2_stacked_of [6])) aNil)) (get_mid rfl) rfl (by
        simp only [eB_e, aCons_e, aNil_e, eFrz_e, c1, bind_ok, tup_lst, tR, List.map_map, Function.comp_def]) (by omega) pure_tR
      rw [set_mid rfl] at ap
      simp only [B1_stacked_of, sSeq_e, sDrop_e, ap, then_ok, seq_nx, sNil_e]⟩) none [] [] (by simp; omega)
  have ef := for_range (S := S ++ [.lst []]) (fe := Mi.e2 mulL (eVar 4) (eVar 1)) (g := gN 3) (b := B1_stacked_of) (ρ := [some (tCs Cs), some (nI Cs.length), some (.obj S.length), none, some (nI m), some (nI w), none]) (m := m * Cs.length) (by simp only [Mi.e2_e, eVar_s, eVar_z, bind_ok, m2]) (by omega)
  rw [el, List.nil_append] at ef
  have et := tup_obj (S := S ++ .lst ((List.range (m * Cs.length)).map fun p => tR ((List.range (w * Cs.length)).map fun e => stk Cs p e)) :: J') (n := S.length) (l := (List.range (m * Cs.length)).map fun p => tR ((List.range (w * Cs.length)).map fun e => stk Cs p e)) (get_mid rfl)
  have as : sAsg (gTupM 2 (gsCons (gN 4) (gsCons (gN 5) gsNil))) (eCall F_size_of 1 [] (aCons (Mi.e2 ixA (eVar 0) (eC (.int 0))) aNil)) [some (tCs Cs), none, none, none, none, none, none] S = .go (.nx [some (tCs Cs), none, none, none, some (nI m), some (nI w), none]) S := by
    rw [sAsg_e]
    simp only [eCall_e, aCons_e, aNil_e, Mi.e2_e, eVar_z, eC_e, bind_ok, ix0, List.length_cons, List.length_nil, beq_self_eq_true, Mi.if_true, size_of_e hC0, then_ok]
    rfl
  have dl : decide (0 ≤ line) = true := by decide
  refine (fnOf_e (S := S)).trans ?_
  have fin : D_stacked_of [some (tCs Cs), none, none, none, none, none, none] S = .go (.rt (cl (stkd m w Cs))) (S ++ .lst ((List.range (m * Cs.length)).map fun p => tR ((List.range (w * Cs.length)).map fun e => stk Cs p e)) :: J') := by
    simp only [D_stacked_of, sSeq_e, as, seq_nx, sSet_e, eB_e, aCons_e, aNil_e, eVar_s, eVar_z, bind_ok, len_tup, List.length_map, then_ok, List.set_cons_succ, List.set_cons_zero, eKeep_t, nLst_e, List.length_nil, dl, Mi.if_true, pures_nil, ef, sRet_e, et, seq_rt]
    simp only [cl, stkd, List.map_map, Function.comp_def]
  show outR S.length (D_stacked_of [some (tCs Cs), none, none, none, none, none, none] S) = _
  rw [fin, outR_rt2 (S := S) (S1 := S) pure_cl rfl]
end
end L61
end

section
set_option Elab.async false
set_option linter.all false
set_option maxRecDepth 100000
set_option maxHeartbeats 2000000
set_option exponentiation.threshold 9000
/-! K61b: the law's stack, turned crossings, crossings of threads of unlike cloths -/
namespace L61
open PySem PySem.Spec L2 Mi Cm
section
variable {S : Sto} {n : Nat} {p q : Int} {ds : List Int} {ρ : Mi.Env} {α β γ : Type}
theorem fold_v {g : GM} {b : SM} {E : γ → Mi.Env} {h : β → T} {F : γ → β → γ} {I : List β → γ → Prop} (step : ∀ x xs c, I (x :: xs) c → ∃ ρ1, g (h x) (E c) = some ρ1 ∧ b ρ1 S = .go (.nx (E (F c x))) S ∧ I xs (F c x)) :
    ∀ (xs : List β) (c : γ), I xs c → forL (fun _ => true) g b (xs.map h) (E c) S = .go (.nx (E (xs.foldl F c))) S
  | [], c, _ => by rw [List.map_nil, forL_nil, fif_true]; rfl
  | x :: xs, c, hi => by
    obtain ⟨ρ1, e1, e2, h2⟩ := step x xs c hi
    rw [List.map_cons, forL_cons, fif_true, e1]
    simp only [e2, loopR_nx, fold_v step xs (F c x) h2, List.foldl_cons]
theorem mid_app {A J R : Sto} {x : MO} : (A ++ x :: J) ++ R = A ++ x :: (J ++ R) := by simp
abbrev sEnv (Cs : List (List (List Int))) (k p : Nat) (j : Nat) (c : Option T × Option T × Option T) : Mi.Env := [some (tCs Cs), some (nI Cs.length), some (.obj k), some (nI p), some (.obj j), c.1, c.2.1, c.2.2]
theorem ls_b2 {m w : Nat} {Cs : List (List (List Int))} (h : Cls m w Cs) {k p e j : Nat} {A J : Sto} {acc : List T} {c : Option T × Option T × Option T} (hp : p < m * Cs.length) (he : e < w * Cs.length) (hj : j = A.length) (ha : acc.length ≤ 1000) :
    B2__law_stacked (sEnv Cs k p j (some (nI e), c.2)) (A ++ .lst acc :: J) = .go (.nx (sEnv Cs k p j (some (nI e), some (nI (e % Cs.length)), some (nI (p % Cs.length))))) (A ++ .lst (acc ++ [.int (stk Cs p e)]) :: J) := by
  have hn := h.1
  have m1 := fun S => mod_nn (S := S) (a := e) (b := Cs.length) (by omega)
  have m2 := fun S => mod_nn (S := S) (a := p) (b := Cs.length) (by omega)
  have d1 := fun S => div_nn (S := S) (a := p) (b := Cs.length) (by omega) (by omega)
  have d2 := fun S => div_nn (S := S) (a := e) (b := Cs.length) (by omega) (by omega)
  have q1 : p / Cs.length < m := Nat.div_lt_of_lt_mul (by rw [Nat.mul_comm]; exact hp)
  have q2 : e / Cs.length < w := Nat.div_lt_of_lt_mul (by rw [Nat.mul_comm]; exact he)
  have q3 : e % Cs.length < Cs.length := Nat.mod_lt _ (by omega)
  obtain ⟨C, r, i1, i2, i3⟩ := at3_ix (S := A ++ .lst acc :: J) h q3 q1 q2
  have ap := fun (v : Int) (fe : EM) (hv : fe (sEnv Cs k p j (some (nI e), some (nI (e % Cs.length)), some (nI (p % Cs.length)))) (A ++ .lst acc :: J) = .ok (.int v) (A ++ .lst acc :: J)) => app_at (S := A ++ .lst acc :: J) (n := j) (l := acc) (v := .int v) (ρ := sEnv Cs k p j (some (nI e), some (nI (e % Cs.length)), some (nI (p % Cs.length)))) (fo := eVar 4) (fe := fe) (get_mid hj) rfl hv (by omega) rfl
  simp only [set_mid hj] at ap
  unfold stk
  by_cases c : e % Cs.length = p % Cs.length
  · rw [if_pos c]
    have b : ((((e % Cs.length : Nat) : Int)) == ((p % Cs.length : Nat) : Int)) = true := by rw [beq_nat, decide_eq_true c]
    have a1 := ap (at3 Cs (e % Cs.length) (p / Cs.length) (e / Cs.length)) (Mi.e2 ixA (Mi.e2 ixA (Mi.e2 ixA (eVar 0) (eVar 6)) (Mi.e2 fdivT (eVar 3) (eVar 1))) (Mi.e2 fdivT (eVar 5) (eVar 1))) (by
      simp only [Mi.e2_e, eVar_s, eVar_z, bind_ok, i1, d1, i2, d2, i3])
    simp only [B2__law_stacked, sSeq_e, sPar_e, aCons_e, aNil_e, Mi.e2_e, eB_e, eVar_s, eVar_z, bind_ok, int_i, m1, m2, then_ok, List.set_cons_succ, List.set_cons_zero, seq_nx, sIf_e, bVal_e, eq_ii, b, sDrop_e, a1, sNil_e]
  · rw [if_neg c]
    have b : ((((e % Cs.length : Nat) : Int)) == ((p % Cs.length : Nat) : Int)) = false := by rw [beq_nat, decide_eq_false c]
    have a1 := ap (if e % Cs.length < p % Cs.length then 1 else 0) (eB fInt (aCons (Mi.e2 ltA (eVar 6) (eVar 7)) aNil)) (by
      simp only [eB_e, aCons_e, aNil_e, Mi.e2_e, eVar_s, eVar_z, bind_ok, lt_ii, int_b, lt_nat, decide_eq_true_eq])
    simp only [B2__law_stacked, sSeq_e, sPar_e, aCons_e, aNil_e, Mi.e2_e, eB_e, eVar_s, eVar_z, bind_ok, int_i, m1, m2, then_ok, List.set_cons_succ, List.set_cons_zero, seq_nx, sIf_e, bVal_e, eq_ii, b, sDrop_e, a1, sNil_e]
theorem law_stacked_e {m w : Nat} {Cs : List (List (List Int))} (h : Cls m w Cs) : F__law_stacked [tCs Cs] S = .ok (cl (stkd m w Cs)) S := by
  obtain ⟨C0, hC0, ix0⟩ := ixCs0 h
  obtain ⟨r0, hr0, hl0, ix00⟩ := ix0_cl hC0
  have hl := mul_le h
  have hn := h.1
  have m1 := fun S => mul_nn (S := S) (a := w) (b := Cs.length) (by have := hC0.2.2.1; omega) (by omega)
  have m2 := fun S => mul_nn (S := S) (a := m) (b := Cs.length) (by have := hC0.2.1; omega) (by omega)
  have dl : decide (0 ≤ line) = true := by decide
  obtain ⟨c', J', el⟩ := build_j (S := S) (g := gN 3) (b := B1__law_stacked) (E := fun (c : Option T × Option T × Option T × Option T × Option T) => [some (tCs Cs), some (nI Cs.length), some (.obj S.length), c.1, c.2.1, c.2.2.1, c.2.2.2.1, c.2.2.2.2]) (h := fun (i : Nat) => nI i) (f := fun p => tR ((List.range (w * Cs.length)).map fun e => stk Cs p e)) (K := 1000) (xs := List.range (m * Cs.length))
    (fun p hp c acc J ha => by
      have hp : p < m * Cs.length := by simpa using hp
      obtain ⟨c2, J2, e2⟩ := build_j (S := S ++ .lst acc :: J) (g := gN 5) (b := B2__law_stacked) (E := sEnv Cs S.length p (S ++ .lst acc :: J).length) (h := fun (i : Nat) => nI i) (f := fun e => .int (stk Cs p e)) (K := 1000) (xs := List.range (w * Cs.length))
        (fun e he c ra J3 hra => ⟨(some (nI e), c.2), rfl, _, J3, ls_b2 h hp (by simpa using he) rfl hra⟩) (c.2.2.1, c.2.2.2.1, c.2.2.2.2) [] [] (by simp; omega)
      refine ⟨(some (nI p), c.2), rfl, (some (nI p), some (.obj (S ++ .lst acc :: J).length), c2.1, c2.2.1, c2.2.2), J ++ .lst ((List.range (w * Cs.length)).map fun e => .int (stk Cs p e)) :: J2, ?_⟩
      have ef := for_range (S := (S ++ .lst acc :: J) ++ [.lst []]) (fe := Mi.e2 mulL (eB fLen (aCons (Mi.e2 ixA (Mi.e2 ixA (eVar 0) (eC (.int 0))) (eC (.int 0))) aNil)) (eVar 1)) (g := gN 5) (b := B2__law_stacked) (ρ := sEnv Cs S.length p (S ++ .lst acc :: J).length (c.2.2.1, c.2.2.2.1, c.2.2.2.2)) (m := w * Cs.length) (by simp only [Mi.e2_e, eB_e, aCons_e, aNil_e, eVar_s, eVar_z, eC_e, bind_ok, ix0, ix00, len_tup, List.length_map, hl0, m1]) (by omega)
      rw [e2, List.nil_append] at ef
      have et := tup_obj (S := (S ++ .lst acc :: J) ++ .lst ((List.range (w * Cs.length)).map fun e => .int (stk Cs p e)) :: J2) (n := (S ++ .lst acc :: J).length) (l := (List.range (w * Cs.length)).map fun e => .int (stk Cs p e)) (get_mid rfl)
      have ap := app_at (S := S ++ .lst acc :: (J ++ .lst ((List.range (w * Cs.length)).map fun e => .int (stk Cs p e)) :: J2)) (n := S.length) (l := acc) (v := tR ((List.range (w * Cs.length)).map fun e => stk Cs p e)) (ρ := sEnv Cs S.length p (S ++ .lst acc :: J).length c2) (fo := eVar 2) (fe := eB fTup (aCons (eVar 4) aNil)) (get_mid rfl) rfl (by
        rw [mid_app] at et
        simp only [eB_e, aCons_e, aNil_e, eVar_s, eVar_z, bind_ok, et, tR, List.map_map, Function.comp_def]) (by omega) pure_tR
      rw [set_mid rfl] at ap
      have e0 : sSet 4 (eKeep true (nLst aNil)) [some (tCs Cs), some (nI Cs.length), some (.obj S.length), some (nI p), c.2.1, c.2.2.1, c.2.2.2.1, c.2.2.2.2] (S ++ .lst acc :: J) = .go (.nx (sEnv Cs S.length p (S ++ .lst acc :: J).length (c.2.2.1, c.2.2.2.1, c.2.2.2.2))) ((S ++ .lst acc :: J) ++ [.lst []]) := by
        simp only [sSet_e, eKeep_t, nLst_e, aNil_e, bind_ok, List.length_nil, dl, Mi.if_true, pures_nil, then_ok, List.set_cons_succ, List.set_cons_zero]
      rw [B1__law_stacked, sSeq_e, e0, seq_nx, sSeq_e, ef, seq_nx, sSeq_e, sDrop_e]
      rw [mid_app, ap]
      simp only [then_ok, seq_nx, sNil_e]) (none, none, none, none, none) [] [] (by simp; omega)
  have ef := for_range (S := S ++ [.lst []]) (fe := Mi.e2 mulL (eB fLen (aCons (Mi.e2 ixA (eVar 0) (eC (.int 0))) aNil)) (eVar 1)) (g := gN 3) (b := B1__law_stacked) (ρ := [some (tCs Cs), some (nI Cs.length), some (.obj S.length), none, none, none, none, none]) (m := m * Cs.length) (by simp only [Mi.e2_e, eB_e, aCons_e, aNil_e, eVar_s, eVar_z, eC_e, bind_ok, ix0, len_tup, List.length_map, hC0.1, m2]) (by omega)
  rw [el, List.nil_append] at ef
  have et := tup_obj (S := S ++ .lst ((List.range (m * Cs.length)).map fun p => tR ((List.range (w * Cs.length)).map fun e => stk Cs p e)) :: J') (n := S.length) (l := (List.range (m * Cs.length)).map fun p => tR ((List.range (w * Cs.length)).map fun e => stk Cs p e)) (get_mid rfl)
  refine (fnOf_e (S := S)).trans ?_
  have fin : D__law_stacked [some (tCs Cs), none, none, none, none, none, none, none] S = .go (.rt (cl (stkd m w Cs))) (S ++ .lst ((List.range (m * Cs.length)).map fun p => tR ((List.range (w * Cs.length)).map fun e => stk Cs p e)) :: J') := by
    simp only [D__law_stacked, sSeq_e, sSet_e, eB_e, aCons_e, aNil_e, eVar_s, eVar_z, bind_ok, len_tup, List.length_map, then_ok, seq_nx, List.set_cons_succ, List.set_cons_zero, eKeep_t, nLst_e, List.length_nil, dl, Mi.if_true, pures_nil, ef, sRet_e, et, seq_rt]
    simp only [cl, stkd, List.map_map, Function.comp_def]
  show outR S.length (D__law_stacked [some (tCs Cs), none, none, none, none, none, none, none] S) = _
  rw [fin, outR_rt2 (S := S) (S1 := S) pure_cl rfl]
/-! ### pairs -/
abbrev tP (x : Nat × Nat) : T := .tup [nI x.1, nI x.2]
theorem eqv_P {a b : Nat × Nat} : T.eqv (tP a) (tP b) = decide (a = b) := by
  obtain ⟨a1, a2⟩ := a
  obtain ⟨b1, b2⟩ := b
  simp only [T.eqv, T.eqvs, beq_nat, Bool.and_true, Prod.mk.injEq, Bool.decide_and]
theorem in_P {P : List (Nat × Nat)} {x : Nat × Nat} : inD id S (tP x) (.tup (P.map tP)) = .ok (.bl (decide (x ∈ P))) S := by
  have e1 : (tP x).dat 60 = true := by rfl
  have e2 : (T.tup (P.map tP)).dat 60 = true := by
    show (P.map tP).all (T.dat 59) = true
    rw [List.all_map, List.all_eq_true]
    intro y _
    rfl
  have e3 : ((P.map tP).any fun z => T.eqv z (tP x)) = decide (x ∈ P) := by
    rw [List.any_map]
    have : ((fun z => T.eqv z (tP x)) ∘ tP) = fun y => decide (y = x) := by
      funext y
      exact eqv_P
    rw [this, Bool.eq_iff_iff]
    simp only [List.any_eq_true, decide_eq_true_eq, exists_eq_right]
  show R.if ((tP x).dat 60 && (T.tup (P.map tP)).dat 60) (R.ok (T.bl (id ((P.map tP).any fun z => T.eqv z (tP x)))) S) = _
  rw [e1, e2, e3]
  rfl
def g2 (X : List (List Int)) (p e : Nat) : Int := (X.getD p []).getD e 0
theorem g2_ix {m w : Nat} {X : List (List Int)} (h : Cl m w X) {p e : Nat} (hp : p < m) (he : e < w) : ∃ r, ixA S (cl X) (nI p) = .ok (tR r) S ∧ ixA S (tR r) (nI e) = .ok (.int (g2 X p e)) S := by
  have h2 := ix_tm (S := S) (xs := X) (f := tR) (d := []) (i := (p : Int)) (by omega) (by rw [h.1]; omega)
  have hr := h.2.2.2 _ (Mi.getD_mem (d := []) (by rw [h.1]; exact hp))
  have h3 := ix_tm (S := S) (xs := X.getD p []) (f := T.int) (d := 0) (i := (e : Int)) (by omega) (by rw [hr.1]; omega)
  rw [Int.toNat_natCast] at h2 h3
  exact ⟨_, h2, h3⟩
/-- the crossings of P turned -/
def trn (m w : Nat) (X : List (List Int)) (P : List (Nat × Nat)) : List (List Int) := (List.range m).map fun p => (List.range w).map fun e => if (p, e) ∈ P then 1 - g2 X p e else g2 X p e
theorem law_turned_e {m w : Nat} {X : List (List Int)} {P : List (Nat × Nat)} (h : Cl m w X) : F__law_turned [cl X, .tup (P.map tP)] S = .ok (cl (trn m w X P)) S := by
  obtain ⟨r0, hr0, hl0, ix0⟩ := ix0_cl h
  have dl : decide (2 ≤ line) = true := by decide
  refine fn_e pure_cl ?_
  show D__law_turned [some (cl X), some (.tup (P.map tP)), none, none] S = _
  have c1 := compR_e (S := S) (ρ := [some (cl X), some (.tup (P.map tP)), none, none]) (m := m) (r := fun p => tR ((List.range w).map fun e => if (p, e) ∈ P then 1 - g2 X p e else g2 X p e)) (fe := eB fLen (aCons (eVar 0) aNil)) (g := gN 2) (e := E1__law_turned) (vs := [2]) (by simp [h.1]) (by have := h.2.1; omega) fun p hp => ⟨_, rfl, by
    have c2 := compR_e (S := S) (ρ := [some (cl X), some (.tup (P.map tP)), some (nI p), none]) (m := w) (r := fun e => .int (if (p, e) ∈ P then 1 - g2 X p e else g2 X p e)) (fe := eB fLen (aCons (Mi.e2 ixA (eVar 0) (eC (.int 0))) aNil)) (g := gN 3) (e := E2__law_turned) (vs := [3]) (by simp [ix0, hl0]) (by have := h.2.2.1; omega) fun e he => ⟨_, rfl, by
      obtain ⟨r, i1, i2⟩ := g2_ix (S := S) h hp he
      have ei := in_P (S := S) (P := P) (x := (p, e))
      have ei' : inD id S (.tup [nI p, nI e]) (.tup (P.map tP)) = .ok (.bl (decide ((p, e) ∈ P))) S := ei
      by_cases c : (p, e) ∈ P
      · rw [decide_eq_true c] at ei'
        simp only [E2__law_turned, wipeE, List.set_cons_succ, List.set_cons_zero, eIf_e, bVal_e, Mi.e2_e, eTup_e, aCons_e, aNil_e, eVar_s, eVar_z, eC_e, bind_ok, List.length_cons, List.length_nil, Nat.zero_add, Nat.reduceAdd, dl, Mi.if_true, ei', i1, i2, sub_ii, if_pos c]
      · rw [decide_eq_false c] at ei'
        simp only [E2__law_turned, wipeE, List.set_cons_succ, List.set_cons_zero, eIf_e, bVal_e, Mi.e2_e, eTup_e, aCons_e, aNil_e, eVar_s, eVar_z, eC_e, bind_ok, List.length_cons, List.length_nil, Nat.zero_add, Nat.reduceAdd, dl, Mi.if_true, ei', i1, i2, if_neg c]⟩
    simp only [E1__law_turned, wipeE, List.set_cons_succ, List.set_cons_zero, eB_e, aCons_e, aNil_e, eFrz_e, c2, bind_ok, tup_lst, tR, List.map_map, Function.comp_def]⟩
  simp only [D__law_turned, sSeq_e, sRet_e, eB_e, aCons_e, aNil_e, eFrz_e, c1, bind_ok, tup_lst, then_ok, seq_rt, cl, trn, List.map_map, Function.comp_def]
/-- crossings of threads of unlike cloths -/
def btw (m w n : Nat) : List (Nat × Nat) := (List.range m).flatMap fun p => ((List.range w).filter fun e => !decide (p % n = e % n)).map fun e => (p, e)
theorem between_e {m w : Nat} {X : List (List Int)} (h : Cl m w X) (hn : 1 ≤ n ∧ n ≤ 24) : F__law_between [cl X, nI n] S = .ok (.lst ((btw m w n).map tP)) S := by
  obtain ⟨r0, hr0, hl0, ix0⟩ := ix0_cl h
  have hm := h.2.1
  have hw := h.2.2.1
  have dl : decide (2 ≤ line) = true := by decide
  have dl0 : decide (0 ≤ line) = true := by decide
  refine fn_e (pures_map fun _ _ => by rfl) ?_
  show D__law_between [some (cl X), some (nI n), none, none, none] S = _
  have el := fold_v (S := S) (g := gN 3) (b := B1__law_between) (E := fun (c : List (Nat × Nat) × Option T) => [some (cl X), some (nI n), some (.lst (c.1.map tP)), c.2, none]) (h := fun (i : Nat) => nI i)
    (F := fun c p => (c.1 ++ ((List.range w).filter fun e => !decide (p % n = e % n)).map (fun e => (p, e)), some (nI p))) (I := fun xs c => c.1.length + 24 * xs.length ≤ 10000)
    (fun p xs c hI => ⟨_, rfl, by
      have m1 := mod_nn (S := S) (a := p) (b := n) (by omega)
      have c1 := compF_e (S := S) (ρ := [some (cl X), some (nI n), some (.lst (c.1.map tP)), some (nI p), none]) (xs := List.range w) (h := fun (i : Nat) => nI i) (r := fun e => tP (p, e)) (c := fun e => !decide (p % n = e % n)) (f := iRange1 (eB fLen (aCons (Mi.e2 ixA (eVar 0) (eC (.int 0))) aNil))) (g := gN 4) (b := Q2__law_between) (e := E2__law_between) (vs := [4])
        (range1_n (by simp only [eB_e, aCons_e, aNil_e, Mi.e2_e, eVar_z, eC_e, bind_ok, ix0, len_tup, List.length_map, hl0]) (by omega)) (by rw [List.length_range]; omega) fun e he => ⟨_, rfl, by
          have m2 := mod_nn (S := S) (a := e) (b := n) (by omega)
          simp only [Q2__law_between, wipeE, List.set_cons_succ, List.set_cons_zero, bVal_e, Mi.e2_e, eB_e, aCons_e, aNil_e, eVar_s, eVar_z, bind_ok, int_i, m1, m2, ne_ii, beq_nat], fun _ => by
          simp only [E2__law_between, wipeE, List.set_cons_succ, List.set_cons_zero, eTup_e, aCons_e, aNil_e, eVar_s, eVar_z, bind_ok, List.length_cons, List.length_nil, Nat.zero_add, Nat.reduceAdd, dl, Mi.if_true]⟩
      have lf := List.length_filter_le (fun e => !decide (p % n = e % n)) (List.range w)
      rw [List.length_range] at lf
      rw [List.length_cons] at hI
      have a1 : addL S (.lst (c.1.map tP)) (.lst (((List.range w).filter fun e => !decide (p % n = e % n)).map fun e => tP (p, e))) = .ok (.lst (c.1.map tP ++ ((List.range w).filter fun e => !decide (p % n = e % n)).map fun e => tP (p, e))) S := by
        have d : decide ((c.1.map tP).length + (((List.range w).filter fun e => !decide (p % n = e % n)).map fun e => tP (p, e)).length ≤ line) = true := decide_eq_true (by rw [List.length_map, List.length_map]; show _ ≤ 16777216; omega)
        unfold addL
        simp only [isL, rdL, d, Mi.if_true]
      constructor
      · simp only [B1__law_between, sSeq_e, sSet_e, Mi.e2_e, eFrz_e, eVar_s, eVar_z, c1, bind_ok, a1, then_ok, List.set_cons_succ, List.set_cons_zero, seq_nx, sNil_e, List.map_append, List.map_map, Function.comp_def]
      · simp only [List.length_append, List.length_map]
        omega⟩) (List.range m) ([], none) (by simp; omega)
  have er := for_range (S := S) (fe := eB fLen (aCons (eVar 0) aNil)) (g := gN 3) (b := B1__law_between) (ρ := [some (cl X), some (nI n), some (.lst []), none, none]) (m := m) (by simp [h.1]) (by omega)
  have fl : ∀ (xs : List Nat) (c : List (Nat × Nat) × Option T), (xs.foldl (fun c p => (c.1 ++ ((List.range w).filter fun e => !decide (p % n = e % n)).map (fun e => (p, e)), some (nI p))) c).1 = c.1 ++ xs.flatMap fun p => ((List.range w).filter fun e => !decide (p % n = e % n)).map fun e => (p, e) := by
    intro xs
    induction xs with
    | nil => intro c; simp
    | cons x xs ih => intro c; rw [List.foldl_cons, ih, List.flatMap_cons, List.append_assoc]
  have el' := er.trans el
  simp only [D__law_between, sSeq_e, sSet_e, eFrz_e, nLst_e, aNil_e, bind_ok, List.length_nil, dl0, Mi.if_true, then_ok, List.set_cons_succ, List.set_cons_zero, seq_nx, el', sRet_e, eVar_s, eVar_z, fl, List.nil_append, seq_rt, btw]
end
end L61
end

section
set_option Elab.async false
set_option linter.all false
set_option maxRecDepth 100000
set_option maxHeartbeats 2000000
set_option exponentiation.threshold 9000
/-! K61c: stacked and stitched of the program -/
namespace L61
open PySem PySem.Spec L2 Mi Cm
section
variable {S : Sto} {n : Nat} {p q : Int} {ds : List Int} {ρ : Mi.Env} {α β γ : Type}
theorem is_cloth_e {m w : Nat} {rows : List (List Int)} (h : Cl m w rows) : F_is_cloth [cl rows] S = .ok (.bl true) S := by
  refine fn_e (by rfl) ?_
  show D_is_cloth [some (cl rows)] S = _
  have e : sSeq (sDrop (eCall F_check_cloth 1 [] (aCons (eVar 0) aNil))) sNil [some (cl rows)] S = .go (.nx [some (cl rows)]) S := by
    simp only [sSeq_e, sDrop_e, eCall_e, aCons_e, aNil_e, eVar_z, bind_ok, List.length_cons, List.length_nil, beq_self_eq_true, Mi.if_true, check_e h, then_ok, seq_nx, sNil_e]
  rw [D_is_cloth, sSeq_e]
  unfold sTryV
  rw [e]
  simp only [seq_nx, sSeq_e, sRet_e, eC_e, then_ok, seq_rt]
theorem demand_cloths_e {m w : Nat} {Cs : List (List (List Int))} (h : Cls m w Cs) : F_demand_cloths [tCs Cs] S = .ok .non S := by
  obtain ⟨C0, hC0, ix0⟩ := ixCs0 h
  have hn := h.1
  refine fn_nx (ρ := [some (tCs Cs), none]) ?_
  show D_demand_cloths [some (tCs Cs), none] S = _
  have c1 := comp_e (S := S) (ρ := [some (tCs Cs), none]) (xs := Cs) (h := cl) (r := fun _ => .bl true) (f := iAny (eVar 0)) (g := gN 1) (e := E2_demand_cloths) (vs := [1]) (iAny_tup rfl) (by omega) fun x hx => ⟨_, rfl, by
    simp only [E2_demand_cloths, wipeE, List.set_cons_succ, List.set_cons_zero, eCall_e, aCons_e, aNil_e, eVar_s, eVar_z, bind_ok, List.length_cons, List.length_nil, beq_self_eq_true, Mi.if_true, is_cloth_e (h.2 x hx)]⟩
  have fs : fit 60 (.tup [nI m, nI w]) = true := by
    have h1 := hC0.2.1
    have h2 := hC0.2.2.1
    show [nI m, nI w].all (fit 59) = true
    have f1 : fit 59 (nI m) = true := decide_eq_true (by rw [Int.natAbs_natCast]; omega)
    have f2 : fit 59 (nI w) = true := decide_eq_true (by rw [Int.natAbs_natCast]; omega)
    simp only [List.all_cons, List.all_nil, f1, f2, Bool.and_self]
  have c2 := comp_e (S := S) (ρ := [some (tCs Cs), none]) (xs := Cs) (h := cl) (r := fun _ => .bl true) (f := iAny (eVar 0)) (g := gN 1) (e := E1_demand_cloths) (vs := [1]) (iAny_tup rfl) (by omega) fun x hx => ⟨_, rfl, by
    simp only [E1_demand_cloths, wipeE, List.set_cons_succ, List.set_cons_zero, Mi.e2_e, eCall_e, aCons_e, aNil_e, eVar_s, eVar_z, eC_e, bind_ok, List.length_cons, List.length_nil, beq_self_eq_true, Mi.if_true, size_of_e (h.2 x hx), ix0, size_of_e hC0, eq_same fs]⟩
  have a1 := all_true (S := S) (l := Cs.map fun _ => T.bl true) (by simp)
  have d1 : decide ((1 : Int) ≤ Cs.length) = true := decide_eq_true (by omega)
  have d2 : decide ((Cs.length : Int) ≤ 4) = true := decide_eq_true (by omega)
  simp only [D_demand_cloths, sSeq_e, sIf_e, bOr_e, bNot_e, bTru_e, bVal_e, eIs_e, eB_e, aCons_e, aNil_e, eFrz_e, eChain_e, Mi.e2_e, eC_e, eVar_z, bind_ok, ty_tup, kin_tup, tru_bl, c1, c2, a1, then_ok, len_tup, List.length_map, le_ii, d1, d2, Bool.not_true, Bool.not_false, seq_nx, sNil_e]
theorem demand_size_e {m w : Nat} {Cs : List (List (List Int))} (h : Cls m w Cs) (h1 : m * Cs.length ≤ 24) (h2 : w * Cs.length ≤ 24) : F_demand_size [tCs Cs] S = .ok .non S := by
  obtain ⟨C0, hC0, ix0⟩ := ixCs0 h
  have hn := h.1
  refine fn_nx (ρ := [some (tCs Cs), some (nI m), some (nI w)]) ?_
  show D_demand_size [some (tCs Cs), none, none] S = _
  have m1 := mul_nn (S := S) (a := w) (b := Cs.length) (by have := hC0.2.2.1; omega) (by omega)
  have m2 := mul_nn (S := S) (a := m) (b := Cs.length) (by have := hC0.2.1; omega) (by omega)
  have as : sAsg (gTupM 2 (gsCons (gN 1) (gsCons (gN 2) gsNil))) (eCall F_size_of 1 [] (aCons (Mi.e2 ixA (eVar 0) (eC (.int 0))) aNil)) [some (tCs Cs), none, none] S = .go (.nx [some (tCs Cs), some (nI m), some (nI w)]) S := by
    rw [sAsg_e]
    simp only [eCall_e, aCons_e, aNil_e, Mi.e2_e, eVar_z, eC_e, bind_ok, ix0, List.length_cons, List.length_nil, beq_self_eq_true, Mi.if_true, size_of_e hC0, then_ok]
    rfl
  have d1 : decide ((24 : Int) < ((m * Cs.length : Nat) : Int)) = false := decide_eq_false (by omega)
  have d2 : decide ((24 : Int) < ((w * Cs.length : Nat) : Int)) = false := decide_eq_false (by omega)
  simp only [D_demand_size, sSeq_e, as, seq_nx, sIf_e, bOr_e, bVal_e, Mi.e2_e, eB_e, aCons_e, aNil_e, eVar_s, eVar_z, eC_e, bind_ok, len_tup, List.length_map, m1, m2, gt_ii, d1, d2, then_ok, sNil_e]
theorem big_size_e {m w : Nat} {Cs : List (List (List Int))} (h : Cls m w Cs) (h1 : 24 < m * Cs.length) : F_demand_size [tCs Cs] S = .exc "TooMany" [("reason", .str "size")] S := by
  obtain ⟨C0, hC0, ix0⟩ := ixCs0 h
  have hn := h.1
  refine fn_exs (ρ := [some (tCs Cs), some (nI m), some (nI w)]) ?_
  show D_demand_size [some (tCs Cs), none, none] S = _
  have m2 := mul_nn (S := S) (a := m) (b := Cs.length) (by have := hC0.2.1; omega) (by omega)
  have as : sAsg (gTupM 2 (gsCons (gN 1) (gsCons (gN 2) gsNil))) (eCall F_size_of 1 [] (aCons (Mi.e2 ixA (eVar 0) (eC (.int 0))) aNil)) [some (tCs Cs), none, none] S = .go (.nx [some (tCs Cs), some (nI m), some (nI w)]) S := by
    rw [sAsg_e]
    simp only [eCall_e, aCons_e, aNil_e, Mi.e2_e, eVar_z, eC_e, bind_ok, ix0, List.length_cons, List.length_nil, beq_self_eq_true, Mi.if_true, size_of_e hC0, then_ok]
    rfl
  have d1 : decide ((24 : Int) < ((m * Cs.length : Nat) : Int)) = true := decide_eq_true (by omega)
  simp only [D_demand_size, sSeq_e, as, seq_nx, sIf_e, bOr_e, bVal_e, Mi.e2_e, eB_e, aCons_e, aNil_e, eVar_s, eVar_z, eC_e, bind_ok, len_tup, List.length_map, m2, gt_ii, d1, then_ok, sRaise, seq_exc]
theorem stacked_e {m w : Nat} {Cs : List (List (List Int))} (h : Cls m w Cs) (h1 : m * Cs.length ≤ 24) (h2 : w * Cs.length ≤ 24) : F_stacked [tCs Cs] S = .ok (cl (stkd m w Cs)) S := by
  refine fn_e pure_cl ?_
  show D_stacked [some (tCs Cs)] S = _
  simp only [D_stacked, sSeq_e, sDrop_e, eCall_e, aCons_e, aNil_e, eVar_z, bind_ok, List.length_cons, List.length_nil, beq_self_eq_true, Mi.if_true, demand_cloths_e h, demand_size_e h h1 h2, then_ok, seq_nx, sRet_e, stacked_of_e h, seq_rt]
/-! ### stitches -/
/-- right stitches of n cloths -/
def Sti (m w n : Nat) (P : List (Nat × Nat)) : Prop := P.length ≤ 1000 ∧ ∀ x ∈ P, x.1 < m * n ∧ x.2 < w * n ∧ x.1 % n ≠ x.2 % n
theorem ixP0 {x : Nat × Nat} : ixA S (tP x) (.int 0) = .ok (nI x.1) S := ix_tup (by rw [at_in (by omega) (by simp)]; rfl)
theorem ixP1 {x : Nat × Nat} : ixA S (tP x) (.int 1) = .ok (nI x.2) S := ix_tup (by rw [at_in (by omega) (by simp)]; rfl)
theorem is_int_n {i : Int} : F_is_integer [.int i] S = .ok (.bl true) S := is_integer_e rfl
theorem ints2_e {a b c d e : Option T} {x : Nat × Nat} : nComp (iAny (eVar 0)) (gN 5) bYes E1_is_stitch [5] [some (tP x), a, b, c, d, e] S = .ok [.bl true, .bl true] S :=
  comp_e (S := S) (xs := [x.1, x.2]) (h := nI) (r := fun _ => .bl true) (iAny_tup rfl) (by simp) fun y hy => ⟨_, rfl, by
    simp only [E1_is_stitch, wipeE, List.set_cons_succ, List.set_cons_zero, eCall_e, aCons_e, aNil_e, eVar_s, eVar_z, bind_ok, List.length_cons, List.length_nil, Mi.if_true, beq_self_eq_true, is_int_n]⟩
theorem is_stitch_e {m w : Nat} {Cs : List (List (List Int))} {x : Nat × Nat} (h : Cls m w Cs) (h1 : x.1 < m * Cs.length) (h2 : x.2 < w * Cs.length) (h3 : x.1 % Cs.length ≠ x.2 % Cs.length) : F_is_stitch [tP x, tCs Cs] S = .ok (.bl true) S := by
  obtain ⟨C0, hC0, ix0⟩ := ixCs0 h
  have hn := h.1
  refine fn_e (by rfl) ?_
  show D_is_stitch [some (tP x), some (tCs Cs), none, none, none, none] S = _
  have c1 := ints2_e (S := S) (x := x) (a := some (tCs Cs)) (b := none) (c := none) (d := none) (e := none)
  have a1 := all_true (S := S) (l := [T.bl true, T.bl true]) (by simp)
  have t2 : ((2 : Int) == 2) = true := by decide
  have m1 := mul_nn (S := S) (a := w) (b := Cs.length) (by have := hC0.2.2.1; omega) (by omega)
  have m2 := mul_nn (S := S) (a := m) (b := Cs.length) (by have := hC0.2.1; omega) (by omega)
  have as : sAsg (gTupM 2 (gsCons (gN 3) (gsCons (gN 4) gsNil))) (eCall F_size_of 1 [] (aCons (Mi.e2 ixA (eVar 1) (eC (.int 0))) aNil)) [some (tP x), some (tCs Cs), none, none, none, none] S = .go (.nx [some (tP x), some (tCs Cs), none, some (nI m), some (nI w), none]) S := by
    rw [sAsg_e]
    simp only [eCall_e, aCons_e, aNil_e, Mi.e2_e, eVar_s, eVar_z, eC_e, bind_ok, ix0, List.length_cons, List.length_nil, beq_self_eq_true, Mi.if_true, size_of_e hC0, then_ok]
    rfl
  have d1 : decide ((0 : Int) ≤ x.1) = true := decide_eq_true (by omega)
  have d2 : decide ((0 : Int) ≤ x.2) = true := decide_eq_true (by omega)
  have d3 : decide ((x.1 : Int) < ((m * Cs.length : Nat) : Int)) = true := decide_eq_true (by omega)
  have d4 : decide ((x.2 : Int) < ((w * Cs.length : Nat) : Int)) = true := decide_eq_true (by omega)
  have q1 := mod_nn (S := S) (a := x.1) (b := Cs.length) (by omega)
  have q2 := mod_nn (S := S) (a := x.2) (b := Cs.length) (by omega)
  have b1 : ((((x.1 % Cs.length : Nat) : Int)) == ((x.2 % Cs.length : Nat) : Int)) = false := by rw [beq_nat, decide_eq_false h3]
  have hlen : (([nI x.1, nI x.2].length : Nat) : Int) = 2 := rfl
  simp only [D_is_stitch, sSeq_e, sIf_e, bOr_e, bNot_e, bTru_e, bVal_e, eIs_e, eB_e, aCons_e, aNil_e, eFrz_e, eChain_e, Mi.e2_e, eC_e, eVar_s, eVar_z, bind_ok, ty_tup, kin_tup, tru_bl, len_tup, hlen, ne_ii, t2, c1, a1, Bool.not_true, Bool.not_false, then_ok, sNil_e, seq_nx, as, sSet_e, List.length_map, List.set_cons_succ, List.set_cons_zero, ixP0, ixP1, le_ii, lt_ii, m1, m2, d1, d2, d3, d4, sRet_e, q1, q2, b1, seq_rt]
/-- ascending -/
def asc (x y : Nat × Nat) : Bool := if x.1 = y.1 then decide (x.2 < y.2) else decide (x.1 < y.1)
theorem lt_P {x y : Nat × Nat} : ltA S (tP x) (tP y) = .ok (.bl (asc x y)) S := by
  show R.ok (T.bl (Mi.lexLt [(x.1 : Int), (x.2 : Int)] [(y.1 : Int), (y.2 : Int)])) S = _
  have : Mi.lexLt [(x.1 : Int), (x.2 : Int)] [(y.1 : Int), (y.2 : Int)] = asc x y := by
    unfold asc
    simp only [Mi.lexLt]
    by_cases h : x.1 = y.1
    · rw [if_pos h, if_pos (by omega)]
      by_cases h2 : x.2 = y.2
      · rw [if_pos (by omega), decide_eq_false (by omega)]
      · rw [if_neg (by omega), lt_nat]
    · rw [if_neg h, if_neg (by omega), lt_nat]
  rw [this]
def Asc : List (Nat × Nat) → Prop
  | x :: y :: l => asc x y = true ∧ Asc (y :: l)
  | _ => True
theorem zip_asc {P : List (Nat × Nat)} (h : Asc P) : ∀ z ∈ List.zipWith (fun x y : Nat × Nat => (x, y)) P.dropLast P.tail, asc z.1 z.2 = true := by
  induction P with
  | nil => intro z hz; cases hz
  | cons x l ih =>
    cases l with
    | nil => intro z hz; cases hz
    | cons y l =>
      intro z hz
      rw [List.dropLast_cons₂, List.tail_cons, List.zipWith_cons_cons] at hz
      rcases List.mem_cons.mp hz with k | k
      · rw [k]; exact h.1
      · exact ih h.2 z k
theorem cut_last {P : List (Nat × Nat)} : cutT (P.map tP) none (some (-1)) = P.dropLast.map tP := by
  unfold cutT
  have e : HT.sIx (P.map tP).length (P.map tP).length (some (-1)) = P.length - 1 := by
    unfold HT.sIx
    simp only []
    rw [if_pos (by omega), List.length_map]
    omega
  have e0 : HT.sIx (P.map tP).length 0 none = 0 := rfl
  rw [e, e0, List.drop_zero, List.dropLast_eq_take, List.map_take]
  rfl
theorem cut_tail {P : List (Nat × Nat)} : cutT (P.map tP) (some 1) none = P.tail.map tP := by
  unfold cutT
  have e : HT.sIx (P.map tP).length 0 (some 1) = min 1 P.length := by
    have := HT.sIx_nat (P.map tP).length 0 1
    rw [List.length_map] at this ⊢
    exact this
  have e0 : HT.sIx (P.map tP).length (P.map tP).length none = P.length := by rw [List.length_map]; rfl
  rw [e, e0]
  cases P with
  | nil => rfl
  | cons x l =>
    have : (l.map tP).take l.length = l.map tP := List.take_of_length_le (by simp)
    simp [this]
end
end L61
end

section
set_option Elab.async false
set_option linter.all false
set_option maxRecDepth 100000
set_option maxHeartbeats 2000000
set_option exponentiation.threshold 9000
/-! K61d: stitched -/
namespace L61
open PySem PySem.Spec L2 Mi Cm
section
variable {S : Sto} {n : Nat} {p q : Int} {ds : List Int} {ρ : Mi.Env} {α β γ : Type}
theorem sam_P {a b : Nat × Nat} : T.sam (tP a) (tP b) = decide (a = b) := by
  obtain ⟨a1, a2⟩ := a
  obtain ⟨b1, b2⟩ := b
  simp only [T.sam, T.sams, beq_nat, Bool.and_true, Prod.mk.injEq, Bool.decide_and]
theorem look_any {l : List (T × T)} {z : T} : (lookT l z).isSome = l.any fun p => T.sam p.1 z := by
  unfold lookT
  rw [Option.isSome_map]
  induction l with
  | nil => rfl
  | cons a l ih =>
    rw [List.find?_cons, List.any_cons]
    cases T.sam a.1 z with
    | true => rfl
    | false => rw [Bool.false_or]; exact ih
theorem all_tr {xs : List β} : fAll S [.lst (xs.map fun _ => T.bl true)] = .ok (.bl true) S := all_true fun t ht => by
  obtain ⟨x, _, h⟩ := List.mem_map.mp ht
  exact h.symm
theorem look_put {l : List (T × T)} {y v z : T} : (lookT (putT l y v) z).isSome = ((lookT l z).isSome || T.sam y z) := by
  rw [look_any, look_any]
  unfold putT
  split
  · rename_i h
    rw [List.any_map]
    have e1 : ((fun p : T × T => T.sam p.1 z) ∘ fun p : T × T => if T.sam p.1 y = true then (p.1, v) else p) = fun p => T.sam p.1 z := by
      funext p
      simp only [Function.comp]
      split <;> rfl
    rw [e1]
    cases hs : T.sam y z with
    | false => rw [Bool.or_false]
    | true =>
      rw [Bool.or_true]
      obtain ⟨p, h1, h2⟩ := List.any_eq_true.mp h
      have ey := T.sam_eq h2
      exact List.any_eq_true.mpr ⟨p, h1, by rw [ey]; exact hs⟩
  · rw [List.any_append, List.any_cons, List.any_nil, Bool.or_false]
def stD (acc : List (T × T)) (P : List (Nat × Nat)) : List (T × T) := P.foldl (fun a x => putT a (tP x) (.bl true)) acc
theorem look_dd {P : List (Nat × Nat)} {y : Nat × Nat} : ∀ {acc : List (T × T)}, (lookT (stD acc P) (tP y)).isSome = ((lookT acc (tP y)).isSome || decide (y ∈ P)) := by
  induction P with
  | nil => intro acc; simp [stD]
  | cons x P ih =>
    intro acc
    show (lookT (stD (putT acc (tP x) (.bl true)) P) (tP y)).isSome = _
    rw [ih, look_put, sam_P, Bool.or_assoc]
    congr 1
    rw [Bool.eq_iff_iff]
    simp only [Bool.or_eq_true, decide_eq_true_eq, List.mem_cons]
    constructor
    · rintro (h | h)
      · exact .inl h.symm
      · exact .inr h
    · rintro (h | h)
      · exact .inl h.symm
      · exact .inr h
theorem dq_all {i : Nat} (hi : i < ρ.length) : ∀ {P : List (Nat × Nat)} {acc : List (T × T)}, dqL (fun _ => true) (gN i) i (.bl true) true ρ S (P.map tP) acc = some (stD acc P)
  | [], acc => by
    show (if true = true then some acc else none) = _
    rw [if_pos rfl]
    rfl
  | x :: P, acc => by
    have e : (ρ.set i (some (tP x)))[i]? = some (some (tP x)) := by rw [List.getElem?_set_self hi]
    rw [List.map_cons]
    unfold dqL
    rw [if_pos rfl]
    simp only [gN_e, e]
    have k : keyOk true (tP x) = true := rfl
    rw [if_pos k, dq_all hi]
    rfl
/-- the dict of the stitches -/
theorem dq_st {P : List (Nat × Nat)} {a b c d e f g h i j : Option T} (hl : P.length ≤ 100000) : eDq true (iAny (eVar 1)) (gN 6) 6 (.bl true) [6] [a, some (.tup (P.map tP)), b, c, d, e, f, g, h, i, j] S = .ok (.obj S.length) (S ++ [.dic true (stD [] P)]) := by
  unfold eDq
  have hi : iAny (eVar 1) [a, some (.tup (P.map tP)), b, c, d, e, f, g, h, i, j] S = .ok ⟨P.map tP, fun _ => true⟩ S := iAny_tup rfl
  have dl : decide ((P.map tP).length ≤ line) = true := decide_eq_true (by rw [List.length_map]; show P.length ≤ 16777216; omega)
  have dq := dq_all (S := S) (ρ := wipeE [a, some (.tup (P.map tP)), b, c, d, e, f, g, h, i, j] [6]) (i := 6) (P := P) (acc := []) (by simp [wipeE])
  rw [hi, bind_ok]
  simp only [dl, Mi.if_true, dq]
theorem enum_map {xs : List β} {f : β → T} {d : β} : enumT (xs.map f) = (List.range xs.length).map fun i => T.tup [nI i, f (xs.getD i d)] := by
  unfold enumT
  apply List.ext_getElem
  · simp
  · intro i h1 h2
    simp only [List.length_mapIdx, List.length_map] at h1
    simp [h1]
abbrev inS (S : Sto) (P : List (Nat × Nat)) : Sto := S ++ [.dic true (stD [] P)]
theorem in_known {P : List (Nat × Nat)} {x : Nat × Nat} {J : Sto} {k : Nat} (hk : k = S.length) : inD id (inS S P ++ J) (tP x) (.obj k) = .ok (.bl (decide (x ∈ P))) (inS S P ++ J) := by
  have e : dicOf (inS S P ++ J) (.obj k) = some (k, true, stD [] P) := by
    subst hk
    unfold dicOf
    have : (inS S P ++ J)[S.length]? = some (.dic true (stD [] P)) := by
      show ((S ++ [MO.dic true (stD [] P)]) ++ J)[S.length]? = _
      rw [List.append_assoc]
      exact get_mid rfl
    simp only [this]
  unfold inD
  rw [e]
  have k1 : keyOk true (tP x) = true := rfl
  have e0 : (lookT [] (tP x)).isSome = false := rfl
  simp only [k1, Mi.if_true, look_dd, e0, Bool.false_or, id]
theorem stkd_get {m w : Nat} {Cs : List (List (List Int))} {p e : Nat} (hp : p < m * Cs.length) (he : e < w * Cs.length) : g2 (stkd m w Cs) p e = stk Cs p e := by
  unfold g2 stkd
  rw [List.getD_eq_getElem?_getD, List.getD_eq_getElem?_getD]
  simp [hp, he]
theorem stkd_len {m w : Nat} {Cs : List (List (List Int))} : (stkd m w Cs).length = m * Cs.length := by simp [stkd]
theorem stkd_row {m w : Nat} {Cs : List (List (List Int))} {p : Nat} (hp : p < m * Cs.length) : ((stkd m w Cs).getD p []).length = w * Cs.length := by
  unfold stkd
  rw [List.getD_eq_getElem?_getD]
  simp [hp]
abbrev tEnv (Cs : List (List (List Int))) (P : List (Nat × Nat)) (k : Nat) (c : Option T × Option T) : Mi.Env := [some (tCs Cs), some (.tup (P.map tP)), some (.obj k), some (.obj (k + 1)), c.1, c.2, none, none, none, none, none]
theorem st_b1 {m w : Nat} {Cs : List (List (List Int))} {P : List (Nat × Nat)} {pk : Nat} {acc : List T} {J : Sto} (h : Cls m w Cs) (hp : pk < m * Cs.length) (ha : acc.length ≤ 1000) :
    B1_stitched (tEnv Cs P S.length (some (nI pk), some (tR ((stkd m w Cs).getD pk [])))) (inS S P ++ .lst acc :: J) = .go (.nx (tEnv Cs P S.length (some (nI pk), some (tR ((stkd m w Cs).getD pk []))))) (inS S P ++ .lst (acc ++ [tR ((List.range (w * Cs.length)).map fun e => if (pk, e) ∈ P then 1 - g2 (stkd m w Cs) pk e else g2 (stkd m w Cs) pk e)]) :: J) := by
  have hl := mul_le h
  have dl : decide (2 ≤ line) = true := by decide
  have hr := stkd_row (w := w) hp
  have c1 := comp_e (S := inS S P ++ .lst acc :: J) (ρ := tEnv Cs P S.length (some (nI pk), some (tR ((stkd m w Cs).getD pk [])))) (xs := List.range (w * Cs.length)) (h := fun e => T.tup [nI e, .int (((stkd m w Cs).getD pk []).getD e 0)]) (r := fun e => .int (if (pk, e) ∈ P then 1 - g2 (stkd m w Cs) pk e else g2 (stkd m w Cs) pk e)) (f := iEnumT (eVar 5)) (g := gTupM 2 (gsCons (gN 9) (gsCons (gN 10) gsNil))) (e := E2_stitched) (vs := [9, 10])
    (by rw [enum_it (.inr rfl), enum_map (d := 0), hr]) (by rw [List.length_range]; omega) fun e he => ⟨_, rfl, by
      have ei := in_known (S := S) (P := P) (x := (pk, e)) (J := .lst acc :: J) (k := S.length) rfl
      have ei' : inD id (inS S P ++ .lst acc :: J) (.tup [nI pk, nI e]) (.obj S.length) = .ok (.bl (decide ((pk, e) ∈ P))) (inS S P ++ .lst acc :: J) := ei
      by_cases c : (pk, e) ∈ P
      · rw [decide_eq_true c] at ei'
        simp only [E2_stitched, wipeE, List.set_cons_succ, List.set_cons_zero, eIf_e, bVal_e, Mi.e2_e, eTup_e, aCons_e, aNil_e, eVar_s, eVar_z, eC_e, bind_ok, List.length_cons, List.length_nil, Nat.zero_add, Nat.reduceAdd, dl, Mi.if_true, ei', sub_ii, if_pos c, g2]
      · rw [decide_eq_false c] at ei'
        simp only [E2_stitched, wipeE, List.set_cons_succ, List.set_cons_zero, eIf_e, bVal_e, Mi.e2_e, eTup_e, aCons_e, aNil_e, eVar_s, eVar_z, eC_e, bind_ok, List.length_cons, List.length_nil, Nat.zero_add, Nat.reduceAdd, dl, Mi.if_true, ei', if_neg c, g2]⟩
  have ap := app_at (S := inS S P ++ .lst acc :: J) (n := S.length + 1) (l := acc) (v := tR ((List.range (w * Cs.length)).map fun e => if (pk, e) ∈ P then 1 - g2 (stkd m w Cs) pk e else g2 (stkd m w Cs) pk e)) (ρ := tEnv Cs P S.length (some (nI pk), some (tR ((stkd m w Cs).getD pk [])))) (fo := eVar 3) (fe := eB fTup (aCons (eFrz (nComp (iEnumT (eVar 5)) (gTupM 2 (gsCons (gN 9) (gsCons (gN 10) gsNil))) bYes E2_stitched [9, 10])) aNil)) (get_mid (by simp)) rfl (by
    simp only [eB_e, aCons_e, aNil_e, eFrz_e, c1, bind_ok, tup_lst, tR, List.map_map, Function.comp_def]) (by omega) pure_tR
  rw [set_mid (by simp)] at ap
  simp only [B1_stitched, sSeq_e, sDrop_e, ap, then_ok, seq_nx, sNil_e]
theorem stitched_e {m w : Nat} {Cs : List (List (List Int))} {P : List (Nat × Nat)} (h : Cls m w Cs) (h1 : m * Cs.length ≤ 24) (h2 : w * Cs.length ≤ 24) (hP : Sti m w Cs.length P) (ha : Asc P) :
    F_stitched [tCs Cs, .tup (P.map tP)] S = .ok (cl (trn (m * Cs.length) (w * Cs.length) (stkd m w Cs) P)) S := by
  have hPl := hP.1
  have c1 := comp_e (S := S) (ρ := [some (tCs Cs), some (.tup (P.map tP)), none, none, none, none, none, none, none, none, none]) (xs := P) (h := tP) (r := fun _ => .bl true) (f := iAny (eVar 1)) (g := gN 6) (e := E4_stitched) (vs := [6]) (iAny_tup rfl) (by omega) fun x hx => ⟨_, rfl, by
    obtain ⟨a, b, c⟩ := hP.2 x hx
    simp only [E4_stitched, wipeE, List.set_cons_succ, List.set_cons_zero, eCall_e, aCons_e, aNil_e, eVar_s, eVar_z, bind_ok, List.length_cons, List.length_nil, beq_self_eq_true, Mi.if_true, is_stitch_e h a b c]⟩
  have a1 := all_tr (S := S) (xs := P)
  have hz : iZipT (aCons (eCut (eVar 1) oNone (oSome (e1 negT (eC (.int 1))))) (aCons (eCut (eVar 1) (oSome (eC (.int 1))) oNone) aNil)) [some (tCs Cs), some (.tup (P.map tP)), none, none, none, none, none, none, none, none, none] S = .ok ⟨(List.zipWith (fun x y : Nat × Nat => (x, y)) P.dropLast P.tail).map fun z => T.tup [tP z.1, tP z.2], fun _ => true⟩ S := by
    have x1 : eCut (eVar 1) oNone (oSome (e1 negT (eC (.int 1)))) [some (tCs Cs), some (.tup (P.map tP)), none, none, none, none, none, none, none, none, none] S = .ok (.tup (P.dropLast.map tP)) S := by
      rw [← cut_last]
      rfl
    have x2 : eCut (eVar 1) (oSome (eC (.int 1))) oNone [some (tCs Cs), some (.tup (P.map tP)), none, none, none, none, none, none, none, none, none] S = .ok (.tup (P.tail.map tP)) S := by
      rw [← cut_tail]
      rfl
    unfold iZipT
    simp only [aCons_e, aNil_e, x1, x2, bind_ok, seqT]
    have z : zipT (P.dropLast.map tP) (P.tail.map tP) = (List.zipWith (fun x y : Nat × Nat => (x, y)) P.dropLast P.tail).map fun z => T.tup [tP z.1, tP z.2] := by
      unfold zipT
      rw [List.zipWith_map, List.map_zipWith]
    rw [z]
    rfl
  have zl : (List.zipWith (fun x y : Nat × Nat => (x, y)) P.dropLast P.tail).length ≤ 100000 := by rw [List.length_zipWith, List.length_dropLast, List.length_tail]; omega
  have c2 := comp_e (S := S) (ρ := [some (tCs Cs), some (.tup (P.map tP)), none, none, none, none, none, none, none, none, none]) (xs := List.zipWith (fun x y : Nat × Nat => (x, y)) P.dropLast P.tail) (h := fun z => T.tup [tP z.1, tP z.2]) (r := fun _ => .bl true) (g := gTupM 2 (gsCons (gN 7) (gsCons (gN 8) gsNil))) (e := E3_stitched) (vs := [7, 8]) hz zl fun z hz => ⟨_, rfl, by
    have a := zip_asc ha z hz
    simp only [E3_stitched, wipeE, List.set_cons_succ, List.set_cons_zero, Mi.e2_e, eVar_s, eVar_z, bind_ok, lt_P, a]⟩
  have a2 := all_tr (S := S) (xs := List.zipWith (fun x y : Nat × Nat => (x, y)) P.dropLast P.tail)
  have dq := dq_st (S := S) (P := P) (a := some (tCs Cs)) (b := none) (c := none) (d := none) (e := none) (f := none) (g := none) (h := none) (i := none) (j := none) (by omega)
  have dl : decide (0 ≤ line) = true := by decide
  obtain ⟨c', J', el⟩ := build_j (S := inS S P) (g := gTupM 2 (gsCons (gN 4) (gsCons (gN 5) gsNil))) (b := B1_stitched) (E := tEnv Cs P S.length) (h := fun (i : Nat) => T.tup [nI i, tR ((stkd m w Cs).getD i [])]) (f := fun pk => tR ((List.range (w * Cs.length)).map fun e => if (pk, e) ∈ P then 1 - g2 (stkd m w Cs) pk e else g2 (stkd m w Cs) pk e)) (K := 1000) (xs := List.range (m * Cs.length))
    (fun pk hp c acc J ha => ⟨(some (nI pk), some (tR ((stkd m w Cs).getD pk []))), rfl, _, J, st_b1 h (by simpa using hp) ha⟩) (none, none) [] [] (by simp; omega)
  have ef := for_it (ρ := tEnv Cs P S.length (none, none)) (S := inS S P ++ [.lst []]) (g := gTupM 2 (gsCons (gN 4) (gsCons (gN 5) gsNil))) (b := B1_stitched) (f := iEnumT (eCall F_stacked_of 1 [] (aCons (eVar 0) aNil))) (l := enumT ((stkd m w Cs).map tR)) (enum_it (.inr (by
    simp only [eCall_e, aCons_e, aNil_e, eVar_z, bind_ok, List.length_cons, List.length_nil, beq_self_eq_true, Mi.if_true, stacked_of_e h])))
  rw [enum_map (d := []), stkd_len, el, List.nil_append] at ef
  have et := tup_obj (S := inS S P ++ .lst ((List.range (m * Cs.length)).map fun pk => tR ((List.range (w * Cs.length)).map fun e => if (pk, e) ∈ P then 1 - g2 (stkd m w Cs) pk e else g2 (stkd m w Cs) pk e)) :: J') (n := S.length + 1) (l := (List.range (m * Cs.length)).map fun pk => tR ((List.range (w * Cs.length)).map fun e => if (pk, e) ∈ P then 1 - g2 (stkd m w Cs) pk e else g2 (stkd m w Cs) pk e)) (get_mid (by simp))
  have ek : eKeep true (nLst aNil) [some (tCs Cs), some (.tup (P.map tP)), some (.obj S.length), none, none, none, none, none, none, none, none] (inS S P) = .ok (.obj (S.length + 1)) (inS S P ++ [.lst []]) := by
    simp only [eKeep_t, nLst_e, aNil_e, bind_ok, List.length_nil, dl, Mi.if_true, pures_nil, List.length_append, List.length_cons, Nat.zero_add]
  refine (fnOf_e (S := S)).trans ?_
  have fin : D_stitched [some (tCs Cs), some (.tup (P.map tP)), none, none, none, none, none, none, none, none, none] S = .go (.rt (cl (trn (m * Cs.length) (w * Cs.length) (stkd m w Cs) P))) (inS S P ++ .lst ((List.range (m * Cs.length)).map fun pk => tR ((List.range (w * Cs.length)).map fun e => if (pk, e) ∈ P then 1 - g2 (stkd m w Cs) pk e else g2 (stkd m w Cs) pk e)) :: J') := by
    simp only [D_stitched, sSeq_e, sDrop_e, eCall_e, aCons_e, aNil_e, eVar_s, eVar_z, bind_ok, List.length_cons, List.length_nil, beq_self_eq_true, Mi.if_true, demand_cloths_e h, then_ok, seq_nx, sIf_e, bOr_e, bNot_e, bTru_e, eIs_e, ty_tup, kin_tup, tru_bl, eB_e, eFrz_e, c1, a1, c2, a2, Bool.not_true, Bool.not_false, sNil_e, demand_size_e h h1 h2, sSet_e, dq, List.set_cons_succ, List.set_cons_zero, ek, ef, sRet_e, et, seq_rt]
    simp only [cl, trn, List.map_map, Function.comp_def]
  show outR S.length (D_stitched [some (tCs Cs), some (.tup (P.map tP)), none, none, none, none, none, none, none, none, none] S) = _
  rw [fin]
  have := outR_rt2 (S := S) (S1 := S) (S2 := .dic true (stD [] P) :: .lst ((List.range (m * Cs.length)).map fun pk => tR ((List.range (w * Cs.length)).map fun e => if (pk, e) ∈ P then 1 - g2 (stkd m w Cs) pk e else g2 (stkd m w Cs) pk e)) :: J') (t := cl (trn (m * Cs.length) (w * Cs.length) (stkd m w Cs) P)) pure_cl rfl
  rw [mid_app, List.nil_append]
  exact this
end
end L61
end

section
set_option Elab.async false
set_option linter.all false
set_option maxRecDepth 100000
set_option maxHeartbeats 2000000
set_option exponentiation.threshold 9000
/-! K61e: unstacked -/
namespace L61
open PySem PySem.Spec L2 Mi Cm
section
variable {S : Sto} {n : Nat} {p q : Int} {ds : List Int} {ρ : Mi.Env} {α β γ : Type}
theorem range_eq {j : Nat} : ∀ {n : Nat}, j < n → (List.range n).filter (fun i => decide (i = j)) = [j] := by
  have none : ∀ k, k ≤ j → (List.range k).filter (fun i => decide (i = j)) = [] := by
    intro k hk
    rw [List.filter_eq_nil_iff]
    intro i hi
    have : i < k := by simpa using hi
    simp
    omega
  intro n
  induction n with
  | zero => intro h; omega
  | succ n ih =>
    intro h
    rw [List.range_succ, List.filter_append]
    by_cases hj : j = n
    · subst hj
      rw [none j (Nat.le_refl _)]
      simp
    · rw [ih (by omega)]
      have : ¬ n = j := fun z => hj z.symm
      simp [this]
theorem range_mod {n j : Nat} (hj : j < n) : ∀ a : Nat, (List.range (a * n)).filter (fun p => decide (p % n = j)) = (List.range a).map fun i => i * n + j
  | 0 => by simp
  | a + 1 => by
    rw [Nat.succ_mul, List.range_add, List.filter_append, range_mod hj a, List.range_succ, List.map_append]
    congr 1
    rw [List.filter_map]
    have e : ((fun p => decide (p % n = j)) ∘ fun x => a * n + x) = fun i => decide (i % n = j) := by
      funext i
      simp only [Function.comp, Nat.mul_comm a n, Nat.mul_add_mod]
    rw [e]
    have e2 : (List.range n).filter (fun i => decide (i % n = j)) = (List.range n).filter fun i => decide (i = j) := List.filter_congr fun i hi => by
      have : i < n := by simpa using hi
      rw [Nat.mod_eq_of_lt this]
    rw [e2, range_eq hj]
    rfl
/-- every n-th from the j-th on -/
theorem step_L {l : List α} {d : α} {a n j : Nat} (ha : 1 ≤ a) (hj : j < n) (hl : l.length = a * n) : stepL l (some (j : Int)) none (n : Int) = (List.range a).map fun i => l.getD (i * n + j) d := by
  have hn : 1 ≤ n := by omega
  have hjl : j < a * n := Nat.lt_of_lt_of_le hj (Nat.le_mul_of_pos_left n (by omega))
  have e1 : stLo (some (j : Int)) none (n : Int) l.length = (j : Int) := by
    unfold stLo Builtin.Slice.sliceAdjust
    simp only [if_neg (show ¬ (n : Int) < 0 by omega), if_neg (show ¬ (j : Int) < 0 by omega)]
    omega
  have e2 : stN (some (j : Int)) none (n : Int) l.length = a := by
    unfold stN Builtin.Slice.sliceAdjust Builtin.Slice.slicePlaces
    simp only [if_neg (show ¬ (n : Int) < 0 by omega), if_neg (show ¬ (j : Int) < 0 by omega)]
    rw [hl]
    have m : min (j : Int) ((a * n : Nat) : Int) = (j : Int) := by omega
    rw [m, if_pos (show (n : Int) > 0 by omega), if_pos (show (j : Int) < ((a * n : Nat) : Int) by omega)]
    obtain ⟨b, rfl⟩ : ∃ b, a = b + 1 := ⟨a - 1, by omega⟩
    have d1 : ((((b + 1) * n : Nat) : Int) - (j : Int) - 1) = ((n - 1 - j + n * b : Nat) : Int) := by
      rw [Nat.succ_mul, Nat.mul_comm n b]
      omega
    have d2 : (n - 1 - j + n * b) / n = b := by
      rw [Nat.add_mul_div_left _ _ (by omega), Nat.div_eq_of_lt (by omega), Nat.zero_add]
    rw [d1, cast_div, d2]
    omega
  unfold stepL
  rw [e1, e2, ← List.filterMap_eq_map]
  apply filterMap_cong
  intro k hk
  have hk : k < a := by simpa using hk
  have e3 : ((j : Int) + (k : Int) * (n : Int)).toNat = k * n + j := by
    rw [← Int.natCast_mul]
    omega
  rw [e3]
  have lt : k * n + j < l.length := by
    rw [hl]
    obtain ⟨b, rfl⟩ : ∃ b, a = k + 1 + b := ⟨a - k - 1, by omega⟩
    rw [Nat.add_mul, Nat.succ_mul]
    omega
  exact getD_at lt
/-- the cloths apart -/
def parts (X : List (List Int)) (a b n : Nat) : List (List (List Int)) := (List.range n).map fun j => (List.range a).map fun i => (List.range b).map fun k => g2 X (i * n + j) (k * n + j)
/-- n cloths in one of a·n picks and b·n ends -/
def Dv (a b n : Nat) : Prop := 1 ≤ a ∧ 1 ≤ b ∧ 1 ≤ n ∧ n ≤ 4
theorem lt_of_part {a n i j : Nat} (hi : i < a) (hj : j < n) : i * n + j < a * n := by
  obtain ⟨b, rfl⟩ : ∃ b, a = i + 1 + b := ⟨a - i - 1, by omega⟩
  rw [Nat.add_mul, Nat.succ_mul]
  omega
theorem g2_bit {m w : Nat} {X : List (List Int)} (h : Cl m w X) (p e : Nat) : isBit (g2 X p e) := by
  unfold g2
  by_cases hp : p < X.length
  · exact bits_get (h.2.2.2 _ (Mi.getD_mem hp))
  · have hz : X.getD p [] = [] := by
      rw [List.getD_eq_getElem?_getD, List.getElem?_eq_none (by omega)]
      rfl
    rw [hz]
    exact .inl rfl
theorem parts_cls {X : List (List Int)} {a b n : Nat} (h : Cl (a * n) (b * n) X) (hd : Dv a b n) : Cls a b (parts X a b n) := by
  obtain ⟨h1, h2, h3, h4⟩ := hd
  have ha : a ≤ a * n := Nat.le_mul_of_pos_right a (by omega)
  have hb : b ≤ b * n := Nat.le_mul_of_pos_right b (by omega)
  have := h.2.1
  have := h.2.2.1
  refine ⟨by simp [parts]; omega, fun C hC => ?_⟩
  obtain ⟨j, hj, e⟩ := List.mem_map.mp hC
  rw [← e]
  refine ⟨by simp, by omega, by omega, fun r hr => ?_⟩
  obtain ⟨i, hi, e2⟩ := List.mem_map.mp hr
  rw [← e2]
  exact bits_of fun k _ => g2_bit h _ _
theorem parts_len {X : List (List Int)} {a b n : Nat} : (parts X a b n).length = n := by simp [parts]
theorem parts_at {X : List (List Int)} {a b n j i k : Nat} (hj : j < n) (hi : i < a) (hk : k < b) : at3 (parts X a b n) j i k = g2 X (i * n + j) (k * n + j) := by
  unfold at3 parts
  rw [List.getD_eq_getElem?_getD, List.getD_eq_getElem?_getD, List.getD_eq_getElem?_getD]
  simp [hj, hi, hk]
/-- of one cloth: as it was -/
theorem stk_same {X : List (List Int)} {a b n p e : Nat} (hn : 1 ≤ n) (hp : p < a * n) (he : e < b * n) (h : p % n = e % n) : stk (parts X a b n) p e = g2 X p e := by
  unfold stk
  rw [parts_len, if_pos h.symm, parts_at (Nat.mod_lt _ (by omega)) (Nat.div_lt_of_lt_mul (by rw [Nat.mul_comm]; exact hp)) (Nat.div_lt_of_lt_mul (by rw [Nat.mul_comm]; exact he))]
  have e1 : p / n * n + e % n = p := by rw [← h, Nat.mul_comm]; exact Nat.div_add_mod p n
  have e2 : e / n * n + e % n = e := by rw [Nat.mul_comm]; exact Nat.div_add_mod e n
  rw [e1, e2]
/-- the stitches found -/
def und (X : List (List Int)) (a b n : Nat) : List (Nat × Nat) := (List.range (a * n)).flatMap fun p => ((List.range (b * n)).filter fun e => !(g2 X p e == stk (parts X a b n) p e)).map fun e => (p, e)
theorem und_law {X : List (List Int)} {a b n : Nat} (hn : 1 ≤ n) : (btw (a * n) (b * n) n).filter (fun x => !(stk (parts X a b n) x.1 x.2 == g2 X x.1 x.2)) = und X a b n := by
  unfold btw und
  rw [List.filter_flatMap]
  have key : ∀ p ∈ List.range (a * n), (((List.range (b * n)).filter fun e => !decide (p % n = e % n)).map fun e => (p, e)).filter (fun x => !(stk (parts X a b n) x.1 x.2 == g2 X x.1 x.2)) = ((List.range (b * n)).filter fun e => !(g2 X p e == stk (parts X a b n) p e)).map fun e => (p, e) := by
    intro p hp
    have hp : p < a * n := by simpa using hp
    rw [List.filter_map, List.filter_filter]
    congr 1
    apply List.filter_congr
    intro e he
    have he : e < b * n := by simpa using he
    simp only [Function.comp]
    by_cases c : p % n = e % n
    · rw [stk_same hn hp he c]
      simp
    · rw [decide_eq_false c]
      simp only [Bool.not_false, Bool.and_true]
      rw [Bool.beq_comm]
  clear hn
  generalize List.range (a * n) = L at key
  induction L with
  | nil => rfl
  | cons x L ih =>
    rw [List.flatMap_cons, List.flatMap_cons, key x (List.mem_cons_self ..), ih fun p hp => key p (List.mem_cons_of_mem _ hp)]
end
end L61
end

section
set_option Elab.async false
set_option linter.all false
set_option maxRecDepth 100000
set_option maxHeartbeats 2000000
set_option exponentiation.threshold 9000
/-! K61f: unstacked by program and law -/
namespace L61
open PySem PySem.Spec L2 Mi Cm
section
variable {S : Sto} {n : Nat} {p q : Int} {ds : List Int} {ρ : Mi.Env} {α β γ : Type}
theorem build_f {g : GM} {b : SM} {E : γ → Mi.Env} {h : β → T} {f : β → List T} {K : Nat} : ∀ {xs : List β}, (∀ x ∈ xs, (f x).length ≤ 24 ∧ ∀ c (acc : List T) (J : Sto), acc.length ≤ K → ∃ c1, g (h x) (E c) = some (E c1) ∧ ∃ c2 J2, b (E c1) (S ++ .lst acc :: J) = .go (.nx (E c2)) (S ++ .lst (acc ++ f x) :: J2)) →
    ∀ (c : γ) (acc : List T) (J : Sto), acc.length + 24 * xs.length ≤ K → ∃ c' J', forL (fun _ => true) g b (xs.map h) (E c) (S ++ .lst acc :: J) = .go (.nx (E c')) (S ++ .lst (acc ++ xs.flatMap f) :: J')
  | [], _, c, acc, J, _ => ⟨c, J, by rw [List.map_nil, forL_nil, fif_true, List.flatMap_nil, List.append_nil]⟩
  | x :: xs, hb, c, acc, J, hl => by
    rw [List.length_cons] at hl
    obtain ⟨h1, h2⟩ := hb x (List.mem_cons_self ..)
    obtain ⟨c1, e1, c2, J2, e2⟩ := h2 c acc J (by omega)
    obtain ⟨c', J', e3⟩ := build_f (xs := xs) (fun y hy => hb y (List.mem_cons_of_mem _ hy)) c2 (acc ++ f x) J2 (by simp; omega)
    refine ⟨c', J', ?_⟩
    rw [List.map_cons, forL_cons, fif_true, e1]
    simp only [e2, loopR_nx, e3, List.flatMap_cons, List.append_assoc]
theorem step_e {l : List T} {f h g : EM} {xs : List α} {F : α → T} {d : α} {a j k : Nat} (hf : f ρ S = .ok (.tup (xs.map F)) S) (hh : h ρ S = .ok (nI j) S) (hg : g ρ S = .ok (nI k) S) (ha : 1 ≤ a ∧ a ≤ 1000) (hj : j < k) (hl : xs.length = a * k) :
    eStep f (oSome h) oNone (oSome g) ρ S = .ok (.tup ((List.range a).map fun i => F (xs.getD (i * k + j) d))) S := by
  have e := step_L (l := xs.map F) (d := F d) (j := j) ha.1 hj (by rw [List.length_map]; exact hl)
  have e2 : (List.range a).map (fun i => (xs.map F).getD (i * k + j) (F d)) = (List.range a).map fun i => F (xs.getD (i * k + j) d) := by
    apply List.map_congr_left
    intro i hi
    have hi : i < a := by simpa using hi
    have lt : i * k + j < xs.length := by rw [hl]; exact lt_of_part hi hj
    rw [List.getD_eq_getElem?_getD, List.getD_eq_getElem?_getD]
    simp [lt]
  have d1 : decide ((k : Int) ≠ 0) = true := decide_eq_true (by omega)
  have d2 : decide (((List.range a).map fun i => F (xs.getD (i * k + j) d)).length ≤ line) = true := decide_eq_true (by rw [List.length_map, List.length_range]; show a ≤ 16777216; omega)
  unfold eStep
  simp only [hf, bind_ok, oSome_e, hh, oNone_e, hg, e, e2, d1, d2, Bool.and_self, Mi.if_true]
theorem beq_m {a n : Nat} (hn : 1 ≤ n) : (((a * n % n : Nat) : Int) == 0) = true := by
  rw [Nat.mul_mod_left]
  rfl
abbrev uEnv (X : List (List Int)) (Cs : List (List (List Int))) (n k : Nat) (c : Option T × Option T) : Mi.Env := [some (cl X), some (nI n), some (tCs Cs), some (.obj k), c.1, c.2, none, none, none]
theorem us_b1 {X : List (List Int)} {a b : Nat} {pk : Nat} {acc : List T} {J : Sto} (h : Cl (a * n) (b * n) X) (hd : Dv a b n) (hp : pk < a * n) (ha : acc.length ≤ 10000) :
    B1_unstacked (uEnv X (parts X a b n) n S.length (some (nI pk), some (tR ((stkd a b (parts X a b n)).getD pk [])))) (S ++ .lst acc :: J) = .go (.nx (uEnv X (parts X a b n) n S.length (some (nI pk), some (tR ((stkd a b (parts X a b n)).getD pk []))))) (S ++ .lst (acc ++ (((List.range (b * n)).filter fun e => !(g2 X pk e == stk (parts X a b n) pk e)).map fun e => tP (pk, e))) :: J) := by
  have dl : decide (2 ≤ line) = true := by decide
  have hr := stkd_row (m := a) (w := b) (Cs := parts X a b n) (p := pk) (by rw [parts_len]; exact hp)
  rw [parts_len] at hr
  have hw := h.2.2.1
  have c1 := compF_e (S := S ++ .lst acc :: J) (ρ := uEnv X (parts X a b n) n S.length (some (nI pk), some (tR ((stkd a b (parts X a b n)).getD pk [])))) (xs := List.range (b * n)) (h := fun e => T.tup [nI e, .int (((stkd a b (parts X a b n)).getD pk []).getD e 0)]) (r := fun e => tP (pk, e)) (c := fun e => !(g2 X pk e == stk (parts X a b n) pk e)) (f := iEnumT (eVar 5)) (g := gTupM 2 (gsCons (gN 7) (gsCons (gN 8) gsNil))) (b := Q2_unstacked) (e := E2_unstacked) (vs := [7, 8])
    (by rw [enum_it (.inr rfl), enum_map (d := 0), hr]) (by rw [List.length_range]; omega) fun e he => ⟨_, rfl, by
      have he : e < b * n := by simpa using he
      obtain ⟨r, i1, i2⟩ := g2_ix (S := S ++ .lst acc :: J) h hp he
      have sg := stkd_get (m := a) (w := b) (Cs := parts X a b n) (p := pk) (e := e) (by rw [parts_len]; exact hp) (by rw [parts_len]; exact he)
      have sg' : ((stkd a b (parts X a b n)).getD pk []).getD e 0 = stk (parts X a b n) pk e := sg
      simp only [Q2_unstacked, wipeE, List.set_cons_succ, List.set_cons_zero, bVal_e, Mi.e2_e, eVar_s, eVar_z, bind_ok, i1, i2, ne_ii, sg'], fun _ => by
      simp only [E2_unstacked, wipeE, List.set_cons_succ, List.set_cons_zero, eTup_e, aCons_e, aNil_e, eVar_s, eVar_z, bind_ok, List.length_cons, List.length_nil, Nat.zero_add, Nat.reduceAdd, dl, Mi.if_true]⟩
  have lf := List.length_filter_le (fun e => !(g2 X pk e == stk (parts X a b n) pk e)) (List.range (b * n))
  rw [List.length_range] at lf
  have pu : T.pures (((List.range (b * n)).filter fun e => !(g2 X pk e == stk (parts X a b n) pk e)).map fun e => tP (pk, e)) = true := pures_map fun _ _ => rfl
  have au : sAug 3 iaddT (eFrz (nComp (iEnumT (eVar 5)) (gTupM 2 (gsCons (gN 7) (gsCons (gN 8) gsNil))) Q2_unstacked E2_unstacked [7, 8])) (uEnv X (parts X a b n) n S.length (some (nI pk), some (tR ((stkd a b (parts X a b n)).getD pk [])))) (S ++ .lst acc :: J) = .go (.nx (uEnv X (parts X a b n) n S.length (some (nI pk), some (tR ((stkd a b (parts X a b n)).getD pk []))))) (S ++ .lst (acc ++ (((List.range (b * n)).filter fun e => !(g2 X pk e == stk (parts X a b n) pk e)).map fun e => tP (pk, e))) :: J) := by
    have ia : iaddT (S ++ .lst acc :: J) (.obj S.length) (.lst (((List.range (b * n)).filter fun e => !(g2 X pk e == stk (parts X a b n) pk e)).map fun e => tP (pk, e))) = .ok (.obj S.length) (S ++ .lst (acc ++ (((List.range (b * n)).filter fun e => !(g2 X pk e == stk (parts X a b n) pk e)).map fun e => tP (pk, e))) :: J) := by
      have gm : (S ++ MO.lst acc :: J)[S.length]? = some (.lst acc) := get_mid rfl
      have d : decide (acc.length + (((List.range (b * n)).filter fun e => !(g2 X pk e == stk (parts X a b n) pk e)).map fun e => tP (pk, e)).length ≤ line) = true := decide_eq_true (by rw [List.length_map]; show _ ≤ 16777216; omega)
      show (match (S ++ MO.lst acc :: J)[S.length]?, rdL (S ++ MO.lst acc :: J) (.lst (((List.range (b * n)).filter fun e => !(g2 X pk e == stk (parts X a b n) pk e)).map fun e => tP (pk, e))) with
        | some (.lst l), some l' => R.if (decide (l.length + l'.length ≤ line) && T.pures l') (R.ok (T.obj S.length) ((S ++ MO.lst acc :: J).set S.length (.lst (l ++ l'))))
        | _, _ => R.bad) = _
      rw [gm]
      simp only [rdL, d, pu, Bool.and_self, Mi.if_true, set_mid rfl]
    unfold sAug
    have e3 : (uEnv X (parts X a b n) n S.length (some (nI pk), some (tR ((stkd a b (parts X a b n)).getD pk []))))[3]? = some (some (.obj S.length)) := rfl
    simp only [e3, eFrz_e, c1, bind_ok, then_ok, ia]
    rfl
  simp only [B1_unstacked, sSeq_e, au, seq_nx, sNil_e]
theorem unstacked_e {X : List (List Int)} {a b : Nat} (h : Cl (a * n) (b * n) X) (hd : Dv a b n) : F_unstacked [cl X, nI n] S = .ok (.tup [tCs (parts X a b n), .tup ((und X a b n).map tP)]) S := by
  obtain ⟨r0, hr0, hl0, ix0⟩ := ix0_cl h
  have hc := parts_cls h hd
  have hd' := hd
  obtain ⟨d1, d2, d3, d4⟩ := hd
  have hm := h.2.1
  have hw := h.2.2.1
  have ha : a ≤ a * n := Nat.le_mul_of_pos_right a (by omega)
  have hb : b ≤ b * n := Nat.le_mul_of_pos_right b (by omega)
  have c1 := compR_e (S := S) (ρ := [some (cl X), some (nI n), none, none, none, none, none, none, none]) (m := n) (r := fun j => cl ((List.range a).map fun i => (List.range b).map fun k => g2 X (i * n + j) (k * n + j))) (fe := eVar 1) (g := gN 6) (e := E3_unstacked) (vs := [6]) rfl (by omega) fun j hj => ⟨_, rfl, by
    have s1 := step_e (l := []) (S := S) (ρ := [some (cl X), some (nI n), none, none, none, none, some (nI j), none, none]) (f := eVar 0) (h := eVar 6) (g := eVar 1) (xs := X) (F := tR) (d := []) (a := a) (j := j) (k := n) rfl rfl rfl (by omega) hj h.1
    have c2 := comp_e (S := S) (ρ := [some (cl X), some (nI n), none, none, none, none, some (nI j), none, none]) (xs := List.range a) (h := fun i => tR (X.getD (i * n + j) [])) (r := fun i => tR ((List.range b).map fun k => g2 X (i * n + j) (k * n + j))) (f := iAny (eStep (eVar 0) (oSome (eVar 6)) oNone (oSome (eVar 1)))) (g := gN 5) (e := E4_unstacked) (vs := [5]) (iAny_tup s1) (by rw [List.length_range]; omega) fun i hi => ⟨_, rfl, by
      have hi : i < a := by simpa using hi
      have hrow := h.2.2.2 _ (Mi.getD_mem (d := []) (by rw [h.1]; exact lt_of_part hi hj))
      have s2 := step_e (l := []) (S := S) (ρ := [some (cl X), some (nI n), none, none, none, some (tR (X.getD (i * n + j) [])), some (nI j), none, none]) (f := eVar 5) (h := eVar 6) (g := eVar 1) (xs := X.getD (i * n + j) []) (F := T.int) (d := 0) (a := b) (j := j) (k := n) rfl rfl rfl (by omega) hj hrow.1
      simp only [E4_unstacked, wipeE, List.set_cons_succ, List.set_cons_zero, s2, tR, List.map_map, Function.comp_def, g2]⟩
    simp only [E3_unstacked, wipeE, List.set_cons_succ, List.set_cons_zero, eB_e, aCons_e, aNil_e, eFrz_e, c2, bind_ok, tup_lst, cl, List.map_map, Function.comp_def]⟩
  have c1' : nComp (iRange1 (eVar 1)) (gN 6) bYes E3_unstacked [6] [some (cl X), some (nI n), none, none, none, none, none, none, none] S = .ok ((parts X a b n).map cl) S := by
    rw [c1]
    unfold parts
    rw [List.map_map]
    rfl
  obtain ⟨c', J', el⟩ := build_f (S := S) (g := gTupM 2 (gsCons (gN 4) (gsCons (gN 5) gsNil))) (b := B1_unstacked) (E := uEnv X (parts X a b n) n S.length) (h := fun (i : Nat) => T.tup [nI i, tR ((stkd a b (parts X a b n)).getD i [])]) (f := fun pk => ((List.range (b * n)).filter fun e => !(g2 X pk e == stk (parts X a b n) pk e)).map fun e => tP (pk, e)) (K := 10000) (xs := List.range (a * n))
    (fun pk hp => ⟨by
      have lf := List.length_filter_le (fun e => !(g2 X pk e == stk (parts X a b n) pk e)) (List.range (b * n))
      rw [List.length_range] at lf
      rw [List.length_map]
      omega, fun c acc J ha => ⟨(some (nI pk), some (tR ((stkd a b (parts X a b n)).getD pk []))), rfl, _, J, us_b1 h hd' (by simpa using hp) ha⟩⟩) (none, none) [] [] (by simp; omega)
  have ef := for_it (ρ := uEnv X (parts X a b n) n S.length (none, none)) (S := S ++ [.lst []]) (g := gTupM 2 (gsCons (gN 4) (gsCons (gN 5) gsNil))) (b := B1_unstacked) (f := iEnumT (eCall F_stacked_of 1 [] (aCons (eVar 2) aNil))) (l := enumT ((stkd a b (parts X a b n)).map tR)) (enum_it (.inr (by
    simp only [eCall_e, aCons_e, aNil_e, eVar_s, eVar_z, bind_ok, List.length_cons, List.length_nil, beq_self_eq_true, Mi.if_true, stacked_of_e hc])))
  rw [enum_map (d := []), stkd_len, parts_len, el, List.nil_append] at ef
  have eu : ((List.range (a * n)).flatMap fun pk => ((List.range (b * n)).filter fun e => !(g2 X pk e == stk (parts X a b n) pk e)).map fun e => tP (pk, e)) = (und X a b n).map tP := by
    have ef : (fun pk => ((List.range (b * n)).filter fun e => !(g2 X pk e == stk (parts X a b n) pk e)).map fun e => tP (pk, e)) = fun pk => (((List.range (b * n)).filter fun e => !(g2 X pk e == stk (parts X a b n) pk e)).map fun e => (pk, e)).map tP := by
      funext pk
      rw [List.map_map]
      rfl
    rw [ef, ← List.map_flatMap]
    rfl
  rw [eu] at ef
  have et := tup_obj (S := S ++ .lst ((und X a b n).map tP) :: J') (n := S.length) (l := (und X a b n).map tP) (get_mid rfl)
  have dl0 : decide (0 ≤ line) = true := by decide
  have dl2 : decide (2 ≤ line) = true := by decide
  have i1 : decide ((1 : Int) ≤ (n : Int)) = true := decide_eq_true (by omega)
  have i2 : decide ((n : Int) ≤ 4) = true := decide_eq_true (by omega)
  have m1 := mod_nn (S := S) (a := a * n) (b := n) (by omega)
  have m2 := mod_nn (S := S) (a := b * n) (b := n) (by omega)
  refine (fnOf_e (S := S)).trans ?_
  have fin : D_unstacked [some (cl X), some (nI n), none, none, none, none, none, none, none] S = .go (.rt (.tup [tCs (parts X a b n), .tup ((und X a b n).map tP)])) (S ++ .lst ((und X a b n).map tP) :: J') := by
    simp only [D_unstacked, sSeq_e, sDrop_e, eCall_e, aCons_e, aNil_e, eVar_s, eVar_z, eC_e, bind_ok, List.length_cons, List.length_nil, beq_self_eq_true, Mi.if_true, check_e h, then_ok, seq_nx, sIf_e, bOr_e, bNot_e, bTru_e, bVal_e, is_int_n, tru_bl, Bool.not_true, Bool.not_false, eChain_e, le_ii, i1, i2, Mi.e2_e, eB_e, len_tup, List.length_map, h.1, ix0, hl0, m1, m2, ne_ii, beq_m d3, sNil_e, sSet_e, eFrz_e, c1', tup_lst, List.set_cons_succ, List.set_cons_zero, eKeep_t, nLst_e, dl0, pures_nil, ef, sRet_e, eTup_e, et, Nat.zero_add, Nat.reduceAdd, dl2, seq_rt]
  show outR S.length (D_unstacked [some (cl X), some (nI n), none, none, none, none, none, none, none] S) = _
  have pp : (T.tup [tCs (parts X a b n), .tup ((und X a b n).map tP)]).pure = true := by
    have p1 : T.pures ((parts X a b n).map cl) = true := pures_map fun _ _ => pure_cl
    have p2 : T.pures ((und X a b n).map tP) = true := pures_map fun _ _ => rfl
    simp only [pure_tup, pures_cons, pures_nil, p1, p2, Bool.and_self]
  rw [fin, outR_rt2 (S := S) (S1 := S) pp rfl]
end
end L61
end

section
set_option Elab.async false
set_option linter.all false
set_option maxRecDepth 100000
set_option maxHeartbeats 2000000
set_option exponentiation.threshold 9000
/-! K61g: the law's unstacked -/
namespace L61
open PySem PySem.Spec L2 Mi Cm
section
variable {S : Sto} {n : Nat} {p q : Int} {ds : List Int} {ρ : Mi.Env} {α β γ : Type}
theorem comp_ec {xs : List β} {h r : β → T} {f : IM} {ck : Sto → Bool} {g : GM} {e : EM} {vs : List Nat} (hf : f ρ S = .ok ⟨xs.map h, ck⟩ S) (hc : ck S = true) (hl : xs.length ≤ 100000)
    (he : ∀ x ∈ xs, ∃ ρ1, g (h x) (wipeE ρ vs) = some ρ1 ∧ e ρ1 S = .ok (r x) S) : nComp f g bYes e vs ρ S = .ok (xs.map r) S := by
  rw [nComp_e, hf, bind_ok]
  have : decide ((xs.map h).length ≤ line) = true := decide_eq_true (by rw [List.length_map]; show xs.length ≤ 16777216; omega)
  simp only [this, Mi.if_true]
  exact compL_map hc fun x hx => by
    obtain ⟨ρ1, a, b⟩ := he x hx
    exact ⟨ρ1, a, rfl, b⟩
theorem obj_it {l : List T} {k : Nat} {f : EM} (hf : f ρ S = .ok (.obj k) S) (hS : S[k]? = some (.lst l)) : ∃ ck, iAny f ρ S = .ok ⟨l, ck⟩ S ∧ ck S = true := by
  have e : dicOf S (.obj k) = none := by unfold dicOf; simp only [hS]
  have e2 : seqT S (.obj k) = some l := by
    show rdL S (.obj k) = _
    unfold rdL
    simp only [hS]
  refine ⟨chkT S (.obj k) l, ?_, ?_⟩
  · unfold iAny
    rw [hf]
    simp only [e]
    unfold iSeq
    simp only [bind_ok, e2]
  · unfold chkT
    simp only [hS, T.sams_refl]
abbrev vEnv (X : List (List Int)) (n k : Nat) (c : Option T × Option T) : Mi.Env := [some (cl X), some (nI n), some (.obj k), c.1, none, c.2, none, none, none]
def rowsJ (X : List (List Int)) (a n j : Nat) : List T := (List.range a).map fun i => tR (X.getD (i * n + j) [])
theorem lu_b2 {X : List (List Int)} {a b j : Nat} {acc : List T} {J : Sto} {c2 : Option T} (h : Cl (a * n) (b * n) X) (hd : Dv a b n) (hj : j < n) (ha : acc.length ≤ 1000) :
    ∃ c' J', B2__law_unstacked (vEnv X n S.length (some (nI j), c2)) (S ++ .lst acc :: J) = .go (.nx (vEnv X n S.length c')) (S ++ .lst (acc ++ [cl ((List.range a).map fun i => (List.range b).map fun k => g2 X (i * n + j) (k * n + j))]) :: J') := by
  have hm := h.2.1
  have hw := h.2.2.1
  obtain ⟨d1, d2, d3, d4⟩ := hd
  have ha2 : a ≤ a * n := Nat.le_mul_of_pos_right a (by omega)
  have hb2 : b ≤ b * n := Nat.le_mul_of_pos_right b (by omega)
  have c1 := compF_e (S := S ++ .lst acc :: J) (ρ := vEnv X n S.length (some (nI j), c2)) (xs := List.range (a * n)) (h := fun (i : Nat) => nI i) (r := fun p => tR (X.getD p [])) (c := fun p => decide (p % n = j)) (f := iRange1 (eB fLen (aCons (eVar 0) aNil))) (g := gN 6) (b := Q5__law_unstacked) (e := E5__law_unstacked) (vs := [6])
    (range1_n (by simp only [eB_e, aCons_e, aNil_e, eVar_z, bind_ok, len_tup, List.length_map, h.1]) (by omega)) (by rw [List.length_range]; omega) fun p hp => ⟨_, rfl, by
      have m1 := mod_nn (S := S ++ .lst acc :: J) (a := p) (b := n) (by omega)
      simp only [Q5__law_unstacked, wipeE, List.set_cons_succ, List.set_cons_zero, bVal_e, Mi.e2_e, eB_e, aCons_e, aNil_e, eVar_s, eVar_z, bind_ok, int_i, m1, eq_ii, beq_nat], fun _ => by
      have hp : p < a * n := by simpa using hp
      have h2 := ix_tm (S := S ++ .lst acc :: J) (xs := X) (f := tR) (d := []) (i := (p : Int)) (by omega) (by rw [h.1]; omega)
      rw [Int.toNat_natCast] at h2
      simp only [E5__law_unstacked, wipeE, List.set_cons_succ, List.set_cons_zero, Mi.e2_e, eVar_s, eVar_z, bind_ok, h2]⟩
  rw [range_mod hj, List.map_map] at c1
  have c1 : nComp (iRange1 (eB fLen (aCons (eVar 0) aNil))) (gN 6) Q5__law_unstacked E5__law_unstacked [6] (vEnv X n S.length (some (nI j), c2)) (S ++ .lst acc :: J) = .ok (rowsJ X a n j) (S ++ .lst acc :: J) := c1
  have pu : T.pures (rowsJ X a n j) = true := pures_map (xs := List.range a) (f := fun i => tR (X.getD (i * n + j) [])) fun _ _ => pure_tR
  obtain ⟨ck, i1, i2⟩ := obj_it (S := (S ++ .lst acc :: J) ++ [.lst (rowsJ X a n j)]) (ρ := vEnv X n S.length (some (nI j), some (.obj (S ++ MO.lst acc :: J).length))) (f := eVar 5) (k := (S ++ MO.lst acc :: J).length) rfl (get_end rfl)
  have c3 := comp_ec (S := (S ++ .lst acc :: J) ++ [.lst (rowsJ X a n j)]) (ρ := vEnv X n S.length (some (nI j), some (.obj (S ++ MO.lst acc :: J).length))) (xs := List.range a) (h := fun i => tR (X.getD (i * n + j) [])) (r := fun i => tR ((List.range b).map fun k => g2 X (i * n + j) (k * n + j))) (f := iAny (eVar 5)) (g := gN 7) (e := E3__law_unstacked) (vs := [7]) i1 i2 (by rw [List.length_range]; omega) fun i hi => ⟨_, rfl, by
    have hi : i < a := by simpa using hi
    have hrow := h.2.2.2 _ (Mi.getD_mem (d := []) (by rw [h.1]; exact lt_of_part hi hj))
    have c4 := compF_e (S := (S ++ .lst acc :: J) ++ [.lst (rowsJ X a n j)]) (ρ := [some (cl X), some (nI n), some (.obj S.length), some (nI j), none, some (.obj (S ++ MO.lst acc :: J).length), none, some (tR (X.getD (i * n + j) [])), none]) (xs := List.range (b * n)) (h := fun (i : Nat) => nI i) (r := fun e => .int ((X.getD (i * n + j) []).getD e 0)) (c := fun e => decide (e % n = j)) (f := iRange1 (eB fLen (aCons (eVar 7) aNil))) (g := gN 8) (b := Q4__law_unstacked) (e := E4__law_unstacked) (vs := [8])
      (range1_n (by simp only [eB_e, aCons_e, aNil_e, eVar_s, eVar_z, bind_ok, len_tup, List.length_map, hrow.1]) (by omega)) (by rw [List.length_range]; omega) fun e he => ⟨_, rfl, by
        have m1 := fun S => mod_nn (S := S) (a := e) (b := n) (by omega)
        simp only [Q4__law_unstacked, wipeE, List.set_cons_succ, List.set_cons_zero, bVal_e, Mi.e2_e, eB_e, aCons_e, aNil_e, eVar_s, eVar_z, bind_ok, int_i, m1, eq_ii, beq_nat], fun _ => by
        have he : e < b * n := by simpa using he
        have h3 := fun S => ix_tm (S := S) (xs := X.getD (i * n + j) []) (f := T.int) (d := 0) (i := (e : Int)) (by omega) (by rw [hrow.1]; omega)
        simp only [Int.toNat_natCast] at h3
        simp only [E4__law_unstacked, wipeE, List.set_cons_succ, List.set_cons_zero, Mi.e2_e, eVar_s, eVar_z, bind_ok, h3]⟩
    rw [range_mod hj, List.map_map] at c4
    simp only [E3__law_unstacked, wipeE, List.set_cons_succ, List.set_cons_zero, eB_e, aCons_e, aNil_e, eFrz_e, c4, bind_ok, tup_lst]
    simp only [tR, List.map_map, Function.comp_def, g2]⟩
  have ap := app_at (S := S ++ .lst acc :: (J ++ [.lst (rowsJ X a n j)])) (n := S.length) (l := acc) (v := cl ((List.range a).map fun i => (List.range b).map fun k => g2 X (i * n + j) (k * n + j))) (ρ := vEnv X n S.length (some (nI j), some (.obj (S ++ MO.lst acc :: J).length))) (fo := eVar 2) (fe := eB fTup (aCons (eFrz (nComp (iAny (eVar 5)) (gN 7) bYes E3__law_unstacked [7])) aNil)) (get_mid rfl) rfl (by
    rw [mid_app] at c3
    simp only [eB_e, aCons_e, aNil_e, eFrz_e, c3, bind_ok, tup_lst, cl, List.map_map, Function.comp_def]) (by omega) pure_cl
  rw [set_mid rfl] at ap
  refine ⟨(some (nI j), some (.obj (S ++ MO.lst acc :: J).length)), J ++ [.lst (rowsJ X a n j)], ?_⟩
  have e0 : sSet 5 (eKeep true (nComp (iRange1 (eB fLen (aCons (eVar 0) aNil))) (gN 6) Q5__law_unstacked E5__law_unstacked [6])) (vEnv X n S.length (some (nI j), c2)) (S ++ .lst acc :: J) = .go (.nx (vEnv X n S.length (some (nI j), some (.obj (S ++ MO.lst acc :: J).length)))) ((S ++ .lst acc :: J) ++ [.lst (rowsJ X a n j)]) := by
    simp only [sSet_e, eKeep_t, c1, bind_ok, pu, Mi.if_true, then_ok, List.set_cons_succ, List.set_cons_zero]
  rw [B2__law_unstacked, sSeq_e, e0, seq_nx, sSeq_e, sDrop_e, mid_app, ap]
  simp only [then_ok, seq_nx, sNil_e]
theorem law_unstacked_e {X : List (List Int)} {a b : Nat} (h : Cl (a * n) (b * n) X) (hd : Dv a b n) : F__law_unstacked [cl X, nI n] S = .ok (.tup [tCs (parts X a b n), .tup ((und X a b n).map tP)]) S := by
  have hc := parts_cls h hd
  have hd' := hd
  obtain ⟨d1, d2, d3, d4⟩ := hd
  have hm := h.2.1
  have hw := h.2.2.1
  obtain ⟨c', J', el⟩ := build_j (S := S) (g := gN 3) (b := B2__law_unstacked) (E := vEnv X n S.length) (h := fun (i : Nat) => nI i) (f := fun j => cl ((List.range a).map fun i => (List.range b).map fun k => g2 X (i * n + j) (k * n + j))) (K := 1000) (xs := List.range n)
    (fun j hj c acc J ha => ⟨(some (nI j), c.2), rfl, lu_b2 h hd' (by simpa using hj) ha⟩) (none, none) [] [] (by simp; omega)
  have ef := for_range (S := S ++ [.lst []]) (fe := eVar 1) (g := gN 3) (b := B2__law_unstacked) (ρ := vEnv X n S.length (none, none)) (m := n) rfl (by omega)
  have ep : (List.range n).map (fun j => cl ((List.range a).map fun i => (List.range b).map fun k => g2 X (i * n + j) (k * n + j))) = (parts X a b n).map cl := by
    unfold parts
    rw [List.map_map]
    rfl
  rw [el, List.nil_append, ep] at ef
  have et := tup_obj (S := S ++ .lst ((parts X a b n).map cl) :: J') (n := S.length) (l := (parts X a b n).map cl) (get_mid rfl)
  have dl0 : decide (0 ≤ line) = true := by decide
  have dl2 : decide (2 ≤ line) = true := by decide
  have hX2 := stkd_len (m := a) (w := b) (Cs := parts X a b n)
  rw [parts_len] at hX2
  have bl := between_e (S := S ++ .lst ((parts X a b n).map cl) :: J') (n := n) h (by omega)
  have mem : ∀ x ∈ btw (a * n) (b * n) n, x.1 < a * n ∧ x.2 < b * n := by
    intro x hx
    obtain ⟨p, hp, hx⟩ := List.mem_flatMap.mp hx
    obtain ⟨e, he, hx⟩ := List.mem_map.mp hx
    rw [← hx]
    exact ⟨by simpa using hp, by simpa using (List.mem_filter.mp he).1⟩
  have blen : (btw (a * n) (b * n) n).length ≤ 100000 := by
    have key : ∀ L : List Nat, (L.flatMap fun p => ((List.range (b * n)).filter fun e => !decide (p % n = e % n)).map fun e => (p, e)).length ≤ 24 * L.length := by
      intro L
      induction L with
      | nil => simp
      | cons x L ih =>
        rw [List.flatMap_cons, List.length_append, List.length_cons, List.length_map]
        have lf := List.length_filter_le (fun e => !decide (x % n = e % n)) (List.range (b * n))
        rw [List.length_range] at lf
        omega
    have := key (List.range (a * n))
    rw [List.length_range] at this
    unfold btw
    omega
  have c1 := compF_e (S := S ++ .lst ((parts X a b n).map cl) :: J') (ρ := [some (cl X), some (nI n), some (.obj S.length), c'.1, some (cl (stkd a b (parts X a b n))), c'.2, none, none, none]) (xs := btw (a * n) (b * n) n) (h := tP) (r := tP) (c := fun x => !(stk (parts X a b n) x.1 x.2 == g2 X x.1 x.2)) (f := iAny (eCall F__law_between 2 [] (aCons (eVar 0) (aCons (eVar 1) aNil)))) (g := gTupM 2 (gsCons (gN 6) (gsCons (gN 8) gsNil))) (b := Q1__law_unstacked) (e := E1__law_unstacked) (vs := [6, 8])
    (iAny_lst (by simp only [eCall_e, aCons_e, aNil_e, eVar_s, eVar_z, bind_ok, List.length_cons, List.length_nil, Nat.zero_add, Nat.reduceAdd, beq_self_eq_true, Mi.if_true, bl])) blen fun x hx => ⟨_, rfl, by
      obtain ⟨q1, q2⟩ := mem x hx
      obtain ⟨r, i1, i2⟩ := g2_ix (S := S ++ .lst ((parts X a b n).map cl) :: J') h q1 q2
      have hp2 : x.1 < a * (parts X a b n).length := by rw [parts_len]; exact q1
      have he2 : x.2 < b * (parts X a b n).length := by rw [parts_len]; exact q2
      have sg := stkd_get (m := a) (w := b) (Cs := parts X a b n) hp2 he2
      have r1 := stkd_row (m := a) (w := b) (Cs := parts X a b n) hp2
      have j1 := ix_tm (S := S ++ .lst ((parts X a b n).map cl) :: J') (xs := stkd a b (parts X a b n)) (f := tR) (d := []) (i := (x.1 : Int)) (by omega) (by rw [hX2]; omega)
      have j2 := ix_tm (S := S ++ .lst ((parts X a b n).map cl) :: J') (xs := (stkd a b (parts X a b n)).getD x.1 []) (f := T.int) (d := 0) (i := (x.2 : Int)) (by omega) (by rw [r1]; omega)
      rw [Int.toNat_natCast] at j1 j2
      have j2' : ixA (S ++ .lst ((parts X a b n).map cl) :: J') (tR ((stkd a b (parts X a b n)).getD x.1 [])) (nI x.2) = .ok (.int (stk (parts X a b n) x.1 x.2)) (S ++ .lst ((parts X a b n).map cl) :: J') := by
        rw [← sg]
        exact j2
      simp only [Q1__law_unstacked, wipeE, List.set_cons_succ, List.set_cons_zero, bVal_e, Mi.e2_e, eVar_s, eVar_z, bind_ok, j1, j2', i1, i2, ne_ii], fun _ => by
      simp only [E1__law_unstacked, wipeE, List.set_cons_succ, List.set_cons_zero, eTup_e, aCons_e, aNil_e, eVar_s, eVar_z, bind_ok, List.length_cons, List.length_nil, Nat.zero_add, Nat.reduceAdd, dl2, Mi.if_true]⟩
  rw [und_law d3] at c1
  refine (fnOf_e (S := S)).trans ?_
  have fin : D__law_unstacked [some (cl X), some (nI n), none, none, none, none, none, none, none] S = .go (.rt (.tup [tCs (parts X a b n), .tup ((und X a b n).map tP)])) (S ++ .lst ((parts X a b n).map cl) :: J') := by
    simp only [D__law_unstacked, sSeq_e, sSet_e, eKeep_t, nLst_e, aNil_e, bind_ok, List.length_nil, dl0, Mi.if_true, pures_nil, then_ok, List.set_cons_succ, List.set_cons_zero, seq_nx, ef, eCall_e, aCons_e, eB_e, eVar_s, eVar_z, et, List.length_cons, Nat.zero_add, beq_self_eq_true, law_stacked_e hc, sRet_e, eTup_e, eFrz_e, c1, tup_lst, Nat.reduceAdd, dl2, seq_rt]
  show outR S.length (D__law_unstacked [some (cl X), some (nI n), none, none, none, none, none, none, none] S) = _
  have pp : (T.tup [tCs (parts X a b n), .tup ((und X a b n).map tP)]).pure = true := by
    have p1 : T.pures ((parts X a b n).map cl) = true := pures_map fun _ _ => pure_cl
    have p2 : T.pures ((und X a b n).map tP) = true := pures_map fun _ _ => rfl
    simp only [pure_tup, pures_cons, pures_nil, p1, p2, Bool.and_self]
  rw [fin, outR_rt2 (S := S) (S1 := S) pp rfl]
end
end L61
end

section
set_option Elab.async false
set_option linter.all false
set_option maxRecDepth 100000
set_option maxHeartbeats 2000000
set_option exponentiation.threshold 9000
/-! K61h: loosest, folded -/
namespace L61
open PySem PySem.Spec L2 Mi Cm
section
variable {S : Sto} {n : Nat} {p q : Int} {ds : List Int} {ρ : Mi.Env} {α β γ : Type}
def dvb (m w c : Nat) : Bool := decide (m % c = 0) && decide (w % c = 0)
theorem dv_of {m w c : Nat} {X : List (List Int)} (h : Cl m w X) (hc : 1 ≤ c ∧ c ≤ 4) (hd : dvb m w c = true) : Cl (m / c * c) (w / c * c) X ∧ Dv (m / c) (w / c) c := by
  simp only [dvb, Bool.and_eq_true, decide_eq_true_eq] at hd
  have e1 : m / c * c = m := Nat.div_mul_cancel (Nat.dvd_of_mod_eq_zero hd.1)
  have e2 : w / c * c = w := Nat.div_mul_cancel (Nat.dvd_of_mod_eq_zero hd.2)
  have h1 := h.2.1
  have h2 := h.2.2.1
  refine ⟨by rw [e1, e2]; exact h, ?_, ?_, hc.1, hc.2⟩
  · rcases Nat.eq_zero_or_pos (m / c) with z | z
    · rw [z] at e1; omega
    · exact z
  · rcases Nat.eq_zero_or_pos (w / c) with z | z
    · rw [z] at e2; omega
    · exact z
def emp (X : List (List Int)) (m w c : Nat) : Bool := (und X (m / c) (w / c) c).isEmpty
theorem eq_nil {P : List (Nat × Nat)} : eqA S (.tup (P.map tP)) (.tup []) = .ok (.bl P.isEmpty) S := by
  have e2 : (T.tup (P.map tP)).dat 60 = true := by
    show (P.map tP).all (T.dat 59) = true
    rw [List.all_map, List.all_eq_true]
    intro y _
    rfl
  have e3 : (T.tup []).dat 60 = true := rfl
  show R.if ((T.tup (P.map tP)).dat 60 && (T.tup []).dat 60) (R.ok (T.bl (T.eqv (.tup (P.map tP)) (.tup []))) S) = _
  rw [e2, e3]
  cases P with
  | nil => rfl
  | cons x P => rfl
theorem ix1_pair {a b : T} : ixA S (.tup [a, b]) (.int 1) = .ok b S := ix_tup (by rw [at_in (by omega) (by simp)]; rfl)
theorem mod_zero {m c : Nat} (hc : 1 ≤ c) : modT S (nI m) (nI c) = .ok (nI (m % c)) S := mod_nn (by omega)
theorem zero_beq {a : Nat} : ((a : Int) == 0) = decide (a = 0) := beq_nat (b := 0)
def okc (X : List (List Int)) (m w c : Nat) : Bool := dvb m w c && emp X m w c
def best (X : List (List Int)) (m w : Nat) : Nat := if okc X m w 4 then 4 else if okc X m w 3 then 3 else if okc X m w 2 then 2 else 1
theorem ok_one {X : List (List Int)} {m w : Nat} : okc X m w 1 = true := by
  have e1 : dvb m w 1 = true := by simp [dvb, Nat.mod_one]
  have e2 : emp X m w 1 = true := by
    unfold emp und
    rw [Nat.div_one, Nat.div_one, Nat.mul_one, Nat.mul_one, List.isEmpty_iff, List.flatMap_eq_nil_iff]
    intro p hp
    have hp : p < m := by simpa using hp
    rw [List.map_eq_nil_iff, List.filter_eq_nil_iff]
    intro e he
    have he : e < w := by simpa using he
    rw [stk_same (n := 1) (by omega) (by omega) (by omega) (by rw [Nat.mod_one, Nat.mod_one])]
    simp
  unfold okc
  rw [e1, e2]
  rfl
theorem loosest_e {m w : Nat} {X : List (List Int)} (h : Cl m w X) : F_loosest [cl X] S = .ok (nI (best X m w)) S := by
  obtain ⟨r0, hr0, hl0, ix0⟩ := ix0_cl h
  refine fn_e (by rfl) ?_
  show D_loosest [some (cl X), none, none] S = _
  have hc : ∀ i : Nat, ((1 : Int) + (i : Int)) = ((1 + i : Nat) : Int) := fun i => by omega
  have r2 := range2_n (S := S) (ρ := [some (cl X), none, none]) (f := eC (.int 1)) (g := Mi.e2 addL (eC (.int 4)) (eC (.int 1))) (a := 1) (b := 5) rfl rfl (by omega) (by omega)
  have c1 := compF_e (S := S) (ρ := [some (cl X), none, none]) (xs := List.range 4) (h := fun (i : Nat) => nI (1 + i)) (r := fun i => nI (1 + i)) (c := fun i => dvb m w (1 + i)) (f := iRange2 (eC (.int 1)) (Mi.e2 addL (eC (.int 4)) (eC (.int 1)))) (g := gN 2) (b := Q2_loosest) (e := eVar 2) (vs := [2]) r2 (by simp) fun i hi => ⟨_, rfl, by
    have m1 := mod_zero (S := S) (m := m) (c := 1 + i) (by omega)
    have m2 := mod_zero (S := S) (m := w) (c := 1 + i) (by omega)
    by_cases z : m % (1 + i) = 0
    · simp only [Q2_loosest, wipeE, List.set_cons_succ, List.set_cons_zero, bAnd_e, bVal_e, Mi.e2_e, eB_e, aCons_e, aNil_e, eVar_s, eVar_z, eC_e, bind_ok, len_tup, List.length_map, h.1, ix0, hl0, m1, m2, eq_ii, zero_beq, decide_eq_true z, dvb, Bool.true_and]
    · simp only [Q2_loosest, wipeE, List.set_cons_succ, List.set_cons_zero, bAnd_e, bVal_e, Mi.e2_e, eB_e, aCons_e, aNil_e, eVar_s, eVar_z, eC_e, bind_ok, len_tup, List.length_map, h.1, m1, eq_ii, zero_beq, decide_eq_false z, dvb, Bool.false_and], fun _ => rfl⟩
  have c2 := compF_e (S := S) (ρ := [some (cl X), some (.lst (((List.range 4).filter fun i => dvb m w (1 + i)).map fun i => nI (1 + i))), none]) (xs := (List.range 4).filter fun i => dvb m w (1 + i)) (h := fun (i : Nat) => nI (1 + i)) (r := fun i => nI (1 + i)) (c := fun i => emp X m w (1 + i)) (f := iAny (eVar 1)) (g := gN 2) (b := Q1_loosest) (e := eVar 2) (vs := [2]) (iAny_lst rfl)
    (by have := List.length_filter_le (fun i => dvb m w (1 + i)) (List.range 4); simp at this; omega) fun i hi => ⟨_, rfl, by
      obtain ⟨hi, hd⟩ := List.mem_filter.mp hi
      have hi : i < 4 := by simpa using hi
      obtain ⟨g1, g2⟩ := dv_of h ⟨by omega, by omega⟩ hd
      have u := unstacked_e (S := S) g1 g2
      have dl0 : decide (0 ≤ line) = true := by decide
      simp only [Q1_loosest, wipeE, List.set_cons_succ, List.set_cons_zero, bVal_e, Mi.e2_e, eCall_e, eTup_e, aCons_e, aNil_e, eVar_s, eVar_z, eC_e, bind_ok, List.length_cons, List.length_nil, Nat.zero_add, Nat.reduceAdd, beq_self_eq_true, Mi.if_true, u, ix1_pair, dl0, eq_nil, emp], fun _ => rfl⟩
  have c2' : fMax S [.lst ((((List.range 4).filter fun i => dvb m w (1 + i)).filter fun i => emp X m w (1 + i)).map fun i => nI (1 + i))] = .ok (nI (best X m w)) S := by
    rw [List.filter_filter]
    have ef : (List.range 4).filter (fun i => emp X m w (1 + i) && dvb m w (1 + i)) = (List.range 4).filter fun i => okc X m w (1 + i) := by
      congr 1
      funext i
      exact Bool.and_comm _ _
    rw [ef]
    have r4 : List.range 4 = [0, 1, 2, 3] := rfl
    rw [r4]
    have o1 : okc X m w (1 + 0) = true := ok_one
    unfold best
    simp only [List.filter_cons, List.filter_nil, o1, ite_true]
    show fMax S [.lst ((0 :: if okc X m w 2 = true then 1 :: (if okc X m w 3 = true then 2 :: (if okc X m w 4 = true then [3] else []) else if okc X m w 4 = true then [3] else []) else if okc X m w 3 = true then 2 :: (if okc X m w 4 = true then [3] else []) else if okc X m w 4 = true then [3] else []).map fun i => nI (1 + i))] = _
    cases okc X m w 2 <;> cases okc X m w 3 <;> cases okc X m w 4 <;> rfl
  simp only [D_loosest, sSeq_e, sDrop_e, eCall_e, aCons_e, aNil_e, eVar_s, eVar_z, bind_ok, List.length_cons, List.length_nil, beq_self_eq_true, Mi.if_true, check_e h, then_ok, seq_nx, sSet_e, eKeep_f, c1, List.set_cons_succ, List.set_cons_zero, sRet_e, eB_e, eFrz_e, c2, c2', seq_rt]
theorem lol_b1 {m w c : Nat} {X : List (List Int)} {b : Int} (h : Cl m w X) (hc : 1 ≤ c ∧ c ≤ 4) : B1__law_loosest [some (cl X), some (.int b), some (nI c)] S = .go (.nx [some (cl X), some (.int (if okc X m w c then (c : Int) else b)), some (nI c)]) S := by
  obtain ⟨r0, hr0, hl0, ix0⟩ := ix0_cl h
  have m1 := mod_zero (S := S) (m := m) (c := c) (by omega)
  have m2 := mod_zero (S := S) (m := w) (c := c) (by omega)
  have dl0 : decide (0 ≤ line) = true := by decide
  by_cases z : m % c = 0
  · by_cases z2 : w % c = 0
    · have hd : dvb m w c = true := by simp [dvb, z, z2]
      obtain ⟨g1, g2⟩ := dv_of h hc hd
      have u := law_unstacked_e (S := S) g1 g2
      unfold okc
      rw [hd, Bool.true_and]
      unfold emp
      cases he : (und X (m / c) (w / c) c).isEmpty with
      | true => simp only [B1__law_loosest, sSeq_e, sIf_e, bAnd_e, bVal_e, Mi.e2_e, eB_e, eCall_e, eTup_e, aCons_e, aNil_e, eVar_s, eVar_z, eC_e, bind_ok, int_i, len_tup, List.length_map, h.1, ix0, hl0, m1, m2, eq_ii, zero_beq, decide_eq_true z, decide_eq_true z2, List.length_cons, List.length_nil, Nat.zero_add, Nat.reduceAdd, beq_self_eq_true, Mi.if_true, u, ix1_pair, dl0, eq_nil, he, then_ok, sSet_e, List.set_cons_succ, List.set_cons_zero, seq_nx, sNil_e, ite_true]
      | false => simp only [B1__law_loosest, sSeq_e, sIf_e, bAnd_e, bVal_e, Mi.e2_e, eB_e, eCall_e, eTup_e, aCons_e, aNil_e, eVar_s, eVar_z, eC_e, bind_ok, int_i, len_tup, List.length_map, h.1, ix0, hl0, m1, m2, eq_ii, zero_beq, decide_eq_true z, decide_eq_true z2, List.length_cons, List.length_nil, Nat.zero_add, Nat.reduceAdd, beq_self_eq_true, Mi.if_true, u, ix1_pair, dl0, eq_nil, he, then_ok, seq_nx, sNil_e, Bool.false_eq_true, if_false]
    · have ho : okc X m w c = false := by simp [okc, dvb, z, z2]
      simp only [ho, B1__law_loosest, sSeq_e, sIf_e, bAnd_e, bVal_e, Mi.e2_e, eB_e, aCons_e, aNil_e, eVar_s, eVar_z, eC_e, bind_ok, int_i, len_tup, List.length_map, h.1, ix0, hl0, m1, m2, eq_ii, zero_beq, decide_eq_true z, decide_eq_false z2, then_ok, seq_nx, sNil_e, Bool.false_eq_true, if_false]
  · have ho : okc X m w c = false := by simp [okc, dvb, z]
    simp only [ho, B1__law_loosest, sSeq_e, sIf_e, bAnd_e, bVal_e, Mi.e2_e, eB_e, aCons_e, aNil_e, eVar_s, eVar_z, eC_e, bind_ok, int_i, len_tup, List.length_map, h.1, m1, eq_ii, zero_beq, decide_eq_false z, then_ok, seq_nx, sNil_e, Bool.false_eq_true, if_false]
theorem law_loosest_e {m w : Nat} {X : List (List Int)} (h : Cl m w X) : F__law_loosest [cl X] S = .ok (nI (best X m w)) S := by
  refine fn_e (by rfl) ?_
  show D__law_loosest [some (cl X), none, none] S = _
  have r2 := range2_n (S := S) (ρ := [some (cl X), some (.int 1), none]) (f := eC (.int 2)) (g := eC (.int 5)) (a := 2) (b := 5) rfl rfl (by omega) (by omega)
  have el := fold_v (S := S) (g := gN 2) (b := B1__law_loosest) (E := fun (c : Int × Option T) => [some (cl X), some (.int c.1), c.2]) (h := fun (i : Nat) => nI (2 + i)) (F := fun c i => (if okc X m w (2 + i) then ((2 + i : Nat) : Int) else c.1, some (nI (2 + i)))) (I := fun xs c => ∀ i ∈ xs, i < 3)
    (fun i xs c hI => ⟨_, rfl, lol_b1 h ⟨by omega, by have := hI i (List.mem_cons_self ..); omega⟩, fun j hj => hI j (List.mem_cons_of_mem _ hj)⟩) (List.range 3) (1, none) (fun i hi => by simpa using hi)
  have ef := (for_it (g := gN 2) (b := B1__law_loosest) r2).trans el
  have fin : ((List.range 3).foldl (fun (c : Int × Option T) i => (if okc X m w (2 + i) then ((2 + i : Nat) : Int) else c.1, some (nI (2 + i)))) (1, none)).1 = ((best X m w : Nat) : Int) := by
    have r3 : List.range 3 = [0, 1, 2] := rfl
    rw [r3]
    unfold best
    show (if okc X m w 4 = true then ((4 : Nat) : Int) else if okc X m w 3 = true then ((3 : Nat) : Int) else if okc X m w 2 = true then ((2 : Nat) : Int) else 1) = _
    cases okc X m w 2 <;> cases okc X m w 3 <;> cases okc X m w 4 <;> rfl
  simp only [D__law_loosest, sSeq_e, sSet_e, eC_e, then_ok, List.set_cons_succ, List.set_cons_zero, seq_nx, ef, sRet_e, eVar_s, eVar_z, fin, seq_rt]
end
end L61
end

section
set_option Elab.async false
set_option linter.all false
set_option maxRecDepth 100000
set_option maxHeartbeats 2000000
set_option exponentiation.threshold 9000
/-! K61i: folded; the law's cloths -/
namespace L61
open PySem PySem.Spec L2 Mi Cm
section
variable {S : Sto} {n : Nat} {p q : Int} {ds : List Int} {ρ : Mi.Env} {α β γ : Type}
theorem fn_kj {m k : Nat} {D : SM} {ts : List T} {P : T → Prop} (hP : ∀ t, P t → t.pure = true)
    (h : ∀ p : Int, 0 ≤ p → p + k < 2 ^ 40 → ∃ (t : T) (q : Int) (J : Sto), P t ∧ p ≤ q ∧ q ≤ p + k ∧ D (ts.map some ++ List.replicate (m - ts.length) none) (Sp S n p) = .go (.rt t) (Sp S n q ++ J)) : Tk S n (fnOf m D ts) k P := fun p h0 h1 => by
  obtain ⟨t, q, J, a, b, c, d⟩ := h p h0 h1
  exact ⟨t, q, a, b, c, by rw [fnOf_e, d, outR_rt2 (S := Sp S n p) (S1 := Sp S n q) (hP t a) (by simp)]⟩
theorem cloth_k {m w : Nat} (hm : 1 ≤ m ∧ m ≤ 24) (hw : 1 ≤ w ∧ w ≤ 24) (hd : Dr ds) (hn : n < S.length) :
    Tk S n (F__law_cloth [.int m, .int w, tL ds, .obj n]) 1000 (fun t => ∃ rows, Cl m w rows ∧ t = cl rows) := by
  refine fn_kj (fun t ⟨rows, _, h⟩ => by rw [h]; exact pure_cl) fun p h0 h1 => ?_
  have mul : m * (w + 2) ≤ 24 * 26 := Nat.mul_le_mul hm.2 (by omega)
  obtain ⟨_, q1, ⟨r, r0, r1, rfl⟩, a1, b1, e1⟩ := take_k (m := 7) hd hn (by omega) p h0 (by omega)
  have env : ∀ l : List T, l.length = 4 → l.map some ++ List.replicate (15 - l.length) none = l.map some ++ [none, none, none, none, none, none, none, none, none, none, none] := fun l h => by rw [h]; rfl
  rw [env _ rfl]
  by_cases c0 : r = 0
  · subst c0
    obtain ⟨_, q2, ⟨bs, hb, rfl⟩, a2, b2, e2⟩ := bits_k (c := w) (by omega) hd hn q1 (by omega) (by omega)
    obtain ⟨_, q3, ⟨st, s0, s1, rfl⟩, a3, b3, e3⟩ := take_k (m := w) hd hn (by omega) q2 (by omega) (by omega)
    refine ⟨cl ((List.range m).map fun (i : Nat) => (List.range w).map fun (e : Nat) => bs.getD (((e : Int) + i * st) % w).toNat 0), q3, [], ⟨_, ⟨by simp, hm, hw, ?_⟩, rfl⟩, by omega, by omega, ?_⟩
    · intro r hr
      obtain ⟨i, _, h⟩ := List.mem_map.mp hr
      rw [← h]
      exact bits_of fun e _ => bits_get hb
    · have e4 := compR_e (S := Sp S n q3) (ρ := [some (.int m), some (.int w), some (tL ds), some (.obj n), some (.int 0), some (tR bs), some (.int st), none, none, none, none, none, none, none, none]) (m := m) (fe := eVar 0) (g := gN 13) (e := E10__law_cloth) (vs := [13])
        (r := fun i => tR ((List.range w).map fun (e : Nat) => bs.getD (((e : Int) + i * st) % w).toNat 0)) rfl (by omega) (fun i hi => ⟨_, rfl, by
          have e5 := compR_e (S := Sp S n q3) (ρ := [some (.int m), some (.int w), some (tL ds), some (.obj n), some (.int 0), some (tR bs), some (.int st), none, none, none, none, none, none, some (.int (i : Int)), none]) (m := w) (fe := eVar 1) (g := gN 12) (e := E11__law_cloth) (vs := [12])
            (r := fun e => .int (bs.getD (((e : Int) + i * st) % w).toNat 0)) rfl (by omega) (fun e he => ⟨_, rfl, by
              have i0 := Int.emod_nonneg ((e : Int) + i * st) (b := w) (by omega)
              have i1 := Int.emod_lt_of_pos ((e : Int) + i * st) (b := w) (by omega)
              have f1 := ix_tm (S := Sp S n q3) (xs := bs) (f := T.int) (d := 0) i0 (by rw [hb.1]; exact i1)
              have f2 := mul_sm (S := Sp S n q3) (a := (i : Int)) (b := st) (by omega) (by omega)
              have f3 := mod_ii (S := Sp S n q3) (a := (e : Int) + i * st) (b := w) (by omega)
              simp [E11__law_cloth, f1, f2, f3, wipeE]⟩)
          simp [E10__law_cloth, wipeE, e5, Function.comp_def, -nComp_e]⟩)
      simp [D__law_cloth, e1, e2, e3, e4, Function.comp_def, -nComp_e]
  by_cases c1 : r = 1
  · subst c1
    obtain ⟨l, q2, hl, a2, b2, e2⟩ := compR_k (S := S) (n := n) (ρ := [some (.int m), some (.int w), some (tL ds), some (.obj n), some (.int 1), none, none, none, none, none, none, none, none, none, none]) (m := 2) (fe := eC (.int 2)) (g := gN 11) (e := E9__law_cloth) (vs := [11]) (k := w + 2)
      (P := fun _ t => ∃ bs, Bits w bs ∧ t = tR bs) (fun _ => rfl) (by omega) (fun i hi => ⟨_, rfl, (bits_k (c := w) (by omega) hd hn).of fun S' => by simp [E9__law_cloth, wipeE]⟩) q1 (by omega) (by omega)
    obtain ⟨cs, rfl, g1, g2⟩ := hl.ex (P := Bits w) (f := tR) fun _ _ h => h
    have pu : T.pures (cs.map tR) = true := pures_map fun _ _ => pure_tR
    have ap : ∀ q : Int, Sp (S ++ [.lst (cs.map tR)]) n q = Sp S n q ++ [.lst (cs.map tR)] := fun q => sp_app hn
    have hn2 : n < (S ++ [MO.lst (cs.map tR)]).length := by simp; omega
    obtain ⟨l2, q3, hl2, a3, b3, e3⟩ := compR_k (S := S ++ [.lst (cs.map tR)]) (n := n) (ρ := [some (.int m), some (.int w), some (tL ds), some (.obj n), some (.int 1), none, none, some (.obj S.length), none, none, none, none, none, none, none]) (m := m) (fe := eVar 0) (g := gN 13) (e := E8__law_cloth) (vs := [13]) (k := 1)
      (P := fun _ t => ∃ bs, Bits w bs ∧ t = tR bs) (fun _ => rfl) (by omega) (fun i hi => ⟨_, rfl, fun p h0 h1 => by
        obtain ⟨_, q, ⟨r, r0, r1, rfl⟩, a, b, e⟩ := take_k (m := 2) hd hn2 (by omega) p h0 (by omega)
        have hr : r < cs.length := by rw [g1]; simpa using r1
        have hat : atI (cs.map tR) r = some (tR (cs.getD r.toNat [])) := by rw [at_in r0 (by simpa using hr)]; exact at_map (getD_at (by omega))
        have f1 := ix_obj (S := Sp (S ++ [.lst (cs.map tR)]) n q) (n := S.length) (l := cs.map tR) (i := r) (by rw [ap]; exact get_end (by simp)) hat
        exact ⟨_, q, ⟨cs.getD r.toNat [], g2 _ (Mi.getD_mem (by omega)), rfl⟩, a, b, by simp [E8__law_cloth, wipeE, e, f1]⟩⟩) q2 (by omega) (by omega)
    obtain ⟨rs, rfl, k1, k2⟩ := hl2.ex (P := Bits w) (f := tR) fun _ _ h => h
    refine ⟨cl rs, q3, [.lst (cs.map tR)], ⟨rs, ⟨by simpa using k1, hm, hw, k2⟩, rfl⟩, by omega, by omega, ?_⟩
    rw [ap, ap] at e3
    simp [D__law_cloth, e1, e2, pu, e3, Function.comp_def, -nComp_e]
  by_cases c2 : r = 2
  · subst c2
    obtain ⟨l, q2, hl, a2, b2, e2⟩ := compR_k (S := S) (n := n) (ρ := [some (.int m), some (.int w), some (tL ds), some (.obj n), some (.int 2), none, none, none, none, none, none, none, none, none, none]) (m := 3) (fe := eC (.int 3)) (g := gN 11) (e := E7__law_cloth) (vs := [11]) (k := m + 2)
      (P := fun _ t => ∃ bs, Bits m bs ∧ t = tR bs) (fun _ => rfl) (by omega) (fun i hi => ⟨_, rfl, (bits_k (c := m) (by omega) hd hn).of fun S' => by simp [E7__law_cloth, wipeE]⟩) q1 (by omega) (by omega)
    obtain ⟨cs, rfl, g1, g2⟩ := hl.ex (P := Bits m) (f := tR) fun _ _ h => h
    have hne : cs.map tR ≠ [] := by intro z; have := congrArg List.length z; simp [g1] at this
    obtain ⟨l2, q3, hl2, a3, b3, e3⟩ := compR_k (S := S) (n := n) (ρ := [some (.int m), some (.int w), some (tL ds), some (.obj n), some (.int 2), none, none, none, some (.lst (cs.map tR)), none, none, none, none, none, none]) (m := w) (fe := eVar 1) (g := gN 12) (e := E6__law_cloth) (vs := [12]) (k := 1)
      (P := fun _ t => t ∈ cs.map tR) (fun _ => rfl) (by omega) (fun i hi => ⟨_, rfl, (one_k (.inl rfl) hne (pures_map fun _ _ => pure_tR) hd hn).of fun S' => by simp [E6__law_cloth, wipeE]⟩) q2 (by omega) (by omega)
    obtain ⟨rs, rfl, k1, k2⟩ := hl2.ex (P := Bits m) (f := tR) fun _ _ h => by
      obtain ⟨c, c1, c2⟩ := List.mem_map.mp h
      exact ⟨c, g2 c c1, c2.symm⟩
    refine ⟨cl ((List.range m).map fun (i : Nat) => rs.map fun c => c.getD i 0), q3, [], ⟨_, ⟨by simp, hm, hw, ?_⟩, rfl⟩, by omega, by omega, ?_⟩
    · intro r hr
      obtain ⟨i, _, h⟩ := List.mem_map.mp hr
      rw [← h]
      refine ⟨by simpa using k1, fun b hb => ?_⟩
      obtain ⟨c, d1, d2⟩ := List.mem_map.mp hb
      rw [← d2]
      exact bits_get (k2 c d1)
    · have e4 := compR_e (S := Sp S n q3) (ρ := [some (.int m), some (.int w), some (tL ds), some (.obj n), some (.int 2), none, none, none, some (.lst (cs.map tR)), some (.lst (rs.map tR)), none, none, none, none, none]) (m := m) (fe := eVar 0) (g := gN 13) (e := E4__law_cloth) (vs := [13])
        (r := fun i => tR (rs.map fun c => c.getD i 0)) rfl (by omega) (fun i hi => ⟨_, rfl, by
          have e5 := comp_e (S := Sp S n q3) (ρ := [some (.int m), some (.int w), some (tL ds), some (.obj n), some (.int 2), none, none, none, some (.lst (cs.map tR)), some (.lst (rs.map tR)), none, none, none, some (.int (i : Int)), none]) (xs := rs) (h := tR) (f := iAny (eVar 9)) (g := gN 14) (e := E5__law_cloth) (vs := [14])
            (r := fun c => .int (c.getD i 0)) (iAny_lst rfl) (by have : rs.length = w := by simpa using k1
                                                                 omega) (fun c hc => ⟨_, rfl, by
              have f1 := ix_tm (S := Sp S n q3) (xs := c) (f := T.int) (d := 0) (i := (i : Int)) (by omega) (by rw [(k2 c hc).1]; omega)
              simp at f1
              simp [E5__law_cloth, f1, wipeE]⟩)
          simp [E4__law_cloth, wipeE, e5, Function.comp_def, -nComp_e]⟩)
      simp [D__law_cloth, e1, e2, e3, e4, Function.comp_def, -nComp_e]
  by_cases c3 : r = 3
  · subst c3
    obtain ⟨_, q2, ⟨st, s0, s1, rfl⟩, a2, b2, e2⟩ := take_k (m := 2) hd hn (by omega) q1 (by omega) (by omega)
    refine ⟨cl ((List.range m).map fun (i : Nat) => (List.range w).map fun (e : Nat) => ((i : Int) + e + st) % 2), q2, [], ⟨_, ⟨by simp, hm, hw, ?_⟩, rfl⟩, by omega, by omega, ?_⟩
    · intro r hr
      obtain ⟨i, _, h⟩ := List.mem_map.mp hr
      rw [← h]
      exact bits_of fun e _ => Int.emod_two_eq _
    · have e4 := compR_e (S := Sp S n q2) (ρ := [some (.int m), some (.int w), some (tL ds), some (.obj n), some (.int 3), none, none, none, none, none, some (.int st), none, none, none, none]) (m := m) (fe := eVar 0) (g := gN 13) (e := E2__law_cloth) (vs := [13])
        (r := fun i => tR ((List.range w).map fun (e : Nat) => ((i : Int) + e + st) % 2)) rfl (by omega) (fun i hi => ⟨_, rfl, by
          have e5 := compR_e (S := Sp S n q2) (ρ := [some (.int m), some (.int w), some (tL ds), some (.obj n), some (.int 3), none, none, none, none, none, some (.int st), none, none, some (.int (i : Int)), none]) (m := w) (fe := eVar 1) (g := gN 12) (e := E3__law_cloth) (vs := [12])
            (r := fun e => .int (((i : Int) + e + st) % 2)) rfl (by omega) (fun e he => ⟨_, rfl, by
              simp [E3__law_cloth, mod_ii, wipeE]⟩)
          simp [E2__law_cloth, wipeE, e5, Function.comp_def, -nComp_e]⟩)
      simp [D__law_cloth, e1, e2, e4, Function.comp_def, -nComp_e]
  · obtain ⟨l, q2, hl, a2, b2, e2⟩ := compR_k (S := S) (n := n) (ρ := [some (.int m), some (.int w), some (tL ds), some (.obj n), some (.int r), none, none, none, none, none, none, none, none, none, none]) (m := m) (fe := eVar 0) (g := gN 13) (e := E1__law_cloth) (vs := [13]) (k := w + 2)
      (P := fun _ t => ∃ bs, Bits w bs ∧ t = tR bs) (fun _ => rfl) (by omega) (fun i hi => ⟨_, rfl, (bits_k (c := w) (by omega) hd hn).of fun S' => by simp [E1__law_cloth, wipeE]⟩) q1 (by omega) (by rw [Nat.mul_comm] at mul; omega)
    obtain ⟨rs, rfl, k1, k2⟩ := hl.ex (P := Bits w) (f := tR) fun _ _ h => h
    refine ⟨cl rs, q2, [], ⟨rs, ⟨by simpa using k1, hm, hw, k2⟩, rfl⟩, by omega, by rw [Nat.mul_comm] at mul; omega, ?_⟩
    have nb : ∀ k : Int, ¬ r = k → (r == k) = false := fun k h => beq_eq_false_iff_ne.mpr h
    simp [D__law_cloth, e1, e2, nb _ c0, nb _ c1, nb _ c2, nb _ c3, Function.comp_def, -nComp_e]
theorem cut_e {f : EM} {lo hi : OM} {l : List T} {a b : Option Int} (hf : f ρ S = .ok (.tup l) S) (hl : lo ρ S = .ok a S) (hh : hi ρ S = .ok b S) : eCut f lo hi ρ S = .ok (.tup (cutT l a b)) S := by
  unfold eCut
  rw [hf]
  simp only [eCutT, bind_ok, hl, hh]
theorem cut_hi {r : List Int} {k : Nat} (hk : k ≤ r.length) : cutT (r.map T.int) none (some (k : Int)) = (r.take k).map T.int := by
  have e : cutA r none (some (k : Int)) = r.take k := by
    unfold cutA
    rw [HT.sIx_nat]
    simp [HT.sIx, Nat.min_eq_left hk]
  rw [cut_map, e]
theorem cut_lo {r : List Int} {k : Nat} (hk : k ≤ r.length) : cutT (r.map T.int) (some (k : Int)) none = (r.drop k).map T.int := by
  have e : cutA r (some (k : Int)) none = r.drop k := by
    unfold cutA
    rw [HT.sIx_nat, Nat.min_eq_left hk]
    have : HT.sIx r.length r.length none = r.length := rfl
    rw [this, List.take_of_length_le]
    rw [List.length_drop]
    omega
  rw [cut_map, e]
theorem rev_t {f : EM} {l : List T} (hf : f ρ S = .ok (.tup l) S) (hl : l.length ≤ 1000) : eRevA f ρ S = .ok (.tup l.reverse) S := by
  have d : decide (l.length ≤ line) = true := decide_eq_true (by show l.length ≤ 16777216; omega)
  unfold eRevA
  rw [hf]
  simp only [d, Mi.if_true]
theorem rev_l {f : EM} {l : List T} (hf : f ρ S = .ok (.lst l) S) (hl : l.length ≤ 1000) : eRevA f ρ S = .ok (.lst l.reverse) S := by
  have d : decide (l.length ≤ line) = true := decide_eq_true (by show l.length ≤ 16777216; omega)
  have s : seqT S (.lst l) = some l := rfl
  unfold eRevA
  rw [hf]
  simp only [eFrz_e, nRev, bind_ok, s, d, Mi.if_true]
/-- the two halves, the second seen from behind -/
def fold (X : List (List Int)) (h : Nat) : List (List (List Int)) := [X.map fun r => r.take h, X.map fun r => (r.drop h).reverse.map fun x => 1 - x]
theorem fold_cls {m w h : Nat} {X : List (List Int)} (hX : Cl m w X) (hh : w = h * 2) : Cls m h (fold X h) := by
  have hm := hX.2.1
  have hw := hX.2.2.1
  refine ⟨by simp [fold], fun C hC => ?_⟩
  simp only [fold, List.mem_cons, List.not_mem_nil, or_false] at hC
  rcases hC with z | z <;> subst z
  · refine ⟨by rw [List.length_map]; exact hX.1, hm, by omega, fun r hr => ?_⟩
    obtain ⟨r0, h1, h2⟩ := List.mem_map.mp hr
    subst h2
    have hb := hX.2.2.2 r0 h1
    exact ⟨by rw [List.length_take, hb.1]; omega, fun b hb2 => hb.2 b (List.mem_of_mem_take hb2)⟩
  · refine ⟨by rw [List.length_map]; exact hX.1, hm, by omega, fun r hr => ?_⟩
    obtain ⟨r0, h1, h2⟩ := List.mem_map.mp hr
    subst h2
    have hb := hX.2.2.2 r0 h1
    refine ⟨by rw [List.length_map, List.length_reverse, List.length_drop, hb.1]; omega, fun b hb2 => ?_⟩
    obtain ⟨x, h3, h4⟩ := List.mem_map.mp hb2
    rcases hb.2 x (List.mem_of_mem_drop (List.mem_reverse.mp h3)) with z | z <;> subst z <;> subst h4
    · exact .inr rfl
    · exact .inl rfl
theorem folded_e {m w h : Nat} {X : List (List Int)} (hX : Cl m w X) (hh : w = h * 2) (hm2 : m * 2 ≤ 24) : F_folded [cl X] S = .ok (cl (stkd m h (fold X h))) S := by
  obtain ⟨r0, hr0, hl0, ix0⟩ := ix0_cl hX
  have hm := hX.2.1
  have hw := hX.2.2.1
  refine fn_e pure_cl ?_
  show D_folded [some (cl X), none, none, none, none, none] S = _
  have m1 := mod_nn (S := S) (a := w) (b := 2) (by omega)
  have z0 : (((w % 2 : Nat) : Int) == 0) = true := by rw [zero_beq]; exact decide_eq_true (by omega)
  have m2 := mul_nn (S := S) (a := m) (b := 2) (by omega) (by omega)
  have d24 : decide ((24 : Int) < ((m * 2 : Nat) : Int)) = false := decide_eq_false (by omega)
  have dv := div_nn (S := S) (a := w) (b := 2) (by omega) (by omega)
  have e2 : w / 2 = h := by omega
  rw [e2] at dv
  have c1 := comp_e (S := S) (ρ := [some (cl X), some (nI h), none, none, none, none]) (xs := X) (h := tR) (r := fun r => tR (r.take h)) (f := iAny (eVar 0)) (g := gN 4) (e := E3_folded) (vs := [4]) (iAny_tup rfl) (by have := hX.1; omega) fun r hr => ⟨_, rfl, by
    have hb := hX.2.2.2 r hr
    rw [E3_folded, cut_e (l := r.map T.int) (a := none) (b := some (h : Int)) rfl rfl rfl, cut_hi (by rw [hb.1]; omega)]⟩
  have c2 := comp_e (S := S) (ρ := [some (cl X), some (nI h), some (.tup (X.map fun r => tR (r.take h))), none, none, none]) (xs := X) (h := tR) (r := fun r => tR ((r.drop h).reverse.map fun x => 1 - x)) (f := iAny (eVar 0)) (g := gN 4) (e := E1_folded) (vs := [4]) (iAny_tup rfl) (by have := hX.1; omega) fun r hr => ⟨_, rfl, by
    have hb := hX.2.2.2 r hr
    have ce := cut_e (S := S) (ρ := [some (cl X), some (nI h), some (.tup (X.map fun r => tR (r.take h))), none, some (tR r), none]) (f := eVar 4) (lo := oSome (eVar 1)) (hi := oNone) (l := r.map T.int) (a := some (h : Int)) (b := none) rfl rfl rfl
    rw [cut_lo (by rw [hb.1]; omega)] at ce
    have re := rev_t ce (by rw [List.length_map, List.length_drop, hb.1]; omega)
    rw [← List.map_reverse] at re
    have c3 := comp_e (S := S) (ρ := [some (cl X), some (nI h), some (.tup (X.map fun r => tR (r.take h))), none, some (tR r), none]) (xs := (r.drop h).reverse) (h := T.int) (r := fun x => .int (1 - x)) (f := iAny (eRevA (eCut (eVar 4) (oSome (eVar 1)) oNone))) (g := gN 5) (e := E2_folded) (vs := [5]) (iAny_tup re) (by rw [List.length_reverse, List.length_drop, hb.1]; omega) fun x _ => ⟨_, rfl, by
      simp only [E2_folded, wipeE, List.set_cons_succ, List.set_cons_zero, Mi.e2_e, eC_e, eVar_s, eVar_z, bind_ok, sub_ii]⟩
    simp only [E1_folded, wipeE, List.set_cons_succ, List.set_cons_zero, eB_e, aCons_e, aNil_e, eFrz_e, c3, bind_ok, tup_lst, tR, List.map_map, Function.comp_def]⟩
  have dl2 : decide (2 ≤ line) = true := by decide
  have so := stacked_of_e (S := S) (fold_cls hX hh)
  have so' : F_stacked_of [.tup [.tup (X.map fun r => tR (r.take h)), .tup (X.map fun r => tR ((r.drop h).reverse.map fun x => 1 - x))]] S = .ok (cl (stkd m h (fold X h))) S := by
    have : tCs (fold X h) = .tup [.tup (X.map fun r => tR (r.take h)), .tup (X.map fun r => tR ((r.drop h).reverse.map fun x => 1 - x))] := by
      simp only [tCs, fold, List.map_cons, List.map_nil, cl, List.map_map, Function.comp_def]
    rw [← this]
    exact so
  have m1' : modT S (nI w) (.int 2) = .ok (nI (w % 2)) S := m1
  have m2' : mulL S (nI m) (.int 2) = .ok (nI (m * 2)) S := m2
  have dv' : fdivT S (nI w) (.int 2) = .ok (nI h) S := dv
  simp only [D_folded, sSeq_e, sDrop_e, eCall_e, aCons_e, aNil_e, eVar_s, eVar_z, eC_e, bind_ok, List.length_cons, List.length_nil, beq_self_eq_true, Mi.if_true, check_e hX, then_ok, seq_nx, sIf_e, bOr_e, bVal_e, Mi.e2_e, eB_e, ix0, len_tup, List.length_map, hl0, hX.1, m1', m2', dv', ne_ii, z0, gt_ii, d24, Bool.not_true, sNil_e, sSet_e, List.set_cons_succ, List.set_cons_zero, eFrz_e, c1, c2, tup_lst, sRet_e, eTup_e, Nat.zero_add, Nat.reduceAdd, dl2, so', seq_rt]
theorem folded_x {m w : Nat} {X : List (List Int)} (hX : Cl m w X) (hh : w % 2 = 1 ∨ 24 < m * 2) : F_folded [cl X] S = .exc "ArgumentError" [("reason", .str "cloth")] S := by
  obtain ⟨r0, hr0, hl0, ix0⟩ := ix0_cl hX
  have hm := hX.2.1
  have hw := hX.2.2.1
  refine fn_exs (ρ := [some (cl X), none, none, none, none, none]) ?_
  show D_folded [some (cl X), none, none, none, none, none] S = _
  have m1 : modT S (nI w) (.int 2) = .ok (nI (w % 2)) S := mod_nn (b := 2) (by omega)
  have m2 : mulL S (nI m) (.int 2) = .ok (nI (m * 2)) S := mul_nn (b := 2) (by omega) (by omega)
  by_cases z : w % 2 = 0
  · have z0 : (((w % 2 : Nat) : Int) == 0) = true := by rw [zero_beq]; exact decide_eq_true z
    have d24 : decide ((24 : Int) < ((m * 2 : Nat) : Int)) = true := decide_eq_true (by omega)
    simp only [D_folded, sSeq_e, sDrop_e, eCall_e, aCons_e, aNil_e, eVar_s, eVar_z, eC_e, bind_ok, List.length_cons, List.length_nil, beq_self_eq_true, Mi.if_true, check_e hX, then_ok, seq_nx, sIf_e, bOr_e, bVal_e, Mi.e2_e, eB_e, ix0, len_tup, List.length_map, hl0, hX.1, m1, m2, ne_ii, z0, gt_ii, d24, Bool.not_true, sRaise, seq_exc]
  · have z0 : (((w % 2 : Nat) : Int) == 0) = false := by rw [zero_beq]; exact decide_eq_false z
    simp only [D_folded, sSeq_e, sDrop_e, eCall_e, aCons_e, aNil_e, eVar_s, eVar_z, eC_e, bind_ok, List.length_cons, List.length_nil, beq_self_eq_true, Mi.if_true, check_e hX, then_ok, seq_nx, sIf_e, bOr_e, bVal_e, Mi.e2_e, eB_e, ix0, len_tup, List.length_map, hl0, m1, ne_ii, z0, Bool.not_false, sRaise, seq_exc]
theorem law_folded_e {m w h : Nat} {X : List (List Int)} (hX : Cl m w X) (hh : w = h * 2) : F__law_folded [cl X] S = .ok (cl (stkd m h (fold X h))) S := by
  obtain ⟨r0, hr0, hl0, ix0⟩ := ix0_cl hX
  have hm := hX.2.1
  have hw := hX.2.2.1
  refine fn_e pure_cl ?_
  show D__law_folded [some (cl X), none, none, none, none, none] S = _
  have dv := div_nn (S := S) (a := w) (b := 2) (by omega) (by omega)
  have e2 : w / 2 = h := by omega
  rw [e2] at dv
  have dv' : fdivT S (nI w) (.int 2) = .ok (nI h) S := dv
  have c1 := comp_e (S := S) (ρ := [some (cl X), some (nI h), none, none, none, none]) (xs := X) (h := tR) (r := fun r => tR (r.take h)) (f := iAny (eVar 0)) (g := gN 4) (e := E3__law_folded) (vs := [4]) (iAny_tup rfl) (by have := hX.1; omega) fun r hr => ⟨_, rfl, by
    have hb := hX.2.2.2 r hr
    rw [E3__law_folded, cut_e (l := r.map T.int) (a := none) (b := some (h : Int)) rfl rfl rfl, cut_hi (by rw [hb.1]; omega)]⟩
  have c2 := comp_e (S := S) (ρ := [some (cl X), some (nI h), some (.tup (X.map fun r => tR (r.take h))), none, none, none]) (xs := X) (h := tR) (r := fun r => tR ((r.drop h).reverse.map fun x => 1 - x)) (f := iAny (eVar 0)) (g := gN 4) (e := E1__law_folded) (vs := [4]) (iAny_tup rfl) (by have := hX.1; omega) fun r hr => ⟨_, rfl, by
    have hb := hX.2.2.2 r hr
    have ce := cut_e (S := S) (ρ := [some (cl X), some (nI h), some (.tup (X.map fun r => tR (r.take h))), none, some (tR r), none]) (f := eVar 4) (lo := oSome (eVar 1)) (hi := oNone) (l := r.map T.int) (a := some (h : Int)) (b := none) rfl rfl rfl
    rw [cut_lo (by rw [hb.1]; omega)] at ce
    have c3 := comp_e (S := S) (ρ := [some (cl X), some (nI h), some (.tup (X.map fun r => tR (r.take h))), none, some (tR r), none]) (xs := r.drop h) (h := T.int) (r := fun x => .int (1 - x)) (f := iAny (eCut (eVar 4) (oSome (eVar 1)) oNone)) (g := gN 5) (e := E2__law_folded) (vs := [5]) (iAny_tup ce) (by rw [List.length_drop, hb.1]; omega) fun x _ => ⟨_, rfl, by
      simp only [E2__law_folded, wipeE, List.set_cons_succ, List.set_cons_zero, Mi.e2_e, eC_e, eVar_s, eVar_z, bind_ok, sub_ii]⟩
    have re := rev_l (S := S) (ρ := [some (cl X), some (nI h), some (.tup (X.map fun r => tR (r.take h))), none, some (tR r), none]) (f := eFrz (nComp (iAny (eCut (eVar 4) (oSome (eVar 1)) oNone)) (gN 5) bYes E2__law_folded [5])) (l := (r.drop h).map fun x => .int (1 - x)) (by rw [eFrz_e, c3, bind_ok]) (by rw [List.length_map, List.length_drop, hb.1]; omega)
    rw [← List.map_reverse] at re
    simp only [E1__law_folded, wipeE, List.set_cons_succ, List.set_cons_zero, eB_e, aCons_e, aNil_e, re, bind_ok, tup_lst, tR, List.map_map, Function.comp_def]⟩
  have dl2 : decide (2 ≤ line) = true := by decide
  have so := law_stacked_e (S := S) (fold_cls hX hh)
  have so' : F__law_stacked [.tup [.tup (X.map fun r => tR (r.take h)), .tup (X.map fun r => tR ((r.drop h).reverse.map fun x => 1 - x))]] S = .ok (cl (stkd m h (fold X h))) S := by
    have : tCs (fold X h) = .tup [.tup (X.map fun r => tR (r.take h)), .tup (X.map fun r => tR ((r.drop h).reverse.map fun x => 1 - x))] := by
      simp only [tCs, fold, List.map_cons, List.map_nil, cl, List.map_map, Function.comp_def]
    rw [← this]
    exact so
  simp only [D__law_folded, sSeq_e, eCall_e, aCons_e, aNil_e, eVar_s, eVar_z, eC_e, bind_ok, List.length_cons, List.length_nil, beq_self_eq_true, Mi.if_true, then_ok, seq_nx, Mi.e2_e, eB_e, ix0, len_tup, List.length_map, hl0, dv', sSet_e, List.set_cons_succ, List.set_cons_zero, eFrz_e, c1, c2, tup_lst, sRet_e, eTup_e, Nat.zero_add, Nat.reduceAdd, dl2, so', seq_rt]
end
end L61
end

section
set_option Elab.async false
set_option linter.all false
set_option maxRecDepth 100000
set_option maxHeartbeats 2000000
set_option exponentiation.threshold 9000
/-! K61j: what is told, what is refused -/
namespace L61
open PySem PySem.Spec L2 Mi Cm
section
variable {S S1 : Sto} {n : Nat} {p q : Int} {ds : List Int} {ρ : Mi.Env} {α β γ : Type}
abbrev Z0 : Sto := [.lst [.int 0]]
abbrev HS : List (Str × Option Nat × (Str → Bool) × XV) := [("WeaveError", some 3, MT.above "WeaveError", (xIf (xIsi (MT.above "TooMany")) (xTup (xCons (xC (.str "many")) (xCons (xFld "reason") xNil))) (xIf (xIsi (MT.above "ArgumentError")) (xTup (xCons (xC (.str "argument")) (xCons (xFld "reason") xNil))) (xTup (xCons (xC (.str "cloth")) (xCons (xIsi (MT.above "ClothError")) xNil))))))]
abbrev arg (x : Str) : T := .tup [.str "argument", .str x]
abbrev mny (x : Str) : T := .tup [.str "many", .str x]
abbrev tcl : T := .tup [.str "cloth", .bl true]
abbrev rsn (x : Str) : List (Str × T) := [("reason", .str x)]
theorem try_ok {f : SM} {t : T} (h : f ρ S = .go (.rt t) S) : sTryV 4 (MT.gx []).xn f HS ρ S = .go (.rt t) S := by
  unfold sTryV
  rw [h]
theorem try_many {f : SM} {x : Str} {a b c d : Option T} (h : f [a, b, c, d] S = .exc "TooMany" (rsn x) [a, b, c, d] S) : sTryV 4 (MT.gx []).xn f HS [a, b, c, d] S = .go (.rt (mny x)) S := by
  unfold sTryV
  rw [h]
  kernel_rfl
theorem try_arg {f : SM} {x : Str} {a b c d : Option T} (h : f [a, b, c, d] S = .exc "ArgumentError" (rsn x) [a, b, c, d] S) : sTryV 4 (MT.gx []).xn f HS [a, b, c, d] S = .go (.rt (arg x)) S := by
  unfold sTryV
  rw [h]
  kernel_rfl
theorem try_cloth {f : SM} {x : Str} {a b c d : Option T} (h : f [a, b, c, d] S = .exc "ClothError" (rsn x) [a, b, c, d] S) : sTryV 4 (MT.gx []).xn f HS [a, b, c, d] S = .go (.rt tcl) S := by
  unfold sTryV
  rw [h]
  kernel_rfl
inductive Tl (S : Sto) : R T → T → Prop
  | ok {t : T} : t.pure = true → Tl S (.ok t S) t
  | many {x : Str} : Tl S (.exc "TooMany" (rsn x) S) (L61.mny x)
  | arg {x : Str} : Tl S (.exc "ArgumentError" (rsn x) S) (L61.arg x)
  | cloth {x : Str} : Tl S (.exc "ClothError" (rsn x) S) L61.tcl
theorem Tl.pure {r : R T} {t : T} (h : Tl S r t) : t.pure = true := by
  cases h with
  | ok h => exact h
  | many => rfl
  | arg => rfl
  | cloth => rfl
theorem told_of {f : SM} {r : R T} {t u a b : T} (h : Tl S r t) (hf : f [some u, some a, some b, none] S = r.then [some u, some a, some b, none] fun t S1 => .go (.rt t) S1) (hD : D__law_told = sSeq (sTryV 4 (MT.gx []).xn f HS) sNil) : F__law_told [u, a, b] S = .ok t S := by
  refine fn_e h.pure ?_
  show D__law_told [some u, some a, some b, none] S = _
  rw [hD, sSeq_e]
  cases h with
  | ok hp => rw [try_ok hf]; rfl
  | many => rw [try_many hf]; rfl
  | arg => rw [try_arg hf]; rfl
  | cloth => rw [try_cloth hf]; rfl
theorem seq_then {r : R T} {g : SM} : (r.then ρ fun t S1 => .go (.rt t) S1).seq g = r.then ρ fun t S1 => .go (.rt t) S1 := by
  cases r <;> rfl
theorem told0 {a b t : T} (h : Tl S (F_stacked [a] S) t) : F__law_told [.int 0, a, b] S = .ok t S := by
  refine told_of h ?_ rfl
  have e : ((0 : Int) == 0) = true := by decide
  simp only [sSeq_e, sIf_e, bVal_e, Mi.e2_e, eVar_z, eVar_s, eC_e, bind_ok, eq_ii, e, then_ok, sRet_e, eCall_e, aCons_e, aNil_e, List.length_cons, List.length_nil, beq_self_eq_true, Mi.if_true, seq_then]
theorem told1 {a b t : T} (h : Tl S (F_stitched [a, b] S) t) : F__law_told [.int 1, a, b] S = .ok t S := by
  refine told_of h ?_ rfl
  have e : ((1 : Int) == 0) = false := by decide
  have e1 : ((1 : Int) == 1) = true := by decide
  simp only [sSeq_e, sIf_e, bVal_e, Mi.e2_e, eVar_z, eVar_s, eC_e, bind_ok, eq_ii, e, e1, then_ok, sNil_e, seq_nx, sRet_e, eCall_e, aCons_e, aNil_e, List.length_cons, List.length_nil, beq_self_eq_true, Mi.if_true, seq_then]
theorem told2 {a b t : T} (h : Tl S (F_unstacked [a, b] S) t) : F__law_told [.int 2, a, b] S = .ok t S := by
  refine told_of h ?_ rfl
  have e : ((2 : Int) == 0) = false := by decide
  have e1 : ((2 : Int) == 1) = false := by decide
  have e2 : ((2 : Int) == 2) = true := by decide
  simp only [sSeq_e, sIf_e, bVal_e, Mi.e2_e, eVar_z, eVar_s, eC_e, bind_ok, eq_ii, e, e1, e2, then_ok, sNil_e, seq_nx, sRet_e, eCall_e, aCons_e, aNil_e, List.length_cons, List.length_nil, beq_self_eq_true, Mi.if_true, seq_then]
theorem told3 {a b t : T} (h : Tl S (F_loosest [a] S) t) : F__law_told [.int 3, a, b] S = .ok t S := by
  refine told_of h ?_ rfl
  have e : ((3 : Int) == 0) = false := by decide
  have e1 : ((3 : Int) == 1) = false := by decide
  have e2 : ((3 : Int) == 2) = false := by decide
  have e3 : ((3 : Int) == 3) = true := by decide
  simp only [sSeq_e, sIf_e, bVal_e, Mi.e2_e, eVar_z, eVar_s, eC_e, bind_ok, eq_ii, e, e1, e2, e3, then_ok, sNil_e, seq_nx, sRet_e, eIf_e, eCall_e, aCons_e, aNil_e, List.length_cons, List.length_nil, beq_self_eq_true, Mi.if_true, seq_then]
theorem told4 {a b t : T} (h : Tl S (F_folded [a] S) t) : F__law_told [.int 4, a, b] S = .ok t S := by
  refine told_of h ?_ rfl
  have e : ((4 : Int) == 0) = false := by decide
  have e1 : ((4 : Int) == 1) = false := by decide
  have e2 : ((4 : Int) == 2) = false := by decide
  have e3 : ((4 : Int) == 3) = false := by decide
  simp only [sSeq_e, sIf_e, bVal_e, Mi.e2_e, eVar_z, eVar_s, eC_e, bind_ok, eq_ii, e, e1, e2, e3, then_ok, sNil_e, seq_nx, sRet_e, eIf_e, eCall_e, aCons_e, aNil_e, List.length_cons, List.length_nil, beq_self_eq_true, Mi.if_true, seq_then]
/-! ### refused -/
theorem stacked_x {t : T} {c : Str} {x : Str} (h : F_demand_cloths [t] S = .exc c (rsn x) S) : F_stacked [t] S = .exc c (rsn x) S := by
  refine fn_exs (ρ := [some t]) ?_
  show D_stacked [some t] S = _
  simp only [D_stacked, sSeq_e, sDrop_e, eCall_e, aCons_e, aNil_e, eVar_z, bind_ok, List.length_cons, List.length_nil, beq_self_eq_true, Mi.if_true, h, then_exc, seq_exc]
theorem stitched_x {t u : T} {c : Str} {x : Str} (h : F_demand_cloths [t] S = .exc c (rsn x) S) : F_stitched [t, u] S = .exc c (rsn x) S := by
  refine fn_exs (ρ := [some t, some u, none, none, none, none, none, none, none, none, none]) ?_
  show D_stitched [some t, some u, none, none, none, none, none, none, none, none, none] S = _
  simp only [D_stitched, sSeq_e, sDrop_e, eCall_e, aCons_e, aNil_e, eVar_z, bind_ok, List.length_cons, List.length_nil, beq_self_eq_true, Mi.if_true, h, then_exc, seq_exc]
theorem stacked_big {m w : Nat} {Cs : List (List (List Int))} (h : Cls m w Cs) (h1 : 24 < m * Cs.length) : F_stacked [tCs Cs] S = .exc "TooMany" (rsn "size") S := by
  refine fn_exs (ρ := [some (tCs Cs)]) ?_
  show D_stacked [some (tCs Cs)] S = _
  simp only [D_stacked, sSeq_e, sDrop_e, eCall_e, aCons_e, aNil_e, eVar_z, bind_ok, List.length_cons, List.length_nil, beq_self_eq_true, Mi.if_true, demand_cloths_e h, then_ok, seq_nx, big_size_e h h1, then_exc, seq_exc]
theorem stitched_big {m w : Nat} {Cs : List (List (List Int))} (h : Cls m w Cs) (h1 : 24 < m * Cs.length) : F_stitched [tCs Cs, .tup []] S = .exc "TooMany" (rsn "size") S := by
  refine fn_exs (ρ := [some (tCs Cs), some (.tup []), none, none, none, none, none, none, none, none, none]) ?_
  show D_stitched [some (tCs Cs), some (.tup []), none, none, none, none, none, none, none, none, none] S = _
  have c1 : nComp (iAny (eVar 1)) (gN 6) bYes E4_stitched [6] [some (tCs Cs), some (.tup []), none, none, none, none, none, none, none, none, none] S = .ok [] S := comp_e (S := S) (xs := ([] : List T)) (h := fun t => t) (r := fun t => t) (iAny_tup rfl) (by simp) fun x hx => by cases hx
  have a1 : fAll S [.lst []] = .ok (.bl true) S := all_true (by simp)
  have c2 : nComp (iZipT (aCons (eCut (eVar 1) oNone (oSome (e1 negT (eC (.int 1))))) (aCons (eCut (eVar 1) (oSome (eC (.int 1))) oNone) aNil))) (gTupM 2 (gsCons (gN 7) (gsCons (gN 8) gsNil))) bYes E3_stitched [7, 8] [some (tCs Cs), some (.tup []), none, none, none, none, none, none, none, none, none] S = .ok [] S := comp_e (S := S) (xs := ([] : List T)) (h := fun t => t) (r := fun t => t) rfl (by simp) fun x hx => by cases hx
  simp only [D_stitched, sSeq_e, sDrop_e, eCall_e, aCons_e, aNil_e, eVar_s, eVar_z, bind_ok, List.length_cons, List.length_nil, beq_self_eq_true, Mi.if_true, demand_cloths_e h, then_ok, seq_nx, sIf_e, bOr_e, bNot_e, bTru_e, eIs_e, ty_tup, kin_tup, tru_bl, eB_e, eFrz_e, c1, a1, c2, Bool.not_true, Bool.not_false, sNil_e, big_size_e h h1, then_exc, seq_exc]
/-- no cloths: too many, or one that is none, or of another size -/
theorem not_four {l : List T} (h : 4 < l.length) : F_demand_cloths [.tup l] S = .exc "ArgumentError" (rsn "cloths") S := by
  refine fn_exs (ρ := [some (.tup l), none]) ?_
  show D_demand_cloths [some (.tup l), none] S = _
  have d1 : decide ((1 : Int) ≤ l.length) = true := decide_eq_true (by omega)
  have d2 : decide ((l.length : Int) ≤ 4) = false := decide_eq_false (by omega)
  simp only [D_demand_cloths, sSeq_e, sIf_e, bOr_e, bNot_e, bTru_e, bVal_e, eIs_e, eB_e, aCons_e, aNil_e, eChain_e, eC_e, eVar_z, bind_ok, ty_tup, kin_tup, tru_bl, len_tup, le_ii, d1, d2, Bool.not_true, Bool.not_false, then_ok, sRaise, seq_exc]
theorem is_cloth_int {i : Int} {p : Int} : F_is_cloth [.int i] (Sp Z0 0 p) = .ok (.bl false) (Sp Z0 0 p) := by kernel_rfl
theorem blsT_F {l : List β} : blsT (l.map fun _ => T.bl false) = some (l.map fun _ => false) := blsT_all (c := fun _ => false) fun _ _ => rfl
theorem all_F {l : List β} (h : l ≠ []) : fAll S [.lst (l.map fun _ => T.bl false)] = .ok (.bl false) S := by
  show (match (some (l.map fun _ => T.bl false)).bind blsT with
    | some ns => _
    | none => _) = _
  simp only [Option.bind_some, blsT_F]
  cases l with
  | nil => exact absurd rfl h
  | cons a l => rfl
theorem no_rows {l : List Int} (h : l ≠ []) : F_demand_cloths [tR l] (Sp Z0 0 p) = .exc "ArgumentError" (rsn "cloths") (Sp Z0 0 p) := by
  by_cases h4 : 4 < l.length
  · exact not_four (by rw [List.length_map]; exact h4)
  · refine fn_exs (ρ := [some (tR l), none]) ?_
    show D_demand_cloths [some (tR l), none] (Sp Z0 0 p) = _
    have hl : 1 ≤ l.length := by cases l with
      | nil => exact absurd rfl h
      | cons a l => simp
    have d1 : decide ((1 : Int) ≤ l.length) = true := decide_eq_true (by omega)
    have d2 : decide ((l.length : Int) ≤ 4) = true := decide_eq_true (by omega)
    have c1 := comp_e (S := Sp Z0 0 p) (ρ := [some (tR l), none]) (xs := l) (h := T.int) (r := fun _ => .bl false) (f := iAny (eVar 0)) (g := gN 1) (e := E2_demand_cloths) (vs := [1]) (iAny_tup rfl) (by omega) fun x hx => ⟨_, rfl, by
      simp only [E2_demand_cloths, wipeE, List.set_cons_succ, List.set_cons_zero, eCall_e, aCons_e, aNil_e, eVar_s, eVar_z, bind_ok, List.length_cons, List.length_nil, beq_self_eq_true, Mi.if_true, is_cloth_int]⟩
    have a1 := all_F (S := Sp Z0 0 p) h
    simp only [D_demand_cloths, sSeq_e, sIf_e, bOr_e, bNot_e, bTru_e, bVal_e, eIs_e, eB_e, aCons_e, aNil_e, eFrz_e, eChain_e, eC_e, eVar_z, bind_ok, ty_tup, kin_tup, tru_bl, len_tup, List.length_map, le_ii, d1, d2, c1, a1, Bool.not_true, Bool.not_false, then_ok, sRaise, seq_exc]
/-- one more of another size -/
theorem odd_size {m w : Nat} {Cs : List (List (List Int))} (h : Cls m w Cs) (hw : w ≤ 23) : F_demand_cloths [.tup (Cs.map cl ++ [cl [List.replicate (w + 1) 1]])] S = .exc "ArgumentError" (rsn "cloths") S := by
  by_cases h4 : 4 < Cs.length + 1
  · exact not_four (by simp; omega)
  · obtain ⟨C0, hC0, ix0⟩ := ixCs0 h
    obtain ⟨C, Cr, eC, hc⟩ := h.ne
    have hn := h.1
    have hB : Cl 1 (w + 1) [List.replicate (w + 1) 1] := ⟨rfl, by omega, by omega, fun r hr => by
      have : r = List.replicate (w + 1) 1 := by simpa using hr
      subst this
      exact ⟨by simp, fun b hb => .inr (List.eq_of_mem_replicate hb)⟩⟩
    refine fn_exs (ρ := [some (.tup (Cs.map cl ++ [cl [List.replicate (w + 1) 1]])), none]) ?_
    show D_demand_cloths [some (.tup (Cs.map cl ++ [cl [List.replicate (w + 1) 1]])), none] S = _
    have em : Cs.map cl ++ [cl [List.replicate (w + 1) 1]] = (Cs ++ [[List.replicate (w + 1) 1]]).map cl := by rw [List.map_append]; rfl
    rw [em]
    have ic : ∀ x ∈ Cs ++ [[List.replicate (w + 1) 1]], (∃ a b, Cl a b x) := fun x hx => by
      rcases List.mem_append.mp hx with z | z
      · exact ⟨m, w, h.2 x z⟩
      · rw [List.mem_singleton.mp z]
        exact ⟨1, w + 1, hB⟩
    have c1 := comp_e (S := S) (ρ := [some (.tup ((Cs ++ [[List.replicate (w + 1) 1]]).map cl)), none]) (xs := Cs ++ [[List.replicate (w + 1) 1]]) (h := cl) (r := fun _ => .bl true) (f := iAny (eVar 0)) (g := gN 1) (e := E2_demand_cloths) (vs := [1]) (iAny_tup rfl) (by simp; omega) fun x hx => ⟨_, rfl, by
      obtain ⟨a, b, hx⟩ := ic x hx
      simp only [E2_demand_cloths, wipeE, List.set_cons_succ, List.set_cons_zero, eCall_e, aCons_e, aNil_e, eVar_s, eVar_z, bind_ok, List.length_cons, List.length_nil, beq_self_eq_true, Mi.if_true, is_cloth_e hx]⟩
    have ix : ixA S (.tup ((Cs ++ [[List.replicate (w + 1) 1]]).map cl)) (.int 0) = .ok (cl C) S := by
      rw [eC]
      exact ix_tup (by rw [at_in (by omega) (by simp; omega)]; rfl)
    have eqs : ∀ a b : Nat, a ≤ 24 → b ≤ 24 → eqA S (.tup [nI a, nI b]) (.tup [nI m, nI w]) = .ok (.bl (decide (a = m) && decide (b = w))) S := fun a b _ _ => by
      have e := eqv_P (a := (a, b)) (b := (m, w))
      have e1 : (tP (a, b)).dat 60 = true := rfl
      have e2 : (tP (m, w)).dat 60 = true := rfl
      show R.if ((tP (a, b)).dat 60 && (tP (m, w)).dat 60) (R.ok (T.bl (T.eqv (tP (a, b)) (tP (m, w)))) S) = _
      rw [e, e1, e2]
      simp only [Bool.and_self, Mi.if_true, Prod.mk.injEq, Bool.decide_and]
    have c2 := comp_e (S := S) (ρ := [some (.tup ((Cs ++ [[List.replicate (w + 1) 1]]).map cl)), none]) (xs := Cs ++ [[List.replicate (w + 1) 1]]) (h := cl) (r := fun x => .bl (decide (x.length = m) && decide ((x.getD 0 []).length = w))) (f := iAny (eVar 0)) (g := gN 1) (e := E1_demand_cloths) (vs := [1]) (iAny_tup rfl) (by simp; omega) fun x hx => ⟨_, rfl, by
      obtain ⟨a, b, hx⟩ := ic x hx
      have hl := hx.1
      have hr : (x.getD 0 []).length = b := (hx.2.2.2 _ (Mi.getD_mem (by rw [hl]; have := hx.2.1; omega))).1
      rw [hl, hr]
      simp only [E1_demand_cloths, wipeE, List.set_cons_succ, List.set_cons_zero, Mi.e2_e, eCall_e, aCons_e, aNil_e, eVar_s, eVar_z, eC_e, bind_ok, List.length_cons, List.length_nil, beq_self_eq_true, Mi.if_true, size_of_e hx, ix, size_of_e hc, eqs a b hx.2.1.2 hx.2.2.1.2]⟩
    have a1 := all_tr (S := S) (xs := Cs ++ [[List.replicate (w + 1) 1]])
    have a2 := all_map (S := S) (xs := Cs ++ [[List.replicate (w + 1) 1]]) (c := fun x => decide (x.length = m) && decide ((x.getD 0 []).length = w))
    have a3 : (Cs ++ [[List.replicate (w + 1) (1 : Int)]]).all (fun x => decide (x.length = m) && decide ((x.getD 0 []).length = w)) = false := by
      rw [List.all_append]
      have : ([[List.replicate (w + 1) (1 : Int)]] : List (List (List Int))).all (fun x => decide (x.length = m) && decide ((x.getD 0 []).length = w)) = false := by
        rw [List.all_cons, List.all_nil, Bool.and_true]
        have : decide ((([List.replicate (w + 1) (1 : Int)] : List (List Int)).getD 0 []).length = w) = false := decide_eq_false (by
          show ¬ (List.replicate (w + 1) (1 : Int)).length = w
          rw [List.length_replicate]; omega)
        rw [this, Bool.and_false]
      rw [this, Bool.and_false]
    rw [a3] at a2
    have hlen : (((Cs ++ [[List.replicate (w + 1) (1 : Int)]]).map cl).length : Int) = (Cs.length : Int) + 1 := by simp
    have d1 : decide ((1 : Int) ≤ (Cs.length : Int) + 1) = true := decide_eq_true (by omega)
    have d2 : decide ((Cs.length : Int) + 1 ≤ 4) = true := decide_eq_true (by omega)
    simp only [D_demand_cloths, sSeq_e, sIf_e, bOr_e, bNot_e, bTru_e, bVal_e, eIs_e, eB_e, aCons_e, aNil_e, eFrz_e, eChain_e, Mi.e2_e, eC_e, eVar_z, bind_ok, ty_tup, kin_tup, tru_bl, c1, c2, a1, a2, then_ok, len_tup, hlen, le_ii, d1, d2, Bool.not_true, Bool.not_false, seq_nx, sNil_e, sRaise, seq_exc]
def oddCs (w : Nat) (Cs : List (List (List Int))) (row : List Int) : List T := [.non, .tup [], .tup (Cs.map cl ++ [cl [List.replicate (w + 1) 1]]), .tup (List.replicate 5 (Cs.map cl)).flatten, .tup [.tup []], .tup [.tup [.tup [.int 2]]], tR row]
theorem oddCs_e {m w : Nat} {Cs : List (List (List Int))} {row : List Int} {b : T} (h : Cls m w Cs) (hw : w ≤ 23) (hr : row ≠ []) (hb : b ∈ oddCs w Cs row) : F_demand_cloths [b] (Sp Z0 0 p) = .exc "ArgumentError" (rsn "cloths") (Sp Z0 0 p) := by
  simp only [oddCs, List.mem_cons, List.not_mem_nil, or_false] at hb
  rcases hb with z | z | z | z | z | z | z <;> subst z
  · kernel_rfl
  · kernel_rfl
  · exact odd_size h hw
  · refine not_four ?_
    have := h.1
    have e : (List.replicate 5 (Cs.map cl)).flatten.length = 5 * Cs.length := by
      simp [List.length_flatten, List.map_replicate, List.sum_replicate_nat]
      omega
    rw [e]
    omega
  · kernel_rfl
  · kernel_rfl
  · exact no_rows hr
end
end L61
end

section
set_option Elab.async false
set_option linter.all false
set_option maxRecDepth 100000
set_option maxHeartbeats 2000000
set_option exponentiation.threshold 9000
/-! K61k: refused stitches, counts; sizes -/
namespace L61
open PySem PySem.Spec L2 Mi Cm
section
variable {S S1 : Sto} {n : Nat} {p q : Int} {ds : List Int} {ρ : Mi.Env} {α β γ : Type}
theorem st_none {m w : Nat} {Cs : List (List (List Int))} (h : Cls m w Cs) : F_stitched [tCs Cs, .non] S = .exc "ArgumentError" (rsn "stitches") S := by
  refine fn_exs (ρ := [some (tCs Cs), some .non, none, none, none, none, none, none, none, none, none]) ?_
  show D_stitched [some (tCs Cs), some .non, none, none, none, none, none, none, none, none, none] S = _
  have k : kinT "NoneType" "tuple" = false := by decide
  simp only [D_stitched, sSeq_e, sDrop_e, eCall_e, aCons_e, aNil_e, eVar_s, eVar_z, eC_e, bind_ok, List.length_cons, List.length_nil, beq_self_eq_true, Mi.if_true, demand_cloths_e h, then_ok, seq_nx, sIf_e, bOr_e, bNot_e, bTru_e, eIs_e, ty_non, k, tru_bl, Bool.not_false, sRaise, seq_exc]
theorem st_one {m w : Nat} {Cs : List (List (List Int))} {x : T} (h : Cls m w Cs) (hx : F_is_stitch [x, tCs Cs] S = .ok (.bl false) S) : F_stitched [tCs Cs, .tup [x]] S = .exc "ArgumentError" (rsn "stitches") S := by
  refine fn_exs (ρ := [some (tCs Cs), some (.tup [x]), none, none, none, none, none, none, none, none, none]) ?_
  show D_stitched [some (tCs Cs), some (.tup [x]), none, none, none, none, none, none, none, none, none] S = _
  have c1 : nComp (iAny (eVar 1)) (gN 6) bYes E4_stitched [6] [some (tCs Cs), some (.tup [x]), none, none, none, none, none, none, none, none, none] S = .ok [.bl false] S := comp_e (S := S) (xs := [x]) (h := fun t => t) (r := fun _ => .bl false) (iAny_tup rfl) (by simp) fun y hy => ⟨_, rfl, by
    have hy : y = x := by simpa using hy
    subst hy
    simp only [E4_stitched, wipeE, List.set_cons_succ, List.set_cons_zero, eCall_e, aCons_e, aNil_e, eVar_s, eVar_z, bind_ok, List.length_cons, List.length_nil, beq_self_eq_true, Mi.if_true, hx]⟩
  have a1 : fAll S [.lst [T.bl false]] = .ok (.bl false) S := rfl
  simp only [D_stitched, sSeq_e, sDrop_e, eCall_e, aCons_e, aNil_e, eVar_s, eVar_z, eC_e, bind_ok, List.length_cons, List.length_nil, beq_self_eq_true, Mi.if_true, demand_cloths_e h, then_ok, seq_nx, sIf_e, bOr_e, bNot_e, bTru_e, eIs_e, ty_tup, kin_tup, eB_e, eFrz_e, c1, a1, tru_bl, Bool.not_true, Bool.not_false, sRaise, seq_exc]
theorem st_two {m w : Nat} {Cs : List (List (List Int))} {x y : Nat × Nat} (h : Cls m w Cs) (hx : F_is_stitch [tP x, tCs Cs] S = .ok (.bl true) S) (hy : F_is_stitch [tP y, tCs Cs] S = .ok (.bl true) S) (ha : asc x y = false) : F_stitched [tCs Cs, .tup [tP x, tP y]] S = .exc "ArgumentError" (rsn "stitches") S := by
  refine fn_exs (ρ := [some (tCs Cs), some (.tup [tP x, tP y]), none, none, none, none, none, none, none, none, none]) ?_
  show D_stitched [some (tCs Cs), some (.tup [tP x, tP y]), none, none, none, none, none, none, none, none, none] S = _
  have c1 : nComp (iAny (eVar 1)) (gN 6) bYes E4_stitched [6] [some (tCs Cs), some (.tup [tP x, tP y]), none, none, none, none, none, none, none, none, none] S = .ok [.bl true, .bl true] S := comp_e (S := S) (xs := [x, y]) (h := tP) (r := fun _ => .bl true) (iAny_tup rfl) (by simp) fun z hz => ⟨_, rfl, by
    have hz : F_is_stitch [tP z, tCs Cs] S = .ok (.bl true) S := by
      simp only [List.mem_cons, List.not_mem_nil, or_false] at hz
      rcases hz with e | e <;> subst e <;> assumption
    simp only [E4_stitched, wipeE, List.set_cons_succ, List.set_cons_zero, eCall_e, aCons_e, aNil_e, eVar_s, eVar_z, bind_ok, List.length_cons, List.length_nil, beq_self_eq_true, Mi.if_true, hz]⟩
  have a1 := all_true (S := S) (l := [T.bl true, T.bl true]) (by simp)
  have hz : iZipT (aCons (eCut (eVar 1) oNone (oSome (e1 negT (eC (.int 1))))) (aCons (eCut (eVar 1) (oSome (eC (.int 1))) oNone) aNil)) [some (tCs Cs), some (.tup [tP x, tP y]), none, none, none, none, none, none, none, none, none] S = .ok ⟨[(x, y)].map fun z => T.tup [tP z.1, tP z.2], fun _ => true⟩ S := by
    have x1 : eCut (eVar 1) oNone (oSome (e1 negT (eC (.int 1)))) [some (tCs Cs), some (.tup [tP x, tP y]), none, none, none, none, none, none, none, none, none] S = .ok (.tup [tP x]) S := rfl
    have x2 : eCut (eVar 1) (oSome (eC (.int 1))) oNone [some (tCs Cs), some (.tup [tP x, tP y]), none, none, none, none, none, none, none, none, none] S = .ok (.tup [tP y]) S := rfl
    unfold iZipT
    simp only [aCons_e, aNil_e, x1, x2, bind_ok, seqT]
    rfl
  have c2 : nComp (iZipT (aCons (eCut (eVar 1) oNone (oSome (e1 negT (eC (.int 1))))) (aCons (eCut (eVar 1) (oSome (eC (.int 1))) oNone) aNil))) (gTupM 2 (gsCons (gN 7) (gsCons (gN 8) gsNil))) bYes E3_stitched [7, 8] [some (tCs Cs), some (.tup [tP x, tP y]), none, none, none, none, none, none, none, none, none] S = .ok [.bl false] S := comp_e (S := S) (xs := [(x, y)]) (h := fun z => T.tup [tP z.1, tP z.2]) (r := fun _ => .bl false) hz (by simp) fun z hz => ⟨_, rfl, by
    have hz : z = (x, y) := by simpa using hz
    subst hz
    simp only [E3_stitched, wipeE, List.set_cons_succ, List.set_cons_zero, Mi.e2_e, eVar_s, eVar_z, bind_ok, lt_P, ha]⟩
  have a2 : fAll S [.lst [T.bl false]] = .ok (.bl false) S := rfl
  simp only [D_stitched, sSeq_e, sDrop_e, eCall_e, aCons_e, aNil_e, eVar_s, eVar_z, eC_e, bind_ok, List.length_cons, List.length_nil, beq_self_eq_true, Mi.if_true, demand_cloths_e h, then_ok, seq_nx, sIf_e, bOr_e, bNot_e, bTru_e, eIs_e, ty_tup, kin_tup, eB_e, eFrz_e, c1, a1, c2, a2, tru_bl, Bool.not_true, Bool.not_false, sNil_e, sRaise, seq_exc]
theorem no_stitch {x c : T} {k : String} (hk : tyT S x = some k) (hn : kinT k "tuple" = false) : F_is_stitch [x, c] S = .ok (.bl false) S := by
  refine fn_e (by rfl) ?_
  show D_is_stitch [some x, some c, none, none, none, none] S = _
  simp only [D_is_stitch, sSeq_e, sIf_e, bOr_e, bNot_e, bTru_e, eIs_e, eVar_z, bind_ok, hk, hn, tru_bl, Bool.not_false, then_ok, sRet_e, eC_e, seq_rt]
theorem bool_stitch {c : T} : F_is_stitch [.tup [.bl true, .int 0], c] S = .ok (.bl false) S := by
  refine fn_e (by rfl) ?_
  show D_is_stitch [some (.tup [.bl true, .int 0]), some c, none, none, none, none] S = _
  have c1 : nComp (iAny (eVar 0)) (gN 5) bYes E1_is_stitch [5] [some (.tup [.bl true, .int 0]), some c, none, none, none, none] S = .ok [.bl false, .bl true] S := comp_e (S := S) (xs := [(T.bl true, false), (T.int 0, true)]) (h := fun z => z.1) (r := fun z => .bl z.2) (iAny_tup rfl) (by simp) fun z hz => ⟨_, rfl, by
    have hz : F_is_integer [z.1] S = .ok (.bl z.2) S := by
      simp only [List.mem_cons, List.not_mem_nil, or_false] at hz
      rcases hz with e | e <;> subst e
      · exact is_integer_e rfl
      · exact is_integer_e rfl
    simp only [E1_is_stitch, wipeE, List.set_cons_succ, List.set_cons_zero, eCall_e, aCons_e, aNil_e, eVar_s, eVar_z, bind_ok, List.length_cons, List.length_nil, Mi.if_true, beq_self_eq_true, hz]⟩
  have a1 : fAll S [.lst [T.bl false, T.bl true]] = .ok (.bl false) S := rfl
  have t2 : ((2 : Int) == 2) = true := by decide
  have hlen : (([T.bl true, T.int 0].length : Nat) : Int) = 2 := rfl
  simp only [D_is_stitch, sSeq_e, sIf_e, bOr_e, bNot_e, bTru_e, bVal_e, eIs_e, eB_e, aCons_e, aNil_e, eFrz_e, Mi.e2_e, eC_e, eVar_z, bind_ok, ty_tup, kin_tup, tru_bl, len_tup, hlen, ne_ii, t2, c1, a1, Bool.not_true, Bool.not_false, then_ok, sRet_e, seq_rt]
/-- a pair of whole numbers: of one cloth, or beyond the ends -/
theorem is_stitch_f {m w : Nat} {Cs : List (List (List Int))} {x : Nat × Nat} (h : Cls m w Cs) (h1 : x.1 < m * Cs.length) (h2 : x.2 < w * Cs.length ∧ x.1 % Cs.length = x.2 % Cs.length ∨ x.2 = w * Cs.length) : F_is_stitch [tP x, tCs Cs] S = .ok (.bl false) S := by
  obtain ⟨C0, hC0, ix0⟩ := ixCs0 h
  have hn := h.1
  refine fn_e (by rfl) ?_
  show D_is_stitch [some (tP x), some (tCs Cs), none, none, none, none] S = _
  have c1 := ints2_e (S := S) (x := x) (a := some (tCs Cs)) (b := none) (c := none) (d := none) (e := none)
  have a1 := all_true (S := S) (l := [T.bl true, T.bl true]) (by simp)
  have t2 : ((2 : Int) == 2) = true := by decide
  have m1 := mul_nn (S := S) (a := w) (b := Cs.length) (by have := hC0.2.2.1; omega) (by omega)
  have m2 := mul_nn (S := S) (a := m) (b := Cs.length) (by have := hC0.2.1; omega) (by omega)
  have as : sAsg (gTupM 2 (gsCons (gN 3) (gsCons (gN 4) gsNil))) (eCall F_size_of 1 [] (aCons (Mi.e2 ixA (eVar 1) (eC (.int 0))) aNil)) [some (tP x), some (tCs Cs), none, none, none, none] S = .go (.nx [some (tP x), some (tCs Cs), none, some (nI m), some (nI w), none]) S := by
    rw [sAsg_e]
    simp only [eCall_e, aCons_e, aNil_e, Mi.e2_e, eVar_s, eVar_z, eC_e, bind_ok, ix0, List.length_cons, List.length_nil, beq_self_eq_true, Mi.if_true, size_of_e hC0, then_ok]
    rfl
  have d1 : decide ((0 : Int) ≤ x.1) = true := decide_eq_true (by omega)
  have d2 : decide ((0 : Int) ≤ x.2) = true := decide_eq_true (by omega)
  have d3 : decide ((x.1 : Int) < ((m * Cs.length : Nat) : Int)) = true := decide_eq_true (by omega)
  have q1 := mod_nn (S := S) (a := x.1) (b := Cs.length) (by omega)
  have q2 := mod_nn (S := S) (a := x.2) (b := Cs.length) (by omega)
  have hlen : (([nI x.1, nI x.2].length : Nat) : Int) = 2 := rfl
  rcases h2 with ⟨h2, h3⟩ | h2
  · have d4 : decide ((x.2 : Int) < ((w * Cs.length : Nat) : Int)) = true := decide_eq_true (by omega)
    have b1 : ((((x.1 % Cs.length : Nat) : Int)) == ((x.2 % Cs.length : Nat) : Int)) = true := by rw [beq_nat, decide_eq_true h3]
    simp only [D_is_stitch, sSeq_e, sIf_e, bOr_e, bNot_e, bTru_e, bVal_e, eIs_e, eB_e, aCons_e, aNil_e, eFrz_e, eChain_e, Mi.e2_e, eC_e, eVar_s, eVar_z, bind_ok, ty_tup, kin_tup, tru_bl, len_tup, hlen, ne_ii, t2, c1, a1, Bool.not_true, Bool.not_false, then_ok, sNil_e, seq_nx, as, sSet_e, List.length_map, List.set_cons_succ, List.set_cons_zero, ixP0, ixP1, le_ii, lt_ii, m1, m2, d1, d2, d3, d4, sRet_e, q1, q2, b1, seq_rt]
  · have d4 : decide ((x.2 : Int) < ((w * Cs.length : Nat) : Int)) = false := decide_eq_false (by omega)
    simp only [D_is_stitch, sSeq_e, sIf_e, bOr_e, bNot_e, bTru_e, bVal_e, eIs_e, eB_e, aCons_e, aNil_e, eFrz_e, eChain_e, Mi.e2_e, eC_e, eVar_s, eVar_z, bind_ok, ty_tup, kin_tup, tru_bl, len_tup, hlen, ne_ii, t2, c1, a1, Bool.not_true, Bool.not_false, then_ok, sNil_e, seq_nx, as, sSet_e, List.length_map, List.set_cons_succ, List.set_cons_zero, ixP0, ixP1, le_ii, lt_ii, m1, m2, d1, d2, d3, d4, sRet_e, seq_rt]
def base6 (W : Nat) : List T := [.non, .tup [.int 5], .tup [.tup [.int 0, .int 0]], .tup [.tup [.int 0, nI W]], .tup [.tup [.bl true, .int 0]], .tup [.str "00"]]
theorem base6_e {m w : Nat} {Cs : List (List (List Int))} {b : T} (h : Cls m w Cs) (hb : b ∈ base6 (w * Cs.length)) : F_stitched [tCs Cs, b] S = .exc "ArgumentError" (rsn "stitches") S := by
  obtain ⟨C, Cr, e, hc⟩ := h.ne
  have hn := h.1
  have hm : 0 < m * Cs.length := Nat.mul_pos hc.2.1.1 (by omega)
  have hw : 0 < w * Cs.length := Nat.mul_pos hc.2.2.1.1 (by omega)
  simp only [base6, List.mem_cons, List.not_mem_nil, or_false] at hb
  rcases hb with z | z | z | z | z | z <;> subst z
  · exact st_none h
  · exact st_one h (no_stitch ty_int (by decide))
  · exact st_one h (is_stitch_f (x := (0, 0)) h hm (.inl ⟨hw, rfl⟩))
  · exact st_one h (is_stitch_f (x := (0, w * Cs.length)) h hm (.inr rfl))
  · exact st_one h bool_stitch
  · exact st_one h (no_stitch ty_str (by decide))
/-! ### refused counts, cloths -/
def counts : List T := [.int 0, .int 5, .non, .bl true, .str "1", .int (-1)]
theorem counts_e {m w : Nat} {X : List (List Int)} {b : T} (h : Cl m w X) (hb : b ∈ counts) : F_unstacked [cl X, b] S = .exc "ArgumentError" (rsn "count") S := by
  refine fn_exs (ρ := [some (cl X), some b, none, none, none, none, none, none, none]) ?_
  show D_unstacked [some (cl X), some b, none, none, none, none, none, none, none] S = _
  have no : F_is_integer [b] S = .ok (.bl false) S → D_unstacked [some (cl X), some b, none, none, none, none, none, none, none] S = .exc "ArgumentError" (rsn "count") [some (cl X), some b, none, none, none, none, none, none, none] S := fun hi => by
    simp only [D_unstacked, sSeq_e, sDrop_e, eCall_e, aCons_e, aNil_e, eVar_s, eVar_z, eC_e, bind_ok, List.length_cons, List.length_nil, beq_self_eq_true, Mi.if_true, check_e h, then_ok, seq_nx, sIf_e, bOr_e, bNot_e, bTru_e, hi, tru_bl, Bool.not_false, sRaise, seq_exc]
  have lo : ∀ i : Int, b = .int i → i < 1 ∨ 4 < i → D_unstacked [some (cl X), some b, none, none, none, none, none, none, none] S = .exc "ArgumentError" (rsn "count") [some (cl X), some b, none, none, none, none, none, none, none] S := fun i e hi => by
    subst e
    by_cases h1 : (1 : Int) ≤ i
    · have d1 : decide ((1 : Int) ≤ i) = true := decide_eq_true h1
      have d2 : decide (i ≤ (4 : Int)) = false := decide_eq_false (by omega)
      simp only [D_unstacked, sSeq_e, sDrop_e, eCall_e, aCons_e, aNil_e, eVar_s, eVar_z, eC_e, bind_ok, List.length_cons, List.length_nil, beq_self_eq_true, Mi.if_true, check_e h, then_ok, seq_nx, sIf_e, bOr_e, bNot_e, bTru_e, bVal_e, is_int_n, tru_bl, Bool.not_true, Bool.not_false, eChain_e, le_ii, d1, d2, sRaise, seq_exc]
    · have d1 : decide ((1 : Int) ≤ i) = false := decide_eq_false h1
      simp only [D_unstacked, sSeq_e, sDrop_e, eCall_e, aCons_e, aNil_e, eVar_s, eVar_z, eC_e, bind_ok, List.length_cons, List.length_nil, beq_self_eq_true, Mi.if_true, check_e h, then_ok, seq_nx, sIf_e, bOr_e, bNot_e, bTru_e, bVal_e, is_int_n, tru_bl, Bool.not_true, Bool.not_false, eChain_e, le_ii, d1, sRaise, seq_exc]
  simp only [counts, List.mem_cons, List.not_mem_nil, or_false] at hb
  rcases hb with z | z | z | z | z | z
  · exact lo 0 z (by omega)
  · exact lo 5 z (by omega)
  · exact no (by rw [z]; exact is_integer_e rfl)
  · exact no (by rw [z]; exact is_integer_e rfl)
  · exact no (by rw [z]; exact is_integer_e rfl)
  · exact lo (-1) z (by omega)
def ills : List T := [.non, .tup [], .tup [.tup [.int 1], .tup [.int 1, .int 0]]]
theorem ills_e {l : List T} : ∀ b ∈ ills, ∃ x, F_check_cloth [b] (Sp (Z0 ++ [.lst l]) 0 p) = .exc "ClothError" (rsn x) (Sp (Z0 ++ [.lst l]) 0 p) := by
  intro b hb
  simp only [ills, List.mem_cons, List.not_mem_nil, or_false] at hb
  rcases hb with z | z | z <;> subst z
  · exact ⟨"form", by kernel_rfl⟩
  · exact ⟨"picks", by kernel_rfl⟩
  · exact ⟨"ends", by kernel_rfl⟩
theorem ill2 {b c : T} {x : Str} (h : F_check_cloth [b] S = .exc "ClothError" (rsn x) S) : F_unstacked [b, c] S = .exc "ClothError" (rsn x) S := by
  refine fn_exs (ρ := [some b, some c, none, none, none, none, none, none, none]) ?_
  show D_unstacked [some b, some c, none, none, none, none, none, none, none] S = _
  simp only [D_unstacked, sSeq_e, sDrop_e, eCall_e, aCons_e, aNil_e, eVar_s, eVar_z, bind_ok, List.length_cons, List.length_nil, beq_self_eq_true, Mi.if_true, h, then_exc, seq_exc]
theorem ill3 {b : T} {x : Str} (h : F_check_cloth [b] S = .exc "ClothError" (rsn x) S) : F_loosest [b] S = .exc "ClothError" (rsn x) S := by
  refine fn_exs (ρ := [some b, none, none]) ?_
  show D_loosest [some b, none, none] S = _
  simp only [D_loosest, sSeq_e, sDrop_e, eCall_e, aCons_e, aNil_e, eVar_s, eVar_z, bind_ok, List.length_cons, List.length_nil, beq_self_eq_true, Mi.if_true, h, then_exc, seq_exc]
theorem ill4 {b : T} {x : Str} (h : F_check_cloth [b] S = .exc "ClothError" (rsn x) S) : F_folded [b] S = .exc "ClothError" (rsn x) S := by
  refine fn_exs (ρ := [some b, none, none, none, none, none]) ?_
  show D_folded [some b, none, none, none, none, none] S = _
  simp only [D_folded, sSeq_e, sDrop_e, eCall_e, aCons_e, aNil_e, eVar_s, eVar_z, bind_ok, List.length_cons, List.length_nil, beq_self_eq_true, Mi.if_true, h, then_exc, seq_exc]
end
end L61
end

section
set_option Elab.async false
set_option linter.all false
set_option maxRecDepth 100000
set_option maxHeartbeats 2000000
set_option exponentiation.threshold 9000
/-! K61l: sizes, steps, the loop over the cloths -/
namespace L61
open PySem PySem.Spec L2 Mi Cm
section
variable {S S1 : Sto} {n : Nat} {p q : Int} {ds : List Int} {ρ ρ' : Mi.Env} {α β γ : Type}
theorem at3_bit {m w : Nat} {Cs : List (List (List Int))} (h : Cls m w Cs) (k p e : Nat) : isBit (at3 Cs k p e) := by
  by_cases hk : k < Cs.length
  · exact g2_bit (h.2 _ (Mi.getD_mem hk)) p e
  · have z : Cs.getD k [] = [] := by rw [List.getD_eq_getElem?_getD, List.getElem?_eq_none (by omega)]; rfl
    unfold at3
    rw [z]
    exact .inl rfl
theorem stk_bit {m w : Nat} {Cs : List (List (List Int))} (h : Cls m w Cs) (p e : Nat) : isBit (stk Cs p e) := by
  unfold stk
  split
  · exact at3_bit h _ _ _
  · split
    · exact .inr rfl
    · exact .inl rfl
theorem stkd_cl {m w : Nat} {Cs : List (List (List Int))} (h : Cls m w Cs) (h1 : m * Cs.length ≤ 24) (h2 : w * Cs.length ≤ 24) : Cl (m * Cs.length) (w * Cs.length) (stkd m w Cs) := by
  obtain ⟨C, Cr, e, hc⟩ := h.ne
  have hn := h.1
  have hm : 0 < m * Cs.length := Nat.mul_pos hc.2.1.1 (by omega)
  have hw : 0 < w * Cs.length := Nat.mul_pos hc.2.2.1.1 (by omega)
  refine ⟨by simp [stkd], by omega, by omega, fun r hr => ?_⟩
  obtain ⟨i, _, e2⟩ := List.mem_map.mp hr
  rw [← e2]
  exact bits_of fun k _ => stk_bit h _ _
theorem trn_cl {m w : Nat} {X : List (List Int)} {P : List (Nat × Nat)} (h : Cl m w X) : Cl m w (trn m w X P) := by
  refine ⟨by simp [trn], h.2.1, h.2.2.1, fun r hr => ?_⟩
  obtain ⟨i, _, e2⟩ := List.mem_map.mp hr
  rw [← e2]
  refine bits_of fun k _ => ?_
  have hb := g2_bit h i k
  split
  · rcases hb with z | z <;> rw [z]
    · exact .inr rfl
    · exact .inl rfl
  · exact hb
/-! ### what may be shown -/
theorem fit_i {d : Nat} {i : Int} (h : i.natAbs < 2 ^ 60) : fit d (.int i) = true := by
  have : decide (i.natAbs < 2 ^ 1900) = true := decide_eq_true (by omega)
  cases d <;> exact this
theorem fit_map {d : Nat} {xs : List α} {f : α → T} (h : ∀ x ∈ xs, fit d (f x) = true) : fit (d + 1) (.tup (xs.map f)) = true := by
  show (xs.map f).all (fit d) = true
  rw [List.all_eq_true]
  intro t ht
  obtain ⟨x, h1, h2⟩ := List.mem_map.mp ht
  rw [← h2]
  exact h x h1
theorem nn_map {c : Nat} {xs : List α} {f : α → T} (h : ∀ x ∈ xs, nn (f x) ≤ c) : nn (.tup (xs.map f)) ≤ 1 + c * xs.length := by
  have := nns_le (l := xs.map f) (c := c) fun t ht => by
    obtain ⟨x, h1, h2⟩ := List.mem_map.mp ht
    rw [← h2]
    exact h x h1
  rw [List.length_map] at this
  show 1 + nns (xs.map f) ≤ _
  omega
theorem fit_cl {d m w : Nat} {X : List (List Int)} (h : Cl m w X) : fit (d + 2) (cl X) = true ∧ nn (cl X) ≤ 601 := by
  constructor
  · exact fit_map fun r hr => fit_map fun b hb => fit_i (by rcases (h.2.2.2 r hr).2 b hb with z | z <;> rw [z] <;> decide)
  · have h1 := nn_map (c := 25) (xs := X) (f := tR) fun r hr => by
      have := nn_map (c := 1) (xs := r) (f := T.int) fun _ _ => Nat.le_refl 1
      have hl := (h.2.2.2 r hr).1
      have := h.2.2.1
      show nn (.tup (r.map T.int)) ≤ 25
      omega
    have := h.1
    have := h.2.1
    show nn (.tup (X.map tR)) ≤ 601
    omega
theorem und_mem {X : List (List Int)} {a b n : Nat} : ∀ x ∈ und X a b n, x.1 < a * n ∧ x.2 < b * n := by
  intro x hx
  obtain ⟨p, hp, hx⟩ := List.mem_flatMap.mp hx
  obtain ⟨e, he, hx⟩ := List.mem_map.mp hx
  rw [← hx]
  exact ⟨by simpa using hp, by simpa using (List.mem_filter.mp he).1⟩
theorem flat_len {f : Nat → List β} {c : Nat} (h : ∀ x, (f x).length ≤ c) : ∀ L : List Nat, (L.flatMap f).length ≤ c * L.length
  | [] => by simp
  | x :: L => by
    rw [List.flatMap_cons, List.length_append, List.length_cons, Nat.mul_add]
    have := flat_len h L
    have := h x
    omega
theorem und_len {X : List (List Int)} {a b n : Nat} (h1 : a * n ≤ 24) (h2 : b * n ≤ 24) : (und X a b n).length ≤ 576 := by
  have := flat_len (f := fun p => ((List.range (b * n)).filter fun e => !(g2 X p e == stk (parts X a b n) p e)).map fun e => (p, e)) (c := 24) (fun x => by
    have lf := List.length_filter_le (fun e => !(g2 X x e == stk (parts X a b n) x e)) (List.range (b * n))
    rw [List.length_range] at lf
    rw [List.length_map]
    omega) (List.range (a * n))
  rw [List.length_range] at this
  unfold und
  omega
theorem btw_len {m w n : Nat} (h1 : m ≤ 24) (h2 : w ≤ 24) : (btw m w n).length ≤ 576 := by
  have := flat_len (f := fun p => ((List.range w).filter fun e => !decide (p % n = e % n)).map fun e => (p, e)) (c := 24) (fun x => by
    have lf := List.length_filter_le (fun e => !decide (x % n = e % n)) (List.range w)
    rw [List.length_range] at lf
    rw [List.length_map]
    omega) (List.range m)
  rw [List.length_range] at this
  unfold btw
  omega
theorem fit_un {X : List (List Int)} {a b n : Nat} (h : Cl (a * n) (b * n) X) (hd : Dv a b n) : fit 60 (.tup [tCs (parts X a b n), .tup ((und X a b n).map tP)]) = true ∧ nn (.tup [tCs (parts X a b n), .tup ((und X a b n).map tP)]) ≤ 8000 := by
  have hc := parts_cls h hd
  have ul := und_len (X := X) (a := a) (b := b) (n := n) h.2.1.2 h.2.2.1.2
  have f1 : fit 59 (tCs (parts X a b n)) = true := fit_map fun C hC => (fit_cl (hc.2 C hC)).1
  have f2 : fit 59 (.tup ((und X a b n).map tP)) = true := fit_map fun x hx => by
    obtain ⟨u1, u2⟩ := und_mem x hx
    have h1 := h.2.1
    have h2 := h.2.2.1
    show [nI x.1, nI x.2].all (fit 57) = true
    have g1 : fit 57 (nI x.1) = true := fit_i (by rw [Int.natAbs_natCast]; omega)
    have g2 : fit 57 (nI x.2) = true := fit_i (by rw [Int.natAbs_natCast]; omega)
    simp only [List.all_cons, List.all_nil, g1, g2, Bool.and_self]
  have n1 := nn_map (c := 601) (xs := parts X a b n) (f := cl) fun C hC => (fit_cl (d := 0) (hc.2 C hC)).2
  have n2 := nn_map (c := 3) (xs := und X a b n) (f := tP) fun _ _ => Nat.le_refl 3
  have hl := hc.1
  constructor
  · show [tCs (parts X a b n), .tup ((und X a b n).map tP)].all (fit 59) = true
    simp only [List.all_cons, List.all_nil, f1, f2, Bool.and_self]
  · show 1 + (nn (.tup ((parts X a b n).map cl)) + (nn (.tup ((und X a b n).map tP)) + 0)) ≤ 8000
    omega
/-! ### ascending crossings -/
theorem asc_of : ∀ {P : List (Nat × Nat)}, P.Pairwise (fun x y => asc x y = true) → Asc P
  | [], _ => trivial
  | [_], _ => trivial
  | x :: y :: l, h => by
    rw [List.pairwise_cons] at h
    exact ⟨h.1 y (List.mem_cons_self ..), asc_of h.2⟩
theorem btw_pw {m w n : Nat} : (btw m w n).Pairwise (fun x y => asc x y = true) := by
  unfold btw
  rw [List.pairwise_flatMap]
  constructor
  · intro p _
    rw [List.pairwise_map]
    have : ((List.range w).filter fun e => !decide (p % n = e % n)).Pairwise (· < ·) := List.pairwise_lt_range.sublist List.filter_sublist
    exact this.imp fun h => by
      unfold asc
      simp [h]
  · have : (List.range m).Pairwise (· < ·) := List.pairwise_lt_range
    exact this.imp fun h x hx y hy => by
      obtain ⟨_, _, hx⟩ := List.mem_map.mp hx
      obtain ⟨_, _, hy⟩ := List.mem_map.mp hy
      rw [← hx, ← hy]
      unfold asc
      rw [if_neg (by show ¬ _ = _; omega)]
      exact decide_eq_true h
theorem btw_mem {m w n : Nat} : ∀ x ∈ btw m w n, x.1 < m ∧ x.2 < w ∧ x.1 % n ≠ x.2 % n := by
  intro x hx
  obtain ⟨p, hp, hx⟩ := List.mem_flatMap.mp hx
  obtain ⟨e, he, hx⟩ := List.mem_map.mp hx
  obtain ⟨h1, h2⟩ := List.mem_filter.mp he
  rw [← hx]
  exact ⟨by simpa using hp, by simpa using h1, by simpa using h2⟩
/-! ### steps -/
theorem ne_same {t : T} (h : fit 60 t = true) : neA S t t = .ok (.bl false) S := by
  obtain ⟨a, b, c, e, f, g⟩ := fit_ok h
  have key : neT S t t = .ok (.bl false) S := by
    unfold neT
    rw [valT_pure g, a, f]
    rfl
  cases t with
  | str x => simp
  | _ => exact key
theorem st_set {i : Nat} {e : EM} {f : SM} {t : T} {r : RF} (h : e ρ S = .ok t S1) (k : f (ρ.set i (some t)) S1 = r) : sSeq (sSet i e) f ρ S = r := by
  rw [sSeq_e, sSet_e, h]
  exact k
theorem st_if {c : BM} {g f : SM} {r : RF} (h : c ρ S = .ok false S1) (k : f ρ S1 = r) : sSeq (sIf c g sNil) f ρ S = r := by
  rw [sSeq_e, sIf_e, h]
  exact k
theorem st_nx {g f : SM} {r : RF} (h : g ρ S = .go (.nx ρ') S1) (k : f ρ' S1 = r) : sSeq g f ρ S = r := by
  rw [sSeq_e, h]
  exact k
theorem or_ff {a b : BM} {S2 : Sto} (h1 : a ρ S = .ok false S1) (h2 : b ρ S1 = .ok false S2) : bOr a b ρ S = .ok false S2 := by
  rw [bOr_e, h1]
  exact h2
theorem same_ff {e1 e2 : EM} {t : T} {S2 : Sto} (h1 : e1 ρ S = .ok t S1) (h2 : e2 ρ S1 = .ok t S2) (hf : fit 60 t = true ∧ nn t ≤ 8000) : bNot (bTru (eCall F__law_same_as 2 [] (aCons e1 (aCons e2 aNil)))) ρ S = .ok false S2 := by
  simp only [bNot_e, bTru_e, eCall_e, aCons_e, aNil_e, h1, h2, bind_ok, List.length_cons, List.length_nil, beq_self_eq_true, Mi.if_true, same_e hf.1 hf.2, tru_bl, Bool.not_true]
theorem ne_ff {e1 e2 : EM} {t : T} {S2 : Sto} (h1 : e1 ρ S = .ok t S1) (h2 : e2 ρ S1 = .ok t S2) (hf : fit 60 t = true) : bVal (Mi.e2 neA e1 e2) ρ S = .ok false S2 := by
  simp only [bVal_e, Mi.e2_e, h1, h2, bind_ok, ne_same hf]
theorem arg_fit {x : Str} (h : fit 58 (.str x) = true) : fit 60 (arg x) = true := by
  show [T.str "argument", T.str x].all (fit 59) = true
  have e1 : fit 59 (.str "argument") = true := by kernel_rfl
  have e2 : fit 59 (.str x) = true := h
  simp only [List.all_cons, List.all_nil, e1, e2, Bool.and_self]
theorem arg_nn {x : Str} : nn (arg x) ≤ 8000 := by show 3 ≤ 8000; omega
theorem f_cloth : fit 58 (.str "cloth") = true := by kernel_rfl
theorem f_cloths : fit 58 (.str "cloths") = true := by kernel_rfl
theorem f_stitches : fit 58 (.str "stitches") = true := by kernel_rfl
theorem f_count : fit 58 (.str "count") = true := by kernel_rfl
theorem f_size : fit 60 (mny "size") = true := by kernel_rfl
theorem one_s {l : List T} (hl : l ≠ []) (hp : T.pures l = true) (hd : Dr ds) (hn : n < S.length) (h0 : 0 ≤ p) (h1 : p + 1 < 2 ^ 40) : ∃ t ∈ l, F__law_one [.lst l, tL ds, .obj n] (Sp S n p) = .ok t (Sp S n (p + 1)) := by
  obtain ⟨i, t, h, e⟩ := one_e (.inl rfl) hl hp hd (sp_at hn h0 (by omega))
  exact ⟨t, List.mem_of_getElem? h, by rw [e, sp_set]⟩
theorem take_s {m : Nat} (hm : 0 < m) (hd : Dr ds) (hn : n < S.length) (h0 : 0 ≤ p) (h1 : p + 1 < 2 ^ 40) : ∃ r : Nat, r < m ∧ F__law_take [tL ds, .obj n, nI m] (Sp S n p) = .ok (nI r) (Sp S n (p + 1)) := by
  obtain ⟨r, r0, r1, e⟩ := take_e (m := m) hd (sp_at hn h0 (by omega)) (by omega)
  obtain ⟨k, rfl⟩ : ∃ k : Nat, r = k := ⟨r.toNat, by omega⟩
  exact ⟨k, by omega, by rw [e, sp_set]⟩
/-- a choice from a list that is kept -/
theorem one_obj {l : List T} {k : Nat} (hk : k ≠ n) (hl : l ≠ []) (hp : T.pures l = true) (hd : Dr ds) (hn : n < S.length) (hS : S[k]? = some (.lst l)) (h0 : 0 ≤ p) (h1 : p + 1 < 2 ^ 40) : ∃ t ∈ l, F__law_one [.obj k, tL ds, .obj n] (Sp S n p) = .ok t (Sp S n (p + 1)) := by
  have hlen : 0 < l.length := by
    cases l with
    | nil => exact absurd rfl hl
    | cons _ _ => simp
  obtain ⟨r, hr, e⟩ := take_s (m := l.length) hlen hd hn h0 h1
  have get : ∀ q, (Sp S n q)[k]? = some (.lst l) := fun q => by
    unfold Cm.Sp
    rw [List.getElem?_set_ne (fun z => hk z.symm)]
    exact hS
  have el : fLen (Sp S n p) [.obj k] = .ok (nI l.length) (Sp S n p) := by
    have s : seqT (Sp S n p) (.obj k) = some l := by
      show rdL _ (.obj k) = _
      unfold rdL
      simp only [get]
    show (match seqT (Sp S n p) (.obj k) with
      | some l => _
      | none => _) = _
    rw [s]
  have hat : atI l (r : Int) = some l[r] := by rw [at_in (by omega) (by omega)]; simp [hr]
  have ei := ix_obj (S := Sp S n (p + 1)) (get (p + 1)) hat
  refine ⟨l[r], List.getElem_mem _, ?_⟩
  have hpure : (l[r]).pure = true := by
    have : ∀ {l : List T} {t : T}, T.pures l = true → t ∈ l → t.pure = true := by
      intro l t h ht
      induction l with
      | nil => cases ht
      | cons a b ih =>
        simp only [pures_cons, Bool.and_eq_true] at h
        rcases List.mem_cons.mp ht with z | z
        · rw [z]; exact h.1
        · exact ih h.2 z
    exact this hp (List.getElem_mem _)
  refine (fnOf_e (S := Sp S n p)).trans ?_
  have fin : D__law_one [some (.obj k), some (tL ds), some (.obj n)] (Sp S n p) = .go (.rt l[r]) (Sp S n (p + 1)) := by
    simp only [D__law_one, sSeq_e, sRet_e, Mi.e2_e, eCall_e, eB_e, aCons_e, aNil_e, eVar_s, eVar_z, bind_ok, el, List.length_cons, List.length_nil, Nat.zero_add, Nat.reduceAdd, beq_self_eq_true, Mi.if_true, e, ei, then_ok, seq_rt]
  show outR (Sp S n p).length (D__law_one [some (.obj k), some (tL ds), some (.obj n)] (Sp S n p)) = _
  rw [fin, outR_keep hpure (by simp)]
end
end L61
end

section
set_option Elab.async false
set_option linter.all false
set_option maxRecDepth 100000
set_option maxHeartbeats 4000000
set_option exponentiation.threshold 9000
/-! K61m: parts of the law -/
namespace L61
open PySem PySem.Spec L2 Mi Cm
section
variable {S S1 : Sto} {n : Nat} {p q : Int} {ds : List Int} {ρ ρ' : Mi.Env} {α β γ : Type}
abbrev Z1 (W : Nat) : Sto := Z0 ++ [.lst (base6 W)]
theorem rows_e {m w : Nat} {Cs : List (List (List Int))} {B : List (Nat × Nat)} (h : Cls m w Cs) (hB : ∀ x ∈ B, x.1 < m * Cs.length ∧ x.2 < w * Cs.length ∧ x.1 % Cs.length ≠ x.2 % Cs.length) (pw : B.Pairwise (fun x y => asc x y = true)) (hl : B.length ≤ 1000) (hd : Dr ds) (h0 : 0 ≤ q) (h1 : q + 1 < 2 ^ 40)
    (h6 : ∀ S, eVar 6 ρ S = .ok (.lst (B.map tP)) S) (h11 : ∀ S, eVar 11 ρ S = .ok (.obj 1) S) :
    ∃ v, eIf (bTru (eVar 6)) (Mi.e2 addL (eVar 11) (eFrz (nLst (aCons (eTup (aCons (Mi.e2 ixA (eVar 6) (eC (.int 0))) (aCons (Mi.e2 ixA (eVar 6) (eC (.int 0))) aNil))) (aCons (eIf (bVal (Mi.e2 gtT (eB fLen (aCons (eVar 6) aNil)) (eC (.int 1)))) (eB fTup (aCons (eRevA (eCut (eVar 6) oNone (oSome (eC (.int 2))))) aNil)) (eC .non)) aNil))))) (eVar 11) ρ (Sp (Z1 (w * Cs.length)) 0 q) = .ok v (Sp (Z1 (w * Cs.length)) 0 q) ∧
      ∃ st, F__law_one [v, tL ds, .obj 0] (Sp (Z1 (w * Cs.length)) 0 q) = .ok st (Sp (Z1 (w * Cs.length)) 0 (q + 1)) ∧ ∀ S, F_stitched [tCs Cs, st] S = .exc "ArgumentError" (rsn "stitches") S := by
  have pb : T.pures (base6 (w * Cs.length)) = true := rfl
  have is : ∀ x ∈ B, ∀ S, F_is_stitch [tP x, tCs Cs] S = .ok (.bl true) S := fun x hx S => is_stitch_e h (hB x hx).1 (hB x hx).2.1 (hB x hx).2.2
  cases B with
  | nil =>
    refine ⟨.obj 1, ?_, ?_⟩
    · simp only [eIf_e, bTru_e, h6, bind_ok, List.map_nil, tru_lst, List.isEmpty_nil, Bool.not_true, h11]
    · obtain ⟨t, ht, e⟩ := one_obj (S := Z1 (w * Cs.length)) (n := 0) (k := 1) (l := base6 (w * Cs.length)) (by omega) (by simp [base6]) pb hd (by simp) rfl h0 h1
      exact ⟨t, e, fun S => base6_e h ht⟩
  | cons x r =>
    have i0 : ∀ S, ixA S (.lst ((x :: r).map tP)) (.int 0) = .ok (tP x) S := fun S => ix_lst (by rw [at_in (by omega) (by simp)]; rfl)
    have dl2 : decide (2 ≤ line) = true := by decide
    have rd : rdL (Sp (Z1 (w * Cs.length)) 0 q) (.obj 1) = some (base6 (w * Cs.length)) := rfl
    have key : ∀ z : T, z.pure = true → (∀ S, F_stitched [tCs Cs, z] S = .exc "ArgumentError" (rsn "stitches") S) → ∃ st, F__law_one [.lst (base6 (w * Cs.length) ++ [.tup [tP x, tP x], z]), tL ds, .obj 0] (Sp (Z1 (w * Cs.length)) 0 q) = .ok st (Sp (Z1 (w * Cs.length)) 0 (q + 1)) ∧ ∀ S, F_stitched [tCs Cs, st] S = .exc "ArgumentError" (rsn "stitches") S := fun z hz hs => by
      have pz : T.pures (base6 (w * Cs.length) ++ [.tup [tP x, tP x], z]) = true := pures_append pb (by simp only [pures_cons, pures_nil, hz, Bool.and_true]; rfl)
      obtain ⟨t, ht, e⟩ := one_s (S := Z1 (w * Cs.length)) (n := 0) (l := base6 (w * Cs.length) ++ [.tup [tP x, tP x], z]) (by simp) pz hd (by simp) h0 h1
      refine ⟨t, e, fun S => ?_⟩
      rcases List.mem_append.mp ht with k | k
      · exact base6_e h k
      · simp only [List.mem_cons, List.not_mem_nil, or_false] at k
        rcases k with k | k
        · rw [k]
          exact st_two h (is x (List.mem_cons_self ..) S) (is x (List.mem_cons_self ..) S) (by unfold asc; simp)
        · rw [k]
          exact hs S
    cases r with
    | nil =>
      obtain ⟨st, g1, g2⟩ := key .non rfl fun S => st_none h
      refine ⟨_, ?_, st, g1, g2⟩
      have d1 : decide ((1 : Int) < ((0 + 1 : Nat) : Int)) = false := by decide
      have a1 : addL (Sp (Z1 (w * Cs.length)) 0 q) (.obj 1) (.lst [.tup [tP x, tP x], .non]) = .ok (.lst (base6 (w * Cs.length) ++ [.tup [tP x, tP x], .non])) (Sp (Z1 (w * Cs.length)) 0 q) := rfl
      simp only [eIf_e, bTru_e, h6, h11, bind_ok, List.map_cons, List.map_nil, tru_lst, List.isEmpty_cons, Bool.not_false, Mi.e2_e, eFrz_e, nLst_e, eTup_e, aCons_e, aNil_e, eC_e, bVal_e, eB_e, len_lst, List.length_cons, List.length_nil, gt_ii, d1, i0 _, Nat.zero_add, Nat.reduceAdd, dl2, Mi.if_true]
      have i0' := i0 (Sp (Z1 (w * Cs.length)) 0 q)
      simp only [List.map_cons, List.map_nil] at i0'
      simp only [i0', bind_ok, Nat.reduceAdd, List.length_cons, List.length_nil, Nat.zero_add, dl2, Mi.if_true, a1]
    | cons y r =>
      have hasc : asc y x = false := by
        rw [List.pairwise_cons] at pw
        have a := pw.1 y (List.mem_cons_self ..)
        unfold asc at a ⊢
        by_cases e : x.1 = y.1
        · rw [if_pos e] at a
          rw [if_pos e.symm]
          have := of_decide_eq_true a
          exact decide_eq_false (by omega)
        · rw [if_neg e] at a
          rw [if_neg (fun z => e z.symm)]
          have := of_decide_eq_true a
          exact decide_eq_false (by omega)
      obtain ⟨st, g1, g2⟩ := key (.tup [tP y, tP x]) rfl fun S => st_two h (is y (List.mem_cons_of_mem _ (List.mem_cons_self ..)) S) (is x (List.mem_cons_self ..) S) hasc
      refine ⟨_, ?_, st, g1, g2⟩
      · have d1 : decide ((1 : Int) < (((y :: r).map tP).length + 1 : Nat)) = true := decide_eq_true (by simp; omega)
        have a1 : addL (Sp (Z1 (w * Cs.length)) 0 q) (.obj 1) (.lst [.tup [tP x, tP x], .tup [tP y, tP x]]) = .ok (.lst (base6 (w * Cs.length) ++ [.tup [tP x, tP x], .tup [tP y, tP x]])) (Sp (Z1 (w * Cs.length)) 0 q) := rfl
        have ct : cutT ((x :: y :: r).map tP) none (some 2) = [tP x, tP y] := by
          unfold cutT
          have e2 : HT.sIx ((x :: y :: r).map tP).length ((x :: y :: r).map tP).length (some 2) = 2 := by
            have := HT.sIx_nat ((x :: y :: r).map tP).length ((x :: y :: r).map tP).length 2
            rw [Nat.min_eq_left (by simp)] at this
            exact this
          have e0 : HT.sIx ((x :: y :: r).map tP).length 0 none = 0 := rfl
          rw [e2, e0]
          rfl
        have ec : eCut (eVar 6) oNone (oSome (eC (.int 2))) ρ (Sp (Z1 (w * Cs.length)) 0 q) = .ok (.lst [tP x, tP y]) (Sp (Z1 (w * Cs.length)) 0 q) := by
          unfold eCut
          rw [h6]
          have sl : seqT (Sp (Z1 (w * Cs.length)) 0 q) (.lst ((x :: y :: r).map tP)) = some ((x :: y :: r).map tP) := rfl
          have ddl : decide (((x :: y :: r).map tP).length ≤ line) = true := decide_eq_true (by rw [List.length_map]; show _ ≤ 16777216; omega)
          simp only [eFrz_e, nCut, bind_ok, oNone_e, oSome_e, eC_e, sl, ddl, Mi.if_true, ct]
        have re : eRevA (eCut (eVar 6) oNone (oSome (eC (.int 2)))) ρ (Cm.Sp (Z1 (w * Cs.length)) 0 q) = .ok (.lst [tP y, tP x]) (Cm.Sp (Z1 (w * Cs.length)) 0 q) := rev_l ec (by simp)
        have i0' := i0 (Sp (Z1 (w * Cs.length)) 0 q)
        have cond : bTru (eVar 6) ρ (Sp (Z1 (w * Cs.length)) 0 q) = .ok true (Sp (Z1 (w * Cs.length)) 0 q) := by
          simp only [bTru_e, h6, bind_ok, List.map_cons, tru_lst, List.isEmpty_cons, Bool.not_false]
        have cnd2 : bVal (Mi.e2 gtT (eB fLen (aCons (eVar 6) aNil)) (eC (.int 1))) ρ (Sp (Z1 (w * Cs.length)) 0 q) = .ok true (Sp (Z1 (w * Cs.length)) 0 q) := by
          have d2 : decide ((1 : Int) < (((x :: y :: r).map tP).length : Nat)) = true := decide_eq_true (by simp; omega)
          simp only [bVal_e, Mi.e2_e, eB_e, aCons_e, aNil_e, h6, bind_ok, len_lst, eC_e, gt_ii, d2]
        rw [eIf_e, cond, bind_ok]
        simp only [Mi.e2_e, h11, bind_ok, eFrz_e, nLst_e, aCons_e, aNil_e, eTup_e, h6, eC_e, i0', List.length_cons, List.length_nil, Nat.zero_add, Nat.reduceAdd, dl2, Mi.if_true, eIf_e, cnd2, eB_e, re, tup_lst, a1]
abbrev bEnv (l : List T) (c : Option T × Option T × Option T) : Mi.Env := match l with
  | [a0, a1, a2, a3, a4, a5, a6, a7, a8, a14, a15] => [some a0, some a1, some a2, some a3, some a4, some a5, some a6, some a7, some a8, c.1, none, none, none, none, some a14, some a15, c.2.1, c.2.2, none, none, none]
  | _ => []
theorem b2_e {a b : Nat} {X : List (List Int)} {a0 a1 a2 a4 a5 a6 a7 a8 a14 a15 : T} {c : Option T × Option T} (h : Cl (a * n) (b * n) X) (hd : Dv a b n) :
    ∃ due, B2_law (bEnv [a0, a1, a2, nI n, a4, a5, a6, a7, a8, a14, a15] (some (cl X), c)) S = .go (.nx (bEnv [a0, a1, a2, nI n, a4, a5, a6, a7, a8, a14, a15] (some (cl X), some (nI (b * n)), some due))) S := by
  obtain ⟨r0, hr0, hl0, ix0⟩ := ix0_cl h
  have hm := h.2.1
  have hw := h.2.2.1
  have T2 : F__law_told [.int 2, cl X, nI n] S = .ok (.tup [tCs (parts X a b n), .tup ((und X a b n).map tP)]) S := told2 (by rw [unstacked_e h hd]; exact .ok (by
    have p1 : T.pures ((parts X a b n).map cl) = true := pures_map fun _ _ => pure_cl
    have p2 : T.pures ((und X a b n).map tP) = true := pures_map fun _ _ => rfl
    simp only [pure_tup, pures_cons, pures_nil, p1, p2, Bool.and_self]))
  have T3 : F__law_told [.int 3, cl X, .non] S = .ok (nI (best X (a * n) (b * n))) S := told3 (by rw [loosest_e h]; exact .ok rfl)
  have fb : fit 60 (nI (best X (a * n) (b * n))) = true ∧ nn (nI (best X (a * n) (b * n))) ≤ 8000 := by
    have : best X (a * n) (b * n) ≤ 4 := by
      unfold best
      split
      · omega
      · split
        · omega
        · split <;> omega
    exact ⟨fit_i (by rw [Int.natAbs_natCast]; omega), by show 1 ≤ 8000; omega⟩
  obtain ⟨due, hf, T4, ed⟩ : ∃ due, (fit 60 due = true ∧ nn due ≤ 8000) ∧ F__law_told [.int 4, cl X, .non] S = .ok due S ∧
      eIf (bOr (bVal (Mi.e2 eqA (Mi.e2 modT (eB fInt (aCons (eVar 16) aNil)) (eC (.int 2))) (eC (.int 1)))) (bVal (Mi.e2 gtT (eB fLen (aCons (eVar 9) aNil)) (eC (.int 12))))) (eTup (aCons (eC (.str "argument")) (aCons (eC (.str "cloth")) aNil))) (eCall F__law_folded 1 [] (aCons (eVar 9) aNil)) (bEnv [a0, a1, a2, nI n, a4, a5, a6, a7, a8, a14, a15] (some (cl X), some (nI (b * n)), c.2)) S = .ok due S := by
    have m1 : modT S (nI (b * n)) (.int 2) = .ok (nI (b * n % 2)) S := mod_nn (b := 2) (by omega)
    have dl2 : decide (2 ≤ line) = true := by decide
    by_cases z : b * n % 2 = 1
    · refine ⟨arg "cloth", ⟨arg_fit f_cloth, arg_nn⟩, told4 (by rw [folded_x h (.inl z)]; exact .arg), ?_⟩
      have b1 : (((b * n % 2 : Nat) : Int) == 1) = true := by rw [z]; rfl
      simp only [eIf_e, bOr_e, bVal_e, Mi.e2_e, eB_e, aCons_e, aNil_e, eVar_s, eVar_z, eC_e, bind_ok, int_i, m1, eq_ii, b1, eTup_e, List.length_cons, List.length_nil, Nat.zero_add, Nat.reduceAdd, dl2, Mi.if_true]
    · have b1 : (((b * n % 2 : Nat) : Int) == 1) = false := beq_eq_false_iff_ne.mpr (by omega)
      by_cases z2 : 12 < a * n
      · refine ⟨arg "cloth", ⟨arg_fit f_cloth, arg_nn⟩, told4 (by rw [folded_x h (.inr (by omega))]; exact .arg), ?_⟩
        have d1 : decide ((12 : Int) < ((a * n : Nat) : Int)) = true := decide_eq_true (by omega)
        simp only [eIf_e, bOr_e, bVal_e, Mi.e2_e, eB_e, aCons_e, aNil_e, eVar_s, eVar_z, eC_e, bind_ok, int_i, m1, eq_ii, b1, len_tup, List.length_map, h.1, gt_ii, d1, eTup_e, List.length_cons, List.length_nil, Nat.zero_add, Nat.reduceAdd, dl2, Mi.if_true]
      · have hh : b * n = b * n / 2 * 2 := by omega
        have hc := fold_cls h hh
        have hs : Cl (a * n * (fold X (b * n / 2)).length) (b * n / 2 * (fold X (b * n / 2)).length) (stkd (a * n) (b * n / 2) (fold X (b * n / 2))) := stkd_cl hc (by show a * n * 2 ≤ 24; omega) (by show b * n / 2 * 2 ≤ 24; omega)
        have fc := fit_cl (d := 58) hs
        refine ⟨cl (stkd (a * n) (b * n / 2) (fold X (b * n / 2))), ⟨fc.1, by have := fc.2; omega⟩, told4 (by rw [folded_e h hh (by omega)]; exact .ok pure_cl), ?_⟩
        have d1 : decide ((12 : Int) < ((a * n : Nat) : Int)) = false := decide_eq_false (by omega)
        simp only [eIf_e, bOr_e, bVal_e, Mi.e2_e, eB_e, aCons_e, aNil_e, eVar_s, eVar_z, eC_e, bind_ok, int_i, m1, eq_ii, b1, len_tup, List.length_map, h.1, gt_ii, d1, eCall_e, List.length_cons, List.length_nil, Nat.zero_add, beq_self_eq_true, Mi.if_true, law_folded_e h hh]
  refine ⟨due, ?_⟩
  unfold B2_law
  refine st_if (S1 := S) (or_ff (S1 := S) (same_ff (S1 := S) (t := .tup [tCs (parts X a b n), .tup ((und X a b n).map tP)]) (by
    simp only [eCall_e, aCons_e, aNil_e, eVar_s, eVar_z, eC_e, bind_ok, List.length_cons, List.length_nil, Nat.zero_add, Nat.reduceAdd, beq_self_eq_true, Mi.if_true, T2]) (by
    simp only [eCall_e, aCons_e, aNil_e, eVar_s, eVar_z, bind_ok, List.length_cons, List.length_nil, Nat.zero_add, Nat.reduceAdd, beq_self_eq_true, Mi.if_true, law_unstacked_e h hd]) (fit_un h hd)) (same_ff (S1 := S) (t := nI (best X (a * n) (b * n))) (by
    simp only [eCall_e, aCons_e, aNil_e, eVar_s, eVar_z, eC_e, bind_ok, List.length_cons, List.length_nil, Nat.zero_add, Nat.reduceAdd, beq_self_eq_true, Mi.if_true, T3]) (by
    simp only [eCall_e, aCons_e, aNil_e, eVar_s, eVar_z, bind_ok, List.length_cons, List.length_nil, Nat.zero_add, beq_self_eq_true, Mi.if_true, law_loosest_e h]) fb)) ?_
  refine st_set (t := nI (b * n)) (S1 := S) (by simp only [eB_e, aCons_e, aNil_e, Mi.e2_e, eVar_s, eVar_z, eC_e, bind_ok, ix0, len_tup, List.length_map, hl0]) ?_
  refine st_set (t := due) (S1 := S) ed ?_
  refine st_if (S1 := S) (same_ff (S1 := S) (t := due) (by
    simp only [List.set_cons_succ, List.set_cons_zero, eCall_e, aCons_e, aNil_e, eVar_s, eVar_z, eC_e, bind_ok, List.length_cons, List.length_nil, Nat.zero_add, Nat.reduceAdd, beq_self_eq_true, Mi.if_true, T4]) (by
    simp only [List.set_cons_succ, List.set_cons_zero, eVar_s, eVar_z]) hf) ?_
  rfl
end
end L61
end

section
set_option Elab.async false
set_option linter.all false
set_option maxRecDepth 100000
set_option maxHeartbeats 4000000
set_option exponentiation.threshold 9000
/-! K61n: the law -/
namespace L61
open PySem PySem.Spec L2 Mi Cm
section
variable {S S1 : Sto} {n : Nat} {p q : Int} {ds : List Int} {ρ ρ' : Mi.Env} {α β γ : Type}
theorem law_D {ns : List Int} (hn : ns.length ≤ 63) : ∃ Sf, D_law [some (.scr (ns.map T.int)), none, none, none, none, none, none, none, none, none, none, none, none, none, none, none, none, none, none, none, none] [] = .go (.rt (.bl true)) Sf := by
  obtain ⟨ds, hd, e1⟩ := draws_e (S := []) hn
  have dl0 : decide (0 ≤ line) = true := by decide
  have dl1 : decide (1 ≤ line) = true := by decide
  have dl2 : decide (2 ≤ line) = true := by decide
  have dl3 : decide (3 ≤ line) = true := by decide
  have dl6 : decide (6 ≤ line) = true := by decide
  have dl7 : decide (7 ≤ line) = true := by decide
  have dl10 : decide (10 ≤ line) = true := by decide
  obtain ⟨r0, h0, e2⟩ := take_s (S := Z0) (n := 0) (p := 0) (m := 4) (by omega) hd (by simp) (by omega) (by omega)
  obtain ⟨r1, h1, e3⟩ := take_s (S := Z0) (n := 0) (p := 0 + 1) (m := 6) (by omega) hd (by simp) (by omega) (by omega)
  obtain ⟨r2, h2, e4⟩ := take_s (S := Z0) (n := 0) (p := 0 + 1 + 1) (m := 6) (by omega) hd (by simp) (by omega) (by omega)
  obtain ⟨r3, h3, e5⟩ := take_s (S := Z0) (n := 0) (p := 0 + 1 + 1 + 1) (m := 8) (by omega) hd (by simp) (by omega) (by omega)
  have e2' : F__law_take [tL ds, .obj 0, .int 4] (Cm.Sp Z0 0 0) = .ok (nI r0) (Cm.Sp Z0 0 (0 + 1)) := e2
  have e3' : F__law_take [tL ds, .obj 0, .int 6] (Cm.Sp Z0 0 (0 + 1)) = .ok (nI r1) (Cm.Sp Z0 0 (0 + 1 + 1)) := e3
  have e4' : F__law_take [tL ds, .obj 0, .int 6] (Cm.Sp Z0 0 (0 + 1 + 1)) = .ok (nI r2) (Cm.Sp Z0 0 (0 + 1 + 1 + 1)) := e4
  have e5' : F__law_take [tL ds, .obj 0, .int 8] (Cm.Sp Z0 0 (0 + 1 + 1 + 1)) = .ok (nI r3) (Cm.Sp Z0 0 (0 + 1 + 1 + 1 + 1)) := e5
  have add1 : ∀ (r : Nat) (S : Sto), addL S (.int 1) (nI r) = .ok (nI (1 + r)) S := fun _ _ => rfl
  have eat : eKeep true (nLst (aCons (eC (.int 0)) aNil)) [some (.scr (ns.map T.int)), some (tL ds), none, none, none, none, none, none, none, none, none, none, none, none, none, none, none, none, none, none, none] [] = .ok (.obj 0) (Cm.Sp Z0 0 0) := rfl
  have eas : sAsg (gTupM 2 (gsCons (gN 14) (gsCons (gN 15) gsNil))) (eTup (aCons (Mi.e2 addL (eC (.int 1)) (eCall F__law_take 3 [] (aCons (eVar 1) (aCons (eVar 2) (aCons (eC (.int 6)) aNil))))) (aCons (Mi.e2 addL (eC (.int 1)) (eCall F__law_take 3 [] (aCons (eVar 1) (aCons (eVar 2) (aCons (eC (.int 6)) aNil))))) aNil))) [some (.scr (ns.map T.int)), some (tL ds), some (.obj 0), some (nI (1 + r0)), none, none, none, none, none, none, none, none, none, none, none, none, none, none, none, none, none] (Cm.Sp Z0 0 (0 + 1)) = .go (.nx [some (.scr (ns.map T.int)), some (tL ds), some (.obj 0), some (nI (1 + r0)), none, none, none, none, none, none, none, none, none, none, some (nI (1 + r1)), some (nI (1 + r2)), none, none, none, none, none]) (Cm.Sp Z0 0 (0 + 1 + 1 + 1)) := by
    rw [sAsg_e]
    simp only [eCall_e, aCons_e, aNil_e, Mi.e2_e, Mi.e1_e, eTup_e, eFrz_e, nLst_e, eB_e, eVar_z, eVar_s, eC_e, bind_ok, List.length_cons, List.length_nil, Nat.zero_add, Nat.reduceAdd, beq_self_eq_true, Mi.if_true, dl0, dl1, dl2, dl3, dl6, dl7, dl10, neg_i, e3', e4', add1, then_ok]
    rfl
  obtain ⟨pk, hpk, e6⟩ : ∃ pk : Nat, (1 ≤ pk ∧ pk ≤ 13) ∧ sIf (bVal (Mi.e2 eqA (eCall F__law_take 3 [] (aCons (eVar 1) (aCons (eVar 2) (aCons (eC (.int 8)) aNil)))) (eC (.int 0)))) (sSeq (sSet 14 (eC (.int 13))) sNil) sNil [some (.scr (ns.map T.int)), some (tL ds), some (.obj 0), some (nI (1 + r0)), none, none, none, none, none, none, none, none, none, none, some (nI (1 + r1)), some (nI (1 + r2)), none, none, none, none, none] (Cm.Sp Z0 0 (0 + 1 + 1 + 1)) = .go (.nx [some (.scr (ns.map T.int)), some (tL ds), some (.obj 0), some (nI (1 + r0)), none, none, none, none, none, none, none, none, none, none, some (nI pk), some (nI (1 + r2)), none, none, none, none, none]) (Cm.Sp Z0 0 (0 + 1 + 1 + 1 + 1)) := by
    by_cases z : r3 = 0
    · refine ⟨13, by omega, ?_⟩
      have b0 : ((r3 : Int) == 0) = true := by rw [z]; rfl
      simp only [eCall_e, aCons_e, aNil_e, Mi.e2_e, Mi.e1_e, eTup_e, eFrz_e, nLst_e, eB_e, eVar_z, eVar_s, eC_e, bind_ok, List.length_cons, List.length_nil, Nat.zero_add, Nat.reduceAdd, beq_self_eq_true, Mi.if_true, dl0, dl1, dl2, dl3, dl6, dl7, dl10, neg_i, sIf_e, bVal_e, e5', eq_ii, b0, then_ok, sSeq_e, sSet_e, List.set_cons_succ, List.set_cons_zero, seq_nx, sNil_e]
      rfl
    · refine ⟨1 + r1, by omega, ?_⟩
      have b0 : ((r3 : Int) == 0) = false := beq_eq_false_iff_ne.mpr (by omega)
      simp only [eCall_e, aCons_e, aNil_e, Mi.e2_e, Mi.e1_e, eTup_e, eFrz_e, nLst_e, eB_e, eVar_z, eVar_s, eC_e, bind_ok, List.length_cons, List.length_nil, Nat.zero_add, Nat.reduceAdd, beq_self_eq_true, Mi.if_true, dl0, dl1, dl2, dl3, dl6, dl7, dl10, neg_i, sIf_e, bVal_e, e5', eq_ii, b0, then_ok, sNil_e]
  obtain ⟨l, q1, hl, c1, c2, e7⟩ := compR_k (S := Z0) (n := 0) (ρ := [some (.scr (ns.map T.int)), some (tL ds), some (.obj 0), some (nI (1 + r0)), none, none, none, none, none, none, none, none, none, none, some (nI pk), some (nI (1 + r2)), none, none, none, none, none]) (m := 1 + r0) (fe := eVar 3) (g := gN 18) (e := E4_law) (vs := [18]) (k := 1000)
    (P := fun _ t => ∃ rows, Cl pk (1 + r2) rows ∧ t = cl rows) (fun _ => rfl) (by omega) (fun i hi => ⟨_, rfl, (L61.cloth_k (m := pk) (w := 1 + r2) (by omega) (by omega) hd (by simp)).of fun S' => by
      simp only [E4_law, wipeE, List.set_cons_succ, List.set_cons_zero, eCall_e, aCons_e, aNil_e, Mi.e2_e, Mi.e1_e, eTup_e, eFrz_e, nLst_e, eB_e, eVar_z, eVar_s, eC_e, bind_ok, List.length_cons, List.length_nil, Nat.zero_add, Nat.reduceAdd, beq_self_eq_true, Mi.if_true, dl0, dl1, dl2, dl3, dl6, dl7, dl10, neg_i]⟩) (0 + 1 + 1 + 1 + 1) (by omega) (by omega)
  obtain ⟨Cs, rfl, k1, k2⟩ := hl.ex (P := Cl pk (1 + r2)) (f := cl) fun _ _ h => h
  rw [List.length_range] at k1
  have hC : Cls pk (1 + r2) Cs := ⟨by omega, k2⟩
  have mp := mul_nn (a := pk) (b := 1 + r0) (S := Cm.Sp Z0 0 q1) (by omega) (by omega)
  by_cases hbig : 24 < pk * (1 + r0)
  · have hb : 24 < pk * Cs.length := by rw [k1]; exact hbig
    refine ⟨Cm.Sp Z0 0 q1, ?_⟩
    unfold D_law
    refine st_set (t := tL ds) (S1 := []) (by simp only [eCall_e, aCons_e, aNil_e, Mi.e2_e, Mi.e1_e, eTup_e, eFrz_e, nLst_e, eB_e, eVar_z, eVar_s, eC_e, bind_ok, List.length_cons, List.length_nil, Nat.zero_add, Nat.reduceAdd, beq_self_eq_true, Mi.if_true, dl0, dl1, dl2, dl3, dl6, dl7, dl10, neg_i, e1]) ?_
    simp only [List.set_cons_succ, List.set_cons_zero]
    refine st_set (t := .obj 0) (S1 := Cm.Sp Z0 0 0) eat ?_
    simp only [List.set_cons_succ, List.set_cons_zero]
    refine st_set (t := nI (1 + r0)) (S1 := (Cm.Sp Z0 0 (0 + 1))) (by simp only [eCall_e, aCons_e, aNil_e, Mi.e2_e, Mi.e1_e, eTup_e, eFrz_e, nLst_e, eB_e, eVar_z, eVar_s, eC_e, bind_ok, List.length_cons, List.length_nil, Nat.zero_add, Nat.reduceAdd, beq_self_eq_true, Mi.if_true, dl0, dl1, dl2, dl3, dl6, dl7, dl10, neg_i, e2', add1]) ?_
    simp only [List.set_cons_succ, List.set_cons_zero]
    refine st_nx eas ?_
    refine st_nx e6 ?_
    refine st_set (t := tCs Cs) (S1 := Cm.Sp Z0 0 q1) (by simp only [eCall_e, aCons_e, aNil_e, Mi.e2_e, Mi.e1_e, eTup_e, eFrz_e, nLst_e, eB_e, eVar_z, eVar_s, eC_e, bind_ok, List.length_cons, List.length_nil, Nat.zero_add, Nat.reduceAdd, beq_self_eq_true, Mi.if_true, dl0, dl1, dl2, dl3, dl6, dl7, dl10, neg_i, e7, tup_lst]) ?_
    simp only [List.set_cons_succ, List.set_cons_zero]
    have T0 : F__law_told [.int 0, tCs Cs, .non] (Cm.Sp Z0 0 q1) = .ok (mny "size") (Cm.Sp Z0 0 q1) := told0 (by rw [stacked_big hC hb]; exact .many)
    have T1 : F__law_told [.int 1, tCs Cs, .tup []] (Cm.Sp Z0 0 q1) = .ok (mny "size") (Cm.Sp Z0 0 q1) := told1 (by rw [stitched_big hC hb]; exact .many)
    have dg : decide ((24 : Int) < ((pk * (1 + r0) : Nat) : Int)) = true := decide_eq_true (by omega)
    rw [sSeq_e, sIf_e]
    simp only [bVal_e, eCall_e, aCons_e, aNil_e, Mi.e2_e, Mi.e1_e, eTup_e, eFrz_e, nLst_e, eB_e, eVar_z, eVar_s, eC_e, bind_ok, List.length_cons, List.length_nil, Nat.zero_add, Nat.reduceAdd, beq_self_eq_true, Mi.if_true, dl0, dl1, dl2, dl3, dl6, dl7, dl10, neg_i, mp, gt_ii, dg, then_ok, sSeq_e, sRet_e, eAnd_e, T0, T1, eq_same f_size, seq_rt]
  · have hs : pk * Cs.length ≤ 24 := by rw [k1]; omega
    have hw : (1 + r2) * Cs.length ≤ 24 := by
      rw [k1]
      exact Nat.mul_le_mul (show 1 + r2 ≤ 6 by omega) (show 1 + r0 ≤ 4 by omega)
    have hX := stkd_cl hC hs hw
    have hB := btw_mem (m := pk * Cs.length) (w := (1 + r2) * Cs.length) (n := 1 + r0)
    have hBl := btw_len (m := pk * Cs.length) (w := (1 + r2) * Cs.length) (n := 1 + r0) hs hw
    have hBp := btw_pw (m := pk * Cs.length) (w := (1 + r2) * Cs.length) (n := 1 + r0)
    have e9 := fun S => between_e (S := S) (n := 1 + r0) hX (by omega)
    have dv : Dv pk (1 + r2) (1 + r0) := ⟨hpk.1, by omega, by omega, by omega⟩
    obtain ⟨pl, q2, ⟨P, hPs, rfl⟩, c3, c4, e10⟩ := compQ_k (S := Z0) (n := 0) (ρ := [some (.scr (ns.map T.int)), some (tL ds), some (.obj 0), some (nI (1 + r0)), some (tCs Cs), some (cl (stkd pk (1 + r2) Cs)), some (.lst ((btw (pk * Cs.length) ((1 + r2) * Cs.length) (1 + r0)).map tP)), none, none, none, none, none, none, none, some (nI pk), some (nI (1 + r2)), none, none, none, none, none]) (xs := (btw (pk * Cs.length) ((1 + r2) * Cs.length) (1 + r0))) (h := tP) (f := iAny (eVar 6)) (g := gN 19) (b := Q3_law) (e := eVar 19) (vs := [19]) (k := 1)
      (fun S' => iAny_lst rfl) (by omega) (fun x _ => ⟨_, rfl, fun p h0 h1 => by
        obtain ⟨r, hr, e⟩ := take_s (S := Z0) (n := 0) (p := p) (m := 6) (by omega) hd (by simp) h0 (by omega)
        have e' : F__law_take [tL ds, .obj 0, .int 6] (Cm.Sp Z0 0 p) = .ok (nI r) (Cm.Sp Z0 0 (p + 1)) := e
        exact ⟨(r : Int) == 0, p + 1, trivial, by omega, by omega, by simp only [Q3_law, wipeE, List.set_cons_succ, List.set_cons_zero, bVal_e, eCall_e, aCons_e, aNil_e, Mi.e2_e, Mi.e1_e, eTup_e, eFrz_e, nLst_e, eB_e, eVar_z, eVar_s, eC_e, bind_ok, List.length_cons, List.length_nil, Nat.zero_add, Nat.reduceAdd, beq_self_eq_true, Mi.if_true, dl0, dl1, dl2, dl3, dl6, dl7, dl10, neg_i, e', eq_ii]⟩, fun S' => rfl⟩) q1 (by omega) (by omega)
    have hPl : P.length ≤ 576 := Nat.le_trans hPs.length_le hBl
    have hPa : Asc P := asc_of (hBp.sublist hPs)
    have hPm : Sti pk (1 + r2) Cs.length P := ⟨by omega, fun x hx => by
      have := hB x (hPs.subset hx)
      rw [k1]
      rw [k1] at this
      exact this⟩
    have hT := trn_cl (P := P) hX
    obtain ⟨_, q3, ⟨Y, hY, rfl⟩, c5, c6, e11⟩ := L61.cloth_k (S := Z0) (n := 0) (m := pk * Cs.length) (w := (1 + r2) * Cs.length) ⟨hX.2.1.1, hX.2.1.2⟩ ⟨hX.2.2.1.1, hX.2.2.1.2⟩ hd (by simp) q2 (by omega) (by omega)
    have T0 : F__law_told [.int 0, tCs Cs, .non] (Cm.Sp Z0 0 q2) = .ok (cl (stkd pk (1 + r2) Cs)) (Cm.Sp Z0 0 q2) := told0 (by rw [stacked_e hC hs hw]; exact .ok pure_cl)
    have T1 : F__law_told [.int 1, tCs Cs, .tup (P.map tP)] (Cm.Sp Z0 0 q2) = .ok (cl (trn (pk * Cs.length) ((1 + r2) * Cs.length) (stkd pk (1 + r2) Cs) P)) (Cm.Sp Z0 0 q2) := told1 (by rw [stitched_e hC hs hw hPm hPa]; exact .ok pure_cl)
    have fX := fit_cl (d := 58) hX
    have fT := fit_cl (d := 58) hT
    obtain ⟨r00, hr00, hl00, ix00⟩ := ix0_cl hX
    have rne : r00 ≠ [] := by
      intro z
      rw [z] at hl00
      have := hX.2.2.1.1
      simp at hl00
      omega
    obtain ⟨od, hod, e12⟩ := one_s (S := Z0) (n := 0) (p := q3) (l := oddCs (1 + r2) Cs r00) (by simp [oddCs]) (by
      have p1 : T.pures (Cs.map cl) = true := pures_map fun _ _ => pure_cl
      have p2 : T.pures (Cs.map cl ++ [cl [List.replicate (1 + r2 + 1) 1]]) = true := pures_append p1 (by simp only [pures_cons, pures_nil, pure_cl, Bool.and_self])
      have p3 : T.pures (List.replicate 5 (Cs.map cl)).flatten = true := by
        have : (List.replicate 5 (Cs.map cl)).flatten = (List.replicate 5 Cs).flatten.map cl := by simp [List.map_flatten]
        rw [this]
        exact pures_map fun _ _ => pure_cl
      have p4 : (tR r00).pure = true := pure_tR
      simp only [oddCs, pures_cons, pures_nil, pure_non, pure_tup, pure_int, p1, p2, p3, p4, Bool.and_self]) hd (by simp) (by omega) (by omega)
    have U0 : F__law_told [.int 0, od, .non] (Cm.Sp Z0 0 (q3 + 1)) = .ok (arg "cloths") (Cm.Sp Z0 0 (q3 + 1)) := told0 (by rw [stacked_x (oddCs_e hC (by omega) rne hod)]; exact .arg)
    have U1 : F__law_told [.int 1, od, .non] (Cm.Sp Z0 0 (q3 + 1)) = .ok (arg "cloths") (Cm.Sp Z0 0 (q3 + 1)) := told1 (by rw [stitched_x (oddCs_e hC (by omega) rne hod)]; exact .arg)
    have em1 : ∀ S, mulL S (.tup [.int 1]) (.int ((1 + r2 : Nat) + 1)) = .ok (tR (List.replicate (1 + r2 + 1) 1)) S := fun S => by
      show mulP S (.tup [.int 1]) (.int ((1 + r2 : Nat) + 1)) = _
      unfold mulP
      have h1 : ¬ (((1 + r2 : Nat) : Int) + 1 = 1) := by omega
      have d0 : decide (((1 + r2 : Nat) : Int) + 1 ≤ 0) = false := decide_eq_false (by omega)
      have d1 : decide ([T.int 1] ≠ []) = true := decide_eq_true (by simp)
      have d2 : decide (2 ≤ ((1 + r2 : Nat) : Int) + 1) = true := decide_eq_true (by omega)
      have d3 : decide (((1 + r2 : Nat) : Int) + 1 ≤ 1000) = true := decide_eq_true (by omega)
      have d4 : decide ([T.int 1].length ≤ 1000) = true := by decide
      have e : (List.replicate (1 + r2 + 1) [T.int 1]).flatten = (List.replicate (1 + r2 + 1) 1).map T.int := by
        rw [List.map_replicate]
        generalize 1 + r2 + 1 = k
        induction k with
        | zero => rfl
        | succ k ih => rw [List.replicate_succ, List.flatten_cons, ih, List.replicate_succ]; rfl
      have et : (((1 + r2 : Nat) : Int) + 1).toNat = 1 + r2 + 1 := by omega
      simp only [if_neg h1, d0, Bool.false_and]
      show R.if (decide ([T.int 1] ≠ []) && (decide (2 ≤ ((1 + r2 : Nat) : Int) + 1) && (decide (((1 + r2 : Nat) : Int) + 1 ≤ 1000) && decide ([T.int 1].length ≤ 1000)))) (R.ok (T.tup (List.replicate (((1 + r2 : Nat) : Int) + 1).toNat [T.int 1]).flatten) S) = _
      rw [d2, d3, d4, et, e, d1]
      rfl
    have em5 : ∀ S, mulL S (tCs Cs) (.int 5) = .ok (.tup (List.replicate 5 (Cs.map cl)).flatten) S := fun S => by
      show mulP S (.tup (Cs.map cl)) (.int 5) = _
      unfold mulP
      have h1 : ¬ ((5 : Int) = 1) := by omega
      have d0 : decide ((5 : Int) ≤ 0) = false := by decide
      have ne : Cs.map cl ≠ [] := by
        intro z
        have hz := congrArg List.length z
        rw [List.length_map] at hz
        have z2 : ([] : List T).length = 0 := rfl
        omega
      have d1 : decide (Cs.map cl ≠ []) = true := decide_eq_true ne
      have d4 : decide ((Cs.map cl).length ≤ 1000) = true := decide_eq_true (by rw [List.length_map]; omega)
      simp only [if_neg h1, d0, Bool.false_and]
      show R.if (decide (Cs.map cl ≠ []) && (decide (2 ≤ (5 : Int)) && (decide ((5 : Int) ≤ 1000) && decide ((Cs.map cl).length ≤ 1000)))) (R.ok (T.tup (List.replicate (5 : Int).toNat (Cs.map cl)).flatten) S) = _
      rw [d1, d4]
      rfl
    have ead : ∀ S, addL S (tCs Cs) (.tup [.tup [tR (List.replicate (1 + r2 + 1) 1)]]) = .ok (.tup (Cs.map cl ++ [cl [List.replicate (1 + r2 + 1) 1]])) S := fun S => by
      have d : decide ((Cs.map cl).length + [cl [List.replicate (1 + r2 + 1) 1]].length ≤ line) = true := decide_eq_true (by rw [List.length_map]; show Cs.length + 1 ≤ 16777216; omega)
      show R.if (decide ((Cs.map cl).length + [cl [List.replicate (1 + r2 + 1) 1]].length ≤ line)) _ = _
      rw [d]
      rfl
    have mq1 := fun S => mul_nn (a := pk) (b := 1 + r0) (S := S) (by omega) (by omega)
    have mq2 := fun S => mul_nn (a := 1 + r2) (b := 1 + r0) (S := S) (by omega) (by omega)
    rw [k1] at e11
    have eloop : ∃ c, sFor (iAny (eFrz (nLst (aCons (eCall F__law_turned 2 [] (aCons (eVar 5) (aCons (eVar 7) aNil))) (aCons (eVar 5) (aCons (eVar 8) aNil)))))) (gN 9) B2_law (bEnv [.scr (ns.map T.int), tL ds, .obj 0, nI (1 + r0), tCs Cs, cl (stkd pk (1 + r2) Cs), .lst ((btw (pk * Cs.length) ((1 + r2) * Cs.length) (1 + r0)).map tP), .tup (P.map tP), cl Y, nI pk, nI (1 + r2)] (none, none, none)) (Cm.Sp Z0 0 q3) = .go (.nx (bEnv [.scr (ns.map T.int), tL ds, .obj 0, nI (1 + r0), tCs Cs, cl (stkd pk (1 + r2) Cs), .lst ((btw (pk * Cs.length) ((1 + r2) * Cs.length) (1 + r0)).map tP), .tup (P.map tP), cl Y, nI pk, nI (1 + r2)] c)) (Cm.Sp Z0 0 q3) := by
      have hit : iAny (eFrz (nLst (aCons (eCall F__law_turned 2 [] (aCons (eVar 5) (aCons (eVar 7) aNil))) (aCons (eVar 5) (aCons (eVar 8) aNil))))) (bEnv [.scr (ns.map T.int), tL ds, .obj 0, nI (1 + r0), tCs Cs, cl (stkd pk (1 + r2) Cs), .lst ((btw (pk * Cs.length) ((1 + r2) * Cs.length) (1 + r0)).map tP), .tup (P.map tP), cl Y, nI pk, nI (1 + r2)] (none, none, none)) (Cm.Sp Z0 0 q3) = .ok ⟨[cl (trn (pk * Cs.length) ((1 + r2) * Cs.length) (stkd pk (1 + r2) Cs) P), cl (stkd pk (1 + r2) Cs), cl Y], fun _ => true⟩ (Cm.Sp Z0 0 q3) := iAny_lst (by simp only [eCall_e, aCons_e, aNil_e, Mi.e2_e, Mi.e1_e, eTup_e, eFrz_e, nLst_e, eB_e, eVar_z, eVar_s, eC_e, bind_ok, List.length_cons, List.length_nil, Nat.zero_add, Nat.reduceAdd, beq_self_eq_true, Mi.if_true, dl0, dl1, dl2, dl3, dl6, dl7, dl10, neg_i, law_turned_e hX])
      rw [for_it hit]
      have body : ∀ (Y' : List (List Int)) (c : Option T × Option T), Cl (pk * (1 + r0)) ((1 + r2) * (1 + r0)) Y' → ∃ due, B2_law (bEnv [.scr (ns.map T.int), tL ds, .obj 0, nI (1 + r0), tCs Cs, cl (stkd pk (1 + r2) Cs), .lst ((btw (pk * Cs.length) ((1 + r2) * Cs.length) (1 + r0)).map tP), .tup (P.map tP), cl Y, nI pk, nI (1 + r2)] (some (cl Y'), c)) (Cm.Sp Z0 0 q3) = .go (.nx (bEnv [.scr (ns.map T.int), tL ds, .obj 0, nI (1 + r0), tCs Cs, cl (stkd pk (1 + r2) Cs), .lst ((btw (pk * Cs.length) ((1 + r2) * Cs.length) (1 + r0)).map tP), .tup (P.map tP), cl Y, nI pk, nI (1 + r2)] (some (cl Y'), some (nI ((1 + r2) * (1 + r0))), some due))) (Cm.Sp Z0 0 q3) := fun Y' c hY' => b2_e hY' dv
      have hX' := hX
      have hT' := hT
      have hY' := hY
      rw [k1] at hX' hT' hY'
      obtain ⟨d1, b1⟩ := body _ (none, none) hT'
      obtain ⟨d2, b2⟩ := body _ (some (nI ((1 + r2) * (1 + r0))), some d1) hX'
      obtain ⟨d3, b3⟩ := body _ (some (nI ((1 + r2) * (1 + r0))), some d2) hY'
      refine ⟨(some (cl Y), some (nI ((1 + r2) * (1 + r0))), some d3), ?_⟩
      have eg : ∀ (z : T) (c : Option T × Option T × Option T), gN 9 z (bEnv [.scr (ns.map T.int), tL ds, .obj 0, nI (1 + r0), tCs Cs, cl (stkd pk (1 + r2) Cs), .lst ((btw (pk * Cs.length) ((1 + r2) * Cs.length) (1 + r0)).map tP), .tup (P.map tP), cl Y, nI pk, nI (1 + r2)] c) = some (bEnv [.scr (ns.map T.int), tL ds, .obj 0, nI (1 + r0), tCs Cs, cl (stkd pk (1 + r2) Cs), .lst ((btw (pk * Cs.length) ((1 + r2) * Cs.length) (1 + r0)).map tP), .tup (P.map tP), cl Y, nI pk, nI (1 + r2)] (some z, c.2)) := fun _ _ => rfl
      rw [forL_cons, fif_true, eg]
      simp only [k1] at b1 b2 b3 ⊢
      simp only [b1, loopR_nx]
      rw [forL_cons, fif_true]
      simp only [k1] at eg
      rw [eg]
      simp only [b2, loopR_nx]
      rw [forL_cons, fif_true, eg]
      simp only [b3, loopR_nx, forL_nil, fif_true]
    obtain ⟨⟨w9, w16, w17⟩, eloop⟩ := eloop
    obtain ⟨v11, e14, st, e15, hst⟩ := rows_e (ρ := [some (.scr (ns.map T.int)), some (tL ds), some (.obj 0), some (nI (1 + r0)), some (tCs Cs), some (cl (stkd pk (1 + r2) Cs)), some (.lst ((btw (pk * Cs.length) ((1 + r2) * Cs.length) (1 + r0)).map tP)), some (.tup (P.map tP)), some (cl Y), w9, some (od), some (.obj 1), none, none, some (nI pk), some (nI (1 + r2)), w16, w17, none, none, none]) (B := (btw (pk * Cs.length) ((1 + r2) * Cs.length) (1 + r0))) (q := q3 + 1) hC (fun x hx => by
      have := hB x hx
      rw [k1]
      rw [k1] at this
      exact this) hBp (by omega) hd (by omega) (by omega) (fun _ => rfl) (fun _ => rfl)
    have V1 : F__law_told [.int 1, tCs Cs, st] (Cm.Sp (Z1 ((1 + r2) * Cs.length)) 0 (q3 + 1 + 1)) = .ok (arg "stitches") (Cm.Sp (Z1 ((1 + r2) * Cs.length)) 0 (q3 + 1 + 1)) := told1 (by rw [hst]; exact .arg)
    obtain ⟨ct, hct, e16⟩ := one_s (S := Z1 ((1 + r2) * Cs.length)) (n := 0) (p := q3 + 1 + 1) (l := counts) (by simp [counts]) rfl hd (by simp) (by omega) (by omega)
    obtain ⟨il, hil, e17⟩ := one_s (S := Z1 ((1 + r2) * Cs.length)) (n := 0) (p := q3 + 1 + 1 + 1) (l := ills) (by simp [ills]) rfl hd (by simp) (by omega) (by omega)
    have V2 : F__law_told [.int 2, cl (stkd pk (1 + r2) Cs), ct] (Cm.Sp (Z1 ((1 + r2) * Cs.length)) 0 (q3 + 1 + 1 + 1 + 1)) = .ok (arg "count") (Cm.Sp (Z1 ((1 + r2) * Cs.length)) 0 (q3 + 1 + 1 + 1 + 1)) := told2 (by rw [counts_e hX hct]; exact .arg)
    obtain ⟨xs, hxs⟩ := ills_e (p := q3 + 1 + 1 + 1 + 1) (l := base6 ((1 + r2) * Cs.length)) il hil
    have W2 : F__law_told [.int 2, il, ct] (Cm.Sp (Z1 ((1 + r2) * Cs.length)) 0 (q3 + 1 + 1 + 1 + 1)) = .ok tcl (Cm.Sp (Z1 ((1 + r2) * Cs.length)) 0 (q3 + 1 + 1 + 1 + 1)) := told2 (by rw [ill2 hxs]; exact .cloth)
    have W3 : F__law_told [.int 3, il, ct] (Cm.Sp (Z1 ((1 + r2) * Cs.length)) 0 (q3 + 1 + 1 + 1 + 1)) = .ok tcl (Cm.Sp (Z1 ((1 + r2) * Cs.length)) 0 (q3 + 1 + 1 + 1 + 1)) := told3 (by rw [ill3 hxs]; exact .cloth)
    have W4 : F__law_told [.int 4, il, ct] (Cm.Sp (Z1 ((1 + r2) * Cs.length)) 0 (q3 + 1 + 1 + 1 + 1)) = .ok tcl (Cm.Sp (Z1 ((1 + r2) * Cs.length)) 0 (q3 + 1 + 1 + 1 + 1)) := told4 (by rw [ill4 hxs]; exact .cloth)
    have e16' := e16
    have e17' := e17
    simp only [counts] at e16'
    simp only [ills] at e17'
    have e12' := e12
    simp only [oddCs] at e12'
    have ek : ∀ ρ : Mi.Env, eVar 5 ρ (Cm.Sp Z0 0 (q3 + 1)) = .ok (cl (stkd pk (1 + r2) Cs)) (Cm.Sp Z0 0 (q3 + 1)) → eKeep true (nLst (aCons (eC .non) (aCons (eTup (aCons (eC (.int 5)) aNil)) (aCons (eTup (aCons (eTup (aCons (eC (.int 0)) (aCons (eC (.int 0)) aNil))) aNil)) (aCons (eTup (aCons (eTup (aCons (eC (.int 0)) (aCons (eB fLen (aCons (Mi.e2 ixA (eVar 5) (eC (.int 0))) aNil)) aNil))) aNil)) (aCons (eTup (aCons (eTup (aCons (eC (.bl true)) (aCons (eC (.int 0)) aNil))) aNil)) (aCons (eTup (aCons (eC (.str "00")) aNil)) aNil))))))) ρ (Cm.Sp Z0 0 (q3 + 1)) = .ok (.obj 1) (Cm.Sp (Z1 ((1 + r2) * Cs.length)) 0 (q3 + 1)) := fun ρ h5 => by
      have pb : T.pures (base6 ((1 + r2) * Cs.length)) = true := rfl
      have pb' : T.pures [.non, .tup [.int 5], .tup [.tup [.int 0, .int 0]], .tup [.tup [.int 0, nI ((1 + r2) * Cs.length)]], .tup [.tup [.bl true, .int 0]], .tup [.str "00"]] = true := pb
      simp only [eKeep_t, eCall_e, aCons_e, aNil_e, Mi.e2_e, Mi.e1_e, eTup_e, eFrz_e, nLst_e, eB_e, eVar_z, eVar_s, eC_e, bind_ok, List.length_cons, List.length_nil, Nat.zero_add, Nat.reduceAdd, beq_self_eq_true, Mi.if_true, dl0, dl1, dl2, dl3, dl6, dl7, dl10, neg_i, h5, ix00, len_tup, List.length_map, hl00, pb']
      rfl
    refine ⟨(Cm.Sp (Z1 ((1 + r2) * Cs.length)) 0 (q3 + 1 + 1 + 1 + 1)), ?_⟩
    unfold D_law
    refine st_set (t := tL ds) (S1 := []) (by simp only [eCall_e, aCons_e, aNil_e, Mi.e2_e, Mi.e1_e, eTup_e, eFrz_e, nLst_e, eB_e, eVar_z, eVar_s, eC_e, bind_ok, List.length_cons, List.length_nil, Nat.zero_add, Nat.reduceAdd, beq_self_eq_true, Mi.if_true, dl0, dl1, dl2, dl3, dl6, dl7, dl10, neg_i, e1]) ?_
    simp only [List.set_cons_succ, List.set_cons_zero]
    refine st_set (t := .obj 0) (S1 := Cm.Sp Z0 0 0) eat ?_
    simp only [List.set_cons_succ, List.set_cons_zero]
    refine st_set (t := nI (1 + r0)) (S1 := (Cm.Sp Z0 0 (0 + 1))) (by simp only [eCall_e, aCons_e, aNil_e, Mi.e2_e, Mi.e1_e, eTup_e, eFrz_e, nLst_e, eB_e, eVar_z, eVar_s, eC_e, bind_ok, List.length_cons, List.length_nil, Nat.zero_add, Nat.reduceAdd, beq_self_eq_true, Mi.if_true, dl0, dl1, dl2, dl3, dl6, dl7, dl10, neg_i, e2', add1]) ?_
    simp only [List.set_cons_succ, List.set_cons_zero]
    refine st_nx eas ?_
    refine st_nx e6 ?_
    refine st_set (t := tCs Cs) (S1 := Cm.Sp Z0 0 q1) (by simp only [eCall_e, aCons_e, aNil_e, Mi.e2_e, Mi.e1_e, eTup_e, eFrz_e, nLst_e, eB_e, eVar_z, eVar_s, eC_e, bind_ok, List.length_cons, List.length_nil, Nat.zero_add, Nat.reduceAdd, beq_self_eq_true, Mi.if_true, dl0, dl1, dl2, dl3, dl6, dl7, dl10, neg_i, e7, tup_lst]) ?_
    simp only [List.set_cons_succ, List.set_cons_zero]
    have dg : decide ((24 : Int) < ((pk * (1 + r0) : Nat) : Int)) = false := decide_eq_false (by omega)
    refine st_if (S1 := Cm.Sp Z0 0 q1) (by simp only [bVal_e, eCall_e, aCons_e, aNil_e, Mi.e2_e, Mi.e1_e, eTup_e, eFrz_e, nLst_e, eB_e, eVar_z, eVar_s, eC_e, bind_ok, List.length_cons, List.length_nil, Nat.zero_add, Nat.reduceAdd, beq_self_eq_true, Mi.if_true, dl0, dl1, dl2, dl3, dl6, dl7, dl10, neg_i, mp, gt_ii, dg]) ?_
    refine st_set (t := cl (stkd pk (1 + r2) Cs)) (S1 := Cm.Sp Z0 0 q1) (by simp only [eCall_e, aCons_e, aNil_e, Mi.e2_e, Mi.e1_e, eTup_e, eFrz_e, nLst_e, eB_e, eVar_z, eVar_s, eC_e, bind_ok, List.length_cons, List.length_nil, Nat.zero_add, Nat.reduceAdd, beq_self_eq_true, Mi.if_true, dl0, dl1, dl2, dl3, dl6, dl7, dl10, neg_i, law_stacked_e hC]) ?_
    simp only [List.set_cons_succ, List.set_cons_zero]
    refine st_set (t := .lst ((btw (pk * Cs.length) ((1 + r2) * Cs.length) (1 + r0)).map tP)) (S1 := Cm.Sp Z0 0 q1) (by simp only [eCall_e, aCons_e, aNil_e, Mi.e2_e, Mi.e1_e, eTup_e, eFrz_e, nLst_e, eB_e, eVar_z, eVar_s, eC_e, bind_ok, List.length_cons, List.length_nil, Nat.zero_add, Nat.reduceAdd, beq_self_eq_true, Mi.if_true, dl0, dl1, dl2, dl3, dl6, dl7, dl10, neg_i, e9]) ?_
    simp only [List.set_cons_succ, List.set_cons_zero]
    refine st_set (t := .tup (P.map tP)) (S1 := Cm.Sp Z0 0 q2) (by simp only [eCall_e, aCons_e, aNil_e, Mi.e2_e, Mi.e1_e, eTup_e, eFrz_e, nLst_e, eB_e, eVar_z, eVar_s, eC_e, bind_ok, List.length_cons, List.length_nil, Nat.zero_add, Nat.reduceAdd, beq_self_eq_true, Mi.if_true, dl0, dl1, dl2, dl3, dl6, dl7, dl10, neg_i, e10, tup_lst]) ?_
    simp only [List.set_cons_succ, List.set_cons_zero]
    refine st_if (S1 := Cm.Sp Z0 0 q2) (or_ff (S1 := Cm.Sp Z0 0 q2) (same_ff (S1 := Cm.Sp Z0 0 q2) (t := cl (stkd pk (1 + r2) Cs)) (by simp only [eCall_e, aCons_e, aNil_e, Mi.e2_e, Mi.e1_e, eTup_e, eFrz_e, nLst_e, eB_e, eVar_z, eVar_s, eC_e, bind_ok, List.length_cons, List.length_nil, Nat.zero_add, Nat.reduceAdd, beq_self_eq_true, Mi.if_true, dl0, dl1, dl2, dl3, dl6, dl7, dl10, neg_i, T0]) (by simp only [eCall_e, aCons_e, aNil_e, Mi.e2_e, Mi.e1_e, eTup_e, eFrz_e, nLst_e, eB_e, eVar_z, eVar_s, eC_e, bind_ok, List.length_cons, List.length_nil, Nat.zero_add, Nat.reduceAdd, beq_self_eq_true, Mi.if_true, dl0, dl1, dl2, dl3, dl6, dl7, dl10, neg_i]) ⟨fX.1, by have := fX.2; omega⟩) (same_ff (S1 := Cm.Sp Z0 0 q2) (t := cl (trn (pk * Cs.length) ((1 + r2) * Cs.length) (stkd pk (1 + r2) Cs) P)) (by simp only [eCall_e, aCons_e, aNil_e, Mi.e2_e, Mi.e1_e, eTup_e, eFrz_e, nLst_e, eB_e, eVar_z, eVar_s, eC_e, bind_ok, List.length_cons, List.length_nil, Nat.zero_add, Nat.reduceAdd, beq_self_eq_true, Mi.if_true, dl0, dl1, dl2, dl3, dl6, dl7, dl10, neg_i, T1]) (by simp only [eCall_e, aCons_e, aNil_e, Mi.e2_e, Mi.e1_e, eTup_e, eFrz_e, nLst_e, eB_e, eVar_z, eVar_s, eC_e, bind_ok, List.length_cons, List.length_nil, Nat.zero_add, Nat.reduceAdd, beq_self_eq_true, Mi.if_true, dl0, dl1, dl2, dl3, dl6, dl7, dl10, neg_i, law_turned_e hX]) ⟨fT.1, by have := fT.2; omega⟩)) ?_
    refine st_set (t := cl Y) (S1 := Cm.Sp Z0 0 q3) (by simp only [eCall_e, aCons_e, aNil_e, Mi.e2_e, Mi.e1_e, eTup_e, eFrz_e, nLst_e, eB_e, eVar_z, eVar_s, eC_e, bind_ok, List.length_cons, List.length_nil, Nat.zero_add, Nat.reduceAdd, beq_self_eq_true, Mi.if_true, dl0, dl1, dl2, dl3, dl6, dl7, dl10, neg_i, mq1, mq2, e11]) ?_
    simp only [List.set_cons_succ, List.set_cons_zero]
    refine st_nx eloop ?_
    refine st_set (t := od) (S1 := (Cm.Sp Z0 0 (q3 + 1))) (by simp only [eCall_e, aCons_e, aNil_e, Mi.e2_e, Mi.e1_e, eTup_e, eFrz_e, nLst_e, eB_e, eVar_z, eVar_s, eC_e, bind_ok, List.length_cons, List.length_nil, Nat.zero_add, Nat.reduceAdd, beq_self_eq_true, Mi.if_true, dl0, dl1, dl2, dl3, dl6, dl7, dl10, neg_i, add_ii, em1, em5, ead, ix00, e12']) ?_
    simp only [List.set_cons_succ, List.set_cons_zero]
    refine st_if (S1 := (Cm.Sp Z0 0 (q3 + 1))) (or_ff (S1 := (Cm.Sp Z0 0 (q3 + 1))) (ne_ff (S1 := (Cm.Sp Z0 0 (q3 + 1))) (t := arg "cloths") (by simp only [eCall_e, aCons_e, aNil_e, Mi.e2_e, Mi.e1_e, eTup_e, eFrz_e, nLst_e, eB_e, eVar_z, eVar_s, eC_e, bind_ok, List.length_cons, List.length_nil, Nat.zero_add, Nat.reduceAdd, beq_self_eq_true, Mi.if_true, dl0, dl1, dl2, dl3, dl6, dl7, dl10, neg_i, U0]) (by simp only [eCall_e, aCons_e, aNil_e, Mi.e2_e, Mi.e1_e, eTup_e, eFrz_e, nLst_e, eB_e, eVar_z, eVar_s, eC_e, bind_ok, List.length_cons, List.length_nil, Nat.zero_add, Nat.reduceAdd, beq_self_eq_true, Mi.if_true, dl0, dl1, dl2, dl3, dl6, dl7, dl10, neg_i]) (arg_fit f_cloths)) (ne_ff (S1 := (Cm.Sp Z0 0 (q3 + 1))) (t := arg "cloths") (by simp only [eCall_e, aCons_e, aNil_e, Mi.e2_e, Mi.e1_e, eTup_e, eFrz_e, nLst_e, eB_e, eVar_z, eVar_s, eC_e, bind_ok, List.length_cons, List.length_nil, Nat.zero_add, Nat.reduceAdd, beq_self_eq_true, Mi.if_true, dl0, dl1, dl2, dl3, dl6, dl7, dl10, neg_i, U1]) (by simp only [eCall_e, aCons_e, aNil_e, Mi.e2_e, Mi.e1_e, eTup_e, eFrz_e, nLst_e, eB_e, eVar_z, eVar_s, eC_e, bind_ok, List.length_cons, List.length_nil, Nat.zero_add, Nat.reduceAdd, beq_self_eq_true, Mi.if_true, dl0, dl1, dl2, dl3, dl6, dl7, dl10, neg_i]) (arg_fit f_cloths))) ?_
    refine st_set (t := .obj 1) (S1 := (Cm.Sp (Z1 ((1 + r2) * Cs.length)) 0 (q3 + 1))) (ek _ rfl) ?_
    simp only [List.set_cons_succ, List.set_cons_zero]
    refine st_set (t := v11) (S1 := (Cm.Sp (Z1 ((1 + r2) * Cs.length)) 0 (q3 + 1))) e14 ?_
    simp only [List.set_cons_succ, List.set_cons_zero]
    refine st_if (S1 := (Cm.Sp (Z1 ((1 + r2) * Cs.length)) 0 (q3 + 1 + 1))) (ne_ff (S1 := (Cm.Sp (Z1 ((1 + r2) * Cs.length)) 0 (q3 + 1 + 1))) (t := arg "stitches") (by simp only [eCall_e, aCons_e, aNil_e, Mi.e2_e, Mi.e1_e, eTup_e, eFrz_e, nLst_e, eB_e, eVar_z, eVar_s, eC_e, bind_ok, List.length_cons, List.length_nil, Nat.zero_add, Nat.reduceAdd, beq_self_eq_true, Mi.if_true, dl0, dl1, dl2, dl3, dl6, dl7, dl10, neg_i, e15, V1]) (by simp only [eCall_e, aCons_e, aNil_e, Mi.e2_e, Mi.e1_e, eTup_e, eFrz_e, nLst_e, eB_e, eVar_z, eVar_s, eC_e, bind_ok, List.length_cons, List.length_nil, Nat.zero_add, Nat.reduceAdd, beq_self_eq_true, Mi.if_true, dl0, dl1, dl2, dl3, dl6, dl7, dl10, neg_i]) (arg_fit f_stitches)) ?_
    refine st_set (t := ct) (S1 := (Cm.Sp (Z1 ((1 + r2) * Cs.length)) 0 (q3 + 1 + 1 + 1))) (by simp only [eCall_e, aCons_e, aNil_e, Mi.e2_e, Mi.e1_e, eTup_e, eFrz_e, nLst_e, eB_e, eVar_z, eVar_s, eC_e, bind_ok, List.length_cons, List.length_nil, Nat.zero_add, Nat.reduceAdd, beq_self_eq_true, Mi.if_true, dl0, dl1, dl2, dl3, dl6, dl7, dl10, neg_i, e16']) ?_
    simp only [List.set_cons_succ, List.set_cons_zero]
    refine st_set (t := il) (S1 := (Cm.Sp (Z1 ((1 + r2) * Cs.length)) 0 (q3 + 1 + 1 + 1 + 1))) (by simp only [eCall_e, aCons_e, aNil_e, Mi.e2_e, Mi.e1_e, eTup_e, eFrz_e, nLst_e, eB_e, eVar_z, eVar_s, eC_e, bind_ok, List.length_cons, List.length_nil, Nat.zero_add, Nat.reduceAdd, beq_self_eq_true, Mi.if_true, dl0, dl1, dl2, dl3, dl6, dl7, dl10, neg_i, e17']) ?_
    simp only [List.set_cons_succ, List.set_cons_zero]
    have cc : nComp (iAny (eTup (aCons (eC (.int 2)) (aCons (eC (.int 3)) (aCons (eC (.int 4)) aNil))))) (gN 20) bYes E1_law [20] [some (.scr (ns.map T.int)), some (tL ds), some (.obj 0), some (nI (1 + r0)), some (tCs Cs), some (cl (stkd pk (1 + r2) Cs)), some (.lst ((btw (pk * Cs.length) ((1 + r2) * Cs.length) (1 + r0)).map tP)), some (.tup (P.map tP)), some (cl Y), w9, some (od), some (v11), some (ct), some (il), some (nI pk), some (nI (1 + r2)), w16, w17, none, none, none] (Cm.Sp (Z1 ((1 + r2) * Cs.length)) 0 (q3 + 1 + 1 + 1 + 1)) = .ok [.tup [.str "cloth", .bl true], .tup [.str "cloth", .bl true], .tup [.str "cloth", .bl true]] (Cm.Sp (Z1 ((1 + r2) * Cs.length)) 0 (q3 + 1 + 1 + 1 + 1)) := comp_e (xs := [2, 3, 4]) (h := nI) (r := fun _ => .tup [.str "cloth", .bl true]) (iAny_tup rfl) (by simp) fun i hi => ⟨_, rfl, by
      have hw : F__law_told [nI i, il, ct] (Cm.Sp (Z1 ((1 + r2) * Cs.length)) 0 (q3 + 1 + 1 + 1 + 1)) = .ok tcl (Cm.Sp (Z1 ((1 + r2) * Cs.length)) 0 (q3 + 1 + 1 + 1 + 1)) := by
        simp only [List.mem_cons, List.not_mem_nil, or_false] at hi
        rcases hi with z | z | z <;> subst z <;> assumption
      simp only [E1_law, wipeE, List.set_cons_succ, List.set_cons_zero, eCall_e, aCons_e, aNil_e, Mi.e2_e, Mi.e1_e, eTup_e, eFrz_e, nLst_e, eB_e, eVar_z, eVar_s, eC_e, bind_ok, List.length_cons, List.length_nil, Nat.zero_add, Nat.reduceAdd, beq_self_eq_true, Mi.if_true, dl0, dl1, dl2, dl3, dl6, dl7, dl10, neg_i, hw]⟩
    have rp : mulL (Cm.Sp (Z1 ((1 + r2) * Cs.length)) 0 (q3 + 1 + 1 + 1 + 1)) (.lst [.tup [.str "cloth", .bl true]]) (.int 3) = .ok (.lst [.tup [.str "cloth", .bl true], .tup [.str "cloth", .bl true], .tup [.str "cloth", .bl true]]) (Cm.Sp (Z1 ((1 + r2) * Cs.length)) 0 (q3 + 1 + 1 + 1 + 1)) := rfl
    have f3 : fit 60 (.lst [.tup [.str "cloth", .bl true], .tup [.str "cloth", .bl true], .tup [.str "cloth", .bl true]]) = true := by kernel_rfl
    simp only [sSeq_e, sRet_e, eAnd_e, eCall_e, aCons_e, aNil_e, Mi.e2_e, Mi.e1_e, eTup_e, eFrz_e, nLst_e, eB_e, eVar_z, eVar_s, eC_e, bind_ok, List.length_cons, List.length_nil, Nat.zero_add, Nat.reduceAdd, beq_self_eq_true, Mi.if_true, dl0, dl1, dl2, dl3, dl6, dl7, dl10, neg_i, V2, eq_same (arg_fit f_count), cc, rp, eq_same f3, then_ok, seq_rt]
theorem law_e {ns : List Int} (hn : ns.length ≤ 63) : F_law [.scr (ns.map T.int)] [] = .ok (.bl true) [] := by
  obtain ⟨Sf, e⟩ := law_D hn
  refine (fnOf_e (S := [])).trans ?_
  show outR 0 (D_law [some (.scr (ns.map T.int)), none, none, none, none, none, none, none, none, none, none, none, none, none, none, none, none, none, none, none, none] []) = _
  rw [e]
  rfl
end
end L61
end

theorem PySem.Challenge.cw_hangstogether_k61_whole_cloths_one_above_holds : PySem.Challenge.rw_hangstogether_k61_whole_cloths_one_above.Holds := by
  exact L61.holds_of fun ns hn => L61.law_e hn
