import PyProof.Rows.All
import Wide.All
import OpenK.AllK
import Wide.FinOn
import HandS.ForMost
import HandS.Wide
import HandS.TupAny
import HandS.TupSets
import HandS.Zip
import HandS.IsInst
import HandS.Style
import HandS.Deep
import HandS.More
import HandS.TryOnly
import HandS.Defaults
import HandS.HeadHook2
import HandS.HeadHook1
import HandS.HeadEnd
import HandS.Head2
import HandS.EndBits
import PyProof.ReprBulk
import PySem.Challenge.RW_rimturns_k05_turns_and_ways
set_option Elab.async false
set_option linter.all false
set_option maxRecDepth 100000
set_option maxHeartbeats 4000000
namespace DL
open PySem L2

/-! data: what a value is without addresses; lists by their number in a memory -/
inductive D where
  | non | bl (b : Bool) | int (i : Int) | str (s : Str) | tup (xs : List D) | lst (n : Nat) | scr (xs : List Int)

abbrev Mem := List (List D)
abbrev Frg := PySem.W.Frag

def SqF (K : Frg) (H : Hp) (a : Addr) (xs : List V) : Prop := (∃ o, H a = some (.frz o (.lst xs))) ∨ SqL K (fun _ => none) a xs

mutual
inductive Rp (K : Frg) (H : Hp) (A : List Addr) : V → D → Prop
  | non : Rp K H A .non .non
  | bl (b : Bool) : Rp K H A (.bl b) (.bl b)
  | int (i : Int) : Rp K H A (.int i) (.int i)
  | str (s : Str) : Rp K H A (.str s) (.str s)
  | tup {a : Addr} {vs : List V} {ds : List D} : SqT K H a vs → RpL K H A vs ds → Rp K H A (.ref a) (.tup ds)
  | lst {a : Addr} {n : Nat} : A[n]? = some a → Rp K H A (.ref a) (.lst n)
  | scr {a : Addr} {ns : List Int} : SqF K H a (ns.map V.int) → Rp K H A (.ref a) (.scr ns)
inductive RpL (K : Frg) (H : Hp) (A : List Addr) : List V → List D → Prop
  | nil : RpL K H A [] []
  | cons {v : V} {vs : List V} {d : D} {ds : List D} : Rp K H A v d → RpL K H A vs ds → RpL K H A (v :: vs) (d :: ds)
end

structure Rm (K : Frg) (H : Hp) (A : List Addr) (M : Mem) : Prop where
  len : A.length = M.length
  nd : A.Nodup
  at_ : ∀ (n : Nat) (ds : List D), M[n]? = some ds → ∃ a vs, A[n]? = some a ∧ H a = some (.lst vs) ∧ RpL K H A vs ds

structure Stp (H : Hp) (A : List Addr) (H' : Hp) (A' : List Addr) : Prop where
  more : ∃ B, A' = A ++ B
  keep : ∀ b o, H b = some o → b ∉ A → H' b = some o ∧ b ∉ A'

theorem Stp.refl (H : Hp) (A : List Addr) : Stp H A H A := ⟨⟨[], by simp⟩, fun b o e n => ⟨e, n⟩⟩
theorem Stp.trans {H H1 H2 : Hp} {A A1 A2 : List Addr} (s : Stp H A H1 A1) (t : Stp H1 A1 H2 A2) : Stp H A H2 A2 := by
  obtain ⟨B, rfl⟩ := s.more
  obtain ⟨C, rfl⟩ := t.more
  exact ⟨⟨B ++ C, by simp⟩, fun b o e n => let ⟨e1, n1⟩ := s.keep b o e n; t.keep b o e1 n1⟩
theorem Stp.get {H H1 : Hp} {A A1 : List Addr} (s : Stp H A H1 A1) {n : Nat} {a : Addr} (h : A[n]? = some a) : A1[n]? = some a := by
  obtain ⟨B, rfl⟩ := s.more
  have hn : n < A.length := (List.getElem?_eq_some_iff.mp h).1
  rw [List.getElem?_append_left hn]; exact h
theorem Rm.mem {K : Frg} {H : Hp} {A : List Addr} {M : Mem} (r : Rm K H A M) {a : Addr} (h : a ∈ A) : ∃ vs, H a = some (.lst vs) := by
  obtain ⟨n, hn⟩ := List.mem_iff_getElem?.mp h
  have hl : n < M.length := by rw [← r.len]; exact (List.getElem?_eq_some_iff.mp hn).1
  obtain ⟨b, vs, e1, e2, _⟩ := r.at_ n M[n] (List.getElem?_eq_getElem hl)
  rw [hn] at e1; cases e1
  exact ⟨vs, e2⟩
theorem Rm.notin {K : Frg} {H : Hp} {A : List Addr} {M : Mem} (r : Rm K H A M) {a : Addr} {o : HO} (h : H a = some o) (ho : ∀ vs, o ≠ .lst vs) : a ∉ A := fun z => by
  obtain ⟨vs, e⟩ := r.mem z
  rw [h] at e; cases e
  exact ho _ rfl
theorem Rm.fresh {K : Frg} {H : Hp} {A : List Addr} {M : Mem} (r : Rm K H A M) {a : Addr} (h : H a = none) : a ∉ A := fun z => by
  obtain ⟨vs, e⟩ := r.mem z
  rw [h] at e; cases e

section
variable {K : Frg} {H H' : Hp} {A A' : List Addr} {M : Mem}
theorem sqT_stp (r : Rm K H A M) (s : Stp H A H' A') {a : Addr} {vs : List V} (h : SqT K H a vs) : SqT K H' a vs := by
  rcases h with (h | ⟨o, h⟩) | h
  · exact .inl (.inl (s.keep a _ h (r.notin h fun _ z => by cases z)).1)
  · exact .inl (.inr ⟨o, (s.keep a _ h (r.notin h fun _ z => by cases z)).1⟩)
  · exact .inr h
theorem sqF_stp (r : Rm K H A M) (s : Stp H A H' A') {a : Addr} {vs : List V} (h : SqF K H a vs) : SqF K H' a vs := by
  rcases h with ⟨o, h⟩ | h
  · exact .inl ⟨o, (s.keep a _ h (r.notin h fun _ z => by cases z)).1⟩
  · exact .inr h
theorem SqF.seq {a : Addr} {vs : List V} (h : SqF K H a vs) : SqL K H a vs := by
  rcases h with ⟨o, h⟩ | (h | h)
  · exact .inl (.inr ⟨o, h⟩)
  · rcases h with h | ⟨o, h⟩ <;> cases h
  · exact .inr h
mutual
theorem Rp.stp (r : Rm K H A M) (s : Stp H A H' A') : ∀ {v : V} {d : D}, Rp K H A v d → Rp K H' A' v d
  | _, _, .non => .non
  | _, _, .bl b => .bl b
  | _, _, .int b => .int b
  | _, _, .str b => .str b
  | _, _, .tup h l => .tup (sqT_stp r s h) (RpL.stp r s l)
  | _, _, .lst h => .lst (s.get h)
  | _, _, .scr h => .scr (sqF_stp r s h)
theorem RpL.stp (r : Rm K H A M) (s : Stp H A H' A') : ∀ {v : List V} {d : List D}, RpL K H A v d → RpL K H' A' v d
  | _, _, .nil => .nil
  | _, _, .cons h l => .cons (Rp.stp r s h) (RpL.stp r s l)
end
theorem RpL.length : ∀ {vs : List V} {ds : List D}, RpL K H A vs ds → vs.length = ds.length
  | _, _, .nil => rfl
  | _, _, .cons _ l => congrArg (· + 1) (RpL.length l)
theorem RpL.get : ∀ {vs : List V} {ds : List D} {i : Nat} {d : D}, RpL K H A vs ds → ds[i]? = some d → ∃ v, vs[i]? = some v ∧ Rp K H A v d
  | _, _, i, _, .nil, e => by simp at e
  | _, _, 0, _, .cons h _, e => by simp at e; subst e; exact ⟨_, rfl, h⟩
  | _, _, i + 1, d, .cons _ l, e => by
    obtain ⟨v, h1, h2⟩ := RpL.get (i := i) (d := d) l (by simpa using e)
    exact ⟨v, by simpa using h1, h2⟩
theorem RpL.get' : ∀ {vs : List V} {ds : List D} {i : Nat} {v : V}, RpL K H A vs ds → vs[i]? = some v → ∃ d, ds[i]? = some d ∧ Rp K H A v d
  | _, _, i, _, .nil, e => by simp at e
  | _, _, 0, _, .cons h _, e => by simp at e; subst e; exact ⟨_, rfl, h⟩
  | _, _, i + 1, d, .cons _ l, e => by
    obtain ⟨v, h1, h2⟩ := RpL.get' (i := i) (v := d) l (by simpa using e)
    exact ⟨v, by simpa using h1, h2⟩
theorem RpL.append : ∀ {vs ws : List V} {ds es : List D}, RpL K H A vs ds → RpL K H A ws es → RpL K H A (vs ++ ws) (ds ++ es)
  | _, _, _, _, .nil, l => l
  | _, _, _, _, .cons h l, m => .cons h (RpL.append l m)
theorem RpL.drop : ∀ {vs : List V} {ds : List D} (n : Nat), RpL K H A vs ds → RpL K H A (vs.drop n) (ds.drop n)
  | _, _, 0, l => l
  | _, _, _ + 1, .nil => .nil
  | _, _, n + 1, .cons _ l => RpL.drop n l
theorem RpL.take : ∀ {vs : List V} {ds : List D} (n : Nat), RpL K H A vs ds → RpL K H A (vs.take n) (ds.take n)
  | _, _, 0, l => .nil
  | _, _, _ + 1, .nil => .nil
  | _, _, n + 1, .cons h l => .cons h (RpL.take n l)
theorem RpL.set {v : V} {d : D} (h : Rp K H A v d) : ∀ {vs : List V} {ds : List D} (n : Nat), RpL K H A vs ds → RpL K H A (vs.set n v) (ds.set n d)
  | _, _, _, .nil => .nil
  | _, _, 0, .cons _ l => .cons h l
  | _, _, n + 1, .cons q l => .cons q (RpL.set h n l)
theorem RpL.eraseIdx : ∀ {vs : List V} {ds : List D} (n : Nat), RpL K H A vs ds → RpL K H A (vs.eraseIdx n) (ds.eraseIdx n)
  | _, _, _, .nil => .nil
  | _, _, 0, .cons _ l => l
  | _, _, n + 1, .cons q l => .cons q (RpL.eraseIdx n l)
theorem RpL.dropLast : ∀ {vs : List V} {ds : List D}, RpL K H A vs ds → RpL K H A vs.dropLast ds.dropLast
  | _, _, .nil => .nil
  | _, _, .cons _ .nil => .nil
  | _, _, .cons q (.cons q' l) => .cons q (RpL.dropLast (.cons q' l))
theorem RpL.reverse : ∀ {vs : List V} {ds : List D}, RpL K H A vs ds → RpL K H A vs.reverse ds.reverse
  | _, _, .nil => .nil
  | _, _, .cons q l => by
    rw [List.reverse_cons, List.reverse_cons]
    exact RpL.append (RpL.reverse l) (.cons q .nil)
theorem RpL.ints : ∀ (ns : List Int), RpL K H A (ns.map V.int) (ns.map D.int)
  | [] => .nil
  | _ :: r => .cons (.int _) (RpL.ints r)
theorem RpL.bls : ∀ (ns : List Bool), RpL K H A (ns.map V.bl) (ns.map D.bl)
  | [] => .nil
  | _ :: r => .cons (.bl _) (RpL.bls r)
theorem RpL.of_ints : ∀ {ns : List Int} {vs : List V}, RpL K H A vs (ns.map D.int) → vs = ns.map V.int
  | [], _, .nil => rfl
  | _ :: r, _, .cons (.int _) l => by rw [RpL.of_ints l]; rfl
theorem RpL.of_bls : ∀ {ns : List Bool} {vs : List V}, RpL K H A vs (ns.map D.bl) → vs = ns.map V.bl
  | [], _, .nil => rfl
  | _ :: r, _, .cons (.bl _) l => by rw [RpL.of_bls l]; rfl

/-! a new tuple, a new list, a list changed -/
theorem stp_upd (r : Rm K H A M) {p : Addr} {o : HO} (hp : H p = none) : Stp H A (upd H p o) A :=
  ⟨⟨[], by simp⟩, fun b u e n => ⟨by rw [upd_ne (ne_of_none e hp)]; exact e, n⟩⟩
theorem stp_new (r : Rm K H A M) {p : Addr} {vs : List V} (hp : H p = none) : Stp H A (upd H p (.lst vs)) (A ++ [p]) :=
  ⟨⟨[p], rfl⟩, fun b u e n => ⟨by rw [upd_ne (ne_of_none e hp)]; exact e, fun z => by
    rcases List.mem_append.mp z with z | z
    · exact n z
    · exact ne_of_none e hp (by simpa using z)⟩⟩
theorem rm_upd (r : Rm K H A M) {p : Addr} {o : HO} (hp : H p = none) : Rm K (upd H p o) A M :=
  ⟨r.len, r.nd, fun n ds e => by
    obtain ⟨a, vs, h1, h2, h3⟩ := r.at_ n ds e
    exact ⟨a, vs, h1, by rw [upd_ne (ne_of_none h2 hp)]; exact h2, h3.stp r (stp_upd r hp)⟩⟩
theorem rm_new (r : Rm K H A M) {p : Addr} {vs : List V} {ds : List D} (hp : H p = none) (h : RpL K H A vs ds) : Rm K (upd H p (.lst vs)) (A ++ [p]) (M ++ [ds]) := by
  have s := stp_new r (vs := vs) hp
  refine ⟨by simp [r.len], ?_, fun n es e => ?_⟩
  · rw [List.nodup_append]
    refine ⟨r.nd, by simp, fun a ha b hb => ?_⟩
    have hb' : b = p := by simpa using hb
    subst hb'
    exact fun z => r.fresh hp (z ▸ ha)
  · by_cases hn : n < M.length
    · rw [List.getElem?_append_left hn] at e
      obtain ⟨a, ws, h1, h2, h3⟩ := r.at_ n es e
      exact ⟨a, ws, s.get h1, by rw [upd_ne (ne_of_none h2 hp)]; exact h2, h3.stp r s⟩
    · have e' := e
      rw [List.getElem?_append_right (Nat.le_of_not_lt hn)] at e'
      have hn' : n - M.length = 0 := by
        have := (List.getElem?_eq_some_iff.mp e').1
        simpa using this
      rw [hn'] at e'
      simp only [List.getElem?_cons_zero, Option.some.injEq] at e'
      subst e'
      refine ⟨p, vs, ?_, upd_same, h.stp r s⟩
      rw [List.getElem?_append_right (by rw [r.len]; omega), r.len, hn']
      rfl
theorem stp_write (r : Rm K H A M) {n : Nat} {a : Addr} {vs : List V} (ha : A[n]? = some a) : Stp H A (upd H a (.lst vs)) A :=
  ⟨⟨[], by simp⟩, fun b u e nb => ⟨by rw [upd_ne (show b ≠ a from fun z => nb (by rw [z]; exact List.mem_of_getElem? ha))]; exact e, nb⟩⟩
theorem rm_write (r : Rm K H A M) {n : Nat} {a : Addr} {vs : List V} {ds : List D} (ha : A[n]? = some a) (h : RpL K H A vs ds) : Rm K (upd H a (.lst vs)) A (M.set n ds) := by
  have s := stp_write r (vs := vs) ha
  have hn : n < M.length := by rw [← r.len]; exact (List.getElem?_eq_some_iff.mp ha).1
  refine ⟨by simp [r.len], r.nd, fun m es e => ?_⟩
  by_cases hm : m = n
  · subst hm
    rw [List.getElem?_set_self hn] at e
    cases e
    exact ⟨a, vs, ha, upd_same, h.stp r s⟩
  · rw [List.getElem?_set_ne (Ne.symm hm)] at e
    obtain ⟨b, ws, h1, h2, h3⟩ := r.at_ m es e
    refine ⟨b, ws, h1, ?_, h3.stp r s⟩
    rw [upd_ne (show b ≠ a from fun z => hm (nd_ix r.nd h1 (by rw [z]; exact ha)))]
    exact h2
theorem Rm.list (r : Rm K H A M) {n : Nat} {a : Addr} {ds : List D} (ha : A[n]? = some a) (e : M[n]? = some ds) : ∃ vs, H a = some (.lst vs) ∧ RpL K H A vs ds := by
  obtain ⟨b, vs, h1, h2, h3⟩ := r.at_ n ds e
  rw [ha] at h1; cases h1
  exact ⟨vs, h2, h3⟩
end

/-! data as a whole -/
mutual
inductive PD (M : Mem) : D → PyData → Prop
  | non : PD M .non .none
  | bl (b : Bool) : PD M (.bl b) (.bool b)
  | int (i : Int) : PD M (.int i) (.int i)
  | str (s : Str) : PD M (.str s) (.str s)
  | tup {ds : List D} {ps : List PyData} : PDL M ds ps → PD M (.tup ds) (.tuple ps)
  | lst {n : Nat} {ds : List D} {ps : List PyData} : M[n]? = some ds → PDL M ds ps → PD M (.lst n) (.list ps)
inductive PDL (M : Mem) : List D → List PyData → Prop
  | nil : PDL M [] []
  | cons {d : D} {ds : List D} {p : PyData} {ps : List PyData} : PD M d p → PDL M ds ps → PDL M (d :: ds) (p :: ps)
end
section
variable {K : Frg} {H : Hp} {A : List Addr} {M : Mem}
mutual
theorem PD.dp (r : Rm K H A M) : ∀ {d : D} {p : PyData} {v : V}, PD M d p → Rp K H A v d → Dp K H v p
  | _, _, _, .non, .non => .non
  | _, _, _, .bl b, .bl _ => .bl b
  | _, _, _, .int b, .int _ => .int b
  | _, _, _, .str b, .str _ => .str b
  | _, _, _, .tup l, .tup h q => .tup h (PDL.dp r l q)
  | _, _, _, .lst e l, .lst h => by
    obtain ⟨vs, h2, h3⟩ := r.list h e
    exact .lst (SqL.of h2) (PDL.dp r l h3)
theorem PDL.dp (r : Rm K H A M) : ∀ {d : List D} {p : List PyData} {v : List V}, PDL M d p → RpL K H A v d → DpAll K H v p
  | _, _, _, .nil, .nil => .nil
  | _, _, _, .cons q l, .cons h m => .cons (PD.dp r q h) (PDL.dp r l m)
end
end
end DL

set_option Elab.async false
set_option linter.all false
set_option maxRecDepth 100000
set_option maxHeartbeats 4000000
namespace DL
open PySem L2

/-! the small language: names by slots, no places -/
inductive BF where
  | len | abs | max | min | sum | all | any | repr | str | int | list | tuple | sset
  deriving DecidableEq
inductive MF where
  | append | pop | extend | insert | index | count
  deriving DecidableEq
inductive IE where
  | var (i : Nat) | int (n : Int) | bl (b : Bool) | str (s : Str) | non
  | bin (op : Operator) (a b : IE) | neg (a : IE) | not (a : IE)
  | and (a b : IE) | or (a b : IE) | one (a : IE)
  | cmp (op : CmpOp) (a b : IE) | chn (op op' : CmpOp) (a b c : IE)
  | ite (t a b : IE)
  | tup (xs : IE) | lst (xs : IE) | nil | cons (a r : IE)
  | ix (a i : IE) | sl (a lo hi : IE) | rev (a : IE)
  | isi (a : IE) (T : List String)
  | blt (f : BF) (xs : IE) | mth (m : MF) (o xs : IE) | call (f : String) (xs : IE)
  | comp (elt : IE) (vs : List Nat) (tg : List Nat) (it cond : IE)
  | rng1 (a : IE) | rng2 (a b : IE) | zip (a b : IE) | enum (a : IE)
inductive IG where
  | v (i : Nat) | t (xs : IG) | nil | cons (a r : IG) | sub (o i : IE)
inductive IS where
  | skip | seq (s r : IS)
  | asg (g : IG) (e : IE) | par (is : List Nat) (xs : IE) | aug (i : Nat) (op : Operator) (e : IE)
  | ex (e : IE) | ret (e : IE) | retn | pass | brk | cnt
  | ite (t : IE) (a b : IS) | whl (t : IE) (b : IS) | for_ (g : IG) (it : IE) (b : IS)

abbrev En := List (Option D)
abbrev Kn := D → Mem → Prop
abbrev DSpec := List D → Mem → Kn → Prop
abbrev Gam := String → DSpec
structure DE where
  nx : En → Mem → Prop
  rt : Kn
  bk : En → Mem → Prop := fun _ _ => False
  ct : En → Mem → Prop := fun _ _ => False

def getV : En → Nat → Option D
  | [], _ => none
  | x :: _, 0 => x
  | _ :: r, n + 1 => getV r n
def setV : En → Nat → D → En
  | [], _, _ => []
  | _ :: r, 0, d => some d :: r
  | x :: r, n + 1, d => x :: setV r n d
def wipeV : En → Nat → En
  | [], _ => []
  | _ :: r, 0 => none :: r
  | x :: r, n + 1 => x :: wipeV r n
def wipesV (ρ : En) : List Nat → En
  | [] => ρ
  | v :: vs => wipeV (wipesV ρ vs) v
def onV {α : Type} (o : Option α) (Q : α → Prop) : Prop := match o with
  | some d => Q d
  | none => False
theorem onV_some {α : Type} (d : α) (Q : α → Prop) : onV (some d) Q = Q d := rfl
theorem onV_none {α : Type} (Q : α → Prop) : onV none Q = False := rfl
theorem onV_ex {α : Type} {o : Option α} {Q : α → Prop} (h : onV o Q) : ∃ d, o = some d ∧ Q d := by
  cases o with
  | none => exact h.elim
  | some d => exact ⟨d, rfl, h⟩

/-- what a list, a tuple, the script holds -/
def seqOf (M : Mem) : D → Option (List D)
  | .lst n => M[n]?
  | .tup xs => some xs
  | .scr ns => some (ns.map D.int)
  | _ => none

/-! operations -/
def isOk (M : Mem) (x y : D) (Q : Bool → Prop) : Prop := ∃ p q, PD M x p ∧ PD M y q ∧ SeqAt.shaped p = true ∧ SeqAt.shaped q = true ∧ Q (PyData.eqv p q)
def eqD (x y : D) (M : Mem) (Q : Bool → Prop) : Prop := match x, y with
  | .int i, .int j => Q (decide (i = j))
  | .bl i, .bl j => Q (decide (i = j))
  | .non, .non => Q true
  | .str a, .str b => Q (decide (a = b))
  | x, y => isOk M x y Q
def isNon : D → Bool
  | .non => true
  | _ => false
def cmpD (op : CmpOp) (x y : D) (M : Mem) (Q : Kn) : Prop := match op with
  | .Eq => eqD x y M fun b => Q (.bl b) M
  | .NotEq => eqD x y M fun b => Q (.bl (!b)) M
  | .Lt => (match x, y with | .int i, .int j => Q (.bl (decide (i < j))) M | _, _ => False)
  | .LtE => (match x, y with | .int i, .int j => Q (.bl (decide (i ≤ j))) M | _, _ => False)
  | .Gt => (match x, y with | .int i, .int j => Q (.bl (decide (j < i))) M | _, _ => False)
  | .GtE => (match x, y with | .int i, .int j => Q (.bl (decide (j ≤ i))) M | _, _ => False)
  | .Is => (match y with | .non => Q (.bl (isNon x)) M | _ => False)
  | .IsNot => (match y with | .non => Q (.bl (!isNon x)) M | _ => False)
  | .In => ∃ xs p ps, seqOf M y = some xs ∧ PD M x p ∧ PDL M xs ps ∧ SeqAt.shaped p = true ∧ SeqAt.shaped (.list ps) = true ∧ Q (.bl (ps.any fun z => PyData.eqv z p)) M
  | .NotIn => ∃ xs p ps, seqOf M y = some xs ∧ PD M x p ∧ PDL M xs ps ∧ SeqAt.shaped p = true ∧ SeqAt.shaped (.list ps) = true ∧ Q (.bl (!ps.any fun z => PyData.eqv z p)) M
def lg (i : Int) : Nat := i.natAbs.log2
def b2 (b : Bool) : Int := if b = true then 1 else 0
def binD (op : Operator) (x y : D) (M : Mem) (Q : Kn) : Prop := match op, x, y with
  | .Add, .int i, .int j => Q (.int (i + j)) M
  | .Add, .str i, .str j => i.length + j.length ≤ sizeLine ∧ Q (.str (i ++ j)) M
  | .Add, .tup xs, .tup ys => xs.length + ys.length ≤ sizeLine ∧ Q (.tup (xs ++ ys)) M
  | .Add, .lst a, .lst b => onV M[a]? fun xs => onV M[b]? fun ys => xs.length + ys.length ≤ sizeLine ∧ Q (.lst M.length) (M ++ [xs ++ ys])
  | .Add, .bl i, .int j => Q (.int (b2 i + j)) M
  | .Sub, .int i, .int j => Q (.int (i - j)) M
  | .Sub, .bl i, .int j => Q (.int (b2 i - j)) M
  | .Sub, .int i, .bl j => Q (.int (i - b2 j)) M
  | .Mult, .int i, .int j => lg i + lg j < 1000000 ∧ Q (.int (i * j)) M
  | .FloorDiv, .int i, .int j => j ≠ 0 ∧ lg j < 9000 ∧ Q (.int (i.fdiv j)) M
  | .Mult, .int i, .bl j => Q (.int (i * b2 j)) M
  | .Mod, .bl i, .int j => j ≠ 0 ∧ Q (.int ((b2 i).fmod j)) M
  | .Mod, .int i, .int j => j ≠ 0 ∧ Q (.int (i.fmod j)) M
  | .Pow, .int i, .int j => 0 ≤ j ∧ j ≤ 1000000 ∧ i.natAbs < 2 ^ 64 ∧ Q (.int (i ^ j.toNat)) M
  | _, _, _ => False
def atD (xs : List D) (k : Int) : Option D := (ixN xs.length k).bind fun j => xs[j]?
def ixD (x i : D) (M : Mem) (Q : Kn) : Prop := onV (seqOf M x) fun xs => match i with
  | .int k => onV (atD xs k) fun v => Q v M
  | _ => False
def optI : D → Option Int
  | .int i => some i
  | _ => none
def cutD (xs : List D) (lo hi : Option Int) : List D := (xs.drop (HT.sIx xs.length 0 lo)).take (HT.sIx xs.length xs.length hi - HT.sIx xs.length 0 lo)
def slD (x : D) (lo hi : Option Int) (M : Mem) (Q : Kn) : Prop := match x with
  | .lst n => onV M[n]? fun xs => Q (.lst M.length) (M ++ [cutD xs lo hi])
  | .tup xs => Q (.tup (cutD xs lo hi)) M
  | .scr ns => Q (.lst M.length) (M ++ [cutD (ns.map D.int) lo hi])
  | _ => False
def revD (x : D) (M : Mem) (Q : Kn) : Prop := match x with
  | .lst n => onV M[n]? fun xs => Q (.lst M.length) (M ++ [xs.reverse])
  | .tup xs => Q (.tup xs.reverse) M
  | _ => False
/-- isinstance by the written class -/
def tyD : D → Option String
  | .non => some "NoneType"
  | .bl _ => some "bool"
  | .int _ => some "int"
  | .str _ => some "str"
  | .tup _ => some "tuple"
  | .lst _ => some "list"
  | .scr _ => none
def isIn (t c : String) : Bool := c == t || (t == "bool" && c == "int")
def isiD (T : List String) (d : D) : Option Bool := match tyD d with
  | some t => some (T.any (isIn t))
  | none => none
def lexLe : List Int → List Int → Prop
  | [], _ => True
  | _ :: _, [] => False
  | x :: xs, y :: ys => x < y ∨ (x = y ∧ lexLe xs ys)
def ptOf (ns : List Int) : D := .tup (ns.map D.int)
def bfD (f : BF) (xs : List D) (M : Mem) (Q : Kn) : Prop := match f, xs with
  | .len, [x] => (match x with | .str s => s.length ≤ sizeLine ∧ Q (.int s.length) M | x => onV (seqOf M x) fun ys => Q (.int ys.length) M)
  | .abs, [.int i] => Q (.int (if i < 0 then -i else i)) M
  | .max, [.int i, .int j] => Q (.int (if j > i then j else i)) M
  | .min, [.int i, .int j] => Q (.int (if j < i then j else i)) M
  | .max, [.lst n] => ∃ ns : List Int, M[n]? = some (ns.map D.int) ∧ 0 < ns.length ∧ ∀ m, m ∈ ns → (∀ y, y ∈ ns → y ≤ m) → Q (.int m) M
  | .min, [.lst n] => ∃ ns : List Int, M[n]? = some (ns.map D.int) ∧ 0 < ns.length ∧ ∀ m, m ∈ ns → (∀ y, y ∈ ns → m ≤ y) → Q (.int m) M
  | .sum, [.lst n] => ∃ ns : List Int, M[n]? = some (ns.map D.int) ∧ Q (.int ns.sum) M
  | .all, [.lst n] => ∃ ns : List Bool, M[n]? = some (ns.map D.bl) ∧ Q (.bl (ns.all id)) M
  | .any, [.lst n] => ∃ ns : List Bool, M[n]? = some (ns.map D.bl) ∧ Q (.bl (ns.any id)) M
  | .repr, [x] => ∃ p, PD M x p ∧ p.showable = true ∧ p.hasDict = false ∧ p.depth ≤ 50 ∧ p.shown.length ≤ sizeLine ∧ Q (.str p.shown) M
  | .str, [.int i] => lg i < 1920 ∧ Q (.str (toString i)) M
  | .int, [.int i] => Q (.int i) M
  | .int, [.bl b] => Q (.int (if b then 1 else 0)) M
  | .list, [x] => onV (seqOf M x) fun ys => Q (.lst M.length) (M ++ [ys])
  | .tuple, [x] => onV (seqOf M x) fun ys => Q (.tup ys) M
  | .sset, [x] => ∃ (ls : List (List Int)) (d : Nat) (B : Int), seqOf M x = some (ls.map ptOf) ∧ ls.length < 64 ∧ 1 ≤ d ∧ (∀ l ∈ ls, l.length = d ∧ TS.Bd B l) ∧
      ∀ ms : List (List Int), ms.Nodup → ms.length < 64 → (∀ l, l ∈ ms ↔ l ∈ ls) → ms.Pairwise (fun p q => TS.code B p ≤ TS.code B q) → Q (.lst M.length) (M ++ [ms.map ptOf])
  | _, _ => False
def mfD (m : MF) (o : D) (xs : List D) (M : Mem) (Q : Kn) : Prop := match m, o, xs with
  | .append, .lst n, [x] => onV M[n]? fun ys => ys.length < sizeLine ∧ Q .non (M.set n (ys ++ [x]))
  | .extend, .lst n, [.lst k] => onV M[n]? fun ys => onV M[k]? fun zs => ys.length + zs.length ≤ sizeLine ∧ Q .non (M.set n (ys ++ zs))
  | .pop, .lst n, [] => onV M[n]? fun ys => onV ys[ys.length - 1]? fun y => Q y (M.set n ys.dropLast)
  | .pop, .lst n, [.int i] => onV M[n]? fun ys => 0 ≤ i ∧ i < ys.length ∧ ys.length < 2 ^ 62 ∧ onV ys[i.toNat]? fun y => Q y (M.set n (ys.eraseIdx i.toNat))
  | .insert, .lst n, [.int i, x] => onV M[n]? fun ys => ys.length < sizeLine ∧ 0 ≤ i ∧ i < 2 ^ 63 ∧ Q .non (M.set n (ys.take i.toNat ++ [x] ++ ys.drop i.toNat))
  | _, _, _ => False

/-! what a loop walks -/
inductive Src where
  | val (d : D) | rng (lo : Int) (n : Nat) | zip (a b : D) | enum (a : D)
def pr (x y : D) : D := .tup [x, y]
def rngD (lo : Int) : Nat → List D
  | 0 => []
  | n + 1 => .int lo :: rngD (lo + 1) n
def enumD (i : Int) : List D → List D
  | [] => []
  | x :: r => pr (.int i) x :: enumD (i + 1) r
def items (M : Mem) : Src → Option (List D)
  | .val d => seqOf M d
  | .rng lo n => some (rngD lo n)
  | .zip a b => match seqOf M a, seqOf M b with
    | some xs, some ys => some (List.zipWith pr xs ys)
    | _, _ => none
  | .enum a => match seqOf M a with
    | some xs => some (enumD 0 xs)
    | none => none

def setsV : En → List Nat → List D → Option En
  | ρ, [], [] => some ρ
  | ρ, i :: is, d :: ds => setsV (setV ρ i d) is ds
  | _, _, _ => none
/-- the target of a comprehension: one name, or a tuple of names -/
def tgV (tg : List Nat) (x : D) (ρ : En) (Q : En → Prop) : Prop := match tg with
  | [i] => Q (setV ρ i x)
  | is => match x with
    | .tup ds => (match setsV ρ is ds with | some ρ' => Q ρ' | none => False)
    | _ => False

mutual
def wpE (G : Gam) : IE → En → Mem → Kn → Prop
  | .var i, ρ, M, Q => onV (getV ρ i) fun d => Q d M
  | .int n, _, M, Q => Q (.int n) M
  | .bl b, _, M, Q => Q (.bl b) M
  | .str s, _, M, Q => Q (.str s) M
  | .non, _, M, Q => Q .non M
  | .bin op a b, ρ, M, Q => wpE G a ρ M fun x M1 => wpE G b ρ M1 fun y M2 => binD op x y M2 Q
  | .neg a, ρ, M, Q => wpE G a ρ M fun x M1 => ∃ i, x = .int i ∧ Q (.int (-i)) M1
  | .not a, ρ, M, Q => wpE G a ρ M fun x M1 => ∃ c, x = .bl c ∧ Q (.bl (!c)) M1
  | .and a b, ρ, M, Q => wpE G a ρ M fun x M1 => ∃ c, x = .bl c ∧ if c = true then wpE G b ρ M1 Q else Q (.bl false) M1
  | .or a b, ρ, M, Q => wpE G a ρ M fun x M1 => ∃ c, x = .bl c ∧ if c = true then Q (.bl true) M1 else wpE G b ρ M1 Q
  | .one a, ρ, M, Q => wpE G a ρ M Q
  | .cmp op a b, ρ, M, Q => wpE G a ρ M fun x M1 => wpE G b ρ M1 fun y M2 => cmpD op x y M2 Q
  | .chn op op' a b c, ρ, M, Q => wpE G a ρ M fun x M1 => wpE G b ρ M1 fun y M2 => cmpD op x y M2 fun t M3 => ∃ k, t = .bl k ∧
      if k = true then wpE G c ρ M3 fun z M4 => cmpD op' y z M4 Q else Q (.bl false) M3
  | .ite t a b, ρ, M, Q => wpT G t ρ M fun c M1 => if c = true then wpE G a ρ M1 Q else wpE G b ρ M1 Q
  | .tup xs, ρ, M, Q => wpA G xs ρ M fun ds M1 => ds.length ≤ sizeLine ∧ Q (.tup ds) M1
  | .lst xs, ρ, M, Q => wpA G xs ρ M fun ds M1 => ds.length ≤ sizeLine ∧ Q (.lst M1.length) (M1 ++ [ds])
  | .nil, _, _, _ => False
  | .cons _ _, _, _, _ => False
  | .ix a i, ρ, M, Q => wpE G a ρ M fun x M1 => wpE G i ρ M1 fun y M2 => ixD x y M2 Q
  | .sl a lo hi, ρ, M, Q => wpE G a ρ M fun x M1 => wpO G lo ρ M1 fun l M2 => wpO G hi ρ M2 fun h M3 => slD x l h M3 Q
  | .rev a, ρ, M, Q => wpE G a ρ M fun x M1 => revD x M1 Q
  | .isi a T, ρ, M, Q => wpE G a ρ M fun x M1 => ∃ b, isiD T x = some b ∧ Q (.bl b) M1
  | .blt f xs, ρ, M, Q => wpA G xs ρ M fun ds M1 => bfD f ds M1 Q
  | .mth m o xs, ρ, M, Q => wpE G o ρ M fun x M1 => (∃ n, x = .lst n) ∧ wpA G xs ρ M1 fun ds M2 => mfD m x ds M2 Q
  | .call f xs, ρ, M, Q => wpA G xs ρ M fun ds M1 => G f ds M1 Q
  | .comp elt vs tg it cond, ρ, M, Q => wpI G it ρ M fun src M1 => ∃ xs, items M1 src = some xs ∧ xs.length < sizeLine ∧ ∃ Pv : Nat → List D → Mem → Prop, Pv 0 [] M1 ∧
      (∀ i acc M, i ≤ xs.length → Pv i acc M → acc.length ≤ i ∧ items M src = some xs) ∧
      (∀ i x acc M, xs[i]? = some x → Pv i acc M → tgV tg x (wipesV ρ vs) fun ρ' => wpC G cond ρ' M fun b M2 =>
        if b = true then wpE G elt ρ' M2 fun y M3 => Pv (i + 1) (acc ++ [y]) M3 else Pv (i + 1) acc M2) ∧
      ∀ acc M, Pv xs.length acc M → Q (.lst M.length) (M ++ [acc])
  | .rng1 _, _, _, _ => False
  | .rng2 _ _, _, _, _ => False
  | .zip _ _, _, _, _ => False
  | .enum _, _, _, _ => False
def wpT (G : Gam) : IE → En → Mem → (Bool → Mem → Prop) → Prop
  | .not a, ρ, M, Q => wpT G a ρ M fun c M1 => Q (!c) M1
  | .and a b, ρ, M, Q => wpT G a ρ M fun c M1 => if c = true then wpT G b ρ M1 Q else Q false M1
  | .or a b, ρ, M, Q => wpT G a ρ M fun c M1 => if c = true then Q true M1 else wpT G b ρ M1 Q
  | .one a, ρ, M, Q => wpT G a ρ M Q
  | .cmp op a b, ρ, M, Q => wpE G a ρ M fun x M1 => wpE G b ρ M1 fun y M2 => cmpD op x y M2 fun d M3 => ∃ c, d = .bl c ∧ Q c M3
  | .chn op op' a b c, ρ, M, Q => wpE G a ρ M fun x M1 => wpE G b ρ M1 fun y M2 => cmpD op x y M2 fun t M3 => ∃ k, t = .bl k ∧
      if k = true then wpE G c ρ M3 fun z M4 => cmpD op' y z M4 fun d M5 => ∃ c, d = .bl c ∧ Q c M5 else Q false M3
  | .var i, ρ, M, Q => onV (getV ρ i) fun d => ∃ c, d = .bl c ∧ Q c M
  | .isi a T, ρ, M, Q => wpE G a ρ M fun x M1 => ∃ b, isiD T x = some b ∧ ∃ c, D.bl b = .bl c ∧ Q c M1
  | .blt f xs, ρ, M, Q => wpA G xs ρ M fun ds M1 => bfD f ds M1 fun d M2 => ∃ c, d = .bl c ∧ Q c M2
  | .call f xs, ρ, M, Q => wpA G xs ρ M fun ds M1 => G f ds M1 fun d M2 => ∃ c, d = .bl c ∧ Q c M2
  | _, _, _, _ => False
def wpC (G : Gam) : IE → En → Mem → (Bool → Mem → Prop) → Prop
  | .nil, _, M, Q => Q true M
  | .cons t _, ρ, M, Q => wpT G t ρ M Q
  | _, _, _, _ => False
def wpA (G : Gam) : IE → En → Mem → (List D → Mem → Prop) → Prop
  | .nil, _, M, Q => Q [] M
  | .cons a r, ρ, M, Q => wpE G a ρ M fun x M1 => wpA G r ρ M1 fun xs M2 => Q (x :: xs) M2
  | _, _, _, _ => False
def wpO (G : Gam) : IE → En → Mem → (Option Int → Mem → Prop) → Prop
  | .nil, _, M, Q => Q none M
  | .cons a _, ρ, M, Q => wpE G a ρ M fun x M1 => ∃ i, x = .int i ∧ Q (some i) M1
  | _, _, _, _ => False
def wpI (G : Gam) : IE → En → Mem → (Src → Mem → Prop) → Prop
  | .rng1 a, ρ, M, Q => wpE G a ρ M fun x M1 => ∃ j, x = .int j ∧ (-(2 ^ 62) ≤ j ∧ j < 2 ^ 62) ∧ Q (.rng 0 j.toNat) M1
  | .rng2 a b, ρ, M, Q => wpE G a ρ M fun x M1 => wpE G b ρ M1 fun y M2 => ∃ i j, x = .int i ∧ y = .int j ∧ (-(2 ^ 62) ≤ i ∧ i < 2 ^ 62 ∧ -(2 ^ 62) ≤ j ∧ j < 2 ^ 62) ∧ Q (.rng i (j - i).toNat) M2
  | .zip a b, ρ, M, Q => wpE G a ρ M fun x M1 => wpE G b ρ M1 fun y M2 => Q (.zip x y) M2
  | .enum a, ρ, M, Q => wpE G a ρ M fun x M1 => Q (.enum x) M1
  | .cons a _, ρ, M, Q => wpE G a ρ M fun x M1 => Q (.val x) M1 ∧ ∃ xs, seqOf M1 x = some xs
  | _, _, _, _ => False
end

def lenG : IG → Nat
  | .cons _ r => lenG r + 1
  | _ => 0
def setIxD (o i v : D) (M : Mem) (Q : Mem → Prop) : Prop := match o, i with
  | .lst n, .int k => onV M[n]? fun xs => onV (ixN xs.length k) fun j => Q (M.set n (xs.set j v))
  | _, _ => False
mutual
def wpG (G : Gam) : IG → D → En → Mem → (En → Mem → Prop) → Prop
  | .v i, d, ρ, M, Q => Q (setV ρ i d) M
  | .t xs, d, ρ, M, Q => ∃ ds, (d = .tup ds ∨ ∃ n, d = .lst n ∧ M[n]? = some ds) ∧ ds.length = lenG xs ∧ wpGs G xs ds ρ M Q
  | .sub o i, d, ρ, M, Q => wpE G o ρ M fun x M1 => wpE G i ρ M1 fun y M2 => setIxD x y d M2 fun M3 => Q ρ M3
  | _, _, _, _, _ => False
def wpGs (G : Gam) : IG → List D → En → Mem → (En → Mem → Prop) → Prop
  | .nil, [], ρ, M, Q => Q ρ M
  | .cons a r, d :: ds, ρ, M, Q => wpG G a d ρ M fun ρ1 M1 => wpGs G r ds ρ1 M1 Q
  | _, _, _, _, _ => False
end
def wpS (G : Gam) : IS → DE → En → Mem → Prop
  | .skip, E, ρ, M => E.nx ρ M
  | .seq s r, E, ρ, M => wpS G s { E with nx := fun ρ1 M1 => wpS G r E ρ1 M1 } ρ M
  | .asg g e, E, ρ, M => wpE G e ρ M fun d M1 => wpG G g d ρ M1 E.nx
  | .par is xs, E, ρ, M => wpA G xs ρ M fun ds M1 => (match setsV ρ is ds with | some ρ' => E.nx ρ' M1 | none => False)
  | .aug i op e, E, ρ, M => onV (getV ρ i) fun x => wpE G e ρ M fun y M1 => ∃ a b, x = .int a ∧ y = .int b ∧ binD op x y M1 fun z M2 => E.nx (setV ρ i z) M2
  | .ex e, E, ρ, M => wpE G e ρ M fun _ M1 => E.nx ρ M1
  | .ret e, E, ρ, M => wpE G e ρ M E.rt
  | .retn, E, _, M => E.rt .non M
  | .pass, E, ρ, M => E.nx ρ M
  | .brk, E, ρ, M => E.bk ρ M
  | .cnt, E, ρ, M => E.ct ρ M
  | .ite t a b, E, ρ, M => wpT G t ρ M fun c M1 => if c = true then wpS G a E ρ M1 else wpS G b E ρ M1
  | .whl t b, E, ρ, M => ∃ W : Nat → En → Mem → Prop, (∃ m, W m ρ M) ∧ ∀ m ρ M, W m ρ M → wpT G t ρ M fun c M1 =>
      if c = true then wpS G b { nx := fun ρ' M' => ∃ m', m' < m ∧ W m' ρ' M', rt := E.rt, bk := E.nx, ct := fun ρ' M' => ∃ m', m' < m ∧ W m' ρ' M' } ρ M1 else E.nx ρ M1
  | .for_ g it b, E, ρ, M => wpI G it ρ M fun src M1 => ∃ xs, items M1 src = some xs ∧ ∃ Pv : Nat → En → Mem → Prop, Pv 0 ρ M1 ∧
      (∀ i ρ M, i ≤ xs.length → Pv i ρ M → items M src = some xs) ∧
      (∀ i x ρ M, xs[i]? = some x → Pv i ρ M → wpG G g x ρ M fun ρ' M' => wpS G b { nx := Pv (i + 1), rt := E.rt, bk := E.nx, ct := Pv (i + 1) } ρ' M') ∧
      ∀ ρ M, Pv xs.length ρ M → E.nx ρ M
end DL

set_option Elab.async false
set_option linter.all false
set_option maxRecDepth 100000
set_option maxHeartbeats 4000000
namespace DL
open PySem L2 PySem.Spec PyProof.Rows

/-- the wish of data, lifted to values -/
abbrev Lf (K : Frg) (H : Hp) (A : List Addr) (Q : Kn) (κ : VK) : Prop := ∀ d M' v H' A', Q d M' → Stp H A H' A' → Rm K H' A' M' → Rp K H' A' v d → κ v H'
section
variable {K : Frg} {H H' : Hp} {A A' : List Addr} {M : Mem} {Q : Kn} {κ : VK}
theorem Lf.stp (l : Lf K H A Q κ) (s : Stp H A H' A') : Lf K H' A' Q κ := fun d M' v H2 A2 q t m r => l d M' v H2 A2 q (s.trans t) m r
theorem Lf.now (l : Lf K H A Q κ) (m : Rm K H A M) {v : V} {d : D} (r : Rp K H A v d) (q : Q d M) : κ v H := l d M v H A q (Stp.refl H A) m r
theorem Lf.int (l : Lf K H A Q κ) (m : Rm K H A M) {i : Int} (q : Q (.int i) M) : κ (.int i) H := l.now m (.int i) q
theorem Lf.bl (l : Lf K H A Q κ) (m : Rm K H A M) {i : Bool} (q : Q (.bl i) M) : κ (.bl i) H := l.now m (.bl i) q
theorem Lf.newT (l : Lf K H A Q κ) (m : Rm K H A M) {vs : List V} {ds : List D} (r : RpL K H A vs ds) (q : Q (.tup ds) M) (p : Addr) (hp : H p = none) : κ (.ref p) (upd H p (.tup vs)) :=
  l (.tup ds) M _ _ A q (stp_upd m hp) (rm_upd m hp) (.tup (.inl (.inl upd_same)) (r.stp m (stp_upd m hp)))
theorem Lf.newL (l : Lf K H A Q κ) (m : Rm K H A M) {vs : List V} {ds : List D} (r : RpL K H A vs ds) (q : Q (.lst M.length) (M ++ [ds])) (p : Addr) (hp : H p = none) : κ (.ref p) (upd H p (.lst vs)) :=
  l (.lst M.length) _ _ _ (A ++ [p]) q (stp_new m hp) (rm_new m hp r) (.lst (by rw [← m.len, List.getElem?_append_right (Nat.le_refl _)]; simp))
end

section
variable {X : Cx}
/-- two values in, by data -/
def rB (K : Frg) (f : D → D → Mem → Kn → Prop) : R2 := fun x y H κ => ∃ A M dx dy Q, Rp K H A x dx ∧ Rp K H A y dy ∧ Rm K H A M ∧ f dx dy M Q ∧ Lf K H A Q κ

theorem op_fdivD : OpR X (binaryOp .FloorDiv) (rI (fun i j => j ≠ 0 ∧ lg j < 9000) fun i j => .int (i.fdiv j)) := opI fun i j _ _ _ _ _ hc q => floordiv_int hc.1 q (.inl (PyProof.noPylong_of_log2 hc.2))
theorem opBI {f : Value → Value → Sem Value} {pins : List (Addr × Obj)} {s : Shared} {σ : L2.St} {H : Hp} {v u : Value} {b : Bool} {j k : Int} {Q : VK}
    (rule : ∀ (t : Tok) (Q : Value → Shared → Prop), Q (.int k s.toks) { s with toks := s.toks + 1 } → wpAny (model X.prog X.w) X.A (f (.bool b) (.int j t)) Q X.xe s)
    (I : Inv X pins σ H s) (rx : RelV (.bl b) v) (ry : RelV (.int j) u) (q : Q (.int k) H) : wpAny (model X.prog X.w) X.A (f v u) (EP X pins σ Q) X.xe s := by
  cases rx
  obtain ⟨t, rfl⟩ := ry
  exact rule t _ ⟨.int k, H, I.tok _, ⟨_, rfl⟩, q⟩
theorem opIB {f : Value → Value → Sem Value} {pins : List (Addr × Obj)} {s : Shared} {σ : L2.St} {H : Hp} {v u : Value} {b : Bool} {j k : Int} {Q : VK}
    (rule : ∀ (t : Tok) (Q : Value → Shared → Prop), Q (.int k s.toks) { s with toks := s.toks + 1 } → wpAny (model X.prog X.w) X.A (f (.int j t) (.bool b)) Q X.xe s)
    (I : Inv X pins σ H s) (rx : RelV (.int j) v) (ry : RelV (.bl b) u) (q : Q (.int k) H) : wpAny (model X.prog X.w) X.A (f v u) (EP X pins σ Q) X.xe s := by
  cases ry
  obtain ⟨t, rfl⟩ := rx
  exact rule t _ ⟨.int k, H, I.tok _, ⟨_, rfl⟩, q⟩
theorem opD_add : OpR X (binaryOp .Add) (rB X.K (binD .Add)) := by
  intro pins s σ H x y v u Q I rx ry h
  obtain ⟨A, M, dx, dy, Qd, hx, hy, hm, hb, hl⟩ := h
  cases hx <;> cases hy <;> first | exact False.elim hb | skip
  · exact opBI (fun t Q h => PySem.IntBool.add_bool_int h) I rx ry (hl.int hm hb)
  · exact op_add pins s σ H _ _ v u Q I rx ry ⟨_, _, rfl, rfl, hl.int hm hb⟩
  · exact op_add_str pins s σ H _ _ v u Q I rx ry ⟨_, _, rfl, rfl, hb.1, hl.now hm (.str _) hb.2⟩
  · rename_i a vs ds ha la b ws es hb' lb
    obtain ⟨hz, q⟩ := hb
    have e1 := la.length
    have e2 := lb.length
    refine op_catA pins s σ H _ _ v u Q I rx ry ⟨_, _, vs, ws, rfl, rfl, ha, hb', by omega, fun e => ?_, fun e1 e => ?_, fun e1 e2 p hp => ?_⟩
    · subst e
      cases la
      exact hl.now hm (.tup hb' lb) q
    · subst e
      cases lb
      rw [List.append_nil] at q
      exact hl.now hm (.tup ha la) q
    · exact hl.newT hm (la.append lb) q p hp
  · rename_i a n ha b k hb'
    obtain ⟨xs, ex, hb⟩ := onV_ex hb
    obtain ⟨ys, ey, hz, q⟩ := onV_ex hb
    obtain ⟨vs, h1, l1⟩ := hm.list ha ex
    obtain ⟨ws, h2, l2⟩ := hm.list hb' ey
    exact op_cat pins s σ H _ _ v u Q I rx ry ⟨_, _, vs, ws, rfl, rfl, h1, h2, by rw [l1.length, l2.length]; exact hz, fun p hp => hl.newL hm (l1.append l2) q p hp⟩
theorem opD_bin (op : Operator) : OpR X (binaryOp op) (rB X.K (binD op)) := by
  by_cases ha : op = .Add
  · subst ha; exact opD_add
  intro pins s σ H x y v u Q I rx ry h
  obtain ⟨A, M, dx, dy, Qd, hx, hy, hm, hb, hl⟩ := h
  cases hx <;> cases hy <;> cases op <;> first | exact False.elim hb | exact (ha rfl).elim | skip
  · exact opBI (fun t Q h => PySem.IntBool.sub_bool_int h) I rx ry (hl.int hm hb)
  · exact opBI (fun t Q h => PySem.IsLeap.wpAny_mod_bool hb.1 h) I rx ry (hl.int hm hb.2)
  · exact opIB (fun t Q h => PySem.IntBool.sub_int_bool h) I rx ry (hl.int hm hb)
  · exact opIB (fun t Q h => PySem.IntBool.mul_int_bool h) I rx ry (hl.int hm hb)
  · exact op_sub pins s σ H _ _ v u Q I rx ry ⟨_, _, rfl, rfl, hl.int hm hb⟩
  · exact op_mulW pins s σ H _ _ v u Q I rx ry ⟨_, _, rfl, rfl, hb.1, hl.int hm hb.2⟩
  · exact op_modN pins s σ H _ _ v u Q I rx ry ⟨_, _, rfl, rfl, hb.1, hl.int hm hb.2⟩
  · exact op_pow pins s σ H _ _ v u Q I rx ry ⟨_, _, rfl, rfl, ⟨hb.1, hb.2.1, hb.2.2.1⟩, hl.int hm hb.2.2.2⟩
  · exact op_fdivD pins s σ H _ _ v u Q I rx ry ⟨_, _, rfl, rfl, ⟨hb.1, hb.2.1⟩, hl.int hm hb.2.2⟩

theorem opD_eq0 (hu : X.A.units + 64 < cLine) {x y : D} {M : Mem} {R : Bool → Prop} (h : eqD x y M R) : (∃ a b, x = .str a ∧ y = .str b ∧ R (decide (a = b))) ∨ isOk M x y R := by
  unfold eqD at h
  split at h
  · refine .inr ⟨_, _, .int _, .int _, by simp [SeqAt.shaped, PyData.canLay0, PyData.depth], by simp [SeqAt.shaped, PyData.canLay0, PyData.depth], ?_⟩
    rename_i i j
    have e : PyData.eqv (.int i) (.int j) = decide (i = j) := by simp only [PyData.eqv]; rfl
    rw [e]; exact h
  · refine .inr ⟨_, _, .bl _, .bl _, by rename_i i j; cases i <;> decide, by rename_i i j; cases j <;> decide, ?_⟩
    rename_i i j
    have e : PyData.eqv (.bool i) (.bool j) = decide (i = j) := by simp only [PyData.eqv]; rfl
    rw [e]; exact h
  · exact .inr ⟨_, _, .non, .non, by decide, by decide, h⟩
  · exact .inl ⟨_, _, rfl, rfl, h⟩
  · exact .inr h
theorem dec_strV {a b : Str} : decide (V.str a = V.str b) = decide (a = b) := by
  by_cases h : a = b
  · subst h; simp
  · simp [h]
theorem opD_eq (hu : X.A.units + 64 < cLine) : OpR X (compareOp .Eq) (rB X.K (cmpD .Eq)) := by
  intro pins s σ H x y v u Q I rx ry h
  obtain ⟨A, M, dx, dy, Qd, hx, hy, hm, hb, hl⟩ := h
  rcases opD_eq0 hu (show eqD dx dy M (fun b => Qd (.bl b) M) from hb) with ⟨a, b, rfl, rfl, hq⟩ | ⟨p, q, h1, h2, s1, s2, hq⟩
  · cases hx
    cases hy
    exact op_eq pins s σ H _ _ v u Q I rx ry ⟨rfl, by rw [dec_strV]; exact hl.bl hm hq⟩
  · exact op_eqD hu pins s σ H _ _ v u Q I rx ry ⟨p, q, h1.dp hm hx, h2.dp hm hy, s1, s2, hl.bl hm hq⟩
theorem opD_ne (hu : X.A.units + 64 < cLine) : OpR X (compareOp .NotEq) (rB X.K (cmpD .NotEq)) := by
  intro pins s σ H x y v u Q I rx ry h
  obtain ⟨A, M, dx, dy, Qd, hx, hy, hm, hb, hl⟩ := h
  rcases opD_eq0 hu (show eqD dx dy M (fun b => Qd (.bl (!b)) M) from hb) with ⟨a, b, rfl, rfl, hq⟩ | ⟨p, q, h1, h2, s1, s2, hq⟩
  · cases hx
    cases hy
    exact op_ne pins s σ H _ _ v u Q I rx ry ⟨rfl, by rw [dec_strV]; exact hl.bl hm hq⟩
  · exact op_neD hu pins s σ H _ _ v u Q I rx ry ⟨p, q, h1.dp hm hx, h2.dp hm hy, s1, s2, hl.bl hm hq⟩
theorem seq_of {K : Frg} {H : Hp} {A : List Addr} {M : Mem} (m : Rm K H A M) {v : V} {d : D} {ds : List D} (r : Rp K H A v d) (h : seqOf M d = some ds) :
    ∃ a vs, v = .ref a ∧ RpL K H A vs ds ∧ (SqL K H a vs ∨ SqT K H a vs) := by
  cases r with
  | lst ha =>
    obtain ⟨vs, h1, l1⟩ := m.list ha h
    exact ⟨_, vs, rfl, l1, .inl (SqL.of h1)⟩
  | tup ha la =>
    cases h
    exact ⟨_, _, rfl, la, .inr ha⟩
  | scr ha =>
    cases h
    exact ⟨_, _, rfl, RpL.ints _, .inl ha.seq⟩
  | _ => cases h
theorem shaped_tup {ps : List PyData} (h : SeqAt.shaped (.list ps) = true) : SeqAt.shaped (.tuple ps) = true := by
  unfold SeqAt.shaped at h ⊢
  simp only [PyData.canLay0, PyData.depth] at h ⊢
  exact h
theorem opD_cmp (op : CmpOp) (hu : X.A.units + 64 < cLine) (hno : op ≠ .In ∧ op ≠ .NotIn) : OpR X (compareOp op) (rB X.K (cmpD op)) := by
  by_cases h1 : op = .Eq
  · subst h1; exact opD_eq hu
  by_cases h2 : op = .NotEq
  · subst h2; exact opD_ne hu
  by_cases h3 : op = .Is
  · subst h3
    intro pins s σ H x y v u Q I rx ry h
    obtain ⟨A, M, dx, dy, Qd, hx, hy, hm, hb, hl⟩ := h
    cases hy <;> first | exact False.elim hb | skip
    have hb' : Qd (.bl (isNon dx)) M := hb
    refine op_isN pins s σ H _ _ v u Q I rx ry ⟨rfl, ?_⟩
    have e : isNon dx = decide (x = V.non) := by cases hx <;> simp [isNon]
    rw [← e]
    exact hl.bl hm hb'
  by_cases h4 : op = .IsNot
  · subst h4
    intro pins s σ H x y v u Q I rx ry h
    obtain ⟨A, M, dx, dy, Qd, hx, hy, hm, hb, hl⟩ := h
    cases hy <;> first | exact False.elim hb | skip
    have hb' : Qd (.bl (!isNon dx)) M := hb
    refine op_notN pins s σ H _ _ v u Q I rx ry ⟨rfl, ?_⟩
    have e : isNon dx = decide (x = V.non) := by cases hx <;> simp [isNon]
    rw [← e]
    exact hl.bl hm hb'
  intro pins s σ H x y v u Q I rx ry h
  obtain ⟨A, M, dx, dy, Qd, hx, hy, hm, hb, hl⟩ := h
  cases op <;> first | exact (h1 rfl).elim | exact (h2 rfl).elim | exact (h3 rfl).elim | exact (h4 rfl).elim | exact (hno.1 rfl).elim | exact (hno.2 rfl).elim | skip
  · cases hx <;> cases hy <;> first | exact False.elim hb | skip
    exact op_lt pins s σ H _ _ v u Q I rx ry ⟨_, _, rfl, rfl, hl.bl hm hb⟩
  · cases hx <;> cases hy <;> first | exact False.elim hb | skip
    exact op_le pins s σ H _ _ v u Q I rx ry ⟨_, _, rfl, rfl, hl.bl hm hb⟩
  · cases hx <;> cases hy <;> first | exact False.elim hb | skip
    exact op_gt pins s σ H _ _ v u Q I rx ry ⟨_, _, rfl, rfl, hl.bl hm hb⟩
  · cases hx <;> cases hy <;> first | exact False.elim hb | skip
    exact op_ge pins s σ H _ _ v u Q I rx ry ⟨_, _, rfl, rfl, hl.bl hm hb⟩

/-! items, slices -/
theorem ixD_ok : IxR X (rB X.K ixD) := by
  intro value slice pins s σ H x y v u Q I rx ry h hs
  obtain ⟨A, M, dx, dy, Qd, hx, hy, hm, hb0, hl⟩ := h
  obtain ⟨xs, hq, hb⟩ := onV_ex hb0
  clear hb0
  cases hy <;> first | exact False.elim hb | skip
  rename_i k
  obtain ⟨d, hd0, q⟩ := onV_ex hb
  obtain ⟨j, hj, hd⟩ := Option.bind_eq_some_iff.mp hd0
  obtain ⟨a, vs, rfl, la, hsq⟩ := seq_of hm hx hq
  obtain ⟨w, hw, rw'⟩ := la.get hd
  have hat : atI vs k = some w := by
    unfold atI
    rw [la.length, hj]
    exact hw
  rcases hsq with hsq | hsq
  · exact ix_list value slice pins s σ H _ _ v u Q I rx ry ⟨a, vs, k, w, rfl, rfl, hsq, hat, hl.now hm rw' q⟩ hs
  · exact ix_tup value slice pins s σ H _ _ v u Q I rx ry ⟨a, vs, k, w, rfl, rfl, hsq, hat, hl.now hm rw' q⟩ hs
theorem RpL.cut {K : Frg} {H : Hp} {A : List Addr} {vs : List V} {ds : List D} (l : RpL K H A vs ds) (lo hi : Option Int) : RpL K H A (cutV vs lo hi) (cutD ds lo hi) := by
  unfold cutV cutD
  rw [l.length]
  exact (l.drop _).take _
def rSl (K : Frg) : V → Option Int → Option Int → Hp → VK → Prop := fun x lo hi H κ => ∃ A M d Q, Rp K H A x d ∧ Rm K H A M ∧ slD d lo hi M Q ∧ Lf K H A Q κ
theorem slD_ok : SlR X (rSl X.K) := by
  intro pins s σ H x v vl vu lo hi sl Q I rx hs pl pu h
  obtain ⟨A, M, dx, Qd, hx, hm, hb, hl⟩ := h
  cases hx <;> first | exact False.elim hb | skip
  · rename_i a vs ds ha la
    refine sl_tupA pins s σ H _ v vl vu lo hi sl Q I rx hs pl pu ⟨a, vs, rfl, ha, fun hw => ?_, fun hw p hp => hl.newT hm (la.cut lo hi) hb p hp⟩
    have e : cutD ds lo hi = ds := by
      unfold cutD
      rw [la.length] at hw
      rw [hw.1, hw.2]
      simp
    have hb' : Qd (.tup (cutD ds lo hi)) M := hb
    rw [e] at hb'
    exact hl.now hm (.tup ha la) hb'
  · rename_i a n ha
    obtain ⟨xs, ex, q⟩ := onV_ex hb
    obtain ⟨vs, h1, l1⟩ := hm.list ha ex
    exact sl_list pins s σ H _ v vl vu lo hi sl Q I rx hs pl pu ⟨a, vs, rfl, SqL.of h1, fun p hp => hl.newL hm (l1.cut lo hi) q p hp⟩
  · rename_i a ns ha
    exact sl_list pins s σ H _ v vl vu lo hi sl Q I rx hs pl pu ⟨a, _, rfl, ha.seq, fun p hp => hl.newL hm ((RpL.ints ns).cut lo hi) hb p hp⟩

/-! isinstance -/
theorem ty_of {K : Frg} {H : Hp} {A : List Addr} {M : Mem} (m : Rm K H A M) {v : V} {d : D} (r : Rp K H A v d) {t : String} (h : tyD d = some t) : TyX K H v (.type t) := by
  cases r with
  | non => cases h; exact .base .non
  | bl x => cases h; exact .base (.bl x)
  | int i => cases h; exact .base (.int i)
  | str x => cases h; exact .base (.str x)
  | tup ha _ =>
    cases h
    rcases ha with (ha | ⟨o, ha⟩) | ⟨o, its, n, e, c, _⟩
    · exact .base (.tup ha)
    · exact .fTuple ha
    · exact .kTuple e c
  | lst ha =>
    cases h
    obtain ⟨vs, e⟩ := m.mem (List.mem_of_getElem? ha)
    exact .base (.lst e)
  | scr _ => cases h
def tyNames : List String := ["NoneType", "bool", "int", "str", "tuple", "list"]
def clNames : List String := ["bool", "int", "str", "tuple", "list"]
theorem tyD_in {d : D} {t : String} (h : tyD d = some t) : t ∈ tyNames := by
  cases d <;> simp only [tyD, Option.some.injEq] at h <;> first | (subst h; decide) | cases h
theorem kit_ok (K : Frg) {t c : String} (ht : t ∈ tyNames) (hc : c ∈ clNames) : PySem.W.kitOne K (.type t) (.type c) = some (isIn t c) := by
  simp only [tyNames, clNames, List.mem_cons, List.not_mem_nil, or_false] at ht hc
  rcases ht with rfl | rfl | rfl | rfl | rfl | rfl <;> rcases hc with rfl | rfl | rfl | rfl | rfl <;> rfl
theorem kitAny_ok (K : Frg) {t : String} (ht : t ∈ tyNames) : ∀ (T : List String), (∀ c ∈ T, c ∈ clNames) → PySem.W.kitAny K (.type t) (T.map Value.type) = some (T.any (isIn t))
  | [], _ => rfl
  | c :: r, h => by
    rw [List.map_cons]
    unfold PySem.W.kitAny
    rw [kit_ok K ht (h c List.mem_cons_self), List.any_cons]
    cases isIn t c with
    | true => rfl
    | false =>
      rw [Bool.false_or]
      exact kitAny_ok K ht r fun c hc => h c (List.mem_cons_of_mem _ hc)
/-- isinstance of a value and one class's name -/
def rI1 (K : Frg) : List V → Hp → VK → Prop := fun xs H κ => ∃ A M d v T b Q, xs = [v, .ty T] ∧ T ∈ clNames ∧ Rp K H A v d ∧ Rm K H A M ∧ isiD [T] d = some b ∧ Q (.bl b) M ∧ Lf K H A Q κ
theorem isiD_ok : CallR X (.builtin "isinstance") (rI1 X.K) := by
  intro pins s σ H xs us Q I r h
  obtain ⟨A, M, d, v, T, b, Qd, rfl, hT, hx, hm, hb, q, hl⟩ := h
  unfold isiD at hb
  cases e : tyD d with
  | none => rw [e] at hb; cases hb
  | some t =>
    rw [e] at hb
    have hb' : [T].any (isIn t) = b := Option.some.inj hb
    subst hb'
    refine call_isi pins s σ H _ us Q I r ⟨v, .ty T, .type t, .type T, _, rfl, .ty T, ty_of hm hx e, kit_ok X.K (tyD_in e) hT, ?_⟩
    have e2 : [T].any (isIn t) = isIn t T := by simp
    rw [← e2]
    exact hl.bl hm q
theorem clsV_map : ∀ T : List String, Paired ClsV (T.map V.ty) (T.map Value.type)
  | [] => .nil
  | _ :: r => .cons (.ty _) (clsV_map r)
def rI2 (K : Frg) (T : List String) : List V → Hp → VK → Prop := fun xs H κ => ∃ A M d v tp b Q, xs = [v, .ref tp] ∧ H tp = some (.tup (T.map V.ty)) ∧ (∀ c ∈ T, c ∈ clNames) ∧ Rp K H A v d ∧ Rm K H A M ∧ isiD T d = some b ∧ Q (.bl b) M ∧ Lf K H A Q κ
theorem isiT_ok {T : List String} : CallR X (.builtin "isinstance") (rI2 X.K T) := by
  intro pins s σ H xs us Q I r h
  obtain ⟨A, M, d, v, tp, b, Qd, rfl, htp, hT, hx, hm, hb, q, hl⟩ := h
  unfold isiD at hb
  cases e : tyD d with
  | none => rw [e] at hb; cases hb
  | some t =>
    rw [e] at hb
    have hb' : T.any (isIn t) = b := Option.some.inj hb
    subst hb'
    exact call_isiT pins s σ H _ us Q I r ⟨v, tp, T.map V.ty, .type t, T.map Value.type, _, rfl, htp, clsV_map T, ty_of hm hx e, kitAny_ok X.K (tyD_in e) T hT, hl.bl hm q⟩

/-! built-in functions -/
def rC (K : Frg) (f : List D → Mem → Kn → Prop) : List V → Hp → VK → Prop := fun xs H κ => ∃ A M ds Q, RpL K H A xs ds ∧ Rm K H A M ∧ f ds M Q ∧ Lf K H A Q κ
theorem CallR.imp {f : Value} {r r' : List V → Hp → VK → Prop} (h : CallR X f r) (hi : ∀ xs H Q, r' xs H Q → r xs H Q) : CallR X f r' := fun pins s σ H xs us Q I r q => h pins s σ H xs us Q I r (hi _ _ _ q)
theorem CallR.two {f : Value} {r r' q : List V → Hp → VK → Prop} (h : CallR X f r) (h' : CallR X f r') (hi : ∀ xs H Q, q xs H Q → r xs H Q ∨ r' xs H Q) : CallR X f q := fun pins s σ H xs us Q I r z => by
  rcases hi _ _ _ z with z | z
  · exact h pins s σ H xs us Q I r z
  · exact h' pins s σ H xs us Q I r z
theorem bf_len : CallR X (.builtin "len") (rC X.K (bfD .len)) := by
  intro pins s σ H xs us Q I r h
  obtain ⟨A, M, ds, Qd, hx, hm, hb, hl⟩ := h
  cases hx with
  | nil => exact False.elim hb
  | @cons v vs d ds' hv l =>
    cases l with
    | cons _ _ => exact False.elim hb
    | nil =>
      have key : (∃ z, d = .str z ∧ z.length ≤ sizeLine ∧ Qd (.int z.length) M) ∨ ∃ ys, seqOf M d = some ys ∧ Qd (.int ys.length) M := by
        cases d with
        | str z => exact .inl ⟨z, rfl, hb⟩
        | _ => exact .inr (onV_ex hb)
      rcases key with ⟨z, rfl, hz, q⟩ | ⟨ys, hy, q⟩
      · cases hv
        exact call_len pins s σ H _ us Q I r ⟨_, z.length, rfl, ⟨hz, rfl⟩, hl.int hm q⟩
      · obtain ⟨a, ws, rfl, la, hs⟩ := seq_of hm hv hy
        refine call_len pins s σ H _ us Q I r ⟨_, ys.length, rfl, ?_, hl.int hm q⟩
        rcases hs with hs | hs
        · exact .inl ⟨ws, hs, la.length.symm⟩
        · exact .inr ⟨ws, hs, la.length.symm⟩
theorem RpL.one {K : Frg} {H : Hp} {A : List Addr} {vs : List V} {d : D} (l : RpL K H A vs [d]) : ∃ v, vs = [v] ∧ Rp K H A v d := by
  cases l with
  | cons h l => cases l; exact ⟨_, rfl, h⟩
theorem RpL.two {K : Frg} {H : Hp} {A : List Addr} {vs : List V} {d e : D} (l : RpL K H A vs [d, e]) : ∃ v w, vs = [v, w] ∧ Rp K H A v d ∧ Rp K H A w e := by
  cases l with
  | cons h l =>
    obtain ⟨w, rfl, h2⟩ := l.one
    exact ⟨_, _, rfl, h, h2⟩
theorem bf_abs : CallR X (.builtin "abs") (rC X.K (bfD .abs)) := by
  intro pins s σ H xs us Q I r h
  obtain ⟨A, M, ds, Qd, hx, hm, hb, hl⟩ := h
  obtain ⟨d, rfl⟩ : ∃ d, ds = [.int d] := by
    cases hx with
    | nil => exact False.elim hb
    | cons hv l => cases l with
      | nil => cases hv <;> first | exact False.elim hb | exact ⟨_, rfl⟩
      | cons _ _ => cases hv <;> exact False.elim hb
  obtain ⟨v, rfl, h1⟩ := hx.one
  cases h1
  exact call_abs pins s σ H _ us Q I r ⟨_, rfl, hl.int hm hb⟩
theorem intL_of {K : Frg} {H : Hp} {A : List Addr} {M : Mem} (m : Rm K H A M) {v : V} {n : Nat} {ns : List Int} (r : Rp K H A v (.lst n)) (e : M[n]? = some (ns.map D.int)) : ∃ a, v = .ref a ∧ SqL K H a (ns.map V.int) := by
  cases r with
  | lst ha =>
    obtain ⟨vs, h1, l1⟩ := m.list ha e
    rw [l1.of_ints] at h1
    exact ⟨_, rfl, SqL.of h1⟩
theorem blL_of {K : Frg} {H : Hp} {A : List Addr} {M : Mem} (m : Rm K H A M) {v : V} {n : Nat} {ns : List Bool} (r : Rp K H A v (.lst n)) (e : M[n]? = some (ns.map D.bl)) : ∃ a, v = .ref a ∧ SqL K H a (ns.map V.bl) := by
  cases r with
  | lst ha =>
    obtain ⟨vs, h1, l1⟩ := m.list ha e
    rw [l1.of_bls] at h1
    exact ⟨_, rfl, SqL.of h1⟩
theorem bf_max (hc : X.calm = true) : CallR X (.builtin "max") (rC X.K (bfD .max)) := by
  intro pins s σ H xs us Q I r h
  obtain ⟨A, M, ds, Qd, hx, hm, hb, hl⟩ := h
  have key : (∃ i j, ds = [.int i, .int j]) ∨ ∃ n, ds = [.lst n] := by
    cases hx with
    | nil => exact False.elim hb
    | cons hv l => cases l with
      | nil => cases hv <;> first | exact False.elim hb | exact .inr ⟨_, rfl⟩
      | cons hw l2 => cases l2 with
        | nil => cases hv <;> cases hw <;> first | exact False.elim hb | exact .inl ⟨_, _, rfl⟩
        | cons _ _ => cases hv <;> cases hw <;> exact False.elim hb
  rcases key with ⟨i, j, rfl⟩ | ⟨n, rfl⟩
  · obtain ⟨v, w, rfl, h1, h2⟩ := hx.two
    cases h1; cases h2
    exact call_max2 hc pins s σ H _ us Q I r ⟨_, _, rfl, hl.int hm hb⟩
  · obtain ⟨v, rfl, h1⟩ := hx.one
    obtain ⟨ns, e, hp, q⟩ := hb
    obtain ⟨a, rfl, hs⟩ := intL_of hm h1 e
    exact cr_max hc pins s σ H _ us Q I r ⟨a, ns, rfl, hs, hp, fun m h1 h2 => hl.int hm (q m h1 h2)⟩
theorem bf_min (hc : X.calm = true) : CallR X (.builtin "min") (rC X.K (bfD .min)) := by
  intro pins s σ H xs us Q I r h
  obtain ⟨A, M, ds, Qd, hx, hm, hb, hl⟩ := h
  have key : (∃ i j, ds = [.int i, .int j]) ∨ ∃ n, ds = [.lst n] := by
    cases hx with
    | nil => exact False.elim hb
    | cons hv l => cases l with
      | nil => cases hv <;> first | exact False.elim hb | exact .inr ⟨_, rfl⟩
      | cons hw l2 => cases l2 with
        | nil => cases hv <;> cases hw <;> first | exact False.elim hb | exact .inl ⟨_, _, rfl⟩
        | cons _ _ => cases hv <;> cases hw <;> exact False.elim hb
  rcases key with ⟨i, j, rfl⟩ | ⟨n, rfl⟩
  · obtain ⟨v, w, rfl, h1, h2⟩ := hx.two
    cases h1; cases h2
    exact call_min2 hc pins s σ H _ us Q I r ⟨_, _, rfl, hl.int hm hb⟩
  · obtain ⟨v, rfl, h1⟩ := hx.one
    obtain ⟨ns, e, hp, q⟩ := hb
    obtain ⟨a, rfl, hs⟩ := intL_of hm h1 e
    exact cr_min hc pins s σ H _ us Q I r ⟨a, ns, rfl, hs, hp, fun m h1 h2 => hl.int hm (q m h1 h2)⟩
theorem bf_sum (hc : X.calm = true) : CallR X (.builtin "sum") (rC X.K (bfD .sum)) := by
  intro pins s σ H xs us Q I r h
  obtain ⟨A, M, ds, Qd, hx, hm, hb, hl⟩ := h
  obtain ⟨n, rfl⟩ : ∃ n, ds = [.lst n] := by
    cases hx with
    | nil => exact False.elim hb
    | cons hv l => cases l with
      | nil => cases hv <;> first | exact False.elim hb | exact ⟨_, rfl⟩
      | cons _ _ => cases hv <;> exact False.elim hb
  obtain ⟨v, rfl, h1⟩ := hx.one
  obtain ⟨ns, e, q⟩ := hb
  obtain ⟨a, rfl, hs⟩ := intL_of hm h1 e
  exact cr_sum hc pins s σ H _ us Q I r ⟨a, ns, rfl, hs, hl.int hm q⟩
theorem bf_all (hc : X.calm = true) : CallR X (.builtin "all") (rC X.K (bfD .all)) := by
  intro pins s σ H xs us Q I r h
  obtain ⟨A, M, ds, Qd, hx, hm, hb, hl⟩ := h
  obtain ⟨n, rfl⟩ : ∃ n, ds = [.lst n] := by
    cases hx with
    | nil => exact False.elim hb
    | cons hv l => cases l with
      | nil => cases hv <;> first | exact False.elim hb | exact ⟨_, rfl⟩
      | cons _ _ => cases hv <;> exact False.elim hb
  obtain ⟨v, rfl, h1⟩ := hx.one
  obtain ⟨ns, e, q⟩ := hb
  obtain ⟨a, rfl, hs⟩ := blL_of hm h1 e
  exact cr_all hc pins s σ H _ us Q I r ⟨a, ns, rfl, hs, hl.bl hm q⟩
theorem bf_any (hc : X.calm = true) : CallR X (.builtin "any") (rC X.K (bfD .any)) := by
  intro pins s σ H xs us Q I r h
  obtain ⟨A, M, ds, Qd, hx, hm, hb, hl⟩ := h
  obtain ⟨n, rfl⟩ : ∃ n, ds = [.lst n] := by
    cases hx with
    | nil => exact False.elim hb
    | cons hv l => cases l with
      | nil => cases hv <;> first | exact False.elim hb | exact ⟨_, rfl⟩
      | cons _ _ => cases hv <;> exact False.elim hb
  obtain ⟨v, rfl, h1⟩ := hx.one
  obtain ⟨ns, e, q⟩ := hb
  obtain ⟨a, rfl, hs⟩ := blL_of hm h1 e
  exact cr_any hc pins s σ H _ us Q I r ⟨a, ns, rfl, hs, hl.bl hm q⟩
theorem bf_str : CallR X (.type "str") (rC X.K (bfD .str)) := by
  intro pins s σ H xs us Q I r h
  obtain ⟨A, M, ds, Qd, hx, hm, hb, hl⟩ := h
  obtain ⟨d, rfl⟩ : ∃ d, ds = [.int d] := by
    cases hx with
    | nil => exact False.elim hb
    | cons hv l => cases l with
      | nil => cases hv <;> first | exact False.elim hb | exact ⟨_, rfl⟩
      | cons _ _ => cases hv <;> exact False.elim hb
  obtain ⟨v, rfl, h1⟩ := hx.one
  cases h1
  exact call_str_int pins s σ H _ us Q I r ⟨_, rfl, hb.1, hl.now hm (.str _) hb.2⟩
theorem bf_int : CallR X (.type "int") (rC X.K (bfD .int)) := by
  intro pins s σ H xs us Q I r h
  obtain ⟨A, M, ds, Qd, hx, hm, hb, hl⟩ := h
  have key : (∃ i, ds = [.int i]) ∨ ∃ n, ds = [.bl n] := by
    cases hx with
    | nil => exact False.elim hb
    | cons hv l => cases l with
      | nil => cases hv <;> first | exact False.elim hb | exact .inr ⟨_, rfl⟩ | exact .inl ⟨_, rfl⟩
      | cons _ _ => cases hv <;> exact False.elim hb
  rcases key with ⟨i, rfl⟩ | ⟨n, rfl⟩
  · obtain ⟨v, rfl, h1⟩ := hx.one
    cases h1
    exact call_int1 pins s σ H _ us Q I r (.inl ⟨_, rfl, hl.int hm hb⟩)
  · obtain ⟨v, rfl, h1⟩ := hx.one
    cases h1
    exact call_int1 pins s σ H _ us Q I r (.inr ⟨_, rfl, hl.int hm hb⟩)
theorem bf_list : CallR X (.type "list") (rC X.K (bfD .list)) := by
  intro pins s σ H xs us Q I r h
  obtain ⟨A, M, ds, Qd, hx, hm, hb, hl⟩ := h
  obtain ⟨d, rfl⟩ : ∃ d, ds = [d] := by
    cases hx with
    | nil => exact False.elim hb
    | cons hv l => cases l with
      | nil => exact ⟨_, rfl⟩
      | cons _ _ => exact False.elim hb
  obtain ⟨v, rfl, h1⟩ := hx.one
  obtain ⟨ys, hy, q⟩ := onV_ex hb
  obtain ⟨a, ws, rfl, la, hs⟩ := seq_of hm h1 hy
  exact call_list_of pins s σ H _ us Q I r ⟨a, ws, rfl, hs, fun p hp => hl.newL hm la q p hp⟩
theorem bf_tuple : CallR X (.type "tuple") (rC X.K (bfD .tuple)) := by
  intro pins s σ H xs us Q I r h
  obtain ⟨A, M, ds, Qd, hx, hm, hb, hl⟩ := h
  obtain ⟨d, rfl⟩ : ∃ d, ds = [d] := by
    cases hx with
    | nil => exact False.elim hb
    | cons hv l => cases l with
      | nil => exact ⟨_, rfl⟩
      | cons _ _ => exact False.elim hb
  obtain ⟨v, rfl, h1⟩ := hx.one
  obtain ⟨ys, hy, q⟩ := onV_ex hb
  obtain ⟨a, ws, rfl, la, hs⟩ := seq_of hm h1 hy
  rcases hs with hs | hs
  · exact call_tuple_of pins s σ H _ us Q I r ⟨a, ws, rfl, .inl ⟨hs, fun p hp => hl.newT hm la q p hp⟩⟩
  · exact call_tuple_of pins s σ H _ us Q I r ⟨a, ws, rfl, .inr ⟨hs, hl.now hm (.tup hs la) q⟩⟩
theorem bf_repr (hg : X.A.guards = some []) (hu : X.A.units + 64 < cLine) : CallR X (.builtin "repr") (rC X.K (bfD .repr)) := by
  intro pins s σ H xs us Q I r h
  obtain ⟨A, M, ds, Qd, hx, hm, hb, hl⟩ := h
  obtain ⟨d, rfl⟩ : ∃ d, ds = [d] := by
    cases hx with
    | nil => exact False.elim hb
    | cons hv l => cases l with
      | nil => exact ⟨_, rfl⟩
      | cons _ _ => exact False.elim hb
  obtain ⟨v, rfl, h1⟩ := hx.one
  obtain ⟨p, hp, hs, hd, hde, hz, q⟩ := hb
  obtain ⟨u, rfl, r1⟩ := vals1 r
  have hq := hl.now hm (.str p.shown) q
  have dp := hp.dp hm h1
  cases hp with
  | non =>
    cases h1; cases r1
    exact PySem.P.repr_of_none ⟨V.str _, H, I.tok _, ⟨_, rfl⟩, by simpa only [PyData.shown] using hq⟩
  | bl b =>
    cases h1; cases r1
    exact PySem.P.repr_of_bool ⟨V.str _, H, I.tok _, ⟨_, rfl⟩, by simpa only [PyData.shown] using hq⟩
  | int i =>
    cases h1; obtain ⟨t, rfl⟩ := r1
    refine PySem.P.repr_of_int (by simpa [PyData.showable] using hs) ⟨V.str _, H, I.tok _, ⟨_, rfl⟩, by simpa only [PyData.shown] using hq⟩
  | str z =>
    cases h1; obtain ⟨t, rfl⟩ := r1
    exact PySem.P.repr_of_str ⟨V.str _, H, I.tok _, ⟨_, rfl⟩, by simpa only [PyData.shown] using hq⟩ hz
  | tup l =>
    cases h1; cases r1
    obtain ⟨as, rd⟩ := Dp.reads I _ _ _ dp (show RelV (.ref _) (Value.ref _) from rfl)
    refine repr_of_reads' rd hs (PyData.noDict_hsm hd) hg (by omega) (fun _ _ e => e) (fun h' u tk hk => ?_) hz
    exact ⟨V.str _, H, I.kept (t' := tk) hk, ⟨_, rfl⟩, hq⟩
  | lst e l =>
    cases h1; cases r1
    obtain ⟨as, rd⟩ := Dp.reads I _ _ _ dp (show RelV (.ref _) (Value.ref _) from rfl)
    refine repr_of_reads' rd hs (PyData.noDict_hsm hd) hg (by omega) (fun _ _ e => e) (fun h' u tk hk => ?_) hz
    exact ⟨V.str _, H, I.kept (t' := tk) hk, ⟨_, rfl⟩, hq⟩

/-! methods of lists -/
def rM (K : Frg) (f : D → List D → Mem → Kn → Prop) : V → List V → Hp → VK → Prop := fun x xs H κ => ∃ A M d ds Q, Rp K H A x d ∧ RpL K H A xs ds ∧ Rm K H A M ∧ f d ds M Q ∧ Lf K H A Q κ
theorem Lf.write {K : Frg} {H : Hp} {A : List Addr} {M : Mem} {Q : Kn} {κ : VK} (l : Lf K H A Q κ) (m : Rm K H A M) {n : Nat} {a : Addr} {v : V} {d : D} {vs : List V} {ds : List D} (ha : A[n]? = some a) (r : Rp K H A v d) (rs : RpL K H A vs ds) (q : Q d (M.set n ds)) : κ v (upd H a (.lst vs)) :=
  l d _ v _ A q (stp_write m ha) (rm_write m ha rs) (r.stp m (stp_write m ha))
theorem mf_append : MtR X "list.append" (rM X.K (mfD .append)) := by
  intro pins s σ H x xs v us Q I rx rs h
  obtain ⟨A, M, d, ds, Qd, hx, hxs, hm, hb, hl⟩ := h
  cases hx <;> first | exact False.elim hb | skip
  rename_i a n ha
  cases hxs with
  | nil => exact False.elim hb
  | cons hy l => cases l with
    | cons _ _ => exact False.elim hb
    | nil =>
      obtain ⟨ys, e, hz, q⟩ := onV_ex hb
      obtain ⟨vs, h1, l1⟩ := hm.list ha e
      exact mt_append pins s σ H _ _ v us Q I rx rs ⟨a, vs, _, rfl, rfl, h1, by rw [l1.length]; exact hz, hl.write hm ha .non (l1.append (.cons hy .nil)) q⟩
theorem mf_insert : MtR X "list.insert" (rM X.K (mfD .insert)) := by
  intro pins s σ H x xs v us Q I rx rs h
  obtain ⟨A, M, d, ds, Qd, hx, hxs, hm, hb, hl⟩ := h
  cases hx <;> first | exact False.elim hb | skip
  rename_i a n ha
  cases hxs with
  | nil => exact False.elim hb
  | cons hy l => cases l with
    | nil => cases hy <;> exact False.elim hb
    | cons hw l => cases l with
      | cons _ _ => cases hy <;> exact False.elim hb
      | nil =>
        cases hy <;> first | exact False.elim hb | skip
        obtain ⟨ys, e, hz, h0, h1, q⟩ := onV_ex hb
        obtain ⟨vs, e1, l1⟩ := hm.list ha e
        exact mt_insert pins s σ H _ _ v us Q I rx rs ⟨a, vs, _, _, rfl, rfl, e1, by rw [l1.length]; exact hz, h0, h1, hl.write hm ha .non (((l1.take _).append (.cons hw .nil)).append (l1.drop _)) q⟩
theorem mf_extend : MtR X "list.extend" (rM X.K (mfD .extend)) := by
  intro pins s σ H x xs v us Q I rx rs h
  obtain ⟨A, M, d, ds, Qd, hx, hxs, hm, hb, hl⟩ := h
  cases hx <;> first | exact False.elim hb | skip
  rename_i a n ha
  cases hxs with
  | nil => exact False.elim hb
  | cons hy l => cases l with
    | cons _ _ => cases hy <;> exact False.elim hb
    | nil =>
      cases hy <;> first | exact False.elim hb | skip
      rename_i b k hb'
      obtain ⟨ys, e, hb⟩ := onV_ex hb
      obtain ⟨zs, e', hz, q⟩ := onV_ex hb
      obtain ⟨vs, h1, l1⟩ := hm.list ha e
      obtain ⟨ws, h2, l2⟩ := hm.list hb' e'
      exact mt_extend pins s σ H _ _ v us Q I rx rs ⟨a, b, vs, ws, rfl, rfl, h1, h2, by rw [l1.length, l2.length]; exact hz, hl.write hm ha .non (l1.append l2) q⟩
theorem mf_pop0 : MtR X "list.pop" (fun x xs H κ => xs = [] ∧ rM X.K (mfD .pop) x xs H κ) := by
  intro pins s σ H x xs v us Q I rx rs ⟨hn, h⟩
  obtain ⟨A, M, d, ds, Qd, hx, hxs, hm, hb, hl⟩ := h
  subst hn
  cases hxs
  cases hx <;> first | exact False.elim hb | skip
  rename_i a n ha
  obtain ⟨ys, e, hb⟩ := onV_ex hb
  obtain ⟨y, ey, q⟩ := onV_ex hb
  obtain ⟨vs, h1, l1⟩ := hm.list ha e
  obtain ⟨w, hw, rw'⟩ := l1.get ey
  exact mt_pop pins s σ H _ _ v us Q I rx rs ⟨a, vs, w, rfl, rfl, h1, by rw [l1.length]; exact hw, hl.write hm ha rw' l1.dropLast q⟩
theorem mf_pop1 : MtR X "list.pop" (fun x xs H κ => xs ≠ [] ∧ rM X.K (mfD .pop) x xs H κ) := by
  intro pins s σ H x xs v us Q I rx rs ⟨hn, h⟩
  obtain ⟨A, M, d, ds, Qd, hx, hxs, hm, hb, hl⟩ := h
  cases hx <;> first | exact False.elim hb | skip
  rename_i a n ha
  cases hxs with
  | nil => exact (hn rfl).elim
  | cons hy l => cases l with
    | cons _ _ => cases hy <;> exact False.elim hb
    | nil =>
      cases hy <;> first | exact False.elim hb | skip
      rename_i i
      obtain ⟨ys, e, h0, hi, hz, hb⟩ := onV_ex hb
      obtain ⟨y, ey, q⟩ := onV_ex hb
      obtain ⟨vs, h1, l1⟩ := hm.list ha e
      obtain ⟨w, hw, rw'⟩ := l1.get ey
      have hl1 := l1.length
      refine mt_popAt pins s σ H _ _ v us Q I rx rs ⟨a, vs, i, i.toNat, w, rfl, rfl, h1, by omega, by omega, ?_, hw, hl.write hm ha rw' (l1.eraseIdx _) q⟩
      exact seqIndex_of h0 (by rw [hl1]; exact hi)
theorem mf_pop : MtR X "list.pop" (rM X.K (mfD .pop)) := by
  intro pins s σ H x xs v us Q I rx rs h
  by_cases e : xs = []
  · exact mf_pop0 pins s σ H x xs v us Q I rx rs ⟨e, h⟩
  · exact mf_pop1 pins s σ H x xs v us Q I rx rs ⟨e, h⟩
theorem setD_ok : PSet X (fun o i v H R => ∃ A M dx dy dz Qd, Rp X.K H A o dx ∧ Rp X.K H A i dy ∧ Rp X.K H A v dz ∧ Rm X.K H A M ∧ setIxD dx dy dz M Qd ∧ ∀ M' H', Qd M' → Stp H A H' A → Rm X.K H' A M' → R H') := by
  intro pins s σ H x y z ov iv u Q I r1 r2 r3 h
  obtain ⟨A, M, dx, dy, dz, Qd, h1, h2, h3, hm, hb, hl⟩ := h
  cases h1 <;> first | exact False.elim hb | skip
  rename_i l n ha
  cases h2 <;> first | exact False.elim hb | skip
  rename_i k
  obtain ⟨xs, e, hb⟩ := onV_ex hb
  obtain ⟨j, hj, q⟩ := onV_ex hb
  obtain ⟨vs, e1, l1⟩ := hm.list ha e
  exact set_list pins s σ H _ _ _ ov iv u Q I r1 r2 r3 ⟨_, vs, k, j, rfl, rfl, e1, by rw [l1.length]; exact hj, hl _ _ q (stp_write hm ha) (rm_write hm ha (l1.set h3 j))⟩
end
end DL

set_option Elab.async false
set_option linter.all false
set_option maxRecDepth 100000
set_option maxHeartbeats 4000000
namespace DL
open PySem L2 PySem.Spec PyProof.Rows

/-! is this tree that text? -/
def noStar : Expr → Bool
  | .Starred _ _ => false
  | _ => true
def noSlice : Expr → Bool
  | .Slice _ _ _ _ => false
  | _ => true
def noComp : Expr → Bool
  | .ListComp _ _ _ _ => false
  | .SetComp _ _ _ _ => false
  | .DictComp _ _ _ _ _ => false
  | _ => true
def noSet : Expr → Bool
  | .Set _ _ _ => false
  | _ => true
def baseB : Expr → Bool
  | .Name _ _ => true
  | .Subscript _ _ _ => true
  | _ => false
def visB (sc : Scope) (x : Str) : Bool := match sc.names.lookup x with
  | some .local => true
  | some .cell => true
  | some .free => true
  | _ => false
def glB (sc : Scope) (x : Str) : Bool := match sc.names.lookup x with
  | some .globalImplicit => true
  | _ => false
def bfName : BF → String
  | .len => "len" | .abs => "abs" | .max => "max" | .min => "min" | .sum => "sum" | .all => "all" | .any => "any" | .repr => "repr"
  | .str => "str" | .int => "int" | .list => "list" | .tuple => "tuple" | .sset => "sorted"
def bNames : List String := ["len", "abs", "max", "min", "sum", "all", "any", "repr", "str", "int", "list", "tuple", "sorted", "set", "isinstance", "range", "zip", "enumerate", "bool", "reversed"]
def tyNameB (sc : Scope) : List String → List Expr → Bool
  | [], [] => true
  | T :: r, .Name x _ :: es => decide (x = Str.ofString T) && glB sc x && clNames.contains T && tyNameB sc r es
  | _, _ => false
def ownOf (N : List Str) (vs : List Nat) : List (Str × Nat) := vs.filterMap fun i => (N[i]?).map fun x => (x, i)
def locB (scope : Scope) (x : Str) : Bool := match scope.names.lookup x with
  | some .local => true
  | some .cell => true
  | _ => false
def tgNames (N : List Str) (scope : Scope) (vs : List Nat) : List Nat → List Expr → Bool
  | [], [] => true
  | i :: is, .Name x _ :: es => decide (N[i]? = some x) && locB scope x && vs.contains i && tgNames N scope vs is es
  | _, _ => false
def chkTg (N : List Str) (scope : Scope) (vs : List Nat) : List Nat → Expr → Bool
  | [i], .Name x _ => decide (N[i]? = some x) && locB scope x && vs.contains i
  | is, .Tuple es _ _ => decide (2 ≤ is.length) && decide is.Nodup && tgNames N scope vs is es
  | _, _ => false
def mfName : MF → String
  | .append => "append" | .pop => "pop" | .extend => "extend" | .insert => "insert" | .index => "index" | .count => "count"

/-! what a text's tree is made of -/
def asName : Expr → Option Str
  | .Name x _ => some x
  | _ => none
def asInt : Expr → Option Int
  | .Constant (.int m) _ _ => some m
  | _ => none
def asConst : Expr → Option Const
  | .Constant c _ _ => some c
  | _ => none
def asBin : Expr → Option (Operator × Expr × Expr)
  | .BinOp x op y _ => some (op, x, y)
  | _ => none
def asUn : Expr → Option (UnaryOp × Expr)
  | .UnaryOp op x _ => some (op, x)
  | _ => none
def asBool : Expr → Option (BoolOp × List Expr × Pos)
  | .BoolOp op vs p => some (op, vs, p)
  | _ => none
def asCmp : Expr → Option (Expr × List CmpOp × List Expr)
  | .Compare x os ys _ => some (x, os, ys)
  | _ => none
def asIfE : Expr → Option (Expr × Expr × Expr)
  | .IfExp c x y _ => some (c, x, y)
  | _ => none
def asTup : Expr → Option (List Expr)
  | .Tuple es _ _ => some es
  | _ => none
def asLst : Expr → Option (List Expr)
  | .List es _ => some es
  | _ => none
def asSub : Expr → Option (Expr × Expr)
  | .Subscript x y _ => some (x, y)
  | _ => none
def asSlice : Expr → Option (Option Expr × Option Expr × Option Expr)
  | .Slice l h s _ => some (l, h, s)
  | _ => none
def asCall : Expr → Option (Expr × List Expr × Pos)
  | .Call f es [] p => some (f, es, p)
  | _ => none
def asAttr : Expr → Option (Expr × Str × Pos)
  | .Attribute e n p => some (e, n, p)
  | _ => none
def asComp : Expr → Option (Expr × Expr × Expr × List Expr × Scope)
  | .ListComp e [⟨t, i, ifs, 0⟩] scope _ => some (e, t, i, ifs, scope)
  | _ => none
theorem asName_eq {e : Expr} {x : Str} (h : asName e = some x) : ∃ p, e = .Name x p := by cases e <;> first | (cases h; done) | (cases h; exact ⟨_, rfl⟩)
theorem asConst_eq {e : Expr} {x : Const} (h : asConst e = some x) : ∃ j p, e = .Constant x j p := by cases e <;> first | (cases h; done) | (cases h; exact ⟨_, _, rfl⟩)
theorem asBin_eq {e : Expr} {op : Operator} {x y : Expr} (h : asBin e = some (op, x, y)) : ∃ p, e = .BinOp x op y p := by cases e <;> first | (cases h; done) | (cases h; exact ⟨_, rfl⟩)
theorem asUn_eq {e : Expr} {op : UnaryOp} {x : Expr} (h : asUn e = some (op, x)) : ∃ p, e = .UnaryOp op x p := by cases e <;> first | (cases h; done) | (cases h; exact ⟨_, rfl⟩)
theorem asBool_eq {e : Expr} {op : BoolOp} {vs : List Expr} {p : Pos} (h : asBool e = some (op, vs, p)) : e = .BoolOp op vs p := by cases e <;> first | (cases h; done) | (cases h; rfl)
theorem asCmp_eq {e : Expr} {x : Expr} {os : List CmpOp} {ys : List Expr} (h : asCmp e = some (x, os, ys)) : ∃ p, e = .Compare x os ys p := by cases e <;> first | (cases h; done) | (cases h; exact ⟨_, rfl⟩)
theorem asIfE_eq {e : Expr} {c x y : Expr} (h : asIfE e = some (c, x, y)) : ∃ p, e = .IfExp c x y p := by cases e <;> first | (cases h; done) | (cases h; exact ⟨_, rfl⟩)
theorem asTup_eq {e : Expr} {es : List Expr} (h : asTup e = some es) : ∃ n p, e = .Tuple es n p := by cases e <;> first | (cases h; done) | (cases h; exact ⟨_, _, rfl⟩)
theorem asLst_eq {e : Expr} {es : List Expr} (h : asLst e = some es) : ∃ p, e = .List es p := by cases e <;> first | (cases h; done) | (cases h; exact ⟨_, rfl⟩)
theorem asSub_eq {e : Expr} {x y : Expr} (h : asSub e = some (x, y)) : ∃ p, e = .Subscript x y p := by cases e <;> first | (cases h; done) | (cases h; exact ⟨_, rfl⟩)
theorem asSlice_eq {e : Expr} {a b c : Option Expr} (h : asSlice e = some (a, b, c)) : ∃ p, e = .Slice a b c p := by cases e <;> first | (cases h; done) | (cases h; exact ⟨_, rfl⟩)
theorem asAttr_eq {e : Expr} {x : Expr} {n : Str} {p : Pos} (h : asAttr e = some (x, n, p)) : e = .Attribute x n p := by cases e <;> first | (cases h; done) | (cases h; rfl)
theorem asCall_eq {e : Expr} {f : Expr} {es : List Expr} {p : Pos} (h : asCall e = some (f, es, p)) : e = .Call f es [] p := by
  cases e with
  | Call f' es' ks p' => cases ks <;> cases h; rfl
  | _ => cases h
theorem asComp_eq {e el t i : Expr} {ifs : List Expr} {sc : Scope} (h : asComp e = some (el, t, i, ifs, sc)) : ∃ p, e = .ListComp el [⟨t, i, ifs, 0⟩] sc p := by
  cases e with
  | ListComp e' gs sc' p' =>
    match gs, h with
    | [⟨t', i', ifs', 0⟩], h => cases h; exact ⟨_, rfl⟩
  | _ => cases h
def revB (s : Option Expr × Option Expr × Option Expr) : Bool := match s with
  | (none, none, some st) => (match asUn st with
    | some (.USub, c) => (match asConst c with
      | some (.int m) => decide (m = 1)
      | _ => false)
    | _ => false)
  | _ => false
def isiT (sc : Scope) (T : List String) (c : Expr) : Bool := match T with
  | [T] => (match asName c with
    | some x => decide (x = Str.ofString T) && glB sc x && clNames.contains T
    | none => false)
  | T => (match asTup c with
    | some es => tyNameB sc T es && decide (es.length ≤ 1000)
    | none => false)
def cmpB (op : CmpOp) : Bool := decide (op ≠ .In) && decide (op ≠ .NotIn)
def blkB (N : List Str) (sc scope : Scope) (vs tg : List Nat) (t i : Expr) : Bool := blkC N sc scope (ownOf N vs) && decide ((ownOf N vs).map (·.2) = vs) && chkTg N scope vs tg t && noSet i

mutual
def chkE (N : List Str) (fs : List String) : IE → Scope → Expr → Bool
  | .var i, sc, e => (match asName e with | some x => decide (N[i]? = some x) && visB sc x && !(x == ("__debug__" : Str)) && !(x == ("__classdict__" : Str)) | none => false)
  | .int n, _, e => (match asConst e with | some (.int m) => decide (n = m) | _ => false)
  | .bl b, _, e => (match asConst e with | some (.bool c) => decide (b = c) | _ => false)
  | .str s, _, e => (match asConst e with | some (.str t) => decide (s = t) | _ => false)
  | .non, _, e => (match asConst e with | some .none => true | _ => false)
  | .bin op a b, sc, e => (match asBin e with | some (op', x, y) => decide (op = op') && chkE N fs a sc x && chkE N fs b sc y | none => false)
  | .neg a, sc, e => (match asUn e with | some (.USub, x) => chkE N fs a sc x | _ => false)
  | .not a, sc, e => (match asUn e with | some (.Not, x) => chkE N fs a sc x | _ => false)
  | .and a b, sc, e => (match asBool e with | some (.And, x :: y :: r, p) => chkE N fs a sc x && chkE N fs b sc (.BoolOp .And (y :: r) p) | _ => false)
  | .or a b, sc, e => (match asBool e with | some (.Or, x :: y :: r, p) => chkE N fs a sc x && chkE N fs b sc (.BoolOp .Or (y :: r) p) | _ => false)
  | .one a, sc, e => (match asBool e with | some (_, [x], _) => chkE N fs a sc x | _ => false)
  | .cmp op a b, sc, e => (match asCmp e with | some (x, [op'], [y]) => decide (op = op') && cmpB op && chkE N fs a sc x && chkE N fs b sc y | _ => false)
  | .chn op op' a b c, sc, e => (match asCmp e with | some (x, [o1, o2], [y, z]) => decide (op = o1) && decide (op' = o2) && cmpB op && cmpB op' && chkE N fs a sc x && chkE N fs b sc y && chkE N fs c sc z | _ => false)
  | .ite t a b, sc, e => (match asIfE e with | some (c, x, y) => chkT N fs t sc c && chkE N fs a sc x && chkE N fs b sc y | none => false)
  | .tup xs, sc, e => (match asTup e with | some es => chkA N fs xs sc es | none => false)
  | .lst xs, sc, e => (match asLst e with | some es => chkA N fs xs sc es | none => false)
  | .ix a i, sc, e => (match asSub e with | some (x, y) => noSlice y && chkE N fs a sc x && chkE N fs i sc y | none => false)
  | .sl a lo hi, sc, e => (match asSub e with | some (x, y) => (match asSlice y with | some (l, h, none) => chkE N fs a sc x && chkO N fs lo sc l && chkO N fs hi sc h | _ => false) | none => false)
  | .rev a, sc, e => (match asSub e with | some (x, y) => (match asSlice y with | some s => revB s && chkE N fs a sc x | none => false) | none => false)
  | .isi a T, sc, e => (match asCall e with | some (f, [x, c], _) => (match asName f with | some n => decide (n = Str.ofString "isinstance") && glB sc n && noStar x && isiT sc T c && chkE N fs a sc x | none => false) | _ => false)
  | .blt f xs, sc, e => (match asCall e with | some (g, es, _) => (match asName g with | some x => !(f == .sset) && decide (x = Str.ofString (bfName f)) && glB sc x && chkA N fs xs sc es | none => false) | _ => false)
  | .mth m o xs, sc, e => (match asCall e with | some (g, es, cp) => (match asAttr g with | some (x, n, ap) => decide (n = Str.ofString (mfName m)) && baseB x && decide (ap.endLine = cp.line) && decide (es.length ≤ 2) && (m == .append || m == .pop || m == .extend || m == .insert) && chkE N fs o sc x && chkA N fs xs sc es | none => false) | _ => false)
  | .call f xs, sc, e => (match asCall e with | some (g, es, _) => (match asName g with | some x => fs.contains f && decide (x = Str.ofString f) && glB sc x && !(x == ("__debug__" : Str)) && chkA N fs xs sc es | none => false) | _ => false)
  | .comp elt vs tg it cond, sc, e => (match asComp e with | some (el, t, i, ifs, scope) => blkB N sc scope vs tg t i && chkI N fs it sc i && chkC N fs cond (relS scope sc) ifs && chkE N fs elt (relS scope sc) el | none => false)
  | _, _, _ => false
def chkT (N : List Str) (fs : List String) : IE → Scope → Expr → Bool
  | .not a, sc, e => (match asUn e with | some (.Not, x) => chkT N fs a sc x | _ => false)
  | .and a b, sc, e => (match asBool e with | some (.And, x :: y :: r, p) => chkT N fs a sc x && chkT N fs b sc (.BoolOp .And (y :: r) p) | _ => false)
  | .or a b, sc, e => (match asBool e with | some (.Or, x :: y :: r, p) => chkT N fs a sc x && chkT N fs b sc (.BoolOp .Or (y :: r) p) | _ => false)
  | .one a, sc, e => (match asBool e with | some (_, [x], _) => chkT N fs a sc x | _ => false)
  | .cmp op a b, sc, e => (match asCmp e with | some (x, [op'], [y]) => decide (op = op') && cmpB op && chkE N fs a sc x && chkE N fs b sc y | _ => false)
  | .chn op op' a b c, sc, e => (match asCmp e with | some (x, [o1, o2], [y, z]) => decide (op = o1) && decide (op' = o2) && cmpB op && cmpB op' && chkE N fs a sc x && chkE N fs b sc y && chkE N fs c sc z | _ => false)
  | .var i, sc, e => (match asName e with | some x => decide (N[i]? = some x) && visB sc x && !(x == ("__debug__" : Str)) && !(x == ("__classdict__" : Str)) | none => false)
  | .isi a T, sc, e => (match asCall e with | some (f, [x, c], _) => (match asName f with | some n => decide (n = Str.ofString "isinstance") && glB sc n && noStar x && isiT sc T c && chkE N fs a sc x | none => false) | _ => false)
  | .blt f xs, sc, e => (match asCall e with | some (g, es, _) => (match asName g with | some x => !(f == .sset) && decide (x = Str.ofString (bfName f)) && glB sc x && chkA N fs xs sc es | none => false) | _ => false)
  | .call f xs, sc, e => (match asCall e with | some (g, es, _) => (match asName g with | some x => fs.contains f && decide (x = Str.ofString f) && glB sc x && !(x == ("__debug__" : Str)) && chkA N fs xs sc es | none => false) | _ => false)
  | _, _, _ => false
def chkA (N : List Str) (fs : List String) : IE → Scope → List Expr → Bool
  | .nil, _, [] => true
  | .cons a r, sc, e :: es => noStar e && chkE N fs a sc e && chkA N fs r sc es
  | _, _, _ => false
def chkC (N : List Str) (fs : List String) : IE → Scope → List Expr → Bool
  | .nil, _, [] => true
  | .cons a _, sc, [e] => chkT N fs a sc e
  | _, _, _ => false
def chkO (N : List Str) (fs : List String) : IE → Scope → Option Expr → Bool
  | .nil, _, none => true
  | .cons a _, sc, some e => chkE N fs a sc e
  | _, _, _ => false
def chkI (N : List Str) (fs : List String) : IE → Scope → Expr → Bool
  | .rng1 a, sc, e => (match asCall e with | some (g, [x], _) => (match asName g with | some n => decide (n = Str.ofString "range") && glB sc n && noStar x && chkE N fs a sc x | none => false) | _ => false)
  | .rng2 a b, sc, e => (match asCall e with | some (g, [x, y], _) => (match asName g with | some n => decide (n = Str.ofString "range") && glB sc n && noStar x && noStar y && chkE N fs a sc x && chkE N fs b sc y | none => false) | _ => false)
  | .cons a _, sc, e => chkE N fs a sc e
  | _, _, _ => false
end
end DL

set_option Elab.async false
set_option linter.all false
set_option maxRecDepth 100000
set_option maxHeartbeats 4000000
namespace DL
open PySem L2 PySem.Spec PyProof.Rows

abbrev LfB (K : Frg) (H : Hp) (A : List Addr) (Q : Bool → Mem → Prop) (κ : Bool → Hp → Prop) : Prop := ∀ d M' H' A', Q d M' → Stp H A H' A' → Rm K H' A' M' → κ d H'
abbrev LfO (K : Frg) (H : Hp) (A : List Addr) (Q : Option Int → Mem → Prop) (κ : Option Int → Hp → Prop) : Prop := ∀ d M' H' A', Q d M' → Stp H A H' A' → Rm K H' A' M' → κ d H'
abbrev LfA (K : Frg) (H : Hp) (A : List Addr) (Q : List D → Mem → Prop) (κ : List V → Hp → Prop) : Prop := ∀ ds M' vs H' A', Q ds M' → Stp H A H' A' → Rm K H' A' M' → RpL K H' A' vs ds → κ vs H'
structure Rs (K : Frg) (H : Hp) (A : List Addr) (σ : L2.St) (ρ : En) : Prop where
  len : σ.length = ρ.length
  get : ∀ i d, getV ρ i = some d → ∃ v, σ[i]? = some (some v) ∧ Rp K H A v d
theorem Rs.stp {K : Frg} {H H' : Hp} {A A' : List Addr} {M : Mem} {σ : L2.St} {ρ : En} (r : Rs K H A σ ρ) (m : Rm K H A M) (s : Stp H A H' A') : Rs K H' A' σ ρ :=
  ⟨r.len, fun i d e => let ⟨v, h, q⟩ := r.get i d e; ⟨v, h, q.stp m s⟩⟩

def rdE (G : Gam) (K : Frg) (ie : IE) : TE := fun σ H κ => ∃ A ρ M Q, Rs K H A σ ρ ∧ Rm K H A M ∧ wpE G ie ρ M Q ∧ Lf K H A Q κ
def rdT (G : Gam) (K : Frg) (ie : IE) : TT := fun σ H κ => ∃ A ρ M Q, Rs K H A σ ρ ∧ Rm K H A M ∧ wpT G ie ρ M Q ∧ LfB K H A Q κ
def rdC (G : Gam) (K : Frg) (ie : IE) : TT := fun σ H κ => ∃ A ρ M Q, Rs K H A σ ρ ∧ Rm K H A M ∧ wpC G ie ρ M Q ∧ LfB K H A Q κ
def rdO (G : Gam) (K : Frg) (ie : IE) : TO := fun σ H κ => ∃ A ρ M Q, Rs K H A σ ρ ∧ Rm K H A M ∧ wpO G ie ρ M Q ∧ LfO K H A Q κ
def rdA (G : Gam) (K : Frg) (ie : IE) : TA := fun σ H κ => ∃ A ρ M Q, Rs K H A σ ρ ∧ Rm K H A M ∧ wpA G ie ρ M Q ∧ LfA K H A Q κ
/-- an iterator that walks what the source holds -/
structure ItR (K : Frg) (H1 : Hp) (A1 : List Addr) (src : Src) (J : It) : Prop where
  go : ∀ H A M xs (i : Nat) x, Stp H1 A1 H A → Rm K H A M → items M src = some xs → xs[i]? = some x → J.go i H
  stop : ∀ H A M xs (i : Nat), Stp H1 A1 H A → Rm K H A M → items M src = some xs → xs.length ≤ i → J.stop i H
  yld : ∀ H A M xs (i : Nat) x v H', Stp H1 A1 H A → Rm K H A M → items M src = some xs → xs[i]? = some x → J.yld i H v H' → Stp H A H' A ∧ Rm K H' A M ∧ Rp K H' A v x
def rdI (G : Gam) (K : Frg) (ie : IE) : TI := fun σ H R => ∃ A ρ M Q, Rs K H A σ ρ ∧ Rm K H A M ∧ wpI G ie ρ M Q ∧ ∀ src M' H' A' J, Q src M' → Stp H A H' A' → Rm K H' A' M' → ItR K H' A' src J → (∃ xs, items M' src = some xs) → R J H'

theorem _root_.L2.PE.weak {X : Cx} {e : Expr} {t t' : TE} (h : PE X e t) (w : ∀ σ H κ, t' σ H κ → t σ H κ) : PE X e t' := ⟨fun pins s σ H κ I q => h.run pins s σ H κ I (w σ H κ q)⟩
theorem _root_.L2.PT.weak {X : Cx} {e : Expr} {t t' : TT} (h : PT X e t) (w : ∀ σ H κ, t' σ H κ → t σ H κ) : PT X e t' := ⟨fun pins s σ H κ I q => h.run pins s σ H κ I (w σ H κ q)⟩
theorem _root_.L2.PW.weak {X : Cx} {e : Expr} {t t' : TT} (h : PW X e t) (w : ∀ σ H κ, t' σ H κ → t σ H κ) : PW X e t' := ⟨fun wh pins s σ H κ I q => h.run wh pins s σ H κ I (w σ H κ q)⟩
theorem _root_.L2.PTs.weak {X : Cx} {e : List Expr} {t t' : TT} (h : PTs X e t) (w : ∀ σ H κ, t' σ H κ → t σ H κ) : PTs X e t' := ⟨fun pins s σ H κ I q => h.run pins s σ H κ I (w σ H κ q)⟩
theorem _root_.L2.PA.weak {X : Cx} {e : List Expr} {t t' : TA} (h : PA X e t) (w : ∀ σ H κ, t' σ H κ → t σ H κ) : PA X e t' := ⟨fun pos pins s σ H κ I q => h.run pos pins s σ H κ I (w σ H κ q)⟩
theorem _root_.L2.PO.weak {X : Cx} {e : Option Expr} {t t' : TO} (h : PO X e t) (w : ∀ σ H κ, t' σ H κ → t σ H κ) : PO X e t' := ⟨fun pins s σ H κ I q => h.run pins s σ H κ I (w σ H κ q)⟩
theorem _root_.L2.PI.weak {X : Cx} {tg e : Expr} {t t' : TI} (h : PI X tg e t) (w : ∀ σ H κ, t' σ H κ → t σ H κ) : PI X tg e t' := ⟨fun pins s σ H κ I q => h.run pins s σ H κ I (w σ H κ q)⟩

/-! defs -/
structure FnG (P : Program) (w : World) (K : Frg) (mg : Str → Option Value) (base : Heap) (k : Nat) (f : Addr) (fd : FuncData) (ps : List Str) (S : DSpec) : Prop where
  len : ∀ ds M Q, S ds M Q → ds.length = ps.length
  run : ∀ (A : Around) (outer : List Env) (s : Shared) (H : Hp) (args : Args) (us : List Value) (vs : List V) (Ad : List Addr) (ds : List D) (M : Mem) (Q : Kn) (κ : VK),
    A.guards = some [] → Room k A → Env0 P w K mg base A outer s H → BindsTo s fd args (ps.zip us) → Vals vs us → RpL K H Ad vs ds → Rm K H Ad M → S ds M Q → Lf K H Ad Q κ →
    codeAny (model P w) A (.call (.ref f) args) (CR CX0 outer P w H s κ E0) s
structure FnD (G : Gam) (P : Program) (w : World) (K : Frg) (mg : Str → Option Value) (base : Heap) (k : Nat) (f : String) : Prop where
  ex : ∃ addr fd ps, mg (Str.ofString f) = some (.ref addr) ∧ PySem.W.keepIn K (.ref addr) = true ∧ Binds K fd ps [] ∧ FnG P w K mg base k addr fd ps (G f)
structure Good (G : Gam) (fs : List String) (k : Nat) (X : Cx) : Prop where
  calm : X.calm = true
  nd : X.N.Nodup
  gd : X.A.guards = some []
  room : Room k X.A
  bi : ∀ x ∈ bNames, X.mg (Str.ofString x) = none
  fn : ∀ f ∈ fs, FnD G X.prog X.w X.K X.mg X.base k f

section
variable {X : Cx} {G : Gam} {fs : List String} {k : Nat} {pos p : Pos}
theorem Good.un (g : Good G fs k X) : X.A.units + 64 < cLine := g.room.units
theorem Good.un2 (g : Good G fs k X) : X.A.units + 65 < cLine := by have := g.room.un; omega
theorem s_var {i : Nat} {x : Str} (hN : X.N[i]? = some x) (hv : visB X.env.scope x = true) (h1 : (x == ("__debug__" : Str)) = false) (h2 : (x == ("__classdict__" : Str)) = false) : PE X (.Name x pos) (rdE G X.K (.var i)) := by
  refine (pe_var hN ?_ h1 h2).weak fun σ H κ ⟨A, ρ, M, Q, hs, hm, hw, hl⟩ => ?_
  · unfold visB at hv
    split at hv <;> first | exact .inl (by assumption) | exact .inr (.inl (by assumption)) | exact .inr (.inr (by assumption)) | cases hv
  · have hw' : onV (getV ρ i) fun d => Q d M := hw
    cases e : getV ρ i with
    | none => rw [e] at hw'; exact hw'.elim
    | some d =>
      rw [e] at hw'
      obtain ⟨v, h, r⟩ := hs.get i d e
      exact ⟨v, h, hl.now hm r hw'⟩
variable {x y z : Expr} {a b c : IE}
theorem s_bin {op : Operator} (ha : PE X x (rdE G X.K a)) (hb : PE X y (rdE G X.K b)) : PE X (.BinOp x op y pos) (rdE G X.K (.bin op a b)) :=
  (pe_op (opD_bin op) ha hb).weak fun σ H κ ⟨A, ρ, M, Q, hs, hm, hw, hl⟩ => ⟨A, ρ, M, _, hs, hm, hw, fun d1 M1 v1 H1 A1 q1 s1 m1 r1 =>
    ⟨A1, ρ, M1, _, hs.stp hm s1, m1, q1, fun d2 M2 v2 H2 A2 q2 s2 m2 r2 => ⟨A2, M2, d1, d2, _, r1.stp m1 s2, r2, m2, q2, (hl.stp s1).stp s2⟩⟩⟩
theorem s_neg (ha : PE X x (rdE G X.K a)) : PE X (.UnaryOp .USub x pos) (rdE G X.K (.neg a)) :=
  (pe_un un_neg ha).weak fun σ H κ ⟨A, ρ, M, Q, hs, hm, hw, hl⟩ => ⟨A, ρ, M, _, hs, hm, hw, fun d1 M1 v1 H1 A1 ⟨i, e, q1⟩ s1 m1 r1 => by
    subst e; cases r1; exact ⟨i, rfl, (hl.stp s1).int m1 q1⟩⟩
theorem s_not (ha : PE X x (rdE G X.K a)) : PE X (.UnaryOp .Not x pos) (rdE G X.K (.not a)) :=
  (pe_not ha).weak fun σ H κ ⟨A, ρ, M, Q, hs, hm, hw, hl⟩ => ⟨A, ρ, M, _, hs, hm, hw, fun d1 M1 v1 H1 A1 ⟨i, e, q1⟩ s1 m1 r1 => by
    subst e; cases r1; exact ⟨i, rfl, (hl.stp s1).bl m1 q1⟩⟩
theorem s_and {r : List Expr} (ha : PE X x (rdE G X.K a)) (hb : PE X (.BoolOp .And (y :: r) pos) (rdE G X.K b)) : PE X (.BoolOp .And (x :: y :: r) pos) (rdE G X.K (.and a b)) :=
  (pe_and ha hb).weak fun σ H κ ⟨A, ρ, M, Q, hs, hm, hw, hl⟩ => ⟨A, ρ, M, _, hs, hm, hw, fun d1 M1 v1 H1 A1 ⟨i, e, q1⟩ s1 m1 r1 => by
    subst e; cases r1
    refine ⟨i, rfl, ?_⟩
    cases i with
    | true => exact ⟨A1, ρ, M1, Q, hs.stp hm s1, m1, q1, hl.stp s1⟩
    | false => exact (hl.stp s1).bl m1 q1⟩
theorem s_or {r : List Expr} (ha : PE X x (rdE G X.K a)) (hb : PE X (.BoolOp .Or (y :: r) pos) (rdE G X.K b)) : PE X (.BoolOp .Or (x :: y :: r) pos) (rdE G X.K (.or a b)) :=
  (pe_or ha hb).weak fun σ H κ ⟨A, ρ, M, Q, hs, hm, hw, hl⟩ => ⟨A, ρ, M, _, hs, hm, hw, fun d1 M1 v1 H1 A1 ⟨i, e, q1⟩ s1 m1 r1 => by
    subst e; cases r1
    refine ⟨i, rfl, ?_⟩
    cases i with
    | false => exact ⟨A1, ρ, M1, Q, hs.stp hm s1, m1, q1, hl.stp s1⟩
    | true => exact (hl.stp s1).bl m1 q1⟩
theorem s_one {op : BoolOp} (ha : PE X x (rdE G X.K a)) : PE X (.BoolOp op [x] pos) (rdE G X.K (.one a)) := (pe_one ha).weak fun σ H κ h => h
theorem s_cmp {op : CmpOp} (g : Good G fs k X) (h1 : op ≠ .In) (h2 : op ≠ .NotIn) (ha : PE X x (rdE G X.K a)) (hb : PE X y (rdE G X.K b)) : PE X (.Compare x [op] [y] pos) (rdE G X.K (.cmp op a b)) :=
  (pe_cmpR (opD_cmp op g.un ⟨h1, h2⟩) ha hb (nomark _ h1 h2)).weak fun σ H κ ⟨A, ρ, M, Q, hs, hm, hw, hl⟩ => ⟨A, ρ, M, _, hs, hm, hw, fun d1 M1 v1 H1 A1 q1 s1 m1 r1 =>
    ⟨A1, ρ, M1, _, hs.stp hm s1, m1, q1, fun d2 M2 v2 H2 A2 q2 s2 m2 r2 => ⟨A2, M2, d1, d2, _, r1.stp m1 s2, r2, m2, q2, (hl.stp s1).stp s2⟩⟩⟩
theorem t_cmp {op : CmpOp} (g : Good G fs k X) (h1 : op ≠ .In) (h2 : op ≠ .NotIn) (ha : PE X x (rdE G X.K a)) (hb : PE X y (rdE G X.K b)) : PT X (.Compare x [op] [y] pos) (rdT G X.K (.cmp op a b)) :=
  (pt_cmpR (opD_cmp op g.un ⟨h1, h2⟩) ha hb (nomark _ h1 h2)).weak fun σ H κ ⟨A, ρ, M, Q, hs, hm, hw, hl⟩ => ⟨A, ρ, M, _, hs, hm, hw, fun d1 M1 v1 H1 A1 q1 s1 m1 r1 =>
    ⟨A1, ρ, M1, _, hs.stp hm s1, m1, q1, fun d2 M2 v2 H2 A2 q2 s2 m2 r2 => ⟨A2, M2, d1, d2, _, r1.stp m1 s2, r2, m2, q2, fun d3 M3 v3 H3 A3 ⟨i, e, q3⟩ s3 m3 r3 => by
      subst e; cases r3
      exact ⟨i, rfl, hl i M3 H3 A3 q3 ((s1.trans s2).trans s3) m3⟩⟩⟩⟩
theorem s_chn {op op' : CmpOp} (g : Good G fs k X) (h1 : op ≠ .In) (h2 : op ≠ .NotIn) (h3 : op' ≠ .In) (h4 : op' ≠ .NotIn) (ha : PE X x (rdE G X.K a)) (hb : PE X y (rdE G X.K b)) (hc : PE X z (rdE G X.K c)) :
    PE X (.Compare x [op, op'] [y, z] pos) (rdE G X.K (.chn op op' a b c)) := by
  refine (pe_chain (opD_cmp op g.un ⟨h1, h2⟩) (opD_cmp op' g.un ⟨h3, h4⟩) ha hb hc (nomark _ h3 h4)).weak fun σ H κ ⟨A, ρ, M, Q, hs, hm, hw, hl⟩ => ⟨A, ρ, M, _, hs, hm, hw, fun d1 M1 v1 H1 A1 q1 s1 m1 r1 =>
    ⟨A1, ρ, M1, _, hs.stp hm s1, m1, q1, fun d2 M2 v2 H2 A2 q2 s2 m2 r2 => ⟨A2, M2, d1, d2, _, r1.stp m1 s2, r2, m2, q2, fun d3 M3 v3 H3 A3 ⟨i, e, q3⟩ s3 m3 r3 => ?_⟩⟩⟩
  subst e; cases r3
  refine ⟨i, rfl, ?_⟩
  have s12 := (s1.trans s2).trans s3
  cases i with
  | false => exact (hl.stp s12).bl m3 q3
  | true => exact ⟨A3, ρ, M3, _, hs.stp hm s12, m3, q3, fun d4 M4 v4 H4 A4 q4 s4 m4 r4 => ⟨A4, M4, d2, d4, _, (r2.stp m2 s3).stp m3 s4, r4, m4, q4, (hl.stp s12).stp s4⟩⟩
theorem t_chn {op op' : CmpOp} (g : Good G fs k X) (h1 : op ≠ .In) (h2 : op ≠ .NotIn) (h3 : op' ≠ .In) (h4 : op' ≠ .NotIn) (ha : PE X x (rdE G X.K a)) (hb : PE X y (rdE G X.K b)) (hc : PE X z (rdE G X.K c)) :
    PT X (.Compare x [op, op'] [y, z] pos) (rdT G X.K (.chn op op' a b c)) := by
  refine (pt_chain (opD_cmp op g.un ⟨h1, h2⟩) (opD_cmp op' g.un ⟨h3, h4⟩) ha hb hc (nomark _ h3 h4)).weak fun σ H κ ⟨A, ρ, M, Q, hs, hm, hw, hl⟩ => ⟨A, ρ, M, _, hs, hm, hw, fun d1 M1 v1 H1 A1 q1 s1 m1 r1 =>
    ⟨A1, ρ, M1, _, hs.stp hm s1, m1, q1, fun d2 M2 v2 H2 A2 q2 s2 m2 r2 => ⟨A2, M2, d1, d2, _, r1.stp m1 s2, r2, m2, q2, fun d3 M3 v3 H3 A3 ⟨i, e, q3⟩ s3 m3 r3 => ?_⟩⟩⟩
  subst e; cases r3
  refine ⟨i, rfl, ?_⟩
  have s12 := (s1.trans s2).trans s3
  cases i with
  | false => exact ⟨false, rfl, hl false M3 H3 A3 q3 s12 m3⟩
  | true => exact ⟨A3, ρ, M3, _, hs.stp hm s12, m3, q3, fun d4 M4 v4 H4 A4 q4 s4 m4 r4 => ⟨A4, M4, d2, d4, _, (r2.stp m2 s3).stp m3 s4, r4, m4, q4, fun d5 M5 v5 H5 A5 ⟨j, e, q5⟩ s5 m5 r5 => by
      subst e; cases r5
      exact ⟨j, rfl, hl j M5 H5 A5 q5 ((s12.trans s4).trans s5) m5⟩⟩⟩
theorem s_ite {t : IE} (ht : PT X z (rdT G X.K t)) (ha : PE X x (rdE G X.K a)) (hb : PE X y (rdE G X.K b)) : PE X (.IfExp z x y pos) (rdE G X.K (.ite t a b)) :=
  (pe_ifExp ht ha hb).weak fun σ H κ ⟨A, ρ, M, Q, hs, hm, hw, hl⟩ => ⟨A, ρ, M, _, hs, hm, hw, fun i M1 H1 A1 q1 s1 m1 => by
    cases i with
    | true => exact ⟨A1, ρ, M1, Q, hs.stp hm s1, m1, q1, hl.stp s1⟩
    | false => exact ⟨A1, ρ, M1, Q, hs.stp hm s1, m1, q1, hl.stp s1⟩⟩
variable {es : List Expr} {xs : IE}
theorem s_tup {n : Nat} (ha : PA X es (rdA G X.K xs)) : PE X (.Tuple es n pos) (rdE G X.K (.tup xs)) :=
  (pe_tup ha).weak fun σ H κ ⟨A, ρ, M, Q, hs, hm, hw, hl⟩ => ⟨A, ρ, M, _, hs, hm, hw, fun ds M1 vs H1 A1 ⟨hz, q1⟩ s1 m1 r1 => ⟨by rw [r1.length]; exact hz, fun p hp => (hl.stp s1).newT m1 r1 q1 p hp⟩⟩
theorem s_lst (ha : PA X es (rdA G X.K xs)) : PE X (.List es pos) (rdE G X.K (.lst xs)) :=
  (pe_lst ha).weak fun σ H κ ⟨A, ρ, M, Q, hs, hm, hw, hl⟩ => ⟨A, ρ, M, _, hs, hm, hw, fun ds M1 vs H1 A1 ⟨hz, q1⟩ s1 m1 r1 => ⟨by rw [r1.length]; exact hz, fun p hp => (hl.stp s1).newL m1 r1 q1 p hp⟩⟩
theorem plainIx (h : noSlice y = true) : PlainIx y := by
  intro o i
  cases y <;> first | rfl | cases h
theorem s_ix (hy : noSlice y = true) (ha : PE X x (rdE G X.K a)) (hb : PE X y (rdE G X.K b)) : PE X (.Subscript x y pos) (rdE G X.K (.ix a b)) :=
  (pe_ix ixD_ok ha hb (plainIx hy)).weak fun σ H κ ⟨A, ρ, M, Q, hs, hm, hw, hl⟩ => ⟨A, ρ, M, _, hs, hm, hw, fun d1 M1 v1 H1 A1 q1 s1 m1 r1 =>
    ⟨A1, ρ, M1, _, hs.stp hm s1, m1, q1, fun d2 M2 v2 H2 A2 q2 s2 m2 r2 => ⟨A2, M2, d1, d2, _, r1.stp m1 s2, r2, m2, q2, (hl.stp s1).stp s2⟩⟩⟩
theorem s_sl {l h : Option Expr} (ha : PE X x (rdE G X.K a)) (hb : PO X l (rdO G X.K b)) (hc : PO X h (rdO G X.K c)) : PE X (.Subscript x (.Slice l h none p) pos) (rdE G X.K (.sl a b c)) :=
  (pe_slice slD_ok ha hb hc).weak fun σ H κ ⟨A, ρ, M, Q, hs, hm, hw, hl⟩ => ⟨A, ρ, M, _, hs, hm, hw, fun d1 M1 v1 H1 A1 q1 s1 m1 r1 =>
    ⟨A1, ρ, M1, _, hs.stp hm s1, m1, q1, fun d2 M2 H2 A2 q2 s2 m2 => ⟨A2, ρ, M2, _, (hs.stp hm s1).stp m1 s2, m2, q2, fun d3 M3 H3 A3 q3 s3 m3 =>
      ⟨A3, M3, d1, _, (r1.stp m1 s2).stp m2 s3, m3, q3, ((hl.stp s1).stp s2).stp s3⟩⟩⟩⟩
theorem a_nil : PA X [] (rdA G X.K .nil) := pa_nil.weak fun σ H κ ⟨A, ρ, M, Q, hs, hm, hw, hl⟩ => hl [] M [] H A hw (Stp.refl H A) hm .nil
theorem star_of {env : Env} (h : noStar x = true) : starEach (x :: es) env = (false, eval x env) :: starEach es env := by
  cases x <;> first | rfl | cases h
theorem a_cons {r : IE} (hx : noStar x = true) (ha : PE X x (rdE G X.K a)) (hr : PA X es (rdA G X.K r)) : PA X (x :: es) (rdA G X.K (.cons a r)) :=
  (pa_cons ha hr (star_of hx)).weak fun σ H κ ⟨A, ρ, M, Q, hs, hm, hw, hl⟩ => ⟨A, ρ, M, _, hs, hm, hw, fun d1 M1 v1 H1 A1 q1 s1 m1 r1 =>
    ⟨A1, ρ, M1, _, hs.stp hm s1, m1, q1, fun ds M2 vs H2 A2 q2 s2 m2 r2 => hl _ M2 _ H2 A2 q2 (s1.trans s2) m2 (.cons (r1.stp m1 s2) r2)⟩⟩
end
end DL

set_option Elab.async false
set_option linter.all false
set_option maxRecDepth 100000
set_option maxHeartbeats 4000000
namespace DL
open PySem L2 PySem.Spec PyProof.Rows
section
variable {X : Cx} {G : Gam} {fs : List String} {k : Nat} {pos p q : Pos} {x y z : Expr} {a b c : IE} {es : List Expr} {xs : IE}

/-! tests -/
theorem t_and {r : List Expr} (ha : PT X x (rdT G X.K a)) (hb : PW X (.BoolOp .And (y :: r) pos) (rdT G X.K b)) : PW X (.BoolOp .And (x :: y :: r) pos) (rdT G X.K (.and a b)) :=
  (pw_and ha hb).weak fun σ H κ ⟨A, ρ, M, Q, hs, hm, hw, hl⟩ => ⟨A, ρ, M, _, hs, hm, hw, fun i M1 H1 A1 q1 s1 m1 => by
    cases i with
    | true => exact ⟨A1, ρ, M1, Q, hs.stp hm s1, m1, q1, fun j M2 H2 A2 q2 s2 m2 => hl j M2 H2 A2 q2 (s1.trans s2) m2⟩
    | false => exact hl false M1 H1 A1 q1 s1 m1⟩
theorem t_or {r : List Expr} (ha : PT X x (rdT G X.K a)) (hb : PW X (.BoolOp .Or (y :: r) pos) (rdT G X.K b)) : PW X (.BoolOp .Or (x :: y :: r) pos) (rdT G X.K (.or a b)) :=
  (pw_or ha hb).weak fun σ H κ ⟨A, ρ, M, Q, hs, hm, hw, hl⟩ => ⟨A, ρ, M, _, hs, hm, hw, fun i M1 H1 A1 q1 s1 m1 => by
    cases i with
    | false => exact ⟨A1, ρ, M1, Q, hs.stp hm s1, m1, q1, fun j M2 H2 A2 q2 s2 m2 => hl j M2 H2 A2 q2 (s1.trans s2) m2⟩
    | true => exact hl true M1 H1 A1 q1 s1 m1⟩
theorem t_one {op : BoolOp} (ha : PT X x (rdT G X.K a)) : PW X (.BoolOp op [x] pos) (rdT G X.K (.one a)) := by
  cases op with
  | And => exact (pw_and1 ha).weak fun σ H κ h => h
  | Or => exact (pw_or1 ha).weak fun σ H κ h => h
theorem t_not (ha : PT X x (rdT G X.K a)) : PT X (.UnaryOp .Not x pos) (rdT G X.K (.not a)) :=
  (pt_not ha).weak fun σ H κ ⟨A, ρ, M, Q, hs, hm, hw, hl⟩ => ⟨A, ρ, M, _, hs, hm, hw, fun i M1 H1 A1 q1 s1 m1 => hl (!i) M1 H1 A1 q1 s1 m1⟩
/-- a value that is a truth, as a test -/
theorem t_val (ha : PE X x (rdE G X.K a)) (he : ∀ whole, isTrue x X.env whole = (do let v ← whole; standAt x.pos; holding [v] (truthy v)))
    (hw : ∀ ρ M Q, wpT G a ρ M Q → wpE G a ρ M fun d M2 => ∃ c, d = .bl c ∧ Q c M2) : PT X x (rdT G X.K a) :=
  (pt_val ha he).weak fun σ H κ ⟨A, ρ, M, Q, hs, hm, w, hl⟩ => ⟨A, ρ, M, _, hs, hm, hw _ _ _ w, fun d M1 v H1 A1 ⟨i, e, q1⟩ s1 m1 r1 => by
    subst e; cases r1; exact ⟨i, rfl, hl i M1 H1 A1 q1 s1 m1⟩⟩

/-! isinstance -/
theorem glB_ok {x : Str} (h : glB X.env.scope x = true) : Gl X x := by
  unfold glB at h
  split at h
  · assumption
  · cases h
theorem mem_b {x : String} (h : x ∈ bNames) (g : Good G fs k X) : X.mg (Str.ofString x) = none := g.bi x h
theorem ty_glob {T : String} (g : Good G fs k X) (hT : T ∈ clNames) (hg : glB X.env.scope (Str.ofString T) = true) : PE X (.Name (Str.ofString T) pos) (tC (.ty T)) := by
  simp only [clNames, List.mem_cons, List.not_mem_nil, or_false] at hT
  rcases hT with rfl | rfl | rfl | rfl | rfl <;> exact pe_bltn (glB_ok hg) (g.bi _ (by decide)) (by decide +kernel) rfl (by decide +kernel) (by decide +kernel)
theorem s_isi {T : String} (g : Good G fs k X) (h1 : glB X.env.scope (Str.ofString "isinstance") = true) (h2 : glB X.env.scope (Str.ofString T) = true) (hT : T ∈ clNames) (hx : noStar x = true) (ha : PE X x (rdE G X.K a)) :
    PE X (.Call (.Name (Str.ofString "isinstance") p) [x, .Name (Str.ofString T) q] [] pos) (rdE G X.K (.isi a [T])) :=
  (pe_callB isiD_ok (glB_ok h1) (g.bi _ (by decide)) (by decide +kernel) (pa_cons ha (pa_cons (ty_glob g hT h2) pa_nil) (star_of hx)) (by decide +kernel) (by decide +kernel) (star_of hx)).weak fun σ H κ ⟨A, ρ, M, Q, hs, hm, hw, hl⟩ =>
    ⟨A, ρ, M, _, hs, hm, hw, fun d1 M1 v1 H1 A1 ⟨i, e, q1⟩ s1 m1 r1 => ⟨A1, M1, d1, v1, T, i, _, rfl, hT, r1, m1, e, q1, hl.stp s1⟩⟩
theorem tys_pa (g : Good G fs k X) : ∀ (T : List String) (es : List Expr), tyNameB X.env.scope T es = true → (∀ c ∈ T, c ∈ clNames) ∧ PA X es (fun σ H Q => Q (T.map V.ty) H)
  | [], [], _ => ⟨fun _ h => (by cases h), pa_nil.weak fun _ _ _ h => h⟩
  | [], _ :: _, h => by simp [tyNameB] at h
  | _ :: _, [], h => by simp [tyNameB] at h
  | T :: r, e :: es, h => by
    cases e with
    | Name x px =>
      simp only [tyNameB, Bool.and_eq_true, decide_eq_true_eq, List.contains_iff_mem] at h
      obtain ⟨⟨⟨rfl, h2⟩, h3⟩, h4⟩ := h
      obtain ⟨i1, i2⟩ := tys_pa g r es h4
      refine ⟨fun c hc => ?_, (pa_cons (ty_glob g h3 h2) i2).weak fun σ H Q h => h⟩
      rcases List.mem_cons.mp hc with rfl | hc
      · exact h3
      · exact i1 c hc
    | _ => simp [tyNameB] at h
theorem tys_len {sc : Scope} : ∀ {T : List String} {es : List Expr}, tyNameB sc T es = true → T.length = es.length
  | [], [], _ => rfl
  | [], _ :: _, h => by simp [tyNameB] at h
  | _ :: _, [], h => by simp [tyNameB] at h
  | T :: r, e :: es, h => by
    cases e with
    | Name x px =>
      simp only [tyNameB, Bool.and_eq_true] at h
      simp [tys_len h.2]
    | _ => simp [tyNameB] at h
theorem s_isiT {T : List String} {n : Nat} (g : Good G fs k X) (h1 : glB X.env.scope (Str.ofString "isinstance") = true) (hT : tyNameB X.env.scope T es = true) (hn : T.length ≤ sizeLine) (hx : noStar x = true) (ha : PE X x (rdE G X.K a)) :
    PE X (.Call (.Name (Str.ofString "isinstance") p) [x, .Tuple es n q] [] pos) (rdE G X.K (.isi a T)) := by
  obtain ⟨hc, hp⟩ := tys_pa g T es hT
  refine (pe_callB (isiT_ok (T := T)) (glB_ok h1) (g.bi _ (by decide)) (by decide +kernel) (pa_cons ha (pa_cons (pe_tup hp) pa_nil) (star_of hx)) (by decide +kernel) (by decide +kernel) (star_of hx)).weak fun σ H κ ⟨A, ρ, M, Q, hs, hm, hw, hl⟩ =>
    ⟨A, ρ, M, _, hs, hm, hw, fun d1 M1 v1 H1 A1 ⟨i, e, q1⟩ s1 m1 r1 => ⟨by rw [List.length_map]; exact hn, fun tp htp => ?_⟩⟩
  have s2 := stp_upd (o := .tup (T.map V.ty)) m1 htp
  exact ⟨A1, M1, d1, v1, tp, i, _, rfl, upd_same, hc, r1.stp m1 s2, rm_upd m1 htp, e, q1, (hl.stp s1).stp s2⟩

/-! built-in functions, methods, calls -/
def bfTy : BF → Bool
  | .str => true | .int => true | .list => true | .tuple => true | _ => false
theorem any_star {env : Env} : ∀ {es : List Expr} {xs : IE} {N : List Str} {fs : List String} {sc : Scope}, chkA N fs xs sc es = true → (backTo pos (starEach es env)).any (·.1) = false
  | [], _, _, _, _, _ => rfl
  | e :: es, xs, N, fs, sc, h => by
    cases xs with
    | cons a r =>
      simp only [chkA, Bool.and_eq_true] at h
      rw [star_of h.1.1]
      have ih := @any_star env es r N fs sc h.2
      unfold backTo at ih ⊢
      rw [List.map_cons, List.any_cons, ih]
      rfl
    | _ => simp [chkA] at h
theorem chkA_star {N : List Str} {sc : Scope} {e : Expr} (h : chkA N fs xs sc (e :: es) = true) : noStar e = true := by
  cases xs with
  | cons a r =>
    simp only [chkA, Bool.and_eq_true] at h
    exact h.1.1
  | _ => simp [chkA] at h
theorem chkA_tail {N : List Str} {sc : Scope} {e : Expr} (h : chkA N fs xs sc (e :: es) = true) : ∃ a r, xs = .cons a r ∧ chkA N fs r sc es = true := by
  cases xs with
  | cons a r =>
    simp only [chkA, Bool.and_eq_true] at h
    exact ⟨a, r, rfl, h.2⟩
  | _ => simp [chkA] at h
theorem wp_nil_no {f : BF} {ρ : En} {M : Mem} {Q : Kn} (h : wpE G (.blt f .nil) ρ M Q) : False := by
  have h' : bfD f [] M Q := h
  cases f <;> exact h'
theorem chkA_nil {N : List Str} {sc : Scope} (h : chkA N fs xs sc [] = true) : xs = .nil := by
  cases xs <;> first | rfl | simp [chkA] at h
theorem blt_ok (g : Good G fs k X) (f : BF) (hf : f ≠ .sset) : ∃ v, bootBuiltins (Str.ofString (bfName f)) = some v ∧ CallR X v (rC X.K (bfD f)) ∧ ((∃ id, v = .builtin id) ∨ ∃ T, v = .type T) := by
  cases f with
  | len => exact ⟨_, by decide +kernel, bf_len, .inl ⟨_, rfl⟩⟩
  | abs => exact ⟨_, by decide +kernel, bf_abs, .inl ⟨_, rfl⟩⟩
  | max => exact ⟨_, by decide +kernel, bf_max g.calm, .inl ⟨_, rfl⟩⟩
  | min => exact ⟨_, by decide +kernel, bf_min g.calm, .inl ⟨_, rfl⟩⟩
  | sum => exact ⟨_, by decide +kernel, bf_sum g.calm, .inl ⟨_, rfl⟩⟩
  | all => exact ⟨_, by decide +kernel, bf_all g.calm, .inl ⟨_, rfl⟩⟩
  | any => exact ⟨_, by decide +kernel, bf_any g.calm, .inl ⟨_, rfl⟩⟩
  | repr => exact ⟨_, by decide +kernel, bf_repr g.gd g.un, .inl ⟨_, rfl⟩⟩
  | str => exact ⟨_, by decide +kernel, bf_str, .inr ⟨_, rfl⟩⟩
  | int => exact ⟨_, by decide +kernel, bf_int, .inr ⟨_, rfl⟩⟩
  | list => exact ⟨_, by decide +kernel, bf_list, .inr ⟨_, rfl⟩⟩
  | tuple => exact ⟨_, by decide +kernel, bf_tuple, .inr ⟨_, rfl⟩⟩
  | sset => exact (hf rfl).elim
theorem s_blt {f : BF} (g : Good G fs k X) (hf : f ≠ .sset) (h1 : glB X.env.scope (Str.ofString (bfName f)) = true) (hx : chkA X.N fs xs X.env.scope es = true) (ha : PA X es (rdA G X.K xs)) :
    PE X (.Call (.Name (Str.ofString (bfName f)) p) es [] pos) (rdE G X.K (.blt f xs)) := by
  obtain ⟨v, hv, hr, hk⟩ := blt_ok g f hf
  have hm : X.mg (Str.ofString (bfName f)) = none := g.bi _ (by cases f <;> decide)
  have hn : Str.ofString (bfName f) ≠ "__name__" := by cases f <;> decide +kernel
  have hd : (Str.ofString (bfName f) == ("__debug__" : Str)) = false := by cases f <;> decide +kernel
  cases es with
  | nil =>
    cases chkA_nil hx
    exact ⟨fun pins s σ H Q I ⟨A, ρ, M, Q', hs, hm, hw, hl⟩ => (wp_nil_no hw).elim⟩
  | cons e es =>
    obtain ⟨a, r, rfl, hr2⟩ := chkA_tail hx
    have hst : starEach (e :: es) X.env = (false, eval e X.env) :: starEach es X.env := star_of (chkA_star hx)
    have hpl : (backTo pos (starEach es X.env)).any (·.1) = false := any_star hr2
    have go : ∀ (h : PE X (.Call (.Name (Str.ofString (bfName f)) p) (e :: es) [] pos) (tCB (rC X.K (bfD f)) (rdA G X.K (.cons a r)))), PE X (.Call (.Name (Str.ofString (bfName f)) p) (e :: es) [] pos) (rdE G X.K (.blt f (.cons a r))) := fun h =>
      h.weak fun σ H κ ⟨A, ρ, M, Q, hs, hm, hw, hl⟩ => ⟨A, ρ, M, _, hs, hm, hw, fun ds M1 vs H1 A1 q1 s1 m1 r1 => ⟨A1, M1, ds, _, r1, m1, q1, hl.stp s1⟩⟩
    rcases hk with ⟨id, rfl⟩ | ⟨T, rfl⟩
    · exact go (pe_callB hr (glB_ok h1) hm hv ha hn hd hst hpl)
    · exact go (pe_callTy hr (glB_ok h1) hm hv ha hn hd hst hpl)
/-- a def's call -/
theorem run_fnD {pins : List (Addr × Obj)} {s : Shared} {σ : L2.St} {H : Hp} {κ : VK} {addr : Addr} {fd : FuncData} {ps : List Str} {S : DSpec} (g : Good G fs k X) (hb : Binds X.K fd ps []) (F : FnG X.prog X.w X.K X.mg X.base k addr fd ps S)
    (I : L2.Inv X pins σ H s) {us : List Value} {vs : List V} (r : Vals vs us) {A : List Addr} {M : Mem} {ds : List D} {Q : Kn} (rd : RpL X.K H A vs ds) (m : Rm X.K H A M) (h : S ds M Q) (hl : Lf X.K H A Q κ) :
    wpAny (model X.prog X.w) X.A (PySem.call (.ref addr) us) (EP X pins σ κ) X.xe s := by
  have hlen : (us ++ []).length = ps.length := by rw [List.append_nil, ← r.length, rd.length, F.len _ _ _ h]
  have hbn := hb s us I.kIn hlen
  rw [List.append_nil] at hbn
  refine wpAny_call (codeAny_mono (F.run X.A X.stack s H ⟨us, []⟩ us vs A ds M Q κ g.gd g.room I.env0 hbn r rd m h hl) fun res s' hq => ?_)
  cases res with
  | error e => exact False.elim hq
  | ok fl =>
    cases fl with
    | ret u => exact I.after hq
    | next => exact False.elim hq
    | brk => exact False.elim hq
    | cont => exact False.elim hq
theorem s_call {f : String} (g : Good G fs k X) (hf : f ∈ fs) (h1 : glB X.env.scope (Str.ofString f) = true) (hd : (Str.ofString f == ("__debug__" : Str)) = false) (hx : chkA X.N fs xs X.env.scope es = true) (ha : PA X es (rdA G X.K xs)) :
    PE X (.Call (.Name (Str.ofString f) p) es [] pos) (rdE G X.K (.call f xs)) := by
  obtain ⟨addr, fd, ps, hm, hk, hb, F⟩ := (g.fn f hf).ex
  refine ⟨fun pins s σ H κ I ⟨A, ρ, M, Q, hs, hmm, hw, hl⟩ => ?_⟩
  refine wpAny_Call_Name_kw (ld_glob I (glB_ok h1) hm ?_ hd)
  cases es with
  | nil =>
    cases chkA_nil hx
    exact PySem.W.callWith_K0 I.kIn hk (run_fnD (us := []) g hb F I .nil .nil hmm hw hl)
  | cons e es =>
    obtain ⟨a, r, rfl, hr2⟩ := chkA_tail hx
    have hst : starEach (e :: es) X.env = (false, eval e X.env) :: starEach es X.env := star_of (chkA_star hx)
    refine PySem.W.callWith_K (h₀ := X.base) I.ok.mod.kin hk (thn (ha.run pos pins s σ H (fun vs H1 => ∃ A1 M1 ds, RpL X.K H1 A1 vs ds ∧ Rm X.K H1 A1 M1 ∧ Stp H A H1 A1 ∧ G f ds M1 Q) I ⟨A, ρ, M, _, hs, hmm, hw, fun ds M1 vs H1 A1 q1 s1 m1 r1 => ⟨A1, M1, ds, r1, m1, s1, q1⟩⟩) fun us s1 ⟨vs, H1, I1, rv, A1, M1, ds, r1, m1, st, q1⟩ => ⟨I1.kIn, ?_⟩) hst (any_star hr2)
    exact run_fnD g hb F I1 rv r1 m1 q1 (hl.stp st)
theorem base_of (h : baseB x = true) {n : Str} : attributeBase x n X.env (eval x X.env) = eval x X.env := by
  cases x <;> first | rfl | cases h
end
end DL

set_option Elab.async false
set_option linter.all false
set_option maxRecDepth 100000
set_option maxHeartbeats 4000000
namespace DL
open PySem L2 PySem.Spec PyProof.Rows
theorem adj_rev (n : Nat) : Builtin.Slice.sliceAdjust none none (-1) (n : Int) = ((n : Int) - 1, -1) := by
  unfold Builtin.Slice.sliceAdjust
  first | rfl | simp | (simp; omega)
theorem places_rev (n : Nat) : Builtin.Slice.slicePlaces ((n : Int) - 1) (-1) (-1) = n := by
  unfold Builtin.Slice.slicePlaces
  rw [if_neg (by decide)]
  by_cases h : n = 0
  · subst h; rfl
  · rw [if_pos (by omega)]
    have : ((n : Int) - 1 - -1 - 1) / (- -1) + 1 = (n : Int) := by simp
    rw [this]; simp
theorem pick_rev (xs : Array Value) : ((List.range xs.size).filterMap fun (m : Nat) => xs[(((xs.size : Int) - 1) + (m : Int) * (-1)).toNat]?) = xs.toList.reverse := by
  have h1 : ((List.range xs.size).filterMap fun (m : Nat) => xs[(((xs.size : Int) - 1) + (m : Int) * (-1)).toNat]?) = ((List.range xs.size).map fun (m : Nat) => xs.size - 1 - m).filterMap (xs[·]?) := by
    rw [List.filterMap_map]
    congr 1
    funext m
    show xs[_]? = xs[_]?
    congr 1
    show ((xs.size : Int) - 1 + (m : Int) * (-1)).toNat = xs.size - 1 - m
    omega
  rw [h1, PySem.W.krv_range, List.filterMap_reverse, PySem.W.krv_all]
section
variable {prog : Program} {w : World} {A : Around} {E : Value → Shared → Prop} {s : Shared}
theorem cut_back {sl : Addr} {n : Nat} {t : Tok} {R : Int × Int × Nat → Shared → Prop} (hsl : s.heap.IsSliceOf sl .none .none (.int (-1) t)) (q : R ((n : Int) - 1, -1, n) s) :
    wpAny (model prog w) A (Builtin.Slice.sliceApplied (.ref sl) (pure (n : Int))) R E s := by
  obtain ⟨ob, h1, h2, h3⟩ := id hsl
  unfold Builtin.Slice.sliceApplied
  unfold Builtin.Slice.sliceFields
  refine wpAny_bind (wpAny_bind (wpAny_field h1 h3 (x := .none) rfl
    (wpAny_bind (wpAny_field h1 h3 (x := .none) rfl (wpAny_bind
      (wpAny_field h1 h3 (x := .int (-1) t) rfl (wpAny_pure ?_)))))))
  refine wpAny_bind (slicePart_int ?_)
  show wpAny _ _ (if (((-1) : Int) == 0) = true then _ else _) _ _ _
  rw [if_neg (by decide)]
  refine wpAny_bind (slicePart_none (wpAny_bind (slicePart_none
    (wpAny_bind (wpAny_pure ?_)))))
  show wpAny _ _ (match Builtin.Slice.sliceAdjust none none (-1) (n : Int) with
    | (lo, hi) => pure (lo, (-1 : Int), Builtin.Slice.slicePlaces lo hi (-1))) _ _ _
  rw [adj_rev n]
  show wpAny _ _ (pure ((n : Int) - 1, (-1 : Int), Builtin.Slice.slicePlaces ((n : Int) - 1) (-1) (-1))) _ _ _
  rw [places_rev]
  exact wpAny_pure q
theorem tup_back {t sl : Addr} {its : Array Value} {tk : Tok} {R : Value → Shared → Prop} (ht : IsTup s.heap t its) (hsl : s.heap.IsSliceOf sl .none .none (.int (-1) tk))
    (q : R (.ref s.heap.objs.size) { s with heap := s.heap.push { cls := .type "tuple", data := .seq its.toList.reverse.toArray } }) (hz : its.size ≤ sizeLine) :
    wpAny (model prog w) A (getItem (.ref t) (.ref sl)) R E s := by
  have small : sizeOk (.seq its.toList.reverse.toArray) := by
    show its.toList.reverse.toArray.size ≤ sizeLine
    simpa using hz
  obtain ⟨ob, h1, h2, _⟩ := id hsl
  have hty : s.TypeIs (.ref sl) "slice" := ⟨ob, h1, h2⟩
  unfold getItem
  try with_reducible refine wpAny_holding ?_
  first | refine wpAny_bind (wpAny_pure ?_) | skip
  refine wpAny_bind
    (wpAny_sequenceKey ht.typeIs (by decide) ?_)
  refine wpAny_bind (wpAny_callSpecial?_slot (name := Str.ofString "__getitem__")
    ht.typeIs PyProof.Rows.slot_tuple_getitem (wpAny_call_entry
      PyProof.Rows.slot_tuple_getitem ht.typeIs entry_tuple_getitem ?_
        (args_tuple_getitem _ _)))
  show wpAny _ _ (Builtin.Tuple.tupleItemsOf (.ref t) >>= _) _ _ _
  refine wpAny_bind (tupleItemsOf_ ht (wpAny_bind (wpAny_typeOf hty ?_)))
  rw [if_pos (by decide)]
  refine wpAny_bind (cut_back hsl ?_)
  have no : ¬ ((((its.size : Int) - 1) == 0 && (-1 : Int) == 1 && its.size == its.size) = true) := by
    intro z
    rw [Bool.and_eq_true, Bool.and_eq_true] at z
    exact absurd z.1.2 (by decide)
  show wpAny _ _ (if (((its.size : Int) - 1) == 0 && (-1 : Int) == 1 && its.size == its.size) = true then _ else _) _ _ _
  rw [if_neg no, pick_rev]
  first
    | exact wpAny_bind (m := Builtin.Tuple.tupleExact _)
        (wpAny_newObj_type (wpAny_pure ⟨_, rfl, wpAny_pure q⟩) small)
    | exact wpAny_bind (wpAny_bind (m := Builtin.Tuple.tupleExact _)
        (wpAny_newObj_type (wpAny_pure ⟨_, rfl, wpAny_pure q⟩) small))
    | exact wpAny_bind (wpAny_bind (m := Builtin.Tuple.tupleExact _)
        (wpAny_newObj_type (wpAny_pure (wpAny_pure ⟨_, rfl, wpAny_pure q⟩)) small))
end
section
variable {X : Cx} {G : Gam} {fs : List String} {k : Nat} {pos p q : Pos} {x y z : Expr} {a b c : IE} {es : List Expr} {xs : IE}
/-- t[::-1] of a tuple -/
def tRevT (K : Frg) (te : TE) : TE := fun σ H Q => te σ H fun x H1 => ∃ a vs, x = .ref a ∧ SqT K H1 a vs ∧ ∀ p, H1 p = none → Q (.ref p) (upd H1 p (.tup vs.reverse))
theorem at_slice {e : Expr} {te : TE} {n : Nat} {p1 p2 p3 : Pos} {r : V → Hp → VK → Prop} (he : PE X e te)
    (hr : ∀ (pins : List (Addr × Obj)) (s : Shared) (σ : L2.St) (H : Hp) (v : V) (u : Value) (sl : Addr) (tk : Tok) (Q : VK), L2.Inv X pins σ H s → RelV v u → s.heap.IsSliceOf sl .none .none (.int (-1) tk) → r v H Q →
      ∃ T id, typeLookup (.type T) "__getitem__" = pure (some (.builtin id)) ∧ s.TypeIs u T ∧ wpAny (model X.prog X.w) X.A (getItem u (.ref sl)) (EP X pins σ Q) X.xe s) :
    PE X (.Subscript e (.Slice none none (some (.UnaryOp .USub (.Constant (.int 1) n p1) p2)) p3) pos) (fun σ H Q => te σ H fun v H1 => r v H1 Q) := by
  refine ⟨fun pins s σ H Q I h => ?_⟩
  refine Subscript_ (thn (he.run pins s σ H _ I h)
    fun v s1 ⟨x, H1, I1, r1, q1⟩ => ?_)
  have step : PO X (some (.UnaryOp .USub (.Constant (.int 1) n p1) p2)) (tPart (tUn (rU fun i => .int (-i)) (tC (.int 1)))) :=
    po_some (pe_un un_neg pe_int)
  refine wpAny_Slice (thn (po_none.run pins s1 σ H1
    (fun o H2 => o = none ∧ H2 = H1) I1 ⟨rfl, rfl⟩) fun vl s2 ⟨l, H2, I2, pl, el, e2⟩ => ?_)
  subst el
  subst e2
  refine thn (po_none.run pins s2 σ H2
    (fun o H3 => o = none ∧ H3 = H2) I2 ⟨rfl, rfl⟩) fun vu s3 ⟨u, H3, I3, pu, eu, e3⟩ => ?_
  subst eu
  subst e3
  refine thn (step.run pins s3 σ H3
    (fun o H4 => o = some (-1) ∧ H4 = H3) I3 ⟨1, rfl, -1, rfl, rfl, rfl⟩) fun vs s4 ⟨o, H4, I4, ps, eo, e4⟩ => ?_
  subst eo
  subst e4
  have en : vl = .none := by cases pl; rfl
  have eu : vu = .none := by cases pu; rfl
  obtain ⟨tk, ek⟩ : ∃ tk, vs = .int (-1) tk := by cases ps; exact ⟨_, rfl⟩
  subst en
  subst eu
  subst ek
  have I5 : L2.Inv X pins σ H4 { s4 with heap := s4.heap.push { cls := .type "slice", data := .fields #[.none, .none, .int (-1) tk] } } :=
    I4.kept (t' := s4.toks) fun b ob q => Heap.get?_push_of_some _ q
  obtain ⟨T, id, hT, ht, hg⟩ := hr pins _ σ H4 x v s4.heap.objs.size tk Q I5 r1 (Heap.IsSliceOf.new ..) q1
  exact tail_any (ops := [v, .ref s4.heap.objs.size]) ht hT hg (by with_unfolding_all rfl)
def rRev (K : Frg) : V → Hp → VK → Prop := fun v H κ => ∃ A M d Q, Rp K H A v d ∧ Rm K H A M ∧ revD d M Q ∧ Lf K H A Q κ
theorem s_rev {n : Nat} {p1 p2 p3 : Pos} (ha : PE X x (rdE G X.K a)) : PE X (.Subscript x (.Slice none none (some (.UnaryOp .USub (.Constant (.int 1) n p1) p2)) p3) pos) (rdE G X.K (.rev a)) := by
  refine (at_slice (r := rRev X.K) ha ?_).weak fun σ H κ ⟨A, ρ, M, Q, hs, hm, hw, hl⟩ => ⟨A, ρ, M, _, hs, hm, hw, fun d1 M1 v1 H1 A1 q1 s1 m1 r1 => ⟨A1, M1, d1, _, r1, m1, q1, hl.stp s1⟩⟩
  intro pins s σ H v u sl tk κ I r hsl ⟨A, M, d, Q, hx, hm, hb, hl⟩
  cases hx <;> first | exact False.elim hb | skip
  · rename_i t vs ds ht la
    cases r
    obtain ⟨its, rv, hit, hz⟩ := I.tuple ht
    refine ⟨"tuple", _, PyProof.Rows.slot_tuple_getitem.lookup, hit.typeIs, tup_back hit hsl ?_ (by rw [List.size_toArray, ← rv.length]; exact hz)⟩
    have hf := I.hok.fresh (Nat.le_refl s.heap.objs.size)
    refine ⟨.ref s.heap.objs.size, upd H s.heap.objs.size (.tup vs.reverse), I.laid (t' := s.toks) (fun b ob q => Heap.get?_push_of_some _ q) (Nat.le_refl _) ⟨by rw [List.length_reverse]; exact hz, _, rv.reverse, IsTup.new _ _⟩, rfl, hl.newT hm la.reverse hb _ hf⟩
  · rename_i l n hl'
    obtain ⟨xs, e, q⟩ := onV_ex hb
    obtain ⟨vs, h1, l1⟩ := hm.list hl' e
    cases r
    obtain ⟨its, rv, hit, hz⟩ := I.list (SqL.of h1)
    refine ⟨"list", _, PySem.slot_list_getitem.lookup, hit.isList.typeIs, wpAny_getItem_list_slice hit.isList hsl .none .none (.int _ _) (by decide) ?_ (by rw [List.size_toArray, ← rv.length]; exact hz)⟩
    rw [PySem.W.krv_pick]
    have hf := I.hok.fresh (Nat.le_refl s.heap.objs.size)
    exact ⟨.ref s.heap.objs.size, upd H s.heap.objs.size (.lst vs.reverse), I.laid (t' := s.toks) (fun b ob q => Heap.get?_push_of_some _ q) (Nat.le_refl _) ⟨by rw [List.length_reverse]; exact hz, _, 0, rv.reverse, Heap.get?_push_size _ rfl⟩, rfl, hl.newL hm l1.reverse q _ hf⟩
end
end DL

set_option Elab.async false
set_option linter.all false
set_option maxRecDepth 100000
set_option maxHeartbeats 4000000
namespace DL
open PySem L2 PySem.Spec PyProof.Rows
section
variable {X : Cx} {G : Gam} {fs : List String} {k : Nat} {pos p q : Pos} {x y z : Expr} {a b c : IE} {es : List Expr} {xs : IE}

/-! methods of lists -/
theorem MtR.imp {id : String} {r r' : V → List V → Hp → VK → Prop} (h : MtR X id r) (hi : ∀ x xs H Q, r' x xs H Q → r x xs H Q) : MtR X id r' := fun pins s σ H x xs v us Q I rx rs q => h pins s σ H x xs v us Q I rx rs (hi _ _ _ _ q)
theorem mfD_lst {m : MF} {d : D} {ds : List D} {M : Mem} {Q : Kn} (h : mfD m d ds M Q) : ∃ n, d = .lst n := by
  cases d with
  | lst n => exact ⟨n, rfl⟩
  | _ => cases m <;> exact False.elim h
/-- the receiver is a list as long as the arguments are reckoned -/
theorem tyV_list {K : Frg} {H : Hp} {A : List Addr} {M : Mem} (m : Rm K H A M) {v : V} {n : Nat} (r : Rp K H A v (.lst n)) : tyV K "list" v H := by
  cases r with
  | lst ha =>
    obtain ⟨vs, e⟩ := m.mem (List.mem_of_getElem? ha)
    exact .inl ⟨rfl, vs, SqL.of e⟩
theorem s_mth_of {m : MF} {id : String} {nm : Str} (slot : Slot "list" nm id) (hty : typeOf (.builtin id) = pure (.type "method_descriptor")) (hm : MtR X id (rM X.K (mfD m)))
    (hb : baseB x = true) (hl : (p.endLine == pos.line) = true) (hes : es.length ≤ 2) (hxs : chkA X.N fs xs X.env.scope es = true) (ho : PE X x (rdE G X.K a)) (ha : PA X es (rdA G X.K xs)) :
    PE X (.Call (.Attribute x nm p) es [] pos) (rdE G X.K (.mth m a xs)) := by
  have fin : ∀ {es : List Expr}, PE X (.Call (.Attribute x nm p) es [] pos) (tBM X.K "list" (rM X.K (mfD m)) (rdE G X.K a) (rdA G X.K xs)) → PE X (.Call (.Attribute x nm p) es [] pos) (rdE G X.K (.mth m a xs)) := fun h =>
    h.weak fun σ H κ ⟨A, ρ, M, Q, hs, hmm, hw, hl⟩ => ⟨A, ρ, M, _, hs, hmm, hw, fun d1 M1 v1 H1 A1 ⟨⟨n, e⟩, q1⟩ s1 m1 r1 => by
      subst e
      exact ⟨tyV_list m1 r1, A1, ρ, M1, _, hs.stp hmm s1, m1, q1, fun ds M2 vs H2 A2 q2 s2 m2 r2 => ⟨A2, M2, _, ds, _, r1.stp m1 s2, r2, m2, q2, (hl.stp s1).stp s2⟩⟩⟩
  match es, hes, hxs, ha with
  | [], _, hxs, ha =>
    cases chkA_nil hxs
    refine (pe_bm0 PySem.F.plainAttrs_list slot hty hm ho (base_of hb) hl).weak fun σ H κ ⟨A, ρ, M, Q, hs, hmm, hw, hl⟩ => ⟨A, ρ, M, _, hs, hmm, hw, fun d1 M1 v1 H1 A1 ⟨⟨n, e⟩, q1⟩ s1 m1 r1 => ?_⟩
    subst e
    exact ⟨tyV_list m1 r1, A1, M1, _, [], _, r1, .nil, m1, q1, hl.stp s1⟩
  | [e], _, hxs, ha =>
    have h1 := star_of (es := []) (env := X.env) (chkA_star hxs)
    exact fin (pe_bm PySem.F.plainAttrs_list slot hty hm ho ha (base_of hb) (by rw [h1]; rfl) hl h1 rfl)
  | [e, e'], _, hxs, ha =>
    obtain ⟨a', r', rfl, h2⟩ := chkA_tail hxs
    have h1 := star_of (es := [e']) (env := X.env) (chkA_star hxs)
    have h3 := star_of (es := []) (env := X.env) (chkA_star h2)
    exact fin (pe_bm PySem.F.plainAttrs_list slot hty hm ho ha (base_of hb) (by rw [h1, h3]; rfl) hl h1 (by rw [h3]; rfl))

/-! what a loop walks -/
def iAny (K : Frg) (tl : TE) : TI := fun σ H R => tl σ H fun v H1 => ∃ l, v = .ref l ∧ (((∃ vs, SqL K H1 l vs) ∧ R (Itl K l) H1) ∨ ((∃ vs, SqT K H1 l vs) ∧ R (Itt K l) H1))
theorem pi_any {tg e : Expr} {te : TE} (he : PE X e te) : PI X tg e (iAny X.K te) := by
  refine ⟨fun pins s σ H R I h => thn (he.run pins s σ H _ I h) fun u s1 ⟨v, H1, I1, r1, l, ev, q⟩ => ?_⟩
  subst ev
  cases r1
  have fp : ∀ b ∈ [s1.heap.objs.size], FpOk X pins H1 b := fun b hb => by
    rw [List.mem_singleton.mp hb]
    exact I1.fpOk (Nat.le_refl _) (I1.hok.fresh (Nat.le_refl _))
  rcases q with ⟨⟨vs, hq⟩, q⟩ | ⟨⟨vs, hq⟩, q⟩
  · obtain ⟨its, _, pl, _⟩ := I1.list hq
    exact wpAny_pyIter_list pl.isList ⟨_, [s1.heap.objs.size], _, _, H1, rfl,
      I1.kept (t' := s1.toks) fun _ _ e => Heap.get?_push_of_some _ e, turn_list l _, ⟨_, Heap.get?_push_size _ rfl, rfl, rfl⟩, fp, q⟩
  · obtain ⟨its, _, pl, _⟩ := I1.tuple hq
    exact wpAny_pyIter_tuple (show s1.heap.IsTuple l its.toArray from pl) ⟨_, [s1.heap.objs.size], _, _, H1, rfl,
      I1.kept (t' := s1.toks) fun _ _ e => Heap.get?_push_of_some _ e, turn_tuple l _, ⟨_, Heap.get?_push_size _ rfl, rfl, rfl⟩, fp, q⟩
theorem itr_list {K : Frg} {H1 : Hp} {A1 : List Addr} {n : Nat} {l : Addr} (hl : A1[n]? = some l) : ItR K H1 A1 (.val (.lst n)) (Itl K l) := by
  refine ⟨fun H A M xs i x st m e hx => ?_, fun H A M xs i st m e hx => ?_, fun H A M xs i x v H' st m e hx hy => ?_⟩
  · obtain ⟨vs, h1, l1⟩ := m.list (st.get hl) e
    obtain ⟨v, hv, _⟩ := l1.get hx
    exact ⟨vs, v, SqL.of h1, hv⟩
  · obtain ⟨vs, h1, l1⟩ := m.list (st.get hl) e
    exact ⟨vs, SqL.of h1, by rw [l1.length]; exact hx⟩
  · obtain ⟨vs, h1, l1⟩ := m.list (st.get hl) e
    obtain ⟨v', hv, r⟩ := l1.get hx
    obtain ⟨rfl, hy⟩ := hy
    have := hy vs (SqL.of h1)
    rw [hv] at this; cases this
    exact ⟨Stp.refl _ _, m, r⟩
theorem itr_tup {K : Frg} {H1 : Hp} {A1 : List Addr} {M1 : Mem} {vs : List V} {ds : List D} {l : Addr} (m1 : Rm K H1 A1 M1) (hl : SqT K H1 l vs) (la : RpL K H1 A1 vs ds) : ItR K H1 A1 (.val (.tup ds)) (Itt K l) := by
  refine ⟨fun H A M xs i x st m e hx => ?_, fun H A M xs i st m e hx => ?_, fun H A M xs i x v H' st m e hx hy => ?_⟩
  · cases e
    obtain ⟨v, hv, _⟩ := la.get hx
    exact ⟨vs, v, sqT_stp m1 st hl, hv⟩
  · cases e
    exact ⟨vs, sqT_stp m1 st hl, by rw [la.length]; exact hx⟩
  · cases e
    obtain ⟨v', hv, r⟩ := la.get hx
    obtain ⟨rfl, hy⟩ := hy
    have := hy vs (sqT_stp m1 st hl)
    rw [hv] at this; cases this
    exact ⟨Stp.refl _ _, m, r.stp m1 st⟩
theorem itr_scr {K : Frg} {H1 : Hp} {A1 : List Addr} {M1 : Mem} {ns : List Int} {l : Addr} (m1 : Rm K H1 A1 M1) (hl : SqF K H1 l (ns.map V.int)) : ItR K H1 A1 (.val (.scr ns)) (Itl K l) := by
  refine ⟨fun H A M xs i x st m e hx => ?_, fun H A M xs i st m e hx => ?_, fun H A M xs i x v H' st m e hx hy => ?_⟩
  · cases e
    obtain ⟨v, hv, _⟩ := (RpL.ints (K := K) (H := H) (A := A) ns).get hx
    exact ⟨_, v, (sqF_stp m1 st hl).seq, hv⟩
  · cases e
    exact ⟨_, (sqF_stp m1 st hl).seq, by simpa using hx⟩
  · cases e
    obtain ⟨v', hv, r⟩ := (RpL.ints (K := K) (H := H) (A := A) ns).get hx
    obtain ⟨rfl, hy⟩ := hy
    have := hy _ (sqF_stp m1 st hl).seq
    rw [hv] at this; cases this
    exact ⟨Stp.refl _ _, m, r⟩
theorem rngD_get : ∀ (n : Nat) (lo : Int) (i : Nat), (rngD lo n)[i]? = if i < n then some (.int (lo + i)) else none
  | 0, lo, i => by simp [rngD]
  | n + 1, lo, 0 => by simp [rngD]
  | n + 1, lo, i + 1 => by
    show (rngD (lo + 1) n)[i]? = _
    rw [rngD_get n (lo + 1) i]
    by_cases h : i < n
    · rw [if_pos h, if_pos (by omega)]
      have : lo + 1 + (i : Int) = lo + ((i + 1 : Nat) : Int) := by omega
      rw [this]
    · rw [if_neg h, if_neg (by omega)]
theorem rngD_len : ∀ (n : Nat) (lo : Int), (rngD lo n).length = n
  | 0, _ => rfl
  | n + 1, lo => congrArg (· + 1) (rngD_len n (lo + 1))
theorem itr_rng {K : Frg} {H1 : Hp} {A1 : List Addr} {lo : Int} {n : Nat} : ItR K H1 A1 (.rng lo n) (Itr lo n) := by
  refine ⟨fun H A M xs i x st m e hx => ?_, fun H A M xs i st m e hx => ?_, fun H A M xs i x v H' st m e hx hy => ?_⟩
  · cases e
    rw [rngD_get] at hx
    by_cases h : i < n
    · exact h
    · rw [if_neg h] at hx; cases hx
  · cases e
    rw [rngD_len] at hx
    exact hx
  · cases e
    rw [rngD_get] at hx
    by_cases h : i < n
    · rw [if_pos h] at hx; cases hx
      obtain ⟨rfl, rfl⟩ := hy
      exact ⟨Stp.refl _ _, m, .int _⟩
    · rw [if_neg h] at hx; cases hx
theorem i_val {tg : Expr} {r : IE} (ha : PE X x (rdE G X.K a)) : PI X tg x (rdI G X.K (.cons a r)) := by
  refine (pi_any ha).weak fun σ H R ⟨A, ρ, M, Q, hs, hm, hw, hl⟩ => ⟨A, ρ, M, _, hs, hm, hw, fun d1 M1 v1 H1 A1 ⟨q1, xs, e⟩ s1 m1 r1 => ?_⟩
  · cases r1 with
    | lst ha =>
      obtain ⟨vs, e1⟩ := m1.mem (List.mem_of_getElem? ha)
      exact ⟨_, rfl, .inl ⟨⟨vs, SqL.of e1⟩, hl _ M1 H1 A1 _ q1 s1 m1 (itr_list ha) ⟨xs, e⟩⟩⟩
    | tup ha la => exact ⟨_, rfl, .inr ⟨⟨_, ha⟩, hl _ M1 H1 A1 _ q1 s1 m1 (itr_tup m1 ha la) ⟨xs, e⟩⟩⟩
    | scr ha => exact ⟨_, rfl, .inl ⟨⟨_, ha.seq⟩, hl _ M1 H1 A1 _ q1 s1 m1 (itr_scr m1 ha) ⟨xs, e⟩⟩⟩
    | _ => cases e
theorem i_rng1 {tg : Expr} (g : Good G fs k X) (h1 : glB X.env.scope (Str.ofString "range") = true) (hx : noStar x = true) (ha : PE X x (rdE G X.K a)) : PI X tg (.Call (.Name (Str.ofString "range") p) [x] [] pos) (rdI G X.K (.rng1 a)) := by
  refine (pi_range1 (glB_ok h1) (g.bi _ (by decide)) (pa_cons ha pa_nil (star_of hx)) (star_of hx)).weak fun σ H R ⟨A, ρ, M, Q, hs, hm, hw, hl⟩ => ⟨A, ρ, M, _, hs, hm, hw, fun d M1 v H1 A1 ⟨j, e, hb, q1⟩ s1 m1 r1 => ?_⟩
  subst e
  cases r1
  exact ⟨j, rfl, hb.1, hb.2, hl _ M1 H1 A1 _ q1 s1 m1 itr_rng ⟨_, rfl⟩⟩
theorem i_rng2 {tg : Expr} (g : Good G fs k X) (h1 : glB X.env.scope (Str.ofString "range") = true) (hx : noStar x = true) (hy : noStar y = true) (ha : PE X x (rdE G X.K a)) (hb : PE X y (rdE G X.K b)) : PI X tg (.Call (.Name (Str.ofString "range") p) [x, y] [] pos) (rdI G X.K (.rng2 a b)) := by
  refine (pi_range2 (glB_ok h1) (g.bi _ (by decide)) (pa_cons ha (pa_cons hb pa_nil (star_of hy)) (star_of hx)) (by rw [star_of hx, star_of hy]; rfl) (star_of hy)).weak fun σ H R ⟨A, ρ, M, Q, hs, hm, hw, hl⟩ => ⟨A, ρ, M, _, hs, hm, hw, fun d M1 v H1 A1 q1 s1 m1 r1 =>
    ⟨A1, ρ, M1, _, hs.stp hm s1, m1, q1, fun d2 M2 v2 H2 A2 ⟨i, j, e, e2, hb, q2⟩ s2 m2 r2 => ?_⟩⟩
  subst e
  subst e2
  cases r1
  cases r2
  exact ⟨i, j, rfl, hb, hl _ M2 H2 A2 _ q2 (s1.trans s2) m2 itr_rng ⟨_, rfl⟩⟩
end
end DL

set_option Elab.async false
set_option linter.all false
set_option maxRecDepth 100000
set_option maxHeartbeats 4000000
namespace DL
open PySem L2 PySem.Spec PyProof.Rows
/-! slots -/
theorem setV_len : ∀ (ρ : En) (i : Nat) (d : D), (setV ρ i d).length = ρ.length
  | [], _, _ => rfl
  | _ :: r, 0, _ => rfl
  | _ :: r, i + 1, d => congrArg (· + 1) (setV_len r i d)
theorem wipeV_len : ∀ (ρ : En) (i : Nat), (wipeV ρ i).length = ρ.length
  | [], _ => rfl
  | _ :: r, 0 => rfl
  | _ :: r, i + 1 => congrArg (· + 1) (wipeV_len r i)
theorem getV_setV : ∀ (ρ : En) (i : Nat) (d : D) (j : Nat) (e : D), getV (setV ρ i d) j = some e → (j = i ∧ i < ρ.length ∧ e = d) ∨ (j ≠ i ∧ getV ρ j = some e)
  | [], _, _, _, _, h => by simp [setV, getV] at h
  | _ :: r, 0, d, 0, e, h => by simp [setV, getV] at h; exact .inl ⟨rfl, by simp, h.symm⟩
  | _ :: r, 0, d, j + 1, e, h => .inr ⟨by omega, h⟩
  | x :: r, i + 1, d, 0, e, h => .inr ⟨by omega, h⟩
  | x :: r, i + 1, d, j + 1, e, h => by
    rcases getV_setV r i d j e h with ⟨h1, h2, h3⟩ | ⟨h1, h2⟩
    · exact .inl ⟨by omega, by simp; omega, h3⟩
    · exact .inr ⟨by omega, h2⟩
theorem getV_wipeV : ∀ (ρ : En) (i : Nat) (j : Nat) (e : D), getV (wipeV ρ i) j = some e → j ≠ i ∧ getV ρ j = some e
  | [], _, _, _, h => by simp [wipeV, getV] at h
  | _ :: r, 0, 0, e, h => by simp [wipeV, getV] at h
  | _ :: r, 0, j + 1, e, h => ⟨by omega, h⟩
  | x :: r, i + 1, 0, e, h => ⟨by omega, h⟩
  | x :: r, i + 1, j + 1, e, h => by
    obtain ⟨h1, h2⟩ := getV_wipeV r i j e h
    exact ⟨by omega, h2⟩
section
variable {K : Frg} {H H' : Hp} {A A' : List Addr} {M : Mem} {σ : L2.St} {ρ : En}
theorem Rs.set (r : Rs K H A σ ρ) {v : V} {d : D} (q : Rp K H A v d) (i : Nat) : Rs K H A (σ.set i (some v)) (setV ρ i d) := by
  refine ⟨by rw [List.length_set, setV_len]; exact r.len, fun j e h => ?_⟩
  rcases getV_setV ρ i d j e h with ⟨rfl, h2, rfl⟩ | ⟨h1, h2⟩
  · exact ⟨v, List.getElem?_set_self (by rw [r.len]; exact h2), q⟩
  · obtain ⟨w, h3, h4⟩ := r.get j e h2
    exact ⟨w, by rw [List.getElem?_set_ne (Ne.symm h1)]; exact h3, h4⟩
theorem Rs.wipe1 (r : Rs K H A σ ρ) (i : Nat) : Rs K H A (σ.set i none) (wipeV ρ i) := by
  refine ⟨by rw [List.length_set, wipeV_len]; exact r.len, fun j e h => ?_⟩
  obtain ⟨h1, h2⟩ := getV_wipeV ρ i j e h
  obtain ⟨w, h3, h4⟩ := r.get j e h2
  exact ⟨w, by rw [List.getElem?_set_ne (Ne.symm h1)]; exact h3, h4⟩
theorem Rs.wipes (r : Rs K H A σ ρ) : ∀ vs : List Nat, Rs K H A (wipe σ vs) (wipesV ρ vs)
  | [] => r
  | v :: vs => (Rs.wipes r vs).wipe1 v
/-! the list that a comprehension fills stands outside the memory -/
mutual
theorem Rp.tr (ht : ∀ a vs, SqT K H a vs → SqT K H' a vs) (hf : ∀ a vs, SqF K H a vs → SqF K H' a vs) (hA : ∀ (n : Nat) (a : Addr), A[n]? = some a → A'[n]? = some a) : ∀ {v : V} {d : D}, Rp K H A v d → Rp K H' A' v d
  | _, _, .non => .non
  | _, _, .bl b => .bl b
  | _, _, .int b => .int b
  | _, _, .str b => .str b
  | _, _, .tup h l => .tup (ht _ _ h) (RpL.tr ht hf hA l)
  | _, _, .lst h => .lst (hA _ _ h)
  | _, _, .scr h => .scr (hf _ _ h)
theorem RpL.tr (ht : ∀ a vs, SqT K H a vs → SqT K H' a vs) (hf : ∀ a vs, SqF K H a vs → SqF K H' a vs) (hA : ∀ (n : Nat) (a : Addr), A[n]? = some a → A'[n]? = some a) : ∀ {v : List V} {d : List D}, RpL K H A v d → RpL K H' A' v d
  | _, _, .nil => .nil
  | _, _, .cons h l => .cons (Rp.tr ht hf hA h) (RpL.tr ht hf hA l)
end
theorem sqT_updL {p : Addr} {vs ws : List V} (hp : H p = some (.lst vs)) {a : Addr} {us : List V} (h : SqT K H a us) : SqT K (upd H p (.lst ws)) a us := by
  rcases h with (h | ⟨o, h⟩) | h
  · exact .inl (.inl (by rw [upd_ne (ne_of h hp (by intro z; cases z))]; exact h))
  · exact .inl (.inr ⟨o, by rw [upd_ne (ne_of h hp (by intro z; cases z))]; exact h⟩)
  · exact .inr h
theorem sqF_updL {p : Addr} {vs ws : List V} (hp : H p = some (.lst vs)) {a : Addr} {us : List V} (h : SqF K H a us) : SqF K (upd H p (.lst ws)) a us := by
  rcases h with ⟨o, h⟩ | h
  · exact .inl ⟨o, by rw [upd_ne (ne_of h hp (by intro z; cases z))]; exact h⟩
  · exact .inr h
theorem RpL.updL {p : Addr} {vs ws : List V} (hp : H p = some (.lst vs)) {us : List V} {ds : List D} (h : RpL K H A us ds) : RpL K (upd H p (.lst ws)) A us ds :=
  h.tr (fun _ _ z => sqT_updL hp z) (fun _ _ z => sqF_updL hp z) fun _ _ z => z
theorem Rm.updL {p : Addr} {vs ws : List V} (m : Rm K H A M) (hp : H p = some (.lst vs)) (hn : p ∉ A) : Rm K (upd H p (.lst ws)) A M :=
  ⟨m.len, m.nd, fun n ds e => by
    obtain ⟨a, us, h1, h2, h3⟩ := m.at_ n ds e
    exact ⟨a, us, h1, by rw [upd_ne (show a ≠ p from fun z => hn (z ▸ List.mem_of_getElem? h1))]; exact h2, h3.updL hp⟩⟩
theorem Rm.adopt {p : Addr} {vs : List V} {ds : List D} (m : Rm K H A M) (hp : H p = some (.lst vs)) (hn : p ∉ A) (r : RpL K H A vs ds) : Rm K H (A ++ [p]) (M ++ [ds]) := by
  have hA : ∀ (n : Nat) (a : Addr), A[n]? = some a → (A ++ [p])[n]? = some a := fun n a e => by
    rw [List.getElem?_append_left (List.getElem?_eq_some_iff.mp e).1]; exact e
  have tr : ∀ {us : List V} {es : List D}, RpL K H A us es → RpL K H (A ++ [p]) us es := fun h => h.tr (fun _ _ z => z) (fun _ _ z => z) hA
  refine ⟨by simp [m.len], ?_, fun n es e => ?_⟩
  · rw [List.nodup_append]
    exact ⟨m.nd, by simp, fun a ha b hb z => hn (by rw [← List.mem_singleton.mp hb, ← z]; exact ha)⟩
  · by_cases hl : n < M.length
    · rw [List.getElem?_append_left hl] at e
      obtain ⟨a, us, h1, h2, h3⟩ := m.at_ n es e
      exact ⟨a, us, hA _ _ h1, h2, tr h3⟩
    · have hl' : n < (M ++ [ds]).length := (List.getElem?_eq_some_iff.mp e).1
      have en : n = M.length := by simp at hl'; omega
      subst en
      rw [List.getElem?_append_right (Nat.le_refl _)] at e
      simp at e
      subst e
      exact ⟨p, vs, by rw [← m.len, List.getElem?_append_right (Nat.le_refl _)]; simp, hp, tr r⟩
end
section
variable {X : Cx} {G : Gam} {fs : List String} {k : Nat} {pos p q : Pos} {x y z : Expr} {a b c : IE} {es : List Expr} {xs : IE}
/-! a comprehension's target -/
def gCp (K : Frg) (tg : List Nat) : L2.TG := fun v σ H Q => ∃ A M d ρ Qd, Rp K H A v d ∧ Rs K H A σ ρ ∧ Rm K H A M ∧ tgV tg d ρ Qd ∧
  ∀ ρ' σ', Qd ρ' → Rs K H A σ' ρ' → (∀ j, j ∉ tg → σ'[j]? = σ[j]?) → σ'.length = σ.length → Q σ' H
def gNs (is : List Nat) : L2.TGs := fun vs σ H Q => vs.length = is.length ∧ Q ((is.zip vs).foldl (fun σ p => σ.set p.1 (some p.2)) σ) H
theorem _root_.L2.PG.weak {X : Cx} {e : Expr} {t t' : L2.TG} (h : PG X e t) (w : ∀ v σ H κ, t' v σ H κ → t v σ H κ) : PG X e t' := ⟨fun pins s σ H v u κ I r q => h.run pins s σ H v u κ I r (w v σ H κ q)⟩
theorem _root_.L2.PGs.weak {X : Cx} {e : List Expr} {t t' : L2.TGs} (h : PGs X e t) (w : ∀ v σ H κ, t' v σ H κ → t v σ H κ) : PGs X e t' := ⟨fun pins s σ H v u κ I r q => h.run pins s σ H v u κ I r (w v σ H κ q)⟩
theorem pgs_names {scope : Scope} {vs : List Nat} (hN : X.N.Nodup) (hl : ∀ x, locB scope x = true → Loc X.env.scope x ∧ (X.fn x = true ∨ X.env.scope.names.lookup x = some .local)) :
    ∀ (is : List Nat) (es : List Expr), tgNames X.N scope vs is es = true → PGs X es (gNs is) ∧ es.length = is.length ∧ (assignEach es X.env).length = is.length ∧ (assignEach es X.env).findIdx? (·.1) = none
  | [], [], _ => ⟨pgs_nil.weak fun v σ H κ ⟨h1, h2⟩ => by
      cases v with
      | nil => exact ⟨rfl, h2⟩
      | cons _ _ => simp at h1, rfl, rfl, rfl⟩
  | [], _ :: _, h => by simp [tgNames] at h
  | _ :: _, [], h => by simp [tgNames] at h
  | i :: is, e :: es, h => by
    cases e with
    | Name x px =>
      simp only [tgNames, Bool.and_eq_true, decide_eq_true_eq] at h
      obtain ⟨⟨⟨h1, h2⟩, h3⟩, h4⟩ := h
      obtain ⟨i1, i2, i3, i4⟩ := pgs_names hN hl is es h4
      obtain ⟨l1, l2⟩ := hl x h2
      refine ⟨(pgs_cons (pg_name hN h1 l1 l2) i1).weak fun v σ H κ ⟨q1, q2⟩ => ?_, by simp [i2], by show _ + 1 = _; rw [i3]; rfl, ?_⟩
      · cases v with
        | nil => simp at q1
        | cons v vr => exact ⟨v, vr, rfl, by simpa using q1, q2⟩
      · show ((false, assign (.Name x px) X.env) :: assignEach es X.env).findIdx? (·.1) = none
        rw [List.findIdx?_cons, i4]
        rfl
    | _ => simp [tgNames] at h
theorem setsV_fold {K : Frg} {H : Hp} {A : List Addr} : ∀ (is : List Nat) (vs : List V) (ds : List D) (σ : L2.St) (ρ ρ' : En), RpL K H A vs ds → Rs K H A σ ρ → setsV ρ is ds = some ρ' →
    vs.length = is.length ∧ Rs K H A ((is.zip vs).foldl (fun σ p => σ.set p.1 (some p.2)) σ) ρ'
  | [], [], _, σ, ρ, ρ', .nil, rs, h => by cases h; exact ⟨rfl, rs⟩
  | [], _ :: _, _ :: _, _, _, _, _, _, h => by cases h
  | _ :: _, [], _, _, _, _, .nil, _, h => by cases h
  | i :: is, v :: vs, d :: ds, σ, ρ, ρ', .cons r l, rs, h => by
    obtain ⟨h1, h2⟩ := setsV_fold is vs ds (σ.set i (some v)) (setV ρ i d) ρ' l (rs.set r i) h
    exact ⟨by simp [h1], h2⟩
theorem fold_keep : ∀ (is : List Nat) (vs : List V) (σ : L2.St), ((is.zip vs).foldl (fun σ p => σ.set p.1 (some p.2)) σ).length = σ.length ∧ ∀ j, j ∉ is → ((is.zip vs).foldl (fun σ p => σ.set p.1 (some p.2)) σ)[j]? = σ[j]?
  | [], vs, σ => by simp
  | _ :: _, [], σ => by simp
  | i :: is, v :: vs, σ => by
    obtain ⟨h1, h2⟩ := fold_keep is vs (σ.set i (some v))
    refine ⟨by simpa using h1, fun j hj => ?_⟩
    simp only [List.mem_cons, not_or] at hj
    rw [List.zip_cons_cons, List.foldl_cons, h2 j hj.2, List.getElem?_set_ne (Ne.symm hj.1)]
theorem tgV_t {tg : List Nat} {d : D} {ρ : En} {Q : En → Prop} (h : 2 ≤ tg.length) (w : tgV tg d ρ Q) : ∃ ds ρ', d = .tup ds ∧ setsV ρ tg ds = some ρ' ∧ Q ρ' := by
  match tg, h, w with
  | _ :: _ :: _, _, w =>
    cases d with
    | tup ds =>
      simp only [tgV] at w
      split at w
      · exact ⟨ds, _, rfl, by assumption, w⟩
      · exact w.elim
    | _ => exact False.elim w
theorem g_cp {scope : Scope} {vs tg : List Nat} (hc : X.calm = true) (hN : X.N.Nodup) (hl : ∀ x, locB scope x = true → Loc X.env.scope x ∧ (X.fn x = true ∨ X.env.scope.names.lookup x = some .local)) (h : chkTg X.N scope vs tg x = true) :
    PG X x (gCp X.K tg) := by
  match tg, x, h with
  | [i], .Name n px, h =>
    simp only [chkTg, Bool.and_eq_true, decide_eq_true_eq] at h
    obtain ⟨l1, l2⟩ := hl n h.1.2
    refine (pg_name hN h.1.1 l1 l2).weak fun v σ H κ ⟨A, M, d, ρ, Qd, r, rs, m, w, hq⟩ => hq _ _ w (rs.set r i) (fun j hj => ?_) (by simp)
    rw [List.getElem?_set_ne (fun z => hj (by simp [z]))]
  | tg, .Tuple es n px, h =>
    have h' : (decide (2 ≤ tg.length) && decide tg.Nodup && tgNames X.N scope vs tg es) = true := by
      match tg, h with
      | [], h => exact h
      | [_], h => exact h
      | _ :: _ :: _, h => exact h
    simp only [Bool.and_eq_true, decide_eq_true_eq] at h'
    obtain ⟨⟨h1, h2⟩, h3⟩ := h'
    obtain ⟨i1, i2, i3, i4⟩ := pgs_names hN hl tg es h3
    refine (pg_tup (n := tg.length) hc i1 i3 i4).weak fun v σ H κ ⟨A, M, d, ρ, Qd, r, rs, m, w, hq⟩ => ?_
    obtain ⟨ds, ρ', rfl, e, q⟩ := tgV_t h1 w
    cases r with
    | tup ha la =>
      obtain ⟨f1, f2⟩ := setsV_fold tg _ _ σ ρ ρ' la rs e
      obtain ⟨k1, k2⟩ := fold_keep tg _ σ
      exact ⟨_, _, rfl, ha, f1, f1, hq _ _ q f2 k2 k1⟩
end
end DL

set_option Elab.async false
set_option linter.all false
set_option maxRecDepth 100000
set_option maxHeartbeats 4000000
namespace DL
open PySem L2 PySem.Spec PyProof.Rows
section
variable {X : Cx} {G : Gam} {fs : List String} {k : Nat} {pos p q : Pos} {x y z : Expr} {a b c : IE} {es : List Expr} {xs : IE}
theorem c_nil : PTs X [] (rdC G X.K .nil) := pts_nil.weak fun σ H κ ⟨A, ρ, M, Q, hs, hm, hw, hl⟩ => hl true M H A hw (Stp.refl H A) hm
theorem c_one {r : IE} (h : PT X x (rdT G X.K a)) : PTs X [x] (rdC G X.K (.cons a r)) := (pts_one h).weak fun σ H κ h => h
theorem o_nil : PO X none (rdO G X.K .nil) := po_none.weak fun σ H κ ⟨A, ρ, M, Q, hs, hm, hw, hl⟩ => hl none M H A hw (Stp.refl H A) hm
theorem o_some {r : IE} (h : PE X x (rdE G X.K a)) : PO X (some x) (rdO G X.K (.cons a r)) :=
  (po_some h).weak fun σ H κ ⟨A, ρ, M, Q, hs, hm, hw, hl⟩ => ⟨A, ρ, M, _, hs, hm, hw, fun d M1 v H1 A1 ⟨i, e, q1⟩ s1 m1 r1 => by
    subst e; cases r1; exact ⟨i, rfl, hl _ M1 H1 A1 q1 s1 m1⟩⟩
theorem wipe_none : ∀ (vs : List Nat) (σ : L2.St) (j : Nat), j ∈ vs → (wipe σ vs)[j]? = none ∨ (wipe σ vs)[j]? = some none
  | [], _, _, h => by cases h
  | v :: vs, σ, j, h => by
    unfold wipe
    by_cases e : v = j
    · subst e
      by_cases hl : v < (wipe σ vs).length
      · exact .inr (List.getElem?_set_self hl)
      · exact .inl (List.getElem?_eq_none (by simpa using hl))
    · rw [List.getElem?_set_ne e]
      rcases List.mem_cons.mp h with h | h
      · exact (e h.symm).elim
      · exact wipe_none vs σ j h
theorem wipe_keep : ∀ (vs : List Nat) (σ : L2.St) (j : Nat), j ∉ vs → (wipe σ vs)[j]? = σ[j]?
  | [], _, _, _ => rfl
  | v :: vs, σ, j, h => by
    simp only [List.mem_cons, not_or] at h
    unfold wipe
    rw [List.getElem?_set_ne (Ne.symm h.1)]
    exact wipe_keep vs σ j h.2
theorem wipe_same {vs tg : List Nat} {σ σ' : L2.St} (ht : ∀ j ∈ tg, j ∈ vs) (hk : ∀ j, j ∉ tg → σ'[j]? = (wipe σ vs)[j]?) (hl : σ'.length = (wipe σ vs).length) : wipe σ' vs = wipe σ vs := by
  refine List.ext_getElem? fun j => ?_
  by_cases hj : j ∈ vs
  · have l1 : (wipe σ' vs).length = (wipe σ vs).length := by rw [wipe_length, hl]
    by_cases hb : j < (wipe σ vs).length
    · rcases wipe_none vs σ' j hj with e | e
      · have := List.getElem?_eq_none_iff.mp e
        omega
      · rcases wipe_none vs σ j hj with e' | e'
        · have := List.getElem?_eq_none_iff.mp e'
          omega
        · rw [e, e']
    · rw [List.getElem?_eq_none (by omega), List.getElem?_eq_none (by omega)]
  · rw [wipe_keep vs σ' j hj]
    exact hk j fun z => hj (ht j z)
/-- what a turn of a comprehension holds -/
structure CompI (K : Frg) (H1 : Hp) (A1 : List Addr) (Dn : Addr) (Pv : List D → Mem → Prop) (H : Hp) : Prop where
  ex : ∃ A M acc vs, H Dn = some (.lst vs) ∧ Dn ∉ A ∧ RpL K H A vs acc ∧ Rm K H A M ∧ Stp H1 A1 H A ∧ Pv acc M
theorem lc_read {elt it cond : IE} {vs tg : List Nat} (ht : ∀ j ∈ tg, j ∈ vs) {σ : L2.St} {H : Hp} {κ : VK} (h : rdE G X.K (.comp elt vs tg it cond) σ H κ) :
    tLc (rdI G X.K it) (gCp X.K tg) (rdC G X.K cond) (rdE G X.K elt) vs σ H κ := by
  obtain ⟨A, ρ, M, Q, hs, hm, hw, hl⟩ := h
  refine ⟨A, ρ, M, _, hs, hm, hw, fun src M1 H1 A1 J ⟨xs, ex, hz, Pv, h0, hst, htn, hend⟩ s1 m1 itr _ Dn hD => ?_⟩
  refine ⟨fun i m H => m = xs.length - i ∧ i ≤ xs.length ∧ CompI X.K H1 A1 Dn (Pv i) H, ⟨xs.length, by simp, Nat.zero_le _, ⟨A1, M1, [], [], upd_same, m1.fresh hD, .nil, rm_upd m1 hD, stp_upd m1 hD, h0⟩⟩, ?_⟩
  rintro i m H2 ⟨rfl, hi, ⟨A2, M2, acc, ws, hD2, nD, racc, m2, st2, pv⟩⟩
  obtain ⟨hacc, hit⟩ := hst i acc M2 hi pv
  by_cases hlt : i < xs.length
  · refine .inr ⟨itr.go H2 A2 M2 xs i xs[i] st2 m2 hit (by simp [hlt]), fun H' => CompI X.K H1 A1 Dn (Pv (i + 1)) H', fun H' n => ⟨xs.length - (i + 1), by omega, rfl, hlt, n⟩, fun v H3 hy => ?_⟩
    obtain ⟨st3, m3, r3⟩ := itr.yld H2 A2 M2 xs i xs[i] v H3 st2 m2 hit (by simp [hlt]) hy
    obtain ⟨hD3, _⟩ := st3.keep Dn _ hD2 nD
    have st13 := st2.trans st3
    have rs3 := (hs.stp hm (s1.trans st13)).wipes vs
    refine ⟨A2, M2, xs[i], wipesV ρ vs, _, r3, rs3, m3, htn i xs[i] acc M2 (by simp [hlt]) pv, fun ρ' σ' q rs' hk hln => ⟨wipe_same ht hk hln, ?_⟩⟩
    refine ⟨A2, ρ', M2, _, rs', m3, q, fun bb M4 H4 A4 q4 s4 m4 => ?_⟩
    obtain ⟨hD4, nD4⟩ := s4.keep Dn _ hD3 nD
    have racc4 := (racc.stp m2 st3).stp m3 s4
    cases bb with
    | false => exact ⟨A4, M4, acc, ws, hD4, nD4, racc4, m4, st13.trans s4, q4⟩
    | true =>
      refine ⟨A4, ρ', M4, _, rs'.stp m3 s4, m4, q4, fun d5 M5 v5 H5 A5 q5 s5 m5 r5 => ?_⟩
      obtain ⟨hD5, nD5⟩ := s5.keep Dn _ hD4 nD4
      have racc5 := racc4.stp m4 s5
      refine ⟨ws, hD5, by rw [racc5.length]; omega, ⟨A5, M5, acc ++ [d5], ws ++ [v5], upd_same, nD5, (racc5.append (.cons r5 .nil)).updL hD5, m5.updL hD5 nD5, ?_, q5⟩⟩
      have st15 := (st13.trans s4).trans s5
      exact ⟨st15.more, fun b o e nb => by
        obtain ⟨e1, n1⟩ := st15.keep b o e nb
        exact ⟨by rw [upd_ne (ne_of_none e hD)]; exact e1, n1⟩⟩
  · have e : i = xs.length := by omega
    subst e
    refine .inl ⟨itr.stop H2 A2 M2 xs _ st2 m2 hit (Nat.le_refl _), ?_⟩
    refine hl (.lst M2.length) (M2 ++ [acc]) (.ref Dn) H2 (A2 ++ [Dn]) (hend acc M2 pv) ?_ (m2.adopt hD2 nD racc) (.lst (by rw [← m2.len, List.getElem?_append_right (Nat.le_refl _)]; simp))
    have st := s1.trans st2
    obtain ⟨B, hB⟩ := st.more
    refine ⟨⟨B ++ [Dn], by rw [hB, List.append_assoc]⟩, fun b o e nb => ?_⟩
    obtain ⟨e1, n1⟩ := st.keep b o e nb
    refine ⟨e1, fun z => ?_⟩
    rcases List.mem_append.mp z with z | z
    · exact n1 z
    · obtain ⟨e2, _⟩ := s1.keep b o e nb
      rw [List.mem_singleton.mp z, hD] at e2
      cases e2
theorem tgNames_in {N : List Str} {scope : Scope} {vs : List Nat} : ∀ {is : List Nat} {es : List Expr}, tgNames N scope vs is es = true → ∀ j ∈ is, j ∈ vs
  | [], [], _, j, h => by cases h
  | [], _ :: _, h, _, _ => by simp [tgNames] at h
  | _ :: _, [], h, _, _ => by simp [tgNames] at h
  | i :: is, e :: es, h, j, hj => by
    cases e with
    | Name x px =>
      simp only [tgNames, Bool.and_eq_true, List.contains_iff_mem] at h
      rcases List.mem_cons.mp hj with rfl | hj
      · exact h.1.2
      · exact tgNames_in h.2 j hj
    | _ => simp [tgNames] at h
theorem chkTg_in {N : List Str} {scope : Scope} {vs tg : List Nat} (h : chkTg N scope vs tg x = true) : ∀ j ∈ tg, j ∈ vs := by
  match tg, x, h with
  | [i], .Name n px, h =>
    simp only [chkTg, Bool.and_eq_true, decide_eq_true_eq, List.contains_iff_mem] at h
    intro j hj
    rw [List.mem_singleton.mp hj]
    exact h.2
  | tg, .Tuple es n px, h =>
    have h' : (decide (2 ≤ tg.length) && decide tg.Nodup && tgNames N scope vs tg es) = true := by
      match tg, h with
      | [], h => exact h
      | [_], h => exact h
      | _ :: _ :: _, h => exact h
    simp only [Bool.and_eq_true] at h'
    exact tgNames_in h'.2
theorem Good.blk (g : Good G fs k X) (s : Shared) (H : Hp) (scope : Scope) (cenv : Env) (fp : List Addr) : Good G fs k (X.blk s H scope cenv fp) := ⟨g.calm, g.nd, g.gd, g.room, g.bi, g.fn⟩
theorem blk_loc {scope : Scope} {s : Shared} {H : Hp} {C : Addr} {cl : List (Str × Addr)} {fp : List Addr} {n : Str} (h : locB scope n = true) :
    Loc (X.blk s H scope (compEnvC scope cl C X.env) fp).env.scope n ∧ ((X.blk s H scope (compEnvC scope cl C X.env) fp).fn n = true ∨ (X.blk s H scope (compEnvC scope cl C X.env) fp).env.scope.names.lookup n = some .local) := by
  unfold locB at h
  split at h
  · rename_i e
    have e2 : (relS scope X.env.scope).names.lookup n = some .local := lookup_relS_keep (by decide) e
    exact ⟨.inl e2, .inr e2⟩
  · rename_i e
    have e2 : (relS scope X.env.scope).names.lookup n = some .cell := lookup_relS_keep (by decide) e
    refine ⟨.inr e2, .inl ?_⟩
    show (scope.names.lookup n == some .cell) = true
    rw [e]
    rfl
  · cases h
theorem fset (h : noSet x = true) : ∀ v, foldedSetIterable x X.env v = pure v := by
  intro v
  cases x <;> first | rfl | cases h
/-- the parts of a comprehension -/
structure CompP (G : Gam) (fs : List String) (X : Cx) (elt it cond : IE) (vs tg : List Nat) (e t i : Expr) (ifs : List Expr) (scope : Scope) : Prop where
  bl : BlkOk X.N X.env.scope scope (ownOf X.N vs)
  ow : (ownOf X.N vs).map (·.2) = vs
  tg_ : ∀ j ∈ tg, j ∈ vs
  it_ : PI X t i (rdI G X.K it)
  ns : noSet i = true
  g_ : ∀ (s : Shared) (H : Hp) (C : Addr) (cl : List (Str × Addr)) (fp : List Addr), PG (X.blk s H scope (compEnvC scope cl C X.env) fp) t (gCp X.K tg)
  c_ : ∀ (s : Shared) (H : Hp) (C : Addr) (cl : List (Str × Addr)) (fp : List Addr), PTs (X.blk s H scope (compEnvC scope cl C X.env) fp) ifs (rdC G X.K cond)
  e_ : ∀ (s : Shared) (H : Hp) (C : Addr) (cl : List (Str × Addr)) (fp : List Addr), PE (X.blk s H scope (compEnvC scope cl C X.env) fp) e (rdE G X.K elt)
theorem s_comp {elt it cond : IE} {vs tg : List Nat} {e t i : Expr} {ifs : List Expr} {scope : Scope} (g : Good G fs k X) (P : CompP G fs X elt it cond vs tg e t i ifs scope) : PE X (.ListComp e [⟨t, i, ifs, 0⟩] scope pos) (rdE G X.K (.comp elt vs tg it cond)) :=
  (pe_lc g.calm g.nd P.it_ P.bl P.g_ P.c_ P.e_ (fset P.ns)).weak fun σ H κ h => by rw [P.ow]; exact lc_read P.tg_ h
end
/-! the whole: by induction over the tree -/
structure Snd (G : Gam) (fs : List String) (k : Nat) (ie : IE) : Prop where
  e : ∀ X, Good G fs k X → ∀ e, chkE X.N fs ie X.env.scope e = true → PE X e (rdE G X.K ie)
  t : ∀ X, Good G fs k X → ∀ e, chkT X.N fs ie X.env.scope e = true → PT X e (rdT G X.K ie) ∧ ∀ op vs p, e = .BoolOp op vs p → PW X e (rdT G X.K ie)
  a : ∀ X, Good G fs k X → ∀ e, chkA X.N fs ie X.env.scope e = true → PA X e (rdA G X.K ie)
  c : ∀ X, Good G fs k X → ∀ e, chkC X.N fs ie X.env.scope e = true → PTs X e (rdC G X.K ie)
  o : ∀ X, Good G fs k X → ∀ e, chkO X.N fs ie X.env.scope e = true → PO X e (rdO G X.K ie)
  i : ∀ X, Good G fs k X → ∀ tg e, chkI X.N fs ie X.env.scope e = true → PI X tg e (rdI G X.K ie)
end DL

set_option Elab.async false
set_option linter.all false
set_option maxRecDepth 100000
set_option maxHeartbeats 8000000
namespace DL
open PySem L2 PySem.Spec PyProof.Rows
section
variable {G : Gam} {fs : List String} {k : Nat} {a b c t : IE}
abbrev SE (G : Gam) (fs : List String) (k : Nat) (ie : IE) : Prop := ∀ X, Good G fs k X → ∀ e, chkE X.N fs ie X.env.scope e = true → PE X e (rdE G X.K ie)
abbrev ST (G : Gam) (fs : List String) (k : Nat) (ie : IE) : Prop := ∀ X, Good G fs k X → ∀ e, chkT X.N fs ie X.env.scope e = true → PT X e (rdT G X.K ie) ∧ ∀ op vs p, e = .BoolOp op vs p → PW X e (rdT G X.K ie)
abbrev SA (G : Gam) (fs : List String) (k : Nat) (ie : IE) : Prop := ∀ X, Good G fs k X → ∀ e, chkA X.N fs ie X.env.scope e = true → PA X e (rdA G X.K ie)
theorem pt_only {X : Cx} {e : Expr} {T : TT} (h : PT X e T) (hn : ∀ op vs p, e ≠ .BoolOp op vs p) : PT X e T ∧ ∀ op vs p, e = .BoolOp op vs p → PW X e T := ⟨h, fun op vs p z => (hn op vs p z).elim⟩
theorem cmpB_ok {op : CmpOp} (h : cmpB op = true) : op ≠ .In ∧ op ≠ .NotIn := by
  simp only [cmpB, Bool.and_eq_true, decide_eq_true_eq] at h
  exact h
theorem e_var {i : Nat} : SE G fs k (.var i) := fun X g e h => by
  unfold chkE at h
  split at h
  · rename_i x q
    obtain ⟨p, rfl⟩ := asName_eq q
    simp only [Bool.and_eq_true, decide_eq_true_eq, Bool.not_eq_true'] at h
    exact s_var h.1.1.1 h.1.1.2 h.1.2 h.2
  · cases h
theorem e_int {n : Int} : SE G fs k (.int n) := fun X g e h => by
  unfold chkE at h
  split at h
  · rename_i x q
    obtain ⟨j, p, rfl⟩ := asConst_eq q
    simp only [decide_eq_true_eq] at h
    subst h
    exact pe_int.weak fun σ H κ ⟨A, ρ, M, Q, hs, hm, hw, hl⟩ => hl.int hm hw
  · cases h
theorem e_bl {n : Bool} : SE G fs k (.bl n) := fun X g e h => by
  unfold chkE at h
  split at h
  · rename_i x q
    obtain ⟨j, p, rfl⟩ := asConst_eq q
    simp only [decide_eq_true_eq] at h
    subst h
    exact pe_bl.weak fun σ H κ ⟨A, ρ, M, Q, hs, hm, hw, hl⟩ => hl.bl hm hw
  · cases h
theorem e_str {n : Str} : SE G fs k (.str n) := fun X g e h => by
  unfold chkE at h
  split at h
  · rename_i x q
    obtain ⟨j, p, rfl⟩ := asConst_eq q
    simp only [decide_eq_true_eq] at h
    subst h
    exact pe_str.weak fun σ H κ ⟨A, ρ, M, Q, hs, hm, hw, hl⟩ => hl.now hm (.str _) hw
  · cases h
theorem e_non : SE G fs k .non := fun X g e h => by
  unfold chkE at h
  split at h
  · rename_i q
    obtain ⟨j, p, rfl⟩ := asConst_eq q
    exact pe_non.weak fun σ H κ ⟨A, ρ, M, Q, hs, hm, hw, hl⟩ => hl.now hm .non hw
  · cases h
theorem e_bin {op : Operator} (ha : SE G fs k a) (hb : SE G fs k b) : SE G fs k (.bin op a b) := fun X g e h => by
  unfold chkE at h
  split at h
  · rename_i op' x y q
    obtain ⟨p, rfl⟩ := asBin_eq q
    simp only [Bool.and_eq_true, decide_eq_true_eq] at h
    obtain ⟨⟨rfl, h1⟩, h2⟩ := h
    exact s_bin (ha X g x h1) (hb X g y h2)
  · cases h
theorem e_neg (ha : SE G fs k a) : SE G fs k (.neg a) := fun X g e h => by
  unfold chkE at h
  split at h
  · rename_i x q
    obtain ⟨p, rfl⟩ := asUn_eq q
    exact s_neg (ha X g x h)
  · cases h
theorem e_not (ha : SE G fs k a) : SE G fs k (.not a) := fun X g e h => by
  unfold chkE at h
  split at h
  · rename_i x q
    obtain ⟨p, rfl⟩ := asUn_eq q
    exact s_not (ha X g x h)
  · cases h
theorem e_and (ha : SE G fs k a) (hb : SE G fs k b) : SE G fs k (.and a b) := fun X g e h => by
  unfold chkE at h
  split at h
  · rename_i x y r p q
    cases asBool_eq q
    simp only [Bool.and_eq_true] at h
    exact s_and (ha X g x h.1) (hb X g _ h.2)
  · cases h
theorem e_or (ha : SE G fs k a) (hb : SE G fs k b) : SE G fs k (.or a b) := fun X g e h => by
  unfold chkE at h
  split at h
  · rename_i x y r p q
    cases asBool_eq q
    simp only [Bool.and_eq_true] at h
    exact s_or (ha X g x h.1) (hb X g _ h.2)
  · cases h
theorem e_one (ha : SE G fs k a) : SE G fs k (.one a) := fun X g e h => by
  unfold chkE at h
  split at h
  · rename_i op x p q
    cases asBool_eq q
    exact s_one (ha X g x h)
  · cases h
theorem e_cmp {op : CmpOp} (ha : SE G fs k a) (hb : SE G fs k b) : SE G fs k (.cmp op a b) := fun X g e h => by
  unfold chkE at h
  split at h
  · rename_i x op' y q
    obtain ⟨p, rfl⟩ := asCmp_eq q
    simp only [Bool.and_eq_true, decide_eq_true_eq] at h
    obtain ⟨⟨⟨rfl, h1⟩, h3⟩, h4⟩ := h
    exact s_cmp g (cmpB_ok h1).1 (cmpB_ok h1).2 (ha X g x h3) (hb X g y h4)
  · cases h
theorem e_chn {op op' : CmpOp} (ha : SE G fs k a) (hb : SE G fs k b) (hc : SE G fs k c) : SE G fs k (.chn op op' a b c) := fun X g e h => by
  unfold chkE at h
  split at h
  · rename_i x o1 o2 y z q
    obtain ⟨p, rfl⟩ := asCmp_eq q
    simp only [Bool.and_eq_true, decide_eq_true_eq] at h
    obtain ⟨⟨⟨⟨⟨⟨rfl, rfl⟩, h1⟩, h2⟩, h5⟩, h6⟩, h7⟩ := h
    exact s_chn g (cmpB_ok h1).1 (cmpB_ok h1).2 (cmpB_ok h2).1 (cmpB_ok h2).2 (ha X g x h5) (hb X g y h6) (hc X g z h7)
  · cases h
theorem e_ite (ht : ST G fs k t) (ha : SE G fs k a) (hb : SE G fs k b) : SE G fs k (.ite t a b) := fun X g e h => by
  unfold chkE at h
  split at h
  · rename_i z x y q
    obtain ⟨p, rfl⟩ := asIfE_eq q
    simp only [Bool.and_eq_true] at h
    exact s_ite (ht X g z h.1.1).1 (ha X g x h.1.2) (hb X g y h.2)
  · cases h
theorem e_tup (ha : SA G fs k a) : SE G fs k (.tup a) := fun X g e h => by
  unfold chkE at h
  split at h
  · rename_i es q
    obtain ⟨n, p, rfl⟩ := asTup_eq q
    exact s_tup (ha X g es h)
  · cases h
theorem e_lst (ha : SA G fs k a) : SE G fs k (.lst a) := fun X g e h => by
  unfold chkE at h
  split at h
  · rename_i es q
    obtain ⟨p, rfl⟩ := asLst_eq q
    exact s_lst (ha X g es h)
  · cases h
theorem e_ix (ha : SE G fs k a) (hb : SE G fs k b) : SE G fs k (.ix a b) := fun X g e h => by
  unfold chkE at h
  split at h
  · rename_i x y q
    obtain ⟨p, rfl⟩ := asSub_eq q
    simp only [Bool.and_eq_true] at h
    exact s_ix h.1.1 (ha X g x h.1.2) (hb X g y h.2)
  · cases h
theorem e_sl (ha : SE G fs k a) (hb : ∀ X, Good G fs k X → ∀ e, chkO X.N fs b X.env.scope e = true → PO X e (rdO G X.K b)) (hc : ∀ X, Good G fs k X → ∀ e, chkO X.N fs c X.env.scope e = true → PO X e (rdO G X.K c)) : SE G fs k (.sl a b c) := fun X g e h => by
  unfold chkE at h
  split at h
  · rename_i x y q
    obtain ⟨p, rfl⟩ := asSub_eq q
    split at h
    · rename_i l u q2
      obtain ⟨p2, rfl⟩ := asSlice_eq q2
      simp only [Bool.and_eq_true] at h
      exact s_sl (ha X g x h.1.1) (hb X g l h.1.2) (hc X g u h.2)
    · cases h
  · cases h
theorem revB_ok {s : Option Expr × Option Expr × Option Expr} (h : revB s = true) : ∃ n p1 p2, s = (none, none, some (.UnaryOp .USub (.Constant (.int 1) n p1) p2)) := by
  unfold revB at h
  split at h
  · split at h
    · rename_i c q
      obtain ⟨p2, rfl⟩ := asUn_eq q
      split at h
      · rename_i m q2
        obtain ⟨j, p1, rfl⟩ := asConst_eq q2
        simp only [decide_eq_true_eq] at h
        subst h
        exact ⟨_, _, _, rfl⟩
      · cases h
    · cases h
  · cases h
theorem e_rev (ha : SE G fs k a) : SE G fs k (.rev a) := fun X g e h => by
  unfold chkE at h
  split at h
  · rename_i x y q
    obtain ⟨p, rfl⟩ := asSub_eq q
    split at h
    · rename_i s q2
      simp only [Bool.and_eq_true] at h
      obtain ⟨n, p1, p2, rfl⟩ := revB_ok h.1
      obtain ⟨p3, rfl⟩ := asSlice_eq q2
      exact s_rev (ha X g x h.2)
    · cases h
  · cases h
theorem cl_len {T : List String} {sc : Scope} {es : List Expr} (h : tyNameB sc T es = true) (h2 : es.length ≤ 1000) : T.length ≤ sizeLine := by rw [tys_len h]; exact Nat.le_trans h2 (by decide)
theorem e_isi {T : List String} (ha : SE G fs k a) : SE G fs k (.isi a T) := fun X g e h => by
  unfold chkE at h
  split at h
  · rename_i f x c p q
    cases asCall_eq q
    split at h
    · rename_i n q2
      obtain ⟨p2, rfl⟩ := asName_eq q2
      simp only [Bool.and_eq_true, decide_eq_true_eq] at h
      obtain ⟨⟨⟨⟨rfl, h1⟩, h4⟩, h3⟩, h5⟩ := h
      unfold isiT at h3
      split at h3
      · split at h3
        · rename_i T x' q3
          obtain ⟨p3, rfl⟩ := asName_eq q3
          simp only [Bool.and_eq_true, decide_eq_true_eq, List.contains_iff_mem] at h3
          obtain ⟨⟨rfl, h6⟩, h7⟩ := h3
          exact s_isi g h1 h6 h7 h4 (ha X g x h5)
        · cases h3
      · split at h3
        · rename_i es q3
          obtain ⟨n3, p3, rfl⟩ := asTup_eq q3
          simp only [Bool.and_eq_true, decide_eq_true_eq] at h3
          exact s_isiT g h1 h3.1 (cl_len h3.1 h3.2) h4 (ha X g x h5)
        · cases h3
    · cases h
  · cases h
theorem e_blt {f : BF} (ha : SA G fs k a) : SE G fs k (.blt f a) := fun X g e h => by
  unfold chkE at h
  split at h
  · rename_i f' es p q
    cases asCall_eq q
    split at h
    · rename_i n q2
      obtain ⟨p2, rfl⟩ := asName_eq q2
      simp only [Bool.and_eq_true, decide_eq_true_eq, Bool.not_eq_true'] at h
      obtain ⟨⟨⟨h0, rfl⟩, h1⟩, h2⟩ := h
      exact s_blt g (fun z => by subst z; cases h0) h1 h2 (ha X g es h2)
    · cases h
  · cases h
theorem mth_ok {X : Cx} {m : MF} (h : (m == .append || m == .pop || m == .extend || m == .insert) = true) : ∃ id, Slot "list" (Str.ofString (mfName m)) id ∧ typeOf (.builtin id) = pure (.type "method_descriptor") ∧ MtR X id (rM X.K (mfD m)) := by
  cases m with
  | append => exact ⟨_, PySem.F.slot_list_append, PySem.F.type_list_append, mf_append⟩
  | pop => exact ⟨_, PySem.F.slot_list_pop, PySem.F.type_list_pop, mf_pop⟩
  | extend => exact ⟨_, PySem.F.slot_list_extend, PySem.F.type_list_extend, mf_extend⟩
  | insert => exact ⟨_, PySem.F.slot_list_insert, PySem.F.type_list_insert, mf_insert⟩
  | index => cases h
  | count => cases h
theorem e_mth {m : MF} (ho : SE G fs k a) (ha : SA G fs k b) : SE G fs k (.mth m a b) := fun X g e h => by
  unfold chkE at h
  split at h
  · rename_i f' es cp q
    cases asCall_eq q
    split at h
    · rename_i x n ap q2
      cases asAttr_eq q2
      simp only [Bool.and_eq_true, decide_eq_true_eq] at h
      obtain ⟨⟨⟨⟨⟨⟨rfl, h1⟩, h2⟩, h3⟩, h4⟩, h5⟩, h6⟩ := h
      obtain ⟨id, m1, m2, m3⟩ := mth_ok (X := X) h4
      exact s_mth_of m1 m2 m3 h1 (by rw [h2]; exact beq_self_eq_true _) h3 h6 (ho X g x h5) (ha X g es h6)
    · cases h
  · cases h
theorem e_call {f : String} (ha : SA G fs k a) : SE G fs k (.call f a) := fun X g e h => by
  unfold chkE at h
  split at h
  · rename_i f' es p q
    cases asCall_eq q
    split at h
    · rename_i n q2
      obtain ⟨p2, rfl⟩ := asName_eq q2
      simp only [Bool.and_eq_true, decide_eq_true_eq, Bool.not_eq_true', List.contains_iff_mem] at h
      obtain ⟨⟨⟨⟨h0, rfl⟩, h1⟩, h2⟩, h3⟩ := h
      exact s_call g h0 h1 h2 h3 (ha X g es h3)
    · cases h
  · cases h
theorem p_comp {elt it cond : IE} {vs tg : List Nat} (he : SE G fs k elt) (hi : ∀ X, Good G fs k X → ∀ tg e, chkI X.N fs it X.env.scope e = true → PI X tg e (rdI G X.K it))
    (hc : ∀ X, Good G fs k X → ∀ e, chkC X.N fs cond X.env.scope e = true → PTs X e (rdC G X.K cond)) {X : Cx} (g : Good G fs k X) {e t i : Expr} {ifs : List Expr} {scope : Scope}
    (h : (blkB X.N X.env.scope scope vs tg t i && chkI X.N fs it X.env.scope i && chkC X.N fs cond (relS scope X.env.scope) ifs && chkE X.N fs elt (relS scope X.env.scope) e) = true) : CompP G fs X elt it cond vs tg e t i ifs scope := by
  simp only [blkB, Bool.and_eq_true, decide_eq_true_eq] at h
  obtain ⟨⟨⟨⟨⟨⟨h1, h2⟩, h3⟩, h4⟩, h5⟩, h6⟩, h7⟩ := h
  exact ⟨blkOk_by h1, h2, chkTg_in h3, hi X g t i h5, h4, fun s H C cl fp => g_cp g.calm g.nd (fun x hx => blk_loc hx) h3,
    fun s H C cl fp => hc _ (g.blk s H scope _ fp) ifs h6, fun s H C cl fp => he _ (g.blk s H scope _ fp) e h7⟩
theorem e_comp {elt it cond : IE} {vs tg : List Nat} (he : SE G fs k elt) (hi : ∀ X, Good G fs k X → ∀ tg e, chkI X.N fs it X.env.scope e = true → PI X tg e (rdI G X.K it))
    (hc : ∀ X, Good G fs k X → ∀ e, chkC X.N fs cond X.env.scope e = true → PTs X e (rdC G X.K cond)) : SE G fs k (.comp elt vs tg it cond) := fun X g e h => by
  unfold chkE at h
  split at h
  · rename_i el t i ifs scope q
    obtain ⟨p, rfl⟩ := asComp_eq q
    exact s_comp g (p_comp he hi hc g h)
  · cases h
/-! tests -/
theorem u_not (ha : ST G fs k a) : ST G fs k (.not a) := fun X g e h => by
  unfold chkT at h
  split at h
  · rename_i x q
    obtain ⟨p, rfl⟩ := asUn_eq q
    exact pt_only (t_not (ha X g x h).1) fun _ _ _ z => by cases z
  · cases h
theorem bool_pw {X : Cx} {op : BoolOp} {es : List Expr} {p : Pos} {T : TT} (h : PT X (.BoolOp op es p) T ∧ ∀ op' vs q, Expr.BoolOp op es p = .BoolOp op' vs q → PW X (.BoolOp op es p) T) : PW X (.BoolOp op es p) T := h.2 _ _ _ rfl
theorem u_and (ha : ST G fs k a) (hb : ST G fs k b) : ST G fs k (.and a b) := fun X g e h => by
  unfold chkT at h
  split at h
  · rename_i x y r p q
    cases asBool_eq q
    simp only [Bool.and_eq_true] at h
    have q := t_and (ha X g x h.1).1 (bool_pw (hb X g _ h.2))
    exact ⟨q.pt, fun _ _ _ _ => q⟩
  · cases h
theorem u_or (ha : ST G fs k a) (hb : ST G fs k b) : ST G fs k (.or a b) := fun X g e h => by
  unfold chkT at h
  split at h
  · rename_i x y r p q
    cases asBool_eq q
    simp only [Bool.and_eq_true] at h
    have q := t_or (ha X g x h.1).1 (bool_pw (hb X g _ h.2))
    exact ⟨q.pt, fun _ _ _ _ => q⟩
  · cases h
theorem u_one (ha : ST G fs k a) : ST G fs k (.one a) := fun X g e h => by
  unfold chkT at h
  split at h
  · rename_i op x p q
    cases asBool_eq q
    have q := t_one (op := op) (pos := p) (ha X g x h).1
    exact ⟨q.pt, fun _ _ _ _ => q⟩
  · cases h
theorem u_cmp {op : CmpOp} (ha : SE G fs k a) (hb : SE G fs k b) : ST G fs k (.cmp op a b) := fun X g e h => by
  unfold chkT at h
  split at h
  · rename_i x op' y q
    obtain ⟨p, rfl⟩ := asCmp_eq q
    simp only [Bool.and_eq_true, decide_eq_true_eq] at h
    obtain ⟨⟨⟨rfl, h1⟩, h3⟩, h4⟩ := h
    exact pt_only (t_cmp g (cmpB_ok h1).1 (cmpB_ok h1).2 (ha X g x h3) (hb X g y h4)) fun _ _ _ z => by cases z
  · cases h
theorem u_chn {op op' : CmpOp} (ha : SE G fs k a) (hb : SE G fs k b) (hc : SE G fs k c) : ST G fs k (.chn op op' a b c) := fun X g e h => by
  unfold chkT at h
  split at h
  · rename_i x o1 o2 y z q
    obtain ⟨p, rfl⟩ := asCmp_eq q
    simp only [Bool.and_eq_true, decide_eq_true_eq] at h
    obtain ⟨⟨⟨⟨⟨⟨rfl, rfl⟩, h1⟩, h2⟩, h5⟩, h6⟩, h7⟩ := h
    exact pt_only (t_chn g (cmpB_ok h1).1 (cmpB_ok h1).2 (cmpB_ok h2).1 (cmpB_ok h2).2 (ha X g x h5) (hb X g y h6) (hc X g z h7)) fun _ _ _ z => by cases z
  · cases h
theorem wpT_var {i : Nat} {ρ : En} {M : Mem} {Q : Bool → Mem → Prop} (h : wpT G (.var i) ρ M Q) : wpE G (.var i) ρ M fun d M2 => ∃ c, d = .bl c ∧ Q c M2 := by
  have h' : onV (getV ρ i) fun d => ∃ c, d = .bl c ∧ Q c M := h
  exact h'
theorem chkT_E {N : List Str} {ie : IE} {sc : Scope} {e : Expr} (hi : (∃ i, ie = .var i) ∨ (∃ a T, ie = .isi a T) ∨ (∃ f a, ie = .blt f a) ∨ ∃ f a, ie = .call f a) (h : chkT N fs ie sc e = true) : chkE N fs ie sc e = true := by
  rcases hi with ⟨i, rfl⟩ | ⟨a, T, rfl⟩ | ⟨f, a, rfl⟩ | ⟨f, a, rfl⟩ <;> exact h
theorem u_var {i : Nat} : ST G fs k (.var i) := fun X g e h => by
  have h' := chkT_E (.inl ⟨_, rfl⟩) h
  unfold chkT at h
  split at h
  · rename_i x q
    obtain ⟨p, rfl⟩ := asName_eq q
    exact pt_only (t_val (e_var X g _ h') (fun _ => rfl) fun _ _ _ q => wpT_var q) fun _ _ _ z => by cases z
  · cases h
theorem u_isi {T : List String} (ha : SE G fs k a) : ST G fs k (.isi a T) := fun X g e h => by
  have h' := chkT_E (.inr (.inl ⟨_, _, rfl⟩)) h
  unfold chkT at h
  split at h
  · rename_i f x c p q
    cases asCall_eq q
    exact pt_only (t_val (e_isi ha X g _ h') (fun _ => rfl) fun ρ M Q q => q) fun _ _ _ z => by cases z
  · cases h
theorem u_blt {f : BF} (ha : SA G fs k a) : ST G fs k (.blt f a) := fun X g e h => by
  have h' := chkT_E (.inr (.inr (.inl ⟨_, _, rfl⟩))) h
  unfold chkT at h
  split at h
  · rename_i f' es p q
    cases asCall_eq q
    exact pt_only (t_val (e_blt ha X g _ h') (fun _ => rfl) fun ρ M Q q => q) fun _ _ _ z => by cases z
  · cases h
theorem u_call {f : String} (ha : SA G fs k a) : ST G fs k (.call f a) := fun X g e h => by
  have h' := chkT_E (.inr (.inr (.inr ⟨_, _, rfl⟩))) h
  unfold chkT at h
  split at h
  · rename_i f' es p q
    cases asCall_eq q
    exact pt_only (t_val (e_call ha X g _ h') (fun _ => rfl) fun ρ M Q q => q) fun _ _ _ z => by cases z
  · cases h
end
end DL

set_option Elab.async false
set_option linter.all false
set_option maxRecDepth 100000
set_option maxHeartbeats 8000000
namespace DL
open PySem L2 PySem.Spec PyProof.Rows
section
variable {G : Gam} {fs : List String} {k : Nat} {a b c t : IE}
theorem a_nil' : SA G fs k .nil := fun X g e h => by
  cases e with
  | nil => exact a_nil
  | cons _ _ => cases h
theorem a_cons' (ha : SE G fs k a) (hb : SA G fs k b) : SA G fs k (.cons a b) := fun X g e h => by
  cases e with
  | nil => cases h
  | cons e es =>
    simp only [chkA, Bool.and_eq_true] at h
    exact a_cons h.1.1 (ha X g e h.1.2) (hb X g es h.2)
theorem c_nil' : ∀ X, Good G fs k X → ∀ e, chkC X.N fs .nil X.env.scope e = true → PTs X e (rdC G X.K .nil) := fun X g e h => by
  cases e with
  | nil => exact c_nil
  | cons _ _ => cases h
theorem c_cons' (ha : ST G fs k a) : ∀ X, Good G fs k X → ∀ e, chkC X.N fs (.cons a b) X.env.scope e = true → PTs X e (rdC G X.K (.cons a b)) := fun X g e h => by
  match e, h with
  | [e], h => exact c_one (ha X g e h).1
theorem o_nil' : ∀ X, Good G fs k X → ∀ e, chkO X.N fs .nil X.env.scope e = true → PO X e (rdO G X.K .nil) := fun X g e h => by
  cases e with
  | none => exact o_nil
  | some _ => cases h
theorem o_cons' (ha : SE G fs k a) : ∀ X, Good G fs k X → ∀ e, chkO X.N fs (.cons a b) X.env.scope e = true → PO X e (rdO G X.K (.cons a b)) := fun X g e h => by
  cases e with
  | none => cases h
  | some e => exact o_some (ha X g e h)
theorem i_cons' (ha : SE G fs k a) : ∀ X, Good G fs k X → ∀ tg e, chkI X.N fs (.cons a b) X.env.scope e = true → PI X tg e (rdI G X.K (.cons a b)) := fun X g tg e h => i_val (ha X g e h)
theorem i_rng1' (ha : SE G fs k a) : ∀ X, Good G fs k X → ∀ tg e, chkI X.N fs (.rng1 a) X.env.scope e = true → PI X tg e (rdI G X.K (.rng1 a)) := fun X g tg e h => by
  unfold chkI at h
  split at h
  · rename_i f x p q
    cases asCall_eq q
    split at h
    · rename_i n q2
      obtain ⟨p2, rfl⟩ := asName_eq q2
      simp only [Bool.and_eq_true, decide_eq_true_eq] at h
      obtain ⟨⟨⟨rfl, h1⟩, h2⟩, h3⟩ := h
      exact i_rng1 g h1 h2 (ha X g x h3)
    · cases h
  · cases h
theorem i_rng2' (ha : SE G fs k a) (hb : SE G fs k b) : ∀ X, Good G fs k X → ∀ tg e, chkI X.N fs (.rng2 a b) X.env.scope e = true → PI X tg e (rdI G X.K (.rng2 a b)) := fun X g tg e h => by
  unfold chkI at h
  split at h
  · rename_i f x y p q
    cases asCall_eq q
    split at h
    · rename_i n q2
      obtain ⟨p2, rfl⟩ := asName_eq q2
      simp only [Bool.and_eq_true, decide_eq_true_eq] at h
      obtain ⟨⟨⟨⟨⟨rfl, h1⟩, h2⟩, h3⟩, h4⟩, h5⟩ := h
      exact i_rng2 g h1 h2 h3 (ha X g x h4) (hb X g y h5)
    · cases h
  · cases h
theorem snd (G : Gam) (fs : List String) (k : Nat) (ie : IE) : Snd G fs k ie := by
  induction ie with
  | var i => exact ⟨e_var, u_var, fun _ _ _ h => (by cases h), fun _ _ _ h => (by cases h), fun _ _ _ h => (by cases h), fun _ _ _ _ h => (by cases h)⟩
  | int n => exact ⟨e_int, fun _ _ _ h => (by cases h), fun _ _ _ h => (by cases h), fun _ _ _ h => (by cases h), fun _ _ _ h => (by cases h), fun _ _ _ _ h => (by cases h)⟩
  | bl n => exact ⟨e_bl, fun _ _ _ h => (by cases h), fun _ _ _ h => (by cases h), fun _ _ _ h => (by cases h), fun _ _ _ h => (by cases h), fun _ _ _ _ h => (by cases h)⟩
  | str n => exact ⟨e_str, fun _ _ _ h => (by cases h), fun _ _ _ h => (by cases h), fun _ _ _ h => (by cases h), fun _ _ _ h => (by cases h), fun _ _ _ _ h => (by cases h)⟩
  | non => exact ⟨e_non, fun _ _ _ h => (by cases h), fun _ _ _ h => (by cases h), fun _ _ _ h => (by cases h), fun _ _ _ h => (by cases h), fun _ _ _ _ h => (by cases h)⟩
  | bin op a b ha hb => exact ⟨e_bin ha.e hb.e, fun _ _ _ h => (by cases h), fun _ _ _ h => (by cases h), fun _ _ _ h => (by cases h), fun _ _ _ h => (by cases h), fun _ _ _ _ h => (by cases h)⟩
  | neg a ha => exact ⟨e_neg ha.e, fun _ _ _ h => (by cases h), fun _ _ _ h => (by cases h), fun _ _ _ h => (by cases h), fun _ _ _ h => (by cases h), fun _ _ _ _ h => (by cases h)⟩
  | not a ha => exact ⟨e_not ha.e, u_not ha.t, fun _ _ _ h => (by cases h), fun _ _ _ h => (by cases h), fun _ _ _ h => (by cases h), fun _ _ _ _ h => (by cases h)⟩
  | and a b ha hb => exact ⟨e_and ha.e hb.e, u_and ha.t hb.t, fun _ _ _ h => (by cases h), fun _ _ _ h => (by cases h), fun _ _ _ h => (by cases h), fun _ _ _ _ h => (by cases h)⟩
  | or a b ha hb => exact ⟨e_or ha.e hb.e, u_or ha.t hb.t, fun _ _ _ h => (by cases h), fun _ _ _ h => (by cases h), fun _ _ _ h => (by cases h), fun _ _ _ _ h => (by cases h)⟩
  | one a ha => exact ⟨e_one ha.e, u_one ha.t, fun _ _ _ h => (by cases h), fun _ _ _ h => (by cases h), fun _ _ _ h => (by cases h), fun _ _ _ _ h => (by cases h)⟩
  | cmp op a b ha hb => exact ⟨e_cmp ha.e hb.e, u_cmp ha.e hb.e, fun _ _ _ h => (by cases h), fun _ _ _ h => (by cases h), fun _ _ _ h => (by cases h), fun _ _ _ _ h => (by cases h)⟩
  | chn o1 o2 a b c ha hb hc => exact ⟨e_chn ha.e hb.e hc.e, u_chn ha.e hb.e hc.e, fun _ _ _ h => (by cases h), fun _ _ _ h => (by cases h), fun _ _ _ h => (by cases h), fun _ _ _ _ h => (by cases h)⟩
  | ite t a b ht ha hb => exact ⟨e_ite ht.t ha.e hb.e, fun _ _ _ h => (by cases h), fun _ _ _ h => (by cases h), fun _ _ _ h => (by cases h), fun _ _ _ h => (by cases h), fun _ _ _ _ h => (by cases h)⟩
  | tup a ha => exact ⟨e_tup ha.a, fun _ _ _ h => (by cases h), fun _ _ _ h => (by cases h), fun _ _ _ h => (by cases h), fun _ _ _ h => (by cases h), fun _ _ _ _ h => (by cases h)⟩
  | lst a ha => exact ⟨e_lst ha.a, fun _ _ _ h => (by cases h), fun _ _ _ h => (by cases h), fun _ _ _ h => (by cases h), fun _ _ _ h => (by cases h), fun _ _ _ _ h => (by cases h)⟩
  | nil => exact ⟨fun _ _ _ h => (by cases h), fun _ _ _ h => (by cases h), a_nil', c_nil', o_nil', fun _ _ _ _ h => (by cases h)⟩
  | cons a r ha hr => exact ⟨fun _ _ _ h => (by cases h), fun _ _ _ h => (by cases h), a_cons' ha.e hr.a, c_cons' ha.t, o_cons' ha.e, i_cons' ha.e⟩
  | ix a b ha hb => exact ⟨e_ix ha.e hb.e, fun _ _ _ h => (by cases h), fun _ _ _ h => (by cases h), fun _ _ _ h => (by cases h), fun _ _ _ h => (by cases h), fun _ _ _ _ h => (by cases h)⟩
  | sl a b c ha hb hc => exact ⟨e_sl ha.e hb.o hc.o, fun _ _ _ h => (by cases h), fun _ _ _ h => (by cases h), fun _ _ _ h => (by cases h), fun _ _ _ h => (by cases h), fun _ _ _ _ h => (by cases h)⟩
  | rev a ha => exact ⟨e_rev ha.e, fun _ _ _ h => (by cases h), fun _ _ _ h => (by cases h), fun _ _ _ h => (by cases h), fun _ _ _ h => (by cases h), fun _ _ _ _ h => (by cases h)⟩
  | isi a T ha => exact ⟨e_isi ha.e, u_isi ha.e, fun _ _ _ h => (by cases h), fun _ _ _ h => (by cases h), fun _ _ _ h => (by cases h), fun _ _ _ _ h => (by cases h)⟩
  | blt f a ha => exact ⟨e_blt ha.a, u_blt ha.a, fun _ _ _ h => (by cases h), fun _ _ _ h => (by cases h), fun _ _ _ h => (by cases h), fun _ _ _ _ h => (by cases h)⟩
  | mth m a b ha hb => exact ⟨e_mth ha.e hb.a, fun _ _ _ h => (by cases h), fun _ _ _ h => (by cases h), fun _ _ _ h => (by cases h), fun _ _ _ h => (by cases h), fun _ _ _ _ h => (by cases h)⟩
  | call f a ha => exact ⟨e_call ha.a, u_call ha.a, fun _ _ _ h => (by cases h), fun _ _ _ h => (by cases h), fun _ _ _ h => (by cases h), fun _ _ _ _ h => (by cases h)⟩
  | comp elt vs tg it cond he hi hc => exact ⟨e_comp he.e hi.i hc.c, fun _ _ _ h => (by cases h), fun _ _ _ h => (by cases h), fun _ _ _ h => (by cases h), fun _ _ _ h => (by cases h), fun _ _ _ _ h => (by cases h)⟩
  | rng1 a ha => exact ⟨fun _ _ _ h => (by cases h), fun _ _ _ h => (by cases h), fun _ _ _ h => (by cases h), fun _ _ _ h => (by cases h), fun _ _ _ h => (by cases h), i_rng1' ha.e⟩
  | rng2 a b ha hb => exact ⟨fun _ _ _ h => (by cases h), fun _ _ _ h => (by cases h), fun _ _ _ h => (by cases h), fun _ _ _ h => (by cases h), fun _ _ _ h => (by cases h), i_rng2' ha.e hb.e⟩
  | zip a b ha hb => exact ⟨fun _ _ _ h => (by cases h), fun _ _ _ h => (by cases h), fun _ _ _ h => (by cases h), fun _ _ _ h => (by cases h), fun _ _ _ h => (by cases h), fun _ _ _ _ h => (by cases h)⟩
  | enum a ha => exact ⟨fun _ _ _ h => (by cases h), fun _ _ _ h => (by cases h), fun _ _ _ h => (by cases h), fun _ _ _ h => (by cases h), fun _ _ _ h => (by cases h), fun _ _ _ _ h => (by cases h)⟩
end
end DL

set_option Elab.async false
set_option linter.all false
set_option maxRecDepth 100000
set_option maxHeartbeats 8000000
namespace DL
open PySem L2 PySem.Spec PyProof.Rows
/-! statements: is this tree that text? -/
def lnB (sc : Scope) (x : Str) : Bool := match sc.names.lookup x with
  | some .local => true
  | _ => false
mutual
def chkG (N : List Str) (fs : List String) : IG → Scope → Expr → Bool
  | .v i, sc, .Name x _ => decide (N[i]? = some x) && locB sc x
  | .t xs, sc, .Tuple es _ _ => chkGs N fs xs sc es
  | .sub o i, sc, .Subscript x y _ => noSlice y && chkE N fs o sc x && chkE N fs i sc y
  | _, _, _ => false
def chkGs (N : List Str) (fs : List String) : IG → Scope → List Expr → Bool
  | .nil, _, [] => true
  | .cons a r, sc, e :: es => chkG N fs a sc e && chkGs N fs r sc es
  | _, _, _ => false
end
def isTup : Expr → Bool
  | .Tuple _ _ _ => true
  | _ => false
/-- two sides that are not swapped: their targets are not two or three plain names -/
def plainNames (sc : Scope) : List Expr → Bool
  | [] => true
  | .Name x _ :: r => lnB sc x && plainNames sc r
  | _ :: _ => false
def noSwap (sc : Scope) (t v : Expr) : Bool := match t, v with
  | .Tuple ts _ _, .Tuple vs _ _ => !(ts.length == 2 || ts.length == 3) || !plainNames sc ts
  | _, _ => true
def parOk (N : List Str) (sc : Scope) (is : List Nat) (ts vs : List Expr) : Bool := match is, ts, vs with
  | [i, j], [.Name x px, .Name y py], [a, b] => decide (N[i]? = some x) && decide (N[j]? = some y) && decide (i ≠ j) && lnB sc x && lnB sc y && decide (py.line = px.line) && decide (x ≠ y) && noStar a && noStar b && ![a, b].all (foldedForSure 8) && ![a, b].all (constantsAlone 8)
  | [i, j, l], [.Name x px, .Name y py, .Name z pz], [a, b, c] => decide (N[i]? = some x) && decide (N[j]? = some y) && decide (N[l]? = some z) && decide (i ≠ j) && decide (i ≠ l) && decide (j ≠ l) && lnB sc x && lnB sc y && lnB sc z && decide (py.line = px.line) && decide (pz.line = px.line) && decide (x ≠ y) && decide (x ≠ z) && decide (y ≠ z) && noStar a && noStar b && noStar c && ![a, b, c].all (foldedForSure 8) && ![a, b, c].all (constantsAlone 8)
  | _, _, _ => false
def lcOk (N : List Str) (sc : Scope) (g : IG) (t v : Expr) : Bool := match g, t, v with
  | .v i, .Name y py, .ListComp _ _ scope pos => decide (N[i]? = some y) && lnB sc y && decide (py.line = pos.line) && !(scope.names.any fun (n, k) => n == y && (k == .local || k == .cell))
  | _, _, _ => false
def asAsg : Stmt → Option (Expr × Expr)
  | .Assign [t] v _ => some (t, v)
  | _ => none
def asEx : Stmt → Option Expr
  | .Expr v _ => some v
  | _ => none
def asRet : Stmt → Option (Option Expr)
  | .Return v _ => some v
  | _ => none
def asFlow : Stmt → Option Nat
  | .Pass _ => some 0
  | .Break _ => some 1
  | .Continue _ => some 2
  | _ => none
def asIf : Stmt → Option (Expr × List Stmt × List Stmt)
  | .If c x y _ => some (c, x, y)
  | _ => none
def asWhl : Stmt → Option (Expr × List Stmt)
  | .While c x [] _ => some (c, x)
  | _ => none
def asFor : Stmt → Option (Expr × Expr × List Stmt)
  | .For t i x [] _ => some (t, i, x)
  | _ => none
theorem asAsg_eq {s : Stmt} {t v : Expr} (h : asAsg s = some (t, v)) : ∃ p, s = .Assign [t] v p := by
  cases s with
  | Assign ts v' p =>
    match ts, h with
    | [t'], h => cases h; exact ⟨_, rfl⟩
  | _ => cases h
theorem asEx_eq {s : Stmt} {v : Expr} (h : asEx s = some v) : ∃ p, s = .Expr v p := by cases s <;> first | (cases h; done) | (cases h; exact ⟨_, rfl⟩)
theorem asRet_eq {s : Stmt} {v : Option Expr} (h : asRet s = some v) : ∃ p, s = .Return v p := by cases s <;> first | (cases h; done) | (cases h; exact ⟨_, rfl⟩)
theorem asIf_eq {s : Stmt} {c : Expr} {x y : List Stmt} (h : asIf s = some (c, x, y)) : ∃ p, s = .If c x y p := by cases s <;> first | (cases h; done) | (cases h; exact ⟨_, rfl⟩)
theorem asWhl_eq {s : Stmt} {c : Expr} {x : List Stmt} (h : asWhl s = some (c, x)) : ∃ p, s = .While c x [] p := by
  cases s with
  | While c' x' o p => cases o <;> cases h; exact ⟨_, rfl⟩
  | _ => cases h
theorem asFor_eq {s : Stmt} {t i : Expr} {x : List Stmt} (h : asFor s = some (t, i, x)) : ∃ p, s = .For t i x [] p := by
  cases s with
  | For t' i' x' o p => cases o <;> cases h; exact ⟨_, rfl⟩
  | _ => cases h
theorem asFlow_eq {s : Stmt} : (asFlow s = some 0 → ∃ p, s = .Pass p) ∧ (asFlow s = some 1 → ∃ p, s = .Break p) ∧ (asFlow s = some 2 → ∃ p, s = .Continue p) := by
  cases s <;> refine ⟨fun h => ?_, fun h => ?_, fun h => ?_⟩ <;> first | (cases h; done) | exact ⟨_, rfl⟩
mutual
def chkS (N : List Str) (fs : List String) (sc : Scope) : IS → List Stmt → Bool
  | .skip, [] => true
  | .seq s r, st :: rest => chk1 N fs sc s st && chkS N fs sc r rest
  | _, _ => false
def chk1 (N : List Str) (fs : List String) (sc : Scope) : IS → Stmt → Bool
  | .asg g e, st => (match asAsg st with | some (t, v) => (lcOk N sc g t v || (chkG N fs g sc t && (noComp v || isTup t) && noSwap sc t v)) && chkE N fs e sc v | none => false)
  | .par is xs, st => (match asAsg st with | some (t, v) => (match asTup t, asTup v with | some ts, some vs => parOk N sc is ts vs && chkA N fs xs sc vs | _, _ => false) | none => false)
  | .ex e, st => (match asEx st with | some v => noComp v && chkE N fs e sc v | none => false)
  | .ret e, st => (match asRet st with | some (some v) => chkE N fs e sc v | _ => false)
  | .retn, st => (match asRet st with | some none => true | _ => false)
  | .pass, st => decide (asFlow st = some 0)
  | .brk, st => decide (asFlow st = some 1)
  | .cnt, st => decide (asFlow st = some 2)
  | .ite t a b, st => (match asIf st with | some (c, x, y) => chkT N fs t sc c && chkS N fs sc a x && chkS N fs sc b y | none => false)
  | .whl t b, st => (match asWhl st with | some (c, x) => chkT N fs t sc c && chkS N fs sc b x | none => false)
  | .for_ g it b, st => (match asFor st with | some (t, i, x) => noSet i && chkG N fs g sc t && chkI N fs it sc i && chkS N fs sc b x | none => false)
  | _, _ => false
end

structure GoodS (G : Gam) (fs : List String) (k : Nat) (X : Cx) : Prop where
  g : Good G fs k X
  fn : ∀ x, X.fn x = true
  kd : X.env.scope.kind = .function
  xe : X.xe = fun _ _ => False
structure LfS (K : Frg) (H : Hp) (A : List Addr) (E : DE) (D : Ends) : Prop where
  nx : ∀ ρ' M' σ' H' A', E.nx ρ' M' → Stp H A H' A' → Rm K H' A' M' → Rs K H' A' σ' ρ' → D.nx σ' H'
  rt : Lf K H A E.rt D.rt
  bk : ∀ ρ' M' σ' H' A', E.bk ρ' M' → Stp H A H' A' → Rm K H' A' M' → Rs K H' A' σ' ρ' → D.bk σ' H'
  ct : ∀ ρ' M' σ' H' A', E.ct ρ' M' → Stp H A H' A' → Rm K H' A' M' → Rs K H' A' σ' ρ' → D.ct σ' H'
theorem LfS.stp {K : Frg} {H H' : Hp} {A A' : List Addr} {E : DE} {D : Ends} (l : LfS K H A E D) (s : Stp H A H' A') : LfS K H' A' E D :=
  ⟨fun ρ M σ H2 A2 q t m r => l.nx ρ M σ H2 A2 q (s.trans t) m r, l.rt.stp s, fun ρ M σ H2 A2 q t m r => l.bk ρ M σ H2 A2 q (s.trans t) m r, fun ρ M σ H2 A2 q t m r => l.ct ρ M σ H2 A2 q (s.trans t) m r⟩
def rdS (G : Gam) (K : Frg) (s : IS) : TS := fun D σ H => ∃ A ρ M E, Rs K H A σ ρ ∧ Rm K H A M ∧ wpS G s E ρ M ∧ LfS K H A E D
def rdG (G : Gam) (K : Frg) (g : IG) : L2.TG := fun v σ H Q => ∃ A M d ρ Qd, Rp K H A v d ∧ Rs K H A σ ρ ∧ Rm K H A M ∧ wpG G g d ρ M Qd ∧
  ∀ ρ' M' σ' H' A', Qd ρ' M' → Stp H A H' A' → Rm K H' A' M' → Rs K H' A' σ' ρ' → Q σ' H'
def rdGs (G : Gam) (K : Frg) (g : IG) : L2.TGs := fun vs σ H Q => ∃ A M ds ρ Qd, RpL K H A vs ds ∧ Rs K H A σ ρ ∧ Rm K H A M ∧ wpGs G g ds ρ M Qd ∧
  ∀ ρ' M' σ' H' A', Qd ρ' M' → Stp H A H' A' → Rm K H' A' M' → Rs K H' A' σ' ρ' → Q σ' H'
theorem _root_.L2.PS.weak {X : Cx} {e : Stmt} {t t' : TS} (h : PS X e t) (w : ∀ D σ H, t' D σ H → t D σ H) : PS X e t' := ⟨fun pins s σ H D I q => h.run pins s σ H D I (w D σ H q)⟩
theorem _root_.L2.PSs.weak {X : Cx} {e : List Stmt} {t t' : TS} (h : PSs X e t) (w : ∀ D σ H, t' D σ H → t D σ H) : PSs X e t' := ⟨fun pins s σ H D I q => h.run pins s σ H D I (w D σ H q)⟩
section
variable {X : Cx} {G : Gam} {fs : List String} {k : Nat} {pos p q : Pos}
theorem locB_loc (g : GoodS G fs k X) {x : Str} (h : locB X.env.scope x = true) : Loc X.env.scope x := by
  unfold locB at h
  split at h
  · exact .inl (by assumption)
  · exact .inr (by assumption)
  · cases h
theorem asg_tgt {t : Expr} {r : List Expr} {g : IG} (h : chkG X.N fs g X.env.scope t = true) : (assignEach (t :: r) X.env) = (false, assign t X.env) :: assignEach r X.env := by
  cases g with
  | v i => cases t <;> first | rfl | cases h
  | t xs => cases t <;> first | rfl | cases h
  | sub o i => cases t <;> first | rfl | cases h
  | nil => cases h
  | cons a r => cases h
theorem gs_len {N : List Str} {sc : Scope} : ∀ (g : IG) (ts : List Expr), chkGs N fs g sc ts = true → ts.length = lenG g
  | .nil, [], _ => rfl
  | .cons a r, t :: ts, h => by
    simp only [chkGs, Bool.and_eq_true] at h
    simp [lenG, gs_len r ts h.2]
  | .nil, _ :: _, h => by cases h
  | .cons _ _, [], h => by cases h
  | .v _, _, h => by cases h
  | .t _, _, h => by cases h
  | .sub _ _, _, h => by cases h
theorem pg_or {t1 t2 : L2.TG} {e : Expr} (h1 : PG X e t1) (h2 : PG X e t2) : PG X e (fun v σ H Q => t1 v σ H Q ∨ t2 v σ H Q) :=
  ⟨fun pins s σ H v u Q I r h => h.elim (h1.run pins s σ H v u Q I r) (h2.run pins s σ H v u Q I r)⟩
mutual
theorem g_snd (gs : GoodS G fs k X) : ∀ (g : IG) (t : Expr), chkG X.N fs g X.env.scope t = true → PG X t (rdG G X.K g)
  | .v i, t, h => by
    cases t with
    | Name x p =>
      simp only [chkG, Bool.and_eq_true, decide_eq_true_eq] at h
      exact (pg_name gs.g.nd h.1 (locB_loc gs h.2) (.inl (gs.fn x))).weak fun v σ H κ ⟨A, M, d, ρ, Qd, r, rs, m, w, hq⟩ => hq _ M _ H A w (Stp.refl H A) m (rs.set r i)
    | _ => cases h
  | .t xs, t, h => by
    cases t with
    | Tuple es n p =>
      obtain ⟨i1, i2, i3⟩ := gs_snd gs xs es h
      refine (pg_or (pg_tup (n := es.length) gs.g.calm i1 i2 i3) (pg_lst (n := es.length) gs.g.calm i1 i2 i3)).weak fun v σ H κ ⟨A, M, d, ρ, Qd, r, rs, m, ⟨ds, e, el, w⟩, hq⟩ => ?_
      rcases e with e | ⟨n, e, g⟩
      · subst e
        cases r with
        | tup ha la => exact .inl ⟨_, _, rfl, ha, by rw [la.length, el, gs_len xs es h], A, M, ds, ρ, _, la, rs, m, w, hq⟩
      · subst e
        cases r with
        | lst ha =>
          obtain ⟨vs, h2, h3⟩ := m.list ha g
          exact .inr ⟨_, vs, rfl, SqL.of h2, by rw [h3.length, el, gs_len xs es h], A, M, ds, ρ, _, h3, rs, m, w, hq⟩
    | _ => cases h
  | .sub o i, t, h => by
    cases t with
    | Subscript x y p =>
      simp only [chkG, Bool.and_eq_true] at h
      have hx := (snd G fs k o).e X gs.g x h.1.2
      have hy := (snd G fs k i).e X gs.g y h.2
      have hns := h.1.1
      refine (pg_sub hx hy setD_ok (by intro v; cases y <;> first | rfl | cases hns)).weak fun v σ H κ ⟨A, M, d, ρ, Qd, r, rs, m, w, hq⟩ => ?_
      refine ⟨A, ρ, M, _, rs, m, w, fun d1 M1 v1 H1 A1 q1 s1 m1 r1 => ⟨A1, ρ, M1, _, rs.stp m s1, m1, q1, fun d2 M2 v2 H2 A2 q2 s2 m2 r2 => ?_⟩⟩
      exact ⟨A2, M2, d1, d2, d, _, r1.stp m1 s2, r2, (r.stp m s1).stp m1 s2, m2, q2, fun M3 H3 q3 s3 m3 => hq ρ M3 σ H3 A2 q3 ((s1.trans s2).trans s3) m3 (((rs.stp m s1).stp m1 s2).stp m2 s3)⟩
    | _ => cases h
  | .nil, t, h => by cases h
  | .cons _ _, t, h => by cases h
theorem gs_snd (gs : GoodS G fs k X) : ∀ (g : IG) (ts : List Expr), chkGs X.N fs g X.env.scope ts = true → PGs X ts (rdGs G X.K g) ∧ (assignEach ts X.env).length = ts.length ∧ (assignEach ts X.env).findIdx? (·.1) = none
  | .nil, [], h => ⟨pgs_nil.weak fun v σ H κ ⟨A, M, ds, ρ, Qd, r, rs, m, w, hq⟩ => by
      cases r with
      | nil => exact ⟨rfl, hq ρ M σ H A w (Stp.refl H A) m rs⟩
      | cons _ _ => exact w.elim, rfl, rfl⟩
  | .cons a r, t :: ts, h => by
    simp only [chkGs, Bool.and_eq_true] at h
    obtain ⟨i1, i2, i3⟩ := gs_snd gs r ts h.2
    have e := asg_tgt (r := ts) h.1
    refine ⟨(pgs_cons (g_snd gs a t h.1) i1 (by rw [e]; rfl)).weak fun v σ H κ ⟨A, M, ds, ρ, Qd, r, rs, m, w, hq⟩ => ?_, by rw [e, List.length_cons, i2]; rfl, by rw [e, List.findIdx?_cons, i3]; rfl⟩
    cases r with
    | nil => exact w.elim
    | cons r1 rr => exact ⟨_, _, rfl, A, M, _, ρ, _, r1, rs, m, w, fun ρ1 M1 σ1 H1 A1 q1 s1 m1 rs1 => ⟨A1, M1, _, ρ1, Qd, rr.stp m s1, rs1, m1, q1, fun ρ2 M2 σ2 H2 A2 q2 s2 m2 rs2 => hq ρ2 M2 σ2 H2 A2 q2 (s1.trans s2) m2 rs2⟩⟩
  | .nil, _ :: _, h => by cases h
  | .cons _ _, [], h => by cases h
  | .v _, _, h => by cases h
  | .t _, _, h => by cases h
  | .sub _ _, _, h => by cases h
end

/-! statements -/
variable {t v x y z : Expr} {a b c : IE} {es : List Expr} {xs : IE}
theorem sole_of (h : (noComp v || isTup t) = true) {l : Nat} : swapsWithSole [t] v l X.env = pure false := by
  cases ht : isTup t with
  | true => cases t <;> first | (cases ht; done) | (cases v <;> rfl)
  | false =>
    rw [ht, Bool.or_false] at h
    cases v <;> first | rfl | cases h
theorem names_short {env : Env} {f : Expr → Option Str} (h1 : ∀ e, (∀ id p, e ≠ .Name id p) → f e = none) (h2 : ∀ id p, lnB env.scope id = false → f (.Name id p) = none) : ∀ ts : List Expr, plainNames env.scope ts = false → (ts.filterMap f).length < ts.length
  | [], h => by cases h
  | t :: ts, h => by
    have hle := List.length_filterMap_le f ts
    have low : f t = none → ((t :: ts).filterMap f).length < (t :: ts).length := fun e => by
      rw [List.filterMap_cons, e, List.length_cons]
      show (ts.filterMap f).length < _
      omega
    cases t with
    | Name x px =>
      unfold plainNames at h
      by_cases hx : lnB env.scope x = true
      · rw [hx, Bool.true_and] at h
        have ih := names_short h1 h2 ts h
        rw [List.filterMap_cons]
        split
        · simp only [List.length_cons]; omega
        · simp only [List.length_cons]; omega
      · exact low (h2 _ _ (by simpa using hx))
    | _ => exact low (h1 _ (by intro id p z; cases z))
theorem noswap_of {N : List Str} {g : IG} (hg : chkG N fs g X.env.scope t = true) (h : noSwap X.env.scope t v = true) : swappedStores [t] v X.env = pure none := by
  unfold swappedStores
  cases t with
  | Tuple ts n1 p1 =>
    cases v with
    | Tuple vs n2 p2 =>
      simp only [noSwap, Bool.or_eq_true] at h
      dsimp only
      rcases h with h | h
      · simp only [h, Bool.true_or, if_true]
      · split
        · rfl
        · split
          · rfl
          · rw [if_pos ?_]
            · rw [Bool.or_eq_true]
              left
              simp only [bne_iff_ne, ne_eq]
              refine Nat.ne_of_lt (names_short (env := X.env) (fun e he => ?_) (fun id p hl => ?_) ts (by simpa using h))
              · cases e <;> first | rfl | exact (he _ _ rfl).elim
              · have e : (X.env.kindOf id == some NameKind.local) = false := by
                  show (X.env.scope.names.lookup id == some NameKind.local) = false
                  unfold lnB at hl
                  cases q : X.env.scope.names.lookup id with
                  | none => rfl
                  | some kd =>
                    rw [q] at hl
                    cases kd <;> first | rfl | cases hl
                simp only [e, Bool.false_and, Bool.false_eq_true, if_false]
    | _ => rfl
  | List ts p => cases g <;> cases hg
  | _ => rfl
end
end DL

set_option Elab.async false
set_option linter.all false
set_option maxRecDepth 100000
set_option maxHeartbeats 8000000
namespace DL
open PySem L2 PySem.Spec PyProof.Rows
section
variable {X : Cx} {G : Gam} {fs : List String} {k : Nat} {pos p q : Pos} {t v x y z : Expr} {a b c : IE} {es : List Expr} {xs : IE}
theorem q_asg (gs : GoodS G fs k X) {g : IG} (h1 : chkG X.N fs g X.env.scope t = true) (h2 : (noComp v || isTup t) = true) (h3 : noSwap X.env.scope t v = true) (h4 : chkE X.N fs a X.env.scope v = true) : PS X (.Assign [t] v pos) (rdS G X.K (.asg g a)) := by
  refine (ps_asg ((snd G fs k a).e X gs.g v h4) (g_snd gs g t h1) (sole_of h2) (noswap_of h1 h3) (by rw [asg_tgt h1]; rfl)).weak fun D σ H ⟨A, ρ, M, E, hs, hm, hw, hl⟩ => ?_
  exact ⟨A, ρ, M, _, hs, hm, hw, fun d M1 v1 H1 A1 q1 s1 m1 r1 => ⟨A1, M1, d, ρ, _, r1, hs.stp hm s1, m1, q1, fun ρ2 M2 σ2 H2 A2 q2 s2 m2 rs2 => hl.nx ρ2 M2 σ2 H2 A2 q2 (s1.trans s2) m2 rs2⟩⟩
theorem lnB_ok {sc : Scope} {n : Str} (h : lnB sc n = true) : sc.names.lookup n = some .local := by
  unfold lnB at h
  split at h
  · assumption
  · cases h
theorem q_lc (gs : GoodS G fs k X) {g : IG} (h1 : lcOk X.N X.env.scope g t v = true) (h4 : chkE X.N fs a X.env.scope v = true) : PS X (.Assign [t] v pos) (rdS G X.K (.asg g a)) := by
  unfold lcOk at h1
  split at h1
  · rename_i i y py e gns scope p
    simp only [Bool.and_eq_true, decide_eq_true_eq, Bool.not_eq_true'] at h1
    obtain ⟨⟨⟨h1, h2⟩, h3⟩, h5⟩ := h1
    cases a with
    | comp elt vs tgs iter cond =>
      unfold chkE at h4
      split at h4
      · rename_i el tg it ifs scope' q
        obtain ⟨p', e'⟩ := asComp_eq q
        cases e'
        have P := p_comp (snd G fs k elt).e (snd G fs k iter).i (snd G fs k cond).c gs.g h4
        refine (ps_setLc gs.g.calm gs.g.nd h1 (lnB_ok h2) (sw_true gs.kd (lnB_ok h2) (by rw [h3]; exact beq_self_eq_true _) h5) P.it_ P.bl P.g_ P.c_ P.e_ (fset P.ns)).weak fun D σ H ⟨A, ρ, M, E, hs, hm, hw, hl⟩ => ?_
        rw [P.ow]
        refine lc_read P.tg_ ⟨A, ρ, M, _, hs, hm, hw, fun d M1 v1 H1 A1 q1 s1 m1 r1 => ?_⟩
        exact hl.nx _ M1 _ H1 A1 q1 s1 m1 ((hs.stp hm s1).set r1 i)
      · cases h4
    | _ => cases h4
  · cases h1
theorem kind_of {n : Str} (h : lnB X.env.scope n = true) : (X.env.kindOf n == some NameKind.local) = true := by
  show (X.env.scope.names.lookup n == some NameKind.local) = true
  rw [lnB_ok h]
  rfl
theorem bk_of (gs : GoodS G fs k X) : X.env.blockKind = .function := by
  unfold Env.blockKind
  rw [gs.kd]
  rfl
theorem star2 (h : noStar x = true) : (match x with | .Starred .. => true | _ => false) = false := by cases x <;> first | rfl | cases h
theorem any_star2 {f : Expr → Bool} (hf : ∀ e, noStar e = true → f e = false) : ∀ l : List Expr, (∀ e ∈ l, noStar e = true) → l.any f = false
  | [], _ => rfl
  | e :: r, h => by
    rw [List.any_cons, hf e (h e List.mem_cons_self), any_star2 hf r fun e he => h e (List.mem_cons_of_mem _ he)]
    rfl
theorem q_par (gs : GoodS G fs k X) {is : List Nat} {ts vs : List Expr} {n1 n2 : Nat} (h1 : parOk X.N X.env.scope is ts vs = true) (h2 : chkA X.N fs xs X.env.scope vs = true) : PS X (.Assign [.Tuple ts n1 p] (.Tuple vs n2 q) pos) (rdS G X.K (.par is xs)) := by
  have ha := (snd G fs k xs).a X gs.g vs h2
  match is, ts, vs, h1, ha with
  | [i, j], [.Name x px, .Name y py], [e1, e2], h1, ha =>
    simp only [parOk, Bool.and_eq_true, decide_eq_true_eq, Bool.not_eq_true'] at h1
    obtain ⟨⟨⟨⟨⟨⟨⟨⟨⟨⟨hi, hj⟩, hij⟩, hx⟩, hy⟩, hln⟩, hxy⟩, s1⟩, s2⟩, f1⟩, f2⟩ := h1
    have hw : swappedStores [.Tuple [.Name x px, .Name y py] n1 p] (.Tuple [e1, e2] n2 q) X.env = pure (some [x, y]) := by
      unfold swappedStores
      dsimp only
      rw [if_neg (by rw [bk_of gs]; simp), if_neg ?_]
      · simp only [List.filterMap_cons, List.filterMap_nil, List.head?_cons, Option.map_some, Option.getD_some, kind_of hx, kind_of hy, Bool.true_and, Expr.pos, beq_self_eq_true, if_true, hln]
        rw [if_neg ?_, if_neg (by rw [f1]; decide), if_neg (by rw [f2]; decide)]
        · have : ([x, y] : List Str).eraseDups.length = 2 := by
            rw [List.eraseDups_cons]
            have e : ([y].filter fun b => !b == x) = [y] := by simp [Ne.symm hxy]
            rw [e]
            rfl
          simp [this]
      · rw [any_star2 (fun e he => by cases e <;> first | rfl | cases he) [e1, e2] (by intro e he; simp at he; rcases he with rfl | rfl <;> assumption)]
        decide
    refine (ps_par gs.g.calm gs.g.nd hi hj hij (lnB_ok hx) (lnB_ok hy) ha hw).weak fun D σ H ⟨A, ρ, M, E, hs, hm, hw, hl⟩ => ⟨A, ρ, M, _, hs, hm, hw, fun ds M1 vs H1 A1 q1 s1 m1 r1 => ?_⟩
    match ds, vs, q1, r1 with
    | [d1, d2], _, q1, .cons ra (.cons rb .nil) =>
      exact ⟨_, _, rfl, hl.nx _ M1 _ H1 A1 q1 s1 m1 (((hs.stp hm s1).set ra i).set rb j)⟩
  | [i, j, l], [.Name x px, .Name y py, .Name z pz], [e1, e2, e3], h1, ha =>
    simp only [parOk, Bool.and_eq_true, decide_eq_true_eq, Bool.not_eq_true'] at h1
    obtain ⟨⟨⟨⟨⟨⟨⟨⟨⟨⟨⟨⟨⟨⟨⟨⟨⟨⟨hi, hj⟩, hll⟩, hij⟩, hil⟩, hjl⟩, hx⟩, hy⟩, hz⟩, hln⟩, hln2⟩, hxy⟩, hxz⟩, hyz⟩, s1⟩, s2⟩, s3⟩, f1⟩, f2⟩ := h1
    have hw : swappedStores [.Tuple [.Name x px, .Name y py, .Name z pz] n1 p] (.Tuple [e1, e2, e3] n2 q) X.env = pure (some [x, y, z]) := by
      unfold swappedStores
      dsimp only
      rw [if_neg (by rw [bk_of gs]; simp), if_neg ?_]
      · simp only [List.filterMap_cons, List.filterMap_nil, List.head?_cons, Option.map_some, Option.getD_some, kind_of hx, kind_of hy, kind_of hz, Bool.true_and, Expr.pos, beq_self_eq_true, if_true, hln, hln2]
        rw [if_neg ?_, if_neg (by rw [f1]; decide), if_neg (by rw [f2]; decide)]
        · have : ([x, y, z] : List Str).eraseDups.length = 3 := by
            rw [List.eraseDups_cons]
            have e : ([y, z].filter fun b => !b == x) = [y, z] := by simp [Ne.symm hxy, Ne.symm hxz]
            rw [e, List.eraseDups_cons]
            have e : ([z].filter fun b => !b == y) = [z] := by simp [Ne.symm hyz]
            rw [e]
            rfl
          simp [this]
      · rw [any_star2 (fun e he => by cases e <;> first | rfl | cases he) [e1, e2, e3] (by intro e he; simp at he; rcases he with rfl | rfl | rfl <;> assumption)]
        decide
    refine (ps_par3 gs.g.calm gs.g.nd hi hj hll hij hil hjl (lnB_ok hx) (lnB_ok hy) (lnB_ok hz) ha hw).weak fun D σ H ⟨A, ρ, M, E, hs, hm, hw, hl⟩ => ⟨A, ρ, M, _, hs, hm, hw, fun ds M1 vs H1 A1 q1 s1 m1 r1 => ?_⟩
    match ds, vs, q1, r1 with
    | [d1, d2, d3], _, q1, .cons ra (.cons rb (.cons rc .nil)) =>
      exact ⟨_, _, _, rfl, hl.nx _ M1 _ H1 A1 q1 s1 m1 ((((hs.stp hm s1).set ra i).set rb j).set rc l)⟩
theorem q_ex (gs : GoodS G fs k X) (h2 : noComp v = true) (h4 : chkE X.N fs a X.env.scope v = true) : PS X (.Expr v pos) (rdS G X.K (.ex a)) := by
  refine (ps_expr ((snd G fs k a).e X gs.g v h4) (by cases v <;> first | rfl | cases h2)).weak fun D σ H ⟨A, ρ, M, E, hs, hm, hw, hl⟩ => ?_
  exact ⟨A, ρ, M, _, hs, hm, hw, fun d M1 v1 H1 A1 q1 s1 m1 r1 => hl.nx ρ M1 σ H1 A1 q1 s1 m1 (hs.stp hm s1)⟩
theorem q_ret (gs : GoodS G fs k X) (h4 : chkE X.N fs a X.env.scope v = true) : PS X (.Return (some v) pos) (rdS G X.K (.ret a)) :=
  (ps_ret ((snd G fs k a).e X gs.g v h4)).weak fun D σ H ⟨A, ρ, M, E, hs, hm, hw, hl⟩ => ⟨A, ρ, M, _, hs, hm, hw, hl.rt⟩
theorem q_retn : PS X (.Return none pos) (rdS G X.K .retn) := ps_retN.weak fun D σ H ⟨A, ρ, M, E, hs, hm, hw, hl⟩ => hl.rt.now hm .non hw
theorem q_pass : PS X (.Pass pos) (rdS G X.K .pass) := ps_pass.weak fun D σ H ⟨A, ρ, M, E, hs, hm, hw, hl⟩ => hl.nx ρ M σ H A hw (Stp.refl H A) hm hs
theorem q_brk : PS X (.Break pos) (rdS G X.K .brk) := ps_break.weak fun D σ H ⟨A, ρ, M, E, hs, hm, hw, hl⟩ => hl.bk ρ M σ H A hw (Stp.refl H A) hm hs
theorem q_cnt : PS X (.Continue pos) (rdS G X.K .cnt) := ps_continue.weak fun D σ H ⟨A, ρ, M, E, hs, hm, hw, hl⟩ => hl.ct ρ M σ H A hw (Stp.refl H A) hm hs
variable {s1 s2 : IS} {b1 b2 : List Stmt}
theorem q_ite (gs : GoodS G fs k X) (h1 : chkT X.N fs a X.env.scope x = true) (i1 : PSs X b1 (rdS G X.K s1)) (i2 : PSs X b2 (rdS G X.K s2)) : PS X (.If x b1 b2 pos) (rdS G X.K (.ite a s1 s2)) :=
  (ps_if ((snd G fs k a).t X gs.g x h1).1 i1 i2).weak fun D σ H ⟨A, ρ, M, E, hs, hm, hw, hl⟩ => ⟨A, ρ, M, _, hs, hm, hw, fun bb M1 H1 A1 q1 s1 m1 => by
    cases bb with
    | true => exact ⟨A1, ρ, M1, E, hs.stp hm s1, m1, q1, hl.stp s1⟩
    | false => exact ⟨A1, ρ, M1, E, hs.stp hm s1, m1, q1, hl.stp s1⟩⟩
theorem po_of (gs : GoodS G fs k X) : PassesOwn (model X.prog X.w) X.A X.env X.xe := by rw [gs.xe]; exact PassesOwn.never
theorem q_whl (gs : GoodS G fs k X) (h1 : chkT X.N fs a X.env.scope x = true) (i1 : PSs X b1 (rdS G X.K s1)) : PS X (.While x b1 [] pos) (rdS G X.K (.whl a s1)) := by
  refine (ps_while (po_of gs) ((snd G fs k a).t X gs.g x h1).1 i1).weak fun D σ H ⟨A, ρ, M, E, hs, hm, ⟨W, ⟨m0, w0⟩, turn⟩, hl⟩ => ?_
  refine ⟨fun m σ' H' => ∃ A' ρ' M', Stp H A H' A' ∧ Rm X.K H' A' M' ∧ Rs X.K H' A' σ' ρ' ∧ W m ρ' M', ⟨m0, A, ρ, M, Stp.refl H A, hm, hs, w0⟩, ?_⟩
  rintro m σ1 H1 ⟨A1, ρ1, M1, st1, m1, rs1, w1⟩
  refine ⟨A1, ρ1, M1, _, rs1, m1, turn m ρ1 M1 w1, fun bb M2 H2 A2 q2 st2 m2 => ?_⟩
  have st12 := st1.trans st2
  cases bb with
  | false => exact hl.nx ρ1 M2 σ1 H2 A2 q2 st12 m2 (rs1.stp m1 st2)
  | true =>
    refine ⟨fun σ' H' => ∃ m', m' < m ∧ ∃ A' ρ' M', Stp H A H' A' ∧ Rm X.K H' A' M' ∧ Rs X.K H' A' σ' ρ' ∧ W m' ρ' M', fun σ' H' n => n, A2, ρ1, M2, _, rs1.stp m1 st2, m2, q2, ?_⟩
    refine ⟨fun ρ3 M3 σ3 H3 A3 ⟨m', lt, w⟩ st3 m3 rs3 => ⟨m', lt, A3, ρ3, M3, st12.trans st3, m3, rs3, w⟩, hl.rt.stp st12, fun ρ3 M3 σ3 H3 A3 q3 st3 m3 rs3 => hl.nx ρ3 M3 σ3 H3 A3 q3 (st12.trans st3) m3 rs3, fun ρ3 M3 σ3 H3 A3 ⟨m', lt, w⟩ st3 m3 rs3 => ⟨m', lt, A3, ρ3, M3, st12.trans st3, m3, rs3, w⟩⟩
theorem q_for (gs : GoodS G fs k X) {g : IG} (h0 : noSet y = true) (h1 : chkG X.N fs g X.env.scope t = true) (h2 : chkI X.N fs a X.env.scope y = true) (i1 : PSs X b1 (rdS G X.K s1)) : PS X (.For t y b1 [] pos) (rdS G X.K (.for_ g a s1)) := by
  refine (ps_for (po_of gs) gs.g.calm ((snd G fs k a).i X gs.g t y h2) (g_snd gs g t h1) i1 (fset h0)).weak fun D σ H ⟨A, ρ, M, E, hs, hm, hw, hl⟩ => ?_
  refine ⟨A, ρ, M, _, hs, hm, hw, fun src M1 H1 A1 J ⟨xs, ex, Pv, p0, hst, htn, hend⟩ s1 m1 itr _ => ?_⟩
  refine ⟨fun i m σ' H' => m = xs.length - i ∧ i ≤ xs.length ∧ ∃ A' ρ' M', Stp H1 A1 H' A' ∧ Rm X.K H' A' M' ∧ Rs X.K H' A' σ' ρ' ∧ Pv i ρ' M', ⟨xs.length, by simp, Nat.zero_le _, A1, ρ, M1, Stp.refl H1 A1, m1, hs.stp hm s1, p0⟩, ?_⟩
  rintro i m σ2 H2 ⟨rfl, hi, A2, ρ2, M2, st2, m2, rs2, pv⟩
  have hit := hst i ρ2 M2 hi pv
  by_cases hlt : i < xs.length
  · refine .inr ⟨itr.go H2 A2 M2 xs i xs[i] st2 m2 hit (by simp [hlt]), fun σ' H' => ∃ A' ρ' M', Stp H1 A1 H' A' ∧ Rm X.K H' A' M' ∧ Rs X.K H' A' σ' ρ' ∧ Pv (i + 1) ρ' M', fun σ' H' n => ⟨xs.length - (i + 1), by omega, rfl, hlt, n⟩, fun w H3 hy => ?_⟩
    obtain ⟨st3, m3, r3⟩ := itr.yld H2 A2 M2 xs i xs[i] w H3 st2 m2 hit (by simp [hlt]) hy
    refine ⟨A2, M2, xs[i], ρ2, _, r3, rs2.stp m2 st3, m3, htn i xs[i] ρ2 M2 (by simp [hlt]) pv, fun ρ4 M4 σ4 H4 A4 q4 st4 m4 rs4 => ?_⟩
    have st14 := (st2.trans st3).trans st4
    refine ⟨A4, ρ4, M4, _, rs4, m4, q4, ?_⟩
    exact ⟨fun ρ5 M5 σ5 H5 A5 q5 st5 m5 rs5 => ⟨A5, ρ5, M5, st14.trans st5, m5, rs5, q5⟩, hl.rt.stp (s1.trans st14), fun ρ5 M5 σ5 H5 A5 q5 st5 m5 rs5 => hl.nx ρ5 M5 σ5 H5 A5 q5 ((s1.trans st14).trans st5) m5 rs5,
      fun ρ5 M5 σ5 H5 A5 q5 st5 m5 rs5 => ⟨A5, ρ5, M5, st14.trans st5, m5, rs5, q5⟩⟩
  · have e : i = xs.length := by omega
    subst e
    exact .inl ⟨itr.stop H2 A2 M2 xs _ st2 m2 hit (Nat.le_refl _), hl.nx ρ2 M2 σ2 H2 A2 (hend ρ2 M2 pv) (s1.trans st2) m2 rs2⟩
theorem q_seq {st : Stmt} (i1 : PS X st (rdS G X.K s1)) (i2 : PSs X b2 (rdS G X.K s2)) : PSs X (st :: b2) (rdS G X.K (.seq s1 s2)) :=
  (pss_cons i1 i2).weak fun D σ H ⟨A, ρ, M, E, hs, hm, hw, hl⟩ => ⟨A, ρ, M, _, hs, hm, hw, ⟨fun ρ1 M1 σ1 H1 A1 q1 st1 m1 rs1 => ⟨A1, ρ1, M1, E, rs1, m1, q1, hl.stp st1⟩, hl.rt, hl.bk, hl.ct⟩⟩
theorem q_skip : PSs X [] (rdS G X.K .skip) := pss_nil.weak fun D σ H ⟨A, ρ, M, E, hs, hm, hw, hl⟩ => hl.nx ρ M σ H A hw (Stp.refl H A) hm hs
end
end DL

set_option Elab.async false
set_option linter.all false
set_option maxRecDepth 100000
set_option maxHeartbeats 8000000
namespace DL
open PySem L2 PySem.Spec PyProof.Rows
section
variable {X : Cx} {G : Gam} {fs : List String} {k : Nat}
theorem s_snd (gs : GoodS G fs k X) : ∀ (s : IS), (∀ b : List Stmt, chkS X.N fs X.env.scope s b = true → PSs X b (rdS G X.K s)) ∧ (∀ st : Stmt, chk1 X.N fs X.env.scope s st = true → PS X st (rdS G X.K s)) := by
  intro s
  induction s with
  | skip =>
    refine ⟨fun b h => ?_, fun st h => (by cases h)⟩
    cases b with
    | nil => exact q_skip
    | cons _ _ => cases h
  | seq s r hs hr =>
    refine ⟨fun b h => ?_, fun st h => (by cases h)⟩
    cases b with
    | nil => cases h
    | cons st rest =>
      simp only [chkS, Bool.and_eq_true] at h
      exact q_seq (hs.2 st h.1) (hr.1 rest h.2)
  | asg g e =>
    refine ⟨fun b h => (by cases b <;> cases h), fun st h => ?_⟩
    unfold chk1 at h
    split at h
    · rename_i t v q
      obtain ⟨p, rfl⟩ := asAsg_eq q
      simp only [Bool.and_eq_true] at h
      obtain ⟨h1, h2⟩ := h
      rw [Bool.or_eq_true] at h1
      rcases h1 with h1 | h1
      · exact q_lc gs h1 h2
      · simp only [Bool.and_eq_true] at h1
        exact q_asg gs h1.1.1 h1.1.2 h1.2 h2
    · cases h
  | par is xs =>
    refine ⟨fun b h => (by cases b <;> cases h), fun st h => ?_⟩
    unfold chk1 at h
    split at h
    · rename_i t v q
      obtain ⟨p, rfl⟩ := asAsg_eq q
      split at h
      · rename_i ts vs q1 q2
        obtain ⟨n1, p1, rfl⟩ := asTup_eq q1
        obtain ⟨n2, p2, rfl⟩ := asTup_eq q2
        simp only [Bool.and_eq_true] at h
        exact q_par gs h.1 h.2
      · cases h
    · cases h
  | aug _ _ _ => exact ⟨fun b h => (by cases b <;> cases h), fun st h => (by cases h)⟩
  | ex e =>
    refine ⟨fun b h => (by cases b <;> cases h), fun st h => ?_⟩
    unfold chk1 at h
    split at h
    · rename_i v q
      obtain ⟨p, rfl⟩ := asEx_eq q
      simp only [Bool.and_eq_true] at h
      exact q_ex gs h.1 h.2
    · cases h
  | ret e =>
    refine ⟨fun b h => (by cases b <;> cases h), fun st h => ?_⟩
    unfold chk1 at h
    split at h
    · rename_i v q
      obtain ⟨p, rfl⟩ := asRet_eq q
      exact q_ret gs h
    · cases h
  | retn =>
    refine ⟨fun b h => (by cases b <;> cases h), fun st h => ?_⟩
    unfold chk1 at h
    split at h
    · rename_i q
      obtain ⟨p, rfl⟩ := asRet_eq q
      exact q_retn
    · cases h
  | pass =>
    refine ⟨fun b h => (by cases b <;> cases h), fun st h => ?_⟩
    unfold chk1 at h
    obtain ⟨p, rfl⟩ := asFlow_eq.1 (of_decide_eq_true h)
    exact q_pass
  | brk =>
    refine ⟨fun b h => (by cases b <;> cases h), fun st h => ?_⟩
    unfold chk1 at h
    obtain ⟨p, rfl⟩ := asFlow_eq.2.1 (of_decide_eq_true h)
    exact q_brk
  | cnt =>
    refine ⟨fun b h => (by cases b <;> cases h), fun st h => ?_⟩
    unfold chk1 at h
    obtain ⟨p, rfl⟩ := asFlow_eq.2.2 (of_decide_eq_true h)
    exact q_cnt
  | ite t a b ha hb =>
    refine ⟨fun b h => (by cases b <;> cases h), fun st h => ?_⟩
    unfold chk1 at h
    split at h
    · rename_i c x y q
      obtain ⟨p, rfl⟩ := asIf_eq q
      simp only [Bool.and_eq_true] at h
      exact q_ite gs h.1.1 (ha.1 x h.1.2) (hb.1 y h.2)
    · cases h
  | whl t b hb =>
    refine ⟨fun b h => (by cases b <;> cases h), fun st h => ?_⟩
    unfold chk1 at h
    split at h
    · rename_i c x q
      obtain ⟨p, rfl⟩ := asWhl_eq q
      simp only [Bool.and_eq_true] at h
      exact q_whl gs h.1 (hb.1 x h.2)
    · cases h
  | for_ g it b hb =>
    refine ⟨fun b h => (by cases b <;> cases h), fun st h => ?_⟩
    unfold chk1 at h
    split at h
    · rename_i t i x q
      obtain ⟨p, rfl⟩ := asFor_eq q
      simp only [Bool.and_eq_true] at h
      exact q_for gs h.1.1.1 h.1.1.2 h.1.2 (hb.1 x h.2)
    · cases h
end
end DL

set_option Elab.async false
set_option linter.all false
set_option maxRecDepth 100000
set_option maxHeartbeats 8000000
namespace DL
open PySem L2 PySem.Spec PyProof.Rows
/-! defs -/
def startD (n : Nat) (ds : List D) : En := ds.map some ++ List.replicate n none
def bodyE (Q : Kn) : DE := { nx := fun _ M => Q .non M, rt := Q }
section
variable {P : Program} {w : World} {K : Frg} {mg : Str → Option Value} {base : Heap} {G : Gam} {fs : List String} {k : Nat}
theorem getV_start : ∀ (ds : List D) (n i : Nat) (d : D), getV (startD n ds) i = some d → ds[i]? = some d
  | [], n, i, d, h => by
    exfalso
    induction n generalizing i with
    | zero => simp [startD, getV] at h
    | succ n ih =>
      cases i with
      | zero => simp [startD, getV, List.replicate] at h
      | succ i => exact ih i (by simpa [startD, getV, List.replicate] using h)
  | x :: ds, n, 0, d, h => by simpa [startD, getV] using h
  | x :: ds, n, i + 1, d, h => by
    have := getV_start ds n i d (by simpa [startD, getV] using h)
    simpa using this
theorem rs_start {H : Hp} {A : List Addr} {N : List Str} {vs : List V} {ds : List D} (r : RpL K H A vs ds) : Rs K H A (L2.start N vs) (startD (N.length - ds.length) ds) := by
  refine ⟨by simp [L2.start, startD, r.length], fun i d h => ?_⟩
  have h2 := getV_start ds _ i d h
  obtain ⟨v, h3, h4⟩ := r.get h2
  refine ⟨v, ?_, h4⟩
  unfold L2.start
  have hi : i < (vs.map some).length := by rw [List.length_map]; exact (List.getElem?_eq_some_iff.mp h3).1
  rw [List.getElem?_append_left hi, List.getElem?_map, h3]
  rfl
/-- THE RULE for a def: its text is the tree, the tree keeps the promise -/
theorem fn_mkG {x qual : Str} {st : Stmt} {f : Addr} {fd : FuncData} {N ps : List Str} {S : DSpec} {body : IS} (F : FunD K x qual (defArgs st) (defBody st) (defScope st) [] [] f fd) (Sc : FnScope N ps (defScope st)) (hchk : chkS N fs (defScope st) body (defBody st) = true)
    (bi : ∀ x ∈ bNames, mg (Str.ofString x) = none) (hf : ∀ f ∈ fs, FnD G P w K mg base k f)
    (len : ∀ ds M Q, S ds M Q → ds.length = ps.length) (hb : ∀ ds M Q, S ds M Q → wpS G body (bodyE Q) (startD (N.length - ds.length) ds) M) :
    FnG P w K mg base (k + 1) f fd ps S := by
  obtain ⟨oc, od, dV, kV, doc, pm, an, cdv, ct, osl, rfl, lk, hcd, _, _⟩ := F.ex
  refine ⟨len, fun A outer s H args us vs Ad ds M Q κ hg hr e0 hbn r rd m hS hl => ?_⟩
  have inK : K.In s.heap := e0.mod.kin.keeps
    fun b o e => (e0.bs b o e).1
  have free : s.heap.NoLimit := e0.mod.nolimit.keeps
    fun b o e => (e0.bs b o e).1
  have hlen : vs.length = ps.length := by rw [rd.length]; exact len ds M Q hS
  refine codeAny_call_function hr.depth (inK _ _ lk) rfl Sc.co Sc.gen rfl
    (PySem.W.codeRec_of inK hcd) (hbn _ _ _ _ ?_)
  refine wpAny_newFunctionEnv_cells Sc.kind (fun ⟨n, v⟩ hy => ?_) fun env he s1 ic => ?_
  · rcases Sc.par n (List.of_mem_zip hy).1 with q | q
    · exact .inl q
    · exact .inr ⟨q, PySem.W.cellsFrom_some _ _ _ (.inl q)⟩
  subst he
  refine ⟨free.keeps ic.toInCall.keep, codeAny_func ?_⟩
  have I : L2.Inv (cxOf CX0 P w K mg base N qual (defScope st) f cdv A outer s H E0) [] (L2.start N vs) H s1 :=
    inv_start Sc hr.hd e0 hlen r ic
  have good : GoodS G fs k (cxOf CX0 P w K mg base N qual (defScope st) f cdv A outer s H E0).nox :=
    ⟨⟨rfl, Sc.nd, hg, hr.deeper _, bi, hf⟩, fun _ => rfl, Sc.kind, rfl⟩
  have run := ((s_snd good body).1 (defBody st) hchk).nox
  have lf : LfS K H Ad (bodyE Q) { nx := fun _ H' => κ .non H', rt := κ } :=
    ⟨fun ρ' M' σ' H' A' q st m' _ => hl .non M' .non H' A' q st m' .non, hl, fun _ _ _ _ _ q _ _ _ => q.elim, fun _ _ _ _ _ q _ _ _ => q.elim⟩
  refine wpAny_mono (run.run [] s1 (L2.start N vs) H _ I ⟨Ad, _, M, _, rs_start rd, m, hb ds M Q hS, lf⟩)
    (fun fl s' hs => ?_) fun e s' hs => hs
  have fin : ∀ {σ' : L2.St} {H' : Hp} {v : V} {u : Value}, L2.Inv (cxOf CX0 P w K mg base N qual (defScope st) f cdv A outer s H E0) [] σ' H' s' →
      RelV v u → κ v H' → CE outer P w H s κ u s' := fun J rv q => ⟨_, _, J.os, J.bare, J.base, J.hok, rv, q⟩
  cases fl with
  | next =>
    obtain ⟨σ', H', J, q⟩ := hs
    exact fin (v := V.non) (u := Value.none) J rfl q
  | ret u =>
    obtain ⟨v, σ', H', J, rv, q⟩ := hs
    exact fin J rv q
  | brk =>
    obtain ⟨_, _, _, q⟩ := hs
    exact q.elim
  | cont =>
    obtain ⟨_, _, _, q⟩ := hs
    exact q.elim
end
end DL

set_option Elab.async false
set_option linter.all false
set_option maxRecDepth 100000
set_option maxHeartbeats 8000000
namespace DL
open PySem L2 PySem.Spec PyProof.Rows
/-! the law's own call -/
theorem law_callG {P : Program} {w : World} {K : Frg} {mg mb : Str → Option Value} {k : Nat} {fa a : Addr} {fd : FuncData} {x : Str} {S : DSpec} {s : Shared} {vs : List Value} {ns : List Int}
    (KX : K.In s.heap) (hns : s.heap.Ns mainGlobals mg) (hb : s.heap.Ns builtinsNs mb) (hbb : ∀ x : Str, x ≠ "__name__" → mb x = bootBuiltins x) (hlim : s.heap.NoLimit) (hg : s.gens = #[])
    (ha : s.heap.get? a = some { cls := .type "list", data := .seq vs.toArray }) (hi : IntsAre vs ns) (hl : ns.length ≤ sizeLine) (hr : Room k callerA)
    (F : ∀ base : Heap, K.In base → base.Ns mainGlobals mg → FnG P w K mg base k fa fd [x] S) (hbind : ∀ (s : Shared) (u : Value), BindsTo s fd ⟨[u], []⟩ [(x, u)])
    (hS : S [.scr ns] [] fun d _ => d = .bl true) :
    codeAny (model P w) callerA (.call (.ref fa) ⟨[.ref a], []⟩) (fun r s' => r = .ok (.ret (.bool true)) ∧ OldK s.heap s'.heap ∧ s'.os = s.os ∧ AllBare s'.gens) s := by
  have rv := vals_ints hi
  have lenV := hi.length
  have main : ∀ H : Hp, (∀ b, H b = none ∨ (b = a ∧ ∃ o xs, H b = some (.frz o (.lst xs)))) → SqF K H a (ns.map V.int) → HOk P w H s.heap → (H a ≠ none → K.lookup a = none) →
      codeAny (model P w) callerA (.call (.ref fa) ⟨[.ref a], []⟩) (fun r s' => r = .ok (.ret (.bool true)) ∧ OldK s.heap s'.heap ∧ s'.os = s.os ∧ AllBare s'.gens) s := by
    intro H only sq ok noK
    have isA : ∀ {b : Addr} {u : HO}, H b = some u → b = a := fun {b u} e => by
      rcases only b with z | ⟨z, _⟩
      · rw [e] at z; cases z
      · exact z
    have plain : ∀ {b : Addr} {o : Obj} {es : Array DictEntry} {n : Nat}, s.heap.get? b = some o → o.data = .dict es n → H b = none := fun {b o es n} e d => by
      cases q : H b with
      | none => rfl
      | some u =>
        obtain rfl := isA q
        rw [ha] at e
        cases e
        have z : Data.seq vs.toArray _ = Data.dict es n := d
        cases z
    have keepNs : ∀ {b : Addr} {m : Str → Option Value}, s.heap.Ns b m → (hidT s.heap H).Ns b m := fun ⟨o, es, n, e, d, r⟩ =>
      ⟨o, es, n, hidT_get e (plain e d), d, r⟩
    have inB : K.In (hidT s.heap H) := fun b o e => hidT_get (KX b o e) (by
      cases q : H b with
      | none => rfl
      | some u =>
        obtain rfl := isA q
        rw [noK (by rw [q]; simp)] at e
        cases e)
    have mod : Mod K mg (hidT s.heap H) := ⟨inB, keepNs hns, ⟨mb, keepNs hb, hbb⟩,
      let ⟨mc, h1, h2⟩ := hlim; ⟨mc, keepNs h1, h2⟩⟩
    have e0 : Env0 P w K mg (hidT s.heap H) callerA [] s H :=
      ⟨rfl, mod, fun _ _ e => of_hidT e, Nat.le_of_eq (hidT_size _ _), trivial,
        fun b hb => (by cases (show b ∈ ([] : List Addr) from hb)), ok, .of_eq hg⟩
    have rm : Rm K H [] [] := ⟨rfl, List.nodup_nil, fun n ds e => by simp at e⟩
    refine codeAny_mono ((F _ inB (keepNs hns)).run callerA [] s H ⟨[.ref a], []⟩ [.ref a] [.ref a] [] [.scr ns] [] _
      (fun v _ => v = .bl true) rfl hr e0 (hbind s (.ref a)) (.cons rfl .nil) (.cons (.scr sq) .nil) rm hS ?_) fun r s' h => ?_
    · intro d M' v H' A' q st m r
      subst q
      cases r
      rfl
    · cases r with
      | error e => exact False.elim h
      | ok fl =>
        cases fl with
        | next => exact False.elim h
        | brk => exact False.elim h
        | cont => exact False.elim h
        | ret u =>
          obtain ⟨v, H', os, bare, un, ok', r', q⟩ := h
          have q' : v = .bl true := q
          subst q'
          obtain rfl : u = Value.bool true := r'
          refine ⟨rfl, OldK.of_keep fun b o e => ?_, os, bare⟩
          rcases only b with z | ⟨rfl, ob, xs, z⟩
          · exact un.keep b o e z (fun y => (by cases (show b ∈ ([] : List Addr) from y))) (by simp)
          · have z2 := un.frzs b ob _ z
            obtain ⟨e1, _⟩ := ok b _ z
            obtain ⟨e2, _⟩ := ok' b _ z2
            rw [e] at e1
            cases e1
            exact e2
  cases hk : K.lookup a with
  | some o =>
    have e := KX a o hk
    rw [ha] at e
    cases e
    exact main (fun _ => none) (fun _ => .inl rfl)
      (.inr (.inr ⟨_, vs.toArray, _, hk, rfl, rfl, rfl, by rw [List.size_toArray, lenV]; exact hl, by simpa using rv⟩))
      (fun b u z => by cases (show (none : Option HO) = some u from z)) fun z => absurd rfl z
  | none =>
    refine main (fun b => if b = a then some (.frz { cls := .type "list", data := .seq vs.toArray } (.lst (ns.map V.int))) else none)
      (fun b => ?_) (.inl ⟨{ cls := .type "list", data := .seq vs.toArray }, if_pos rfl⟩) (fun b u z => ?_) fun _ => hk
    · by_cases hba : b = a
      · exact .inr ⟨hba, _, _, if_pos hba⟩
      · exact .inl (if_neg hba)
    · by_cases hba : b = a
      · have z' := (if_pos hba).symm.trans z
        cases z'
        subst hba
        exact ⟨ha, by rw [List.length_map]; exact hl, vs, _, rv, ha⟩
      · cases (if_neg hba).symm.trans z
/-- the head's case, from the law's promise over data -/
theorem walkG {l : PySem.W.OpenLaw} {n k : Nat} {q : Program} {loose : List Str} {XP : (Str → Option Value) → Heap → Prop} {YP : World → Heap → Prop} {d : DefRec} {x : Str}
    (hn : l.most = some n) (hn2 : n ≤ sizeLine) (hdf : d.params.defaults = []) (hr : Room k callerA)
    (F : ∀ (w : World) (mg : Str → Option Value) (fa : Addr) (h : Heap), YP w h → h.Ns mainGlobals mg → mg d.name = some (.ref fa) →
      ∃ (K : Frg) (fd : FuncData) (S : DSpec), K.In h ∧ (∀ (s : Shared) (u : Value), BindsTo s fd ⟨[u], []⟩ [(x, u)]) ∧
        (∀ ns : List Int, ns.length ≤ n → S [.scr ns] [] fun d _ => d = .bl true) ∧
        ∀ base : Heap, K.In base → base.Ns mainGlobals mg → FnG l.prog w K mg base k fa fd [x] S) :
    PySem.W.WalkO q loose XP YP l.row.toRowW d [] (fun f vs => PySem.call f vs) := by
  refine Att.attach_call hn hdf fun w s0 s1 mg mb fa o pm cd doc a vs ns G Y ho hd hcd hmg hobj hints hlen hg => ?_
  obtain ⟨K, fd, S, KX, hb, hS, hF⟩ := F w mg fa _ Y G.T.g hmg
  exact law_callG KX G.T.g G.T.b G.T.builtins G.T.nolimit hg hobj hints (Nat.le_trans hlen hn2) hr hF hb (hS ns hlen)
end DL

set_option Elab.async false
set_option linter.all false
set_option maxRecDepth 100000
set_option maxHeartbeats 8000000
namespace DL
open PySem L2 PySem.Spec PyProof.Rows
section
variable {P : Program} {w : World} {K : Frg} {mg : Str → Option Value} {base : Heap} {G : Gam} {k : Nat}
theorem FnG.mono {j : Nat} {f : Addr} {fd : FuncData} {ps : List Str} {S : DSpec} (h : FnG P w K mg base k f fd ps S) (hj : k ≤ j) : FnG P w K mg base j f fd ps S :=
  ⟨h.len, fun A outer s H args us vs Ad ds M Q κ hg hr => h.run A outer s H args us vs Ad ds M Q κ hg (hr.mono hj)⟩
theorem FnG.none {f : Addr} {fd : FuncData} {ps : List Str} {S : DSpec} (h : ∀ ds M Q, ¬ S ds M Q) : FnG P w K mg base k f fd ps S :=
  ⟨fun ds M Q s => (h ds M Q s).elim, fun A outer s H args us vs Ad ds M Q κ _ _ _ _ _ _ _ hS _ => (h ds M Q hS).elim⟩
theorem bi_of {fa : List He.Fa} {fn : List He.DefD} {h : Heap} (X : K.In h) (Gn : h.Ns mainGlobals mg) (c : He.SaysD fa fn K)
    {j : Nat} (hf : fa.drop j = bNames.map fun x => He.Fa.free (Str.ofString x)) : ∀ x ∈ bNames, mg (Str.ofString x) = none := by
  intro x hx
  have hm : He.Fa.free (Str.ofString x) ∈ fa := List.mem_of_mem_drop (i := j) (by rw [hf]; exact List.mem_map_of_mem hx)
  obtain ⟨i, hi⟩ := List.mem_iff_getElem?.mp hm
  exact He.free_ok X Gn (c.fact i hi)
end
end DL

set_option Elab.async false
set_option linter.all false
set_option maxRecDepth 100000
set_option maxHeartbeats 4000000
namespace DL
open PySem L2
section
variable {G : Gam} {ρ : En} {M : Mem} {Q : Kn} {R : Bool → Mem → Prop} {a b c r o xs : IE} {op op' : Operator} {co co' : CmpOp} {E : DE}
@[simp] theorem onV_some' {α : Type} (d : α) (Q : α → Prop) : onV (some d) Q = Q d := rfl
@[simp] theorem getV_0 {x : Option D} {l : En} : getV (x :: l) 0 = x := rfl
@[simp] theorem getV_s {x : Option D} {l : En} {n : Nat} : getV (x :: l) (n + 1) = getV l n := rfl
@[simp] theorem setV_0 {x : Option D} {l : En} {d : D} : setV (x :: l) 0 d = some d :: l := rfl
@[simp] theorem setV_s {x : Option D} {l : En} {n : Nat} {d : D} : setV (x :: l) (n + 1) d = x :: setV l n d := rfl
@[simp] theorem wipeV_0 {x : Option D} {l : En} : wipeV (x :: l) 0 = none :: l := rfl
@[simp] theorem wipeV_s {x : Option D} {l : En} {n : Nat} : wipeV (x :: l) (n + 1) = x :: wipeV l n := rfl
@[simp] theorem wipesV_n : wipesV ρ [] = ρ := rfl
@[simp] theorem wipesV_c {v : Nat} {vs : List Nat} : wipesV ρ (v :: vs) = wipeV (wipesV ρ vs) v := rfl
@[simp] theorem setsV_n : setsV ρ [] [] = some ρ := rfl
@[simp] theorem setsV_c {i : Nat} {is : List Nat} {d : D} {ds : List D} : setsV ρ (i :: is) (d :: ds) = setsV (setV ρ i d) is ds := rfl
@[simp] theorem tgV_1 {i : Nat} {x : D} {P : En → Prop} : tgV [i] x ρ P = P (setV ρ i x) := rfl
@[simp] theorem tgV_2 {i j : Nat} {is : List Nat} {ds : List D} {P : En → Prop} : tgV (i :: j :: is) (.tup ds) ρ P = onV (setsV ρ (i :: j :: is) ds) P := by
  show (match setsV ρ (i :: j :: is) ds with | some ρ' => P ρ' | none => False) = _
  cases setsV ρ (i :: j :: is) ds <;> rfl
@[simp] theorem seqOf_l {n : Nat} : seqOf M (.lst n) = M[n]? := rfl
@[simp] theorem seqOf_t {l : List D} : seqOf M (.tup l) = some l := rfl
@[simp] theorem seqOf_s {l : List Int} : seqOf M (.scr l) = some (l.map D.int) := rfl
@[simp] theorem startD_0 {ds : List D} : startD 0 ds = ds.map some := by simp [startD]
@[simp] theorem bodyE_nx {ρ : En} : (bodyE Q).nx ρ M = Q .non M := rfl
@[simp] theorem bodyE_rt : (bodyE Q).rt = Q := rfl

/-- the value is a truth value of which P holds -/
def tB (d : D) (P : Bool → Prop) : Prop := ∃ c, d = .bl c ∧ P c
def tI (d : D) (P : Int → Prop) : Prop := ∃ c, d = .int c ∧ P c
def tT (d : D) (P : List D → Prop) : Prop := ∃ c, d = .tup c ∧ P c
/-- what is unpacked -/
def unT (d : D) (M : Mem) (P : List D → Prop) : Prop := ∃ ds, (d = .tup ds ∨ ∃ n, d = .lst n ∧ M[n]? = some ds) ∧ P ds
@[simp] theorem unT_t {c : List D} {P : List D → Prop} : unT (.tup c) M P = P c := by
  apply propext
  constructor
  · rintro ⟨ds, e | ⟨n, e, _⟩, h⟩
    · cases e; exact h
    · cases e
  · intro h
    exact ⟨c, .inl rfl, h⟩
@[simp] theorem unT_l {n : Nat} {P : List D → Prop} : unT (.lst n) M P = onV M[n]? P := by
  apply propext
  constructor
  · rintro ⟨ds, e | ⟨k, e, g⟩, h⟩
    · cases e
    · cases e; rw [g]; exact h
  · intro h
    obtain ⟨d, e, h⟩ := onV_ex h
    exact ⟨d, .inr ⟨n, rfl, e⟩, h⟩
@[simp] theorem tB_b {c : Bool} {P : Bool → Prop} : tB (.bl c) P = P c := propext ⟨fun ⟨_, e, h⟩ => by cases e; exact h, fun h => ⟨c, rfl, h⟩⟩
@[simp] theorem tI_i {c : Int} {P : Int → Prop} : tI (.int c) P = P c := propext ⟨fun ⟨_, e, h⟩ => by cases e; exact h, fun h => ⟨c, rfl, h⟩⟩
@[simp] theorem tT_t {c : List D} {P : List D → Prop} : tT (.tup c) P = P c := propext ⟨fun ⟨_, e, h⟩ => by cases e; exact h, fun h => ⟨c, rfl, h⟩⟩
@[simp] theorem wpE_var {i : Nat} : wpE G (.var i) ρ M Q = onV (getV ρ i) fun d => Q d M := rfl
@[simp] theorem wpE_int {n : Int} : wpE G (.int n) ρ M Q = Q (.int n) M := rfl
@[simp] theorem wpE_bl {n : Bool} : wpE G (.bl n) ρ M Q = Q (.bl n) M := rfl
@[simp] theorem wpE_str {n : Str} : wpE G (.str n) ρ M Q = Q (.str n) M := rfl
@[simp] theorem wpE_non : wpE G .non ρ M Q = Q .non M := rfl
@[simp] theorem wpE_bin : wpE G (.bin op a b) ρ M Q = wpE G a ρ M fun x M1 => wpE G b ρ M1 fun y M2 => binD op x y M2 Q := rfl
@[simp] theorem wpE_neg : wpE G (.neg a) ρ M Q = wpE G a ρ M fun x M1 => tI x fun i => Q (.int (-i)) M1 := rfl
@[simp] theorem wpE_not : wpE G (.not a) ρ M Q = wpE G a ρ M fun x M1 => tB x fun c => Q (.bl (!c)) M1 := rfl
@[simp] theorem wpE_and : wpE G (.and a b) ρ M Q = wpE G a ρ M fun x M1 => tB x fun c => if c = true then wpE G b ρ M1 Q else Q (.bl false) M1 := rfl
@[simp] theorem wpE_or : wpE G (.or a b) ρ M Q = wpE G a ρ M fun x M1 => tB x fun c => if c = true then Q (.bl true) M1 else wpE G b ρ M1 Q := rfl
@[simp] theorem wpE_one : wpE G (.one a) ρ M Q = wpE G a ρ M Q := rfl
@[simp] theorem wpE_cmp : wpE G (.cmp co a b) ρ M Q = wpE G a ρ M fun x M1 => wpE G b ρ M1 fun y M2 => cmpD co x y M2 Q := rfl
@[simp] theorem wpE_chn : wpE G (.chn co co' a b c) ρ M Q = wpE G a ρ M fun x M1 => wpE G b ρ M1 fun y M2 => cmpD co x y M2 fun t M3 => tB t fun k =>
      if k = true then wpE G c ρ M3 fun z M4 => cmpD co' y z M4 Q else Q (.bl false) M3 := rfl
@[simp] theorem wpE_ite : wpE G (.ite c a b) ρ M Q = wpT G c ρ M fun c M1 => if c = true then wpE G a ρ M1 Q else wpE G b ρ M1 Q := rfl
@[simp] theorem wpE_tup : wpE G (.tup xs) ρ M Q = wpA G xs ρ M fun ds M1 => ds.length ≤ sizeLine ∧ Q (.tup ds) M1 := rfl
@[simp] theorem wpE_lst : wpE G (.lst xs) ρ M Q = wpA G xs ρ M fun ds M1 => ds.length ≤ sizeLine ∧ Q (.lst M1.length) (M1 ++ [ds]) := rfl
@[simp] theorem wpE_ix : wpE G (.ix a b) ρ M Q = wpE G a ρ M fun x M1 => wpE G b ρ M1 fun y M2 => ixD x y M2 Q := rfl
@[simp] theorem wpE_sl : wpE G (.sl a b c) ρ M Q = wpE G a ρ M fun x M1 => wpO G b ρ M1 fun l M2 => wpO G c ρ M2 fun h M3 => slD x l h M3 Q := rfl
@[simp] theorem wpE_rev : wpE G (.rev a) ρ M Q = wpE G a ρ M fun x M1 => revD x M1 Q := rfl
@[simp] theorem wpE_isi {T : List String} : wpE G (.isi a T) ρ M Q = wpE G a ρ M fun x M1 => onV (isiD T x) fun b => Q (.bl b) M1 := by
  show (wpE G a ρ M fun x M1 => ∃ b, isiD T x = some b ∧ Q (.bl b) M1) = _
  congr 1; funext x M1; cases isiD T x <;> simp [onV]
@[simp] theorem wpE_blt {f : BF} : wpE G (.blt f xs) ρ M Q = wpA G xs ρ M fun ds M1 => bfD f ds M1 Q := rfl
@[simp] theorem wpE_mth {m : MF} : wpE G (.mth m o xs) ρ M Q = wpE G o ρ M fun x M1 => (∃ n, x = .lst n) ∧ wpA G xs ρ M1 fun ds M2 => mfD m x ds M2 Q := rfl
@[simp] theorem wpE_call {f : String} : wpE G (.call f xs) ρ M Q = wpA G xs ρ M fun ds M1 => G f ds M1 Q := rfl
@[simp] theorem wpT_not : wpT G (.not a) ρ M R = wpT G a ρ M fun c M1 => R (!c) M1 := rfl
@[simp] theorem wpT_and : wpT G (.and a b) ρ M R = wpT G a ρ M fun c M1 => if c = true then wpT G b ρ M1 R else R false M1 := rfl
@[simp] theorem wpT_or : wpT G (.or a b) ρ M R = wpT G a ρ M fun c M1 => if c = true then R true M1 else wpT G b ρ M1 R := rfl
@[simp] theorem wpT_one : wpT G (.one a) ρ M R = wpT G a ρ M R := rfl
@[simp] theorem wpT_cmp : wpT G (.cmp co a b) ρ M R = wpE G a ρ M fun x M1 => wpE G b ρ M1 fun y M2 => cmpD co x y M2 fun d M3 => tB d fun c => R c M3 := rfl
@[simp] theorem wpT_chn : wpT G (.chn co co' a b c) ρ M R = wpE G a ρ M fun x M1 => wpE G b ρ M1 fun y M2 => cmpD co x y M2 fun t M3 => tB t fun k =>
      if k = true then wpE G c ρ M3 fun z M4 => cmpD co' y z M4 fun d M5 => tB d fun c => R c M5 else R false M3 := rfl
@[simp] theorem wpT_vr {i : Nat} : wpT G (.var i) ρ M R = onV (getV ρ i) fun d => tB d fun c => R c M := rfl
@[simp] theorem wpT_isi {T : List String} : wpT G (.isi a T) ρ M R = wpE G a ρ M fun x M1 => onV (isiD T x) fun b => R b M1 := by
  show (wpE G a ρ M fun x M1 => ∃ b, isiD T x = some b ∧ ∃ c, D.bl b = .bl c ∧ R c M1) = _
  congr 1; funext x M1; cases isiD T x <;> simp [onV]
@[simp] theorem wpT_blt {f : BF} : wpT G (.blt f xs) ρ M R = wpA G xs ρ M fun ds M1 => bfD f ds M1 fun d M2 => tB d fun c => R c M2 := rfl
@[simp] theorem wpT_call {f : String} : wpT G (.call f xs) ρ M R = wpA G xs ρ M fun ds M1 => G f ds M1 fun d M2 => tB d fun c => R c M2 := rfl
@[simp] theorem wpC_nil : wpC G .nil ρ M R = R true M := rfl
@[simp] theorem wpC_cons : wpC G (.cons a r) ρ M R = wpT G a ρ M R := rfl
@[simp] theorem wpA_nil {S : List D → Mem → Prop} : wpA G .nil ρ M S = S [] M := rfl
@[simp] theorem wpA_cons {S : List D → Mem → Prop} : wpA G (.cons a r) ρ M S = wpE G a ρ M fun x M1 => wpA G r ρ M1 fun xs M2 => S (x :: xs) M2 := rfl
@[simp] theorem wpO_nil {S : Option Int → Mem → Prop} : wpO G .nil ρ M S = S none M := rfl
@[simp] theorem wpO_cons {S : Option Int → Mem → Prop} : wpO G (.cons a r) ρ M S = wpE G a ρ M fun x M1 => tI x fun i => S (some i) M1 := rfl
@[simp] theorem wpI_rng1 {S : Src → Mem → Prop} : wpI G (.rng1 a) ρ M S = wpE G a ρ M fun x M1 => tI x fun j => (-(2 ^ 62) ≤ j ∧ j < 2 ^ 62) ∧ S (.rng 0 j.toNat) M1 := rfl
@[simp] theorem wpI_rng2 {S : Src → Mem → Prop} : wpI G (.rng2 a b) ρ M S = wpE G a ρ M fun x M1 => wpE G b ρ M1 fun y M2 => tI x fun i => tI y fun j => (-(2 ^ 62) ≤ i ∧ i < 2 ^ 62 ∧ -(2 ^ 62) ≤ j ∧ j < 2 ^ 62) ∧ S (.rng i (j - i).toNat) M2 := by
  show (wpE G a ρ M fun x M1 => wpE G b ρ M1 fun y M2 => ∃ i j, x = .int i ∧ y = .int j ∧ (-(2 ^ 62) ≤ i ∧ i < 2 ^ 62 ∧ -(2 ^ 62) ≤ j ∧ j < 2 ^ 62) ∧ S (.rng i (j - i).toNat) M2) = _
  congr 1; funext x M1; congr 1; funext y M2; exact propext ⟨fun ⟨i, j, e, f, h⟩ => ⟨i, e, j, f, h⟩, fun ⟨i, e, j, f, h⟩ => ⟨i, j, e, f, h⟩⟩
@[simp] theorem wpI_cons {S : Src → Mem → Prop} : wpI G (.cons a r) ρ M S = wpE G a ρ M fun x M1 => S (.val x) M1 ∧ ∃ xs, seqOf M1 x = some xs := rfl
@[simp] theorem binD_Add {i j : Int} : binD .Add (.int i) (.int j) M Q = Q (.int (i + j)) M := rfl
@[simp] theorem binD_Sub {i j : Int} : binD .Sub (.int i) (.int j) M Q = Q (.int (i - j)) M := rfl
@[simp] theorem binD_Mult {i j : Int} : binD .Mult (.int i) (.int j) M Q = (lg i + lg j < 1000000 ∧ Q (.int (i * j)) M) := rfl
@[simp] theorem binD_FloorDiv {i j : Int} : binD .FloorDiv (.int i) (.int j) M Q = (j ≠ 0 ∧ lg j < 9000 ∧ Q (.int (i.fdiv j)) M) := rfl
@[simp] theorem binD_Mod {i j : Int} : binD .Mod (.int i) (.int j) M Q = (j ≠ 0 ∧ Q (.int (i.fmod j)) M) := rfl
@[simp] theorem binD_Pow {i j : Int} : binD .Pow (.int i) (.int j) M Q = (0 ≤ j ∧ j ≤ 1000000 ∧ i.natAbs < 2 ^ 64 ∧ Q (.int (i ^ j.toNat)) M) := rfl
@[simp] theorem binD_Addb {i : Bool} {j : Int} : binD .Add (.bl i) (.int j) M Q = Q (.int (b2 i + j)) M := rfl
@[simp] theorem binD_Subb {i : Bool} {j : Int} : binD .Sub (.bl i) (.int j) M Q = Q (.int (b2 i - j)) M := rfl
@[simp] theorem binD_bSub {i : Int} {j : Bool} : binD .Sub (.int i) (.bl j) M Q = Q (.int (i - b2 j)) M := rfl
@[simp] theorem binD_bMul {i : Int} {j : Bool} : binD .Mult (.int i) (.bl j) M Q = Q (.int (i * b2 j)) M := rfl
@[simp] theorem binD_Modb {i : Bool} {j : Int} : binD .Mod (.bl i) (.int j) M Q = (j ≠ 0 ∧ Q (.int ((b2 i).fmod j)) M) := rfl
@[simp] theorem binD_tt {k l : List D} : binD .Add (.tup k) (.tup l) M Q = (k.length + l.length ≤ sizeLine ∧ Q (.tup (k ++ l)) M) := rfl
@[simp] theorem binD_ss {k l : Str} : binD .Add (.str k) (.str l) M Q = (k.length + l.length ≤ sizeLine ∧ Q (.str (k ++ l)) M) := rfl
@[simp] theorem binD_ll {k l : Nat} : binD .Add (.lst k) (.lst l) M Q = onV M[k]? fun xs => onV M[l]? fun ys => xs.length + ys.length ≤ sizeLine ∧ Q (.lst M.length) (M ++ [xs ++ ys]) := rfl
@[simp] theorem cmpD_Lt {i j : Int} : cmpD .Lt (.int i) (.int j) M Q = Q (.bl (decide (i < j))) M := rfl
@[simp] theorem cmpD_LtE {i j : Int} : cmpD .LtE (.int i) (.int j) M Q = Q (.bl (decide (i ≤ j))) M := rfl
@[simp] theorem cmpD_Gt {i j : Int} : cmpD .Gt (.int i) (.int j) M Q = Q (.bl (decide (j < i))) M := rfl
@[simp] theorem cmpD_GtE {i j : Int} : cmpD .GtE (.int i) (.int j) M Q = Q (.bl (decide (j ≤ i))) M := rfl
@[simp] theorem cmpD_Eq {i j : Int} : cmpD .Eq (.int i) (.int j) M Q = Q (.bl (decide (i = j))) M := rfl
@[simp] theorem cmpD_NotEq {i j : Int} : cmpD .NotEq (.int i) (.int j) M Q = Q (.bl (!decide (i = j))) M := rfl
@[simp] theorem cmpD_eqb {i j : Bool} : cmpD .Eq (.bl i) (.bl j) M Q = Q (.bl (decide (i = j))) M := rfl
@[simp] theorem cmpD_neb {i j : Bool} : cmpD .NotEq (.bl i) (.bl j) M Q = Q (.bl (!decide (i = j))) M := rfl
@[simp] theorem cmpD_eqs {i j : Str} : cmpD .Eq (.str i) (.str j) M Q = Q (.bl (decide (i = j))) M := rfl
@[simp] theorem cmpD_nes {i j : Str} : cmpD .NotEq (.str i) (.str j) M Q = Q (.bl (!decide (i = j))) M := rfl
@[simp] theorem cmpD_is {x : D} : cmpD .Is x .non M Q = Q (.bl (isNon x)) M := rfl
@[simp] theorem cmpD_isn {x : D} : cmpD .IsNot x .non M Q = Q (.bl (!isNon x)) M := rfl
@[simp] theorem ixD_i {x : D} {k : Int} : ixD x (.int k) M Q = onV (seqOf M x) fun xs => onV (atD xs k) fun v => Q v M := rfl
@[simp] theorem slD_l {n : Nat} {l h : Option Int} : slD (.lst n) l h M Q = onV M[n]? fun xs => Q (.lst M.length) (M ++ [cutD xs l h]) := rfl
@[simp] theorem slD_t {x : List D} {l h : Option Int} : slD (.tup x) l h M Q = Q (.tup (cutD x l h)) M := rfl
@[simp] theorem slD_s {x : List Int} {l h : Option Int} : slD (.scr x) l h M Q = Q (.lst M.length) (M ++ [cutD (x.map D.int) l h]) := rfl
@[simp] theorem revD_l {n : Nat} : revD (.lst n) M Q = onV M[n]? fun xs => Q (.lst M.length) (M ++ [xs.reverse]) := rfl
@[simp] theorem revD_t {x : List D} : revD (.tup x) M Q = Q (.tup x.reverse) M := rfl
@[simp] theorem bfD_lenl {n : Nat} : bfD .len [.lst n] M Q = onV M[n]? fun ys => Q (.int ys.length) M := rfl
@[simp] theorem bfD_lent {x : List D} : bfD .len [.tup x] M Q = Q (.int x.length) M := rfl
@[simp] theorem bfD_abs {i : Int} : bfD .abs [.int i] M Q = Q (.int (if i < 0 then -i else i)) M := rfl
@[simp] theorem bfD_max2 {i j : Int} : bfD .max [.int i, .int j] M Q = Q (.int (if j > i then j else i)) M := rfl
@[simp] theorem bfD_min2 {i j : Int} : bfD .min [.int i, .int j] M Q = Q (.int (if j < i then j else i)) M := rfl
@[simp] theorem bfD_max1 {n : Nat} : bfD .max [.lst n] M Q = ∃ ns : List Int, M[n]? = some (ns.map D.int) ∧ 0 < ns.length ∧ ∀ m, m ∈ ns → (∀ y, y ∈ ns → y ≤ m) → Q (.int m) M := rfl
@[simp] theorem bfD_min1 {n : Nat} : bfD .min [.lst n] M Q = ∃ ns : List Int, M[n]? = some (ns.map D.int) ∧ 0 < ns.length ∧ ∀ m, m ∈ ns → (∀ y, y ∈ ns → m ≤ y) → Q (.int m) M := rfl
@[simp] theorem bfD_sum {n : Nat} : bfD .sum [.lst n] M Q = ∃ ns : List Int, M[n]? = some (ns.map D.int) ∧ Q (.int ns.sum) M := rfl
@[simp] theorem bfD_all {n : Nat} : bfD .all [.lst n] M Q = ∃ ns : List Bool, M[n]? = some (ns.map D.bl) ∧ Q (.bl (ns.all id)) M := rfl
@[simp] theorem bfD_any {n : Nat} : bfD .any [.lst n] M Q = ∃ ns : List Bool, M[n]? = some (ns.map D.bl) ∧ Q (.bl (ns.any id)) M := rfl
@[simp] theorem bfD_repr {x : D} : bfD .repr [x] M Q = ∃ p, PD M x p ∧ p.showable = true ∧ p.hasDict = false ∧ p.depth ≤ 50 ∧ p.shown.length ≤ sizeLine ∧ Q (.str p.shown) M := rfl
@[simp] theorem bfD_str {i : Int} : bfD .str [.int i] M Q = (lg i < 1920 ∧ Q (.str (toString i)) M) := rfl
@[simp] theorem bfD_inti {i : Int} : bfD .int [.int i] M Q = Q (.int i) M := rfl
@[simp] theorem bfD_intb {i : Bool} : bfD .int [.bl i] M Q = Q (.int (if i then 1 else 0)) M := rfl
@[simp] theorem bfD_list {x : D} : bfD .list [x] M Q = onV (seqOf M x) fun ys => Q (.lst M.length) (M ++ [ys]) := rfl
@[simp] theorem bfD_tuple {x : D} : bfD .tuple [x] M Q = onV (seqOf M x) fun ys => Q (.tup ys) M := rfl
@[simp] theorem mfD_append {n : Nat} {x : D} : mfD .append (.lst n) [x] M Q = onV M[n]? fun ys => ys.length < sizeLine ∧ Q .non (M.set n (ys ++ [x])) := rfl
@[simp] theorem mfD_extend {n k : Nat} : mfD .extend (.lst n) [.lst k] M Q = onV M[n]? fun ys => onV M[k]? fun zs => ys.length + zs.length ≤ sizeLine ∧ Q .non (M.set n (ys ++ zs)) := rfl
@[simp] theorem mfD_pop0 {n : Nat} : mfD .pop (.lst n) [] M Q = onV M[n]? fun ys => onV ys[ys.length - 1]? fun y => Q y (M.set n ys.dropLast) := rfl
@[simp] theorem setIxD_i {n : Nat} {k : Int} {v : D} {S : Mem → Prop} : setIxD (.lst n) (.int k) v M S = onV M[n]? fun xs => onV (ixN xs.length k) fun j => S (M.set n (xs.set j v)) := rfl
@[simp] theorem items_v {d : D} : items M (.val d) = seqOf M d := rfl
@[simp] theorem items_r {lo : Int} {n : Nat} : items M (.rng lo n) = some (rngD lo n) := rfl
theorem w_skip : wpS G .skip E ρ M = E.nx ρ M := rfl
theorem w_av {i : Nat} {s : IS} : wpS G (.seq (.asg (.v i) a) s) E ρ M = wpE G a ρ M fun d M1 => wpS G s E (setV ρ i d) M1 := rfl
theorem w_as {s : IS} : wpS G (.seq (.asg (.sub o b) a) s) E ρ M = wpE G a ρ M fun d M1 => wpE G o ρ M1 fun x M2 => wpE G b ρ M2 fun y M3 => setIxD x y d M3 fun M4 => wpS G s E ρ M4 := rfl
theorem w_at {g : IG} {s : IS} : wpS G (.seq (.asg (.t g) a) s) E ρ M = wpE G a ρ M fun d M1 => unT d M1 fun ds => ds.length = lenG g ∧ wpGs G g ds ρ M1 fun ρ1 M2 => wpS G s E ρ1 M2 := rfl
theorem w_ex {s : IS} : wpS G (.seq (.ex a) s) E ρ M = wpE G a ρ M fun _ M1 => wpS G s E ρ M1 := rfl
theorem w_ret {s : IS} : wpS G (.seq (.ret a) s) E ρ M = wpE G a ρ M E.rt := rfl
theorem w_retn {s : IS} : wpS G (.seq .retn s) E ρ M = E.rt .non M := rfl
theorem w_ite {t e s : IS} : wpS G (.seq (.ite a t e) s) E ρ M = wpT G a ρ M fun c M1 => if c = true then wpS G t { E with nx := fun ρ1 M2 => wpS G s E ρ1 M2 } ρ M1 else wpS G e { E with nx := fun ρ1 M2 => wpS G s E ρ1 M2 } ρ M1 := rfl
theorem w_brk {s : IS} : wpS G (.seq .brk s) E ρ M = E.bk ρ M := rfl
theorem w_cnt {s : IS} : wpS G (.seq .cnt s) E ρ M = E.ct ρ M := rfl
theorem w_par {is : List Nat} {s : IS} : wpS G (.seq (.par is xs) s) E ρ M = wpA G xs ρ M fun ds M1 => (match setsV ρ is ds with | some ρ1 => wpS G s E ρ1 M1 | none => False) := rfl
@[simp] theorem wpGs_n {P : En → Mem → Prop} : wpGs G .nil [] ρ M P = P ρ M := rfl
@[simp] theorem wpGs_c {g h : IG} {d : D} {ds : List D} {P : En → Mem → Prop} : wpGs G (.cons g h) (d :: ds) ρ M P = wpG G g d ρ M fun ρ1 M1 => wpGs G h ds ρ1 M1 P := rfl
@[simp] theorem wpG_v {i : Nat} {d : D} {P : En → Mem → Prop} : wpG G (.v i) d ρ M P = P (setV ρ i d) M := rfl
@[simp] theorem wpG_t {g : IG} {ds : List D} {P : En → Mem → Prop} : wpG G (.t g) (.tup ds) ρ M P = (ds.length = lenG g ∧ wpGs G g ds ρ M P) := by
  show unT (.tup ds) M (fun ds' => ds'.length = lenG g ∧ wpGs G g ds' ρ M P) = _
  rw [unT_t]
@[simp] theorem lenG_n : lenG .nil = 0 := rfl
@[simp] theorem lenG_c {g h : IG} : lenG (.cons g h) = lenG h + 1 := rfl
/-- a while by a word and a number that falls -/
theorem w_whl {t : IE} {b s : IS} (W : Nat → En → Mem → Prop) {m : Nat} (h0 : W m ρ M)
    (turn : ∀ m ρ M, W m ρ M → wpT G t ρ M fun c M1 => if c = true then wpS G b { nx := fun ρ1 M2 => ∃ m1, m1 < m ∧ W m1 ρ1 M2, rt := E.rt, bk := fun ρ1 M2 => wpS G s E ρ1 M2, ct := fun ρ1 M2 => ∃ m1, m1 < m ∧ W m1 ρ1 M2 } ρ M1 else wpS G s E ρ M1) :
    wpS G (.seq (.whl t b) s) E ρ M := ⟨W, ⟨m, h0⟩, turn⟩
/-- a for by what holds ahead of turn i -/
theorem w_for {g : IG} {it : IE} {b s : IS} (h : wpI G it ρ M fun src M1 => ∃ xs, items M1 src = some xs ∧ ∃ Pv : Nat → En → Mem → Prop, Pv 0 ρ M1 ∧
      (∀ i ρ M, i ≤ xs.length → Pv i ρ M → items M src = some xs) ∧
      (∀ i x ρ M, xs[i]? = some x → Pv i ρ M → wpG G g x ρ M fun ρ1 M2 => wpS G b { nx := Pv (i + 1), rt := E.rt, bk := fun ρ1 M2 => wpS G s E ρ1 M2, ct := Pv (i + 1) } ρ1 M2) ∧
      ∀ ρ M, Pv xs.length ρ M → wpS G s E ρ M) : wpS G (.seq (.for_ g it b) s) E ρ M := h
theorem w_comp {elt it cond : IE} {vs tg : List Nat} (h : wpI G it ρ M fun src M1 => ∃ xs, items M1 src = some xs ∧ xs.length < sizeLine ∧ ∃ Pv : Nat → List D → Mem → Prop, Pv 0 [] M1 ∧
      (∀ i acc M, i ≤ xs.length → Pv i acc M → acc.length ≤ i ∧ items M src = some xs) ∧
      (∀ i x acc M, xs[i]? = some x → Pv i acc M → tgV tg x (wipesV ρ vs) fun ρ' => wpC G cond ρ' M fun b M2 =>
        if b = true then wpE G elt ρ' M2 fun y M3 => Pv (i + 1) (acc ++ [y]) M3 else Pv (i + 1) acc M2) ∧
      ∀ acc M, Pv xs.length acc M → Q (.lst M.length) (M ++ [acc])) : wpE G (.comp elt vs tg it cond) ρ M Q := h
theorem atD_nat {xs : List D} {j : Nat} : atD xs (j : Int) = xs[j]? := by
  unfold atD ixN
  by_cases h : j < xs.length
  · rw [if_pos (by omega), if_pos (by omega)]
    simp
  · rw [if_pos (by omega), if_neg (by omega)]
    simp [List.getElem?_eq_none (Nat.le_of_not_lt h)]
theorem atD_of {xs : List D} {k : Int} (h : 0 ≤ k) : atD xs k = xs[k.toNat]? := by
  obtain ⟨j, rfl⟩ : ∃ j : Nat, k = (j : Int) := ⟨k.toNat, by omega⟩
  rw [atD_nat]
  rfl
@[simp] theorem atD_2 {xs : List D} : atD xs 2 = xs[2]? := atD_nat (j := 2)
@[simp] theorem atD_3 {xs : List D} : atD xs 3 = xs[3]? := atD_nat (j := 3)
@[simp] theorem atD_4 {xs : List D} : atD xs 4 = xs[4]? := atD_nat (j := 4)
@[simp] theorem atD_5 {xs : List D} : atD xs 5 = xs[5]? := atD_nat (j := 5)
@[simp] theorem atD_6 {xs : List D} : atD xs 6 = xs[6]? := atD_nat (j := 6)
@[simp] theorem atD_7 {xs : List D} : atD xs 7 = xs[7]? := atD_nat (j := 7)
@[simp] theorem atD_8 {xs : List D} : atD xs 8 = xs[8]? := atD_nat (j := 8)
@[simp] theorem atD_9 {xs : List D} : atD xs 9 = xs[9]? := atD_nat (j := 9)
@[simp] theorem atD_10 {xs : List D} : atD xs 10 = xs[10]? := atD_nat (j := 10)
@[simp] theorem atD_11 {xs : List D} : atD xs 11 = xs[11]? := atD_nat (j := 11)
@[simp] theorem atD_12 {xs : List D} : atD xs 12 = xs[12]? := atD_nat (j := 12)
@[simp] theorem atD_0 {xs : List D} : atD xs 0 = xs[0]? := atD_nat (j := 0)
@[simp] theorem atD_1 {xs : List D} : atD xs 1 = xs[1]? := atD_nat (j := 1)
theorem gs_self {n : Nat} {x y : List D} (h : M[n]? = some y) : (M.set n x)[n]? = some x := by
  have := (List.getElem?_eq_some_iff.mp h).1
  simp [this]
theorem gs_ne {n k : Nat} {x : List D} (h : n ≠ k) : (M.set n x)[k]? = M[k]? := List.getElem?_set_ne h
theorem ga_lt {k : Nat} {x y : List D} (h : M[k]? = some y) : (M ++ [x])[k]? = some y := by
  have := (List.getElem?_eq_some_iff.mp h).1
  rw [List.getElem?_append_left this, h]
theorem ga_ltL {k : Nat} {x : List D} (h : k < M.length) : (M ++ [x])[k]? = M[k]? := List.getElem?_append_left h
@[simp] theorem ga_len {x : List D} : (M ++ [x])[M.length]? = some x := by simp
theorem lt_of_get {k : Nat} {y : List D} (h : M[k]? = some y) : k < M.length := (List.getElem?_eq_some_iff.mp h).1
@[simp] theorem ixN_0 {k : Nat} : ixN (k + 1) 0 = some 0 := by simp [ixN]
@[simp] theorem ixN_1 {k : Nat} : ixN (k + 2) 1 = some 1 := by simp [ixN]; omega
@[simp] theorem ixN_2 {k : Nat} : ixN (k + 3) 2 = some 2 := by simp [ixN]; omega
theorem atD_ex {xs : List D} {k : Int} (h0 : 0 ≤ k) (h1 : k < xs.length) : ∃ v, xs[k.toNat]? = some v ∧ atD xs k = some v := by
  obtain ⟨j, rfl⟩ : ∃ j : Nat, k = (j : Int) := ⟨k.toNat, by omega⟩
  have hj : j < xs.length := by omega
  exact ⟨xs[j], by simp, by rw [atD_nat]; simp [hj]⟩
end
end DL

set_option Elab.async false
set_option linter.all false
set_option maxRecDepth 100000
set_option maxHeartbeats 4000000
namespace DL
open PySem L2
/-! what every law's draws keep -/
structure Feed (n a : Nat) (M : Mem) : Prop where
  ex : ∃ (m : Nat) (ns : List Int) (at_ rest : Int), M[n]? = some [.lst m, .int at_, .int rest] ∧ M[m]? = some (ns.map D.int) ∧ m < n ∧ 0 ≤ at_ ∧ at_ ≤ a ∧ 0 ≤ rest ∧ ns.length ≤ 63
structure Fx (n a : Nat) (M M' : Mem) : Prop where
  len : M.length ≤ M'.length
  same : ∀ k, k < M.length → k ≠ n → M'[k]? = M[k]?
  feed : Feed n a M'
theorem Fx.trans {n a b : Nat} {M M1 M2 : Mem} (x : Fx n a M M1) (y : Fx n b M1 M2) : Fx n b M M2 :=
  ⟨Nat.le_trans x.len y.len, fun k hk hn => (y.same k (Nat.lt_of_lt_of_le hk x.len) hn).trans (x.same k hk hn), y.feed⟩
theorem Feed.mono {n a b : Nat} {M : Mem} (f : Feed n a M) (h : a ≤ b) : Feed n b M := by
  obtain ⟨m, ns, at_, rest, h1, h2, h3, h4, h5, h6, h7⟩ := f.ex
  exact ⟨m, ns, at_, rest, h1, h2, h3, h4, by omega, h6, h7⟩
theorem lg_of {i : Int} {k : Nat} (h : i.natAbs < 2 ^ k) : lg i ≤ k := by
  unfold lg
  by_cases h0 : i.natAbs = 0
  · rw [h0]; simp
  · exact Nat.le_of_lt ((Nat.log2_lt h0).mpr h)
theorem lg_lt {i : Int} : i.natAbs < 2 ^ (lg i + 1) := by
  unfold lg
  exact Nat.lt_log2_self
theorem lg_mul {i j : Int} : lg (i * j) ≤ lg i + lg j + 1 := by
  by_cases h0 : (i * j).natAbs = 0
  · simp [lg, h0]
  · have h : (i * j).natAbs < 2 ^ ((lg i + lg j + 1) + 1) := by
      rw [Int.natAbs_mul, show lg i + lg j + 1 + 1 = (lg i + 1) + (lg j + 1) by omega, Nat.pow_add]
      exact Nat.mul_lt_mul'' lg_lt lg_lt
    have := (Nat.log2_lt h0).mpr h
    show Nat.log2 _ ≤ _
    omega
theorem lg_add {i j : Int} : lg (i + j) ≤ lg i + lg j + 1 := by
  by_cases h0 : (i + j).natAbs = 0
  · simp [lg, h0]
  · have h : (i + j).natAbs < 2 ^ ((lg i + lg j + 1) + 1) := by
      have a1 : (2 : Nat) ^ (lg i + 1) ≤ 2 ^ (lg i + lg j + 1) := Nat.pow_le_pow_right (by omega) (by omega)
      have a2 : (2 : Nat) ^ (lg j + 1) ≤ 2 ^ (lg i + lg j + 1) := Nat.pow_le_pow_right (by omega) (by omega)
      have b1 := lg_lt (i := i)
      have b2 := lg_lt (i := j)
      rw [Nat.pow_succ 2 (lg i + lg j + 1)]
      omega
    have := (Nat.log2_lt h0).mpr h
    show Nat.log2 _ ≤ _
    omega
theorem lg_mono {i j : Int} (h : i.natAbs ≤ j.natAbs) : lg i ≤ lg j := by
  by_cases h0 : i.natAbs = 0
  · simp [lg, h0]
  · have := (Nat.log2_lt h0).mpr (Nat.lt_of_le_of_lt h (lg_lt (i := j)))
    show Nat.log2 _ ≤ _
    omega
theorem lg_mod {i j : Int} (h : 0 < j) : lg (i.fmod j) ≤ lg j := by
  have := Int.fmod_nonneg_of_pos i h
  have := Int.fmod_lt_of_pos i h
  exact lg_mono (by omega)
theorem lg_div {i j : Int} (h : 0 < j) (h0 : 0 ≤ i) : lg (i.fdiv j) ≤ lg i := by
  rw [Int.fdiv_eq_ediv_of_nonneg _ (by omega)]
  have := Int.ediv_nonneg h0 (Int.le_of_lt h)
  have := Int.ediv_le_self j h0
  exact lg_mono (by omega)
theorem getI {xs : List D} {k : Int} {j : Nat} {v : D} (hk : k = (j : Int)) (hv : xs[j]? = some v) : ∃ j, ixN xs.length k = some j ∧ xs[j]? = some v := by
  have hj : j < xs.length := (List.getElem?_eq_some_iff.mp hv).1
  refine ⟨j, ?_, hv⟩
  unfold ixN
  subst hk
  rw [if_pos (by omega), if_pos (by omega)]
  simp

def S_draw : DSpec := fun ds M Q => ∃ n a many, ds = [.lst n, .int many] ∧ Feed n a M ∧ a < 2 ^ 60 ∧ 0 < many ∧ many < 2 ^ 64 ∧ ∀ r M', 0 ≤ r → r < many → Fx n (a + 1) M M' → Q (.int r) M'
def ir_law_draw_13 : IS :=
  .seq (.ret (.bin .Mod (.bin .FloorDiv (.bin .Mod (.bin .Mult (.var 5) (.int 48271)) (.int 2147483563)) (.int 7)) (.var 1))) .skip
def ir_law_draw_12 : IS :=
  .seq (.asg (.v 5) (.bin .Mod (.bin .Add (.bin .Add (.bin .Mult (.var 5) (.var 5)) (.bin .Mult (.int 38317) (.var 3))) (.int 101)) (.int 2147483587))) ir_law_draw_13
def ir_law_draw_11 : IS :=
  .seq (.asg (.v 5) (.bin .Mod (.bin .Mult (.bin .Add (.bin .Add (.bin .Add (.bin .Mod (.var 4) (.int 1000003)) (.bin .Mult (.bin .Mult (.int 47) (.var 3)) (.var 3))) (.bin .Mult (.int 31) (.var 3))) (.int 907)) (.int 40009)) (.int 2147483629))) ir_law_draw_12
def ir_law_draw_10 : IS :=
  .seq (.ret (.bin .Mod (.var 4) (.var 1))) .skip
def ir_law_draw_9 : IS :=
  .seq (.asg (.sub (.var 0) (.int 2)) (.bin .FloorDiv (.var 4) (.var 1))) ir_law_draw_10
def ir_law_draw_8 : IS :=
  .seq (.ite (.and (.cmp .GtE (.var 4) (.bin .Pow (.int 10) (.int 18))) (.one (.cmp .Lt (.var 3) (.blt .len (.cons (.ix (.var 0) (.int 0)) .nil))))) ir_law_draw_9 .skip) ir_law_draw_11
def ir_law_draw_7 : IS :=
  .seq (.asg (.v 4) (.ite (.cmp .Gt (.blt .len (.cons (.ix (.var 0) (.int 0)) .nil)) (.int 0)) (.ix (.ix (.var 0) (.int 0)) (.bin .Mod (.var 3) (.blt .len (.cons (.ix (.var 0) (.int 0)) .nil)))) (.int 0))) ir_law_draw_8
def ir_law_draw_6 : IS :=
  .seq (.asg (.sub (.var 0) (.int 1)) (.bin .Add (.var 3) (.int 1))) ir_law_draw_7
def ir_law_draw_5 : IS :=
  .seq (.asg (.v 3) (.ix (.var 0) (.int 1))) ir_law_draw_6
def ir_law_draw_4 : IS :=
  .seq (.ret (.var 2)) .skip
def ir_law_draw_3 : IS :=
  .seq (.asg (.sub (.var 0) (.int 2)) (.bin .FloorDiv (.ix (.var 0) (.int 2)) (.var 1))) ir_law_draw_4
def ir_law_draw_2 : IS :=
  .seq (.asg (.v 2) (.bin .Mod (.ix (.var 0) (.int 2)) (.var 1))) ir_law_draw_3
def ir_law_draw_1 : IS :=
  .seq (.ite (.cmp .Gt (.ix (.var 0) (.int 2)) (.int 0)) ir_law_draw_2 .skip) ir_law_draw_5
abbrev ir_law_draw : IS := ir_law_draw_1

theorem fx_set {n m a : Nat} {M : Mem} {y : List D} {ns : List Int} {at_ rest : Int} (h1 : M[n]? = some y) (h2 : M[m]? = some (ns.map D.int)) (h3 : m < n)
    (h4 : 0 ≤ at_) (h5 : at_ ≤ a) (h6 : 0 ≤ rest) (h7 : ns.length ≤ 63) : Fx n a M (M.set n [.lst m, .int at_, .int rest]) :=
  ⟨by simp, fun k _ hk => gs_ne (Ne.symm hk), ⟨m, ns, at_, rest, gs_self h1, by rw [gs_ne (Nat.ne_of_gt h3), h2], h3, h4, h5, h6, h7⟩⟩
theorem draw_ok (G : Gam) : ∀ ds M Q, S_draw ds M Q → wpS G ir_law_draw (bodyE Q) (startD (6 - ds.length) ds) M := by
  rintro ds M Q ⟨n, a, many, rfl, F, ha, hm, hm2, hq⟩
  obtain ⟨m, ns, at_, rest, h1, h2, h3, h4, h5, h6, h7⟩ := F.ex
  have hmm : many ≠ 0 := by omega
  have hlm : lg many < 9000 := Nat.lt_of_le_of_lt (lg_of (k := 64) (by omega)) (by decide)
  simp [ir_law_draw_1, w_ite, h1, startD]
  split
  · simp [ir_law_draw_2, ir_law_draw_3, ir_law_draw_4, w_av, w_as, w_ret, h1]
    exact ⟨hmm, hlm, hq _ _ (Int.fmod_nonneg_of_pos _ hm) (Int.fmod_lt_of_pos _ hm) (fx_set h1 h2 h3 h4 (by omega) (by rw [Int.fdiv_eq_ediv_of_nonneg _ (by omega)]; exact Int.ediv_nonneg h6 (by omega)) h7)⟩
  · rw [w_skip]
    simp [ir_law_draw_5, ir_law_draw_6, ir_law_draw_7, w_av, w_as, w_ret, h1]
    have fx : Fx n (a + 1) M _ := fx_set h1 h2 h3 (at_ := at_ + 1) (rest := rest) (by omega) (by omega) h6 h7
    have g1 := gs_self (x := [D.lst m, D.int (at_ + 1), D.int rest]) h1
    have g2 := (gs_ne (M := M) (x := [D.lst m, D.int (at_ + 1), D.int rest]) (Nat.ne_of_gt h3)).trans h2
    generalize List.set M n [D.lst m, D.int (at_ + 1), D.int rest] = M1 at *
    simp [g1, g2]
    have key : ∀ (cell : Int), wpS G ir_law_draw_8 (bodyE Q) [some (D.lst n), some (D.int many), none, some (D.int at_), some (D.int cell), none] M1 := by
      intro cell
      have la : lg at_ ≤ 60 := lg_of (by omega)
      simp [ir_law_draw_8, w_ite, g1, g2]
      have key2 : wpS G ir_law_draw_11 (bodyE Q) [some (D.lst n), some (D.int many), none, some (D.int at_), some (D.int cell), none] M1 := by
        have l1 : lg 47 ≤ 6 := by decide
        have l2 : lg 31 ≤ 6 := by decide
        have l3 : lg 40009 ≤ 16 := by decide
        have l4 : lg 38317 ≤ 16 := by decide
        have l5 : lg 48271 ≤ 16 := by decide
        have l6 : lg 907 ≤ 16 := by decide
        have l7 : lg 101 ≤ 16 := by decide
        have l8 : lg 7 ≤ 16 := by decide
        have l9 : lg 1000003 ≤ 32 := by decide
        have l10 : lg 2147483629 ≤ 32 := by decide
        have l11 : lg 2147483587 ≤ 32 := by decide
        have m1 := lg_mul (i := 47) (j := at_)
        have m2 := lg_mul (i := 47 * at_) (j := at_)
        have m3 := lg_mul (i := 31) (j := at_)
        have d1 := lg_mod (i := cell) (j := 1000003) (by decide)
        have a1 := lg_add (i := cell.fmod 1000003) (j := 47 * at_ * at_)
        have a2 := lg_add (i := cell.fmod 1000003 + 47 * at_ * at_) (j := 31 * at_)
        have a3 := lg_add (i := cell.fmod 1000003 + 47 * at_ * at_ + 31 * at_) (j := 907)
        simp [ir_law_draw_11, w_av]
        refine ⟨by omega, by omega, by omega, by omega, ?_⟩
        generalize hf : ((cell.fmod 1000003 + 47 * at_ * at_ + 31 * at_ + 907) * 40009).fmod 2147483629 = f1
        have d2 := lg_mod (i := (cell.fmod 1000003 + 47 * at_ * at_ + 31 * at_ + 907) * 40009) (j := 2147483629) (by decide)
        rw [hf] at d2
        simp [ir_law_draw_12, w_av]
        refine ⟨by omega, by omega, ?_⟩
        generalize hg : (f1 * f1 + 38317 * at_ + 101).fmod 2147483587 = f2
        have d3 := lg_mod (i := f1 * f1 + 38317 * at_ + 101) (j := 2147483587) (by decide)
        rw [hg] at d3
        simp [ir_law_draw_13, w_ret]
        exact ⟨by omega, by omega, hmm, hq _ _ (Int.fmod_nonneg_of_pos _ hm) (Int.fmod_lt_of_pos _ hm) fx⟩
      split
      · split
        · simp [ir_law_draw_9, ir_law_draw_10, w_as, w_ret, g1]
          refine ⟨hmm, hlm, hmm, hq _ _ (Int.fmod_nonneg_of_pos _ hm) (Int.fmod_lt_of_pos _ hm) (fx.trans (fx_set g1 g2 h3 (by omega) (by omega) (by rw [Int.fdiv_eq_ediv_of_nonneg _ (by omega)]; exact Int.ediv_nonneg (by omega) (by omega)) h7))⟩
        · exact key2
      · exact key2
    split
    · rename_i hl
      have hl0 : (ns.length : Int) ≠ 0 := by omega
      refine ⟨by intro e; simp [e] at hl0, ?_⟩
      obtain ⟨v, hv, hv2⟩ := atD_ex (xs := ns.map D.int) (k := at_.fmod ns.length) (Int.fmod_nonneg_of_pos _ (by omega)) (by rw [List.length_map]; exact Int.fmod_lt_of_pos _ (by omega))
      rw [List.getElem?_map] at hv
      obtain ⟨w, _, rfl⟩ := Option.map_eq_some_iff.mp hv
      simp [hv2]
      exact key w
    · exact key 0
end DL

set_option Elab.async false
set_option linter.all false
set_option maxRecDepth 100000
set_option maxHeartbeats 4000000
namespace DL
open PySem L2
def ir_is_number_1 : IS :=
  .seq (.ret (.and (.isi (.var 0) ["int"]) (.one (.not (.isi (.var 0) ["bool"]))))) .skip
abbrev ir_is_number : IS := ir_is_number_1
-- slots ['thing']
def ir_common_divisor_3 : IS :=
  .seq (.ret (.var 0)) .skip
def ir_common_divisor_2 : IS :=
  .seq (.par [0, 1] (.cons (.var 1) (.cons (.bin .Mod (.var 0) (.var 1)) .nil))) .skip
def ir_common_divisor_1 : IS :=
  .seq (.whl (.cmp .Gt (.var 1) (.int 0)) ir_common_divisor_2) ir_common_divisor_3
abbrev ir_common_divisor : IS := ir_common_divisor_1
-- slots ['one', 'other']
def ir_is_fraction_3 : IS :=
  .seq (.ret (.and (.cmp .Gt (.ix (.var 0) (.int 1)) (.int 0)) (.one (.cmp .Eq (.call "common_divisor" (.cons (.blt .abs (.cons (.ix (.var 0) (.int 0)) .nil)) (.cons (.ix (.var 0) (.int 1)) .nil))) (.int 1))))) .skip
def ir_is_fraction_2 : IS :=
  .seq (.ret (.bl false)) .skip
def ir_is_fraction_1 : IS :=
  .seq (.ite (.or (.not (.isi (.var 0) ["tuple"])) (.or (.cmp .NotEq (.blt .len (.cons (.var 0) .nil)) (.int 2)) (.or (.not (.call "is_number" (.cons (.ix (.var 0) (.int 0)) .nil))) (.one (.not (.call "is_number" (.cons (.ix (.var 0) (.int 1)) .nil))))))) ir_is_fraction_2 .skip) ir_is_fraction_3
abbrev ir_is_fraction : IS := ir_is_fraction_1
-- slots ['thing']
def ir_law_feed_1 : IS :=
  .seq (.ret (.lst (.cons (.sl (.var 0) .nil (.cons (.int 63) .nil)) (.cons (.int 0) (.cons (.int 0) .nil))))) .skip
abbrev ir_law_feed : IS := ir_law_feed_1
-- slots ['_law_script']
def ir_law_number_8 : IS :=
  .seq (.ret (.bin .Mult (.var 3) (.var 4))) .skip
def ir_law_number_7 : IS :=
  .seq (.asg (.v 4) (.bin .Add (.bin .Mult (.var 4) (.bin .Pow (.int 10) (.int 6))) (.call "_law_draw" (.cons (.var 0) (.cons (.bin .Pow (.int 10) (.int 6)) .nil))))) .skip
def ir_law_number_6 : IS :=
  .seq (.for_ (.v 5) (.rng1 (.ix (.lst (.cons (.int 1) (.cons (.blt .max (.cons (.int 1) (.cons (.bin .FloorDiv (.var 1) (.int 12)) .nil))) (.cons (.bin .FloorDiv (.var 1) (.int 6)) .nil)))) (.bin .Sub (.var 2) (.int 1)))) ir_law_number_7) ir_law_number_8
def ir_law_number_5 : IS :=
  .seq (.asg (.v 4) (.int 0)) ir_law_number_6
def ir_law_number_4 : IS :=
  .seq (.ret (.bin .Mult (.var 3) (.call "_law_draw" (.cons (.var 0) (.cons (.int 12) .nil))))) .skip
def ir_law_number_3 : IS :=
  .seq (.ite (.cmp .Eq (.var 2) (.int 0)) ir_law_number_4 .skip) ir_law_number_5
def ir_law_number_2 : IS :=
  .seq (.asg (.v 3) (.ix (.lst (.cons (.int 1) (.cons (.neg (.int 1)) .nil))) (.call "_law_draw" (.cons (.var 0) (.cons (.int 2) .nil))))) ir_law_number_3
def ir_law_number_1 : IS :=
  .seq (.asg (.v 2) (.call "_law_draw" (.cons (.var 0) (.cons (.int 4) .nil)))) ir_law_number_2
abbrev ir_law_number : IS := ir_law_number_1
-- slots ['_law_feed_here', '_law_most', '_law_way', '_law_sign', '_law_found', '_law_k']
def ir_law_shared_15 : IS :=
  .seq (.ret (.bin .Mult (.var 0) (.var 2))) .skip
def ir_law_shared_8 : IS :=
  .seq (.asg (.v 0) (.bin .FloorDiv (.var 0) (.int 2))) .skip
def ir_law_shared_10 : IS :=
  .seq (.asg (.v 1) (.bin .FloorDiv (.var 1) (.int 2))) .skip
def ir_law_shared_12 : IS :=
  .seq (.asg (.v 0) (.bin .FloorDiv (.bin .Sub (.var 0) (.var 1)) (.int 2))) .skip
def ir_law_shared_14 : IS :=
  .seq (.asg (.v 1) (.bin .FloorDiv (.bin .Sub (.var 1) (.var 0)) (.int 2))) .skip
def ir_law_shared_11 : IS :=
  .seq (.ite (.cmp .Gt (.var 0) (.var 1)) ir_law_shared_12 ir_law_shared_14) .skip
def ir_law_shared_9 : IS :=
  .seq (.ite (.cmp .Eq (.bin .Mod (.var 1) (.int 2)) (.int 0)) ir_law_shared_10 ir_law_shared_11) .skip
def ir_law_shared_7 : IS :=
  .seq (.ite (.cmp .Eq (.bin .Mod (.var 0) (.int 2)) (.int 0)) ir_law_shared_8 ir_law_shared_9) .skip
def ir_law_shared_6 : IS :=
  .seq (.whl (.cmp .NotEq (.var 0) (.var 1)) ir_law_shared_7) ir_law_shared_15
def ir_law_shared_5 : IS :=
  .seq (.par [0, 1, 2] (.cons (.bin .FloorDiv (.var 0) (.int 2)) (.cons (.bin .FloorDiv (.var 1) (.int 2)) (.cons (.bin .Mult (.int 2) (.var 2)) .nil)))) .skip
def ir_law_shared_4 : IS :=
  .seq (.whl (.and (.cmp .Eq (.bin .Mod (.var 0) (.int 2)) (.int 0)) (.one (.cmp .Eq (.bin .Mod (.var 1) (.int 2)) (.int 0)))) ir_law_shared_5) ir_law_shared_6
def ir_law_shared_3 : IS :=
  .seq (.asg (.v 2) (.int 1)) ir_law_shared_4
def ir_law_shared_2 : IS :=
  .seq (.ret (.bin .Add (.var 0) (.var 1))) .skip
def ir_law_shared_1 : IS :=
  .seq (.ite (.or (.cmp .Eq (.var 0) (.int 0)) (.one (.cmp .Eq (.var 1) (.int 0)))) ir_law_shared_2 .skip) ir_law_shared_3
abbrev ir_law_shared : IS := ir_law_shared_1
-- slots ['_law_one', '_law_other', '_law_twos']
def ir_law_is_number_1 : IS :=
  .seq (.ret (.and (.isi (.var 0) ["int"]) (.one (.not (.isi (.var 0) ["bool"]))))) .skip
abbrev ir_law_is_number : IS := ir_law_is_number_1
-- slots ['_law_thing']
def ir_law_is_due_5 : IS :=
  .seq (.ret (.cmp .Eq (.call "_law_shared" (.cons (.blt .abs (.cons (.ix (.var 0) (.int 0)) .nil)) (.cons (.ix (.var 0) (.int 1)) .nil))) (.int 1))) .skip
def ir_law_is_due_4 : IS :=
  .seq (.ret (.bl false)) .skip
def ir_law_is_due_3 : IS :=
  .seq (.ite (.or (.not (.call "_law_is_number" (.cons (.ix (.var 0) (.int 0)) .nil))) (.or (.not (.call "_law_is_number" (.cons (.ix (.var 0) (.int 1)) .nil))) (.one (.cmp .Lt (.ix (.var 0) (.int 1)) (.int 1))))) ir_law_is_due_4 .skip) ir_law_is_due_5
def ir_law_is_due_2 : IS :=
  .seq (.ret (.bl false)) .skip
def ir_law_is_due_1 : IS :=
  .seq (.ite (.or (.not (.isi (.var 0) ["tuple"])) (.one (.cmp .NotEq (.blt .len (.cons (.var 0) .nil)) (.int 2)))) ir_law_is_due_2 .skip) ir_law_is_due_3
abbrev ir_law_is_due : IS := ir_law_is_due_1
-- slots ['_law_thing']
/-- a whole number, no truth value -/
def isI : D → Bool
  | .int _ => true
  | _ => false
def NoS : D → Prop
  | .scr _ => False
  | _ => True
def S_isnum : DSpec := fun ds M Q => ∃ d, ds = [d] ∧ NoS d ∧ Q (.bl (isI d)) M
theorem is_number_ok (G : Gam) : ∀ ds M Q, S_isnum ds M Q → wpS G ir_is_number (bodyE Q) (startD (1 - ds.length) ds) M := by
  rintro ds M Q ⟨d, rfl, h, q⟩
  cases d <;> simp [ir_is_number_1, startD, w_ret, isiD, tyD, isIn] <;> first | exact q | exact h.elim
theorem law_is_number_ok (G : Gam) : ∀ ds M Q, S_isnum ds M Q → wpS G ir_law_is_number (bodyE Q) (startD (1 - ds.length) ds) M := by
  rintro ds M Q ⟨d, rfl, h, q⟩
  cases d <;> simp [ir_law_is_number_1, startD, w_ret, isiD, tyD, isIn] <;> first | exact q | exact h.elim
theorem nat_fmod (x y : Nat) : (x : Int).fmod (y : Int) = ((x % y : Nat) : Int) := by
  rw [Int.fmod_eq_emod_of_nonneg _ (Int.natCast_nonneg y)]; exact (Int.natCast_emod x y).symm
theorem nat_fdiv (x y : Nat) : (x : Int).fdiv (y : Int) = ((x / y : Nat) : Int) := by
  rw [Int.fdiv_eq_ediv_of_nonneg _ (Int.natCast_nonneg y)]; exact (Int.natCast_ediv x y).symm
def S_gcd : DSpec := fun ds M Q => ∃ a b : Nat, ds = [.int a, .int b] ∧ Q (.int (Nat.gcd a b)) M
theorem common_divisor_ok (G : Gam) : ∀ ds M Q, S_gcd ds M Q → wpS G ir_common_divisor (bodyE Q) (startD (2 - ds.length) ds) M := by
  rintro ds M Q ⟨a, b, rfl, q⟩
  unfold ir_common_divisor ir_common_divisor_1
  refine w_whl (fun m ρ M1 => M1 = M ∧ ∃ x y : Nat, ρ = [some (.int x), some (.int y)] ∧ Nat.gcd x y = Nat.gcd a b ∧ m = y) (m := b) ⟨rfl, a, b, by simp [startD], rfl, rfl⟩ ?_
  rintro m ρ M1 ⟨rfl, x, y, rfl, hg, rfl⟩
  by_cases h : 0 < m
  · have h' : (0 : Int) < (m : Int) := by omega
    simp [h, ir_common_divisor_2, w_par, w_skip, nat_fmod]
    refine ⟨by omega, x % m, Nat.mod_lt _ h, ⟨m, ⟨rfl, by simp⟩, ?_⟩⟩
    rw [← hg, Nat.gcd_comm m, ← Nat.gcd_rec, Nat.gcd_comm]
  · have h0 : m = 0 := by omega
    subst h0
    simp [ir_common_divisor_3, w_ret]
    rw [Nat.gcd_zero_right] at hg
    rw [hg]
    exact q
theorem cop2 {y : Nat} (h : y % 2 = 1) : Nat.gcd 2 y = 1 := by
  rw [Nat.gcd_rec 2 y, h]; decide
theorem gcd_half {x y : Nat} (hx : x % 2 = 0) (hy : y % 2 = 1) : Nat.gcd (x / 2) y = Nat.gcd x y := by
  obtain ⟨k, rfl⟩ : ∃ k, x = 2 * k := ⟨x / 2, by omega⟩
  rw [show 2 * k / 2 = k by omega]
  exact (Nat.Coprime.gcd_mul_left_cancel k (cop2 hy)).symm
theorem gcd_half_r {x y : Nat} (hx : x % 2 = 1) (hy : y % 2 = 0) : Nat.gcd x (y / 2) = Nat.gcd x y := by
  rw [Nat.gcd_comm, gcd_half hy hx, Nat.gcd_comm]
theorem gcd_half_sub {x y : Nat} (hx : x % 2 = 1) (hy : y % 2 = 1) (h : y < x) : Nat.gcd ((x - y) / 2) y = Nat.gcd x y := by
  rw [gcd_half (by omega) hy, Nat.gcd_sub_self_left (by omega)]
def S_shared (B : Nat) : DSpec := fun ds M Q => ∃ a b : Nat, ds = [.int a, .int b] ∧ a < 2 ^ B ∧ b < 2 ^ B ∧ Q (.int (Nat.gcd a b)) M
theorem law_shared_ok {B : Nat} (hB : B ≤ 4000) (G : Gam) : ∀ ds M Q, S_shared B ds M Q → wpS G ir_law_shared (bodyE Q) (startD (3 - ds.length) ds) M := by
  rintro ds M Q ⟨a, b, rfl, ha, hb, q⟩
  have hl : ∀ x : Nat, x < 2 ^ B → lg (x : Int) ≤ B := fun x h => lg_of (by simpa using h)
  have l2 : lg 2 = 1 := by decide
  by_cases h0 : a = 0 ∨ b = 0
  · have hs : a + b = Nat.gcd a b := by rcases h0 with rfl | rfl <;> simp
    have : (a : Int) + (b : Int) = ((Nat.gcd a b : Nat) : Int) := by rw [← hs]; simp
    rcases h0 with h0 | h0
    · have h0' : (a : Int) = 0 := by omega
      simp [ir_law_shared_1, ir_law_shared_2, w_ite, w_ret, startD, h0', h0] at this ⊢
      rw [h0] at q
      simpa using q
    · have h0' : (b : Int) = 0 := by omega
      by_cases h1 : a = 0
      · subst h1; subst h0
        simp [ir_law_shared_1, ir_law_shared_2, w_ite, w_ret, startD]
        simpa using q
      · subst h0
        simp [ir_law_shared_1, ir_law_shared_2, w_ite, w_ret, startD, h1]
        simpa using q
  · have ha0 : ¬ a = 0 := fun h => h0 (.inl h)
    have hb0 : ¬ b = 0 := fun h => h0 (.inr h)
    have key : wpS G ir_law_shared_4 (bodyE Q) [some (.int a), some (.int b), some (.int 1)] M := by
      have second : ∀ x y t : Nat, 0 < x → 0 < y → ¬ (x % 2 = 0 ∧ y % 2 = 0) → t < 2 ^ B → x < 2 ^ B → Nat.gcd x y * t = Nat.gcd a b →
          wpS G ir_law_shared_6 (bodyE Q) [some (.int x), some (.int y), some (.int t)] M := by
        intro x y t hx hy ho ht hxB hg
        unfold ir_law_shared_6
        refine w_whl (fun m ρ M1 => M1 = M ∧ ∃ u v : Nat, ρ = [some (.int u), some (.int v), some (.int t)] ∧ 0 < u ∧ 0 < v ∧ u ≤ x ∧ ¬ (u % 2 = 0 ∧ v % 2 = 0) ∧ Nat.gcd u v = Nat.gcd x y ∧ m = u + v) (m := x + y) ⟨rfl, x, y, rfl, hx, hy, Nat.le_refl _, ho, rfl, rfl⟩ ?_
        rintro m ρ M1 ⟨rfl, u, v, rfl, hu, hv, hux, huv, hgg, rfl⟩
        by_cases huv0 : u = v
        · subst huv0
          simp [ir_law_shared_15, w_ret]
          have e1 := hl u (by omega)
          have e2 := hl t ht
          refine ⟨by omega, ?_⟩
          rw [Nat.gcd_self] at hgg
          have : (u : Int) * (t : Int) = ((Nat.gcd a b : Nat) : Int) := by rw [← hg, ← hgg]; simp
          rw [this]; exact q
        · have huv1 : ¬ (u : Int) = (v : Int) := by omega
          have f2 : ∀ z : Nat, (z : Int).fmod 2 = ((z % 2 : Nat) : Int) := fun z => nat_fmod z 2
          have d2 : ∀ z : Nat, (z : Int).fdiv 2 = ((z / 2 : Nat) : Int) := fun z => nat_fdiv z 2
          by_cases hu2 : u % 2 = 0
          · have hc : (u : Int).fmod 2 = 0 := by rw [f2]; omega
            simp [huv0, huv1, ir_law_shared_7, ir_law_shared_8, w_ite, w_av, w_skip, hc, l2, d2]
            exact ⟨u / 2 + v, by omega, u / 2, v, ⟨by simp, rfl⟩, by omega, hv, by omega, by omega, by rw [← hgg]; exact gcd_half hu2 (by omega), rfl⟩
          · have hc : ¬ (u : Int).fmod 2 = 0 := by rw [f2]; omega
            by_cases hv2 : v % 2 = 0
            · have hd : (v : Int).fmod 2 = 0 := by rw [f2]; omega
              simp [huv0, huv1, ir_law_shared_7, ir_law_shared_9, ir_law_shared_10, w_ite, w_av, w_skip, hc, hd, l2, d2]
              exact ⟨u + v / 2, by omega, u, v / 2, ⟨rfl, by simp⟩, hu, by omega, hux, by omega, by rw [← hgg]; exact gcd_half_r (by omega) hv2, rfl⟩
            · have hd : ¬ (v : Int).fmod 2 = 0 := by rw [f2]; omega
              by_cases hlt : v < u
              · have hs : ((u : Int) - (v : Int)).fdiv 2 = (((u - v) / 2 : Nat) : Int) := by rw [← d2]; congr 1; omega
                simp [huv0, huv1, ir_law_shared_7, ir_law_shared_9, ir_law_shared_11, ir_law_shared_12, w_ite, w_av, w_skip, hc, hd, l2, hs, hlt]
                exact ⟨(u - v) / 2 + v, by omega, (u - v) / 2, v, ⟨by simp, rfl⟩, by omega, hv, by omega, by omega, by rw [← hgg]; exact gcd_half_sub (by omega) (by omega) hlt, rfl⟩
              · have hs : ((v : Int) - (u : Int)).fdiv 2 = (((v - u) / 2 : Nat) : Int) := by rw [← d2]; congr 1; omega
                simp [huv0, huv1, ir_law_shared_7, ir_law_shared_9, ir_law_shared_11, ir_law_shared_14, w_ite, w_av, w_skip, hc, hd, l2, hs, hlt]
                exact ⟨u + (v - u) / 2, by omega, u, (v - u) / 2, ⟨rfl, by simp⟩, hu, by omega, hux, by omega, by rw [← hgg, Nat.gcd_comm, gcd_half_sub (by omega) (by omega) (by omega), Nat.gcd_comm], rfl⟩
      unfold ir_law_shared_4
      refine w_whl (fun m ρ M1 => M1 = M ∧ ∃ u v t : Nat, ρ = [some (.int u), some (.int v), some (.int t)] ∧ 0 < u ∧ 0 < v ∧ u * t = a ∧ v * t = b ∧ m = u) (m := a) ⟨rfl, a, b, 1, rfl, by omega, by omega, by simp, by simp, rfl⟩ ?_
      rintro m ρ M1 ⟨rfl, u, v, t, rfl, hu, hv, hua, hvb, rfl⟩
      have f2 : ∀ z : Nat, (z : Int).fmod 2 = ((z % 2 : Nat) : Int) := fun z => nat_fmod z 2
      have d2 : ∀ z : Nat, (z : Int).fdiv 2 = ((z / 2 : Nat) : Int) := fun z => nat_fdiv z 2
      have ht : t ≤ a := by rw [← hua]; exact Nat.le_mul_of_pos_left t hu
      have hma : m ≤ a := by
        rw [← hua]
        refine Nat.le_mul_of_pos_right m (Nat.pos_of_ne_zero fun e => ?_)
        subst e; simp at hua; omega
      by_cases hb2 : m % 2 = 0 ∧ v % 2 = 0
      · have hc : (m : Int).fmod 2 = 0 := by rw [f2]; omega
        have hd : (v : Int).fmod 2 = 0 := by rw [f2]; omega
        have ltt := hl t (by omega)
        have e2 : (2 : Int) * (t : Int) = ((2 * t : Nat) : Int) := by simp
        simp [ir_law_shared_5, w_par, w_skip, hc, hd, l2, d2]
        refine ⟨by omega, m / 2, by omega, m / 2, v / 2, 2 * t, ⟨by simp, by simp, by simp⟩, by omega, by omega, ?_, ?_, rfl⟩
        · rw [← hua]; obtain ⟨k, rfl⟩ : ∃ k, m = 2 * k := ⟨m / 2, by omega⟩
          rw [show 2 * k / 2 = k by omega, ← Nat.mul_assoc, Nat.mul_comm k 2]
        · rw [← hvb]; obtain ⟨k, rfl⟩ : ∃ k, v = 2 * k := ⟨v / 2, by omega⟩
          rw [show 2 * k / 2 = k by omega, ← Nat.mul_assoc, Nat.mul_comm k 2]
      · have hfin := second m v t hu hv hb2 (by omega) (by omega) (by rw [← hua, ← hvb, Nat.gcd_mul_right])
        by_cases hm2 : m % 2 = 0
        · have hc : (m : Int).fmod 2 = 0 := by rw [f2]; omega
          have hd : ¬ (v : Int).fmod 2 = 0 := by rw [f2]; omega
          simp [hc, hd]
          exact hfin
        · have hc : ¬ (m : Int).fmod 2 = 0 := by rw [f2]; omega
          simp [hc]
          exact hfin
    simp [ir_law_shared_1, ir_law_shared_3, w_ite, w_skip, w_av, startD, ha0, hb0]
    exact key
end DL

set_option Elab.async false
set_option linter.all false
set_option maxRecDepth 100000
set_option maxHeartbeats 4000000
namespace DL
open PySem L2
theorem sz {k : Nat} (h : k ≤ 16777216) : k ≤ sizeLine := by
  have : sizeLine = 16777216 := by decide
  omega
theorem sz_eq : sizeLine = 16777216 := by decide
theorem Feed.ln {n a : Nat} {M : Mem} (f : Feed n a M) : n < M.length := by
  obtain ⟨m, ns, at_, rest, h1, _⟩ := f.ex
  exact lt_of_get h1
theorem Feed.app {n a : Nat} {M : Mem} (f : Feed n a M) (x : List D) : Feed n a (M ++ [x]) := by
  obtain ⟨m, ns, at_, rest, h1, h2, h⟩ := f.ex
  exact ⟨m, ns, at_, rest, ga_lt h1, ga_lt h2, h⟩
theorem Feed.set {n a k : Nat} {M : Mem} (f : Feed n a M) (h : n < k) (x : List D) : Feed n a (M.set k x) := by
  obtain ⟨m, ns, at_, rest, h1, h2, h3, h⟩ := f.ex
  exact ⟨m, ns, at_, rest, by rw [gs_ne (by omega)]; exact h1, by rw [gs_ne (by omega)]; exact h2, h3, h⟩
theorem Fx.refl {n a : Nat} {M : Mem} (f : Feed n a M) : Fx n a M M := ⟨Nat.le_refl _, fun _ _ _ => rfl, f⟩
theorem Fx.app {n a : Nat} {M M1 : Mem} (f : Fx n a M M1) (x : List D) : Fx n a M (M1 ++ [x]) :=
  ⟨by have := f.len; simp; omega, fun k hk hn => by rw [ga_ltL (Nat.lt_of_lt_of_le hk f.len)]; exact f.same k hk hn, f.feed.app x⟩
theorem Fx.mono {n a b : Nat} {M M1 : Mem} (f : Fx n a M M1) (h : a ≤ b) : Fx n b M M1 := ⟨f.len, f.same, f.feed.mono h⟩
theorem Fx.get {n a k : Nat} {M M1 : Mem} {x : List D} (f : Fx n a M M1) (h : M[k]? = some x) (hn : k ≠ n) : M1[k]? = some x := by
  rw [f.same k (lt_of_get h) hn, h]
/-- a cell made behind the feed -/
theorem Fx.top {n a b : Nat} {M M1 : Mem} {x : List D} (F : Feed n a M) (f : Fx n b (M ++ [x]) M1) : M1[M.length]? = some x :=
  f.get ga_len (by have := F.ln; omega)
theorem Fx.tail {n a : Nat} {M M1 : Mem} {x : List D} (f : Fx n a (M ++ [x]) M1) : Fx n a M M1 :=
  ⟨by have := f.len; simp at this; omega, fun k hk hn => by rw [f.same k (by simp; omega) hn, ga_ltL hk], f.feed⟩
theorem Fx.ln {n a : Nat} {M M1 : Mem} (f : Fx n a M M1) : n < M1.length := f.feed.ln
def S_feed : DSpec := fun ds M Q => ∃ ns : List Int, ds = [.scr ns] ∧ ns.length ≤ 63 ∧ ∀ n M', M.length ≤ n → (∀ k, k < M.length → M'[k]? = M[k]?) → Feed n 0 M' → Q (.lst n) M'
theorem law_feed_ok (G : Gam) : ∀ ds M Q, S_feed ds M Q → wpS G ir_law_feed (bodyE Q) (startD (1 - ds.length) ds) M := by
  rintro ds M Q ⟨ns, rfl, hl, q⟩
  simp [ir_law_feed_1, startD, w_ret, sz_eq]
  have e : cutD (ns.map D.int) none (some 63) = ((ns.drop (HT.sIx (ns.map D.int).length 0 none)).take (HT.sIx (ns.map D.int).length (ns.map D.int).length (some 63) - HT.sIx (ns.map D.int).length 0 none)).map D.int := by
    unfold cutD
    rw [List.map_take, List.map_drop]
  have := q (M.length + 1) (M ++ [cutD (ns.map D.int) none (some 63)] ++ [[.lst M.length, .int 0, .int 0]]) (by omega)
    (fun k hk => by rw [ga_ltL (by simp; omega), ga_ltL hk])
    ⟨M.length, _, 0, 0, by simp, by rw [ga_ltL (by simp), ga_len, e], by omega, by decide, by decide, by decide, by simp; omega⟩
  simpa using this

def S_number : DSpec := fun ds M Q => ∃ (n a most : Nat), ds = [.lst n, .int most] ∧ Feed n a M ∧ a < 2 ^ 50 ∧ most ≤ 600 ∧
  ∀ (r : Int) M', r.natAbs < 2 ^ (20 * (most / 6 + 1)) → Fx n (a + most + 4) M M' → Q (.int r) M'
theorem number_ok (G : Gam) (hd : G "_law_draw" = S_draw) : ∀ ds M Q, S_number ds M Q → wpS G ir_law_number (bodyE Q) (startD (6 - ds.length) ds) M := by
  rintro ds M Q ⟨n, a, most, rfl, F, ha, hm, q⟩
  simp [ir_law_number_1, w_av, hd, startD]
  refine ⟨n, a, 4, rfl, F, by omega, by decide, by decide, fun way M1 w0 w1 f1 => ?_⟩
  have key : ∀ (sg : Int) (M2 : Mem), sg.natAbs = 1 → Fx n (a + 2) M M2 → wpS G ir_law_number_3 (bodyE Q) [some (.lst n), some (.int most), some (.int way), some (.int sg), none, none] M2 := by
    intro sg M2 hsg f2
    have lsg : lg sg = 0 := by unfold lg; rw [hsg]; rfl
    have l6 : lg 1000000 ≤ 20 := by decide
    have p20 : (2 : Nat) ^ 20 ≤ 2 ^ (20 * (most / 6 + 1)) := Nat.pow_le_pow_right (by omega) (by omega)
    by_cases hw : way = 0
    · simp [ir_law_number_3, ir_law_number_4, w_ite, w_ret, hd, hw]
      refine ⟨n, a + 2, 12, rfl, f2.feed, by omega, by decide, by decide, fun r M3 r0 r1 f3 => ?_⟩
      have : lg r ≤ 4 := lg_of (by omega)
      refine ⟨by omega, q _ _ ?_ ((f2.trans f3).mono (by omega))⟩
      rw [Int.natAbs_mul, hsg]
      omega
    · simp [ir_law_number_3, ir_law_number_5, w_ite, w_skip, w_av, hw]
      have loop : ∀ (c : Nat) (M3 : Mem), c ≤ most / 6 + 1 → Fx n (a + 2) M M3 →
          ∃ Pv : Nat → En → Mem → Prop, Pv 0 [some (.lst n), some (.int most), some (.int way), some (.int sg), some (.int 0), none] M3 ∧
            (∀ i x ρ M, (rngD 0 c)[i]? = some x → Pv i ρ M → wpS G ir_law_number_7 { nx := Pv (i + 1), rt := Q, bk := fun ρ1 M2 => wpS G ir_law_number_8 (bodyE Q) ρ1 M2, ct := Pv (i + 1) } (setV ρ 5 x) M) ∧
            ∀ ρ M, Pv (rngD 0 c).length ρ M → wpS G ir_law_number_8 (bodyE Q) ρ M := by
        intro c M3 hc f3
        refine ⟨fun i ρ M4 => (∃ (f : Int) (k : Option D), ρ = [some (.lst n), some (.int most), some (.int way), some (.int sg), some (.int f), k] ∧ f.natAbs < 2 ^ (20 * i) ∧ i ≤ c) ∧ Fx n (a + 2 + i) M M4, ⟨⟨0, none, rfl, by decide, by omega⟩, f3⟩, ?_, ?_⟩
        · rintro i x ρ M4 hx ⟨⟨f, k, rfl, hf, hi⟩, f4⟩
          have hic : i < c := by
            have := (List.getElem?_eq_some_iff.mp hx).1
            rwa [rngD_len] at this
          simp [ir_law_number_7, w_av, w_skip, hd]
          have e1 : lg f ≤ 20 * i := lg_of hf
          refine ⟨by omega, n, a + 2 + i, 1000000, rfl, f4.feed, by omega, by decide, by decide, fun r M5 r0 r1 f5 => ?_⟩
          refine ⟨⟨f * 1000000 + r, rfl, ?_, hic⟩, f4.trans f5⟩
          have : 2 ^ (20 * (i + 1)) = 2 ^ (20 * i) * 2 ^ 20 := by rw [← Nat.pow_add]; congr 1
          rw [this]
          have : (f * 1000000 + r).natAbs ≤ f.natAbs * 1000000 + r.natAbs := by
            refine Nat.le_trans (Int.natAbs_add_le _ _) ?_
            rw [Int.natAbs_mul]; exact Nat.le_refl _
          omega
        · rintro ρ M4 ⟨⟨f, k, rfl, hf, hi⟩, f4⟩
          rw [rngD_len] at hf f4
          simp [ir_law_number_8, w_ret]
          have e1 : lg f ≤ 20 * c := lg_of hf
          refine ⟨by omega, q _ _ ?_ (f4.mono (by omega))⟩
          rw [Int.natAbs_mul, hsg, Nat.one_mul]
          exact Nat.lt_of_lt_of_le hf (Nat.pow_le_pow_right (by omega) (by omega))
      refine w_for ?_
      have d12 : ((most : Int).fdiv 12) = ((most / 12 : Nat) : Int) := nat_fdiv most 12
      have d6 : ((most : Int).fdiv 6) = ((most / 6 : Nat) : Int) := nat_fdiv most 6
      have l12 : lg 12 = 3 := by decide
      have l6 : lg 6 = 2 := by decide
      simp [d12, d6, l12, l6, sz_eq]
      rcases (by omega : way = 1 ∨ way = 2 ∨ way = 3) with rfl | rfl | rfl
      · simp
        exact loop 1 _ (by omega) (f2.app _)
      · simp
        have hc : (if 1 < (most : Int) / 12 then (most : Int) / 12 else 1) ≤ most / 6 + 1 ∧ 1 ≤ (if 1 < (most : Int) / 12 then (most : Int) / 12 else 1) := by split <;> omega
        generalize (if 1 < (most : Int) / 12 then (most : Int) / 12 else 1) = c at hc ⊢
        exact ⟨by omega, loop c.toNat _ (by omega) (f2.app _)⟩
      · simp
        exact ⟨by omega, loop (most / 6 : Int).toNat _ (by omega) (f2.app _)⟩
  simp [ir_law_number_2, w_av, hd, sz_eq]
  refine ⟨n, a + 1, 2, rfl, f1.feed.app _, by omega, by decide, by decide, fun r M2 r0 r1 f2 => ?_⟩
  have g := Fx.top f1.feed f2
  have f3 : Fx n (a + 2) M M2 := f1.trans f2.tail
  simp [g]
  rcases (by omega : r = 0 ∨ r = 1) with rfl | rfl
  · simp
    exact key 1 M2 (by decide) f3
  · simp
    exact key (-1) M2 (by decide) f3
end DL

set_option Elab.async false
set_option linter.all false
set_option maxRecDepth 100000
set_option maxHeartbeats 4000000
namespace DL
open PySem L2
mutual
/-- a thing: whole numbers short of 2^b, depth at most t, bulk at most w, its lists lie at n or behind -/
inductive Nz (n : Nat) (M : Mem) (b : Nat) : Nat → Nat → D → Prop
  | non {t w : Nat} : Nz n M b t w .non
  | bl {t w : Nat} (v : Bool) : Nz n M b t w (.bl v)
  | int {t w : Nat} {i : Int} : i.natAbs < 2 ^ b → Nz n M b t w (.int i)
  | str {t w : Nat} {s : Str} : s.length ≤ w → PyData.strOk s = true → Nz n M b t w (.str s)
  | tup {t w : Nat} {xs : List D} : NzL n M b t w xs → Nz n M b (t + 1) w (.tup xs)
  | lst {t w k : Nat} {xs : List D} : n ≤ k → M[k]? = some xs → NzL n M b t w xs → Nz n M b (t + 1) w (.lst k)
inductive NzL (n : Nat) (M : Mem) (b : Nat) : Nat → Nat → List D → Prop
  | nil {t w : Nat} : NzL n M b t w []
  | cons {t w w1 w2 : Nat} {x : D} {xs : List D} : Nz n M b t w1 x → NzL n M b t w2 xs → w1 + 1 + w2 ≤ w → NzL n M b t w (x :: xs)
end
section
variable {n b : Nat} {M M' : Mem}
mutual
theorem Nz.mono {b' : Nat} (hb : b ≤ b') : ∀ {t t' w w' : Nat} {d : D}, t ≤ t' → w ≤ w' → Nz n M b t w d → Nz n M b' t' w' d
  | _, _, _, _, _, _, _, .non => .non
  | _, _, _, _, _, _, _, .bl v => .bl v
  | _, _, _, _, _, _, _, .int h => .int (Nat.lt_of_lt_of_le h (Nat.pow_le_pow_right (by omega) hb))
  | _, _, _, _, _, _, hw, .str h s => .str (Nat.le_trans h hw) s
  | _, 0, _, _, _, ht, _, .tup _ => by omega
  | _, t' + 1, _, _, _, ht, hw, .tup l => .tup (NzL.mono hb (Nat.le_of_succ_le_succ ht) hw l)
  | _, 0, _, _, _, ht, _, .lst _ _ _ => by omega
  | _, t' + 1, _, _, _, ht, hw, .lst h1 h2 l => .lst h1 h2 (NzL.mono hb (Nat.le_of_succ_le_succ ht) hw l)
theorem NzL.mono {b' : Nat} (hb : b ≤ b') : ∀ {t t' w w' : Nat} {d : List D}, t ≤ t' → w ≤ w' → NzL n M b t w d → NzL n M b' t' w' d
  | _, _, _, _, _, _, _, .nil => .nil
  | _, _, _, _, _, ht, hw, .cons h l e => .cons (Nz.mono hb ht (Nat.le_refl _) h) (NzL.mono hb ht (Nat.le_refl _) l) (Nat.le_trans e hw)
end
mutual
theorem Nz.keep (hm : ∀ k xs, M[k]? = some xs → n ≤ k → M'[k]? = some xs) : ∀ {t w : Nat} {d : D}, Nz n M b t w d → Nz n M' b t w d
  | _, _, _, .non => .non
  | _, _, _, .bl v => .bl v
  | _, _, _, .int h => .int h
  | _, _, _, .str h s => .str h s
  | _, _, _, .tup l => .tup (NzL.keep hm l)
  | _, _, _, .lst h1 h2 l => .lst h1 (hm _ _ h2 h1) (NzL.keep hm l)
theorem NzL.keep (hm : ∀ k xs, M[k]? = some xs → n ≤ k → M'[k]? = some xs) : ∀ {t w : Nat} {d : List D}, NzL n M b t w d → NzL n M' b t w d
  | _, _, _, .nil => .nil
  | _, _, _, .cons h l e => .cons (Nz.keep hm h) (NzL.keep hm l) e
end
theorem Nz.fx {m a t w : Nat} {d : D} (h : Nz n M b t w d) (f : Fx m a M M') (hm : m < n) : Nz n M' b t w d := h.keep fun _ _ e hn => f.get e (by omega)
theorem NzL.fx {m a t w : Nat} {d : List D} (h : NzL n M b t w d) (f : Fx m a M M') (hm : m < n) : NzL n M' b t w d := h.keep fun _ _ e hn => f.get e (by omega)
theorem NzL.set {m t w : Nat} {d x : List D} (h : NzL n M b t w d) (hm : m < n) : NzL n (M.set m x) b t w d := h.keep fun _ _ e hn => by rw [gs_ne (by omega)]; exact e
theorem Nz.app {t w : Nat} {d : D} (h : Nz n M b t w d) (x : List D) : Nz n (M ++ [x]) b t w d := h.keep fun _ _ e _ => ga_lt e
theorem NzL.app {t w : Nat} {d : List D} (h : NzL n M b t w d) (x : List D) : NzL n (M ++ [x]) b t w d := h.keep fun _ _ e _ => ga_lt e
theorem NzL.length {t : Nat} : ∀ {w : Nat} {xs : List D}, NzL n M b t w xs → xs.length ≤ w
  | _, _, .nil => Nat.zero_le _
  | _, _, .cons h l e => by have := NzL.length l; simp only [List.length_cons]; omega
theorem NzL.append {t : Nat} : ∀ {w w' v : Nat} {xs ys : List D}, NzL n M b t w xs → NzL n M b t w' ys → w + w' ≤ v → NzL n M b t v (xs ++ ys)
  | _, _, _, _, _, .nil, l, e => l.mono (Nat.le_refl _) (Nat.le_refl _) (by omega)
  | w, w', v, _, _, .cons (w1 := w1) (w2 := w2) h l e, l', e' => .cons (w2 := w2 + w') h (NzL.append l l' (Nat.le_refl _)) (by omega)
/-- a place: what lies ahead, what is there, what lies behind -/
theorem NzL.split {t : Nat} : ∀ {w : Nat} {xs : List D} {i : Nat} {x : D}, NzL n M b t w xs → xs[i]? = some x →
    ∃ wa wx wd, NzL n M b t wa (xs.take i) ∧ Nz n M b t wx x ∧ NzL n M b t wd (xs.drop (i + 1)) ∧ wa + 1 + wx + wd ≤ w
  | _, _, i, _, .nil, e => by simp at e
  | w, _, 0, x, .cons (w1 := w1) (w2 := w2) h l e, e' => by
    simp at e'; subst e'
    exact ⟨0, w1, w2, .nil, h, l, by omega⟩
  | w, _, i + 1, x, .cons (w1 := w1) (w2 := w2) h l e, e' => by
    obtain ⟨wa, wx, wd, h1, h2, h3, h4⟩ := NzL.split (i := i) l (by simpa using e')
    exact ⟨w1 + 1 + wa, wx, wd, .cons h h1 (Nat.le_refl _), h2, h3, by omega⟩
theorem NzL.drop {t : Nat} : ∀ {w : Nat} {xs : List D} (i : Nat), NzL n M b t w xs → NzL n M b t w (xs.drop i)
  | _, _, 0, l => l
  | _, _, _ + 1, .nil => .nil
  | _, _, i + 1, .cons h l e => (NzL.drop i l).mono (Nat.le_refl _) (Nat.le_refl _) (by omega)
theorem NzL.take {t : Nat} : ∀ {w : Nat} {xs : List D} (i : Nat), NzL n M b t w xs → NzL n M b t w (xs.take i)
  | _, _, 0, l => .nil
  | _, _, _ + 1, .nil => .nil
  | _, _, i + 1, .cons h l e => .cons h (NzL.take i l) e
theorem NzL.cut {t w : Nat} {xs : List D} (l : NzL n M b t w xs) (lo hi : Option Int) : NzL n M b t w (cutD xs lo hi) := (l.drop _).take _
theorem NzL.one {t w v : Nat} {x : D} (h : Nz n M b t w x) (e : w + 1 ≤ v) : NzL n M b t v [x] := .cons h (.nil (w := 0)) (by omega)
theorem NzL.reverse {t : Nat} : ∀ {w : Nat} {xs : List D}, NzL n M b t w xs → NzL n M b t w xs.reverse
  | _, _, .nil => .nil
  | _, _, .cons (w1 := w1) (w2 := w2) h l e => by
    rw [List.reverse_cons]
    exact NzL.append (NzL.reverse l) (NzL.one h (Nat.le_refl _)) (by omega)
theorem NzL.get {t w : Nat} {xs : List D} {i : Nat} {x : D} (l : NzL n M b t w xs) (e : xs[i]? = some x) : Nz n M b t w x := by
  obtain ⟨wa, wx, wd, _, h, _, h4⟩ := l.split e
  exact h.mono (Nat.le_refl _) (Nat.le_refl _) (by omega)
theorem Nz.noS {t w : Nat} {d : D} (h : Nz n M b t w d) : NoS d := by cases h <;> trivial

/-- what a thing is as the kit's data -/
structure PF (b t w : Nat) (p : PyData) : Prop where
  sh : p.showable = true
  nd : p.hasDict = false
  dp : p.depth ≤ t
  cl : p.canLay0 = true
  bk : p.bulk ≤ w
  lv : ∀ B, b + 1 ≤ B → p.leavesShort B = true
structure PFL (b t w : Nat) (p : List PyData) : Prop where
  sh : PyData.showableAll p = true
  nd : PyData.hasDictAll p = false
  dp : PyData.depthAll p ≤ t
  cl : PyData.canLayAll0 p = true
  bk : PyData.bulkAll p ≤ w
  lv : ∀ B, b + 1 ≤ B → PyData.leavesShortAll B p = true
theorem len_txt {s : String} : (Str.ofString s).length = s.length := by
  exact ofString_length s
mutual
theorem Nz.pd (hb : 0 < b) (hb2 : b ≤ 1900) : ∀ {t w : Nat} {d : D}, Nz n M b t w d → ∃ p, PD M d p ∧ PF b t w p
  | _, _, _, .non => ⟨_, .non, rfl, rfl, Nat.zero_le _, rfl, Nat.zero_le _, fun _ _ => rfl⟩
  | _, _, _, .bl v => ⟨_, .bl v, rfl, rfl, Nat.zero_le _, rfl, Nat.zero_le _, fun _ _ => rfl⟩
  | _, _, _, .int (i := i) h => by
    have hl : i.natAbs.log2 < b := by
      by_cases h0 : i.natAbs = 0
      · rw [h0]; simpa using hb
      · exact (Nat.log2_lt h0).mpr h
    refine ⟨_, .int _, by simp [PyData.showable]; omega, rfl, Nat.zero_le _, rfl, Nat.zero_le _, fun B hB => ?_⟩
    have := int_text_length_le hb hl
    have e : (PyData.shown (.int i)).length = (toString i).length := len_txt
    simp only [PyData.leavesShort, decide_eq_true_eq]
    omega
  | _, _, _, .str (s := s) h hs => by
    refine ⟨_, .str _, rfl, rfl, Nat.zero_le _, hs, h, fun B hB => ?_⟩
    simp only [PyData.leavesShort, List.all_eq_true, decide_eq_true_eq]
    intro c hc
    unfold PyData.strOk at hs
    rw [Array.all_eq_true_iff_forall_mem] at hs
    have := hs c (by simpa using hc)
    simp at this
    omega
  | _, _, _, .tup l => by
    obtain ⟨ps, h1, h2⟩ := NzL.pd hb hb2 l
    exact ⟨_, .tup h1, by simpa only [PyData.showable] using h2.sh, by simpa only [PyData.hasDict] using h2.nd, by have := h2.dp; simp only [PyData.depth]; omega, by simpa only [PyData.canLay0] using h2.cl,
      by simpa only [PyData.bulk] using h2.bk, fun B hB => by simpa only [PyData.leavesShort] using h2.lv B hB⟩
  | _, _, _, .lst h1 h2 l => by
    obtain ⟨ps, h3, h4⟩ := NzL.pd hb hb2 l
    exact ⟨_, .lst h2 h3, by simpa only [PyData.showable] using h4.sh, by simpa only [PyData.hasDict] using h4.nd, by have := h4.dp; simp only [PyData.depth]; omega, by simpa only [PyData.canLay0] using h4.cl,
      by simpa only [PyData.bulk] using h4.bk, fun B hB => by simpa only [PyData.leavesShort] using h4.lv B hB⟩
theorem NzL.pd (hb : 0 < b) (hb2 : b ≤ 1900) : ∀ {t w : Nat} {d : List D}, NzL n M b t w d → ∃ p, PDL M d p ∧ PFL b t w p
  | _, _, _, .nil => ⟨_, .nil, rfl, rfl, Nat.zero_le _, rfl, Nat.zero_le _, fun _ _ => rfl⟩
  | _, _, _, .cons h l e => by
    obtain ⟨p, h1, h2⟩ := Nz.pd hb hb2 h
    obtain ⟨ps, h3, h4⟩ := NzL.pd hb hb2 l
    refine ⟨_, .cons h1 h3, by simp [PyData.showableAll, h2.sh, h4.sh], by simp [PyData.hasDictAll, h2.nd, h4.nd], ?_, by simp [PyData.canLayAll0, h2.cl, h4.cl], ?_, fun B hB => by simp [PyData.leavesShortAll, h2.lv B hB, h4.lv B hB]⟩
    · have := h2.dp; have := h4.dp; simp only [PyData.depthAll]; omega
    · have := h2.bk; have := h4.bk; simp only [PyData.bulkAll]; omega
end
theorem PF.shaped {t w : Nat} {p : PyData} (h : PF b t w p) (ht : t ≤ 64) : SeqAt.shaped p = true := by
  have := h.dp
  simp [SeqAt.shaped, h.cl]; omega
theorem PF.fit {t w : Nat} {p : PyData} (h : PF b t w p) (hb : 7 ≤ b) (hw : (b + 3) * w + b ≤ 16777215) : p.shown.length ≤ sizeLine := by
  have := PyData.shown_le_bulk (b + 1) (by omega) p (h.lv _ (Nat.le_refl _))
  have e : (b + 1 + 2) * p.bulk ≤ (b + 3) * w := Nat.mul_le_mul_left _ h.bk
  have := sz_eq
  omega
/-- what repr asks of a thing -/
theorem Nz.repr {t w : Nat} {d : D} (h : Nz n M b t w d) (hb : 7 ≤ b) (hb2 : b ≤ 1900) (ht : t ≤ 50) (hw : (b + 3) * w + b ≤ 16777215) :
    ∃ p, PD M d p ∧ p.showable = true ∧ p.hasDict = false ∧ p.depth ≤ 50 ∧ p.shown.length ≤ sizeLine := by
  obtain ⟨p, h1, h2⟩ := h.pd (by omega) hb2
  exact ⟨p, h1, h2.sh, h2.nd, Nat.le_trans h2.dp ht, h2.fit hb hw⟩
end
section
variable {M : Mem}
mutual
theorem PD.uniq : ∀ {d : D} {p q : PyData}, PD M d p → PD M d q → p = q
  | _, _, _, .non, .non => rfl
  | _, _, _, .bl _, .bl _ => rfl
  | _, _, _, .int _, .int _ => rfl
  | _, _, _, .str _, .str _ => rfl
  | _, _, _, .tup l, .tup l' => by rw [PDL.uniq l l']
  | _, _, _, .lst e l, .lst e' l' => by
    rw [e] at e'; cases e'
    rw [PDL.uniq l l']
theorem PDL.uniq : ∀ {d : List D} {p q : List PyData}, PDL M d p → PDL M d q → p = q
  | _, _, _, .nil, .nil => rfl
  | _, _, _, .cons h l, .cons h' l' => by rw [PD.uniq h h', PDL.uniq l l']
end
end
end DL

set_option Elab.async false
set_option linter.all false
set_option maxRecDepth 100000
set_option maxHeartbeats 4000000
namespace DL
open PySem L2
def ir_law_bent_14 : IS :=
  .seq (.ret (.ix (.lst (.cons (.int 0) (.cons (.int 1) (.cons (.bl true) (.cons (.str "") (.cons (.tup .nil) (.cons .non (.cons (.neg (.int 1)) (.cons (.tup (.cons (.int 0) (.cons (.int 1) .nil))) (.cons (.lst (.cons (.int 0) .nil)) .nil)))))))))) (.var 3))) .skip
def ir_law_bent_13 : IS :=
  .seq (.ret (.ix (.lst (.cons (.bin .Add (.var 1) (.int 1)) (.cons (.bin .Sub (.var 1) (.int 1)) (.cons (.bin .Sub (.int 0) (.var 1)) (.cons (.cmp .Eq (.var 1) (.int 1)) (.cons (.blt .str (.cons (.bin .Mod (.var 1) (.int 1000)) .nil)) (.cons (.tup (.cons (.var 1) .nil)) (.cons (.int 0) (.cons (.bin .Mult (.int 2) (.var 1)) (.cons .non .nil)))))))))) (.var 3))) .skip
def ir_law_bent_12 : IS :=
  .seq (.ite (.isi (.var 1) ["int"]) ir_law_bent_13 .skip) ir_law_bent_14
def ir_law_bent_11 : IS :=
  .seq (.ret (.ix (.lst (.cons (.str "") (.cons (.bin .Add (.var 1) (.str "s")) (.cons (.str "out") (.cons (.str "held") (.cons .non (.cons (.int 0) (.cons (.tup (.cons (.var 1) .nil)) (.cons (.lst (.cons (.var 1) .nil)) (.cons (.str "Held") .nil)))))))))) (.var 3))) .skip
def ir_law_bent_10 : IS :=
  .seq (.ite (.isi (.var 1) ["str"]) ir_law_bent_11 .skip) ir_law_bent_12
def ir_law_bent_9 : IS :=
  .seq (.ret (.ix (.var 4) (.var 3))) .skip
def ir_law_bent_8 : IS :=
  .seq (.asg (.v 4) (.bin .Add (.var 4) (.lst (.cons (.bin .Add (.sl (.var 1) (.cons (.int 1) .nil) .nil) (.sl (.var 1) .nil (.cons (.int 1) .nil))) (.cons (.tup (.cons (.var 1) .nil)) (.cons .non (.cons (.bin .Add (.var 1) (.tup (.cons (.int 1) .nil))) (.cons (.bin .Add (.bin .Add (.sl (.var 1) .nil (.cons (.var 2) .nil)) (.tup (.cons (.int 0) .nil))) (.sl (.var 1) (.cons (.var 2) .nil) .nil)) .nil)))))))) ir_law_bent_9
def ir_law_bent_7 : IS :=
  .seq (.asg (.v 4) (.lst (.cons (.bin .Add (.sl (.var 1) .nil (.cons (.var 2) .nil)) (.sl (.var 1) (.cons (.bin .Add (.var 2) (.int 1)) .nil) .nil)) (.cons (.bin .Add (.bin .Add (.sl (.var 1) .nil (.cons (.var 2) .nil)) (.sl (.var 1) (.cons (.var 2) .nil) (.cons (.bin .Add (.var 2) (.int 1)) .nil))) (.sl (.var 1) (.cons (.var 2) .nil) .nil)) (.cons (.rev (.var 1)) (.cons (.blt .list (.cons (.var 1) .nil)) .nil)))))) ir_law_bent_8
def ir_law_bent_6 : IS :=
  .seq (.asg (.v 2) (.call "_law_draw" (.cons (.var 0) (.cons (.bin .Add (.blt .len (.cons (.var 1) .nil)) (.int 1)) .nil)))) ir_law_bent_7
def ir_law_bent_5 : IS :=
  .seq (.ite (.isi (.var 1) ["tuple"]) ir_law_bent_6 .skip) ir_law_bent_10
def ir_law_bent_4 : IS :=
  .seq (.asg (.v 3) (.call "_law_draw" (.cons (.var 0) (.cons (.int 9) .nil)))) ir_law_bent_5
def ir_law_bent_3 : IS :=
  .seq (.ret (.bin .Add (.bin .Add (.sl (.var 1) .nil (.cons (.var 2) .nil)) (.tup (.cons (.call "_law_bent" (.cons (.var 0) (.cons (.ix (.var 1) (.var 2)) .nil))) .nil))) (.sl (.var 1) (.cons (.bin .Add (.var 2) (.int 1)) .nil) .nil))) .skip
def ir_law_bent_2 : IS :=
  .seq (.asg (.v 2) (.call "_law_draw" (.cons (.var 0) (.cons (.blt .len (.cons (.var 1) .nil)) .nil)))) ir_law_bent_3
def ir_law_bent_1 : IS :=
  .seq (.ite (.and (.isi (.var 1) ["tuple"]) (.and (.cmp .NotEq (.var 1) (.tup .nil)) (.one (.cmp .Gt (.call "_law_draw" (.cons (.var 0) (.cons (.int 5) .nil))) (.int 0))))) ir_law_bent_2 .skip) ir_law_bent_4
abbrev ir_law_bent : IS := ir_law_bent_1
-- slots ['_law_feed_here', '_law_thing', '_law_at', '_law_way', '_law_some']
/-- the wish of bent, for things less deep than T -/
def S_bent (T : Nat) : DSpec := fun ds M Q => ∃ (n m a b t w : Nat) (d : D), ds = [.lst n, d] ∧ t < T ∧ Feed n a M ∧ n < m ∧ m ≤ M.length ∧ a + 2 * t < 2 ^ 40 ∧ t ≤ 40 ∧ 8 ≤ b ∧ b ≤ 1800 ∧ w ≤ 100000 ∧ Nz m M b t w d ∧
  ∀ r M', Fx n (a + 2 * t + 3) M M' → Nz m M' (b + 1) (t + 1) (3 * w + 8) r → Q r M'
theorem nz_small {n b t w : Nat} {M : Mem} {i : Int} (hb : 8 ≤ b) (h : i.natAbs < 256) : Nz n M b t w (.int i) :=
  .int (Nat.lt_of_lt_of_le h (show 2 ^ 8 ≤ 2 ^ b from Nat.pow_le_pow_right (by omega) hb))
theorem nz_int1 {n b t w : Nat} {M : Mem} {i j : Int} (h : i.natAbs < 2 ^ b) (hj : j.natAbs ≤ 2 * i.natAbs + 1) : Nz n M (b + 1) t w (.int j) :=
  .int (by rw [Nat.pow_succ]; omega)
theorem strOk_app {s u : Str} (h : PyData.strOk s = true) (h' : PyData.strOk u = true) : PyData.strOk (s ++ u) = true := by
  unfold PyData.strOk at *
  have e : (s ++ u).cps = s.cps ++ u.cps := rfl
  rw [e, Array.all_append, h, h']; rfl
theorem pickD {P : D → Prop} {xs : List D} {k : Int} (h : ∀ x ∈ xs, P x) (h0 : 0 ≤ k) (hi : k < xs.length) : ∃ x, atD xs k = some x ∧ P x := by
  obtain ⟨v, h1, h2⟩ := atD_ex h0 hi
  exact ⟨v, h2, h _ (List.mem_of_getElem? h1)⟩
theorem cut_take {xs : List D} {i : Nat} (h : i ≤ xs.length) : cutD xs none (some (i : Int)) = xs.take i := by
  unfold cutD
  rw [HT.sIx_none, HT.sIx_nat]
  simp
theorem cut_drop {xs : List D} {i : Nat} (h : i ≤ xs.length) : cutD xs (some (i : Int)) none = xs.drop i := by
  unfold cutD
  rw [HT.sIx_none, HT.sIx_nat, Nat.min_eq_left h]
  exact List.take_of_length_le (by simp)
theorem ne_tup {xs ys : List D} {M : Mem} {Q : Kn} : cmpD .NotEq (.tup xs) (.tup ys) M Q = isOk M (.tup xs) (.tup ys) (fun b => Q (.bl (!b)) M) := rfl
theorem ne_nil {n b t w : Nat} {M : Mem} {xs : List D} {Q : Kn} (l : NzL n M b t w xs) (hb : 0 < b) (hb2 : b ≤ 1900) (ht : t < 64) (q : Q (.bl (!decide (xs = []))) M) : cmpD .NotEq (.tup xs) (.tup []) M Q := by
  rw [ne_tup]
  obtain ⟨p, h1, h2⟩ := (Nz.tup l).pd hb hb2
  obtain ⟨p2, h3, h4⟩ := (Nz.tup (NzL.nil (n := n) (b := b) (t := t) (w := w) (M := M))).pd hb hb2
  refine ⟨p, p2, h1, h3, h2.shaped (by omega), h4.shaped (by omega), ?_⟩
  cases h3 with | tup h3 =>
  cases h3
  cases h1 with | tup h1 =>
  cases h1 with
  | nil => simpa [PyData.eqv, PyData.eqvAll] using q
  | cons h h' => simpa [PyData.eqv, PyData.eqvAll] using q
theorem nz_txt {n b t w : Nat} {M : Mem} {s : Str} (h : s.length ≤ 8) (h2 : PyData.strOk s = true) (hw : 8 ≤ w) : Nz n M b t w (.str s) := .str (Nat.le_trans h hw) h2
theorem strOk_num (i : Int) : PyData.strOk (Str.ofString (toString i)) = true := by
  unfold PyData.strOk
  rw [Array.all_eq_true_iff_forall_mem]
  intro c hc
  have hc' : c ∈ (Str.ofString (toString i)).cps.toList := by simpa using hc
  by_cases h : c ≠ 45 ∧ (c < 48 ∨ 57 < c)
  · exact absurd hc' (PyProof.Rows.int_text_free' c h i)
  · simp; omega
theorem nz_num {n b t w : Nat} {M : Mem} {i : Int} (h : i.natAbs < 10 ^ 6) (hw : 8 ≤ w) : Nz n M b t w (.str (Str.ofString (toString i))) :=
  nz_txt (by have := int_text_length_le10 (k := 6) (by decide) h; rw [ofString_length]; omega) (strOk_num i) hw
theorem fmod_1000 (i : Int) : lg (i.fmod 1000) < 1920 ∧ (i.fmod 1000).natAbs < 10 ^ 6 := by
  have h1 := Int.fmod_nonneg_of_pos i (show (0 : Int) < 1000 by decide)
  have h2 := Int.fmod_lt_of_pos i (show (0 : Int) < 1000 by decide)
  have : lg (i.fmod 1000) ≤ 10 := lg_of (by omega)
  omega
theorem eq_bi {v : Bool} {i : Int} {M : Mem} {Q : Kn} (q : Q (.bl (b2 v == i)) M) : cmpD .Eq (.bl v) (.int i) M Q := by
  show isOk M (.bl v) (.int i) fun b => Q (.bl b) M
  refine ⟨_, _, .bl _, .int _, by cases v <;> decide, rfl, ?_⟩
  simpa [PyData.eqv, b2] using q
theorem app4 (M : Mem) (x y z u : List D) : M ++ [x, y, z, u] = M ++ [x] ++ [y] ++ [z] ++ [u] := by simp
theorem Feed.fx1 {n a : Nat} {M : Mem} (F : Feed n a M) : Fx n (a + 1) M M := (Fx.refl F).mono (Nat.le_succ a)
theorem bent_ok (G : Gam) (T : Nat) (hd : G "_law_draw" = S_draw) (hbt : G "_law_bent" = S_bent T) : ∀ ds M Q, S_bent (T + 1) ds M Q → wpS G ir_law_bent (bodyE Q) (startD (5 - ds.length) ds) M := by
  rintro ds M Q ⟨n, m, a, b, t, w, d, rfl, htT, F, hnm, hmM, ha, ht, hb8, hb18, hw, hz, q⟩
  have key4 : ∀ M1, Fx n (a + 1) M M1 → wpS G ir_law_bent_4 (bodyE Q) [some (.lst n), some d, none, none, none] M1 := by
    intro M1 f1
    simp [ir_law_bent_4, w_av, hd]
    refine ⟨n, a + 1, 9, rfl, f1.feed, by omega, by decide, by decide, fun way M2 w0 w1 f2 => ?_⟩
    have f2 := f1.trans f2
    have hz2 := hz.fx f2 hnm
    have hm2 : m ≤ M2.length := Nat.le_trans hmM f2.len
    have fin : ∀ (xs : List D) (M3 : Mem), Fx n (a + 3) M M3 → 9 ≤ xs.length → (∀ x ∈ xs, Nz m M3 (b + 1) (t + 1) (3 * w + 8) x) → onV (atD xs way) fun v => Q v M3 := by
      intro xs M3 f3 hl hx
      obtain ⟨v, h1, h2⟩ := pickD hx w0 (by omega)
      rw [h1]
      exact q _ _ (f3.mono (by omega)) h2
    have f2' : Fx n (a + 3) M M2 := f2.mono (by omega)
    have last : onV (atD [D.int 0, D.int 1, D.bl true, D.str (Str.ofString ""), D.tup [], D.non, D.int (-1), D.tup [D.int 0, D.int 1], D.lst (List.length M2)] way) fun v =>
        Q v (M2 ++ [[D.int 0], [D.int 0, D.int 1, D.bl true, D.str (Str.ofString ""), D.tup [], D.non, D.int (-1), D.tup [D.int 0, D.int 1], D.lst (List.length M2)]]) := by
      refine fin _ _ ?_ (by simp) ?_
      · rw [show ∀ (x y : List D), M2 ++ [x, y] = M2 ++ [x] ++ [y] by intros; simp]
        exact (f2'.app _).app _
      · simp only [List.forall_mem_cons]
        exact ⟨nz_small (by omega) (by decide), nz_small (by omega) (by decide), .bl _, nz_txt (by decide) (by decide +kernel) (by omega), .tup .nil, .non, nz_small (by omega) (by decide),
          .tup (.cons (w1 := 0) (w2 := 1) (nz_small (i := 0) (by omega) (by decide)) (NzL.one (w := 0) (nz_small (i := 1) (by omega) (by decide)) (by omega)) (by omega)),
          .lst hm2 (by simp) (NzL.one (w := 0) (nz_small (i := 0) (by omega) (by decide)) (by omega)), fun _ h => by simp at h⟩
    cases hz2 with
    | non =>
      simp [ir_law_bent_5, ir_law_bent_10, ir_law_bent_12, ir_law_bent_14, w_ite, w_skip, w_ret, isiD, tyD, isIn, sz_eq]
      exact last
    | bl v =>
      simp [ir_law_bent_5, ir_law_bent_10, ir_law_bent_12, ir_law_bent_13, w_ite, w_skip, w_ret, isiD, tyD, isIn, sz_eq]
      refine eq_bi ⟨(fmod_1000 _).1, fin _ _ (f2'.app _) (by simp) ?_⟩
      simp only [List.forall_mem_cons]
      have hv : b2 v = 0 ∨ b2 v = 1 := by cases v <;> simp [b2]
      exact ⟨nz_small (by omega) (by omega), nz_small (by omega) (by omega), nz_small (by omega) (by omega), .bl _, nz_num (fmod_1000 _).2 (by omega), .tup (NzL.one (w := 0) (.bl _) (by omega)),
        nz_small (by omega) (by decide), nz_small (by omega) (by omega), .non, fun _ h => by simp at h⟩
    | int h =>
      simp [ir_law_bent_5, ir_law_bent_10, ir_law_bent_12, ir_law_bent_13, w_ite, w_skip, w_ret, isiD, tyD, isIn, sz_eq]
      rename_i i
      have l2 : lg 2 = 1 := by decide
      have li := lg_of h
      refine ⟨(fmod_1000 _).1, by omega, fin _ _ (f2'.app _) (by simp) ?_⟩
      simp only [List.forall_mem_cons]
      exact ⟨nz_int1 h (by omega), nz_int1 h (by omega), nz_int1 h (by omega), .bl _, nz_num (fmod_1000 _).2 (by omega), .tup (NzL.one (w := 0) (nz_int1 h (by omega)) (by omega)),
        nz_small (by omega) (by decide), nz_int1 h (by omega), .non, fun _ h => by simp at h⟩
    | str h hs =>
      simp [ir_law_bent_5, ir_law_bent_10, ir_law_bent_11, ir_law_bent_13, w_ite, w_skip, w_ret, isiD, tyD, isIn, sz_eq]
      rename_i s
      have l1 : (Str.ofString "s").length = 1 := by decide
      refine ⟨by omega, fin _ _ ?_ (by simp) ?_⟩
      · rw [show ∀ (x y : List D), M2 ++ [x, y] = M2 ++ [x] ++ [y] by intros; simp]
        exact (f2'.app _).app _
      · simp only [List.forall_mem_cons]
        have e : (s ++ Str.ofString "s").length = s.length + 1 := by rw [strLen_append]; rfl
        exact ⟨nz_txt (by decide) (by decide +kernel) (by omega), .str (by omega) (strOk_app hs (by decide +kernel)), nz_txt (by decide) (by decide +kernel) (by omega), nz_txt (by decide) (by decide +kernel) (by omega), .non,
          nz_small (by omega) (by decide), .tup (NzL.one (w := w) (.str h hs) (by omega)), .lst hm2 (by simp) (NzL.one (w := w) (.str h hs) (by omega)),
          nz_txt (by decide) (by decide +kernel) (by omega), fun _ h => by simp at h⟩
    | tup l =>
      simp [ir_law_bent_5, ir_law_bent_6, w_av, w_ite, w_skip, w_ret, isiD, tyD, isIn, sz_eq, hd]
      rename_i t xs
      have hxl := l.length
      refine ⟨n, a + 2, (xs.length + 1 : Int), rfl, f2.feed, by omega, by omega, by omega, fun at_ M3 r0 r1 f3 => ?_⟩
      obtain ⟨j, rfl⟩ : ∃ j : Nat, at_ = (j : Int) := ⟨at_.toNat, by omega⟩
      have l3 := l.fx f3 hnm
      have f3 := f2.trans f3
      simp [ir_law_bent_7, ir_law_bent_8, ir_law_bent_9, w_av, w_ret, sz_eq]
      have L : ∀ lo hi, (cutD xs lo hi).length ≤ 100000 := fun lo hi => Nat.le_trans (l3.cut lo hi).length hw
      have a1 := L none (some (j : Int))
      have a2 := L (some ((j : Int) + 1)) none
      have a3 := L (some (j : Int)) (some ((j : Int) + 1))
      have a4 := L (some (j : Int)) none
      have a5 := L (some 1) none
      have a6 := L none (some 1)
      refine ⟨by omega, by omega, by omega, by omega, by omega, by omega, by omega, ?_⟩
      generalize hMM : M3 ++ [xs, _, _, _] = MM
      have hMM' : ∃ x y z, MM = M3 ++ [xs] ++ [x] ++ [y] ++ [z] := ⟨_, _, _, hMM.symm.trans (app4 _ _ _ _ _)⟩
      obtain ⟨x, y, z, e⟩ := hMM'
      have fM : Fx n (a + 3) M MM := by rw [e]; exact (((f3.app _).app _).app _).app _
      have lM : NzL m MM b t w xs := by rw [e]; exact (((l3.app _).app _).app _).app _
      have gM : MM[M3.length]? = some xs := by rw [e]; simp
      have up : ∀ (ys : List D) (w' : Nat), NzL m MM b t w' ys → w' ≤ 3 * w + 8 → Nz m MM (b + 1) (t + 1 + 1) (3 * w + 8) (.tup ys) :=
        fun ys w' l h => (Nz.tup l).mono (by omega) (by omega) h
      refine fin _ _ fM (by simp) ?_
      simp only [List.forall_mem_cons]
      exact ⟨up _ _ ((lM.cut _ _).append (lM.cut _ _) (Nat.le_refl _)) (by omega), up _ _ ((lM.cut _ _).append ((lM.cut _ _).append (lM.cut _ _) (Nat.le_refl _)) (Nat.le_refl _)) (by omega),
        up _ _ lM.reverse (by omega), (Nz.lst (Nat.le_trans hmM f3.len) gM lM).mono (by omega) (by omega) (by omega), up _ _ ((lM.cut _ _).append (lM.cut _ _) (Nat.le_refl _)) (by omega),
        Nz.mono (b := b) (by omega) (Nat.le_refl _) (Nat.le_refl _) (.tup (NzL.one (w := w) (.tup lM) (by omega))), .non,
        up _ _ (lM.append (NzL.one (w := 0) (nz_small (i := 1) (by omega) (by decide)) (Nat.le_refl _)) (Nat.le_refl _)) (by omega),
        up _ _ ((lM.cut _ _).append (.cons (w := 0 + 1 + w) (w1 := 0) (nz_small (i := 0) (by omega) (by decide)) (lM.cut _ _) (Nat.le_refl _)) (Nat.le_refl _)) (by omega), fun _ h => by simp at h⟩
    | lst h1 h2 l =>
      simp [ir_law_bent_5, ir_law_bent_10, ir_law_bent_12, ir_law_bent_14, w_ite, w_skip, w_ret, isiD, tyD, isIn, sz_eq]
      exact last
  cases hz with
  | tup l =>
    simp [ir_law_bent_1, w_ite, w_skip, startD, isiD, tyD, isIn]
    rename_i t xs
    refine ne_nil l (by omega) (by omega) (by omega) ?_
    simp
    split
    · exact key4 M F.fx1
    · rename_i hne
      simp [hd]
      have hpos : 0 < xs.length := List.length_pos_iff.mpr hne
      have hxl := l.length
      refine ⟨n, a, 5, rfl, F, by omega, by decide, by decide, fun c M1 c0 c1 f1 => ?_⟩
      simp
      split
      · simp [ir_law_bent_2, ir_law_bent_3, w_av, w_ret, hd, hbt, sz_eq]
        refine ⟨n, a + 1, xs.length, rfl, f1.feed, by omega, by omega, by omega, fun at_ M2 r0 r1 f2 => ?_⟩
        have f2 := f1.trans f2
        obtain ⟨j, rfl⟩ : ∃ j : Nat, at_ = (j : Int) := ⟨at_.toNat, by omega⟩
        have hj : j < xs.length := by omega
        have l2 := l.fx f2 hnm
        obtain ⟨wa, wx, wd, h1, h2, h3, h4⟩ := l2.split (i := j) (x := xs[j]) (by simp [hj])
        simp [atD_nat, hj]
        refine ⟨n, m, a + 2, b, t, wx, xs[j], rfl, by omega, f2.feed, hnm, Nat.le_trans hmM f2.len, by omega, by omega, hb8, hb18, by omega, h2, fun r M3 f3 hr => ?_⟩
        have e1 : cutD xs none (some (j : Int)) = xs.take j := cut_take (by omega)
        have e2 : cutD xs (some ((j : Int) + 1)) none = xs.drop (j + 1) := by
          have := cut_drop (xs := xs) (i := j + 1) (by omega)
          simpa using this
        simp [e1, e2]
        refine ⟨by omega, by omega, q _ _ ((f2.trans f3).mono (by omega)) (.tup ?_)⟩
        have h1' := (h1.fx f3 hnm).mono (b' := b + 1) (t' := t + 1) (w' := wa) (by omega) (by omega) (Nat.le_refl _)
        have h3' := (h3.fx f3 hnm).mono (b' := b + 1) (t' := t + 1) (w' := wd) (by omega) (by omega) (Nat.le_refl _)
        exact h1'.append (.cons hr h3' (Nat.le_refl _)) (by omega)
      · exact key4 M1 f1
  | _ =>
    simp [ir_law_bent_1, w_ite, w_skip, startD, isiD, tyD, isIn]
    exact key4 M F.fx1
end DL

set_option Elab.async false
set_option linter.all false
set_option maxRecDepth 100000
set_option maxHeartbeats 4000000
set_option exponentiation.threshold 3000
namespace DL
open PySem L2
theorem abs_nat (a : Int) : (if a < 0 then -a else a) = ((a.natAbs : Nat) : Int) := by split <;> omega
/-- a fraction in lowest terms -/
def frac : D → Bool
  | .tup [.int a, .int b] => decide (0 < b) && decide (Nat.gcd a.natAbs b.natAbs = 1)
  | _ => false
def S_isfrac : DSpec := fun ds M Q => ∃ (n b t w : Nat) (d : D), ds = [d] ∧ b ≤ 2000 ∧ Nz n M b t w d ∧ Q (.bl (frac d)) M
theorem frac_l {x y : D} (h : isI x = false) : frac (.tup [x, y]) = false := by cases x <;> first | rfl | cases h
theorem frac_r {x y : D} (h : isI y = false) : frac (.tup [x, y]) = false := by cases x <;> cases y <;> first | rfl | cases h
theorem isI_of {x : D} (h : isI x = true) : ∃ i, x = .int i := by cases x <;> first | exact ⟨_, rfl⟩ | cases h
theorem is_fraction_ok (G : Gam) (h1 : G "is_number" = S_isnum) (h2 : G "common_divisor" = S_gcd) : ∀ ds M Q, S_isfrac ds M Q → wpS G ir_is_fraction (bodyE Q) (startD (1 - ds.length) ds) M := by
  rintro ds M Q ⟨n, b, t, w, d, rfl, hb, hz, q⟩
  cases hz with
  | tup l =>
    simp [ir_is_fraction_1, w_ite, w_skip, startD, isiD, tyD, isIn, h1]
    cases l with
    | nil => simpa [ir_is_fraction_2, w_ret, frac] using q
    | @cons _ _ _ _ x _ hx l _ =>
      cases l with
      | nil => simpa [ir_is_fraction_2, w_ret, frac] using q
      | @cons _ _ _ _ y _ hy l _ =>
        cases l with
        | cons hz l _ =>
          simp [ir_is_fraction_2, w_ret]
          split
          · omega
          · simpa [frac] using q
        | nil =>
          simp [S_isnum, hx.noS, hy.noS]
          cases hxi : isI x with
          | false =>
            rw [frac_l hxi] at q
            simpa [ir_is_fraction_2, w_ret] using q
          | true =>
            cases hyi : isI y with
            | false =>
              rw [frac_r hyi] at q
              simpa [ir_is_fraction_2, w_ret] using q
            | true =>
              obtain ⟨i, rfl⟩ := isI_of hxi
              obtain ⟨j, rfl⟩ := isI_of hyi
              simp [ir_is_fraction_3, w_ret, h2, abs_nat]
              by_cases hj : 0 < j
              · obtain ⟨k, rfl⟩ : ∃ k : Nat, j = (k : Int) := ⟨j.toNat, by omega⟩
                have hk : 0 < k := by omega
                simp [hk]
                refine ⟨i.natAbs, k, rfl, ?_⟩
                have e : ((Nat.gcd i.natAbs k : Nat) : Int) = 1 ↔ Nat.gcd i.natAbs k = 1 := by omega
                simpa [frac, hk, e] using q
              · simp [hj]
                simpa [frac, hj] using q
  | _ =>
    simp [ir_is_fraction_1, ir_is_fraction_2, w_ite, w_skip, w_ret, startD, isiD, tyD, isIn]
    exact q
theorem law_is_due_ok (G : Gam) (h1 : G "_law_is_number" = S_isnum) (h2 : G "_law_shared" = S_shared 2000) : ∀ ds M Q, S_isfrac ds M Q → wpS G ir_law_is_due (bodyE Q) (startD (1 - ds.length) ds) M := by
  rintro ds M Q ⟨n, b, t, w, d, rfl, hb, hz, q⟩
  cases hz with
  | tup l =>
    simp [ir_law_is_due_1, w_ite, w_skip, startD, isiD, tyD, isIn]
    cases l with
    | nil => simpa [ir_law_is_due_2, w_ret, frac] using q
    | @cons _ _ _ _ x _ hx l _ =>
      cases l with
      | nil => simpa [ir_law_is_due_2, w_ret, frac] using q
      | @cons _ _ _ _ y _ hy l _ =>
        cases l with
        | cons hz l _ =>
          simp [ir_law_is_due_2, w_ret]
          split
          · omega
          · simpa [frac] using q
        | nil =>
          simp [ir_law_is_due_3, w_ite, w_skip, h1, S_isnum, hx.noS, hy.noS]
          cases hxi : isI x with
          | false =>
            rw [frac_l hxi] at q
            simpa [ir_law_is_due_4, w_ret] using q
          | true =>
            cases hyi : isI y with
            | false =>
              rw [frac_r hyi] at q
              simpa [ir_law_is_due_4, w_ret] using q
            | true =>
              obtain ⟨i, rfl⟩ := isI_of hxi
              obtain ⟨j, rfl⟩ := isI_of hyi
              by_cases hj : 0 < j
              · obtain ⟨k, rfl⟩ : ∃ k : Nat, j = (k : Int) := ⟨j.toNat, by omega⟩
                cases hx with | int hx =>
                cases hy with | int hy =>
                have hk : ¬ ((k : Int) < 1) := by omega
                simp [hk, ir_law_is_due_5, w_ret, h2, abs_nat]
                have hbb : 2 ^ b ≤ 2 ^ 2000 := Nat.pow_le_pow_right (by omega) hb
                refine ⟨i.natAbs, k, rfl, by omega, by omega, ?_⟩
                have hk0 : 0 < k := by omega
                have e : ((Nat.gcd i.natAbs k : Nat) : Int) = 1 ↔ Nat.gcd i.natAbs k = 1 := by omega
                simpa [frac, hk0, e] using q
              · have hk : j < 1 := by omega
                simp [hk, ir_law_is_due_4, w_ret]
                simpa [frac, hj] using q
  | _ =>
    simp [ir_law_is_due_1, ir_law_is_due_2, w_ite, w_skip, w_ret, startD, isiD, tyD, isIn]
    exact q
end DL

set_option Elab.async false
set_option linter.all false
set_option maxRecDepth 100000
set_option maxHeartbeats 4000000
namespace DL
open PySem L2
theorem fdiv_abs (a g : Int) (h : 0 < g) : (a.fdiv g).natAbs ≤ a.natAbs := by
  rw [Int.fdiv_eq_ediv_of_nonneg _ (by omega)]
  exact Int.natAbs_ediv_le_natAbs a g
theorem nz_list {n b t w : Nat} {M : Mem} {xs : List D} {v : Nat} (h : ∀ x ∈ xs, Nz n M b t w x) (e : xs.length * (w + 1) ≤ v) : NzL n M b t v xs := by
  induction xs generalizing v with
  | nil => exact .nil
  | cons x xs ih =>
    simp only [List.length_cons, Nat.add_mul, Nat.one_mul] at e
    exact .cons (h x List.mem_cons_self) (ih (v := xs.length * (w + 1)) (fun y hy => h y (List.mem_cons_of_mem _ hy)) (Nat.le_refl _)) (by omega)
theorem nz_pair {n b t w : Nat} {M : Mem} {x y : D} (hx : Nz n M b t 0 x) (hy : Nz n M b t 0 y) (hw : 2 ≤ w) : Nz n M b (t + 1) w (.tup [x, y]) :=
  .tup (.cons hx (NzL.one hy (Nat.le_refl _)) (by omega))
theorem app3 (M : Mem) (x y z : List D) : M ++ [x, y, z] = M ++ [x] ++ [y] ++ [z] := by simp
theorem repr_lst {n b t w k : Nat} {M : Mem} {xs : List D} (g : M[k]? = some xs) (l : NzL n M b t w xs) (hb : 7 ≤ b) (hb2 : b ≤ 1900) (ht : t + 1 ≤ 50) (hw : (b + 3) * w + b ≤ 16777215) :
    ∃ p, PD M (.lst k) p ∧ p.showable = true ∧ p.hasDict = false ∧ p.depth ≤ 50 ∧ p.shown.length ≤ sizeLine := by
  obtain ⟨ps, h3, h4⟩ := NzL.pd (by omega) hb2 l
  have h : PF b (t + 1) w (.list ps) := ⟨by simpa only [PyData.showable] using h4.sh, by simpa only [PyData.hasDict] using h4.nd, by have := h4.dp; simp only [PyData.depth]; omega, by simpa only [PyData.canLay0] using h4.cl,
      by simpa only [PyData.bulk] using h4.bk, fun B hB => by simpa only [PyData.leavesShort] using h4.lv B hB⟩
  exact ⟨_, .lst g h3, h.sh, h.nd, Nat.le_trans h.dp ht, h.fit hb hw⟩
theorem repr_bl {c : Bool} {M : Mem} {Q : Kn} (q : Q (.str (PyData.shown (.bool c))) M) : bfD .repr [.bl c] M Q :=
  ⟨_, .bl c, rfl, rfl, Nat.zero_le _, by cases c <;> decide, q⟩
end DL

set_option Elab.async false
set_option linter.all false
set_option maxRecDepth 100000
set_option maxHeartbeats 4000000
namespace DL
open PySem L2
theorem len_draw : ∀ ds M Q, S_draw ds M Q → ds.length = 2 := fun _ _ _ ⟨_, _, _, e, _⟩ => by rw [e]; rfl
theorem len_feed : ∀ ds M Q, S_feed ds M Q → ds.length = 1 := fun _ _ _ ⟨_, e, _⟩ => by rw [e]; rfl
theorem len_number : ∀ ds M Q, S_number ds M Q → ds.length = 2 := fun _ _ _ ⟨_, _, _, e, _⟩ => by rw [e]; rfl
theorem len_isnum : ∀ ds M Q, S_isnum ds M Q → ds.length = 1 := fun _ _ _ ⟨_, e, _⟩ => by rw [e]; rfl
theorem len_gcd : ∀ ds M Q, S_gcd ds M Q → ds.length = 2 := fun _ _ _ ⟨_, _, e, _⟩ => by rw [e]; rfl
theorem len_shared {B : Nat} : ∀ ds M Q, S_shared B ds M Q → ds.length = 2 := fun _ _ _ ⟨_, _, e, _⟩ => by rw [e]; rfl
theorem len_bent {T : Nat} : ∀ ds M Q, S_bent T ds M Q → ds.length = 2 := fun _ _ _ ⟨_, _, _, _, _, _, _, e, _⟩ => by rw [e]; rfl
theorem len_isfrac : ∀ ds M Q, S_isfrac ds M Q → ds.length = 1 := fun _ _ _ ⟨_, _, _, _, _, e, _⟩ => by rw [e]; rfl
theorem fa_nil {α : Type} {P : α → Prop} : ∀ x ∈ ([] : List α), P x := fun _ h => by cases h
theorem fa_cons {α : Type} {P : α → Prop} {a : α} {l : List α} (h : P a) (h' : ∀ x ∈ l, P x) : ∀ x ∈ a :: l, P x := List.forall_mem_cons.mpr ⟨h, h'⟩
end DL

set_option Elab.async false
set_option linter.all false
set_option maxRecDepth 100000
set_option maxHeartbeats 4000000
set_option exponentiation.threshold 3000
namespace DL
open PySem L2
/-- the memory has only grown -/
def Ex (M M' : Mem) : Prop := ∃ L, M' = M ++ L
theorem Ex.refl (M : Mem) : Ex M M := ⟨[], by simp⟩
theorem Ex.app {M M' : Mem} (h : Ex M M') (x : List D) : Ex M (M' ++ [x]) := by
  obtain ⟨L, rfl⟩ := h; exact ⟨L ++ [x], by simp⟩
theorem Ex.trans {M M' M2 : Mem} (h : Ex M M') (h' : Ex M' M2) : Ex M M2 := by
  obtain ⟨L, rfl⟩ := h; obtain ⟨L', rfl⟩ := h'; exact ⟨L ++ L', by simp⟩
theorem Ex.get {M M' : Mem} (h : Ex M M') {k : Nat} {x : List D} (g : M[k]? = some x) : M'[k]? = some x := by
  obtain ⟨L, rfl⟩ := h
  have := lt_of_get g
  rw [List.getElem?_append_left this, g]
theorem Ex.len {M M' : Mem} (h : Ex M M') : M.length ≤ M'.length := by obtain ⟨L, rfl⟩ := h; simp
theorem Ex.feed {M M' : Mem} (h : Ex M M') {n a : Nat} (f : Feed n a M) : Feed n a M' := by
  obtain ⟨m, ns, at_, rest, h1, h2, h3⟩ := f.ex
  exact ⟨m, ns, at_, rest, h.get h1, h.get h2, h3⟩
theorem Ex.fx {M M' : Mem} (h : Ex M M') {n a : Nat} (f : Feed n a M) : Fx n a M M' :=
  ⟨h.len, fun k hk _ => by obtain ⟨L, rfl⟩ := h; exact List.getElem?_append_left hk, h.feed f⟩
theorem Nz.ex {M M' : Mem} (h : Ex M M') {n b t w : Nat} {d : D} (z : Nz n M b t w d) : Nz n M' b t w d := z.keep fun _ _ e _ => h.get e
theorem NzL.ex {M M' : Mem} (h : Ex M M') {n b t w : Nat} {d : List D} (z : NzL n M b t w d) : NzL n M' b t w d := z.keep fun _ _ e _ => h.get e
@[simp] theorem gap1 {M L : Mem} {i : Nat} : (M ++ L)[M.length + i]? = L[i]? := by rw [List.getElem?_append_right (Nat.le_add_right _ _), Nat.add_sub_cancel_left]
@[simp] theorem gap2 {M L : Mem} {i j : Nat} : (M ++ L)[M.length + i + j]? = L[i + j]? := by rw [Nat.add_assoc, gap1]
@[simp] theorem gap3 {M L : Mem} {i j k : Nat} : (M ++ L)[M.length + i + j + k]? = L[i + j + k]? := by rw [Nat.add_assoc, gap2, Nat.add_assoc]
mutual
theorem PD.ex {M M' : Mem} (h : Ex M M') : ∀ {d : D} {p : PyData}, PD M d p → PD M' d p
  | _, _, .non => .non
  | _, _, .bl b => .bl b
  | _, _, .int b => .int b
  | _, _, .str b => .str b
  | _, _, .tup l => .tup (PDL.ex h l)
  | _, _, .lst g l => .lst (h.get g) (PDL.ex h l)
theorem PDL.ex {M M' : Mem} (h : Ex M M') : ∀ {d : List D} {p : List PyData}, PDL M d p → PDL M' d p
  | _, _, .nil => .nil
  | _, _, .cons q l => .cons (PD.ex h q) (PDL.ex h l)
end
/-- a comprehension over a name's things that changes nothing -/
theorem w_compV {G : Gam} {elt cond : IE} {vs tg : List Nat} {i : Nat} {ρ : En} {M : Mem} {Q : Kn} {d : D} {xs : List D} (f : D → Option D) (hv : getV ρ i = some d) (hs : seqOf M d = some xs) (hl : xs.length < sizeLine)
    (he : ∀ x ∈ xs, ∀ R : Option D → Mem → Prop, R (f x) M → tgV tg x (wipesV ρ vs) fun ρ' => wpC G cond ρ' M fun b M2 => if b = true then wpE G elt ρ' M2 fun y M3 => R (some y) M3 else R none M2)
    (q : Q (.lst M.length) (M ++ [xs.filterMap f])) : wpE G (.comp elt vs tg (.cons (.var i) .nil) cond) ρ M Q := by
  refine w_comp ?_
  simp only [wpI_cons, wpE_var, hv, onV_some']
  refine ⟨⟨xs, by simpa using hs, hl, fun i acc M' => M' = M ∧ acc = (xs.take i).filterMap f, ⟨rfl, by simp⟩, ?_, ?_, ?_⟩, xs, hs⟩
  · rintro i acc M' hi ⟨rfl, rfl⟩
    exact ⟨Nat.le_trans (List.length_filterMap_le _ _) (by simp; omega), by simpa using hs⟩
  · rintro i x acc M' hx ⟨rfl, rfl⟩
    have hi : i < xs.length := (List.getElem?_eq_some_iff.mp hx).1
    have ht : xs.take (i + 1) = xs.take i ++ [x] := by rw [List.take_add_one, hx]; rfl
    refine he x (List.mem_of_getElem? hx) (fun o M3 => match o with
      | some y => M3 = M' ∧ (xs.take i).filterMap f ++ [y] = (xs.take (i + 1)).filterMap f
      | none => M3 = M' ∧ (xs.take i).filterMap f = (xs.take (i + 1)).filterMap f) ?_
    rw [ht, List.filterMap_append]
    cases h : f x <;> simp [h]
  · rintro acc M' ⟨rfl, rfl⟩
    rw [List.take_of_length_le (Nat.le_refl _)]
    exact q
def S_kind (f : D → Bool) : DSpec := fun ds M Q => ∃ (n b t w : Nat) (d : D), ds = [d] ∧ b ≤ 1800 ∧ 8 ≤ b ∧ t ≤ 40 ∧ w ≤ 100000 ∧ Nz n M b t w d ∧ ∀ M', Ex M M' → Q (.bl (f d)) M'
def isPt : D → Bool
  | .tup [a, b] => isI a && isI b
  | _ => false
def isMk : D → Bool
  | .tup [.int a, .int b, .int c] => decide (0 < c) && decide (Nat.gcd (Nat.gcd a.natAbs b.natAbs) c.natAbs = 1)
  | _ => false
theorem isI_of' {x : D} (h : isI x = true) : ∃ i, x = .int i := by cases x <;> first | exact ⟨_, rfl⟩ | cases h
theorem isMk_no {x y z : D} (h : ¬ (isI x = true ∧ isI y = true ∧ isI z = true)) : isMk (.tup [x, y, z]) = false := by
  cases x <;> cases y <;> cases z <;> first | rfl | exact (h ⟨rfl, rfl, rfl⟩).elim
def ir_is_point_1 : IS :=
  .seq (.ret (.and (.isi (.var 0) ["tuple"]) (.and (.cmp .Eq (.blt .len (.cons (.var 0) .nil)) (.int 2)) (.and (.call "is_number" (.cons (.ix (.var 0) (.int 0)) .nil)) (.one (.call "is_number" (.cons (.ix (.var 0) (.int 1)) .nil))))))) .skip
abbrev ir_is_point : IS := ir_is_point_1
-- slots ['thing']
def ir_is_mark_3 : IS :=
  .seq (.ret (.and (.cmp .Gt (.ix (.var 0) (.int 2)) (.int 0)) (.one (.cmp .Eq (.call "common_divisor" (.cons (.call "common_divisor" (.cons (.blt .abs (.cons (.ix (.var 0) (.int 0)) .nil)) (.cons (.blt .abs (.cons (.ix (.var 0) (.int 1)) .nil)) .nil))) (.cons (.ix (.var 0) (.int 2)) .nil))) (.int 1))))) .skip
def ir_is_mark_2 : IS :=
  .seq (.ret (.bl false)) .skip
def ir_is_mark_1 : IS :=
  .seq (.ite (.or (.not (.isi (.var 0) ["tuple"])) (.or (.cmp .NotEq (.blt .len (.cons (.var 0) .nil)) (.int 3)) (.one (.not (.blt .all (.cons (.comp (.call "is_number" (.cons (.var 1) .nil)) [1] [1] (.cons (.var 0) .nil) .nil) .nil)))))) ir_is_mark_2 .skip) ir_is_mark_3
abbrev ir_is_mark : IS := ir_is_mark_1
-- slots ['thing', 'one']
def ir_law_is_point_1 : IS :=
  .seq (.ret (.and (.isi (.var 0) ["tuple"]) (.and (.cmp .Eq (.blt .len (.cons (.var 0) .nil)) (.int 2)) (.one (.cmp .Eq (.comp (.var 1) [1] [1] (.cons (.var 0) .nil) (.cons (.not (.call "_law_is_number" (.cons (.var 1) .nil))) .nil)) (.lst .nil)))))) .skip
abbrev ir_law_is_point : IS := ir_law_is_point_1
-- slots ['_law_thing', '_law_one']
def ir_law_is_mark_3 : IS :=
  .seq (.ret (.and (.cmp .Gt (.ix (.var 0) (.int 2)) (.int 0)) (.one (.cmp .Eq (.call "_law_shared" (.cons (.call "_law_shared" (.cons (.blt .abs (.cons (.ix (.var 0) (.int 0)) .nil)) (.cons (.blt .abs (.cons (.ix (.var 0) (.int 1)) .nil)) .nil))) (.cons (.ix (.var 0) (.int 2)) .nil))) (.int 1))))) .skip
def ir_law_is_mark_2 : IS :=
  .seq (.ret (.bl false)) .skip
def ir_law_is_mark_1 : IS :=
  .seq (.ite (.or (.not (.isi (.var 0) ["tuple"])) (.or (.cmp .NotEq (.blt .len (.cons (.var 0) .nil)) (.int 3)) (.one (.cmp .NotEq (.comp (.var 1) [1] [1] (.cons (.var 0) .nil) (.cons (.not (.call "_law_is_number" (.cons (.var 1) .nil))) .nil)) (.lst .nil))))) ir_law_is_mark_2 .skip) ir_law_is_mark_3
abbrev ir_law_is_mark : IS := ir_law_is_mark_1
-- slots ['_law_thing', '_law_one']
theorem is_point_ok (G : Gam) (h1 : G "is_number" = S_isnum) : ∀ ds M Q, S_kind isPt ds M Q → wpS G ir_is_point (bodyE Q) (startD (1 - ds.length) ds) M := by
  rintro ds M Q ⟨n, b, t, w, d, rfl, hb, hb8, ht, hw, hz, q⟩
  have q := q M (Ex.refl M)
  cases hz with
  | tup l =>
    simp [ir_is_point_1, w_ret, startD, isiD, tyD, isIn, h1]
    cases l with
    | nil => simpa [isPt] using q
    | @cons _ _ _ _ x _ hx l _ =>
      cases l with
      | nil => simpa [isPt] using q
      | @cons _ _ _ _ y _ hy l _ =>
        cases l with
        | cons hz l _ =>
          simp
          split
          · omega
          · simpa [isPt] using q
        | nil =>
          simp [S_isnum, hx.noS, hy.noS]
          cases hxi : isI x <;> simpa [isPt, hxi] using q
  | _ =>
    simp [ir_is_point_1, w_ret, startD, isiD, tyD, isIn]
    exact q
theorem ne_lst {k j : Nat} {M : Mem} {Q : Kn} : cmpD .NotEq (.lst k) (.lst j) M Q = isOk M (.lst k) (.lst j) (fun b => Q (.bl (!b)) M) := rfl
theorem eq_lst {k j : Nat} {M : Mem} {Q : Kn} : cmpD .Eq (.lst k) (.lst j) M Q = isOk M (.lst k) (.lst j) (fun b => Q (.bl b) M) := rfl
theorem isOk_nil {n b t w k j : Nat} {M : Mem} {xs : List D} {R : Bool → Prop} (g : M[k]? = some xs) (l : NzL n M b t w xs) (g' : M[j]? = some []) (hb : 0 < b) (hb2 : b ≤ 1900) (ht : t < 64) (r : R (decide (xs = []))) :
    isOk M (.lst k) (.lst j) R := by
  obtain ⟨ps, h1, h2⟩ := NzL.pd hb hb2 l
  have h2d := h2.dp
  refine ⟨_, _, .lst g h1, .lst g' .nil, ?_, by decide, ?_⟩
  · simp [SeqAt.shaped, PyData.canLay0, PyData.depth, h2.cl]; omega
  · cases h1 with
    | nil => simpa [PyData.eqv, PyData.eqvAll] using r
    | cons h h' => simpa [PyData.eqv, PyData.eqvAll] using r
def notI (x : D) : Option D := if isI x then none else some x
theorem notI_nil {xs : List D} : xs.filterMap notI = [] ↔ ∀ x ∈ xs, isI x = true := by
  rw [List.filterMap_eq_nil_iff]
  constructor
  · intro h x hx
    have := h x hx
    unfold notI at this
    split at this
    · assumption
    · cases this
  · intro h x hx
    simp [notI, h x hx]
theorem NzL.filt {n b t : Nat} {M : Mem} (f : D → Option D) (hf : ∀ x y, f x = some y → y = x) : ∀ {w : Nat} {xs : List D}, NzL n M b t w xs → NzL n M b t w (xs.filterMap f)
  | _, _, .nil => .nil
  | _, _, .cons (x := x) h l e => by
    have ih := NzL.filt f hf l
    rw [List.filterMap_cons]
    cases hx : f x with
    | none => exact ih.mono (Nat.le_refl _) (Nat.le_refl _) (by omega)
    | some y => rw [hf x y hx]; exact .cons h ih e
theorem notI_id (x y : D) (h : notI x = some y) : y = x := by
  unfold notI at h
  split at h
  · cases h
  · cases h; rfl
theorem law_is_point_ok (G : Gam) (h1 : G "_law_is_number" = S_isnum) : ∀ ds M Q, S_kind isPt ds M Q → wpS G ir_law_is_point (bodyE Q) (startD (2 - ds.length) ds) M := by
  rintro ds M Q ⟨n, b, t, w, d, rfl, hb, hb8, ht, hw, hz, q⟩
  have q0 := q M (Ex.refl M)
  cases hz with
  | tup l =>
    rename_i t xs
    simp [ir_law_is_point_1, w_ret, startD, isiD, tyD, isIn]
    by_cases h2 : xs.length = 2
    · simp [h2]
      refine w_compV notI rfl rfl (by rw [h2]; exact sz (by decide)) ?_ ?_
      · intro x hx R hR
        have hxn : NoS x := by
          obtain ⟨i, hi⟩ := List.mem_iff_getElem?.mp hx
          exact (l.get hi).noS
        simp [h1, S_isnum, hxn]
        unfold notI at hR
        cases hi : isI x <;> simpa [hi] using hR
      · simp [eq_lst, sz_eq]
        have lz : NzL n (M ++ [xs.filterMap notI, []]) b t w (xs.filterMap notI) := by
          have := ((l.filt notI notI_id).app (xs.filterMap notI)).app []
          simpa using this
        refine isOk_nil (xs := xs.filterMap notI) (by simp) lz (by simp) (by omega) (by omega) (by omega) ?_
        have q1 := q (M ++ [xs.filterMap notI] ++ [[]]) ((Ex.refl M).app _ |>.app _)
        simp at q1
        match xs, h2 with
        | [x, y], _ =>
          have : decide (List.filterMap notI [x, y] = []) = isPt (.tup [x, y]) := by
            have := notI_nil (xs := [x, y])
            simp at this
            simp [isPt, this]
          rw [this]
          exact q1
    · have h3 : ¬ ((xs.length : Int) = 2) := by omega
      simp [h3]
      have e : isPt (.tup xs) = false := by
        match xs, h2 with
        | [], _ => rfl
        | [_], _ => rfl
        | [_, _], h => exact absurd rfl h
        | _ :: _ :: _ :: _, _ => rfl
      rw [e] at q0
      simpa [h2] using q0
  | _ =>
    simp [ir_law_is_point_1, w_ret, startD, isiD, tyD, isIn]
    exact q0
theorem le_2000 {x : Nat} (h : x < 2 ^ 180) : x < 2 ^ 2000 := Nat.lt_of_lt_of_le h (Nat.pow_le_pow_right (by decide) (by decide))
theorem gcd_lt {x y B : Nat} (hx : x < 2 ^ B) (hy : y < 2 ^ B) : Nat.gcd x y < 2 ^ B := by
  by_cases h0 : x = 0
  · rw [h0]; simpa using hy
  · exact Nat.lt_of_le_of_lt (Nat.gcd_le_left _ (Nat.pos_of_ne_zero h0)) hx
theorem gcd_cast (x y : Nat) : ((Nat.gcd x y : Nat) : Int) = 1 ↔ Nat.gcd x y = 1 := by omega
theorem isMk_len {xs : List D} (h : ¬ xs.length = 3) : isMk (.tup xs) = false := by
  match xs, h with
  | [], _ => rfl
  | [x], _ => cases x <;> rfl
  | [x, y], _ => cases x <;> cases y <;> rfl
  | [_, _, _], h => exact absurd rfl h
  | _ :: _ :: _ :: _ :: _, _ => unfold isMk; simp
theorem is_mark_ok (G : Gam) (h1 : G "is_number" = S_isnum) (h2 : G "common_divisor" = S_gcd) : ∀ ds M Q, S_kind isMk ds M Q → wpS G ir_is_mark (bodyE Q) (startD (2 - ds.length) ds) M := by
  rintro ds M Q ⟨n, b, t, w, d, rfl, hb, hb8, ht, hw, hz, q⟩
  have q0 := q M (Ex.refl M)
  cases hz with
  | tup l =>
    rename_i t xs
    simp [ir_is_mark_1, w_ite, w_skip, startD, isiD, tyD, isIn]
    by_cases h3 : xs.length = 3
    · simp [h3]
      refine w_compV (fun x => some (.bl (isI x))) rfl rfl (by rw [h3]; exact sz (by decide)) ?_ ?_
      · intro x hx R hR
        have hxn : NoS x := by
          obtain ⟨i, hi⟩ := List.mem_iff_getElem?.mp hx
          exact (l.get hi).noS
        simpa [h1, S_isnum, hxn] using hR
      · simp
        refine ⟨xs.map isI, by simp, ?_⟩
        match xs, h3 with
        | [x, y, z], _ =>
          have q1 := q _ ((Ex.refl M).app [.bl (isI x), .bl (isI y), .bl (isI z)])
          by_cases hi : isI x = true ∧ isI y = true ∧ isI z = true
          · obtain ⟨a, rfl⟩ := isI_of' hi.1
            obtain ⟨b', rfl⟩ := isI_of' hi.2.1
            obtain ⟨c, rfl⟩ := isI_of' hi.2.2
            simp [isI, ir_is_mark_3, w_ret, h2, abs_nat]
            by_cases hc : 0 < c
            · obtain ⟨k, rfl⟩ : ∃ k : Nat, c = (k : Int) := ⟨c.toNat, by omega⟩
              have hk : 0 < k := by omega
              simp [hk]
              refine ⟨a.natAbs, b'.natAbs, rfl, _, k, rfl, ?_⟩
              simpa [isMk, hk, gcd_cast, isI] using q1
            · simp [hc]
              simpa [isMk, hc, isI] using q1
          · rw [isMk_no hi] at q1
            have this : isI x = false ∨ isI y = false ∨ isI z = false := by
              cases hx : isI x <;> cases hy : isI y <;> cases hz : isI z <;> simp_all
            simp [this, ir_is_mark_2, w_ret]
            simpa using q1
    · have h3' : ¬ ((xs.length : Int) = 3) := by omega
      simp [h3', ir_is_mark_2, w_ret]
      rw [isMk_len h3] at q0
      simpa [h3] using q0
  | _ =>
    simp [ir_is_mark_1, ir_is_mark_2, w_ite, w_skip, w_ret, startD, isiD, tyD, isIn]
    exact q0
theorem law_is_mark_ok (G : Gam) (h1 : G "_law_is_number" = S_isnum) (h2 : G "_law_shared" = S_shared 2000) : ∀ ds M Q, S_kind isMk ds M Q → wpS G ir_law_is_mark (bodyE Q) (startD (2 - ds.length) ds) M := by
  rintro ds M Q ⟨n, b, t, w, d, rfl, hb, hb8, ht, hw, hz, q⟩
  have q0 := q M (Ex.refl M)
  cases hz with
  | tup l =>
    rename_i t xs
    simp [ir_law_is_mark_1, w_ite, w_skip, startD, isiD, tyD, isIn]
    by_cases h3 : xs.length = 3
    · simp [h3]
      refine w_compV notI rfl rfl (by rw [h3]; exact sz (by decide)) ?_ ?_
      · intro x hx R hR
        have hxn : NoS x := by
          obtain ⟨i, hi⟩ := List.mem_iff_getElem?.mp hx
          exact (l.get hi).noS
        simp [h1, S_isnum, hxn]
        unfold notI at hR
        cases hi : isI x <;> simpa [hi] using hR
      · simp [ne_lst, sz_eq]
        have lz : NzL n (M ++ [xs.filterMap notI, []]) b t w (xs.filterMap notI) := by
          have := ((l.filt notI notI_id).app (xs.filterMap notI)).app []
          simpa using this
        refine isOk_nil (xs := xs.filterMap notI) (by simp) lz (by simp) (by omega) (by omega) (by omega) ?_
        have q1 := q (M ++ [xs.filterMap notI] ++ [[]]) ((Ex.refl M).app _ |>.app _)
        simp at q1
        have hN := notI_nil (xs := xs)
        match xs, h3 with
        | [x, y, z], _ =>
          by_cases hi : isI x = true ∧ isI y = true ∧ isI z = true
          · have hn : List.filterMap notI [x, y, z] = [] := hN.mpr (by simpa using hi)
            obtain ⟨a, rfl⟩ := isI_of' hi.1
            obtain ⟨b', rfl⟩ := isI_of' hi.2.1
            obtain ⟨c, rfl⟩ := isI_of' hi.2.2
            rw [hn] at q1
            cases l with | cons ha l _ =>
            cases l with | cons hb' l _ =>
            cases l with | cons hc' l _ =>
            cases ha with | int ha =>
            cases hb' with | int hb' =>
            cases hc' with | int hc' =>
            have hbb : 2 ^ b ≤ 2 ^ 1999 := Nat.pow_le_pow_right (by omega) (by omega)
            have hbb2 : 2 ^ 2000 = 2 ^ 1999 * 2 := by rw [← Nat.pow_succ]
            simp [hn, isI, ir_law_is_mark_3, w_ret, h2, abs_nat]
            by_cases hc : 0 < c
            · obtain ⟨k, rfl⟩ : ∃ k : Nat, c = (k : Int) := ⟨c.toNat, by omega⟩
              have hk : 0 < k := by omega
              simp [hk]
              refine ⟨a.natAbs, b'.natAbs, rfl, by omega, by omega, _, k, rfl, ?_, by omega, ?_⟩
              · by_cases h0 : a.natAbs = 0
                · rw [h0]; simp; omega
                · exact Nat.lt_of_le_of_lt (Nat.gcd_le_left _ (by omega)) (by omega)
              · simpa [isMk, hk, gcd_cast, isI] using q1
            · simp [hc]
              simpa [isMk, hc, isI] using q1
          · have hn : ¬ List.filterMap notI [x, y, z] = [] := fun h => hi (by simpa using hN.mp h)
            rw [isMk_no hi] at q1
            simp [hn, ir_law_is_mark_2, w_ret]
            simpa using q1
    · have h3' : ¬ ((xs.length : Int) = 3) := by omega
      simp [h3', ir_law_is_mark_2, w_ret]
      rw [isMk_len h3] at q0
      simpa [h3] using q0
  | _ =>
    simp [ir_law_is_mark_1, ir_law_is_mark_2, w_ite, w_skip, w_ret, startD, isiD, tyD, isIn]
    exact q0
end DL

set_option Elab.async false
set_option linter.all false
set_option maxRecDepth 100000
set_option maxHeartbeats 4000000
namespace DL
open PySem L2
mutual
theorem Nz.low {n n' b : Nat} {M : Mem} (h : n ≤ n') : ∀ {t w : Nat} {d : D}, Nz n' M b t w d → Nz n M b t w d
  | _, _, _, .non => .non
  | _, _, _, .bl v => .bl v
  | _, _, _, .int h => .int h
  | _, _, _, .str h s => .str h s
  | _, _, _, .tup l => .tup (NzL.low h l)
  | _, _, _, .lst h1 h2 l => .lst (Nat.le_trans h h1) h2 (NzL.low h l)
theorem NzL.low {n n' b : Nat} {M : Mem} (h : n ≤ n') : ∀ {t w : Nat} {d : List D}, NzL n' M b t w d → NzL n M b t w d
  | _, _, _, .nil => .nil
  | _, _, _, .cons h1 l e => .cons (Nz.low h h1) (NzL.low h l) e
end
theorem Nz.set {n b m t w : Nat} {M : Mem} {d : D} {x : List D} (h : Nz n M b t w d) (hm : m < n) : Nz n (M.set m x) b t w d := h.keep fun _ _ e hn => by rw [gs_ne (by omega)]; exact e
theorem Fx.set {n a k : Nat} {M M1 : Mem} (f : Fx n a M M1) (h : M.length ≤ k) (hn : n < k) (x : List D) : Fx n a M (M1.set k x) :=
  ⟨by simp; exact f.len, fun j hj hjn => by rw [gs_ne (by omega)]; exact f.same j hj hjn, f.feed.set hn x⟩
/-- a comprehension over a range, each turn draws -/
theorem w_compR {G : Gam} {elt : IE} {v n a s : Nat} {c : Nat} {ρ : En} {M : Mem} {Q : Kn} (P : Mem → D → Prop) (hc : c < 16777216) (F : Feed n a M)
    (hP : ∀ M1 M2 b x, P M1 x → Fx n b M1 M2 → P M2 x)
    (he : ∀ i M1 (R : Kn), i < c → Fx n (a + s * i) M M1 → (∀ y M2, Fx n (a + s * i + s) M1 M2 → P M2 y → R y M2) → wpE G elt (setV (wipeV ρ v) v (.int i)) M1 R)
    (q : ∀ acc M1, acc.length = c → Fx n (a + s * c) M M1 → (∀ x ∈ acc, P M1 x) → Q (.lst M1.length) (M1 ++ [acc])) :
    wpE G (.comp elt [v] [v] (.rng1 (.int c)) .nil) ρ M Q := by
  refine w_comp ?_
  simp only [wpI_rng1, wpE_int, tI_i, items_r, Int.toNat_natCast]
  refine ⟨⟨by omega, by omega⟩, rngD 0 c, rfl, by rw [rngD_len, sz_eq]; exact hc, fun i acc M1 => Fx n (a + s * i) M M1 ∧ acc.length = i ∧ ∀ x ∈ acc, P M1 x, ⟨(Fx.refl F).mono (by omega), rfl, fun _ h => by cases h⟩, fun i acc M5 _ h => ⟨Nat.le_of_eq h.2.1, rfl⟩, ?_, ?_⟩
  · rintro i x acc M5 hx ⟨f5, la, hacc⟩
    have hi : i < c := by
      have := (List.getElem?_eq_some_iff.mp hx).1
      rwa [rngD_len] at this
    rw [rngD_get, if_pos hi] at hx
    simp at hx
    subst hx
    simp only [tgV_1, wipesV_c, wipesV_n, wpC_nil, if_true]
    refine he i M5 _ hi f5 fun y M2 f6 hy => ⟨(f5.trans f6).mono (by rw [Nat.mul_succ]; omega), by simp [la], ?_⟩
    intro z hz
    rcases List.mem_append.mp hz with h | h
    · exact hP _ _ _ _ (hacc z h) f6
    · rw [List.mem_singleton.mp h]
      exact hy
  · rintro acc M5 ⟨f5, la, hacc⟩
    rw [rngD_len] at f5 la
    exact q acc M5 la f5 hacc
theorem app2 (M : Mem) (x y : List D) : M ++ [x, y] = M ++ [x] ++ [y] := by simp
theorem s0 : 0 ≤ 16777216 := by omega
theorem sle {k j : Nat} (h : k ≤ 100000) (hj : 100000 ≤ j) : k ≤ j := Nat.le_trans h hj
end DL

set_option Elab.async false
set_option linter.all false
set_option maxRecDepth 100000
set_option maxHeartbeats 4000000
set_option exponentiation.threshold 3000
namespace DL
open PySem L2
/-- a fraction in lowest terms -/
structure Low (p q : Int) : Prop where
  pos : 0 < q
  cop : Nat.gcd p.natAbs q.natAbs = 1
theorem dvd_of_low {p q p' q' : Int} (h : Low p q) (e : p * q' = p' * q) : q.natAbs ∣ q'.natAbs := by
  have e2 : p.natAbs * q'.natAbs = p'.natAbs * q.natAbs := by rw [← Int.natAbs_mul, e, Int.natAbs_mul]
  have hc : Nat.Coprime q.natAbs p.natAbs := by rw [Nat.coprime_comm]; exact h.cop
  exact hc.dvd_of_dvd_mul_left ⟨p'.natAbs, by rw [e2, Nat.mul_comm]⟩
theorem Low.uniq {p q p' q' : Int} (h : Low p q) (h' : Low p' q') (e : p * q' = p' * q) : p = p' ∧ q = q' := by
  have d1 := dvd_of_low h e
  have d2 := dvd_of_low h' e.symm
  have e3 := Nat.dvd_antisymm d1 d2
  have h1 := h.pos
  have h2 := h'.pos
  have eq : q = q' := by omega
  subst eq
  exact ⟨Int.eq_of_mul_eq_mul_right (by omega) e, rfl⟩
theorem frac_low {t b : Int} (hb : b ≠ 0) {c : Int} (hc : c = if b < 0 then -((Nat.gcd t.natAbs b.natAbs : Nat) : Int) else ((Nat.gcd t.natAbs b.natAbs : Nat) : Int)) :
    Low (t.fdiv c) (b.fdiv c) ∧ t.fdiv c * b = b.fdiv c * t ∧ (t.fdiv c).natAbs ≤ t.natAbs ∧ (b.fdiv c).natAbs ≤ b.natAbs ∧ c ≠ 0 ∧ c.natAbs ≤ b.natAbs := by
  have hs : 0 < Nat.gcd t.natAbs b.natAbs := Nat.gcd_pos_of_pos_right _ (by omega)
  have hcs : c.natAbs = Nat.gcd t.natAbs b.natAbs := by rw [hc]; split <;> omega
  have hc0 : c ≠ 0 := by omega
  obtain ⟨x, hx⟩ : c ∣ t := by rw [← Int.natAbs_dvd_natAbs, hcs]; exact Nat.gcd_dvd_left _ _
  obtain ⟨y, hy⟩ : c ∣ b := by rw [← Int.natAbs_dvd_natAbs, hcs]; exact Nat.gcd_dvd_right _ _
  have e1 : t.fdiv c = x := by rw [hx]; exact Int.mul_fdiv_cancel_left _ hc0
  have e2 : b.fdiv c = y := by rw [hy]; exact Int.mul_fdiv_cancel_left _ hc0
  rw [e1, e2]
  have a1 : t.natAbs = c.natAbs * x.natAbs := by rw [hx, Int.natAbs_mul]
  have a2 : b.natAbs = c.natAbs * y.natAbs := by rw [hy, Int.natAbs_mul]
  have hcp : 0 < c.natAbs := by omega
  refine ⟨⟨?_, ?_⟩, by rw [hx, hy]; grind, by rw [a1]; exact Nat.le_mul_of_pos_left _ hcp, by rw [a2]; exact Nat.le_mul_of_pos_left _ hcp, hc0, ?_⟩
  · by_cases hb0 : b < 0
    · rw [if_pos hb0] at hc
      have : c < 0 := by omega
      rcases Int.lt_trichotomy y 0 with h | h | h
      · have := Int.mul_pos_of_neg_of_neg this h
        omega
      · rw [h] at hy; simp at hy; omega
      · exact h
    · rw [if_neg hb0] at hc
      have : 0 < c := by omega
      rcases Int.lt_trichotomy y 0 with h | h | h
      · have := Int.mul_neg_of_pos_of_neg this h
        omega
      · rw [h] at hy; simp at hy; omega
      · exact h
  · have := hcs
    rw [a1, a2, Nat.gcd_mul_left] at this
    exact Nat.eq_of_mul_eq_mul_left hcp (by omega)
  · rw [hcs]; exact Nat.gcd_le_right _ (by omega)
theorem mul_lt {x y : Int} {k j : Nat} (hx : x.natAbs < 2 ^ k) (hy : y.natAbs < 2 ^ j) : (x * y).natAbs < 2 ^ (k + j) := by
  rw [Int.natAbs_mul, Nat.pow_add]
  exact Nat.mul_lt_mul'' hx hy
theorem add_lt {x y : Int} {k : Nat} (hx : x.natAbs < 2 ^ k) (hy : y.natAbs < 2 ^ k) : (x + y).natAbs < 2 ^ (k + 1) := by
  have := Int.natAbs_add_le x y
  rw [Nat.pow_succ]; omega
theorem sub_lt' {x y : Int} {k : Nat} (hx : x.natAbs < 2 ^ k) (hy : y.natAbs < 2 ^ k) : (x - y).natAbs < 2 ^ (k + 1) := by
  have := Int.natAbs_sub_le x y
  rw [Nat.pow_succ]; omega
theorem up_lt {x : Int} {k j : Nat} (hx : x.natAbs < 2 ^ k) (h : k ≤ j) : x.natAbs < 2 ^ j := Nat.lt_of_lt_of_le hx (Nat.pow_le_pow_right (by omega) h)
def S_fraction : DSpec := fun ds M Q => ∃ t b : Int, ds = [.int t, .int b] ∧ b ≠ 0 ∧ lg b < 8000 ∧ ∀ p q, Low p q → p * b = q * t → p.natAbs ≤ t.natAbs → q.natAbs ≤ b.natAbs → Q (.tup [.int p, .int q]) M
/-- what two fractions make: the top N, the bottom Dn by products -/
def S_op (N Dn : Int → Int → Int → Int → Int) : DSpec := fun ds M Q => ∃ (k : Nat) (a b c d : Int), ds = [.tup [.int a, .int b], .tup [.int c, .int d]] ∧ k ≤ 900 ∧ a.natAbs < 2 ^ k ∧ b.natAbs < 2 ^ k ∧ c.natAbs < 2 ^ k ∧ d.natAbs < 2 ^ k ∧ Dn a b c d ≠ 0 ∧
  ∀ p q, Low p q → p * Dn a b c d = q * N a b c d → p.natAbs < 2 ^ (2 * k + 1) → q.natAbs < 2 ^ (2 * k + 1) → Q (.tup [.int p, .int q]) M
def ir_fraction_4 : IS :=
  .seq (.ret (.tup (.cons (.bin .FloorDiv (.var 0) (.var 2)) (.cons (.bin .FloorDiv (.var 1) (.var 2)) .nil)))) .skip
def ir_fraction_3 : IS :=
  .seq (.asg (.v 2) (.bin .Sub (.int 0) (.var 2))) .skip
def ir_fraction_2 : IS :=
  .seq (.ite (.cmp .Lt (.var 1) (.int 0)) ir_fraction_3 .skip) ir_fraction_4
def ir_fraction_1 : IS :=
  .seq (.asg (.v 2) (.call "common_divisor" (.cons (.blt .abs (.cons (.var 0) .nil)) (.cons (.blt .abs (.cons (.var 1) .nil)) .nil)))) ir_fraction_2
abbrev ir_fraction : IS := ir_fraction_1
-- slots ['top', 'bottom', 'shared']
def ir_plus_1 : IS :=
  .seq (.ret (.call "fraction" (.cons (.bin .Add (.bin .Mult (.ix (.var 0) (.int 0)) (.ix (.var 1) (.int 1))) (.bin .Mult (.ix (.var 1) (.int 0)) (.ix (.var 0) (.int 1)))) (.cons (.bin .Mult (.ix (.var 0) (.int 1)) (.ix (.var 1) (.int 1))) .nil)))) .skip
abbrev ir_plus : IS := ir_plus_1
-- slots ['one', 'other']
def ir_minus_1 : IS :=
  .seq (.ret (.call "fraction" (.cons (.bin .Sub (.bin .Mult (.ix (.var 0) (.int 0)) (.ix (.var 1) (.int 1))) (.bin .Mult (.ix (.var 1) (.int 0)) (.ix (.var 0) (.int 1)))) (.cons (.bin .Mult (.ix (.var 0) (.int 1)) (.ix (.var 1) (.int 1))) .nil)))) .skip
abbrev ir_minus : IS := ir_minus_1
-- slots ['one', 'other']
def ir_times_1 : IS :=
  .seq (.ret (.call "fraction" (.cons (.bin .Mult (.ix (.var 0) (.int 0)) (.ix (.var 1) (.int 0))) (.cons (.bin .Mult (.ix (.var 0) (.int 1)) (.ix (.var 1) (.int 1))) .nil)))) .skip
abbrev ir_times : IS := ir_times_1
-- slots ['one', 'other']
def ir_over_1 : IS :=
  .seq (.ret (.call "fraction" (.cons (.bin .Mult (.ix (.var 0) (.int 0)) (.ix (.var 1) (.int 1))) (.cons (.bin .Mult (.ix (.var 0) (.int 1)) (.ix (.var 1) (.int 0))) .nil)))) .skip
abbrev ir_over : IS := ir_over_1
-- slots ['one', 'other']
def ir_less_1 : IS :=
  .seq (.ret (.cmp .Lt (.bin .Mult (.ix (.var 0) (.int 0)) (.ix (.var 1) (.int 1))) (.bin .Mult (.ix (.var 1) (.int 0)) (.ix (.var 0) (.int 1))))) .skip
abbrev ir_less : IS := ir_less_1
-- slots ['one', 'other']
theorem fraction_ok (G : Gam) (h : G "common_divisor" = S_gcd) : ∀ ds M Q, S_fraction ds M Q → wpS G ir_fraction (bodyE Q) (startD (3 - ds.length) ds) M := by
  rintro ds M Q ⟨t, b, rfl, hb, hlb, q⟩
  simp [ir_fraction_1, w_av, startD, h, abs_nat]
  refine ⟨t.natAbs, b.natAbs, rfl, ?_⟩
  simp [ir_fraction_2, ir_fraction_3, w_ite, w_skip, w_av]
  have key : ∀ c : Int, c = (if b < 0 then -((Nat.gcd t.natAbs b.natAbs : Nat) : Int) else ((Nat.gcd t.natAbs b.natAbs : Nat) : Int)) → wpS G ir_fraction_4 (bodyE Q) [some (.int t), some (.int b), some (.int c)] M := by
    intro c hc
    obtain ⟨h1, h2, h3, h4, h5, h6⟩ := frac_low (t := t) hb hc
    have hl : lg c ≤ lg b := lg_mono h6
    simp [ir_fraction_4, w_ret]
    exact ⟨h5, by omega, h5, by omega, sz (by omega), q _ _ h1 h2 h3 h4⟩
  split
  · rename_i h0
    exact key _ (by rw [if_pos h0])
  · rename_i h0
    exact key _ (by rw [if_neg h0])
theorem lg_small {x : Int} {k : Nat} (h : x.natAbs < 2 ^ k) (hk : k ≤ 7000) : lg x < 8000 := Nat.lt_of_le_of_lt (lg_of h) (by omega)
theorem plus_ok (G : Gam) (h : G "fraction" = S_fraction) : ∀ ds M Q, S_op (fun a b c d => a * d + c * b) (fun a b c d => b * d) ds M Q → wpS G ir_plus (bodyE Q) (startD (2 - ds.length) ds) M := by
  rintro ds M Q ⟨k, a, b, c, d, rfl, hk, ha, hb, hc, hd, h0, q⟩
  have la := lg_of ha
  have lb := lg_of hb
  have lc := lg_of hc
  have ld := lg_of hd
  have e2 : k + k = 2 * k := by omega
  simp [ir_plus_1, w_ret, startD, h]
  refine ⟨by omega, by omega, by omega, _, _, rfl, h0, lg_small (mul_lt hb hd) (by omega), fun p r hl he hp hr => ?_⟩
  have m1 : (a * d + c * b).natAbs < 2 ^ (2 * k + 1) := by rw [← e2]; exact add_lt (mul_lt ha hd) (mul_lt hc hb)
  have m2 : (b * d).natAbs < 2 ^ (2 * k + 1) := up_lt (mul_lt hb hd) (by omega)
  exact q p r hl he (by omega) (by omega)
theorem minus_ok (G : Gam) (h : G "fraction" = S_fraction) : ∀ ds M Q, S_op (fun a b c d => a * d - c * b) (fun a b c d => b * d) ds M Q → wpS G ir_minus (bodyE Q) (startD (2 - ds.length) ds) M := by
  rintro ds M Q ⟨k, a, b, c, d, rfl, hk, ha, hb, hc, hd, h0, q⟩
  have la := lg_of ha
  have lb := lg_of hb
  have lc := lg_of hc
  have ld := lg_of hd
  have e2 : k + k = 2 * k := by omega
  simp [ir_minus_1, w_ret, startD, h]
  refine ⟨by omega, by omega, by omega, _, _, rfl, h0, lg_small (mul_lt hb hd) (by omega), fun p r hl he hp hr => ?_⟩
  have m1 : (a * d - c * b).natAbs < 2 ^ (2 * k + 1) := by rw [← e2]; exact sub_lt' (mul_lt ha hd) (mul_lt hc hb)
  have m2 : (b * d).natAbs < 2 ^ (2 * k + 1) := up_lt (mul_lt hb hd) (by omega)
  exact q p r hl he (by omega) (by omega)
theorem times_ok (G : Gam) (h : G "fraction" = S_fraction) : ∀ ds M Q, S_op (fun a b c d => a * c) (fun a b c d => b * d) ds M Q → wpS G ir_times (bodyE Q) (startD (2 - ds.length) ds) M := by
  rintro ds M Q ⟨k, a, b, c, d, rfl, hk, ha, hb, hc, hd, h0, q⟩
  have la := lg_of ha
  have lb := lg_of hb
  have lc := lg_of hc
  have ld := lg_of hd
  simp [ir_times_1, w_ret, startD, h]
  refine ⟨by omega, by omega, _, _, rfl, h0, lg_small (mul_lt hb hd) (by omega), fun p r hl he hp hr => ?_⟩
  have m1 : (a * c).natAbs < 2 ^ (2 * k + 1) := up_lt (mul_lt ha hc) (by omega)
  have m2 : (b * d).natAbs < 2 ^ (2 * k + 1) := up_lt (mul_lt hb hd) (by omega)
  exact q p r hl he (by omega) (by omega)
theorem over_ok (G : Gam) (h : G "fraction" = S_fraction) : ∀ ds M Q, S_op (fun a b c d => a * d) (fun a b c d => b * c) ds M Q → wpS G ir_over (bodyE Q) (startD (2 - ds.length) ds) M := by
  rintro ds M Q ⟨k, a, b, c, d, rfl, hk, ha, hb, hc, hd, h0, q⟩
  have la := lg_of ha
  have lb := lg_of hb
  have lc := lg_of hc
  have ld := lg_of hd
  simp [ir_over_1, w_ret, startD, h]
  refine ⟨by omega, by omega, _, _, rfl, h0, lg_small (mul_lt hb hc) (by omega), fun p r hl he hp hr => ?_⟩
  have m1 : (a * d).natAbs < 2 ^ (2 * k + 1) := up_lt (mul_lt ha hd) (by omega)
  have m2 : (b * c).natAbs < 2 ^ (2 * k + 1) := up_lt (mul_lt hb hc) (by omega)
  exact q p r hl he (by omega) (by omega)
def S_less : DSpec := fun ds M Q => ∃ (a b c d : Int), ds = [.tup [.int a, .int b], .tup [.int c, .int d]] ∧ a.natAbs < 2 ^ 900 ∧ b.natAbs < 2 ^ 900 ∧ c.natAbs < 2 ^ 900 ∧ d.natAbs < 2 ^ 900 ∧ 0 < b ∧ 0 < d ∧ Q (.bl (decide (a * d < c * b))) M
theorem less_ok (G : Gam) : ∀ ds M Q, S_less ds M Q → wpS G ir_less (bodyE Q) (startD (2 - ds.length) ds) M := by
  rintro ds M Q ⟨a, b, c, d, rfl, ha, hb, hc, hd, h0, h1, q⟩
  have la := lg_of ha
  have lb := lg_of hb
  have lc := lg_of hc
  have ld := lg_of hd
  simp [ir_less_1, w_ret, startD]
  exact ⟨by omega, by omega, q⟩
/-- asked of a fraction in lowest terms: is it due by products across -/
def S_isso : DSpec := fun ds M Q => ∃ (p q t b : Int), ds = [.tup [.int p, .int q], .int t, .int b] ∧ Low p q ∧ p.natAbs < 2 ^ 2000 ∧ q.natAbs < 2 ^ 2000 ∧ lg t < 9000 ∧ lg b < 9000 ∧ p * b = q * t ∧ ∀ M', Ex M M' → Q (.bl true) M'
end DL

set_option Elab.async false
set_option linter.all false
set_option maxRecDepth 100000
set_option maxHeartbeats 4000000
set_option exponentiation.threshold 3000
namespace DL
open PySem L2
/-- three numbers in lowest terms, the last above nought -/
structure Low3 (p q r : Int) : Prop where
  pos : 0 < r
  cop : Nat.gcd (Nat.gcd p.natAbs q.natAbs) r.natAbs = 1
theorem dvd_of_low3 {p q r p' q' r' : Int} (h : Low3 p q r) (e : p * r' = p' * r) (e' : q * r' = q' * r) : r.natAbs ∣ r'.natAbs := by
  have e2 : p.natAbs * r'.natAbs = p'.natAbs * r.natAbs := by rw [← Int.natAbs_mul, e, Int.natAbs_mul]
  have e3 : q.natAbs * r'.natAbs = q'.natAbs * r.natAbs := by rw [← Int.natAbs_mul, e', Int.natAbs_mul]
  have hc : Nat.Coprime r.natAbs (Nat.gcd p.natAbs q.natAbs) := by rw [Nat.coprime_comm]; exact h.cop
  refine hc.dvd_of_dvd_mul_left ?_
  rw [← Nat.gcd_mul_right]
  exact Nat.dvd_gcd ⟨p'.natAbs, by rw [e2, Nat.mul_comm]⟩ ⟨q'.natAbs, by rw [e3, Nat.mul_comm]⟩
theorem Low3.uniq {p q r p' q' r' : Int} (h : Low3 p q r) (h' : Low3 p' q' r') (e : p * r' = p' * r) (e' : q * r' = q' * r) : p = p' ∧ q = q' ∧ r = r' := by
  have d1 := dvd_of_low3 h e e'
  have d2 := dvd_of_low3 h' e.symm e'.symm
  have e3 := Nat.dvd_antisymm d1 d2
  have h1 := h.pos
  have h2 := h'.pos
  have eq : r = r' := by omega
  subst eq
  exact ⟨Int.eq_of_mul_eq_mul_right (by omega) e, Int.eq_of_mul_eq_mul_right (by omega) e', rfl⟩
theorem gcd3_mul {c x y z : Nat} : Nat.gcd (Nat.gcd (c * x) (c * y)) (c * z) = c * Nat.gcd (Nat.gcd x y) z := by
  rw [Nat.gcd_mul_left, Nat.gcd_mul_left]
theorem mark_low {x y u : Int} (hu : u ≠ 0) {c : Int} (hc : c = if u < 0 then -((Nat.gcd (Nat.gcd x.natAbs y.natAbs) u.natAbs : Nat) : Int) else ((Nat.gcd (Nat.gcd x.natAbs y.natAbs) u.natAbs : Nat) : Int)) :
    Low3 (x.fdiv c) (y.fdiv c) (u.fdiv c) ∧ x.fdiv c * u = x * u.fdiv c ∧ y.fdiv c * u = y * u.fdiv c ∧ (x.fdiv c).natAbs ≤ x.natAbs ∧ (y.fdiv c).natAbs ≤ y.natAbs ∧ (u.fdiv c).natAbs ≤ u.natAbs ∧ c ≠ 0 ∧ c.natAbs ≤ u.natAbs := by
  have hs : 0 < Nat.gcd (Nat.gcd x.natAbs y.natAbs) u.natAbs := Nat.gcd_pos_of_pos_right _ (by omega)
  have hcs : c.natAbs = Nat.gcd (Nat.gcd x.natAbs y.natAbs) u.natAbs := by rw [hc]; split <;> omega
  have hc0 : c ≠ 0 := by omega
  obtain ⟨a, hx⟩ : c ∣ x := by rw [← Int.natAbs_dvd_natAbs, hcs]; exact Nat.dvd_trans (Nat.gcd_dvd_left _ _) (Nat.gcd_dvd_left _ _)
  obtain ⟨b, hy⟩ : c ∣ y := by rw [← Int.natAbs_dvd_natAbs, hcs]; exact Nat.dvd_trans (Nat.gcd_dvd_left _ _) (Nat.gcd_dvd_right _ _)
  obtain ⟨v, hv⟩ : c ∣ u := by rw [← Int.natAbs_dvd_natAbs, hcs]; exact Nat.gcd_dvd_right _ _
  have e1 : x.fdiv c = a := by rw [hx]; exact Int.mul_fdiv_cancel_left _ hc0
  have e2 : y.fdiv c = b := by rw [hy]; exact Int.mul_fdiv_cancel_left _ hc0
  have e3 : u.fdiv c = v := by rw [hv]; exact Int.mul_fdiv_cancel_left _ hc0
  rw [e1, e2, e3]
  have a1 : x.natAbs = c.natAbs * a.natAbs := by rw [hx, Int.natAbs_mul]
  have a2 : y.natAbs = c.natAbs * b.natAbs := by rw [hy, Int.natAbs_mul]
  have a3 : u.natAbs = c.natAbs * v.natAbs := by rw [hv, Int.natAbs_mul]
  have hcp : 0 < c.natAbs := by omega
  refine ⟨⟨?_, ?_⟩, by rw [hx, hv]; grind, by rw [hy, hv]; grind, by rw [a1]; exact Nat.le_mul_of_pos_left _ hcp, by rw [a2]; exact Nat.le_mul_of_pos_left _ hcp, by rw [a3]; exact Nat.le_mul_of_pos_left _ hcp, hc0, ?_⟩
  · by_cases hb0 : u < 0
    · rw [if_pos hb0] at hc
      have : c < 0 := by omega
      rcases Int.lt_trichotomy v 0 with h | h | h
      · have := Int.mul_pos_of_neg_of_neg this h
        omega
      · rw [h] at hv; simp at hv; omega
      · exact h
    · rw [if_neg hb0] at hc
      have : 0 < c := by omega
      rcases Int.lt_trichotomy v 0 with h | h | h
      · have := Int.mul_neg_of_pos_of_neg this h
        omega
      · rw [h] at hv; simp at hv; omega
      · exact h
  · have := hcs
    rw [a1, a2, a3, gcd3_mul] at this
    exact Nat.eq_of_mul_eq_mul_left hcp (by omega)
  · rw [hcs]; exact Nat.gcd_le_right _ (by omega)
def mk (p q r : Int) : D := .tup [.int p, .int q, .int r]
def S_mark : DSpec := fun ds M Q => ∃ x y u : Int, ds = [.int x, .int y, .int u] ∧ u ≠ 0 ∧ lg u < 8000 ∧ ∀ p q r, Low3 p q r → p * u = x * r → q * u = y * r → p.natAbs ≤ x.natAbs → q.natAbs ≤ y.natAbs → r.natAbs ≤ u.natAbs → Q (.tup [.int p, .int q, .int r]) M
/-- of one place: its east, its north -/
def S_half (f : Int → Int → Int) : DSpec := fun ds M Q => ∃ x y u : Int, ds = [.tup [.int x, .int y, .int u]] ∧ u ≠ 0 ∧ lg u < 8000 ∧ ∀ p q, Low p q → p * u = q * f x y → p.natAbs ≤ (f x y).natAbs → q.natAbs ≤ u.natAbs → Q (.tup [.int p, .int q]) M
def S_apart : DSpec := fun ds M Q => ∃ (k : Nat) (a b u c d v : Int), ds = [.tup [.int a, .int b, .int u], .tup [.int c, .int d, .int v]] ∧ k ≤ 400 ∧ a.natAbs < 2 ^ k ∧ b.natAbs < 2 ^ k ∧ u.natAbs < 2 ^ k ∧ c.natAbs < 2 ^ k ∧ d.natAbs < 2 ^ k ∧ v.natAbs < 2 ^ k ∧ u ≠ 0 ∧ v ≠ 0 ∧
  ∀ p q, Low p q → p * ((u * v) * (u * v)) = q * ((a * v - c * u) * (a * v - c * u) + (b * v - d * u) * (b * v - d * u)) → p.natAbs < 2 ^ (4 * k + 3) → q.natAbs < 2 ^ (4 * k + 3) → Q (.tup [.int p, .int q]) M
/-- of two places: over w times both unders -/
def S_two (w : Int) : DSpec := fun ds M Q => ∃ (k : Nat) (a b u c d v : Int), ds = [.tup [.int a, .int b, .int u], .tup [.int c, .int d, .int v]] ∧ k ≤ 900 ∧ a.natAbs < 2 ^ k ∧ b.natAbs < 2 ^ k ∧ u.natAbs < 2 ^ k ∧ c.natAbs < 2 ^ k ∧ d.natAbs < 2 ^ k ∧ v.natAbs < 2 ^ k ∧ u ≠ 0 ∧ v ≠ 0 ∧
  ∀ p q r, Low3 p q r → p * (w * u * v) = (a * v + c * u) * r → q * (w * u * v) = (b * v + d * u) * r → p.natAbs < 2 ^ (2 * k + 2) → q.natAbs < 2 ^ (2 * k + 2) → r.natAbs < 2 ^ (2 * k + 2) → Q (.tup [.int p, .int q, .int r]) M
def ir_mark_4 : IS :=
  .seq (.ret (.tup (.cons (.bin .FloorDiv (.var 0) (.var 3)) (.cons (.bin .FloorDiv (.var 1) (.var 3)) (.cons (.bin .FloorDiv (.var 2) (.var 3)) .nil))))) .skip
def ir_mark_3 : IS :=
  .seq (.asg (.v 3) (.bin .Sub (.int 0) (.var 3))) .skip
def ir_mark_2 : IS :=
  .seq (.ite (.cmp .Lt (.var 2) (.int 0)) ir_mark_3 .skip) ir_mark_4
def ir_mark_1 : IS :=
  .seq (.asg (.v 3) (.call "common_divisor" (.cons (.call "common_divisor" (.cons (.blt .abs (.cons (.var 0) .nil)) (.cons (.blt .abs (.cons (.var 1) .nil)) .nil))) (.cons (.blt .abs (.cons (.var 2) .nil)) .nil)))) ir_mark_2
abbrev ir_mark : IS := ir_mark_1
-- slots ['x', 'y', 'under', 'shared']
def ir_mark_of_1 : IS :=
  .seq (.ret (.tup (.cons (.ix (.var 0) (.int 0)) (.cons (.ix (.var 0) (.int 1)) (.cons (.int 1) .nil))))) .skip
abbrev ir_mark_of : IS := ir_mark_of_1
-- slots ['point']
def ir_east_1 : IS :=
  .seq (.ret (.call "fraction" (.cons (.ix (.var 0) (.int 0)) (.cons (.ix (.var 0) (.int 2)) .nil)))) .skip
abbrev ir_east : IS := ir_east_1
-- slots ['place']
def ir_north_1 : IS :=
  .seq (.ret (.call "fraction" (.cons (.ix (.var 0) (.int 1)) (.cons (.ix (.var 0) (.int 2)) .nil)))) .skip
abbrev ir_north : IS := ir_north_1
-- slots ['place']
def ir_apart_4 : IS :=
  .seq (.ret (.call "fraction" (.cons (.bin .Add (.bin .Mult (.var 2) (.var 2)) (.bin .Mult (.var 3) (.var 3))) (.cons (.bin .Mult (.var 4) (.var 4)) .nil)))) .skip
def ir_apart_3 : IS :=
  .seq (.asg (.v 4) (.bin .Mult (.ix (.var 0) (.int 2)) (.ix (.var 1) (.int 2)))) ir_apart_4
def ir_apart_2 : IS :=
  .seq (.asg (.v 3) (.bin .Sub (.bin .Mult (.ix (.var 0) (.int 1)) (.ix (.var 1) (.int 2))) (.bin .Mult (.ix (.var 1) (.int 1)) (.ix (.var 0) (.int 2))))) ir_apart_3
def ir_apart_1 : IS :=
  .seq (.asg (.v 2) (.bin .Sub (.bin .Mult (.ix (.var 0) (.int 0)) (.ix (.var 1) (.int 2))) (.bin .Mult (.ix (.var 1) (.int 0)) (.ix (.var 0) (.int 2))))) ir_apart_2
abbrev ir_apart : IS := ir_apart_1
-- slots ['one', 'other', 'wide', 'high', 'under']
def ir_middle_3 : IS :=
  .seq (.ret (.call "mark" (.cons (.var 2) (.cons (.var 3) (.cons (.bin .Mult (.bin .Mult (.int 2) (.ix (.var 0) (.int 2))) (.ix (.var 1) (.int 2))) .nil))))) .skip
def ir_middle_2 : IS :=
  .seq (.asg (.v 3) (.bin .Add (.bin .Mult (.ix (.var 0) (.int 1)) (.ix (.var 1) (.int 2))) (.bin .Mult (.ix (.var 1) (.int 1)) (.ix (.var 0) (.int 2))))) ir_middle_3
def ir_middle_1 : IS :=
  .seq (.asg (.v 2) (.bin .Add (.bin .Mult (.ix (.var 0) (.int 0)) (.ix (.var 1) (.int 2))) (.bin .Mult (.ix (.var 1) (.int 0)) (.ix (.var 0) (.int 2))))) ir_middle_2
abbrev ir_middle : IS := ir_middle_1
-- slots ['one', 'other', 'x', 'y']
def ir_shifted_3 : IS :=
  .seq (.ret (.call "mark" (.cons (.var 2) (.cons (.var 3) (.cons (.bin .Mult (.ix (.var 0) (.int 2)) (.ix (.var 1) (.int 2))) .nil))))) .skip
def ir_shifted_2 : IS :=
  .seq (.asg (.v 3) (.bin .Add (.bin .Mult (.ix (.var 0) (.int 1)) (.ix (.var 1) (.int 2))) (.bin .Mult (.ix (.var 1) (.int 1)) (.ix (.var 0) (.int 2))))) ir_shifted_3
def ir_shifted_1 : IS :=
  .seq (.asg (.v 2) (.bin .Add (.bin .Mult (.ix (.var 0) (.int 0)) (.ix (.var 1) (.int 2))) (.bin .Mult (.ix (.var 1) (.int 0)) (.ix (.var 0) (.int 2))))) ir_shifted_2
abbrev ir_shifted : IS := ir_shifted_1
-- slots ['place', 'by', 'x', 'y']
theorem mark_ok (G : Gam) (h : G "common_divisor" = S_gcd) : ∀ ds M Q, S_mark ds M Q → wpS G ir_mark (bodyE Q) (startD (4 - ds.length) ds) M := by
  rintro ds M Q ⟨x, y, u, rfl, hu, hlu, q⟩
  simp [ir_mark_1, w_av, startD, h, abs_nat]
  refine ⟨x.natAbs, y.natAbs, rfl, _, u.natAbs, rfl, ?_⟩
  simp [ir_mark_2, ir_mark_3, w_ite, w_skip, w_av]
  have key : ∀ c : Int, c = (if u < 0 then -((Nat.gcd (Nat.gcd x.natAbs y.natAbs) u.natAbs : Nat) : Int) else ((Nat.gcd (Nat.gcd x.natAbs y.natAbs) u.natAbs : Nat) : Int)) → wpS G ir_mark_4 (bodyE Q) [some (.int x), some (.int y), some (.int u), some (.int c)] M := by
    intro c hc
    obtain ⟨h1, h2, h3, h4, h5, h6, h7, h8⟩ := mark_low hu hc
    have hl : lg c ≤ lg u := lg_mono h8
    simp [ir_mark_4, w_ret]
    exact ⟨h7, by omega, h7, by omega, h7, by omega, sz (by omega), q _ _ _ h1 h2 h3 h4 h5 h6⟩
  split
  · rename_i h0
    exact key _ (by rw [if_pos h0])
  · rename_i h0
    exact key _ (by rw [if_neg h0])
theorem east_ok (G : Gam) (h : G "fraction" = S_fraction) : ∀ ds M Q, S_half (fun x _ => x) ds M Q → wpS G ir_east (bodyE Q) (startD (1 - ds.length) ds) M := by
  rintro ds M Q ⟨x, y, u, rfl, hu, hlu, q⟩
  simp [ir_east_1, w_ret, startD, h]
  exact ⟨x, u, rfl, hu, hlu, q⟩
theorem north_ok (G : Gam) (h : G "fraction" = S_fraction) : ∀ ds M Q, S_half (fun _ y => y) ds M Q → wpS G ir_north (bodyE Q) (startD (1 - ds.length) ds) M := by
  rintro ds M Q ⟨x, y, u, rfl, hu, hlu, q⟩
  simp [ir_north_1, w_ret, startD, h]
  exact ⟨y, u, rfl, hu, hlu, q⟩
theorem apart_ok (G : Gam) (h : G "fraction" = S_fraction) : ∀ ds M Q, S_apart ds M Q → wpS G ir_apart (bodyE Q) (startD (5 - ds.length) ds) M := by
  rintro ds M Q ⟨k, a, b, u, c, d, v, rfl, hk, ha, hb, hu, hc, hd, hv, u0, v0, q⟩
  have la := lg_of ha
  have lb := lg_of hb
  have lu := lg_of hu
  have lc := lg_of hc
  have ld := lg_of hd
  have lv := lg_of hv
  have m1 := sub_lt' (mul_lt ha hv) (mul_lt hc hu)
  have m2 := sub_lt' (mul_lt hb hv) (mul_lt hd hu)
  have m3 := mul_lt hu hv
  have l1 := lg_of m1
  have l2 := lg_of m2
  have l3 := lg_of m3
  simp [ir_apart_1, w_av, startD]
  refine ⟨by omega, by omega, ?_⟩
  simp [ir_apart_2, w_av]
  refine ⟨by omega, by omega, ?_⟩
  simp [ir_apart_3, w_av]
  refine ⟨by omega, ?_⟩
  simp [ir_apart_4, w_ret, h]
  have uv0 : u * v ≠ 0 := Int.mul_ne_zero u0 v0
  have m4 := up_lt (j := 4 * k + 3) (add_lt (mul_lt m1 m1) (mul_lt m2 m2)) (by omega)
  have m5 := up_lt (j := 4 * k + 3) (mul_lt m3 m3) (by omega)
  refine ⟨by omega, by omega, by omega, _, _, rfl, Int.mul_ne_zero uv0 uv0, lg_small m5 (by omega), fun p r hl he hp hr => ?_⟩
  exact q p r hl he (by omega) (by omega)
theorem middle_ok (G : Gam) (h : G "mark" = S_mark) : ∀ ds M Q, S_two 2 ds M Q → wpS G ir_middle (bodyE Q) (startD (4 - ds.length) ds) M := by
  rintro ds M Q ⟨k, a, b, u, c, d, v, rfl, hk, ha, hb, hu, hc, hd, hv, u0, v0, q⟩
  have la := lg_of ha
  have lb := lg_of hb
  have lu := lg_of hu
  have lc := lg_of hc
  have ld := lg_of hd
  have lv := lg_of hv
  have m1 := up_lt (j := 2 * k + 2) (add_lt (mul_lt ha hv) (mul_lt hc hu)) (by omega)
  have m2 := up_lt (j := 2 * k + 2) (add_lt (mul_lt hb hv) (mul_lt hd hu)) (by omega)
  have m0 : (2 * u).natAbs < 2 ^ (2 + k) := mul_lt (k := 2) (by decide) hu
  have l0 := lg_of m0
  have m3 := up_lt (j := 2 * k + 2) (mul_lt m0 hv) (by omega)
  have l2 : lg 2 = 1 := by decide
  simp [ir_middle_1, w_av, startD]
  refine ⟨by omega, by omega, ?_⟩
  simp [ir_middle_2, w_av]
  refine ⟨by omega, by omega, ?_⟩
  simp [ir_middle_3, w_ret, h]
  refine ⟨by omega, by omega, _, _, _, rfl, Int.mul_ne_zero (Int.mul_ne_zero (by decide) u0) v0, lg_small m3 (by omega), fun p r s hl he he' hp hr hs => ?_⟩
  exact q p r s hl he he' (by omega) (by omega) (by omega)
theorem shifted_ok (G : Gam) (h : G "mark" = S_mark) : ∀ ds M Q, S_two 1 ds M Q → wpS G ir_shifted (bodyE Q) (startD (4 - ds.length) ds) M := by
  rintro ds M Q ⟨k, a, b, u, c, d, v, rfl, hk, ha, hb, hu, hc, hd, hv, u0, v0, q⟩
  have la := lg_of ha
  have lb := lg_of hb
  have lu := lg_of hu
  have lc := lg_of hc
  have ld := lg_of hd
  have lv := lg_of hv
  have m1 := up_lt (j := 2 * k + 2) (add_lt (mul_lt ha hv) (mul_lt hc hu)) (by omega)
  have m2 := up_lt (j := 2 * k + 2) (add_lt (mul_lt hb hv) (mul_lt hd hu)) (by omega)
  have m3 := up_lt (j := 2 * k + 2) (mul_lt hu hv) (by omega)
  simp [ir_shifted_1, w_av, startD]
  refine ⟨by omega, by omega, ?_⟩
  simp [ir_shifted_2, w_av]
  refine ⟨by omega, by omega, ?_⟩
  simp [ir_shifted_3, w_ret, h]
  refine ⟨by omega, _, _, _, rfl, Int.mul_ne_zero u0 v0, lg_small m3 (by omega), fun p r s hl he he' hp hr hs => ?_⟩
  exact q p r s hl (by rw [Int.one_mul]; exact he) (by rw [Int.one_mul]; exact he') (by omega) (by omega) (by omega)
def S_markof : DSpec := fun ds M Q => ∃ x y : Int, ds = [.tup [.int x, .int y]] ∧ Q (.tup [.int x, .int y, .int 1]) M
theorem mark_of_ok (G : Gam) : ∀ ds M Q, S_markof ds M Q → wpS G ir_mark_of (bodyE Q) (startD (1 - ds.length) ds) M := by
  rintro ds M Q ⟨x, y, rfl, q⟩
  simp [ir_mark_of_1, w_ret, startD]
  exact ⟨sz (by omega), q⟩
/-- asked of three numbers in lowest terms that are due -/
def S_ismkof : DSpec := fun ds M Q => ∃ (p q r x y u : Int), ds = [.tup [.int p, .int q, .int r], .int x, .int y, .int u] ∧ Low3 p q r ∧ p.natAbs < 2 ^ 1900 ∧ q.natAbs < 2 ^ 1900 ∧ r.natAbs < 2 ^ 1900 ∧ lg x < 9000 ∧ lg y < 9000 ∧ lg u < 9000 ∧ p * u = x * r ∧ q * u = y * r ∧ ∀ M', Ex M M' → Q (.bl true) M'
end DL

set_option Elab.async false
set_option linter.all false
set_option maxRecDepth 100000
set_option maxHeartbeats 4000000
set_option exponentiation.threshold 3000
namespace DL
open PySem L2
def tri (a b c d e f : Int) : Int := (c - a) * (f - b) - (d - b) * (e - a)
def sgn (i : Int) : Int := (if 0 < i then 1 else 0) - (if i < 0 then 1 else 0)
def S_tri : DSpec := fun ds M Q => ∃ (k : Nat) (a b c d e f : Int), ds = [.tup [.int a, .int b], .tup [.int c, .int d], .tup [.int e, .int f]] ∧ k ≤ 4000 ∧ a.natAbs < 2 ^ k ∧ b.natAbs < 2 ^ k ∧ c.natAbs < 2 ^ k ∧ d.natAbs < 2 ^ k ∧ e.natAbs < 2 ^ k ∧ f.natAbs < 2 ^ k ∧ Q (.int (tri a b c d e f)) M
def S_sign : DSpec := fun ds M Q => ∃ i : Int, ds = [.int i] ∧ Q (.int (sgn i)) M
def S_turnof : DSpec := fun ds M Q => ∃ (k : Nat) (a b u c d v e f w : Int), ds = [.tup [.int a, .int b, .int u], .tup [.int c, .int d, .int v], .tup [.int e, .int f, .int w]] ∧ k ≤ 2000 ∧ a.natAbs < 2 ^ k ∧ b.natAbs < 2 ^ k ∧ u.natAbs < 2 ^ k ∧ c.natAbs < 2 ^ k ∧ d.natAbs < 2 ^ k ∧ v.natAbs < 2 ^ k ∧ e.natAbs < 2 ^ k ∧ f.natAbs < 2 ^ k ∧ w.natAbs < 2 ^ k ∧
  Q (.int (sgn ((c * u - a * v) * (f * u - b * w) - (d * u - b * v) * (e * u - a * w)))) M
def isWay : D → Bool
  | .tup [.int a, .int b] => !decide (a = 0) || !decide (b = 0)
  | _ => false
def S_bare : DSpec := fun ds M Q => ∃ (a b : Int), ds = [.tup [.int a, .int b]] ∧ (a ≠ 0 ∨ b ≠ 0) ∧ lg a < 8000 ∧ lg b < 8000 ∧ ∀ s p q, 0 < s → a = s * p → b = s * q → Nat.gcd p.natAbs q.natAbs = 1 → Q (.tup [.int p, .int q]) M
def S_left : DSpec := fun ds M Q => ∃ (a b : Int), ds = [.tup [.int a, .int b]] ∧ Q (.tup [.int (-b), .int a]) M
def S_cross : DSpec := fun ds M Q => ∃ (a b c d : Int), ds = [.tup [.int a, .int b], .tup [.int c, .int d]] ∧ lg a < 9000 ∧ lg b < 9000 ∧ lg c < 9000 ∧ lg d < 9000 ∧ Q (.int (a * d - b * c)) M
def alk (a b c d : Int) : Bool := decide (a * d - b * c = 0) && decide (0 < a * c + b * d)
def S_alike : DSpec := fun ds M Q => ∃ (a b c d : Int), ds = [.tup [.int a, .int b], .tup [.int c, .int d]] ∧ lg a < 9000 ∧ lg b < 9000 ∧ lg c < 9000 ∧ lg d < 9000 ∧ Q (.bl (alk a b c d)) M
def S_along : DSpec := fun ds M Q => ∃ (a b x y u : Int), ds = [.tup [.int a, .int b], .tup [.int x, .int y, .int u]] ∧ u ≠ 0 ∧ lg a < 8000 ∧ lg b < 8000 ∧ lg x < 8000 ∧ lg y < 8000 ∧ lg u < 8000 ∧
  ∀ p q, Low p q → p * u = q * (a * x + b * y) → p.natAbs ≤ (a * x + b * y).natAbs → q.natAbs ≤ u.natAbs → Q (.tup [.int p, .int q]) M
def ir_turn_1 : IS :=
  .seq (.ret (.bin .Sub (.bin .Mult (.bin .Sub (.ix (.var 1) (.int 0)) (.ix (.var 0) (.int 0))) (.bin .Sub (.ix (.var 2) (.int 1)) (.ix (.var 0) (.int 1)))) (.bin .Mult (.bin .Sub (.ix (.var 1) (.int 1)) (.ix (.var 0) (.int 1))) (.bin .Sub (.ix (.var 2) (.int 0)) (.ix (.var 0) (.int 0)))))) .skip
abbrev ir_turn : IS := ir_turn_1
-- slots ['one', 'two', 'three']
def ir_sign_of_1 : IS :=
  .seq (.ret (.bin .Sub (.blt .int (.cons (.cmp .Gt (.var 0) (.int 0)) .nil)) (.blt .int (.cons (.cmp .Lt (.var 0) (.int 0)) .nil)))) .skip
abbrev ir_sign_of : IS := ir_sign_of_1
-- slots ['number']
def ir_turn_of_3 : IS :=
  .seq (.ret (.call "sign_of" (.cons (.bin .Sub (.var 3) (.var 4)) .nil))) .skip
def ir_turn_of_2 : IS :=
  .seq (.asg (.v 4) (.bin .Mult (.bin .Sub (.bin .Mult (.ix (.var 1) (.int 1)) (.ix (.var 0) (.int 2))) (.bin .Mult (.ix (.var 0) (.int 1)) (.ix (.var 1) (.int 2)))) (.bin .Sub (.bin .Mult (.ix (.var 2) (.int 0)) (.ix (.var 0) (.int 2))) (.bin .Mult (.ix (.var 0) (.int 0)) (.ix (.var 2) (.int 2)))))) ir_turn_of_3
def ir_turn_of_1 : IS :=
  .seq (.asg (.v 3) (.bin .Mult (.bin .Sub (.bin .Mult (.ix (.var 1) (.int 0)) (.ix (.var 0) (.int 2))) (.bin .Mult (.ix (.var 0) (.int 0)) (.ix (.var 1) (.int 2)))) (.bin .Sub (.bin .Mult (.ix (.var 2) (.int 1)) (.ix (.var 0) (.int 2))) (.bin .Mult (.ix (.var 0) (.int 1)) (.ix (.var 2) (.int 2)))))) ir_turn_of_2
abbrev ir_turn_of : IS := ir_turn_of_1
-- slots ['one', 'two', 'three', 'first', 'second']
def ir_is_way_3 : IS :=
  .seq (.ret (.or (.cmp .NotEq (.ix (.var 0) (.int 0)) (.int 0)) (.one (.cmp .NotEq (.ix (.var 0) (.int 1)) (.int 0))))) .skip
def ir_is_way_2 : IS :=
  .seq (.ret (.bl false)) .skip
def ir_is_way_1 : IS :=
  .seq (.ite (.or (.not (.isi (.var 0) ["tuple"])) (.or (.cmp .NotEq (.blt .len (.cons (.var 0) .nil)) (.int 2)) (.or (.not (.call "is_number" (.cons (.ix (.var 0) (.int 0)) .nil))) (.one (.not (.call "is_number" (.cons (.ix (.var 0) (.int 1)) .nil))))))) ir_is_way_2 .skip) ir_is_way_3
abbrev ir_is_way : IS := ir_is_way_1
-- slots ['thing']
def ir_bare_2 : IS :=
  .seq (.ret (.tup (.cons (.bin .FloorDiv (.ix (.var 0) (.int 0)) (.var 1)) (.cons (.bin .FloorDiv (.ix (.var 0) (.int 1)) (.var 1)) .nil)))) .skip
def ir_bare_1 : IS :=
  .seq (.asg (.v 1) (.call "common_divisor" (.cons (.blt .abs (.cons (.ix (.var 0) (.int 0)) .nil)) (.cons (.blt .abs (.cons (.ix (.var 0) (.int 1)) .nil)) .nil)))) ir_bare_2
abbrev ir_bare : IS := ir_bare_1
-- slots ['way', 'shared']
def ir_left_of_1 : IS :=
  .seq (.ret (.tup (.cons (.bin .Sub (.int 0) (.ix (.var 0) (.int 1))) (.cons (.ix (.var 0) (.int 0)) .nil)))) .skip
abbrev ir_left_of : IS := ir_left_of_1
-- slots ['way']
def ir_cross_1 : IS :=
  .seq (.ret (.bin .Sub (.bin .Mult (.ix (.var 0) (.int 0)) (.ix (.var 1) (.int 1))) (.bin .Mult (.ix (.var 0) (.int 1)) (.ix (.var 1) (.int 0))))) .skip
abbrev ir_cross : IS := ir_cross_1
-- slots ['one', 'other']
def ir_goes_alike_1 : IS :=
  .seq (.ret (.and (.cmp .Eq (.call "cross" (.cons (.var 0) (.cons (.var 1) .nil))) (.int 0)) (.one (.cmp .Gt (.bin .Add (.bin .Mult (.ix (.var 0) (.int 0)) (.ix (.var 1) (.int 0))) (.bin .Mult (.ix (.var 0) (.int 1)) (.ix (.var 1) (.int 1)))) (.int 0))))) .skip
abbrev ir_goes_alike : IS := ir_goes_alike_1
-- slots ['one', 'other']
def ir_along_1 : IS :=
  .seq (.ret (.call "fraction" (.cons (.bin .Add (.bin .Mult (.ix (.var 0) (.int 0)) (.ix (.var 1) (.int 0))) (.bin .Mult (.ix (.var 0) (.int 1)) (.ix (.var 1) (.int 1)))) (.cons (.ix (.var 1) (.int 2)) .nil)))) .skip
abbrev ir_along : IS := ir_along_1
-- slots ['way', 'place']
theorem lg_sub {i j : Int} : lg (i - j) ≤ lg i + lg j + 1 := by
  have h := lg_add (i := i) (j := -j)
  have e : lg (-j) = lg j := by unfold lg; rw [Int.natAbs_neg]
  rw [e] at h
  exact h
theorem turn_ok (G : Gam) : ∀ ds M Q, S_tri ds M Q → wpS G ir_turn (bodyE Q) (startD (3 - ds.length) ds) M := by
  rintro ds M Q ⟨k, a, b, c, d, e, f, rfl, hk, ha, hb, hc, hd, he, hf, q⟩
  have l1 := lg_of (sub_lt' hc ha)
  have l2 := lg_of (sub_lt' hf hb)
  have l3 := lg_of (sub_lt' hd hb)
  have l4 := lg_of (sub_lt' he ha)
  simp [ir_turn_1, w_ret, startD]
  exact ⟨by omega, by omega, q⟩
theorem sign_of_ok (G : Gam) : ∀ ds M Q, S_sign ds M Q → wpS G ir_sign_of (bodyE Q) (startD (1 - ds.length) ds) M := by
  rintro ds M Q ⟨i, rfl, q⟩
  simp [ir_sign_of_1, w_ret, startD]
  exact q
theorem turn_of_ok (G : Gam) (h : G "sign_of" = S_sign) : ∀ ds M Q, S_turnof ds M Q → wpS G ir_turn_of (bodyE Q) (startD (5 - ds.length) ds) M := by
  rintro ds M Q ⟨k, a, b, u, c, d, v, e, f, w, rfl, hk, ha, hb, hu, hc, hd, hv, he, hf, hw, q⟩
  have la := lg_of ha
  have lb := lg_of hb
  have lu := lg_of hu
  have lc := lg_of hc
  have ld := lg_of hd
  have lv := lg_of hv
  have le := lg_of he
  have lf := lg_of hf
  have lw := lg_of hw
  have l1 := lg_of (sub_lt' (mul_lt hc hu) (mul_lt ha hv))
  have l2 := lg_of (sub_lt' (mul_lt hf hu) (mul_lt hb hw))
  have l3 := lg_of (sub_lt' (mul_lt hd hu) (mul_lt hb hv))
  have l4 := lg_of (sub_lt' (mul_lt he hu) (mul_lt ha hw))
  clear ha hb hu hc hd hv he hf hw
  simp [ir_turn_of_1, w_av, startD]
  refine ⟨by omega, by omega, by omega, by omega, by omega, ?_⟩
  simp [ir_turn_of_2, w_av]
  refine ⟨by omega, by omega, by omega, by omega, by omega, ?_⟩
  simp [ir_turn_of_3, w_ret, h]
  exact ⟨_, rfl, q⟩
theorem isWay_l {x y : D} (h : isI x = false) : isWay (.tup [x, y]) = false := by cases x <;> first | rfl | cases h
theorem isWay_r {x y : D} (h : isI y = false) : isWay (.tup [x, y]) = false := by cases x <;> cases y <;> first | rfl | cases h
theorem isWay_len {xs : List D} (h : ¬ xs.length = 2) : isWay (.tup xs) = false := by
  match xs, h with
  | [], _ => rfl
  | [x], _ => cases x <;> rfl
  | [_, _], h => exact absurd rfl h
  | _ :: _ :: _ :: _, _ => unfold isWay; simp
theorem is_way_ok (G : Gam) (h1 : G "is_number" = S_isnum) : ∀ ds M Q, S_kind isWay ds M Q → wpS G ir_is_way (bodyE Q) (startD (1 - ds.length) ds) M := by
  rintro ds M Q ⟨n, b, t, w, d, rfl, hb, hb8, ht, hw, hz, q⟩
  replace q := q M (Ex.refl M)
  cases hz with
  | tup l =>
    rename_i t xs
    simp [ir_is_way_1, w_ite, w_skip, startD, isiD, tyD, isIn, h1]
    by_cases h2 : xs.length = 2
    · match xs, h2 with
      | [x, y], _ =>
        cases l with | cons hx l _ =>
        cases l with | cons hy l _ =>
        simp [S_isnum, hx.noS, hy.noS]
        cases hxi : isI x with
        | false =>
          rw [isWay_l hxi] at q
          simpa [ir_is_way_2, w_ret] using q
        | true =>
          cases hyi : isI y with
          | false =>
            rw [isWay_r hyi] at q
            simpa [ir_is_way_2, w_ret] using q
          | true =>
            obtain ⟨i, rfl⟩ := isI_of hxi
            obtain ⟨j, rfl⟩ := isI_of hyi
            simp [ir_is_way_3, w_ret]
            split
            · rename_i h0
              simpa [isWay, h0] using q
            · rename_i h0
              simpa [isWay, h0] using q
    · have h3 : ¬ ((xs.length : Int) = 2) := by omega
      simp [h3, ir_is_way_2, w_ret]
      rw [isWay_len h2] at q
      simpa [h2] using q
  | _ =>
    simp [ir_is_way_1, ir_is_way_2, w_ite, w_skip, w_ret, startD, isiD, tyD, isIn]
    exact q
theorem bare_ok (G : Gam) (h : G "common_divisor" = S_gcd) : ∀ ds M Q, S_bare ds M Q → wpS G ir_bare (bodyE Q) (startD (2 - ds.length) ds) M := by
  rintro ds M Q ⟨a, b, rfl, h0, la, lb, q⟩
  simp [ir_bare_1, w_av, startD, h, abs_nat]
  refine ⟨a.natAbs, b.natAbs, rfl, ?_⟩
  have hs : 0 < Nat.gcd a.natAbs b.natAbs := by
    rcases h0 with h0 | h0
    · exact Nat.gcd_pos_of_pos_left _ (by omega)
    · exact Nat.gcd_pos_of_pos_right _ (by omega)
  have hl : lg ((Nat.gcd a.natAbs b.natAbs : Nat) : Int) < 9000 := by
    rcases h0 with h0 | h0
    · have : lg ((Nat.gcd a.natAbs b.natAbs : Nat) : Int) ≤ lg a := lg_mono (by simpa using Nat.gcd_le_left _ (by omega))
      omega
    · have : lg ((Nat.gcd a.natAbs b.natAbs : Nat) : Int) ≤ lg b := lg_mono (by simpa using Nat.gcd_le_right _ (by omega))
      omega
  obtain ⟨x, hx⟩ : ((Nat.gcd a.natAbs b.natAbs : Nat) : Int) ∣ a := by rw [← Int.natAbs_dvd_natAbs]; simpa using Nat.gcd_dvd_left a.natAbs b.natAbs
  obtain ⟨y, hy⟩ : ((Nat.gcd a.natAbs b.natAbs : Nat) : Int) ∣ b := by rw [← Int.natAbs_dvd_natAbs]; simpa using Nat.gcd_dvd_right a.natAbs b.natAbs
  generalize hg : Nat.gcd a.natAbs b.natAbs = g at *
  have g0 : ((g : Nat) : Int) ≠ 0 := by omega
  have e1 : a.fdiv g = x := by rw [hx]; exact Int.mul_fdiv_cancel_left _ g0
  have e2 : b.fdiv g = y := by rw [hy]; exact Int.mul_fdiv_cancel_left _ g0
  simp only [ir_bare_2, w_ret, bodyE_rt, wpE_tup, wpA_cons, wpA_nil, wpE_bin, wpE_var, getV_0, getV_s, onV_some', binD_FloorDiv, wpE_ix, wpE_int, ixD_i, seqOf_t, atD_0, atD_1]
  simp
  refine ⟨by omega, hl, by omega, hl, sz (by omega), ?_⟩
  rw [e1, e2]
  refine q g x y (by omega) hx hy ?_
  have a1 : a.natAbs = g * x.natAbs := by rw [hx, Int.natAbs_mul]; simp
  have a2 : b.natAbs = g * y.natAbs := by rw [hy, Int.natAbs_mul]; simp
  rw [a1, a2, Nat.gcd_mul_left] at hg
  exact Nat.eq_of_mul_eq_mul_left hs (by omega)
theorem left_of_ok (G : Gam) : ∀ ds M Q, S_left ds M Q → wpS G ir_left_of (bodyE Q) (startD (1 - ds.length) ds) M := by
  rintro ds M Q ⟨a, b, rfl, q⟩
  simp [ir_left_of_1, w_ret, startD]
  exact ⟨sz (by omega), q⟩
theorem cross_ok (G : Gam) : ∀ ds M Q, S_cross ds M Q → wpS G ir_cross (bodyE Q) (startD (2 - ds.length) ds) M := by
  rintro ds M Q ⟨a, b, c, d, rfl, la, lb, lc, ld, q⟩
  simp [ir_cross_1, w_ret, startD]
  exact ⟨by omega, by omega, q⟩
theorem goes_alike_ok (G : Gam) (h : G "cross" = S_cross) : ∀ ds M Q, S_alike ds M Q → wpS G ir_goes_alike (bodyE Q) (startD (2 - ds.length) ds) M := by
  rintro ds M Q ⟨a, b, c, d, rfl, la, lb, lc, ld, q⟩
  simp [ir_goes_alike_1, w_ret, startD, h]
  refine ⟨a, b, c, d, rfl, la, lb, lc, ld, ?_⟩
  by_cases h0 : a * d - b * c = 0
  · simp [h0]
    refine ⟨by omega, by omega, ?_⟩
    simpa [alk, h0] using q
  · simp [h0]
    simpa [alk, h0] using q
theorem along_ok (G : Gam) (h : G "fraction" = S_fraction) : ∀ ds M Q, S_along ds M Q → wpS G ir_along (bodyE Q) (startD (2 - ds.length) ds) M := by
  rintro ds M Q ⟨a, b, x, y, u, rfl, hu, la, lb, lx, ly, lu, q⟩
  simp [ir_along_1, w_ret, startD, h]
  exact ⟨by omega, by omega, _, _, rfl, hu, lu, q⟩
end DL

set_option Elab.async false
set_option linter.all false
set_option maxRecDepth 100000
set_option maxHeartbeats 4000000
set_option exponentiation.threshold 3000
namespace DL
open PySem L2
/-- a comprehension whose turns let the memory grow -/
theorem w_compX {G : Gam} {elt it cond : IE} {vs tg : List Nat} {ρ : En} {M : Mem} {Q : Kn} {xs : List D} {src : Src} (f : D → Option D) (hit : ∀ S : Src → Mem → Prop, S src M → wpI G it ρ M S) (hs : ∀ M1, Ex M M1 → items M1 src = some xs) (hl : xs.length < sizeLine)
    (he : ∀ x ∈ xs, ∀ M1, Ex M M1 → ∀ R : Option D → Mem → Prop, (∀ M2, Ex M1 M2 → R (f x) M2) → tgV tg x (wipesV ρ vs) fun ρ' => wpC G cond ρ' M1 fun b M2 => if b = true then wpE G elt ρ' M2 fun y M3 => R (some y) M3 else R none M2)
    (q : ∀ M1, Ex M M1 → Q (.lst M1.length) (M1 ++ [xs.filterMap f])) : wpE G (.comp elt vs tg it cond) ρ M Q := by
  refine w_comp (hit _ ?_)
  refine ⟨xs, hs M (Ex.refl M), hl, fun i acc M' => Ex M M' ∧ acc = (xs.take i).filterMap f, ⟨Ex.refl M, by simp⟩, ?_, ?_, ?_⟩
  · rintro i acc M' hi ⟨ex, rfl⟩
    exact ⟨Nat.le_trans (List.length_filterMap_le _ _) (by simp; omega), hs M' ex⟩
  · rintro i x acc M' hx ⟨ex, rfl⟩
    have hi : i < xs.length := (List.getElem?_eq_some_iff.mp hx).1
    have ht : xs.take (i + 1) = xs.take i ++ [x] := by rw [List.take_add_one, hx]; rfl
    refine he x (List.mem_of_getElem? hx) M' ex (fun o M3 => match o with
      | some y => Ex M M3 ∧ (xs.take i).filterMap f ++ [y] = (xs.take (i + 1)).filterMap f
      | none => Ex M M3 ∧ (xs.take i).filterMap f = (xs.take (i + 1)).filterMap f) fun M2 e2 => ?_
    rw [ht, List.filterMap_append]
    cases h : f x <;> simp [h] <;> exact ex.trans e2
  · rintro acc M' ⟨ex, rfl⟩
    rw [List.take_of_length_le (Nat.le_refl _)]
    exact q M' ex
theorem shp2 {p q : Int} : SeqAt.shaped (.tuple [.int p, .int q]) = true := by simp [SeqAt.shaped, PyData.canLay0, PyData.canLayAll0, PyData.depth, PyData.depthAll]
theorem nep2 {p q p' q' : Int} {M : Mem} {Q : Kn} (r : Q (.bl (!decide (p = p' ∧ q = q'))) M) : cmpD .NotEq (.tup [.int p, .int q]) (.tup [.int p', .int q']) M Q := by
  show isOk M _ _ fun b => Q (.bl (!b)) M
  refine ⟨_, _, .tup (.cons (.int _) (.cons (.int _) .nil)), .tup (.cons (.int _) (.cons (.int _) .nil)), shp2, shp2, ?_⟩
  have e : PyData.eqv (.tuple [.int p, .int q]) (.tuple [.int p', .int q']) = decide (p = p' ∧ q = q') := by
    simp [PyData.eqv, PyData.eqvAll]
    by_cases h1 : p = p' <;> by_cases h2 : q = q' <;> simp [h1, h2]
  rw [e]; exact r
theorem eqp2 {p q p' q' : Int} {M : Mem} {Q : Kn} (r : Q (.bl (decide (p = p' ∧ q = q'))) M) : cmpD .Eq (.tup [.int p, .int q]) (.tup [.int p', .int q']) M Q := by
  show isOk M _ _ fun b => Q (.bl b) M
  refine ⟨_, _, .tup (.cons (.int _) (.cons (.int _) .nil)), .tup (.cons (.int _) (.cons (.int _) .nil)), shp2, shp2, ?_⟩
  have e : PyData.eqv (.tuple [.int p, .int q]) (.tuple [.int p', .int q']) = decide (p = p' ∧ q = q') := by
    simp [PyData.eqv, PyData.eqvAll]
    by_cases h1 : p = p' <;> by_cases h2 : q = q' <;> simp [h1, h2]
  rw [e]; exact r
theorem nots_ok {G : Gam} (h1 : G "_law_is_number" = S_isnum) {i j : Nat} {ρ : En} {M : Mem} {xs : List D} {R : Kn} (hv : getV ρ i = some (.tup xs)) (hj : ∀ x, getV (setV (wipeV ρ j) j x) j = some x) (hl : xs.length < sizeLine) (hx : ∀ x ∈ xs, isI x = true)
    (r : R (.lst M.length) (M ++ [[]])) : wpE G (.comp (.var j) [j] [j] (.cons (.var i) .nil) (.cons (.not (.call "_law_is_number" (.cons (.var j) .nil))) .nil)) ρ M R := by
  refine w_compV notI hv rfl hl ?_ ?_
  · intro x hx' R hR
    have hxi := hx x hx'
    have hxn : NoS x := by cases x <;> first | trivial | cases hxi
    simp [h1, S_isnum, hxn, hj, hxi]
    simpa [notI, hxi] using hR
  · rw [notI_nil.mpr hx]; exact r
theorem isOk_nn {k j : Nat} {M : Mem} {R : Bool → Prop} (g : M[k]? = some []) (g' : M[j]? = some []) (r : R true) : isOk M (.lst k) (.lst j) R :=
  ⟨_, _, .lst g .nil, .lst g' .nil, by decide, by decide, by simpa [PyData.eqv, PyData.eqvAll] using r⟩
/-- what repr asks of ints in tuples, named -/
theorem repr_i3 {p q s : Int} {k : Nat} (hk : k ≤ 1800) (hp : p.natAbs < 2 ^ k) (hq : q.natAbs < 2 ^ k) (hs : s.natAbs < 2 ^ k) (M : Mem) :
    PD M (.tup [.int p, .int q, .int s]) (.tuple [.int p, .int q, .int s]) ∧ (PyData.tuple [.int p, .int q, .int s]).showable = true ∧ (PyData.tuple [.int p, .int q, .int s]).hasDict = false ∧ (PyData.tuple [.int p, .int q, .int s]).depth ≤ 50 ∧ (PyData.tuple [.int p, .int q, .int s]).shown.length ≤ sizeLine := by
  have z : ∀ {x : Int}, x.natAbs < 2 ^ k → Nz 0 M 1801 0 0 (.int x) := fun h => .int (up_lt h (by omega))
  have hz : Nz 0 M 1801 1 3 (.tup [.int p, .int q, .int s]) := .tup (.cons (w1 := 0) (w2 := 2) (z hp) (.cons (w1 := 0) (w2 := 1) (z hq) (NzL.one (w := 0) (z hs) (by omega)) (by omega)) (by omega))
  obtain ⟨p', hp', h⟩ := hz.repr (by omega) (by omega) (by omega) (by omega)
  have hP : PD M (.tup [.int p, .int q, .int s]) (.tuple [.int p, .int q, .int s]) := .tup (.cons (.int _) (.cons (.int _) (.cons (.int _) .nil)))
  rw [hp'.uniq hP] at h
  exact ⟨hP, h⟩
theorem repr_i2 {p q : Int} {k : Nat} (hk : k ≤ 1800) (hp : p.natAbs < 2 ^ k) (hq : q.natAbs < 2 ^ k) (M : Mem) :
    PD M (.tup [.int p, .int q]) (.tuple [.int p, .int q]) ∧ (PyData.tuple [.int p, .int q]).showable = true ∧ (PyData.tuple [.int p, .int q]).hasDict = false ∧ (PyData.tuple [.int p, .int q]).depth ≤ 50 ∧ (PyData.tuple [.int p, .int q]).shown.length ≤ sizeLine := by
  have z : ∀ {x : Int}, x.natAbs < 2 ^ k → Nz 0 M 1801 0 0 (.int x) := fun h => .int (up_lt h (by omega))
  have hz : Nz 0 M 1801 1 2 (.tup [.int p, .int q]) := nz_pair (z hp) (z hq) (Nat.le_refl _)
  obtain ⟨p', hp', h⟩ := hz.repr (by omega) (by omega) (by omega) (by omega)
  have hP : PD M (.tup [.int p, .int q]) (.tuple [.int p, .int q]) := .tup (.cons (.int _) (.cons (.int _) .nil))
  rw [hp'.uniq hP] at h
  exact ⟨hP, h⟩
end DL

set_option Elab.async false
set_option linter.all false
set_option maxRecDepth 100000
set_option maxHeartbeats 2000000
set_option exponentiation.threshold 3000
namespace T_k05
open PySem L2 DL
def ir_law_round_2 : IS :=
  .seq (.ret (.bin .Add (.var 3) (.bin .Mult (.ix (.var 2) (.int 0)) (.bin .Sub (.ix (.var 0) (.int 1)) (.ix (.var 1) (.int 1)))))) .skip
def ir_law_round_1 : IS :=
  .seq (.asg (.v 3) (.bin .Add (.bin .Mult (.ix (.var 0) (.int 0)) (.bin .Sub (.ix (.var 1) (.int 1)) (.ix (.var 2) (.int 1)))) (.bin .Mult (.ix (.var 1) (.int 0)) (.bin .Sub (.ix (.var 2) (.int 1)) (.ix (.var 0) (.int 1)))))) ir_law_round_2
abbrev ir_law_round : IS := ir_law_round_1
-- slots ['_law_one', '_law_two', '_law_three', '_law_found']
def ir_law_third_4 : IS :=
  .seq (.ret (.ix (.lst (.cons (.tup (.cons (.call "_law_number" (.cons (.var 0) (.cons (.int 12) .nil))) (.cons (.call "_law_number" (.cons (.var 0) (.cons (.int 12) .nil))) .nil))) (.cons (.var 2) (.cons (.var 5) (.cons (.var 6) .nil))))) (.call "_law_draw" (.cons (.var 0) (.cons (.int 4) .nil))))) .skip
def ir_law_third_3 : IS :=
  .seq (.asg (.v 6) (.tup (.cons (.ix (.var 5) (.int 0)) (.cons (.ite (.cmp .Gt (.ix (.var 5) (.int 1)) (.int 0)) (.bin .Sub (.ix (.var 5) (.int 1)) (.int 1)) (.bin .Add (.ix (.var 5) (.int 1)) (.int 1))) .nil)))) ir_law_third_4
def ir_law_third_2 : IS :=
  .seq (.asg (.v 5) (.tup (.cons (.bin .Add (.ix (.var 1) (.int 0)) (.bin .Mult (.var 4) (.bin .Sub (.ix (.var 2) (.int 0)) (.ix (.var 1) (.int 0))))) (.cons (.bin .Add (.ix (.var 1) (.int 1)) (.bin .Mult (.var 4) (.bin .Sub (.ix (.var 2) (.int 1)) (.ix (.var 1) (.int 1))))) .nil)))) ir_law_third_3
def ir_law_third_1 : IS :=
  .seq (.asg (.v 4) (.ix (.lst (.cons (.bin .Sub (.call "_law_draw" (.cons (.var 0) (.cons (.int 5) .nil))) (.int 2)) (.cons (.call "_law_draw" (.cons (.var 0) (.cons (.int 2) .nil))) .nil))) (.blt .int (.cons (.cmp .Eq (.var 3) (.int 12)) .nil)))) ir_law_third_2
abbrev ir_law_third : IS := ir_law_third_1
-- slots ['_law_feed_here', '_law_one', '_law_two', '_law_most', '_law_by', '_law_on', '_law_near']
def ir_law_turns_right_18 : IS :=
  .seq (.ret (.cmp .Eq (.blt .repr (.cons (.var 6) .nil)) (.blt .repr (.cons (.tup (.cons (.var 14) (.cons (.bin .Sub (.int 0) (.var 14)) .nil))) .nil)))) .skip
def ir_law_turns_right_17 : IS :=
  .seq (.asg (.v 6) (.tup (.cons (.call "turn_of" (.cons (.ix (.var 7) (.int 0)) (.cons (.ix (.var 7) (.int 1)) (.cons (.ix (.var 7) (.int 2)) .nil)))) (.cons (.call "turn_of" (.cons (.ix (.var 7) (.int 2)) (.cons (.ix (.var 7) (.int 1)) (.cons (.ix (.var 7) (.int 0)) .nil)))) .nil)))) ir_law_turns_right_18
def ir_law_turns_right_16 : IS :=
  .seq (.asg (.v 14) (.bin .Sub (.blt .int (.cons (.cmp .Gt (.var 5) (.int 0)) .nil)) (.blt .int (.cons (.cmp .Lt (.var 5) (.int 0)) .nil)))) ir_law_turns_right_17
def ir_law_turns_right_15 : IS :=
  .seq (.asg (.v 5) (.call "_law_round" (.cons (.ix (.var 13) (.int 0)) (.cons (.ix (.var 13) (.int 1)) (.cons (.ix (.var 13) (.int 2)) .nil))))) ir_law_turns_right_16
def ir_law_turns_right_14 : IS :=
  .seq (.asg (.v 13) (.comp (.tup (.cons (.bin .Mult (.var 8) (.bin .FloorDiv (.var 12) (.var 10))) (.cons (.bin .Mult (.var 9) (.bin .FloorDiv (.var 12) (.var 10))) .nil))) [8, 9, 10] [8, 9, 10] (.cons (.var 7) .nil) .nil)) ir_law_turns_right_15
def ir_law_turns_right_13 : IS :=
  .seq (.asg (.v 12) (.bin .Mult (.bin .Mult (.ix (.ix (.var 7) (.int 0)) (.int 2)) (.ix (.ix (.var 7) (.int 1)) (.int 2))) (.ix (.ix (.var 7) (.int 2)) (.int 2)))) ir_law_turns_right_14
def ir_law_turns_right_12 : IS :=
  .seq (.ex (.mth .append (.var 7) (.cons (.tup (.cons (.bin .FloorDiv (.var 8) (.var 11)) (.cons (.bin .FloorDiv (.var 9) (.var 11)) (.cons (.bin .FloorDiv (.var 10) (.var 11)) .nil)))) .nil))) .skip
def ir_law_turns_right_11 : IS :=
  .seq (.asg (.v 11) (.call "_law_shared" (.cons (.call "_law_shared" (.cons (.blt .abs (.cons (.var 8) .nil)) (.cons (.blt .abs (.cons (.var 9) .nil)) .nil))) (.cons (.var 10) .nil)))) ir_law_turns_right_12
def ir_law_turns_right_10 : IS :=
  .seq (.asg (.v 10) (.bin .Add (.int 1) (.call "_law_draw" (.cons (.var 0) (.cons (.int 9) .nil))))) ir_law_turns_right_11
def ir_law_turns_right_9 : IS :=
  .seq (.for_ (.t (.cons (.v 8) (.cons (.v 9) .nil))) (.cons (.tup (.cons (.var 2) (.cons (.var 3) (.cons (.var 4) .nil)))) .nil) ir_law_turns_right_10) ir_law_turns_right_13
def ir_law_turns_right_8 : IS :=
  .seq (.asg (.v 7) (.lst .nil)) ir_law_turns_right_9
def ir_law_turns_right_7 : IS :=
  .seq (.ret (.bl false)) .skip
def ir_law_turns_right_6 : IS :=
  .seq (.ite (.cmp .NotEq (.blt .repr (.cons (.var 6) .nil)) (.blt .repr (.cons (.tup (.cons (.var 5) (.cons (.var 5) (.cons (.bin .Sub (.int 0) (.var 5)) .nil)))) .nil))) ir_law_turns_right_7 .skip) ir_law_turns_right_8
def ir_law_turns_right_5 : IS :=
  .seq (.asg (.v 6) (.tup (.cons (.call "turn" (.cons (.var 2) (.cons (.var 3) (.cons (.var 4) .nil)))) (.cons (.call "turn" (.cons (.var 3) (.cons (.var 4) (.cons (.var 2) .nil)))) (.cons (.call "turn" (.cons (.var 3) (.cons (.var 2) (.cons (.var 4) .nil)))) .nil))))) ir_law_turns_right_6
def ir_law_turns_right_4 : IS :=
  .seq (.asg (.v 5) (.call "_law_round" (.cons (.var 2) (.cons (.var 3) (.cons (.var 4) .nil))))) ir_law_turns_right_5
def ir_law_turns_right_3 : IS :=
  .seq (.asg (.v 4) (.call "_law_third" (.cons (.var 0) (.cons (.var 2) (.cons (.var 3) (.cons (.var 1) .nil)))))) ir_law_turns_right_4
def ir_law_turns_right_2 : IS :=
  .seq (.asg (.t (.cons (.v 2) (.cons (.v 3) .nil))) (.comp (.tup (.cons (.call "_law_number" (.cons (.var 0) (.cons (.var 1) .nil))) (.cons (.call "_law_number" (.cons (.var 0) (.cons (.var 1) .nil))) .nil))) [15] [15] (.rng1 (.int 2)) .nil)) ir_law_turns_right_3
def ir_law_turns_right_1 : IS :=
  .seq (.asg (.v 1) (.ix (.lst (.cons (.int 6) (.cons (.int 12) .nil))) (.call "_law_draw" (.cons (.var 0) (.cons (.int 2) .nil))))) ir_law_turns_right_2
abbrev ir_law_turns_right : IS := ir_law_turns_right_1
-- slots ['_law_feed_here', '_law_most', '_law_one', '_law_two', '_law_three', '_law_due', '_law_told', '_law_marks', '_law_x', '_law_y', '_law_under', '_law_shared_here', '_law_product', '_law_points', '_law_sign', '_law_k']
def ir_law_is_way_3 : IS :=
  .seq (.ret (.cmp .NotEq (.var 0) (.tup (.cons (.int 0) (.cons (.int 0) .nil))))) .skip
def ir_law_is_way_2 : IS :=
  .seq (.ret (.bl false)) .skip
def ir_law_is_way_1 : IS :=
  .seq (.ite (.or (.not (.isi (.var 0) ["tuple"])) (.or (.cmp .NotEq (.blt .len (.cons (.var 0) .nil)) (.int 2)) (.one (.cmp .NotEq (.comp (.var 1) [1] [1] (.cons (.var 0) .nil) (.cons (.not (.call "_law_is_number" (.cons (.var 1) .nil))) .nil)) (.lst .nil))))) ir_law_is_way_2 .skip) ir_law_is_way_3
abbrev ir_law_is_way : IS := ir_law_is_way_1
-- slots ['_law_thing', '_law_one']
def ir_law_ways_7 : IS :=
  .seq (.ret (.tup (.cons (.var 1) (.cons (.ite (.cmp .NotEq (.var 4) (.tup (.cons (.int 0) (.cons (.int 0) .nil)))) (.var 4) (.tup (.cons (.int 1) (.cons (.int 0) .nil)))) .nil)))) .skip
def ir_law_ways_6 : IS :=
  .seq (.asg (.v 4) (.ix (.var 3) (.call "_law_draw" (.cons (.var 0) (.cons (.int 5) .nil))))) ir_law_ways_7
def ir_law_ways_5 : IS :=
  .seq (.asg (.v 3) (.bin .Add (.var 3) (.lst (.cons (.tup (.cons (.bin .Add (.bin .Mult (.var 2) (.ix (.var 1) (.int 0))) (.int 1)) (.cons (.bin .Mult (.var 2) (.ix (.var 1) (.int 1))) .nil))) (.cons (.tup (.cons (.ix (.var 1) (.int 1)) (.cons (.ix (.var 1) (.int 0)) .nil))) .nil))))) ir_law_ways_6
def ir_law_ways_4 : IS :=
  .seq (.asg (.v 3) (.lst (.cons (.tup (.cons (.call "_law_number" (.cons (.var 0) (.cons (.int 12) .nil))) (.cons (.int 1) .nil))) (.cons (.tup (.cons (.bin .Mult (.var 2) (.ix (.var 1) (.int 0))) (.cons (.bin .Mult (.var 2) (.ix (.var 1) (.int 1))) .nil))) (.cons (.tup (.cons (.bin .Sub (.int 0) (.bin .Mult (.var 2) (.ix (.var 1) (.int 0)))) (.cons (.bin .Sub (.int 0) (.bin .Mult (.var 2) (.ix (.var 1) (.int 1)))) .nil))) .nil))))) ir_law_ways_5
def ir_law_ways_3 : IS :=
  .seq (.asg (.v 2) (.ix (.lst (.cons (.int 1) (.cons (.int 2) (.cons (.int 7) (.cons (.bin .Pow (.int 10) (.int 6)) .nil))))) (.call "_law_draw" (.cons (.var 0) (.cons (.int 4) .nil))))) ir_law_ways_4
def ir_law_ways_2 : IS :=
  .seq (.asg (.v 1) (.ite (.cmp .NotEq (.var 1) (.tup (.cons (.int 0) (.cons (.int 0) .nil)))) (.var 1) (.tup (.cons (.int 0) (.cons (.neg (.int 3)) .nil))))) ir_law_ways_3
def ir_law_ways_1 : IS :=
  .seq (.asg (.v 1) (.tup (.cons (.call "_law_number" (.cons (.var 0) (.cons (.int 6) .nil))) (.cons (.call "_law_number" (.cons (.var 0) (.cons (.int 6) .nil))) .nil)))) ir_law_ways_2
abbrev ir_law_ways : IS := ir_law_ways_1
-- slots ['_law_feed_here', '_law_one', '_law_by', '_law_some', '_law_other']
def ir_law_are_alike_2 : IS :=
  .seq (.ret (.and (.cmp .Eq (.ix (.var 2) (.int 0)) (.ix (.var 2) (.int 1))) (.one (.cmp .Eq (.bin .Mult (.ix (.var 0) (.int 0)) (.ix (.var 1) (.int 1))) (.bin .Mult (.ix (.var 0) (.int 1)) (.ix (.var 1) (.int 0))))))) .skip
def ir_law_are_alike_1 : IS :=
  .seq (.asg (.v 2) (.comp (.tup (.cons (.bin .Sub (.blt .int (.cons (.cmp .Gt (.var 3) (.int 0)) .nil)) (.blt .int (.cons (.cmp .Lt (.var 3) (.int 0)) .nil))) (.cons (.bin .Sub (.blt .int (.cons (.cmp .Gt (.var 4) (.int 0)) .nil)) (.blt .int (.cons (.cmp .Lt (.var 4) (.int 0)) .nil))) .nil))) [3, 4] [3, 4] (.cons (.tup (.cons (.var 0) (.cons (.var 1) .nil))) .nil) .nil)) ir_law_are_alike_2
abbrev ir_law_are_alike : IS := ir_law_are_alike_1
-- slots ['_law_one', '_law_other', '_law_signs', '_law_a', '_law_b']
def ir_law_ways_right_18 : IS :=
  .seq (.ret (.cmp .Eq (.bin .Mult (.ix (.var 3) (.int 0)) (.var 8)) (.bin .Mult (.ix (.var 3) (.int 1)) (.bin .Add (.bin .Mult (.ix (.var 2) (.int 0)) (.var 6)) (.bin .Mult (.ix (.var 2) (.int 1)) (.var 7)))))) .skip
def ir_law_ways_right_17 : IS :=
  .seq (.ret (.bl false)) .skip
def ir_law_ways_right_16 : IS :=
  .seq (.ite (.or (.cmp .Lt (.ix (.var 3) (.int 1)) (.int 1)) (.one (.cmp .NotEq (.call "_law_shared" (.cons (.blt .abs (.cons (.ix (.var 3) (.int 0)) .nil)) (.cons (.ix (.var 3) (.int 1)) .nil))) (.int 1)))) ir_law_ways_right_17 .skip) ir_law_ways_right_18
def ir_law_ways_right_15 : IS :=
  .seq (.ret (.bl false)) .skip
def ir_law_ways_right_14 : IS :=
  .seq (.ite (.or (.not (.isi (.var 3) ["tuple"])) (.or (.cmp .NotEq (.blt .len (.cons (.var 3) .nil)) (.int 2)) (.one (.cmp .NotEq (.comp (.var 1) [1] [1] (.cons (.var 3) .nil) (.cons (.not (.call "_law_is_number" (.cons (.var 1) .nil))) .nil)) (.lst .nil))))) ir_law_ways_right_15 .skip) ir_law_ways_right_16
def ir_law_ways_right_13 : IS :=
  .seq (.asg (.v 3) (.call "along" (.cons (.var 2) (.cons (.var 10) .nil)))) ir_law_ways_right_14
def ir_law_ways_right_12 : IS :=
  .seq (.asg (.v 10) (.tup (.cons (.bin .FloorDiv (.var 6) (.var 9)) (.cons (.bin .FloorDiv (.var 7) (.var 9)) (.cons (.bin .FloorDiv (.var 8) (.var 9)) .nil))))) ir_law_ways_right_13
def ir_law_ways_right_11 : IS :=
  .seq (.asg (.v 9) (.call "_law_shared" (.cons (.call "_law_shared" (.cons (.blt .abs (.cons (.var 6) .nil)) (.cons (.blt .abs (.cons (.var 7) .nil)) .nil))) (.cons (.var 8) .nil)))) ir_law_ways_right_12
def ir_law_ways_right_10 : IS :=
  .seq (.par [6, 7, 8] (.cons (.call "_law_number" (.cons (.var 0) (.cons (.int 12) .nil))) (.cons (.call "_law_number" (.cons (.var 0) (.cons (.int 12) .nil))) (.cons (.bin .Add (.int 1) (.call "_law_draw" (.cons (.var 0) (.cons (.int 30) .nil)))) .nil)))) ir_law_ways_right_11
def ir_law_ways_right_9 : IS :=
  .seq (.ret (.bl false)) .skip
def ir_law_ways_right_8 : IS :=
  .seq (.ite (.cmp .NotEq (.blt .repr (.cons (.call "goes_alike" (.cons (.var 4) (.cons (.var 5) .nil))) .nil)) (.blt .repr (.cons (.call "_law_are_alike" (.cons (.var 4) (.cons (.var 5) .nil))) .nil))) ir_law_ways_right_9 .skip) .skip
def ir_law_ways_right_7 : IS :=
  .seq (.for_ (.t (.cons (.v 4) (.cons (.v 5) .nil))) (.cons (.tup (.cons (.tup (.cons (.var 1) (.cons (.var 2) .nil))) (.cons (.tup (.cons (.var 2) (.cons (.var 1) .nil))) (.cons (.tup (.cons (.var 1) (.cons (.var 1) .nil))) (.cons (.tup (.cons (.var 1) (.cons (.var 3) .nil))) .nil))))) .nil) ir_law_ways_right_8) ir_law_ways_right_10
def ir_law_ways_right_6 : IS :=
  .seq (.ret (.bl false)) .skip
def ir_law_ways_right_5 : IS :=
  .seq (.ite (.cmp .NotEq (.blt .repr (.cons (.call "left_of" (.cons (.var 1) .nil)) .nil)) (.blt .repr (.cons (.tup (.cons (.bin .Sub (.int 0) (.ix (.var 1) (.int 1))) (.cons (.ix (.var 1) (.int 0)) .nil))) .nil))) ir_law_ways_right_6 .skip) ir_law_ways_right_7
def ir_law_ways_right_4 : IS :=
  .seq (.ret (.bl false)) .skip
def ir_law_ways_right_3 : IS :=
  .seq (.ite (.or (.not (.call "_law_is_way" (.cons (.var 3) .nil))) (.or (.cmp .NotEq (.call "_law_shared" (.cons (.blt .abs (.cons (.ix (.var 3) (.int 0)) .nil)) (.cons (.blt .abs (.cons (.ix (.var 3) (.int 1)) .nil)) .nil))) (.int 1)) (.one (.not (.call "_law_are_alike" (.cons (.var 3) (.cons (.var 1) .nil))))))) ir_law_ways_right_4 .skip) ir_law_ways_right_5
def ir_law_ways_right_2 : IS :=
  .seq (.asg (.v 3) (.call "bare" (.cons (.var 1) .nil))) ir_law_ways_right_3
def ir_law_ways_right_1 : IS :=
  .seq (.asg (.t (.cons (.v 1) (.cons (.v 2) .nil))) (.call "_law_ways" (.cons (.var 0) .nil))) ir_law_ways_right_2
abbrev ir_law_ways_right : IS := ir_law_ways_right_1
-- slots ['_law_feed_here', '_law_one', '_law_other', '_law_told', '_law_first', '_law_second', '_law_x', '_law_y', '_law_under', '_law_shared_here', '_law_dot']
def ir_law_kinds_right_5 : IS :=
  .seq (.ret (.cmp .Eq (.comp (.var 4) [4] [4] (.cons (.var 1) .nil) (.cons (.cmp .NotEq (.blt .repr (.cons (.call "is_way" (.cons (.var 4) .nil)) .nil)) (.blt .repr (.cons (.call "_law_is_way" (.cons (.var 4) .nil)) .nil))) .nil)) (.lst .nil))) .skip
def ir_law_kinds_right_4 : IS :=
  .seq (.asg (.v 1) (.bin .Add (.var 1) (.lst (.cons (.var 2) (.cons (.var 3) (.cons (.blt .list (.cons (.var 2) .nil)) (.cons (.call "_law_bent" (.cons (.var 0) (.cons (.var 2) .nil))) (.cons (.call "_law_bent" (.cons (.var 0) (.cons (.tup (.cons (.int 0) (.cons (.int 1) .nil))) .nil))) (.cons (.call "_law_bent" (.cons (.var 0) (.cons (.var 3) .nil))) .nil))))))))) ir_law_kinds_right_5
def ir_law_kinds_right_3 : IS :=
  .seq (.asg (.t (.cons (.v 2) (.cons (.v 3) .nil))) (.call "_law_ways" (.cons (.var 0) .nil))) ir_law_kinds_right_4
def ir_law_kinds_right_2 : IS :=
  .seq (.ex (.mth .append (.var 1) (.cons (.tup (.cons (.bin .Sub (.bin .Pow (.int 10) (.int 60)) (.int 1)) (.cons (.int 0) .nil))) .nil))) ir_law_kinds_right_3
def ir_law_kinds_right_1 : IS :=
  .seq (.asg (.v 1) (.lst (.cons (.tup (.cons (.int 0) (.cons (.int 0) .nil))) (.cons (.tup (.cons (.int 0) (.cons (.int 1) .nil))) (.cons (.tup (.cons (.int 0) (.cons (.bl false) .nil))) (.cons (.tup (.cons (.bl true) (.cons (.int 0) .nil))) (.cons (.lst (.cons (.int 0) (.cons (.int 1) .nil))) (.cons (.tup (.cons (.int 1) .nil)) (.cons (.tup (.cons (.int 1) (.cons (.int 2) (.cons (.int 3) .nil)))) (.cons .non (.cons (.int 5) (.cons (.str "way") (.cons (.tup (.cons (.int 0) (.cons (.neg (.int 1)) .nil))) .nil))))))))))))) ir_law_kinds_right_2
abbrev ir_law_kinds_right : IS := ir_law_kinds_right_1
-- slots ['_law_feed_here', '_law_things', '_law_one', '_law_other', '_law_thing']
def ir_law_5 : IS :=
  .seq (.ret (.bl true)) .skip
def ir_law_4 : IS :=
  .seq (.ret (.bl false)) .skip
def ir_law_3 : IS :=
  .seq (.ite (.or (.not (.call "_law_turns_right" (.cons (.var 1) .nil))) (.or (.not (.call "_law_ways_right" (.cons (.var 1) .nil))) (.one (.not (.call "_law_kinds_right" (.cons (.var 1) .nil)))))) ir_law_4 .skip) .skip
def ir_law_2 : IS :=
  .seq (.for_ (.v 2) (.rng1 (.int 4)) ir_law_3) ir_law_5
def ir_law_1 : IS :=
  .seq (.asg (.v 1) (.call "_law_feed" (.cons (.var 0) .nil))) ir_law_2
abbrev ir_law : IS := ir_law_1
-- slots ['_law_script', '_law_feed_here', '_law_once']
theorem round_ok (G : Gam) : ∀ ds M Q, S_tri ds M Q → wpS G ir_law_round (bodyE Q) (startD (4 - ds.length) ds) M := by
  rintro ds M Q ⟨k, a, b, c, d, e, f, rfl, hk, ha, hb, hc, hd, he, hf, q⟩
  have l1 := lg_of (sub_lt' hd hf)
  have l2 := lg_of (sub_lt' hf hb)
  have l3 := lg_of (sub_lt' hb hd)
  have la := lg_of ha
  have lc := lg_of hc
  have le := lg_of he
  clear ha hb hc hd he hf
  simp [ir_law_round_1, w_av, startD]
  refine ⟨by omega, by omega, ?_⟩
  simp [ir_law_round_2, w_ret]
  refine ⟨by omega, ?_⟩
  have : a * (d - f) + c * (f - b) + e * (b - d) = tri a b c d e f := by unfold tri; clear l1 l2 l3 la lc le q; grind
  rw [this]; exact q
theorem law_is_way_ok (G : Gam) (h1 : G "_law_is_number" = S_isnum) : ∀ ds M Q, S_kind isWay ds M Q → wpS G ir_law_is_way (bodyE Q) (startD (2 - ds.length) ds) M := by
  rintro ds M Q ⟨n, b, t, w, d, rfl, hb, hb8, ht, hw, hz, q⟩
  have q0 := q M (Ex.refl M)
  cases hz with
  | tup l =>
    rename_i t xs
    simp [ir_law_is_way_1, w_ite, w_skip, startD, isiD, tyD, isIn]
    by_cases h2 : xs.length = 2
    · simp [h2]
      refine w_compV notI rfl rfl (by rw [h2]; exact sz (by decide)) ?_ ?_
      · intro x hx R hR
        have hxn : NoS x := by
          obtain ⟨i, hi⟩ := List.mem_iff_getElem?.mp hx
          exact (l.get hi).noS
        simp [h1, S_isnum, hxn]
        unfold notI at hR
        cases hi : isI x <;> simpa [hi] using hR
      · simp [ne_lst, sz_eq]
        have lz : NzL n (M ++ [xs.filterMap notI, []]) b t w (xs.filterMap notI) := by
          have := ((l.filt notI notI_id).app (xs.filterMap notI)).app []
          simpa using this
        refine isOk_nil (xs := xs.filterMap notI) (by simp) lz (by simp) (by omega) (by omega) (by omega) ?_
        have q1 := q (M ++ [xs.filterMap notI] ++ [[]]) (((Ex.refl M).app _).app _)
        simp at q1
        have hN := notI_nil (xs := xs)
        match xs, h2 with
        | [x, y], _ =>
          by_cases hi : isI x = true ∧ isI y = true
          · have hn : List.filterMap notI [x, y] = [] := hN.mpr (by simpa using hi)
            obtain ⟨a, rfl⟩ := isI_of' hi.1
            obtain ⟨b', rfl⟩ := isI_of' hi.2
            rw [hn] at q1
            simp [hn, ir_law_is_way_3, w_ret, sz_eq]
            refine nep2 ?_
            have e : (!decide (a = 0 ∧ b' = 0)) = isWay (.tup [.int a, .int b']) := by
              by_cases h1 : a = 0 <;> by_cases h2 : b' = 0 <;> simp [isWay, h1, h2]
            rw [e]; exact q1
          · have hn : ¬ List.filterMap notI [x, y] = [] := fun h => hi (by simpa using hN.mp h)
            have e : isWay (.tup [x, y]) = false := by
              cases hx : isI x with
              | false => exact isWay_l hx
              | true => cases hy : isI y with
                | false => exact isWay_r hy
                | true => exact absurd ⟨hx, hy⟩ hi
            rw [e] at q1
            simp [hn, ir_law_is_way_2, w_ret]
            simpa using q1
    · have h3' : ¬ ((xs.length : Int) = 2) := by omega
      simp [h3', ir_law_is_way_2, w_ret]
      rw [isWay_len h2] at q0
      simpa [h2] using q0
  | _ =>
    simp [ir_law_is_way_1, ir_law_is_way_2, w_ite, w_skip, w_ret, startD, isiD, tyD, isIn]
    exact q0
def ala (a b c d : Int) : Bool := decide (sgn a = sgn c ∧ sgn b = sgn d) && decide (a * d = b * c)
def S_arealike : DSpec := fun ds M Q => ∃ (a b c d : Int), ds = [.tup [.int a, .int b], .tup [.int c, .int d]] ∧ lg a < 9000 ∧ lg b < 9000 ∧ lg c < 9000 ∧ lg d < 9000 ∧ ∀ M', Ex M M' → Q (.bl (ala a b c d)) M'
def sgs : D → Option D
  | .tup [.int a, .int b] => some (.tup [.int (sgn a), .int (sgn b)])
  | _ => none
theorem are_alike_ok (G : Gam) : ∀ ds M Q, S_arealike ds M Q → wpS G ir_law_are_alike (bodyE Q) (startD (5 - ds.length) ds) M := by
  rintro ds M Q ⟨a, b, c, d, rfl, la, lb, lc, ld, q⟩
  simp [ir_law_are_alike_1, w_av, startD]
  refine w_compX (src := .val (.tup [.tup [.int a, .int b], .tup [.int c, .int d]])) (xs := [.tup [.int a, .int b], .tup [.int c, .int d]]) sgs (fun S h => ?_) (fun _ _ => rfl) (by simp [sz_eq]) ?_ ?_
  · simp [sz_eq]; exact h
  · intro x hx M1 e1 R hR
    have : ∃ i j, x = .tup [.int i, .int j] := by
      simp at hx
      rcases hx with rfl | rfl
      · exact ⟨_, _, rfl⟩
      · exact ⟨_, _, rfl⟩
    obtain ⟨i, j, rfl⟩ := this
    simp [sz_eq]
    exact hR M1 (Ex.refl M1)
  · intro M1 e1
    have q := q _ (e1.app [.tup [.int (sgn a), .int (sgn b)], .tup [.int (sgn c), .int (sgn d)]])
    have e : List.filterMap sgs [.tup [.int a, .int b], .tup [.int c, .int d]] = [.tup [.int (sgn a), .int (sgn b)], .tup [.int (sgn c), .int (sgn d)]] := rfl
    rw [e]
    simp [ir_law_are_alike_2, w_ret]
    refine eqp2 ?_
    by_cases h : sgn a = sgn c ∧ sgn b = sgn d
    · simp [h]
      refine ⟨by omega, by omega, ?_⟩
      simpa [ala, h] using q
    · simp [h]
      simpa [ala, h] using q
theorem mul_self_pos {a : Int} (h : a ≠ 0) : 0 < a * a := by
  rcases Int.lt_or_gt_of_ne h with h | h
  · exact Int.mul_pos_of_neg_of_neg h h
  · exact Int.mul_pos h h
theorem sgn_pos {a : Int} : sgn a = 1 ↔ 0 < a := by unfold sgn; split <;> split <;> omega
theorem sgn_neg {a : Int} : sgn a = -1 ↔ a < 0 := by unfold sgn; split <;> split <;> omega
theorem sgn_mul_pos {a s : Int} (h : 0 < s) : sgn (s * a) = sgn a := by
  rcases Int.lt_trichotomy a 0 with h1 | h1 | h1
  · rw [sgn_neg.mpr h1, sgn_neg.mpr (Int.mul_neg_of_pos_of_neg h h1)]
  · rw [h1]; simp
  · rw [sgn_pos.mpr h1, sgn_pos.mpr (Int.mul_pos h h1)]
theorem sgn_prod {a c : Int} (h : sgn a = sgn c) : 0 ≤ a * c ∧ (a ≠ 0 → 0 < a * c) := by
  rcases Int.lt_trichotomy a 0 with h1 | h1 | h1
  · rw [sgn_neg.mpr h1] at h
    have := Int.mul_pos_of_neg_of_neg h1 (sgn_neg.mp h.symm)
    exact ⟨by omega, fun _ => this⟩
  · rw [h1]; simp
  · rw [sgn_pos.mpr h1] at h
    have := Int.mul_pos h1 (sgn_pos.mp h.symm)
    exact ⟨by omega, fun _ => this⟩
theorem alk_ala {a b c d : Int} (h : a ≠ 0 ∨ b ≠ 0) : alk a b c d = ala a b c d := by
  unfold alk ala
  have e0 : (a * d - b * c = 0) ↔ (a * d = b * c) := by omega
  by_cases hc : a * d = b * c
  · have hN : 0 < a * a + b * b := by
      have h1 : 0 ≤ a * a := by
        by_cases ha : a = 0
        · rw [ha]; simp
        · exact Int.le_of_lt (mul_self_pos ha)
      have h2 : 0 ≤ b * b := by
        by_cases hb : b = 0
        · rw [hb]; simp
        · exact Int.le_of_lt (mul_self_pos hb)
      rcases h with h | h
      · have := mul_self_pos h; omega
      · have := mul_self_pos h; omega
    have e1 : (a * c + b * d) * a = (a * a + b * b) * c := by
      have : b * d * a = b * (a * d) := by clear hc; grind
      have : (a * c + b * d) * a = a * c * a + b * d * a := Int.add_mul ..
      have : (a * a + b * b) * c = a * c * a + b * (b * c) := by clear hc; grind
      rw [hc] at *; omega
    have e2 : (a * c + b * d) * b = (a * a + b * b) * d := by
      have : (a * c + b * d) * b = a * (b * c) + b * d * b := by clear hc; grind
      have : (a * a + b * b) * d = a * (a * d) + b * d * b := by clear hc; grind
      rw [hc] at *; omega
    have key : 0 < a * c + b * d ↔ (sgn a = sgn c ∧ sgn b = sgn d) := by
      constructor
      · intro hd
        constructor
        · rw [← sgn_mul_pos (a := a) hd, e1, sgn_mul_pos hN]
        · rw [← sgn_mul_pos (a := b) hd, e2, sgn_mul_pos hN]
      · rintro ⟨h1, h2⟩
        have p1 := sgn_prod h1
        have p2 := sgn_prod h2
        rcases h with h | h
        · have := p1.2 h; omega
        · have := p2.2 h; omega
    simp [e0, hc, key]
  · simp [e0, hc]
def S_ways : DSpec := fun ds M Q => ∃ (n a : Nat), ds = [.lst n] ∧ Feed n a M ∧ a < 2 ^ 40 ∧ ∀ (p q r s : Int) M', (p ≠ 0 ∨ q ≠ 0) → (r ≠ 0 ∨ s ≠ 0) → p.natAbs < 2 ^ 62 → q.natAbs < 2 ^ 62 → r.natAbs < 2 ^ 62 → s.natAbs < 2 ^ 62 → Fx n (a + 50) M M' → Q (.tup [.tup [.int p, .int q], .tup [.int r, .int s]]) M'
theorem ways_ok (G : Gam) (hd : G "_law_draw" = S_draw) (hn : G "_law_number" = S_number) : ∀ ds M Q, S_ways ds M Q → wpS G ir_law_ways (bodyE Q) (startD (5 - ds.length) ds) M := by
  rintro ds M Q ⟨n, a, rfl, F, ha, q⟩
  simp [ir_law_ways_1, w_av, startD, hn, sz_eq]
  refine ⟨n, a, 6, rfl, F, by omega, by decide, fun X M1 hX f1 => ?_⟩
  refine ⟨n, _, 6, rfl, f1.feed, by omega, by decide, fun Y M2 hY f2 => ?_⟩
  have f2 := f1.trans f2
  have hX : X.natAbs < 2 ^ 40 := hX
  have hY : Y.natAbs < 2 ^ 40 := hY
  have key : ∀ p r : Int, (p ≠ 0 ∨ r ≠ 0) → p.natAbs < 2 ^ 40 → r.natAbs < 2 ^ 40 → wpS G ir_law_ways_3 (bodyE Q) [some (.lst n), some (.tup [.int p, .int r]), none, none, none] M2 := by
    intro p r h0 hp hr
    simp [ir_law_ways_3, w_av, hd, sz_eq]
    refine ⟨n, _, 4, rfl, f2.feed.app _, by omega, by decide, by decide, fun k M3 k0 k1 f3 => ?_⟩
    have g3 := Fx.top f2.feed f3
    have f3 := f2.trans f3.tail
    simp [g3]
    have hby : ∃ by_ : Int, atD [D.int 1, D.int 2, D.int 7, D.int 1000000] k = some (.int by_) ∧ 0 < by_ ∧ by_.natAbs < 2 ^ 20 := by
      obtain ⟨v, h1, h2⟩ := pickD (P := fun v => ∃ i : Int, v = .int i ∧ 0 < i ∧ i.natAbs < 2 ^ 20) (xs := [D.int 1, D.int 2, D.int 7, D.int 1000000]) (by simp) k0 (by simpa using k1)
      obtain ⟨i, rfl, h3⟩ := h2
      exact ⟨i, h1, h3⟩
    obtain ⟨g, e4, g0, hg⟩ := hby
    rw [e4]
    have lgg := lg_of hg
    have lp := lg_of hp
    have lr := lg_of hr
    have B1 := mul_lt hg hp
    have B2 := mul_lt hg hr
    simp [ir_law_ways_4, w_av, hn, sz_eq]
    refine ⟨n, _, 12, rfl, f3.feed, by omega, by decide, fun Z M4 hZ f4 => ?_⟩
    have hZ : Z.natAbs < 2 ^ 60 := hZ
    have f4 := f3.trans f4
    refine ⟨by omega, by omega, ?_⟩
    simp [ir_law_ways_5, w_av, sz_eq]
    refine ⟨by omega, by omega, by omega, by omega, ?_⟩
    generalize hT : [D.tup [D.int Z, D.int 1], _, _, _, _] = T
    have nT : ∀ x ∈ T, ∃ i j : Int, x = .tup [.int i, .int j] ∧ i.natAbs < 2 ^ 62 ∧ j.natAbs < 2 ^ 62 := by
      rw [← hT]
      simp only [List.forall_mem_cons]
      exact ⟨⟨_, _, rfl, by omega, by decide⟩, ⟨_, _, rfl, by omega, by omega⟩, ⟨_, _, rfl, by omega, by omega⟩, ⟨_, _, rfl, by omega, by omega⟩, ⟨_, _, rfl, by omega, by omega⟩, fun _ h => by cases h⟩
    have lT : T.length = 5 := by rw [← hT]; rfl
    generalize hM5 : M4 ++ [_, _, T] = M5
    obtain ⟨A, B, e5⟩ : ∃ A B, M5 = M4 ++ [A] ++ [B] ++ [T] := ⟨_, _, hM5.symm.trans (app3 _ _ _ _)⟩
    have f5 : Fx n (a + 4 + 6 + 6 + 4 + 1 + 12 + 4) M M5 := by rw [e5]; exact (((f4.mono (by omega)).app _).app _).app _
    have g5 : M5[M4.length + 2]? = some T := by rw [e5, List.append_assoc, List.append_assoc, gap1]; rfl
    clear hM5 hT
    simp [ir_law_ways_6, w_av, hd]
    refine ⟨n, _, 5, rfl, f5.feed, by omega, by decide, by decide, fun k M6 k0 k1 f6 => ?_⟩
    have hn4 : n < M4.length := f4.ln
    have g6 := f6.get g5 (by omega)
    have f6 := f5.trans f6
    simp [g6]
    obtain ⟨v, hv, i, j, rfl, hi, hj⟩ := pickD nT k0 (by rw [lT]; omega)
    rw [hv]
    simp [ir_law_ways_7, w_ret, sz_eq]
    refine nep2 ?_
    have f6 : Fx n (a + 50) M M6 := f6.mono (by omega)
    by_cases h1 : i = 0 ∧ j = 0
    · simp [h1]
      exact q _ _ _ _ _ h0 (.inl (by decide)) (by omega) (by omega) (by decide) (by decide) f6
    · simp [h1]
      exact q _ _ _ _ _ h0 (by omega) (by omega) (by omega) hi hj f6
  simp [ir_law_ways_2, w_av, sz_eq]
  refine nep2 ?_
  by_cases h1 : X = 0 ∧ Y = 0
  · simp [h1]
    exact key 0 (-3) (.inr (by decide)) (by decide) (by decide)
  · simp [h1]
    exact key X Y (by omega) hX hY
def S_right : DSpec := fun ds M Q => ∃ (n a : Nat), ds = [.lst n] ∧ Feed n a M ∧ a < 2 ^ 38 ∧ ∀ M', Fx n (a + 300) M M' → Q (.bl true) M'
theorem rep_bl {w : Bool} : (PyData.shown (.bool w)).length ≤ sizeLine := by cases w <;> decide
theorem abs_le_of {p t x : Int} (h : p = t * x) (ht : 0 < t) : x.natAbs ≤ p.natAbs := by
  rw [h, Int.natAbs_mul]
  exact Nat.le_mul_of_pos_left _ (by omega)
def FInv (M0 : Mem) (ρ0 : Option D → Option D → En) (i : Nat) (ρ : En) (M : Mem) : Prop := Ex M0 M ∧ ∃ x y, ρ = ρ0 x y
theorem due_along {p q r s x y u x' y' u' : Int} (h : p * u' = q * (r * x' + s * y')) (hx : x' * u = x * u') (hy : y' * u = y * u') (h0 : u' ≠ 0) : p * u = q * (r * x + s * y) := by
  refine Int.eq_of_mul_eq_mul_right h0 ?_
  calc p * u * u' = (p * u') * u := by clear h hx hy; grind
    _ = q * (r * (x' * u) + s * (y' * u)) := by rw [h]; clear h hx hy; grind
    _ = q * (r * x + s * y) * u' := by rw [hx, hy]; clear h hx hy; grind
theorem ways_right_ok (G : Gam) (hw : G "_law_ways" = S_ways) (hd : G "_law_draw" = S_draw) (hn : G "_law_number" = S_number) (hb : G "bare" = S_bare) (hiw : G "_law_is_way" = S_kind isWay) (hs : G "_law_shared" = S_shared 2000) (har : G "_law_are_alike" = S_arealike)
    (hl : G "left_of" = S_left) (hga : G "goes_alike" = S_alike) (hal : G "along" = S_along) (hin : G "_law_is_number" = S_isnum) : ∀ ds M Q, S_right ds M Q → wpS G ir_law_ways_right (bodyE Q) (startD (11 - ds.length) ds) M := by
  rintro ds M Q ⟨n, a, rfl, F, ha, q⟩
  simp [ir_law_ways_right_1, w_at, startD, hw]
  refine ⟨n, a, rfl, F, by omega, fun p r s t M1 h1 h2 bp br bs bt f1 => ?_⟩
  have lp := lg_of bp
  have lr := lg_of br
  have ls := lg_of bs
  have lt := lg_of bt
  simp [ir_law_ways_right_2, w_av, hb]
  refine ⟨p, r, rfl, h1, by omega, by omega, fun g x y g0 ex ey hg => ?_⟩
  have bx : x.natAbs < 2 ^ 62 := Nat.lt_of_le_of_lt (abs_le_of ex g0) bp
  have by_ : y.natAbs < 2 ^ 62 := Nat.lt_of_le_of_lt (abs_le_of ey g0) br
  have hxy : x ≠ 0 ∨ y ≠ 0 := by
    rcases h1 with h | h
    · left; intro e; rw [e] at ex; simp at ex; exact h ex
    · right; intro e; rw [e] at ey; simp at ey; exact h ey
  have lx := lg_of bx
  have ly := lg_of by_
  simp [ir_law_ways_right_3, w_ite, w_skip, hiw, hs, har, abs_nat]
  refine ⟨0, 62, 1, 2, _, rfl, by decide, by decide, by decide, by decide, nz_pair (.int bx) (.int by_) (Nat.le_refl _), fun M2 e2 => ?_⟩
  have hway : isWay (.tup [.int x, .int y]) = true := by
    rcases hxy with h | h <;> simp [isWay, h]
  rw [hway]
  simp
  have up62 : ∀ {z : Nat}, z < 2 ^ 62 → z < 2 ^ 2000 := fun h => Nat.lt_of_lt_of_le h (Nat.pow_le_pow_right (by decide) (by decide))
  refine ⟨x.natAbs, y.natAbs, rfl, up62 bx, up62 by_, ?_⟩
  simp [hg]
  refine ⟨x, y, p, r, rfl, by omega, by omega, by omega, by omega, fun M3 e3 => ?_⟩
  have e3 := e2.trans e3
  have hala : ala x y p r = true := by
    unfold ala
    have a1 : sgn x = sgn p := by rw [ex, sgn_mul_pos g0]
    have a2 : sgn y = sgn r := by rw [ey, sgn_mul_pos g0]
    have a3 : x * r = y * p := by rw [ex, ey]; clear q hg e3 e2 f1 F; grind
    simp [a1, a2, a3]
  rw [hala]
  obtain ⟨r1, r2, r3, r4, r5⟩ := repr_i2 (p := -r) (q := p) (k := 62) (by decide) (by rw [Int.natAbs_neg]; exact br) bp M3
  simp [ir_law_ways_right_5, w_ite, w_skip, hl, sz_eq]
  refine ⟨p, r, rfl, _, r1, r2, r3, r4, by rw [← sz_eq]; exact r5, _, r1, r2, r3, r4, by rw [← sz_eq]; exact r5, ?_⟩
  simp
  unfold ir_law_ways_right_7
  refine w_for ?_
  simp [sz_eq]
  refine ⟨FInv M3 (fun u v => [some (.lst n), some (.tup [.int p, .int r]), some (.tup [.int s, .int t]), some (.tup [.int x, .int y]), u, v, none, none, none, none, none]), ⟨Ex.refl _, _, _, rfl⟩, ?_, ?_⟩
  · rintro i z ρ M4 hz ⟨e4, u, v, rfl⟩
    have : ∃ a b c d : Int, z = .tup [.tup [.int a, .int b], .tup [.int c, .int d]] ∧ (a ≠ 0 ∨ b ≠ 0) ∧ lg a ≤ 62 ∧ lg b ≤ 62 ∧ lg c ≤ 62 ∧ lg d ≤ 62 := by
      have hm := List.mem_of_getElem? hz
      simp at hm
      rcases hm with rfl | rfl | rfl | rfl
      · exact ⟨_, _, _, _, rfl, h1, lp, lr, ls, lt⟩
      · exact ⟨_, _, _, _, rfl, h2, ls, lt, lp, lr⟩
      · exact ⟨_, _, _, _, rfl, h1, lp, lr, lp, lr⟩
      · exact ⟨_, _, _, _, rfl, h1, lp, lr, lx, ly⟩
    obtain ⟨a, b, c, d, rfl, h0, la, lb, lc, ld⟩ := this
    simp [ir_law_ways_right_8, w_ite, w_skip, hga, har]
    refine ⟨a, b, c, d, rfl, by omega, by omega, by omega, by omega, _, .bl _, rfl, rfl, Nat.zero_le _, rep_bl, ?_⟩
    refine ⟨a, b, c, d, rfl, by omega, by omega, by omega, by omega, fun M5 e5 => ⟨_, .bl _, rfl, rfl, Nat.zero_le _, rep_bl, ?_⟩⟩
    rw [alk_ala h0]
    simp
    exact ⟨e4.trans e5, _, _, rfl⟩
  · rintro ρ M4 ⟨e4, u, v, rfl⟩
    have e4 := e3.trans e4
    have f4 := f1.trans (e4.fx f1.feed)
    simp [ir_law_ways_right_10, w_par, hn, hd]
    refine ⟨n, _, 12, rfl, f4.feed, by omega, by decide, fun X M5 hX f5 => ?_⟩
    refine ⟨n, _, 12, rfl, f5.feed, by omega, by decide, fun Y M6 hY f6 => ?_⟩
    refine ⟨n, _, 30, rfl, f6.feed, by omega, by decide, by decide, fun z M7 z0 z1 f7 => ?_⟩
    have bX : X.natAbs < 2 ^ 60 := hX
    have bY : Y.natAbs < 2 ^ 60 := hY
    have f7 := f4.trans ((f5.trans f6).trans f7)
    obtain ⟨k, hk⟩ : ∃ k : Nat, 1 + z = (k : Int) := ⟨(1 + z).toNat, by omega⟩
    have k0 : 0 < k := by omega
    have k1 : k < 2 ^ 5 := by omega
    simp
    rw [hk]
    simp [ir_law_ways_right_11, w_av, hs, abs_nat]
    have up60 : ∀ {z : Nat}, z < 2 ^ 60 → z < 2 ^ 2000 := fun h => Nat.lt_of_lt_of_le h (Nat.pow_le_pow_right (by decide) (by decide))
    refine ⟨X.natAbs, Y.natAbs, rfl, up60 bX, up60 bY, _, k, rfl, up60 (gcd_lt bX bY), up60 (by omega), ?_⟩
    have h := mark_low (x := X) (y := Y) (u := (k : Int)) (by omega) (c := ((Nat.gcd (Nat.gcd X.natAbs Y.natAbs) k : Nat) : Int)) (by rw [if_neg (by omega)]; simp)
    have hgk : Nat.gcd (Nat.gcd X.natAbs Y.natAbs) k ≤ k := Nat.gcd_le_right _ k0
    have hlg : lg ((Nat.gcd (Nat.gcd X.natAbs Y.natAbs) k : Nat) : Int) ≤ 60 := lg_of (by omega)
    generalize ((Nat.gcd (Nat.gcd X.natAbs Y.natAbs) k : Nat) : Int) = g at h hlg ⊢
    obtain ⟨w1, w2, w3, w4, w5, w6, w7, w8⟩ := h
    simp only [ir_law_ways_right_12, w_av, wpE_tup, wpA_cons, wpA_nil, wpE_bin, wpE_var, getV_0, getV_s, onV_some', binD_FloorDiv]
    refine ⟨w7, by omega, w7, by omega, w7, by omega, sz (by simp), ?_⟩
    generalize X.fdiv g = X' at *
    generalize Y.fdiv g = Y' at *
    generalize (k : Int).fdiv g = U' at *
    have lX' := lg_of (show X'.natAbs < 2 ^ 60 by omega)
    have lY' := lg_of (show Y'.natAbs < 2 ^ 60 by omega)
    have lU' := lg_of (show U'.natAbs < 2 ^ 60 by omega)
    have lX := lg_of bX
    have lY := lg_of bY
    have lk := lg_of (show ((k : Int)).natAbs < 2 ^ 5 by omega)
    have U0 := w1.pos
    simp [ir_law_ways_right_13, w_av, hal]
    refine ⟨s, t, X', Y', U', rfl, by omega, by omega, by omega, by omega, by omega, by omega, fun P R hlow he hP hR => ?_⟩
    have hR0 := hlow.pos
    obtain ⟨j, rfl⟩ : ∃ j : Nat, R = (j : Int) := ⟨R.toNat, by omega⟩
    have j0 : ¬ (j : Int) < 1 := by omega
    have B1 := add_lt (up_lt (mul_lt bs (show X'.natAbs < 2 ^ 60 by omega)) (show 62 + 60 ≤ 122 by decide)) (up_lt (mul_lt bt (show Y'.natAbs < 2 ^ 60 by omega)) (show 62 + 60 ≤ 122 by decide))
    have bP : P.natAbs < 2 ^ 123 := Nat.lt_of_le_of_lt hP B1
    have bj : j < 2 ^ 60 := by omega
    have lP := lg_of bP
    have lj := lg_of (show ((j : Int)).natAbs < 2 ^ 60 by omega)
    have lSX := lg_of (mul_lt bs bX)
    have lTY := lg_of (mul_lt bt bY)
    have lSum := lg_add (i := s * X) (j := t * Y)
    clear B1 hP
    simp [ir_law_ways_right_14, w_ite, w_skip, isiD, tyD, isIn]
    refine nots_ok hin rfl (fun _ => rfl) (by simp [sz_eq]) (by simp [isI]) ?_
    simp [ne_lst, sz_eq]
    refine isOk_nn (by simp) (by simp) ?_
    simp [ir_law_ways_right_16, w_ite, w_skip, hs, abs_nat, j0]
    refine ⟨P.natAbs, j, rfl, Nat.lt_of_lt_of_le bP (Nat.pow_le_pow_right (by decide) (by decide)), up60 bj, ?_⟩
    have hgj : Nat.gcd P.natAbs j = 1 := by simpa using hlow.cop
    have hfin : P * (k : Int) = (j : Int) * (s * X + t * Y) := due_along he w2 w3 (by omega)
    simp [hgj, ir_law_ways_right_18, w_ret, hfin]
    refine ⟨by omega, by omega, by omega, by omega, q _ ?_⟩
    rw [app2]
    exact ((f7.app _).app _).mono (by omega)
theorem kinds_right_ok (G : Gam) (hw : G "_law_ways" = S_ways) (hb : G "_law_bent" = S_bent 4) (h1 : G "is_way" = S_kind isWay) (h2 : G "_law_is_way" = S_kind isWay) : ∀ ds M Q, S_right ds M Q → wpS G ir_law_kinds_right (bodyE Q) (startD (5 - ds.length) ds) M := by
  rintro ds M Q ⟨n, a, rfl, F, ha, q⟩
  simp [ir_law_kinds_right_1, w_av, startD, sz_eq]
  simp [ir_law_kinds_right_2, w_ex, sz_eq]
  obtain ⟨T, hT⟩ : ∃ T, T = [D.tup [D.int 0, D.int 0], D.tup [D.int 0, D.int 1], D.tup [D.int 0, D.bl false], D.tup [D.bl true, D.int 0], D.lst (List.length M), D.tup [D.int 1], D.tup [D.int 1, D.int 2, D.int 3], D.non, D.int 5,
          D.str (Str.ofString "way"), D.tup [D.int 0, D.int (-1)], D.tup [D.int 999999999999999999999999999999999999999999999999999999999999, D.int 0]] := ⟨_, rfl⟩
  rw [← hT]
  have nzT : ∀ M', M'[M.length]? = some [D.int 0, D.int 1] → ∀ x ∈ T, Nz M.length M' 201 3 14 x := by
    intro M' e
    have zi : ∀ {i : Int} {t w : Nat}, i.natAbs < 2 ^ 201 → Nz M.length M' 201 t w (.int i) := fun h => .int h
    have pr : ∀ {x y : D}, Nz M.length M' 201 2 0 x → Nz M.length M' 201 2 0 y → Nz M.length M' 201 3 14 (.tup [x, y]) := fun h h' => nz_pair h h' (by omega)
    rw [hT]
    simp only [List.forall_mem_cons]
    exact ⟨pr (zi (by decide)) (zi (by decide)), pr (zi (by decide)) (zi (by decide)), pr (zi (by decide)) (.bl _), pr (.bl _) (zi (by decide)),
      .lst (Nat.le_refl _) e (.cons (w1 := 0) (w2 := 1) (zi (by decide)) (NzL.one (w := 0) (zi (by decide)) (Nat.le_refl _)) (by omega)),
      .tup (NzL.one (w := 0) (zi (by decide)) (by omega)), .tup (.cons (w1 := 0) (w2 := 2) (zi (by decide)) (.cons (w1 := 0) (w2 := 1) (zi (by decide)) (NzL.one (w := 0) (zi (by decide)) (by omega)) (by omega)) (by omega)),
      .non, zi (by decide), .str (by decide) (by decide +kernel), pr (zi (by decide)) (zi (by decide)), pr (zi (by decide)) (zi (by decide)), fun _ h => by cases h⟩
  have lT : T.length = 12 := by rw [hT]; rfl
  have nM := F.ln
  have X2 : Ex M (M ++ [[D.int 0, D.int 1], T]) := ⟨_, rfl⟩
  have gA : (M ++ [[D.int 0, D.int 1], T])[M.length]? = some [D.int 0, D.int 1] := by
    have := gap1 (M := M) (L := [[D.int 0, D.int 1], T]) (i := 0)
    simpa using this
  have gB : (M ++ [[D.int 0, D.int 1], T])[M.length + 1]? = some T := by rw [gap1]; rfl
  have lM2 : (M ++ [[D.int 0, D.int 1], T]).length = M.length + 2 := by simp
  have f2 := X2.fx F
  clear hT
  generalize M ++ [[D.int 0, D.int 1], T] = M2 at *
  simp [ir_law_kinds_right_3, w_at, hw]
  refine ⟨n, a, rfl, f2.feed, by omega, fun p r s t M3 h3 h4 bp br bs bt f3 => ?_⟩
  have gA := f3.get gA (by omega)
  have gB := f3.get gB (by omega)
  have l3 : M2.length ≤ M3.length := f3.len
  have f3 := f2.trans f3
  simp [ir_law_kinds_right_4, w_av, hb, sz_eq]
  have zp : ∀ {i j : Int} (M' : Mem), i.natAbs < 2 ^ 62 → j.natAbs < 2 ^ 62 → Nz M.length M' 62 1 2 (.tup [.int i, .int j]) := fun M' hi hj => nz_pair (.int hi) (.int hj) (Nat.le_refl _)
  have fA := f3.app [D.int p, D.int r]
  have gC : (M3 ++ [[D.int p, D.int r]])[M3.length]? = some [D.int p, D.int r] := ga_len
  refine ⟨n, M.length, _, 62, 1, 2, _, rfl, by omega, fA.feed, nM, by simp; omega, by omega, by omega, by omega, by omega, by omega, zp _ bp br, fun y1 M4 f4 hy1 => ?_⟩
  have lA : (M3 ++ [[D.int p, D.int r]]).length = M3.length + 1 := by simp
  have gA := f4.get (ga_lt (x := [D.int p, D.int r]) gA) (by omega)
  have gB := f4.get (ga_lt (x := [D.int p, D.int r]) gB) (by omega)
  have gC := f4.get gC (by omega)
  have l4 := f4.len
  have f4 := fA.trans f4
  refine ⟨n, M.length, _, 62, 1, 2, _, rfl, by omega, f4.feed, nM, by omega, by omega, by omega, by omega, by omega, by omega, zp _ (by decide) (by decide), fun y2 M5 f5 hy2 => ?_⟩
  have gA := f5.get gA (by omega)
  have gB := f5.get gB (by omega)
  have gC := f5.get gC (by omega)
  have hy1 := hy1.fx f5 nM
  have l5 := f5.len
  have f5 := f4.trans f5
  refine ⟨n, M.length, _, 62, 1, 2, _, rfl, by omega, f5.feed, nM, by omega, by omega, by omega, by omega, by omega, by omega, zp _ bs bt, fun y3 M6 f6 hy3 => ?_⟩
  have gA := f6.get gA (by omega)
  have gB := f6.get gB (by omega)
  have gC := f6.get gC (by omega)
  have hy1 := hy1.fx f6 nM
  have hy2 := hy2.fx f6 nM
  have f6 := f5.trans f6
  dsimp only
  rw [ga_lt gB]
  simp only [onV_some', lT]
  refine ⟨by omega, ?_⟩
  obtain ⟨A, hA⟩ : ∃ A, A = [D.tup [D.int p, D.int r], D.tup [D.int s, D.int t], D.lst (List.length M3), y1, y2, y3] := ⟨_, rfl⟩
  rw [← hA, app2]
  have f7 := (f6.app A).app (T ++ A)
  have gA := ga_lt (x := T ++ A) (ga_lt (x := A) gA)
  have gC := ga_lt (x := T ++ A) (ga_lt (x := A) gC)
  have gD : (M6 ++ [A] ++ [T ++ A])[M6.length + 1]? = some (T ++ A) := by rw [List.append_assoc, gap1]; rfl
  have up : ∀ {t w b : Nat} {d : D}, Nz M.length M6 b t w d → b ≤ 201 → t ≤ 3 → w ≤ 14 → Nz M.length (M6 ++ [A] ++ [T ++ A]) 201 3 14 d := fun h hb ht hw => ((h.app _).app _).mono hb ht hw
  have nz : ∀ x ∈ T ++ A, Nz M.length (M6 ++ [A] ++ [T ++ A]) 201 3 14 x := by
    intro x hx
    rcases List.mem_append.mp hx with h | h
    · exact nzT _ gA x h
    · rw [hA] at h
      simp at h
      rcases h with h | h | h | h | h | h <;> subst h
      · exact up (zp _ bp br) (by omega) (by omega) (by omega)
      · exact up (zp _ bs bt) (by omega) (by omega) (by omega)
      · exact .lst (by omega) gC (.cons (w1 := 0) (w2 := 1) (.int (up_lt bp (by omega))) (NzL.one (w := 0) (.int (up_lt br (by omega))) (Nat.le_refl _)) (by omega))
      · exact up hy1 (by omega) (by omega) (by omega)
      · exact up hy2 (by omega) (by omega) (by omega)
      · exact up hy3 (by omega) (by omega) (by omega)
  have lA6 : (T ++ A).length = 18 := by rw [List.length_append, lT, hA]; rfl
  clear hA hy1 hy2 hy3 up
  generalize M6 ++ [A] ++ [T ++ A] = M7 at *
  generalize T ++ A = W at *
  simp [ir_law_kinds_right_5, w_ret]
  refine w_compX (src := .val (.lst (M6.length + 1))) (xs := W) (fun _ => none) (fun S h => ?_) (fun M8 e8 => e8.get gD) (by rw [lA6, sz_eq]; omega) ?_ ?_
  · simp; exact ⟨h, _, gD⟩
  · intro x hx M8 e8 R hR
    have zx := (nz x hx).ex e8
    simp [h1, h2]
    refine ⟨_, 201, 3, 14, x, rfl, by omega, by omega, by omega, by omega, zx, fun M9 e9 => ⟨_, .bl _, rfl, rfl, Nat.zero_le _, rep_bl, ?_⟩⟩
    refine ⟨_, 201, 3, 14, x, rfl, by omega, by omega, by omega, by omega, zx.ex e9, fun M10 e10 => ⟨_, .bl _, rfl, rfl, Nat.zero_le _, rep_bl, ?_⟩⟩
    simp
    exact hR _ (e9.trans e10)
  · intro M8 e8
    have : W.filterMap (fun _ => (none : Option D)) = [] := by simp
    rw [this]
    simp [eq_lst, sz_eq]
    refine isOk_nn (by simp) (by simp) (q _ ?_)
    rw [app2]
    exact (((f7.trans (e8.fx f7.feed)).app _).app _).mono (by omega)
theorem tri_rot {a b c d e f : Int} : tri c d e f a b = tri a b c d e f := by unfold tri; grind
theorem tri_swap {a b c d e f : Int} : tri c d a b e f = -tri a b c d e f := by unfold tri; grind
theorem tri_rev {a b c d e f : Int} : tri e f c d a b = -tri a b c d e f := by unfold tri; grind
theorem tri_marks {x y u z t v p q w : Int} : tri (x * (v * w)) (y * (v * w)) (z * (u * w)) (t * (u * w)) (p * (u * v)) (q * (u * v)) = (w * v) * ((z * u - x * v) * (q * u - y * w) - (t * u - y * v) * (p * u - x * w)) := by unfold tri; grind
theorem sgn_neg' {a : Int} : sgn (-a) = -sgn a := by unfold sgn; split <;> split <;> split <;> split <;> omega
theorem sgn_le {a : Int} : (sgn a).natAbs ≤ 1 := by unfold sgn; split <;> split <;> decide
def S_third : DSpec := fun ds M Q => ∃ (n k most : Nat) (a b c d : Int), ds = [.lst n, .tup [.int a, .int b], .tup [.int c, .int d], .int most] ∧ Feed n k M ∧ k < 2 ^ 39 ∧ a.natAbs < 2 ^ 60 ∧ b.natAbs < 2 ^ 60 ∧ c.natAbs < 2 ^ 60 ∧ d.natAbs < 2 ^ 60 ∧
  ∀ (e f : Int) M', e.natAbs < 2 ^ 66 → f.natAbs < 2 ^ 66 → Fx n (k + 40) M M' → Q (.tup [.int e, .int f]) M'
theorem third_ok (G : Gam) (hd : G "_law_draw" = S_draw) (hn : G "_law_number" = S_number) : ∀ ds M Q, S_third ds M Q → wpS G ir_law_third (bodyE Q) (startD (7 - ds.length) ds) M := by
  rintro ds M Q ⟨n, k, most, a, b, c, d, rfl, F, hk, ha, hb, hc, hd', q⟩
  simp [ir_law_third_1, w_av, startD, hd, sz_eq]
  refine ⟨n, k, 5, rfl, F, by omega, by decide, by decide, fun x M1 x0 x1 f1 => ?_⟩
  refine ⟨n, _, 2, rfl, f1.feed, by omega, by decide, by decide, fun y M2 y0 y1 f2 => ?_⟩
  have f2 := f1.trans f2
  have key : ∀ (g : Int) (M3 : Mem), -2 ≤ g → g ≤ 2 → Fx n (k + 2) M M3 → wpS G ir_law_third_2 (bodyE Q) [some (.lst n), some (.tup [.int a, .int b]), some (.tup [.int c, .int d]), some (.int most), some (.int g), none, none] M3 := by
    intro g M3 g0 g1 f3
    have bg : g.natAbs < 2 ^ 2 := by omega
    have lgg := lg_of bg
    have B1 := mul_lt bg (sub_lt' hc ha)
    have B2 := mul_lt bg (sub_lt' hd' hb)
    have l1 := lg_of (sub_lt' hc ha)
    have l2 := lg_of (sub_lt' hd' hb)
    have B3 : (a + g * (c - a)).natAbs < 2 ^ 65 := by omega
    have B4 : (b + g * (d - b)).natAbs < 2 ^ 65 := by omega
    simp [ir_law_third_2, w_av, sz_eq]
    refine ⟨by omega, by omega, ?_⟩
    generalize a + g * (c - a) = e at B3 ⊢
    generalize b + g * (d - b) = f at B4 ⊢
    have fin : ∀ f' : Int, f'.natAbs < 2 ^ 66 → wpS G ir_law_third_4 (bodyE Q) [some (.lst n), some (.tup [.int a, .int b]), some (.tup [.int c, .int d]), some (.int most), some (.int g), some (.tup [.int e, .int f]), some (.tup [.int e, .int f'])] M3 := by
      intro f' hf'
      simp [ir_law_third_4, w_ret, hn, hd, sz_eq]
      refine ⟨n, _, 12, rfl, f3.feed, by omega, by decide, fun X M4 hX f4 => ?_⟩
      refine ⟨n, _, 12, rfl, f4.feed, by omega, by decide, fun Y M5 hY f5 => ?_⟩
      have hX : X.natAbs < 2 ^ 60 := hX
      have hY : Y.natAbs < 2 ^ 60 := hY
      have f5 := f3.trans (f4.trans f5)
      refine ⟨n, _, 4, rfl, f5.feed.app _, by omega, by decide, by decide, fun z M6 z0 z1 f6 => ?_⟩
      have g6 := Fx.top f5.feed f6
      have f6 : Fx n (k + 40) M M6 := (f5.trans f6.tail).mono (by omega)
      simp [g6]
      rcases (by omega : z = 0 ∨ z = 1 ∨ z = 2 ∨ z = 3) with rfl | rfl | rfl | rfl
      · simp; exact q _ _ _ (by omega) (by omega) f6
      · simp; exact q _ _ _ (by omega) (by omega) f6
      · simp; exact q _ _ _ (by omega) (by omega) f6
      · simp; exact q _ _ _ (by omega) (by omega) f6
    simp [ir_law_third_3, w_av, sz_eq]
    split
    · exact fin _ (by omega)
    · exact fin _ (by omega)
  have e2 : Fx n (k + 2) M (M2 ++ [[D.int (x - 2), D.int y]]) := f2.app _
  by_cases h12 : (most : Int) = 12
  · simp [h12]
    exact h12 ▸ key y _ (by omega) (by omega) e2
  · simp [h12]
    exact key (x - 2) _ (by omega) (by omega) e2
/-- a mark of the law's own -/
structure MkB (d : D) (x y u : Int) : Prop where
  e : d = .tup [.int x, .int y, .int u]
  pos : 0 < u
  bx : x.natAbs < 2 ^ 66
  by_ : y.natAbs < 2 ^ 66
  bu : u.natAbs < 2 ^ 5
def MInv (M0 : Mem) (n k0 K : Nat) (ρ0 : Option D → Option D → Option D → Option D → En) (i : Nat) (ρ : En) (M : Mem) : Prop :=
  Fx n (k0 + i) M0 M ∧ n < K ∧ (∃ ms : List D, M[K]? = some ms ∧ ms.length = i ∧ i ≤ 3 ∧ ∀ m ∈ ms, ∃ x y u, MkB m x y u) ∧ ∃ a b c d, ρ = ρ0 a b c d
def pts (P : Int) : D → Option D
  | .tup [.int x, .int y, .int u] => some (.tup [.int (x * P.fdiv u), .int (y * P.fdiv u)])
  | _ => none
theorem turns_right_ok (G : Gam) (hd : G "_law_draw" = S_draw) (hn : G "_law_number" = S_number) (hs : G "_law_shared" = S_shared 2000) (ht : G "_law_third" = S_third) (hr : G "_law_round" = S_tri) (htu : G "turn" = S_tri) (hto : G "turn_of" = S_turnof) :
    ∀ ds M Q, S_right ds M Q → wpS G ir_law_turns_right (bodyE Q) (startD (16 - ds.length) ds) M := by
  rintro ds M Q ⟨n, a0, rfl, F, ha, q⟩
  simp [ir_law_turns_right_1, w_av, startD, hd, sz_eq]
  refine ⟨n, a0, 2, rfl, F.app _, by omega, by decide, by decide, fun r M1 r0 r1 f1 => ?_⟩
  have g1 := Fx.top F f1
  have f1 := f1.tail
  simp [g1]
  have key : ∀ most : Nat, most ≤ 12 → wpS G ir_law_turns_right_2 (bodyE Q) [some (.lst n), some (.int most), none, none, none, none, none, none, none, none, none, none, none, none, none, none] M1 := by
    intro most hmost
    simp [ir_law_turns_right_2, w_at]
    refine w_compR (n := n) (a := a0 + 1) (s := 32) (c := 2) (fun _ x => ∃ i j : Int, x = .tup [.int i, .int j] ∧ i.natAbs < 2 ^ 60 ∧ j.natAbs < 2 ^ 60) (by omega) f1.feed (fun M1 M2 b x h _ => h) ?_ ?_
    · intro i M2 R hi f2 hR
      simp [hn, sz_eq]
      refine ⟨n, _, most, rfl, f2.feed, by omega, by omega, fun X M3 hX f3 => ?_⟩
      refine ⟨n, _, most, rfl, f3.feed, by omega, by omega, fun Y M4 hY f4 => ?_⟩
      exact hR _ _ ((f3.trans f4).mono (by omega)) ⟨X, Y, rfl, up_lt hX (by omega), up_lt hY (by omega)⟩
    · intro acc M2 la f2 hacc
      match acc, la with
      | [w1, w2], _ =>
        obtain ⟨a, b, rfl, ba, bb⟩ := hacc w1 (by simp)
        obtain ⟨c, d, rfl, bc, bd⟩ := hacc w2 (by simp)
        have f2 := (f1.trans f2).app [.tup [.int a, .int b], .tup [.int c, .int d]]
        simp
        generalize M2 ++ [[D.tup [D.int a, D.int b], D.tup [D.int c, D.int d]]] = M3 at f2 ⊢
        simp [ir_law_turns_right_3, w_av, ht]
        refine ⟨n, _, most, a, b, c, d, rfl, f2.feed, by omega, ba, bb, bc, bd, fun e f M4 be bf f4 => ?_⟩
        have f4 := f2.trans f4
        have u66 : ∀ {x : Int}, x.natAbs < 2 ^ 60 → x.natAbs < 2 ^ 66 := fun h => up_lt h (by decide)
        have Ba := u66 ba
        have Bb := u66 bb
        have Bc := u66 bc
        have Bd := u66 bd
        clear ba bb bc bd hacc u66
        simp [ir_law_turns_right_4, w_av, hr]
        refine ⟨66, a, b, c, d, e, f, rfl, by decide, Ba, Bb, Bc, Bd, be, bf, ?_⟩
        simp [ir_law_turns_right_5, w_av, htu, sz_eq]
        refine ⟨66, a, b, c, d, e, f, rfl, by decide, Ba, Bb, Bc, Bd, be, bf, ?_⟩
        refine ⟨66, c, d, e, f, a, b, rfl, by decide, Bc, Bd, be, bf, Ba, Bb, ?_⟩
        refine ⟨66, c, d, a, b, e, f, rfl, by decide, Bc, Bd, Ba, Bb, be, bf, ?_⟩
        rw [tri_rot (a := a) (b := b) (c := c) (d := d) (e := e) (f := f), tri_swap (a := a) (b := b) (c := c) (d := d) (e := e) (f := f)]
        have bT : (tri a b c d e f).natAbs < 2 ^ 140 := by
          unfold tri
          exact up_lt (sub_lt' (mul_lt (sub_lt' Bc Ba) (sub_lt' bf Bb)) (up_lt (mul_lt (sub_lt' Bd Bb) (sub_lt' be Ba)) (by decide))) (by decide)
        generalize tri a b c d e f = TT at bT ⊢
        obtain ⟨r1, r2, r3, r4, r5⟩ := repr_i3 (p := TT) (q := TT) (s := -TT) (k := 140) (by decide) bT bT (by rw [Int.natAbs_neg]; exact bT) M4
        simp [ir_law_turns_right_6, w_ite, w_skip, sz_eq]
        refine ⟨_, r1, r2, r3, r4, by rw [← sz_eq]; exact r5, _, r1, r2, r3, r4, by rw [← sz_eq]; exact r5, ?_⟩
        simp
        simp [ir_law_turns_right_8, w_av, sz_eq]
        have nM4 := f4.ln
        unfold ir_law_turns_right_9
        refine w_for ?_
        simp [sz_eq]
        have hMM4 := f4.len
        refine ⟨MInv M n (a0 + 110) M4.length (fun x8 x9 x10 x11 => [some (.lst n), some (.int most), some (.tup [.int a, .int b]), some (.tup [.int c, .int d]), some (.tup [.int e, .int f]), some (.int TT), some (.tup [.int TT, .int TT, .int (-TT)]), some (.lst M4.length), x8, x9, x10, x11, none, none, none, none]),
          ⟨(f4.app _).mono (by omega), nM4, ⟨[], by simp, rfl, by omega, fun _ h => by cases h⟩, _, _, _, _, rfl⟩, ?_, ?_⟩
        · rintro i z ρ M5 hz ⟨F5, hK, ⟨ms, gK, lms, hi3, hms⟩, x8, x9, x10, x11, rfl⟩
          have : ∃ X Y : Int, z = .tup [.int X, .int Y] ∧ X.natAbs < 2 ^ 66 ∧ Y.natAbs < 2 ^ 66 := by
            have hm := List.mem_of_getElem? hz
            simp at hm
            rcases hm with rfl | rfl | rfl
            · exact ⟨_, _, rfl, Ba, Bb⟩
            · exact ⟨_, _, rfl, Bc, Bd⟩
            · exact ⟨_, _, rfl, be, bf⟩
          obtain ⟨X, Y, rfl, bX, bY⟩ := this
          have hi : i < 3 := by
            have := (List.getElem?_eq_some_iff.mp hz).1
            simpa using this
          simp [ir_law_turns_right_10, w_av, hd]
          refine ⟨n, _, 9, rfl, F5.feed, by omega, by decide, by decide, fun v M6 v0 v1 f6 => ?_⟩
          have gK := f6.get gK (by omega)
          obtain ⟨k, hk⟩ : ∃ k : Nat, 1 + v = (k : Int) := ⟨(1 + v).toNat, by omega⟩
          have k0 : 0 < k := by omega
          have k1 : k < 2 ^ 5 := by omega
          simp
          rw [hk]
          simp [ir_law_turns_right_11, w_av, hs, abs_nat]
          have up60 : ∀ {z : Nat}, z < 2 ^ 66 → z < 2 ^ 2000 := fun h => Nat.lt_of_lt_of_le h (Nat.pow_le_pow_right (by decide) (by decide))
          refine ⟨X.natAbs, Y.natAbs, rfl, up60 bX, up60 bY, _, k, rfl, up60 (gcd_lt bX bY), up60 (by omega), ?_⟩
          have h := mark_low (x := X) (y := Y) (u := (k : Int)) (by omega) (c := ((Nat.gcd (Nat.gcd X.natAbs Y.natAbs) k : Nat) : Int)) (by rw [if_neg (by omega)]; simp)
          have hgk : Nat.gcd (Nat.gcd X.natAbs Y.natAbs) k ≤ k := Nat.gcd_le_right _ k0
          have hlg : lg ((Nat.gcd (Nat.gcd X.natAbs Y.natAbs) k : Nat) : Int) ≤ 66 := lg_of (by omega)
          generalize ((Nat.gcd (Nat.gcd X.natAbs Y.natAbs) k : Nat) : Int) = g at h hlg ⊢
          obtain ⟨w1, w2, w3, w4, w5, w6, w7, w8⟩ := h
          simp [ir_law_turns_right_12, w_ex, w_skip, sz_eq]
          refine ⟨w7, by omega, w7, by omega, w7, by omega, ?_⟩
          simp [gK]
          refine ⟨by omega, ?_⟩
          refine ⟨((F5.trans f6).set hMM4 hK _).mono (by omega), hK, ⟨_, gs_self gK, by simp [lms], by omega, ?_⟩, _, _, _, _, rfl⟩
          intro m hm
          rcases List.mem_append.mp hm with h | h
          · exact hms m h
          · rw [List.mem_singleton.mp h]
            exact ⟨_, _, _, rfl, w1.pos, by omega, by omega, by omega⟩
        · rintro ρ M5 ⟨F5, hK, ⟨ms, gK, lms, hi3, hms⟩, x8, x9, x10, x11, rfl⟩
          have lms : ms.length = 3 := by simpa using lms
          match ms, lms with
          | [m1, m2, m3], _ =>
            obtain ⟨x, y, u, rfl, u0, bx, by1, bu⟩ := hms m1 (by simp)
            obtain ⟨z, t, v, rfl, v0, bz, bt, bv⟩ := hms m2 (by simp)
            obtain ⟨p, o, w, rfl, w0, bp, bo, bw⟩ := hms m3 (by simp)
            clear hms
            have lu := lg_of bu
            have lv := lg_of bv
            have lw := lg_of bw
            have luv := lg_of (mul_lt bu bv)
            simp [ir_law_turns_right_13, w_av, gK]
            refine ⟨by omega, by omega, ?_⟩
            have bP := mul_lt (mul_lt bu bv) bw
            have lP := lg_of bP
            have f1' : (u * v * w).fdiv u = v * w := by
              rw [show u * v * w = u * (v * w) by rw [Int.mul_assoc]]; exact Int.mul_fdiv_cancel_left _ (by omega)
            have f2' : (u * v * w).fdiv v = u * w := by
              rw [show u * v * w = v * (u * w) by rw [← Int.mul_assoc, Int.mul_comm v u]]; exact Int.mul_fdiv_cancel_left _ (by omega)
            have f3' : (u * v * w).fdiv w = u * v := by
              rw [Int.mul_comm (u * v) w]; exact Int.mul_fdiv_cancel_left _ (by omega)
            have luw := lg_of (mul_lt bu bw)
            have lvw := lg_of (mul_lt bv bw)
            have lx := lg_of bx
            have ly := lg_of by1
            have lz := lg_of bz
            have lt := lg_of bt
            have lp := lg_of bp
            have lo := lg_of bo
            unfold ir_law_turns_right_14
            rw [w_av]
            refine w_compX (src := .val (.lst M4.length)) (xs := [.tup [.int x, .int y, .int u], .tup [.int z, .int t, .int v], .tup [.int p, .int o, .int w]]) (pts (u * v * w)) (fun S h => ?_) (fun M8 e8 => e8.get gK) (by simp [sz_eq]) ?_ ?_
            · simp; exact ⟨h, _, gK⟩
            · intro m hm M8 e8 R hR
              have hR := hR M8 (Ex.refl _)
              simp at hm
              rcases hm with rfl | rfl | rfl
              · simp [sz_eq, f1']
                refine ⟨by omega, by omega, by omega, by omega, by omega, by omega, ?_⟩
                simpa [pts, f1'] using hR
              · simp [sz_eq, f2']
                refine ⟨by omega, by omega, by omega, by omega, by omega, by omega, ?_⟩
                simpa [pts, f2'] using hR
              · simp [sz_eq, f3']
                refine ⟨by omega, by omega, by omega, by omega, by omega, by omega, ?_⟩
                simpa [pts, f3'] using hR
            · intro M8 e8
              have e : List.filterMap (pts (u * v * w)) [.tup [.int x, .int y, .int u], .tup [.int z, .int t, .int v], .tup [.int p, .int o, .int w]] = [.tup [.int (x * (v * w)), .int (y * (v * w))], .tup [.int (z * (u * w)), .int (t * (u * w))], .tup [.int (p * (u * v)), .int (o * (u * v))]] := by
                simp [pts, f1', f2', f3']
              rw [e]
              have gK := e8.get gK
              have F8 := (F5.trans (e8.fx F5.feed)).app [.tup [.int (x * (v * w)), .int (y * (v * w))], .tup [.int (z * (u * w)), .int (t * (u * w))], .tup [.int (p * (u * v)), .int (o * (u * v))]]
              have gP : (M8 ++ [[D.tup [D.int (x * (v * w)), D.int (y * (v * w))], D.tup [D.int (z * (u * w)), D.int (t * (u * w))], D.tup [D.int (p * (u * v)), D.int (o * (u * v))]]])[M8.length]? = some [D.tup [D.int (x * (v * w)), D.int (y * (v * w))], D.tup [D.int (z * (u * w)), D.int (t * (u * w))], D.tup [D.int (p * (u * v)), D.int (o * (u * v))]] := ga_len
              have gK := ga_lt (x := [D.tup [D.int (x * (v * w)), D.int (y * (v * w))], D.tup [D.int (z * (u * w)), D.int (t * (u * w))], D.tup [D.int (p * (u * v)), D.int (o * (u * v))]]) gK
              generalize M8 ++ [[D.tup [D.int (x * (v * w)), D.int (y * (v * w))], D.tup [D.int (z * (u * w)), D.int (t * (u * w))], D.tup [D.int (p * (u * v)), D.int (o * (u * v))]]] = M9 at F8 gP gK ⊢
              simp [ir_law_turns_right_15, w_av, gP, hr]
              have up : ∀ {i j k : Int}, i.natAbs < 2 ^ 66 → j.natAbs < 2 ^ 5 → k.natAbs < 2 ^ 5 → (i * (j * k)).natAbs < 2 ^ 100 := fun h h1 h2 => up_lt (mul_lt h (mul_lt h1 h2)) (by decide)
              refine ⟨100, _, _, _, _, _, _, rfl, by decide, up bx bv bw, up by1 bv bw, up bz bu bw, up bt bu bw, up bp bu bv, up bo bu bv, ?_⟩
              have hmain := tri_marks (x := x) (y := y) (u := u) (z := z) (t := t) (v := v) (p := p) (q := o) (w := w)
              have hrev : -tri (x * (v * w)) (y * (v * w)) (z * (u * w)) (t * (u * w)) (p * (u * v)) (o * (u * v)) = (u * v) * ((z * w - p * v) * (y * w - o * u) - (t * w - o * v) * (x * w - p * u)) := by
                rw [← tri_rev, ← tri_marks (x := p) (y := o) (u := w) (z := z) (t := t) (v := v) (p := x) (q := y) (w := u)]
                rw [Int.mul_comm v u, Int.mul_comm w u, Int.mul_comm w v]
              have s1 : sgn ((z * u - x * v) * (o * u - y * w) - (t * u - y * v) * (p * u - x * w)) = sgn (tri (x * (v * w)) (y * (v * w)) (z * (u * w)) (t * (u * w)) (p * (u * v)) (o * (u * v))) := by
                rw [hmain, sgn_mul_pos (Int.mul_pos w0 v0)]
              have s2 : sgn ((z * w - p * v) * (y * w - o * u) - (t * w - o * v) * (x * w - p * u)) = -sgn (tri (x * (v * w)) (y * (v * w)) (z * (u * w)) (t * (u * w)) (p * (u * v)) (o * (u * v))) := by
                rw [← sgn_neg', hrev, sgn_mul_pos (Int.mul_pos u0 v0)]
              generalize tri (x * (v * w)) (y * (v * w)) (z * (u * w)) (t * (u * w)) (p * (u * v)) (o * (u * v)) = due at s1 s2 ⊢
              simp [ir_law_turns_right_16, w_av]
              rw [show (if 0 < due then (1 : Int) else 0) - (if due < 0 then 1 else 0) = sgn due from rfl]
              have u5 : ∀ {i : Int}, i.natAbs < 2 ^ 5 → i.natAbs < 2 ^ 66 := fun h => up_lt h (by decide)
              simp [ir_law_turns_right_17, w_av, gK, hto, sz_eq]
              refine ⟨66, x, y, u, z, t, v, p, o, w, rfl, by decide, bx, by1, u5 bu, bz, bt, u5 bv, bp, bo, u5 bw, ?_⟩
              simp [gK]
              refine ⟨66, p, o, w, z, t, v, x, y, u, rfl, by decide, bp, bo, u5 bw, bz, bt, u5 bv, bx, by1, u5 bu, ?_⟩
              rw [s1, s2]
              have b1 : (sgn due).natAbs < 2 ^ 10 := by have := sgn_le (a := due); omega
              obtain ⟨r1, r2, r3, r4, r5⟩ := repr_i2 (p := sgn due) (q := -sgn due) (k := 10) (by decide) b1 (by rw [Int.natAbs_neg]; exact b1) M9
              simp [ir_law_turns_right_18, w_ret, sz_eq]
              refine ⟨_, r1, r2, r3, r4, by rw [← sz_eq]; exact r5, _, r1, r2, r3, r4, by rw [← sz_eq]; exact r5, ?_⟩
              simpa using q _ (F8.mono (by simp))
  rcases (by omega : r = 0 ∨ r = 1) with rfl | rfl
  · simp
    exact key 6 (by decide)
  · simp
    exact key 12 (by decide)
def S_law : DSpec := fun ds M Q => ∃ ns : List Int, ds = [.scr ns] ∧ ns.length ≤ 63 ∧ M = [] ∧ ∀ M', Q (.bl true) M'
def LInv (sc : D) (n : Nat) (i : Nat) (ρ : En) (M : Mem) : Prop := Feed n (900 * i) M ∧ ∃ x, ρ = [some sc, some (.lst n), x]
theorem law_ok (G : Gam) (hf : G "_law_feed" = S_feed) (h1 : G "_law_turns_right" = S_right) (h2 : G "_law_ways_right" = S_right) (h3 : G "_law_kinds_right" = S_right) :
    ∀ ds M Q, S_law ds M Q → wpS G ir_law (bodyE Q) (startD (3 - ds.length) ds) M := by
  rintro ds M Q ⟨ns, rfl, hns, rfl, q⟩
  simp [ir_law_1, w_av, startD, hf]
  refine ⟨ns, rfl, hns, fun n M1 hn1 _ F => ?_⟩
  unfold ir_law_2
  refine w_for ?_
  simp
  refine ⟨LInv (.scr ns) n, ⟨F, _, rfl⟩, ?_, ?_⟩
  · rintro i s ρ M hx ⟨F, x2, rfl⟩
    have hi : i < 4 := by
      have := (List.getElem?_eq_some_iff.mp hx).1
      rwa [rngD_len] at this
    simp [ir_law_3, w_ite, w_skip, h1, h2, h3]
    refine ⟨n, _, rfl, F, by omega, fun M2 f2 => ?_⟩
    simp
    refine ⟨n, _, rfl, f2.feed, by omega, fun M3 f3 => ?_⟩
    simp
    refine ⟨n, _, rfl, f3.feed, by omega, fun M4 f4 => ?_⟩
    simp
    exact ⟨f4.feed.mono (by omega), _, rfl⟩
  · rintro ρ M ⟨F, x2, rfl⟩
    simp [ir_law_5, w_ret]
    exact q _
end T_k05

set_option Elab.async false
set_option linter.all false
set_option maxRecDepth 100000
set_option maxHeartbeats 8000000
namespace T_k05
open PySem L2 PySem.Spec PyProof.Rows DL
def top (i : Nat) : Stmt := PySem.Challenge.pw_rimturns_k05_turns_and_ways.main.body.getD i (.Pass ⟨0, 0, 0, 0⟩)
abbrev st_is_number : Stmt := top 1
abbrev nm_is_number : List Str := ["thing"]
theorem sc_is_number : FnScope nm_is_number ["thing"] (defScope st_is_number) := ⟨rfl, rfl, rfl, by decide +kernel, rfl, by decide +kernel, by decide +kernel⟩
theorem ck_is_number : chkS nm_is_number [] (defScope st_is_number) ir_is_number (defBody st_is_number) = true := by decide +kernel
abbrev st_common_divisor : Stmt := top 2
abbrev nm_common_divisor : List Str := ["one", "other"]
theorem sc_common_divisor : FnScope nm_common_divisor ["one", "other"] (defScope st_common_divisor) := ⟨rfl, rfl, rfl, by decide +kernel, rfl, by decide +kernel, by decide +kernel⟩
theorem ck_common_divisor : chkS nm_common_divisor [] (defScope st_common_divisor) ir_common_divisor (defBody st_common_divisor) = true := by decide +kernel
abbrev st_fraction : Stmt := top 3
abbrev nm_fraction : List Str := ["top", "bottom", "shared"]
theorem sc_fraction : FnScope nm_fraction ["top", "bottom"] (defScope st_fraction) := ⟨rfl, rfl, rfl, by decide +kernel, rfl, by decide +kernel, by decide +kernel⟩
theorem ck_fraction : chkS nm_fraction ["common_divisor"] (defScope st_fraction) ir_fraction (defBody st_fraction) = true := by decide +kernel
abbrev st_turn : Stmt := top 5
abbrev nm_turn : List Str := ["one", "two", "three"]
theorem sc_turn : FnScope nm_turn ["one", "two", "three"] (defScope st_turn) := ⟨rfl, rfl, rfl, by decide +kernel, rfl, by decide +kernel, by decide +kernel⟩
theorem ck_turn : chkS nm_turn [] (defScope st_turn) ir_turn (defBody st_turn) = true := by decide +kernel
abbrev st_sign_of : Stmt := top 6
abbrev nm_sign_of : List Str := ["number"]
theorem sc_sign_of : FnScope nm_sign_of ["number"] (defScope st_sign_of) := ⟨rfl, rfl, rfl, by decide +kernel, rfl, by decide +kernel, by decide +kernel⟩
theorem ck_sign_of : chkS nm_sign_of [] (defScope st_sign_of) ir_sign_of (defBody st_sign_of) = true := by decide +kernel
abbrev st_turn_of : Stmt := top 7
abbrev nm_turn_of : List Str := ["one", "two", "three", "first", "second"]
theorem sc_turn_of : FnScope nm_turn_of ["one", "two", "three"] (defScope st_turn_of) := ⟨rfl, rfl, rfl, by decide +kernel, rfl, by decide +kernel, by decide +kernel⟩
theorem ck_turn_of : chkS nm_turn_of ["sign_of"] (defScope st_turn_of) ir_turn_of (defBody st_turn_of) = true := by decide +kernel
abbrev st_is_way : Stmt := top 8
abbrev nm_is_way : List Str := ["thing"]
theorem sc_is_way : FnScope nm_is_way ["thing"] (defScope st_is_way) := ⟨rfl, rfl, rfl, by decide +kernel, rfl, by decide +kernel, by decide +kernel⟩
theorem ck_is_way : chkS nm_is_way ["is_number"] (defScope st_is_way) ir_is_way (defBody st_is_way) = true := by decide +kernel
abbrev st_bare : Stmt := top 9
abbrev nm_bare : List Str := ["way", "shared"]
theorem sc_bare : FnScope nm_bare ["way"] (defScope st_bare) := ⟨rfl, rfl, rfl, by decide +kernel, rfl, by decide +kernel, by decide +kernel⟩
theorem ck_bare : chkS nm_bare ["common_divisor"] (defScope st_bare) ir_bare (defBody st_bare) = true := by decide +kernel
abbrev st_left_of : Stmt := top 10
abbrev nm_left_of : List Str := ["way"]
theorem sc_left_of : FnScope nm_left_of ["way"] (defScope st_left_of) := ⟨rfl, rfl, rfl, by decide +kernel, rfl, by decide +kernel, by decide +kernel⟩
theorem ck_left_of : chkS nm_left_of [] (defScope st_left_of) ir_left_of (defBody st_left_of) = true := by decide +kernel
abbrev st_cross : Stmt := top 11
abbrev nm_cross : List Str := ["one", "other"]
theorem sc_cross : FnScope nm_cross ["one", "other"] (defScope st_cross) := ⟨rfl, rfl, rfl, by decide +kernel, rfl, by decide +kernel, by decide +kernel⟩
theorem ck_cross : chkS nm_cross [] (defScope st_cross) ir_cross (defBody st_cross) = true := by decide +kernel
abbrev st_goes_alike : Stmt := top 12
abbrev nm_goes_alike : List Str := ["one", "other"]
theorem sc_goes_alike : FnScope nm_goes_alike ["one", "other"] (defScope st_goes_alike) := ⟨rfl, rfl, rfl, by decide +kernel, rfl, by decide +kernel, by decide +kernel⟩
theorem ck_goes_alike : chkS nm_goes_alike ["cross"] (defScope st_goes_alike) ir_goes_alike (defBody st_goes_alike) = true := by decide +kernel
abbrev st_along : Stmt := top 13
abbrev nm_along : List Str := ["way", "place"]
theorem sc_along : FnScope nm_along ["way", "place"] (defScope st_along) := ⟨rfl, rfl, rfl, by decide +kernel, rfl, by decide +kernel, by decide +kernel⟩
theorem ck_along : chkS nm_along ["fraction"] (defScope st_along) ir_along (defBody st_along) = true := by decide +kernel
abbrev st_law_feed : Stmt := top 15
abbrev nm_law_feed : List Str := ["_law_script"]
theorem sc_law_feed : FnScope nm_law_feed ["_law_script"] (defScope st_law_feed) := ⟨rfl, rfl, rfl, by decide +kernel, rfl, by decide +kernel, by decide +kernel⟩
theorem ck_law_feed : chkS nm_law_feed [] (defScope st_law_feed) ir_law_feed (defBody st_law_feed) = true := by decide +kernel
abbrev st_law_draw : Stmt := top 16
abbrev nm_law_draw : List Str := ["_law_feed_here", "_law_many", "_law_found", "_law_at", "_law_cell", "_law_first"]
theorem sc_law_draw : FnScope nm_law_draw ["_law_feed_here", "_law_many"] (defScope st_law_draw) := ⟨rfl, rfl, rfl, by decide +kernel, rfl, by decide +kernel, by decide +kernel⟩
theorem ck_law_draw : chkS nm_law_draw [] (defScope st_law_draw) ir_law_draw (defBody st_law_draw) = true := by decide +kernel
abbrev st_law_number : Stmt := top 17
abbrev nm_law_number : List Str := ["_law_feed_here", "_law_most", "_law_way", "_law_sign", "_law_found", "_law_k"]
theorem sc_law_number : FnScope nm_law_number ["_law_feed_here", "_law_most"] (defScope st_law_number) := ⟨rfl, rfl, rfl, by decide +kernel, rfl, by decide +kernel, by decide +kernel⟩
theorem ck_law_number : chkS nm_law_number ["_law_draw"] (defScope st_law_number) ir_law_number (defBody st_law_number) = true := by decide +kernel
abbrev st_law_shared : Stmt := top 18
abbrev nm_law_shared : List Str := ["_law_one", "_law_other", "_law_twos"]
theorem sc_law_shared : FnScope nm_law_shared ["_law_one", "_law_other"] (defScope st_law_shared) := ⟨rfl, rfl, rfl, by decide +kernel, rfl, by decide +kernel, by decide +kernel⟩
theorem ck_law_shared : chkS nm_law_shared [] (defScope st_law_shared) ir_law_shared (defBody st_law_shared) = true := by decide +kernel
abbrev st_law_is_number : Stmt := top 19
abbrev nm_law_is_number : List Str := ["_law_thing"]
theorem sc_law_is_number : FnScope nm_law_is_number ["_law_thing"] (defScope st_law_is_number) := ⟨rfl, rfl, rfl, by decide +kernel, rfl, by decide +kernel, by decide +kernel⟩
theorem ck_law_is_number : chkS nm_law_is_number [] (defScope st_law_is_number) ir_law_is_number (defBody st_law_is_number) = true := by decide +kernel
abbrev st_law_bent : Stmt := top 20
abbrev nm_law_bent : List Str := ["_law_feed_here", "_law_thing", "_law_at", "_law_way", "_law_some"]
theorem sc_law_bent : FnScope nm_law_bent ["_law_feed_here", "_law_thing"] (defScope st_law_bent) := ⟨rfl, rfl, rfl, by decide +kernel, rfl, by decide +kernel, by decide +kernel⟩
theorem ck_law_bent : chkS nm_law_bent ["_law_draw", "_law_bent"] (defScope st_law_bent) ir_law_bent (defBody st_law_bent) = true := by decide +kernel
abbrev st_law_round : Stmt := top 21
abbrev nm_law_round : List Str := ["_law_one", "_law_two", "_law_three", "_law_found"]
theorem sc_law_round : FnScope nm_law_round ["_law_one", "_law_two", "_law_three"] (defScope st_law_round) := ⟨rfl, rfl, rfl, by decide +kernel, rfl, by decide +kernel, by decide +kernel⟩
theorem ck_law_round : chkS nm_law_round [] (defScope st_law_round) ir_law_round (defBody st_law_round) = true := by decide +kernel
abbrev st_law_third : Stmt := top 22
abbrev nm_law_third : List Str := ["_law_feed_here", "_law_one", "_law_two", "_law_most", "_law_by", "_law_on", "_law_near"]
theorem sc_law_third : FnScope nm_law_third ["_law_feed_here", "_law_one", "_law_two", "_law_most"] (defScope st_law_third) := ⟨rfl, rfl, rfl, by decide +kernel, rfl, by decide +kernel, by decide +kernel⟩
theorem ck_law_third : chkS nm_law_third ["_law_number", "_law_draw"] (defScope st_law_third) ir_law_third (defBody st_law_third) = true := by decide +kernel
abbrev st_law_turns_right : Stmt := top 23
abbrev nm_law_turns_right : List Str := ["_law_feed_here", "_law_most", "_law_one", "_law_two", "_law_three", "_law_due", "_law_told", "_law_marks", "_law_x", "_law_y", "_law_under", "_law_shared_here", "_law_product", "_law_points", "_law_sign", "_law_k"]
theorem sc_law_turns_right : FnScope nm_law_turns_right ["_law_feed_here"] (defScope st_law_turns_right) := ⟨rfl, rfl, rfl, by decide +kernel, rfl, by decide +kernel, by decide +kernel⟩
theorem ck_law_turns_right : chkS nm_law_turns_right ["turn_of", "_law_round", "_law_shared", "_law_draw", "turn", "_law_third", "_law_number"] (defScope st_law_turns_right) ir_law_turns_right (defBody st_law_turns_right) = true := by decide +kernel
abbrev st_law_is_way : Stmt := top 24
abbrev nm_law_is_way : List Str := ["_law_thing", "_law_one"]
theorem sc_law_is_way : FnScope nm_law_is_way ["_law_thing"] (defScope st_law_is_way) := ⟨rfl, rfl, rfl, by decide +kernel, rfl, by decide +kernel, by decide +kernel⟩
theorem ck_law_is_way : chkS nm_law_is_way ["_law_is_number"] (defScope st_law_is_way) ir_law_is_way (defBody st_law_is_way) = true := by decide +kernel
abbrev st_law_ways : Stmt := top 25
abbrev nm_law_ways : List Str := ["_law_feed_here", "_law_one", "_law_by", "_law_some", "_law_other"]
theorem sc_law_ways : FnScope nm_law_ways ["_law_feed_here"] (defScope st_law_ways) := ⟨rfl, rfl, rfl, by decide +kernel, rfl, by decide +kernel, by decide +kernel⟩
theorem ck_law_ways : chkS nm_law_ways ["_law_draw", "_law_number"] (defScope st_law_ways) ir_law_ways (defBody st_law_ways) = true := by decide +kernel
abbrev st_law_are_alike : Stmt := top 26
abbrev nm_law_are_alike : List Str := ["_law_one", "_law_other", "_law_signs", "_law_a", "_law_b"]
theorem sc_law_are_alike : FnScope nm_law_are_alike ["_law_one", "_law_other"] (defScope st_law_are_alike) := ⟨rfl, rfl, rfl, by decide +kernel, rfl, by decide +kernel, by decide +kernel⟩
theorem ck_law_are_alike : chkS nm_law_are_alike [] (defScope st_law_are_alike) ir_law_are_alike (defBody st_law_are_alike) = true := by decide +kernel
abbrev st_law_ways_right : Stmt := top 27
abbrev nm_law_ways_right : List Str := ["_law_feed_here", "_law_one", "_law_other", "_law_told", "_law_first", "_law_second", "_law_x", "_law_y", "_law_under", "_law_shared_here", "_law_dot"]
theorem sc_law_ways_right : FnScope nm_law_ways_right ["_law_feed_here"] (defScope st_law_ways_right) := ⟨rfl, rfl, rfl, by decide +kernel, rfl, by decide +kernel, by decide +kernel⟩
theorem ck_law_ways_right : chkS nm_law_ways_right ["_law_shared", "_law_is_number", "along", "_law_number", "_law_draw", "goes_alike", "_law_are_alike", "left_of", "_law_is_way", "bare", "_law_ways"] (defScope st_law_ways_right) ir_law_ways_right (defBody st_law_ways_right) = true := by decide +kernel
abbrev st_law_kinds_right : Stmt := top 28
abbrev nm_law_kinds_right : List Str := ["_law_feed_here", "_law_things", "_law_one", "_law_other", "_law_thing"]
theorem sc_law_kinds_right : FnScope nm_law_kinds_right ["_law_feed_here"] (defScope st_law_kinds_right) := ⟨rfl, rfl, rfl, by decide +kernel, rfl, by decide +kernel, by decide +kernel⟩
theorem ck_law_kinds_right : chkS nm_law_kinds_right ["is_way", "_law_is_way", "_law_bent", "_law_ways"] (defScope st_law_kinds_right) ir_law_kinds_right (defBody st_law_kinds_right) = true := by decide +kernel
abbrev st_law : Stmt := top 29
abbrev nm_law : List Str := ["_law_script", "_law_feed_here", "_law_once"]
theorem sc_law : FnScope nm_law ["_law_script"] (defScope st_law) := ⟨rfl, rfl, rfl, by decide +kernel, rfl, by decide +kernel, by decide +kernel⟩
theorem ck_law : chkS nm_law ["_law_turns_right", "_law_ways_right", "_law_kinds_right", "_law_feed"] (defScope st_law) ir_law (defBody st_law) = true := by decide +kernel
end T_k05

set_option Elab.async false
set_option linter.all false
set_option maxRecDepth 100000
set_option maxHeartbeats 8000000
namespace T_k05
open PySem L2 PySem.Spec PyProof.Rows DL
theorem len_fraction : ∀ ds M Q, S_fraction ds M Q → ds.length = 2 := fun _ _ _ ⟨_, _, e, _⟩ => by rw [e]; rfl
theorem len_tri : ∀ ds M Q, S_tri ds M Q → ds.length = 3 := fun _ _ _ ⟨_, _, _, _, _, _, _, e, _⟩ => by rw [e]; rfl
theorem len_sign : ∀ ds M Q, S_sign ds M Q → ds.length = 1 := fun _ _ _ ⟨_, e, _⟩ => by rw [e]; rfl
theorem len_turnof : ∀ ds M Q, S_turnof ds M Q → ds.length = 3 := fun _ _ _ ⟨_, _, _, _, _, _, _, _, _, _, e, _⟩ => by rw [e]; rfl
theorem len_kind {f : D → Bool} : ∀ ds M Q, S_kind f ds M Q → ds.length = 1 := fun _ _ _ ⟨_, _, _, _, _, e, _⟩ => by rw [e]; rfl
theorem len_bare : ∀ ds M Q, S_bare ds M Q → ds.length = 1 := fun _ _ _ ⟨_, _, e, _⟩ => by rw [e]; rfl
theorem len_left : ∀ ds M Q, S_left ds M Q → ds.length = 1 := fun _ _ _ ⟨_, _, e, _⟩ => by rw [e]; rfl
theorem len_cross : ∀ ds M Q, S_cross ds M Q → ds.length = 2 := fun _ _ _ ⟨_, _, _, _, e, _⟩ => by rw [e]; rfl
theorem len_alike : ∀ ds M Q, S_alike ds M Q → ds.length = 2 := fun _ _ _ ⟨_, _, _, _, e, _⟩ => by rw [e]; rfl
theorem len_along : ∀ ds M Q, S_along ds M Q → ds.length = 2 := fun _ _ _ ⟨_, _, _, _, _, e, _⟩ => by rw [e]; rfl
theorem len_third : ∀ ds M Q, S_third ds M Q → ds.length = 4 := fun _ _ _ ⟨_, _, _, _, _, _, _, e, _⟩ => by rw [e]; rfl
theorem len_right : ∀ ds M Q, S_right ds M Q → ds.length = 1 := fun _ _ _ ⟨_, _, e, _⟩ => by rw [e]; rfl
theorem len_ways : ∀ ds M Q, S_ways ds M Q → ds.length = 1 := fun _ _ _ ⟨_, _, e, _⟩ => by rw [e]; rfl
theorem len_arealike : ∀ ds M Q, S_arealike ds M Q → ds.length = 2 := fun _ _ _ ⟨_, _, _, _, e, _⟩ => by rw [e]; rfl
theorem len_law : ∀ ds M Q, S_law ds M Q → ds.length = 1 := fun _ _ _ ⟨_, e, _⟩ => by rw [e]; rfl
def GG (T : Nat) : Gam := fun f => if f = "is_number" then S_isnum else if f = "common_divisor" then S_gcd else if f = "fraction" then S_fraction else if f = "turn" then S_tri else if f = "sign_of" then S_sign else if f = "turn_of" then S_turnof else if f = "is_way" then S_kind isWay else if f = "bare" then S_bare else if f = "left_of" then S_left else if f = "cross" then S_cross else if f = "goes_alike" then S_alike else if f = "along" then S_along else if f = "_law_feed" then S_feed else if f = "_law_draw" then S_draw else if f = "_law_number" then S_number else if f = "_law_shared" then S_shared 2000 else if f = "_law_is_number" then S_isnum else if f = "_law_bent" then S_bent T else if f = "_law_round" then S_tri else if f = "_law_third" then S_third else if f = "_law_turns_right" then S_right else if f = "_law_is_way" then S_kind isWay else if f = "_law_ways" then S_ways else if f = "_law_are_alike" then S_arealike else if f = "_law_ways_right" then S_right else if f = "_law_kinds_right" then S_right else fun _ _ _ => False
def dd_is_number : He.DefD := ⟨("is_number", none), "is_number", "is_number", defArgs st_is_number, defBody st_is_number, defScope st_is_number, [], []⟩
def dd_common_divisor : He.DefD := ⟨("common_divisor", none), "common_divisor", "common_divisor", defArgs st_common_divisor, defBody st_common_divisor, defScope st_common_divisor, [], []⟩
def dd_fraction : He.DefD := ⟨("fraction", none), "fraction", "fraction", defArgs st_fraction, defBody st_fraction, defScope st_fraction, [], []⟩
def dd_turn : He.DefD := ⟨("turn", none), "turn", "turn", defArgs st_turn, defBody st_turn, defScope st_turn, [], []⟩
def dd_sign_of : He.DefD := ⟨("sign_of", none), "sign_of", "sign_of", defArgs st_sign_of, defBody st_sign_of, defScope st_sign_of, [], []⟩
def dd_turn_of : He.DefD := ⟨("turn_of", none), "turn_of", "turn_of", defArgs st_turn_of, defBody st_turn_of, defScope st_turn_of, [], []⟩
def dd_is_way : He.DefD := ⟨("is_way", none), "is_way", "is_way", defArgs st_is_way, defBody st_is_way, defScope st_is_way, [], []⟩
def dd_bare : He.DefD := ⟨("bare", none), "bare", "bare", defArgs st_bare, defBody st_bare, defScope st_bare, [], []⟩
def dd_left_of : He.DefD := ⟨("left_of", none), "left_of", "left_of", defArgs st_left_of, defBody st_left_of, defScope st_left_of, [], []⟩
def dd_cross : He.DefD := ⟨("cross", none), "cross", "cross", defArgs st_cross, defBody st_cross, defScope st_cross, [], []⟩
def dd_goes_alike : He.DefD := ⟨("goes_alike", none), "goes_alike", "goes_alike", defArgs st_goes_alike, defBody st_goes_alike, defScope st_goes_alike, [], []⟩
def dd_along : He.DefD := ⟨("along", none), "along", "along", defArgs st_along, defBody st_along, defScope st_along, [], []⟩
def dd_law_feed : He.DefD := ⟨("_law_feed", none), "_law_feed", "_law_feed", defArgs st_law_feed, defBody st_law_feed, defScope st_law_feed, [], []⟩
def dd_law_draw : He.DefD := ⟨("_law_draw", none), "_law_draw", "_law_draw", defArgs st_law_draw, defBody st_law_draw, defScope st_law_draw, [], []⟩
def dd_law_number : He.DefD := ⟨("_law_number", none), "_law_number", "_law_number", defArgs st_law_number, defBody st_law_number, defScope st_law_number, [], []⟩
def dd_law_shared : He.DefD := ⟨("_law_shared", none), "_law_shared", "_law_shared", defArgs st_law_shared, defBody st_law_shared, defScope st_law_shared, [], []⟩
def dd_law_is_number : He.DefD := ⟨("_law_is_number", none), "_law_is_number", "_law_is_number", defArgs st_law_is_number, defBody st_law_is_number, defScope st_law_is_number, [], []⟩
def dd_law_bent : He.DefD := ⟨("_law_bent", none), "_law_bent", "_law_bent", defArgs st_law_bent, defBody st_law_bent, defScope st_law_bent, [], []⟩
def dd_law_round : He.DefD := ⟨("_law_round", none), "_law_round", "_law_round", defArgs st_law_round, defBody st_law_round, defScope st_law_round, [], []⟩
def dd_law_third : He.DefD := ⟨("_law_third", none), "_law_third", "_law_third", defArgs st_law_third, defBody st_law_third, defScope st_law_third, [], []⟩
def dd_law_turns_right : He.DefD := ⟨("_law_turns_right", none), "_law_turns_right", "_law_turns_right", defArgs st_law_turns_right, defBody st_law_turns_right, defScope st_law_turns_right, [], []⟩
def dd_law_is_way : He.DefD := ⟨("_law_is_way", none), "_law_is_way", "_law_is_way", defArgs st_law_is_way, defBody st_law_is_way, defScope st_law_is_way, [], []⟩
def dd_law_ways : He.DefD := ⟨("_law_ways", none), "_law_ways", "_law_ways", defArgs st_law_ways, defBody st_law_ways, defScope st_law_ways, [], []⟩
def dd_law_are_alike : He.DefD := ⟨("_law_are_alike", none), "_law_are_alike", "_law_are_alike", defArgs st_law_are_alike, defBody st_law_are_alike, defScope st_law_are_alike, [], []⟩
def dd_law_ways_right : He.DefD := ⟨("_law_ways_right", none), "_law_ways_right", "_law_ways_right", defArgs st_law_ways_right, defBody st_law_ways_right, defScope st_law_ways_right, [], []⟩
def dd_law_kinds_right : He.DefD := ⟨("_law_kinds_right", none), "_law_kinds_right", "_law_kinds_right", defArgs st_law_kinds_right, defBody st_law_kinds_right, defScope st_law_kinds_right, [], []⟩
def dd_law : He.DefD := ⟨("law", none), "law", "law", defArgs st_law, defBody st_law, defScope st_law, [], []⟩
def fnl : List He.DefD := [dd_is_number, dd_common_divisor, dd_fraction, dd_turn, dd_sign_of, dd_turn_of, dd_is_way, dd_bare, dd_left_of, dd_cross, dd_goes_alike, dd_along, dd_law_feed, dd_law_draw, dd_law_number, dd_law_shared, dd_law_is_number, dd_law_bent, dd_law_round, dd_law_third, dd_law_turns_right, dd_law_is_way, dd_law_ways, dd_law_are_alike, dd_law_ways_right, dd_law_kinds_right, dd_law]
def fal : List He.Fa := [.glo "is_number", .glo "common_divisor", .glo "fraction", .glo "turn", .glo "sign_of", .glo "turn_of", .glo "is_way", .glo "bare", .glo "left_of", .glo "cross", .glo "goes_alike", .glo "along", .glo "_law_feed", .glo "_law_draw", .glo "_law_number", .glo "_law_shared", .glo "_law_is_number", .glo "_law_bent", .glo "_law_round", .glo "_law_third", .glo "_law_turns_right", .glo "_law_is_way", .glo "_law_ways", .glo "_law_are_alike", .glo "_law_ways_right", .glo "_law_kinds_right", .glo "law", .free (Str.ofString "len"), .free (Str.ofString "abs"), .free (Str.ofString "max"), .free (Str.ofString "min"), .free (Str.ofString "sum"), .free (Str.ofString "all"), .free (Str.ofString "any"), .free (Str.ofString "repr"), .free (Str.ofString "str"), .free (Str.ofString "int"), .free (Str.ofString "list"), .free (Str.ofString "tuple"), .free (Str.ofString "sorted"), .free (Str.ofString "set"), .free (Str.ofString "isinstance"), .free (Str.ofString "range"), .free (Str.ofString "zip"), .free (Str.ofString "enumerate"), .free (Str.ofString "bool"), .free (Str.ofString "reversed")]
abbrev RR : PySem.W.OpenRow := PySem.W.OpenLaw.row PySem.Challenge.rw_rimturns_k05_turns_and_ways
abbrev hk : PySem.W.Hook := He.hookD 4 fal fnl
def obs_ (s : PySem.W.SharedT) : He.AlD := He.obsDG 4 fal fnl (HandSHeadRun.getT s)
theorem obs_eq (s : PySem.W.SharedT) : obs_ s = hk.obs s.abs := He.obsDG_eq (HandSHeadRun.getT_eq s)
def loose_ : List Str := ["is_number", "common_divisor", "fraction", "turn", "sign_of", "turn_of", "is_way", "bare", "left_of", "cross", "goes_alike", "along", "_law_feed", "_law_draw", "_law_number", "_law_shared", "_law_is_number", "_law_bent", "_law_round", "_law_third", "_law_turns_right", "_law_is_way", "_law_ways", "_law_are_alike", "_law_ways_right", "_law_kinds_right"]
theorem run_ (w : World) : HandSHeadRun.RunEq RR (PySem.W.view RR.prog [29]) hk obs_ 9000 loose_ w := by
  intro os
  kernel_rfl
theorem facts {P : Program} {w : World} {K : Frg} {h : Heap} {mg : Str → Option Value} {f : Addr} (X : K.In h) (Gn : h.Ns mainGlobals mg) (hfa : mg ("law" : Str) = some (.ref f)) (c : He.SaysD fal fnl K) :
    ∃ fd : FuncData, (∀ (s : Shared) (v : Value), BindsTo s fd ⟨[v], []⟩ [("_law_script", v)]) ∧ ∀ base : Heap, K.In base → base.Ns mainGlobals mg → FnG P w K mg base 9 f fd ["_law_script"] S_law := by
  obtain ⟨fd_is_number, F_is_number⟩ := c.def_ 0 (d := dd_is_number) rfl
  have g_is_number : mg ("is_number" : Str) = _ := He.glo_ok X Gn (c.fact 0 (f := .glo "is_number") rfl)
  obtain ⟨fd_common_divisor, F_common_divisor⟩ := c.def_ 1 (d := dd_common_divisor) rfl
  have g_common_divisor : mg ("common_divisor" : Str) = _ := He.glo_ok X Gn (c.fact 1 (f := .glo "common_divisor") rfl)
  obtain ⟨fd_fraction, F_fraction⟩ := c.def_ 2 (d := dd_fraction) rfl
  have g_fraction : mg ("fraction" : Str) = _ := He.glo_ok X Gn (c.fact 2 (f := .glo "fraction") rfl)
  obtain ⟨fd_turn, F_turn⟩ := c.def_ 3 (d := dd_turn) rfl
  have g_turn : mg ("turn" : Str) = _ := He.glo_ok X Gn (c.fact 3 (f := .glo "turn") rfl)
  obtain ⟨fd_sign_of, F_sign_of⟩ := c.def_ 4 (d := dd_sign_of) rfl
  have g_sign_of : mg ("sign_of" : Str) = _ := He.glo_ok X Gn (c.fact 4 (f := .glo "sign_of") rfl)
  obtain ⟨fd_turn_of, F_turn_of⟩ := c.def_ 5 (d := dd_turn_of) rfl
  have g_turn_of : mg ("turn_of" : Str) = _ := He.glo_ok X Gn (c.fact 5 (f := .glo "turn_of") rfl)
  obtain ⟨fd_is_way, F_is_way⟩ := c.def_ 6 (d := dd_is_way) rfl
  have g_is_way : mg ("is_way" : Str) = _ := He.glo_ok X Gn (c.fact 6 (f := .glo "is_way") rfl)
  obtain ⟨fd_bare, F_bare⟩ := c.def_ 7 (d := dd_bare) rfl
  have g_bare : mg ("bare" : Str) = _ := He.glo_ok X Gn (c.fact 7 (f := .glo "bare") rfl)
  obtain ⟨fd_left_of, F_left_of⟩ := c.def_ 8 (d := dd_left_of) rfl
  have g_left_of : mg ("left_of" : Str) = _ := He.glo_ok X Gn (c.fact 8 (f := .glo "left_of") rfl)
  obtain ⟨fd_cross, F_cross⟩ := c.def_ 9 (d := dd_cross) rfl
  have g_cross : mg ("cross" : Str) = _ := He.glo_ok X Gn (c.fact 9 (f := .glo "cross") rfl)
  obtain ⟨fd_goes_alike, F_goes_alike⟩ := c.def_ 10 (d := dd_goes_alike) rfl
  have g_goes_alike : mg ("goes_alike" : Str) = _ := He.glo_ok X Gn (c.fact 10 (f := .glo "goes_alike") rfl)
  obtain ⟨fd_along, F_along⟩ := c.def_ 11 (d := dd_along) rfl
  have g_along : mg ("along" : Str) = _ := He.glo_ok X Gn (c.fact 11 (f := .glo "along") rfl)
  obtain ⟨fd_law_feed, F_law_feed⟩ := c.def_ 12 (d := dd_law_feed) rfl
  have g_law_feed : mg ("_law_feed" : Str) = _ := He.glo_ok X Gn (c.fact 12 (f := .glo "_law_feed") rfl)
  obtain ⟨fd_law_draw, F_law_draw⟩ := c.def_ 13 (d := dd_law_draw) rfl
  have g_law_draw : mg ("_law_draw" : Str) = _ := He.glo_ok X Gn (c.fact 13 (f := .glo "_law_draw") rfl)
  obtain ⟨fd_law_number, F_law_number⟩ := c.def_ 14 (d := dd_law_number) rfl
  have g_law_number : mg ("_law_number" : Str) = _ := He.glo_ok X Gn (c.fact 14 (f := .glo "_law_number") rfl)
  obtain ⟨fd_law_shared, F_law_shared⟩ := c.def_ 15 (d := dd_law_shared) rfl
  have g_law_shared : mg ("_law_shared" : Str) = _ := He.glo_ok X Gn (c.fact 15 (f := .glo "_law_shared") rfl)
  obtain ⟨fd_law_is_number, F_law_is_number⟩ := c.def_ 16 (d := dd_law_is_number) rfl
  have g_law_is_number : mg ("_law_is_number" : Str) = _ := He.glo_ok X Gn (c.fact 16 (f := .glo "_law_is_number") rfl)
  obtain ⟨fd_law_bent, F_law_bent⟩ := c.def_ 17 (d := dd_law_bent) rfl
  have g_law_bent : mg ("_law_bent" : Str) = _ := He.glo_ok X Gn (c.fact 17 (f := .glo "_law_bent") rfl)
  obtain ⟨fd_law_round, F_law_round⟩ := c.def_ 18 (d := dd_law_round) rfl
  have g_law_round : mg ("_law_round" : Str) = _ := He.glo_ok X Gn (c.fact 18 (f := .glo "_law_round") rfl)
  obtain ⟨fd_law_third, F_law_third⟩ := c.def_ 19 (d := dd_law_third) rfl
  have g_law_third : mg ("_law_third" : Str) = _ := He.glo_ok X Gn (c.fact 19 (f := .glo "_law_third") rfl)
  obtain ⟨fd_law_turns_right, F_law_turns_right⟩ := c.def_ 20 (d := dd_law_turns_right) rfl
  have g_law_turns_right : mg ("_law_turns_right" : Str) = _ := He.glo_ok X Gn (c.fact 20 (f := .glo "_law_turns_right") rfl)
  obtain ⟨fd_law_is_way, F_law_is_way⟩ := c.def_ 21 (d := dd_law_is_way) rfl
  have g_law_is_way : mg ("_law_is_way" : Str) = _ := He.glo_ok X Gn (c.fact 21 (f := .glo "_law_is_way") rfl)
  obtain ⟨fd_law_ways, F_law_ways⟩ := c.def_ 22 (d := dd_law_ways) rfl
  have g_law_ways : mg ("_law_ways" : Str) = _ := He.glo_ok X Gn (c.fact 22 (f := .glo "_law_ways") rfl)
  obtain ⟨fd_law_are_alike, F_law_are_alike⟩ := c.def_ 23 (d := dd_law_are_alike) rfl
  have g_law_are_alike : mg ("_law_are_alike" : Str) = _ := He.glo_ok X Gn (c.fact 23 (f := .glo "_law_are_alike") rfl)
  obtain ⟨fd_law_ways_right, F_law_ways_right⟩ := c.def_ 24 (d := dd_law_ways_right) rfl
  have g_law_ways_right : mg ("_law_ways_right" : Str) = _ := He.glo_ok X Gn (c.fact 24 (f := .glo "_law_ways_right") rfl)
  obtain ⟨fd_law_kinds_right, F_law_kinds_right⟩ := c.def_ 25 (d := dd_law_kinds_right) rfl
  have g_law_kinds_right : mg ("_law_kinds_right" : Str) = _ := He.glo_ok X Gn (c.fact 25 (f := .glo "_law_kinds_right") rfl)
  obtain ⟨fd_law, F_law⟩ := c.def_ 26 (d := dd_law) rfl
  have g_law : mg ("law" : Str) = _ := He.glo_ok X Gn (c.fact 26 (f := .glo "law") rfl)
  have e := hfa.symm.trans g_law
  cases e
  have bi := bi_of X Gn c (j := 27) rfl
  have b := FunD.bindsA (ps := ["_law_script"]) F_law fun _ _ _ _ _ _ us hl => match us, hl with | [_], _ => rfl
  refine ⟨fd_law, fun s v => b s [v] rfl, fun base _ _ => ?_⟩
  have n_sign_of : FnG P w K mg base 1 _ fd_sign_of ["number"] (S_sign) := fn_mkG (G := GG 4) F_sign_of sc_sign_of ck_sign_of bi (fa_nil) len_sign (sign_of_ok _)
  have D_sign_of : ∀ (k : Nat) (G : Gam), 1 ≤ k → G "sign_of" = S_sign → FnD G P w K mg base k "sign_of" := fun k G hk e => ⟨_, fd_sign_of, ["number"], g_sign_of, F_sign_of.kp, F_sign_of.bindsN (fun _ _ _ _ _ _ us hl => match us, hl with | [_], _ => rfl), by rw [e]; exact n_sign_of.mono hk⟩
  have n_turn_of : FnG P w K mg base 2 _ fd_turn_of ["one", "two", "three"] (S_turnof) := fn_mkG (G := GG 4) F_turn_of sc_turn_of ck_turn_of bi (fa_cons (D_sign_of _ (GG 4) (by omega) (by simp [GG])) (fa_nil)) len_turnof (turn_of_ok _ (by simp [GG]))
  have D_turn_of : ∀ (k : Nat) (G : Gam), 2 ≤ k → G "turn_of" = S_turnof → FnD G P w K mg base k "turn_of" := fun k G hk e => ⟨_, fd_turn_of, ["one", "two", "three"], g_turn_of, F_turn_of.kp, F_turn_of.bindsN (fun _ _ _ _ _ _ us hl => match us, hl with | [_, _, _], _ => rfl), by rw [e]; exact n_turn_of.mono hk⟩
  have n_law_round : FnG P w K mg base 1 _ fd_law_round ["_law_one", "_law_two", "_law_three"] (S_tri) := fn_mkG (G := GG 4) F_law_round sc_law_round ck_law_round bi (fa_nil) len_tri (round_ok _)
  have D_law_round : ∀ (k : Nat) (G : Gam), 1 ≤ k → G "_law_round" = S_tri → FnD G P w K mg base k "_law_round" := fun k G hk e => ⟨_, fd_law_round, ["_law_one", "_law_two", "_law_three"], g_law_round, F_law_round.kp, F_law_round.bindsN (fun _ _ _ _ _ _ us hl => match us, hl with | [_, _, _], _ => rfl), by rw [e]; exact n_law_round.mono hk⟩
  have n_law_shared : FnG P w K mg base 1 _ fd_law_shared ["_law_one", "_law_other"] (S_shared 2000) := fn_mkG (G := GG 4) F_law_shared sc_law_shared ck_law_shared bi (fa_nil) len_shared (law_shared_ok (by decide) _)
  have D_law_shared : ∀ (k : Nat) (G : Gam), 1 ≤ k → G "_law_shared" = S_shared 2000 → FnD G P w K mg base k "_law_shared" := fun k G hk e => ⟨_, fd_law_shared, ["_law_one", "_law_other"], g_law_shared, F_law_shared.kp, F_law_shared.bindsN (fun _ _ _ _ _ _ us hl => match us, hl with | [_, _], _ => rfl), by rw [e]; exact n_law_shared.mono hk⟩
  have n_law_draw : FnG P w K mg base 1 _ fd_law_draw ["_law_feed_here", "_law_many"] (S_draw) := fn_mkG (G := GG 4) F_law_draw sc_law_draw ck_law_draw bi (fa_nil) len_draw (draw_ok _)
  have D_law_draw : ∀ (k : Nat) (G : Gam), 1 ≤ k → G "_law_draw" = S_draw → FnD G P w K mg base k "_law_draw" := fun k G hk e => ⟨_, fd_law_draw, ["_law_feed_here", "_law_many"], g_law_draw, F_law_draw.kp, F_law_draw.bindsN (fun _ _ _ _ _ _ us hl => match us, hl with | [_, _], _ => rfl), by rw [e]; exact n_law_draw.mono hk⟩
  have n_turn : FnG P w K mg base 1 _ fd_turn ["one", "two", "three"] (S_tri) := fn_mkG (G := GG 4) F_turn sc_turn ck_turn bi (fa_nil) len_tri (turn_ok _)
  have D_turn : ∀ (k : Nat) (G : Gam), 1 ≤ k → G "turn" = S_tri → FnD G P w K mg base k "turn" := fun k G hk e => ⟨_, fd_turn, ["one", "two", "three"], g_turn, F_turn.kp, F_turn.bindsN (fun _ _ _ _ _ _ us hl => match us, hl with | [_, _, _], _ => rfl), by rw [e]; exact n_turn.mono hk⟩
  have n_law_number : FnG P w K mg base 2 _ fd_law_number ["_law_feed_here", "_law_most"] (S_number) := fn_mkG (G := GG 4) F_law_number sc_law_number ck_law_number bi (fa_cons (D_law_draw _ (GG 4) (by omega) (by simp [GG])) (fa_nil)) len_number (number_ok _ (by simp [GG]))
  have D_law_number : ∀ (k : Nat) (G : Gam), 2 ≤ k → G "_law_number" = S_number → FnD G P w K mg base k "_law_number" := fun k G hk e => ⟨_, fd_law_number, ["_law_feed_here", "_law_most"], g_law_number, F_law_number.kp, F_law_number.bindsN (fun _ _ _ _ _ _ us hl => match us, hl with | [_, _], _ => rfl), by rw [e]; exact n_law_number.mono hk⟩
  have n_law_third : FnG P w K mg base 3 _ fd_law_third ["_law_feed_here", "_law_one", "_law_two", "_law_most"] (S_third) := fn_mkG (G := GG 4) F_law_third sc_law_third ck_law_third bi (fa_cons (D_law_number _ (GG 4) (by omega) (by simp [GG])) (fa_cons (D_law_draw _ (GG 4) (by omega) (by simp [GG])) (fa_nil))) len_third (third_ok _ (by simp [GG]) (by simp [GG]))
  have D_law_third : ∀ (k : Nat) (G : Gam), 3 ≤ k → G "_law_third" = S_third → FnD G P w K mg base k "_law_third" := fun k G hk e => ⟨_, fd_law_third, ["_law_feed_here", "_law_one", "_law_two", "_law_most"], g_law_third, F_law_third.kp, F_law_third.bindsN (fun _ _ _ _ _ _ us hl => match us, hl with | [_, _, _, _], _ => rfl), by rw [e]; exact n_law_third.mono hk⟩
  have n_law_turns_right : FnG P w K mg base 4 _ fd_law_turns_right ["_law_feed_here"] (S_right) := fn_mkG (G := GG 4) F_law_turns_right sc_law_turns_right ck_law_turns_right bi (fa_cons (D_turn_of _ (GG 4) (by omega) (by simp [GG])) (fa_cons (D_law_round _ (GG 4) (by omega) (by simp [GG])) (fa_cons (D_law_shared _ (GG 4) (by omega) (by simp [GG])) (fa_cons (D_law_draw _ (GG 4) (by omega) (by simp [GG])) (fa_cons (D_turn _ (GG 4) (by omega) (by simp [GG])) (fa_cons (D_law_third _ (GG 4) (by omega) (by simp [GG])) (fa_cons (D_law_number _ (GG 4) (by omega) (by simp [GG])) (fa_nil)))))))) len_right (turns_right_ok _ (by simp [GG]) (by simp [GG]) (by simp [GG]) (by simp [GG]) (by simp [GG]) (by simp [GG]) (by simp [GG]))
  have D_law_turns_right : ∀ (k : Nat) (G : Gam), 4 ≤ k → G "_law_turns_right" = S_right → FnD G P w K mg base k "_law_turns_right" := fun k G hk e => ⟨_, fd_law_turns_right, ["_law_feed_here"], g_law_turns_right, F_law_turns_right.kp, F_law_turns_right.bindsN (fun _ _ _ _ _ _ us hl => match us, hl with | [_], _ => rfl), by rw [e]; exact n_law_turns_right.mono hk⟩
  have n_law_is_number : FnG P w K mg base 1 _ fd_law_is_number ["_law_thing"] (S_isnum) := fn_mkG (G := GG 4) F_law_is_number sc_law_is_number ck_law_is_number bi (fa_nil) len_isnum (law_is_number_ok _)
  have D_law_is_number : ∀ (k : Nat) (G : Gam), 1 ≤ k → G "_law_is_number" = S_isnum → FnD G P w K mg base k "_law_is_number" := fun k G hk e => ⟨_, fd_law_is_number, ["_law_thing"], g_law_is_number, F_law_is_number.kp, F_law_is_number.bindsN (fun _ _ _ _ _ _ us hl => match us, hl with | [_], _ => rfl), by rw [e]; exact n_law_is_number.mono hk⟩
  have n_common_divisor : FnG P w K mg base 1 _ fd_common_divisor ["one", "other"] (S_gcd) := fn_mkG (G := GG 4) F_common_divisor sc_common_divisor ck_common_divisor bi (fa_nil) len_gcd (common_divisor_ok _)
  have D_common_divisor : ∀ (k : Nat) (G : Gam), 1 ≤ k → G "common_divisor" = S_gcd → FnD G P w K mg base k "common_divisor" := fun k G hk e => ⟨_, fd_common_divisor, ["one", "other"], g_common_divisor, F_common_divisor.kp, F_common_divisor.bindsN (fun _ _ _ _ _ _ us hl => match us, hl with | [_, _], _ => rfl), by rw [e]; exact n_common_divisor.mono hk⟩
  have n_fraction : FnG P w K mg base 2 _ fd_fraction ["top", "bottom"] (S_fraction) := fn_mkG (G := GG 4) F_fraction sc_fraction ck_fraction bi (fa_cons (D_common_divisor _ (GG 4) (by omega) (by simp [GG])) (fa_nil)) len_fraction (fraction_ok _ (by simp [GG]))
  have D_fraction : ∀ (k : Nat) (G : Gam), 2 ≤ k → G "fraction" = S_fraction → FnD G P w K mg base k "fraction" := fun k G hk e => ⟨_, fd_fraction, ["top", "bottom"], g_fraction, F_fraction.kp, F_fraction.bindsN (fun _ _ _ _ _ _ us hl => match us, hl with | [_, _], _ => rfl), by rw [e]; exact n_fraction.mono hk⟩
  have n_along : FnG P w K mg base 3 _ fd_along ["way", "place"] (S_along) := fn_mkG (G := GG 4) F_along sc_along ck_along bi (fa_cons (D_fraction _ (GG 4) (by omega) (by simp [GG])) (fa_nil)) len_along (along_ok _ (by simp [GG]))
  have D_along : ∀ (k : Nat) (G : Gam), 3 ≤ k → G "along" = S_along → FnD G P w K mg base k "along" := fun k G hk e => ⟨_, fd_along, ["way", "place"], g_along, F_along.kp, F_along.bindsN (fun _ _ _ _ _ _ us hl => match us, hl with | [_, _], _ => rfl), by rw [e]; exact n_along.mono hk⟩
  have n_cross : FnG P w K mg base 1 _ fd_cross ["one", "other"] (S_cross) := fn_mkG (G := GG 4) F_cross sc_cross ck_cross bi (fa_nil) len_cross (cross_ok _)
  have D_cross : ∀ (k : Nat) (G : Gam), 1 ≤ k → G "cross" = S_cross → FnD G P w K mg base k "cross" := fun k G hk e => ⟨_, fd_cross, ["one", "other"], g_cross, F_cross.kp, F_cross.bindsN (fun _ _ _ _ _ _ us hl => match us, hl with | [_, _], _ => rfl), by rw [e]; exact n_cross.mono hk⟩
  have n_goes_alike : FnG P w K mg base 2 _ fd_goes_alike ["one", "other"] (S_alike) := fn_mkG (G := GG 4) F_goes_alike sc_goes_alike ck_goes_alike bi (fa_cons (D_cross _ (GG 4) (by omega) (by simp [GG])) (fa_nil)) len_alike (goes_alike_ok _ (by simp [GG]))
  have D_goes_alike : ∀ (k : Nat) (G : Gam), 2 ≤ k → G "goes_alike" = S_alike → FnD G P w K mg base k "goes_alike" := fun k G hk e => ⟨_, fd_goes_alike, ["one", "other"], g_goes_alike, F_goes_alike.kp, F_goes_alike.bindsN (fun _ _ _ _ _ _ us hl => match us, hl with | [_, _], _ => rfl), by rw [e]; exact n_goes_alike.mono hk⟩
  have n_law_are_alike : FnG P w K mg base 1 _ fd_law_are_alike ["_law_one", "_law_other"] (S_arealike) := fn_mkG (G := GG 4) F_law_are_alike sc_law_are_alike ck_law_are_alike bi (fa_nil) len_arealike (are_alike_ok _)
  have D_law_are_alike : ∀ (k : Nat) (G : Gam), 1 ≤ k → G "_law_are_alike" = S_arealike → FnD G P w K mg base k "_law_are_alike" := fun k G hk e => ⟨_, fd_law_are_alike, ["_law_one", "_law_other"], g_law_are_alike, F_law_are_alike.kp, F_law_are_alike.bindsN (fun _ _ _ _ _ _ us hl => match us, hl with | [_, _], _ => rfl), by rw [e]; exact n_law_are_alike.mono hk⟩
  have n_left_of : FnG P w K mg base 1 _ fd_left_of ["way"] (S_left) := fn_mkG (G := GG 4) F_left_of sc_left_of ck_left_of bi (fa_nil) len_left (left_of_ok _)
  have D_left_of : ∀ (k : Nat) (G : Gam), 1 ≤ k → G "left_of" = S_left → FnD G P w K mg base k "left_of" := fun k G hk e => ⟨_, fd_left_of, ["way"], g_left_of, F_left_of.kp, F_left_of.bindsN (fun _ _ _ _ _ _ us hl => match us, hl with | [_], _ => rfl), by rw [e]; exact n_left_of.mono hk⟩
  have n_law_is_way : FnG P w K mg base 2 _ fd_law_is_way ["_law_thing"] (S_kind isWay) := fn_mkG (G := GG 4) F_law_is_way sc_law_is_way ck_law_is_way bi (fa_cons (D_law_is_number _ (GG 4) (by omega) (by simp [GG])) (fa_nil)) len_kind (law_is_way_ok _ (by simp [GG]))
  have D_law_is_way : ∀ (k : Nat) (G : Gam), 2 ≤ k → G "_law_is_way" = S_kind isWay → FnD G P w K mg base k "_law_is_way" := fun k G hk e => ⟨_, fd_law_is_way, ["_law_thing"], g_law_is_way, F_law_is_way.kp, F_law_is_way.bindsN (fun _ _ _ _ _ _ us hl => match us, hl with | [_], _ => rfl), by rw [e]; exact n_law_is_way.mono hk⟩
  have n_bare : FnG P w K mg base 2 _ fd_bare ["way"] (S_bare) := fn_mkG (G := GG 4) F_bare sc_bare ck_bare bi (fa_cons (D_common_divisor _ (GG 4) (by omega) (by simp [GG])) (fa_nil)) len_bare (bare_ok _ (by simp [GG]))
  have D_bare : ∀ (k : Nat) (G : Gam), 2 ≤ k → G "bare" = S_bare → FnD G P w K mg base k "bare" := fun k G hk e => ⟨_, fd_bare, ["way"], g_bare, F_bare.kp, F_bare.bindsN (fun _ _ _ _ _ _ us hl => match us, hl with | [_], _ => rfl), by rw [e]; exact n_bare.mono hk⟩
  have n_law_ways : FnG P w K mg base 3 _ fd_law_ways ["_law_feed_here"] (S_ways) := fn_mkG (G := GG 4) F_law_ways sc_law_ways ck_law_ways bi (fa_cons (D_law_draw _ (GG 4) (by omega) (by simp [GG])) (fa_cons (D_law_number _ (GG 4) (by omega) (by simp [GG])) (fa_nil))) len_ways (ways_ok _ (by simp [GG]) (by simp [GG]))
  have D_law_ways : ∀ (k : Nat) (G : Gam), 3 ≤ k → G "_law_ways" = S_ways → FnD G P w K mg base k "_law_ways" := fun k G hk e => ⟨_, fd_law_ways, ["_law_feed_here"], g_law_ways, F_law_ways.kp, F_law_ways.bindsN (fun _ _ _ _ _ _ us hl => match us, hl with | [_], _ => rfl), by rw [e]; exact n_law_ways.mono hk⟩
  have n_law_ways_right : FnG P w K mg base 4 _ fd_law_ways_right ["_law_feed_here"] (S_right) := fn_mkG (G := GG 4) F_law_ways_right sc_law_ways_right ck_law_ways_right bi (fa_cons (D_law_shared _ (GG 4) (by omega) (by simp [GG])) (fa_cons (D_law_is_number _ (GG 4) (by omega) (by simp [GG])) (fa_cons (D_along _ (GG 4) (by omega) (by simp [GG])) (fa_cons (D_law_number _ (GG 4) (by omega) (by simp [GG])) (fa_cons (D_law_draw _ (GG 4) (by omega) (by simp [GG])) (fa_cons (D_goes_alike _ (GG 4) (by omega) (by simp [GG])) (fa_cons (D_law_are_alike _ (GG 4) (by omega) (by simp [GG])) (fa_cons (D_left_of _ (GG 4) (by omega) (by simp [GG])) (fa_cons (D_law_is_way _ (GG 4) (by omega) (by simp [GG])) (fa_cons (D_bare _ (GG 4) (by omega) (by simp [GG])) (fa_cons (D_law_ways _ (GG 4) (by omega) (by simp [GG])) (fa_nil)))))))))))) len_right (ways_right_ok _ (by simp [GG]) (by simp [GG]) (by simp [GG]) (by simp [GG]) (by simp [GG]) (by simp [GG]) (by simp [GG]) (by simp [GG]) (by simp [GG]) (by simp [GG]) (by simp [GG]))
  have D_law_ways_right : ∀ (k : Nat) (G : Gam), 4 ≤ k → G "_law_ways_right" = S_right → FnD G P w K mg base k "_law_ways_right" := fun k G hk e => ⟨_, fd_law_ways_right, ["_law_feed_here"], g_law_ways_right, F_law_ways_right.kp, F_law_ways_right.bindsN (fun _ _ _ _ _ _ us hl => match us, hl with | [_], _ => rfl), by rw [e]; exact n_law_ways_right.mono hk⟩
  have n_is_number : FnG P w K mg base 1 _ fd_is_number ["thing"] (S_isnum) := fn_mkG (G := GG 4) F_is_number sc_is_number ck_is_number bi (fa_nil) len_isnum (is_number_ok _)
  have D_is_number : ∀ (k : Nat) (G : Gam), 1 ≤ k → G "is_number" = S_isnum → FnD G P w K mg base k "is_number" := fun k G hk e => ⟨_, fd_is_number, ["thing"], g_is_number, F_is_number.kp, F_is_number.bindsN (fun _ _ _ _ _ _ us hl => match us, hl with | [_], _ => rfl), by rw [e]; exact n_is_number.mono hk⟩
  have n_is_way : FnG P w K mg base 2 _ fd_is_way ["thing"] (S_kind isWay) := fn_mkG (G := GG 4) F_is_way sc_is_way ck_is_way bi (fa_cons (D_is_number _ (GG 4) (by omega) (by simp [GG])) (fa_nil)) len_kind (is_way_ok _ (by simp [GG]))
  have D_is_way : ∀ (k : Nat) (G : Gam), 2 ≤ k → G "is_way" = S_kind isWay → FnD G P w K mg base k "is_way" := fun k G hk e => ⟨_, fd_is_way, ["thing"], g_is_way, F_is_way.kp, F_is_way.bindsN (fun _ _ _ _ _ _ us hl => match us, hl with | [_], _ => rfl), by rw [e]; exact n_is_way.mono hk⟩
  have nt_law_bent : ∀ T : Nat, FnG P w K mg base (2 + T) (He.fAd K dd_law_bent.at_) fd_law_bent ["_law_feed_here", "_law_thing"] (S_bent T) := by
    intro T
    induction T with
    | zero => exact FnG.none (fun _ _ _ ⟨_, _, _, _, _, _, _, _, h, _⟩ => absurd h (Nat.not_lt_zero _))
    | succ T ih => exact fn_mkG (G := GG T) (k := 2 + T) F_law_bent sc_law_bent ck_law_bent bi (fa_cons (D_law_draw _ (GG T) (by omega) (by simp [GG])) (fa_cons (⟨_, fd_law_bent, ["_law_feed_here", "_law_thing"], g_law_bent, F_law_bent.kp, F_law_bent.bindsN (fun _ _ _ _ _ _ us hl => match us, hl with | [_, _], _ => rfl), by rw [show GG T "_law_bent" = S_bent T by simp [GG]]; exact ih⟩) (fa_nil))) len_bent (bent_ok _ T (by simp [GG]) (by simp [GG]))
  have n_law_bent : FnG P w K mg base 7 (He.fAd K dd_law_bent.at_) fd_law_bent ["_law_feed_here", "_law_thing"] (S_bent 4) := (nt_law_bent 4).mono (by omega)
  have D_law_bent : ∀ (k : Nat) (G : Gam), 7 ≤ k → G "_law_bent" = S_bent 4 → FnD G P w K mg base k "_law_bent" := fun k G hk e => ⟨_, fd_law_bent, ["_law_feed_here", "_law_thing"], g_law_bent, F_law_bent.kp, F_law_bent.bindsN (fun _ _ _ _ _ _ us hl => match us, hl with | [_, _], _ => rfl), by rw [e]; exact n_law_bent.mono hk⟩
  have n_law_kinds_right : FnG P w K mg base 8 _ fd_law_kinds_right ["_law_feed_here"] (S_right) := fn_mkG (G := GG 4) F_law_kinds_right sc_law_kinds_right ck_law_kinds_right bi (fa_cons (D_is_way _ (GG 4) (by omega) (by simp [GG])) (fa_cons (D_law_is_way _ (GG 4) (by omega) (by simp [GG])) (fa_cons (D_law_bent _ (GG 4) (by omega) (by simp [GG])) (fa_cons (D_law_ways _ (GG 4) (by omega) (by simp [GG])) (fa_nil))))) len_right (kinds_right_ok _ (by simp [GG]) (by simp [GG]) (by simp [GG]) (by simp [GG]))
  have D_law_kinds_right : ∀ (k : Nat) (G : Gam), 8 ≤ k → G "_law_kinds_right" = S_right → FnD G P w K mg base k "_law_kinds_right" := fun k G hk e => ⟨_, fd_law_kinds_right, ["_law_feed_here"], g_law_kinds_right, F_law_kinds_right.kp, F_law_kinds_right.bindsN (fun _ _ _ _ _ _ us hl => match us, hl with | [_], _ => rfl), by rw [e]; exact n_law_kinds_right.mono hk⟩
  have n_law_feed : FnG P w K mg base 1 _ fd_law_feed ["_law_script"] (S_feed) := fn_mkG (G := GG 4) F_law_feed sc_law_feed ck_law_feed bi (fa_nil) len_feed (law_feed_ok _)
  have D_law_feed : ∀ (k : Nat) (G : Gam), 1 ≤ k → G "_law_feed" = S_feed → FnD G P w K mg base k "_law_feed" := fun k G hk e => ⟨_, fd_law_feed, ["_law_script"], g_law_feed, F_law_feed.kp, F_law_feed.bindsN (fun _ _ _ _ _ _ us hl => match us, hl with | [_], _ => rfl), by rw [e]; exact n_law_feed.mono hk⟩
  have n_law : FnG P w K mg base 9 _ fd_law ["_law_script"] (S_law) := fn_mkG (G := GG 4) F_law sc_law ck_law bi (fa_cons (D_law_turns_right _ (GG 4) (by omega) (by simp [GG])) (fa_cons (D_law_ways_right _ (GG 4) (by omega) (by simp [GG])) (fa_cons (D_law_kinds_right _ (GG 4) (by omega) (by simp [GG])) (fa_cons (D_law_feed _ (GG 4) (by omega) (by simp [GG])) (fa_nil))))) len_law (law_ok _ (by simp [GG]) (by simp [GG]) (by simp [GG]) (by simp [GG]))
  exact n_law
end T_k05
open PySem PySem.W PySem.Calls PyProof.Rows
theorem PySem.Challenge.cw_rimturns_k05_turns_and_ways_holds : PySem.Challenge.rw_rimturns_k05_turns_and_ways.Holds := by
  w_on; o_law
  refine HandSHeadRun.head_any (r := OpenLaw.row PySem.Challenge.rw_rimturns_k05_turns_and_ways) (q := view (OpenLaw.row PySem.Challenge.rw_rimturns_k05_turns_and_ways).prog [29]) (H := T_k05.hk) (ob := T_k05.obs_) (M := 9000) (loose := T_k05.loose_) (d := HandSHeadRun.topDef (OpenLaw.row PySem.Challenge.rw_rimturns_k05_turns_and_ways).prog 29) (kwd := []) T_k05.obs_eq
    (by kernel_rfl) (fun s => by kernel_rfl) T_k05.run_ (by kernel_rfl) (by kernel_rfl) (by kernel_rfl) (by rfl) (by first | assumption | decide +kernel) (by decide +kernel) ⟨rfl, rfl, rfl, rfl, rfl, by decide +kernel⟩ ?hw ?hc
  case hw => w_witness2
  case hc =>
    refine DL.walkG (l := PySem.Challenge.rw_rimturns_k05_turns_and_ways) (n := 63) (k := 9) (x := "_law_script") rfl (by decide) (by kernel_rfl) ⟨rfl, by decide, by decide⟩ ?F
    intro w mg fa h Y G hmg0
    obtain ⟨K, KX, c⟩ := Y
    have hmg : mg ("law" : PySem.Str) = some (.ref fa) := by
      have e : (HandSHeadRun.topDef (OpenLaw.row PySem.Challenge.rw_rimturns_k05_turns_and_ways).prog 29).name = ("law" : PySem.Str) := by kernel_rfl
      rw [← e]
      exact hmg0
    obtain ⟨fd, hb, hF⟩ := T_k05.facts (P := (PySem.Challenge.rw_rimturns_k05_turns_and_ways).prog) (w := w) KX G hmg c
    exact ⟨K, fd, T_k05.S_law, KX, hb, fun ns hl => ⟨ns, rfl, hl, rfl, fun _ => rfl⟩, hF⟩
