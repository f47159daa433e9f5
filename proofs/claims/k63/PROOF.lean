import PyProof.Rows.All
import Wide.All
import OpenK.AllK
import Wide.FinOn
import KE.KStateDown
import HandS.ForMost
import HandS.Exc
import HandS.Defaults
import HandS.Head0
import HandS.Head1
import HandS.Head2
import HandS.HeadEnd
import HandS.HeadHook1
import HandS.HeadHook2
import HandS.Conv
import HandS.Walk
import HandS.Zip
import HandS.TupLen
import HandS.IsInst
import HandS.Style
import HandS.TryMany
import HandS.MakeKwOnly
import HandS.MakeKw
import HandS.ExcField
import KE.KDictDisplayH
import KE.GoesDict
import KE.GoesEnum
import KE.GoesMore
import KE.KExcSuper
import HandS.TryOnly
import HandS.ExcCtx
import HandS.ExcIs
import KE.KExcIs
import PySem.Challenge.RW_tumbler_k63_distances_between_positions
import HandS.ExcOwn
import HandS.HotCalls
set_option Elab.async false
set_option linter.all false
/-! Perms as rows of natural numbers: plain mathematics, no program in sight. -/
namespace TM
def IsP (n : Nat) (p : List Nat) : Prop := p.length = n ∧ (∀ x ∈ p, x < n) ∧ p.Nodup
theorem IsP.len {n : Nat} {p : List Nat} (h : IsP n p) : p.length = n := h.1
theorem IsP.lt {n : Nat} {p : List Nat} (h : IsP n p) : ∀ x ∈ p, x < n := h.2.1
theorem IsP.nd {n : Nat} {p : List Nat} (h : IsP n p) : p.Nodup := h.2.2
theorem get_of {α : Type} {l : List α} {i : Nat} (h : i < l.length) : ∃ x, l[i]? = some x := ⟨l[i], List.getElem?_eq_getElem h⟩
theorem lt_of_get {α : Type} {l : List α} {i : Nat} {x : α} (h : l[i]? = some x) : i < l.length := (List.getElem?_eq_some_iff.mp h).1
/-- no more different numbers below n than n -/
theorem nodup_le : ∀ (n : Nat) (p : List Nat), p.Nodup → (∀ x ∈ p, x < n) → p.length ≤ n
  | 0, p, _, h => by
    cases p with
    | nil => exact Nat.le_refl _
    | cons a r => exact absurd (h a List.mem_cons_self) (Nat.not_lt_zero _)
  | n + 1, p, nd, h => by
    have ih := nodup_le n (p.erase n) (nd.erase n) fun x hx => by
      have h1 := h x (List.mem_of_mem_erase hx)
      have h2 : x ≠ n := (List.Nodup.mem_erase_iff nd).mp hx |>.1
      omega
    rw [List.length_erase] at ih
    split at ih <;> omega
theorem IsP.mem {n : Nat} {p : List Nat} (h : IsP n p) {x : Nat} (hx : x < n) : x ∈ p := by
  by_cases q : x ∈ p
  · exact q
  · have z := nodup_le n (x :: p) (List.nodup_cons.mpr ⟨q, h.nd⟩) fun y hy => by
      rcases List.mem_cons.mp hy with e | e
      · rw [e]
        exact hx
      · exact h.lt y e
    rw [List.length_cons, h.len] at z
    omega
/-- first p, then q -/
def mul (p q : List Nat) : List Nat := p.map fun x => q.getD x 0
def inv (p : List Nat) : List Nat := (List.range p.length).map fun i => p.idxOf i
theorem mul_length (p q : List Nat) : (mul p q).length = p.length := by rw [mul, List.length_map]
theorem inv_length (p : List Nat) : (inv p).length = p.length := by rw [inv, List.length_map, List.length_range]
theorem mul_get {p q : List Nat} {i x y : Nat} (h1 : p[i]? = some x) (h2 : q[x]? = some y) : (mul p q)[i]? = some y := by
  rw [mul, List.getElem?_map, h1]
  show some (q.getD x 0) = some y
  rw [List.getD_eq_getElem?_getD, h2]
  rfl
theorem nd_get {α : Type} {l : List α} (hN : l.Nodup) {i j : Nat} {x : α} (a : l[i]? = some x) (b : l[j]? = some x) : i = j := by
  obtain ⟨h1, e1⟩ := List.getElem?_eq_some_iff.mp a
  obtain ⟨h2, e2⟩ := List.getElem?_eq_some_iff.mp b
  exact (List.getElem_inj hN).mp (e1.trans e2.symm)
theorem inv_get {n : Nat} {p : List Nat} (h : IsP n p) {i x : Nat} (e : p[i]? = some x) : (inv p)[x]? = some i := by
  have hx : x < n := h.lt x (List.mem_of_getElem? e)
  have hi : i < p.length := lt_of_get e
  rw [inv, List.getElem?_map, List.getElem?_range (by rw [h.len]; exact hx)]
  show some (p.idxOf x) = some i
  have hm : x ∈ p := List.mem_of_getElem? e
  have h2 : p[p.idxOf x]? = some x := by
    have l := List.idxOf_lt_length_iff.mpr hm
    rw [List.getElem?_eq_getElem l, List.getElem_idxOf l]
  rw [nd_get h.nd h2 e]
theorem inv_get' {n : Nat} {p : List Nat} (h : IsP n p) {i x : Nat} (e : (inv p)[x]? = some i) : p[i]? = some x := by
  have hx : x < n := by
    have l := lt_of_get e
    rw [inv_length, h.len] at l
    exact l
  obtain ⟨j, hj, ej⟩ := List.getElem_of_mem (h.mem hx)
  have e2 : p[j]? = some x := by rw [List.getElem?_eq_getElem hj, ej]
  have e3 := inv_get h e2
  rw [e] at e3
  cases e3
  exact e2
theorem nodup_of_inj : ∀ {l : List Nat}, (∀ i j x : Nat, l[i]? = some x → l[j]? = some x → i = j) → l.Nodup
  | [], _ => List.nodup_nil
  | a :: r, h => by
    refine List.nodup_cons.mpr ⟨fun hm => ?_, nodup_of_inj fun i j x hi hj => ?_⟩
    · obtain ⟨j, hj, ej⟩ := List.getElem_of_mem hm
      have z := h 0 (j + 1) a (by simp) (by rw [List.getElem?_cons_succ, List.getElem?_eq_getElem hj, ej])
      omega
    · have z := h (i + 1) (j + 1) x (by simpa using hi) (by simpa using hj)
      omega
theorem IsP.mul {n : Nat} {p q : List Nat} (hp : IsP n p) (hq : IsP n q) : IsP n (mul p q) := by
  have key : ∀ i x : Nat, (TM.mul p q)[i]? = some x → ∃ y, p[i]? = some y ∧ q[y]? = some x := fun i x e => by
    have hi := lt_of_get e
    rw [mul_length] at hi
    obtain ⟨y, hy⟩ := get_of hi
    have hyn : y < q.length := by rw [hq.len]; exact hp.lt y (List.mem_of_getElem? hy)
    obtain ⟨z, hz⟩ := get_of hyn
    have e2 := mul_get hy hz
    rw [e] at e2
    cases e2
    exact ⟨y, hy, hz⟩
  refine ⟨by rw [mul_length, hp.len], fun x hx => ?_, nodup_of_inj fun i j x hi hj => ?_⟩
  · obtain ⟨i, hi, ei⟩ := List.getElem_of_mem hx
    obtain ⟨y, _, h2⟩ := key i x (by rw [List.getElem?_eq_getElem hi, ei])
    exact hq.lt x (List.mem_of_getElem? h2)
  · obtain ⟨y, h1, h2⟩ := key i x hi
    obtain ⟨z, h3, h4⟩ := key j x hj
    have e := nd_get hq.nd h2 h4
    rw [← e] at h3
    exact nd_get hp.nd h1 h3
theorem IsP.inv {n : Nat} {p : List Nat} (hp : IsP n p) : IsP n (inv p) := by
  refine ⟨by rw [inv_length, hp.len], fun x hx => ?_, nodup_of_inj fun i j x hi hj => ?_⟩
  · obtain ⟨i, hi, ei⟩ := List.getElem_of_mem hx
    have e := inv_get' hp (i := x) (x := i) (by rw [List.getElem?_eq_getElem hi, ei])
    have l := lt_of_get e
    rw [hp.len] at l
    exact l
  · have a := inv_get' hp hi
    have b := inv_get' hp hj
    rw [a] at b
    cases b
    rfl
theorem IsP.range (n : Nat) : IsP n (List.range n) := ⟨List.length_range, fun x hx => List.mem_range.mp hx, List.nodup_range⟩
theorem ext {n : Nat} {p q : List Nat} (hp : p.length = n) (hq : q.length = n) (h : ∀ i, i < n → p[i]? = q[i]?) : p = q := by
  refine List.ext_getElem? fun i => ?_
  by_cases hi : i < n
  · exact h i hi
  · rw [List.getElem?_eq_none (by omega), List.getElem?_eq_none (by omega)]
theorem mul_assoc {n : Nat} {p q r : List Nat} (hp : IsP n p) (hq : IsP n q) (hr : IsP n r) : mul (mul p q) r = mul p (mul q r) := by
  refine ext (n := n) (by rw [mul_length, mul_length, hp.len]) (by rw [mul_length, hp.len]) fun i hi => ?_
  obtain ⟨x, hx⟩ := get_of (show i < p.length by rw [hp.len]; exact hi)
  obtain ⟨y, hy⟩ := get_of (show x < q.length by rw [hq.len]; exact hp.lt x (List.mem_of_getElem? hx))
  obtain ⟨z, hz⟩ := get_of (show y < r.length by rw [hr.len]; exact hq.lt y (List.mem_of_getElem? hy))
  rw [mul_get (mul_get hx hy) hz, mul_get hx (mul_get hy hz)]
theorem one_mul {n : Nat} {p : List Nat} (hp : IsP n p) : mul (List.range n) p = p := by
  refine ext (n := n) (by rw [mul_length, List.length_range]) hp.len fun i hi => ?_
  obtain ⟨x, hx⟩ := get_of (show i < p.length by rw [hp.len]; exact hi)
  rw [mul_get (List.getElem?_range hi) hx, hx]
theorem mul_one {n : Nat} {p : List Nat} (hp : IsP n p) : mul p (List.range n) = p := by
  refine ext (n := n) (by rw [mul_length, hp.len]) hp.len fun i hi => ?_
  obtain ⟨x, hx⟩ := get_of (show i < p.length by rw [hp.len]; exact hi)
  rw [mul_get hx (List.getElem?_range (hp.lt x (List.mem_of_getElem? hx))), hx]
theorem mul_inv {n : Nat} {p : List Nat} (hp : IsP n p) : mul p (inv p) = List.range n := by
  refine ext (n := n) (by rw [mul_length, hp.len]) List.length_range fun i hi => ?_
  obtain ⟨x, hx⟩ := get_of (show i < p.length by rw [hp.len]; exact hi)
  rw [mul_get hx (inv_get hp hx), List.getElem?_range hi]
theorem inv_mul {n : Nat} {p : List Nat} (hp : IsP n p) : mul (inv p) p = List.range n := by
  refine ext (n := n) (by rw [mul_length, inv_length, hp.len]) List.length_range fun i hi => ?_
  obtain ⟨x, hx⟩ := get_of (show i < (inv p).length by rw [inv_length, hp.len]; exact hi)
  rw [mul_get hx (inv_get' hp hx), List.getElem?_range hi]
theorem inv_inv {n : Nat} {p : List Nat} (hp : IsP n p) : inv (inv p) = p := by
  refine ext (n := n) (by rw [inv_length, inv_length, hp.len]) hp.len fun i hi => ?_
  obtain ⟨x, hx⟩ := get_of (show i < p.length by rw [hp.len]; exact hi)
  rw [hx, inv_get hp.inv (inv_get hp hx)]
/-! ### perms that keep marks -/
/-- the next mark of the same spot -/
def rot (m i : Nat) : Nat := i / m * m + (i % m + 1) % m
def KM (m n : Nat) (p : List Nat) : Prop := ∀ i x, i < n → p[i]? = some x → p[rot m i]? = some (rot m x)
theorem rot_lt {m n i : Nat} (hm : 0 < m) (hd : m ∣ n) (hi : i < n) : rot m i < n := by
  obtain ⟨c, rfl⟩ := hd
  have h1 : i / m < c := by
    rw [Nat.div_lt_iff_lt_mul hm, Nat.mul_comm]
    exact hi
  have h2 : (i % m + 1) % m < m := Nat.mod_lt _ hm
  have h3 : (i / m + 1) * m ≤ c * m := Nat.mul_le_mul_right m h1
  unfold rot
  rw [Nat.mul_comm m c]
  rw [Nat.add_mul] at h3
  omega
theorem KM.mul {m n : Nat} {p q : List Nat} (hm : 0 < m) (hd : m ∣ n) (hp : IsP n p) (hq : IsP n q) (kp : KM m n p) (kq : KM m n q) : KM m n (mul p q) := fun i x hi e => by
  obtain ⟨y, hy⟩ := get_of (show i < p.length by rw [hp.len]; exact hi)
  have hyn : y < n := hp.lt y (List.mem_of_getElem? hy)
  obtain ⟨z, hz⟩ := get_of (show y < q.length by rw [hq.len]; exact hyn)
  rw [mul_get hy hz] at e
  cases e
  exact mul_get (kp i y hi hy) (kq y x hyn hz)
theorem KM.inv {m n : Nat} {p : List Nat} (hp : IsP n p) (kp : KM m n p) : KM m n (inv p) := fun i x hi e => by
  have e2 := inv_get' hp e
  have hx : x < n := by
    have l := lt_of_get e2
    rw [hp.len] at l
    exact l
  exact inv_get hp (kp x i hx e2)
theorem rot_one (i : Nat) : rot 1 i = i := by
  unfold rot
  rw [Nat.div_one, Nat.mul_one, Nat.mod_one]
  omega
theorem KM.one {n : Nat} {p : List Nat} : KM 1 n p := fun i x _ e => by
  rw [rot_one, rot_one]
  exact e
theorem KM.range {m n : Nat} (hm : 0 < m) (hd : m ∣ n) : KM m n (List.range n) := fun i x hi e => by
  rw [List.getElem?_range hi] at e
  cases e
  exact List.getElem?_range (rot_lt hm hd hi)
theorem rot_at {m a k : Nat} (hm : 0 < m) (hk : k < m) : rot m (a * m + k) = a * m + (k + 1) % m := by
  unfold rot
  have h1 : (a * m + k) / m = a := by
    rw [Nat.mul_comm, Nat.mul_add_div hm, Nat.div_eq_of_lt hk, Nat.add_zero]
  have h2 : (a * m + k) % m = k := by
    rw [Nat.mul_comm, Nat.mul_add_mod, Nat.mod_eq_of_lt hk]
  rw [h1, h2]
/-- each place of a spot by its first one -/
theorem KM.at {m n : Nat} {p : List Nat} (hm : 0 < m) (hd : m ∣ n) (kp : KM m n p) {a x : Nat} (ha : a * m < n) (e : p[a * m]? = some x) : ∀ k, k < m → p[a * m + k]? = some (x / m * m + (x % m + k) % m)
  | 0, _ => by
    rw [Nat.add_zero, Nat.add_zero, Nat.mod_mod, Nat.mul_comm (x / m) m, Nat.div_add_mod]
    exact e
  | k + 1, hk => by
    have ih := KM.at hm hd kp ha e k (by omega)
    have hlt : a * m + k < n := by
      obtain ⟨c, rfl⟩ := hd
      have h1 : a < c := by
        rw [Nat.mul_comm m c] at ha
        exact Nat.lt_of_mul_lt_mul_right ha
      have h2 : (a + 1) * m ≤ c * m := Nat.mul_le_mul_right m h1
      rw [Nat.add_mul] at h2
      rw [Nat.mul_comm m c]
      omega
    have s := kp _ _ hlt ih
    rw [rot_at hm (by omega), Nat.mod_eq_of_lt hk, rot_at hm (Nat.mod_lt _ hm)] at s
    rw [s, Nat.mod_add_mod, Nat.add_assoc]
end TM
set_option maxRecDepth 100000
set_option maxHeartbeats 2000000
/-! The head's facts over a small part of the heap: the addresses by names, forced to numerals, then the objects that these name, some levels down. -/
namespace TH
open PySem PySem.Spec PyProof.Rows L2
def frL {α : Type} : List Addr → (List Addr → α) → α
  | [], k => k []
  | a :: r, k => HandSHeadRun.frNat a fun b => frL r fun s => k (b :: s)
theorem frL_eq {α : Type} : ∀ (l : List Addr) (k : List Addr → α), frL l k = k l
  | [], k => rfl
  | a :: r, k => by
    show HandSHeadRun.frNat a (fun b => frL r fun s => k (b :: s)) = k (a :: r)
    rw [HandSHeadRun.frNat_eq, frL_eq r]
def frK {α : Type} (g : Addr → Option Obj) : List Addr → (PySem.W.Frag → α) → α
  | [], k => k []
  | a :: r, k => match g a with
    | some o => frK g r fun K => k ((a, o) :: K)
    | none => frK g r k
theorem frK_eq {α : Type} (g : Addr → Option Obj) : ∀ (l : List Addr) (k : PySem.W.Frag → α), frK g l k = k (He.frG g l)
  | [], k => rfl
  | a :: r, k => by
    unfold frK He.frG
    cases e : g a with
    | none =>
      rw [List.filterMap_cons, e]
      exact frK_eq g r k
    | some o =>
      rw [List.filterMap_cons, e]
      exact frK_eq g r fun K => k ((a, o) :: K)
def refs (g : Addr → Option Obj) (as : List Addr) : List Addr := as.flatMap fun a => match g a with
  | some o => He.refsD o
  | none => []
def roots (K : PySem.W.Frag) (xs : List Str) : List Addr := xs.map (He.ga K)
/-- the addresses: the module's dict; what the names stand for; two, three levels below these -/
def addrs (g : Addr → Option Obj) (xs : List Str) : List Addr :=
  frL (roots (He.frG g [mainGlobals]) xs) fun l0 => frL (refs g l0) fun l1 => frL (refs g l1) fun l2 => frL (refs g l2) fun l3 => mainGlobals :: (l0 ++ (l1 ++ (l2 ++ l3)))
abbrev Al : Type := Bool × List He.FnW
def obsK (fa : List He.Fa) (fn : List He.DefD) (ex : PySem.W.Frag → Bool) (K : PySem.W.Frag) : Al := ((fa.all fun f => f.ok K) && ((fn.all fun d => d.ok K) && ex K), fn.map fun d => He.fnW K d.at_)
def valK (fn : List He.DefD) : Al := (true, fn.map He.DefD.val)
def obsG (xs : List Str) (fa : List He.Fa) (fn : List He.DefD) (ex : PySem.W.Frag → Bool) (g : Addr → Option Obj) : Al := frK g (addrs g xs) fun K => obsK fa fn ex K
/-- what the end leans on -/
structure Says (fa : List He.Fa) (fn : List He.DefD) (ex : PySem.W.Frag → Bool) (K : PySem.W.Frag) : Prop where
  fa : ∀ f ∈ fa, f.ok K = true
  fn : ∀ d ∈ fn, ∃ fd, FunD K d.name d.qual d.params d.body d.scope (d.dvs K) (d.kws K) (He.fAd K d.at_) fd
  ex : ex K = true
theorem says_of {fa : List He.Fa} {fn : List He.DefD} {ex : PySem.W.Frag → Bool} {K : PySem.W.Frag} (e : obsK fa fn ex K = valK fn) : Says fa fn ex K := by
  have c : ((fa.all fun f => f.ok K) && ((fn.all fun d => d.ok K) && ex K)) = true := congrArg (fun z : Al => z.1) e
  have m : fn.map (fun d => He.fnW K d.at_) = fn.map He.DefD.val := congrArg (fun z : Al => z.2) e
  obtain ⟨c1, c⟩ := He.ba c
  obtain ⟨c2, c3⟩ := He.ba c
  refine ⟨fun f hf => List.all_eq_true.mp c1 f hf, fun d hd => ?_, c3⟩
  exact He.DefD.funD (List.map_inj_left.mp m d hd) (List.all_eq_true.mp c2 d hd)
def hook (xs : List Str) (fa : List He.Fa) (fn : List He.DefD) (ex : PySem.W.Frag → Bool) : PySem.W.Hook where
  α := Al
  obs := fun s => obsG xs fa fn ex s.heap.get?
  val := fun _ => valK fn
  says := fun _ h => ∃ K : PySem.W.Frag, K.In h ∧ Says fa fn ex K
  of := fun _ s e => by
    have e2 : frK s.heap.get? (addrs s.heap.get? xs) (fun K => obsK fa fn ex K) = valK fn := e
    rw [frK_eq] at e2
    exact ⟨_, He.frG_in, says_of e2⟩
  keeps := fun _ _ _ ⟨K, hK, c⟩ k => ⟨K, PySem.W.Frag.In.keeps hK k, c⟩
theorem ob_eq {xs : List Str} {fa : List He.Fa} {fn : List He.DefD} {ex : PySem.W.Frag → Bool} (s : PySem.W.SharedT) : obsG xs fa fn ex (HandSHeadRun.getT s) = (hook xs fa fn ex).obs s.abs := by
  have e : HandSHeadRun.getT s = s.abs.heap.get? := funext (HandSHeadRun.getT_eq s)
  rw [e]
  rfl
end TH
set_option maxRecDepth 100000
set_option maxHeartbeats 2000000
/-! Words over the hand layer for this program: a def with its promise found by its name; heaps that grow; rows of numbers as tuples. -/
namespace TB
open PySem PySem.Spec PyProof.Rows L2
/-! ### a def by its name -/
/-- the module's name x stands for a def that keeps the promise sp -/
structure Dn (P : Program) (w : World) (K : PySem.W.Frag) (mg : Str → Option Value) (base : Heap) (CX : CXT) (k : Nat) (x : Str) (ps : List Str) (sp : Sp) : Prop where
  ex : ∃ (f : Addr) (fd : FuncData), mg x = some (.ref f) ∧ PySem.W.keepIn K (.ref f) = true ∧ FnOk P w K mg base CX k f fd ps sp ∧ Binds K fd ps []
theorem nil_v : Vals ([] : List V) ([] : List Value) := .nil
/-! ### heaps -/
/-- all that was tracked is as it was, but what stands at p -/
def But (p : Addr) (H H' : Hp) : Prop := ∀ b o, b ≠ p → H b = some o → H' b = some o
theorem But.refl (p : Addr) (H : Hp) : But p H H := fun _ _ _ h => h
theorem But.trans {p : Addr} {H H1 H2 : Hp} (a : But p H H1) (b : But p H1 H2) : But p H H2 := fun c o n h => b c o n (a c o n h)
theorem But.same {p : Addr} {H H1 H2 : Hp} (a : But p H H1) (b : Same H1 H2) : But p H H2 := fun c o n h => b c o (a c o n h)
theorem But.ofSame {p : Addr} {H H1 : Hp} (b : Same H H1) : But p H H1 := fun c o _ h => b c o h
theorem But.upd {p : Addr} {H : Hp} {o : HO} : But p H (L2.upd H p o) := fun b u n h => by rw [upd_ne n]; exact h
/-- what changed was not there -/
theorem But.fresh {p : Addr} {H H1 H2 : Hp} (s : Same H H1) (h : H p = none) (b : But p H1 H2) : Same H H2 := fun c o e => b c o (ne_of_none e h) (s c o e)
theorem But.free {p a : Addr} {H H' : Hp} {o : HO} (b : But p H H') (hp : H p = some o) (h : H' a = none) (hq : ∃ u, H' p = some u) : H a = none := by
  cases e : H a with
  | none => rfl
  | some u =>
    by_cases q : a = p
    · obtain ⟨v, hv⟩ := hq
      rw [q, hv] at h
      cases h
    · rw [b a u q e] at h
      cases h
theorem same_new {H : Hp} {p : Addr} {o : HO} (h : H p = none) : Same H (upd H p o) := fun a u e => by
  rw [upd_ne (ne_of_none e h)]
  exact e
theorem Same.upd_of {H H1 : Hp} {p : Addr} {o : HO} (s : Same H H1) (h : H p = none) : Same H (upd H1 p o) := fun a u e => by
  rw [upd_ne (ne_of_none e h)]
  exact s a u e
/-! ### rows of numbers -/
/-- the values of a row of natural numbers -/
def nv (p : List Nat) : List V := p.map fun (i : Nat) => V.int (i : Int)
theorem nv_length (p : List Nat) : (nv p).length = p.length := by unfold nv; rw [List.length_map]
theorem nv_get {p : List Nat} {i : Nat} : (nv p)[i]? = p[i]?.map fun (i : Nat) => V.int (i : Int) := by unfold nv; rw [List.getElem?_map]
theorem nv_at {p : List Nat} {i n : Nat} (h : p[i]? = some n) : atI (nv p) (i : Nat) = some (V.int (n : Nat)) := atI_nat (by rw [nv_get, h]; rfl)
theorem nv_append (p q : List Nat) : nv (p ++ q) = nv p ++ nv q := by unfold nv; rw [List.map_append]
theorem nv_inj {p q : List Nat} (h : nv p = nv q) : p = q := by
  unfold nv at h
  refine List.map_inj_right (f := fun i : Nat => V.int (i : Nat)) (fun a b e => ?_) |>.mp h
  have e1 : (a : Int) = (b : Int) := V.int.inj e
  omega
/-- the key of such a tuple -/
def nk (p : List Nat) : List Key := p.map fun (i : Nat) => (Sum.inl (i : Int) : Key)
theorem nk_kV (p : List Nat) : (nk p).map kV = nv p := by
  unfold nk nv
  rw [List.map_map]
  rfl
theorem nk_inj {p q : List Nat} (h : nk p = nk q) : p = q := by
  unfold nk at h
  refine List.map_inj_right (f := fun i : Nat => (Sum.inl (i : Int) : Key)) (fun a b e => ?_) |>.mp h
  have e1 : (a : Int) = (b : Int) := Sum.inl.inj e
  omega
/-- a tuple of natural numbers stands at a -/
def Tn (H : Hp) (a : Addr) (p : List Nat) : Prop := H a = some (.tup (nv p))
theorem Tn.mono {H H' : Hp} {a : Addr} {p : List Nat} (h : Tn H a p) (s : Same H H') : Tn H' a p := s a _ h
theorem Tn.t {K : PySem.W.Frag} {H : Hp} {a : Addr} {p : List Nat} (h : Tn H a p) : SqT K H a (nv p) := SqT.of h
/-- a list's object is no tuple's -/
theorem Tn.but {H H' : Hp} {a l : Addr} {p : List Nat} {xs : List V} (h : Tn H a p) (hl : H l = some (.lst xs)) (b : But l H H') : Tn H' a p := b a _ (ne_of h hl (by intro z; cases z)) h
end TB
namespace TB
open PySem PySem.Spec PyProof.Rows L2
/-! ### tests -/
theorem iteD {c A B : Prop} [Decidable c] (h1 : c → A) (h2 : ¬ c → B) : if decide c = true then A else B := by
  by_cases h : c
  · rw [decide_eq_true h]
    exact iteT (h1 h)
  · rw [decide_eq_false h]
    exact iteF (h2 h)
theorem iteN {c A B : Prop} [Decidable c] (h1 : ¬ c → A) (h2 : c → B) : if (!decide c) = true then A else B := by
  by_cases h : c
  · rw [decide_eq_true h]
    exact iteF (h2 h)
  · rw [decide_eq_false h]
    exact iteT (h1 h)
theorem iteB {b : Bool} {A B : Prop} (h1 : b = true → A) (h2 : b = false → B) : if b = true then A else B := by
  cases b with
  | true => exact iteT (h1 rfl)
  | false => exact iteF (h2 rfl)
theorem dvi (a b : Int) : decide (V.int a = V.int b) = decide (a = b) := by
  by_cases h : a = b
  · subst h
    rw [decide_eq_true rfl, decide_eq_true rfl]
  · rw [decide_eq_false h, decide_eq_false fun z => h (V.int.inj z)]
theorem dvn (a b : Nat) : decide (V.int (a : Int) = V.int (b : Int)) = decide (a = b) := by
  rw [dvi]
  by_cases h : a = b
  · subst h
    rw [decide_eq_true rfl, decide_eq_true rfl]
  · rw [decide_eq_false h, decide_eq_false fun z => h (by omega)]
theorem bl_of {a b : Bool} {Q : VK} {H : Hp} (e : a = b) (h : Q (.bl b) H) : Q (.bl a) H := by rw [e]; exact h
theorem tr_of {a b : Bool} {Q : Bool → Hp → Prop} {H : Hp} (e : a = b) (h : Q b H) : Q a H := by rw [e]; exact h
end TB
set_option maxRecDepth 100000
set_option maxHeartbeats 2000000
/-! Further rules of the layer. First: the layer's own with the written part K said (within a comprehension's block the unifier cannot find it). -/
namespace TB
open PySem PySem.Spec PyProof.Rows L2
section
variable {X : Cx} {K : PySem.W.Frag}
theorem ix_listK (e : X.K = K) : IxR X (rIxL K) := by subst e; exact ix_list
theorem ix_tupK (e : X.K = K) : IxR X (rIxT K) := by subst e; exact ix_tup
theorem sl_listK (e : X.K = K) : SlR X (rSlL K) := by subst e; exact sl_list
theorem sl_tupK (e : X.K = K) : SlR X (rSlT K) := by subst e; exact sl_tup
theorem op_in_seqK (e : X.K = K) : OpR X (compareOp .In) (rIn K false) := by subst e; exact op_in_seq
theorem op_notIn_seqK (e : X.K = K) : OpR X (compareOp .NotIn) (rIn K true) := by subst e; exact op_notIn_seq
theorem op_eqDK (e : X.K = K) (hu : X.A.units + 64 < cLine) : OpR X (compareOp .Eq) (rEqD K) := by subst e; exact op_eqD hu
theorem op_neDK (e : X.K = K) (hu : X.A.units + 64 < cLine) : OpR X (compareOp .NotEq) (rNeD K) := by subst e; exact op_neD hu
theorem op_ltTK (e : X.K = K) (hu : X.A.units < cLine) : OpR X (compareOp .Lt) (rLtT K) := by subst e; exact op_ltT hu
/-- len of a list, of a tuple -/
def rLenQ (K : PySem.W.Frag) : List V → Hp → VK → Prop := fun xs H Q => ∃ p ys, xs = [.ref p] ∧ (SqL K H p ys ∨ SqT K H p ys) ∧ Q (.int ys.length) H
theorem call_lenK (e : X.K = K) : CallR X (.builtin "len") (rLenQ K) := by subst e; exact call_len_seq
def rListQ (K : PySem.W.Frag) : List V → Hp → VK → Prop := fun xs H Q => ∃ p ys, xs = [.ref p] ∧ (SqL K H p ys ∨ SqT K H p ys) ∧ ∀ l, H l = none → Q (.ref l) (upd H l (.lst ys))
theorem call_listK (e : X.K = K) : CallR X (.type "list") (rListQ K) := by subst e; exact call_list_of
def rTupQ (K : PySem.W.Frag) : List V → Hp → VK → Prop := fun xs H Q => ∃ p ys, xs = [.ref p] ∧ ((SqL K H p ys ∧ ∀ l, H l = none → Q (.ref l) (upd H l (.tup ys))) ∨ (SqT K H p ys ∧ Q (.ref p) H))
theorem call_tupK (e : X.K = K) : CallR X (.type "tuple") (rTupQ K) := by subst e; exact call_tuple_of
theorem call_isiK1 (e : X.K = K) : CallR X (.builtin "isinstance") (rIsi K) := by subst e; exact call_isi
theorem cr_allK (e : X.K = K) (hc : X.calm = true) : CallR X (.builtin "all") (rAll K) := by subst e; exact cr_all hc
theorem pe_fldK {e0 : Expr} {f : Str} {ta : TE} {pos : Pos} (e : X.K = K) (he : PE X e0 ta) (hb : attributeBase e0 f X.env (eval e0 X.env) = eval e0 X.env) : PE X (.Attribute e0 f pos) (tFld K ta f) := by subst e; exact pe_fld he hb
theorem pi_listK {tg l : Expr} {tl : TE} (e : X.K = K) (hl : PE X l tl) : PI X tg l (iList K tl) := by subst e; exact pi_list hl
theorem pi_tupK {tg l : Expr} {tl : TE} (e : X.K = K) (hl : PE X l tl) : PI X tg l (iTup K tl) := by subst e; exact pi_tup hl
theorem pg_tupK {es : List Expr} {k : Nat} {t : TGs} {n : Nat} {pos : Pos} (e : X.K = K) (hc : X.calm = true) (h : PGs X es t)
    (hn : (assignEach es X.env).length = n := by rfl) (hst : (assignEach es X.env).findIdx? (·.1) = none := by rfl) : PG X (.Tuple es k pos) (gTup K n t) := by subst e; exact pg_tup hc h hn hst
end
/-- isinstance of a value whose type is told -/
theorem isi_of {K : PySem.W.Frag} {x : V} {t T : String} {b : Bool} {H : Hp} {Q : VK} (ty : TyX K H x (.type t)) (h : kitB t T = some b) (q : Q (.bl b) H) : rIsi K [x, .ty T] H Q := ⟨x, .ty T, _, _, b, rfl, ClsV.ty T, ty, kit_ty h, q⟩
end TB
set_option maxRecDepth 100000
set_option maxHeartbeats 2000000
namespace TB
open PySem PySem.Spec PyProof.Rows L2
/-- {k: v}, k a tuple of ints and texts -/
def tDispT (tk tv : TE) : TE := fun σ H Q => ∀ p, H p = none → tk σ (upd H p (.dT [])) fun x H1 => tv σ H1 fun y H2 => H2 p = some (.dT []) ∧ ∃ (b : Addr) (k : List Key), x = .ref b ∧ H2 b = some (.tup (k.map kV)) ∧ Q (.ref p) (upd H2 p (.dT [(k, y)]))
theorem pe_dispT {X : Cx} {pos : Pos} {k v : Expr} {tk tv : TE} (hk : PE X k tk) (hv : PE X v tv) (hu : X.A.units + 1 < cLine) : PE X (.Dict [some k] [v] pos) (tDispT tk tv) := by
  refine ⟨fun pins s σ H Q I q => ?_⟩
  have fresh := I.hok.fresh (Nat.le_refl s.heap.objs.size)
  generalize hp : s.heap.objs.size = p at fresh
  have I1 : Inv X pins σ (upd H p (.dT [])) { s with heap := s.heap.push { cls := .type "dict", data := .dict #[] } } := by
    subst hp
    exact I.laid (o := .dT []) (t' := s.toks) (fun _ _ z => Heap.get?_push_of_some _ z) (Nat.le_refl _) (dt_empty s.heap I.big)
  have n1 := pairTrees_length [some k] [v] X.env pos rfl rfl
  have n0 : pairTrees [some k] [v] X.env pos ≠ [] := fun z => by
    rw [z] at n1
    cases n1
  rw [arm_eval_Dict, zip_pairTrees [some k] [v] X.env pos rfl rfl, dictDisplay_pairs _ n0 (by rw [n1]; exact (by decide : 1 < 17))]
  refine wpAny_bind (wpAny_standAt (wpAny_bind ?_))
  refine wpAny_subDictH (knd := tupleKind (mixKind X.prog X.w)) (Q := fun d s' => wpAny (model X.prog X.w) X.A (pure (Value.ref d)) (EP X pins σ Q) X.xe s') (show X.A.units < cLine by omega) (by rw [n1]; exact (by decide : 1 ≤ 15)) ?_
  have step := hk.run pins _ σ _ _ I1 (q p fresh)
  refine pairTrees_cons_walk (thn step fun u1 s1 ⟨x, H1, I2, rx, q1⟩ => thn (hv.run pins s1 σ H1 _ I2 q1) fun u2 s2 ⟨y, H2, I3, ry, hd, b, ks, ex, hb, q2⟩ => pairTrees_nil_walk ?_)
  subst ex
  obtain rfl : u1 = Value.ref b := rx
  obtain ⟨_, hm, xs0, rel0, dd⟩ := dt_of I3.hok hd
  cases rel0
  rw [hp]
  refine ⟨[(ks, b, u2)], ⟨rfl, rfl, key_of I3.hok hb, trivial⟩, dd, fun h' t' dd' sb => wpAny_pure ⟨.ref p, _, ?_, rfl, q2⟩⟩
  obtain ⟨o, es, ep, h1, h2, h3, h4, _, h5⟩ := dd'
  refine d_write I3 (by rw [hd]; exact True.intro) sb ⟨o, h1⟩ ⟨by rw [sizeLine_eq]; exact (by decide : 1 ≤ 16777216), hm, [(ks, b, u2)], .cons ⟨rfl, ?_, ry⟩ .nil, o, es, ep, h1, h2, h3, h4, h5⟩
  rw [upd_ne (ne_of hb hd fun z => nomatch z)]
  exact hb
end TB
set_option maxRecDepth 100000
set_option maxHeartbeats 4000000
namespace TB
open PySem PySem.Spec PyProof.Rows L2
/-! ### enumerate of a tuple -/
abbrev enO (a : Addr) : Obj := { cls := .type "enumerate", data := .fields #[.none, .bool false, .ref a, rawInt 0, .none, .none] }
abbrev tiO (t : Addr) : Obj := { cls := .type "tuple_iterator", data := .fields #[.ref t, .int 0 0] }
theorem meets_enT (l : Addr) (its : Array Value) : Meets (Builtin.«enumerate.__new__» ⟨[.type "enumerate", .ref l], []⟩) (fun _ R s => s.heap.IsTuple l its ∧
    R (.ok (.ret (.ref (s.heap.push (tiO l)).objs.size))) { s with heap := (s.heap.push (tiO l)).push (enO s.heap.objs.size) }) := by
  refine .of_wp fun prog w A R s h => ?_
  obtain ⟨hp, g, d, tk, os⟩ := s
  obtain ⟨hT, hR⟩ := h
  have sub1 := sub_enumerate
  have it1 : ∀ {A' : Around} {E : Value → Shared → Prop} {Q : Value → Shared → Prop}, Q (.ref hp.objs.size) ⟨hp.push (tiO l), g, d, tk, os⟩ →
      wpAny (model prog w) A' (pyIter (.ref l)) Q E ⟨hp, g, d, tk, os⟩ := fun q => wpAny_pyIter_tuple hT q
  wp_walk using it1
  refine wpAny_stack_any fun st => wpAny_pure ?_
  split
  · rename_i c _ _ _ _ _
    cases (c == Value.type "enumerate") <;> (wp_walk using it1; exact ⟨_, rfl, hR⟩)
  · wp_walk using it1
    exact ⟨_, rfl, hR⟩
theorem call_enT {prog : Program} {w : World} {A : Around} {E : Value → Shared → Prop} {s : Shared} {l : Addr} {its : Array Value} {Q : Value → Shared → Prop} (hT : s.heap.IsTuple l its)
    (k : ∀ h', IsEnum h' (s.heap.objs.size + 1) s.heap.objs.size 0 .none → h'.IsTupleIter s.heap.objs.size l 0 →
      (∀ b o, s.heap.get? b = some o → h'.get? b = some o) → Q (.ref (s.heap.objs.size + 1)) { s with heap := h' }) : wpAny (model prog w) A (call (.type "enumerate") [.ref l]) Q E s := by
  refine callType_new F.called_enumerate (by decide) (F.typeCall_enumerate_1 _) (F.newCall_enumerate_1 _) (fun obj => F.args_object_init_2 obj _) F.entry_enumerate_new (meets_enT l its) ⟨hT, ?_⟩
  have z1 : (s.heap.push (tiO l)).objs.size = s.heap.objs.size + 1 := Heap.size_push ..
  show _ ∧ _
  rw [z1]
  have e1 : IsEnum ((s.heap.push (tiO l)).push (enO s.heap.objs.size)) (s.heap.objs.size + 1) s.heap.objs.size 0 .none := by
    have e2 := Heap.get?_push_size (s.heap.push (tiO l)) (o := enO s.heap.objs.size) rfl
    rw [z1] at e2
    exact e2
  exact ⟨⟨_, e1, rfl⟩, k _ e1 ⟨_, Heap.get?_push_of_some _ (Heap.get?_push_size _ rfl), rfl, rfl⟩ fun b o x => Heap.get?_push_of_some _ (Heap.get?_push_of_some _ x)⟩
/-- the tuple at a, each item in a new pair -/
def IteT (K : PySem.W.Frag) (a : Addr) : It where
  go := fun i H => ∃ (xs : List V) (x : V), SqT K H a xs ∧ xs[i]? = some x
  yld := fun i H v H' => ∃ T x, v = .ref T ∧ H T = none ∧ H' = upd H T (.tup [.int (i : Nat), x]) ∧ ∀ xs, SqT K H a xs → xs[i]? = some x
  stop := fun i H => ∃ xs : List V, SqT K H a xs ∧ xs.length = i
theorem turn_enT {P : Program} {w : World} {K : PySem.W.Frag} {elts : List Expr} {kk : Nat} {tpos : Pos} (a e it : Addr) (nai : a ≠ it) :
    Turn P w K (.Tuple elts kk tpos) (IteT K a) [e, it] e (fun i h => (∃ old, IsEnum h e it ((i : Nat) : Int) old) ∧ h.IsTupleIter it a i ∧ e ≠ it ∧ e ≠ a) where
  mem := by simp
  obj := fun i h st b hb => by
    obtain ⟨⟨old, he⟩, ⟨o, ho, hc, hd⟩, _⟩ := st
    rcases (by simpa using hb : b = e ∨ b = it) with z | z
    · subst z
      exact ⟨_, he, fun v q => nomatch q⟩
    · subst z
      exact ⟨o, ho, fun v q => by rw [hd] at q; cases q⟩
  keep := fun i h h' st k => by
    obtain ⟨⟨old, he⟩, hi, hne⟩ := st
    exact ⟨⟨old, k e (by simp) _ he⟩, hi.at fun o q => k it (by simp) o q, hne⟩
  item := by
    intro X hP hw hK hc i pins s σ H E I hf st hg
    subst hP hw hK
    obtain ⟨⟨old, he⟩, hit, hne, hea⟩ := st
    obtain ⟨xs, x, hq, hx⟩ := hg
    obtain ⟨its, rv, p, hz⟩ := I.tuple hq
    obtain ⟨u, hu, ru⟩ := rv.get hx
    have hh := I.ok.hd hc
    have hel : e < s.heap.objs.size := Heap.lt_size he
    have hil : it < s.heap.objs.size := by
      obtain ⟨_, q, _⟩ := hit
      exact Heap.lt_size q
    have hi : i < its.toArray.size := by
      have q := List.getElem?_eq_some_iff.mp hu
      simpa using q.1
    refine wpAny_pyNext_enum_itemD (St := fun i h => h.IsTupleIter it a i ∧ h.IsTuple a its.toArray) (P := fun i v => its.toArray[i]? = some v) (Draws.tuple (A := X.A.in1) hh it a nai its.toArray) he ⟨hit, p⟩ hi hne (by simp [hne, hea]) fun v h' tk hv ho hst hT hsz hk => ?_
    have evu : v = u := by
      rw [List.getElem?_toArray, hu] at hv
      exact (Option.some.inj hv).symm
    subst evu
    refine ⟨_, rfl, wpAny_letOwnedTupleGo_enum (s := { s with heap := h', toks := tk + 1 }) ho fun h'' he' sb => ?_⟩
    have hT2 : h''.get? s.heap.objs.size = some { cls := .type "tuple", data := .seq #[.int i tk, v] } := (sb.2 _ (Nat.ne_of_gt hel)).trans hT
    have new : ObjOk X.prog X.w (upd H s.heap.objs.size (.tup [.int (i : Nat), x])) h'' s.heap.objs.size (.tup [.int (i : Nat), x]) :=
      ⟨by rw [sizeLine_eq]; exact (by decide : 2 ≤ 16777216), [.int i tk, v], .cons ⟨_, rfl⟩ (.cons ru .nil), ⟨_, hT2, rfl, _, rfl⟩⟩
    have kk2 : ∀ b o, b ≠ e → b ≠ it → s.heap.get? b = some o → h''.get? b = some o := fun b o n1 n2 q => (sb.2 b n1).trans (hk b o n1 n2 q)
    have I1 : Inv X pins σ (upd H s.heap.objs.size (.tup [.int (i : Nat), x])) { s with heap := h'', toks := tk + 1 } :=
      I.turnedNew (ch := [e, it]) (fun b ob hb q => kk2 b ob (fun z => hb (by simp [z])) (fun z => hb (by simp [z])) q) hf (Nat.le_refl _) new
    refine ⟨.ref s.heap.objs.size, _, I1, rfl, ⟨_, x, rfl, I.hok.fresh (Nat.le_refl _), rfl, fun ys hy => ?_⟩, ⟨⟨v, ?_⟩, hst.1.at fun o q => (sb.2 it (Ne.symm hne)).trans q, hne, hea⟩, fun b hb => ?_⟩
    · rw [I.tuple_inj hy hq]
      exact hx
    · rw [show ((i + 1 : Nat) : Int) = (i : Int) + 1 by omega]
      exact he'
    · have hb' : b < s.heap.objs.size := by
        rcases (by simpa using hb : b = e ∨ b = it) with z | z <;> (subst z; assumption)
      rw [upd_ne (Nat.ne_of_lt hb')]
      exact (hf b hb).1
  done := by
    intro X hP hw hK hc i pins s σ H E I hf st hg
    subst hP hw hK
    obtain ⟨⟨old, he⟩, hit, hne, hea⟩ := st
    obtain ⟨xs, hq, hx⟩ := hg
    obtain ⟨its, rv, p, hz⟩ := I.tuple hq
    obtain ⟨f0, f1, f2, f3, f4, f5⟩ := hf it (by simp)
    have hl := rv.length
    have hh := I.ok.hd hc
    have hsz : its.toArray.size = i := by
      rw [← hx, hl]
      simp
    exact wpAny_pyNext_enum_endD (Draws.tuple (prog := X.prog) (w := X.w) (A := X.A.in1) hh it a nai its.toArray) he ⟨by rw [hsz]; exact hit, p⟩ fun h' eb => ⟨rfl, I.turned (t' := s.toks) (fun b o hb q => eb b o hb q) f0 f1 f3 f4 f5⟩
  self := fun A i s Q E st h => by
    obtain ⟨⟨_, he⟩, _⟩ := st
    exact wpAny_pyIter_enum he h
def iEnumT (K : PySem.W.Frag) (te : TE) : TI := fun σ H R => te σ H fun x H1 => ∃ a xs, x = .ref a ∧ SqT K H1 a xs ∧ R (IteT K a) H1
theorem pi_enumT {X : Cx} {K : PySem.W.Frag} {e : Expr} {te : TE} {p pos tpos : Pos} {elts : List Expr} {kk : Nat} (hK : X.K = K) (hg : Gl X "enumerate") (hm : X.mg "enumerate" = none) (he : PE X e te)
    (hs : starEach [e] X.env = (false, eval e X.env) :: starEach [] X.env := by rfl) : PI X (.Tuple elts kk tpos) (.Call (.Name "enumerate" p) [e] [] pos) (iEnumT K te) := by
  subst hK
  refine ⟨fun pins s σ H R I h => ?_⟩
  refine Call_ (ld_blt I hg hm boot_enumerate (PyProof.Rows.callWith_type1 (args_cons (thn (he.run pins s σ H _ I h) fun u s1 ⟨v, H1, I1, r1, a, xs, ev, hq, q⟩ => args_nil ?_) hs) hs))
  subst ev
  obtain rfl : u = Value.ref a := r1
  obtain ⟨its, rv, p', hz⟩ := I1.tuple hq
  have hal : a < s1.heap.objs.size := by
    obtain ⟨o, q, _⟩ := p'
    exact Heap.lt_size q
  refine call_enT p' fun h' he hit hk => wpAny_pyIter_enum he ?_
  have I2 : Inv X pins σ H1 { s1 with heap := h' } := I1.kept (t' := s1.toks) hk
  refine ⟨s1.heap.objs.size + 1, [s1.heap.objs.size + 1, s1.heap.objs.size], _, _, H1, rfl, I2, turn_enT a (s1.heap.objs.size + 1) s1.heap.objs.size (Nat.ne_of_lt hal), ⟨⟨.none, he⟩, hit, Nat.succ_ne_self _, Nat.ne_of_gt (Nat.lt_succ_of_lt hal)⟩, fun b hb => ?_, q⟩
  have hle : s1.heap.objs.size ≤ b := by
    rcases (by simpa using hb : b = s1.heap.objs.size + 1 ∨ b = s1.heap.objs.size) with z | z <;> (subst z; first | exact Nat.le_refl _ | exact Nat.le_succ _)
  exact I1.fpOk hle (I1.hok.fresh hle)
theorem walk_enT {K : PySem.W.Frag} {a : Addr} {xs : List V} : Walk (IteT K a) xs.length (fun H => SqT K H a xs) (YPair (fun i => some (.int (i : Nat))) (fun i => xs[i]?)) := by
  refine ⟨fun i _ hi q => ⟨xs, xs[i], q, by simp [hi]⟩, fun _ q => ⟨xs, q, rfl⟩, fun i H v H' _ q y => ?_⟩
  obtain ⟨T, x, h1, h2, h3, h4⟩ := y
  exact ⟨T, .int (i : Nat), x, h1, h2, h3, rfl, h4 xs q⟩
end TB
set_option maxRecDepth 100000
set_option maxHeartbeats 4000000
namespace TB
open PySem PySem.Spec PyProof.Rows L2
/-! ### len of an instance whose class has a __len__ of its own -/
def rLenOwn (C : Addr) (sp : Sp) (E : XK) : List V → Hp → VK → Prop := fun xs H Q => ∃ a dx fs, xs = [.ref a] ∧ H a = some (.ins C dx fs) ∧
  sp [.ref a] H (fun v H' => ∃ n : Nat, v = .int (n : Int) ∧ n < 1000000 ∧ Q (.int (n : Int)) H') E
theorem call_lenOwn {X : Cx} {CX : CXT} {k : Nat} {C f : Addr} {fd : FuncData} {ps : List Str} {sp : Sp} {E : XK} (hm : Meth X.K C "__len__" f) (F : FnOk X.prog X.w X.K X.mg X.base CX k f fd ps sp) (hr : Room (k + 1) X.A) (hb : Binds X.K fd ps [])
    (hx : Passes CX X E) : CallR X (.builtin "len") (rLenOwn C sp E) := by
  intro pins s σ H xs us Q I r h
  obtain ⟨a, dx, fs, rfl, ha, hs⟩ := h
  cases r with
  | cons r1 rr =>
    cases rr
    cases r1
    obtain ⟨mA, O, _, _, _, _⟩ := ins_get I.hok ha
    have ty : PySem.W.Looks (model X.prog X.w) s.heap (typeOf (.ref a)) (.ref C) := by
      obtain ⟨_, _, _, ho, _⟩ := I.hok a _ ha
      exact fun A Q E s' keep q => wpAny_typeOf_ref (keep _ _ ho) q
    have tyf : PySem.W.typeIn X.K (.ref f) = some (.type "function") := by
      have q := hm.fn
      unfold PySem.W.isFn at q
      exact eq_of_beq q
    refine Calls.call_function_entry kind_len plain_len entry_len (args_len1 _) ?_
    unfold Builtin.«len»
    refine wpAny_bind (m := oneArg "len" _) (wpAny_pure ?_)
    refine wpAny_bind (m := callSpecial? (.ref a) (Str.ofString "__len__")) ?_
    unfold callSpecial? specialOf
    refine wpAny_bind (wpAny_bind (ty.here ((PySem.W.looks_findIn I.kIn hm.at_).here ?_)))
    refine wpAny_holding (wpAny_bind ((PySem.W.bind_fn I.kIn (.ref a) tyf).here ?_))
    have hl := F.len _ _ _ _ hs
    have run := F.run X.A.in1 X.stack s H ⟨[.ref a], []⟩ [.ref a] [.ref a] _ E hr.in1 I.env0.in1 (hb s [.ref a] I.kIn (by rw [← hl]; rfl)) (.cons rfl .nil) hs
    refine wpAny_bind (wpAny_call (codeAny_mono run fun res s' hq => ?_))
    cases res with
    | error e => exact hx pins σ H s e s' I hq
    | ok fl =>
      cases fl with
      | ret u =>
        obtain ⟨v, H', os, bare, un, hok, rv, n, rfl, hn, q⟩ := hq
        obtain ⟨t, rfl⟩ := rv
        obtain ⟨hh, g, d, tk, os'⟩ := s'
        obtain rfl : os' = s.os := os
        have J : Inv X pins σ H' { s with heap := hh, gens := g, drawn := d, toks := tk } := I.call (ch := []) un hok bare (fun b z => absurd z (by simp))
        refine wpAny_pure ?_
        refine wpAny_bind (wpAny_holding (wpAny_pure ?_))
        refine wpAny_bind (wpAny_letGo ?_)
        show wpAny _ _ (if (n : Int) < 0 then _ else _) _ _ _
        rw [if_neg (by omega)]
        show wpAny _ _ (if (n : Int) ≥ 2 ^ 63 then _ else _) _ _ _
        rw [if_neg (by omega)]
        exact wpAny_bind (wpAny_mkInt (wpAny_pure ⟨_, rfl, .int (n : Int), H', J.tok _, ⟨_, rfl⟩, q⟩))
      | next => exact False.elim hq
      | brk => exact False.elim hq
      | cont => exact False.elim hq
end TB
set_option maxRecDepth 100000
set_option maxHeartbeats 4000000
/-! The program's exceptions: class X(TumblerError) with __init__(self, f): super().__init__('..'); self.f = f. -/
namespace TE
open PySem PySem.W PySem.Calls PyProof.Rows
abbrev eA (f : Str) (p1 p2 : Pos) : Arguments := { posonlyargs := [], args := [{ arg := "self", annotation := none, pos := p1 }, { arg := f, annotation := none, pos := p2 }], vararg := none, kwonlyargs := [], kw_defaults := [], kwarg := none, defaults := [] }
/-- where the body's parts stand -/
structure Ps where
  (n : Nat) (p1 p2 q1 q2 q3 q4 q5 q6 r1 r2 r3 r4 : Pos)
abbrev eX (txt : Str) (P : Ps) : Expr := .Call (.Attribute (.Call (.Name "super" P.q1) [] [] P.q2) "__init__" P.q3) [.Constant (.str txt) P.n P.q4] [] P.q5
abbrev eB (f txt : Str) (P : Ps) : List Stmt :=
  [.Expr (eX txt P) P.q6, .Assign [.Attribute (.Name "self" P.r1) f P.r2] (.Name f P.r3) P.r4]
abbrev eS (f : Str) : Scope := { kind := .function, names := [("self", .local), (f, .local), ("__class__", .free), ("super", .globalImplicit)], isGenerator := false, isCoroutine := false, more := [] }
/-- what the written part tells of such a class, at C, its field f; fI its __init__, cda that one's code, cc the cell of its __class__ -/
structure ExK (K : Frag) (C fI cda cc : Addr) (nm f txt : Str) (file : Str) (P : Ps) : Prop where
  own : excInitIn K C [.type "ValueError", .type "Exception", .type "BaseException", .type "object"] "ValueError.__new__" = true
  cls : ∃ cd, clsIn K C = some cd ∧ HandSPX.refsVE cd.mro = true ∧ cd.hasDict = true
  sa : findIn K (.ref C) "__setattr__" = some (some (.builtin "object.__setattr__"))
  noN : findIn K (.ref C) f = some none
  iC : findIn K (.ref C) "__init__" = some (some (.ref fI))
  tI : typeIn K (.ref fI) = some (.type "function")
  sup : ks_superIn K C C "__init__" = some (some (.builtin "ValueError.__init__"))
  sVE : subIn K (.ref C) (.type "ValueError") = some true
  sC : mroIn K C (.ref C) = some true
  tp : nsIn K cStatics "thirdparty.any" = some none
  fn : ∃ (oc : Value) (od : Option Addr) (kV doc pm : Value) (an : Option Addr) (ct : Value) (osl : Array (Option Value)),
    K.lookup fI = some ⟨oc, od, .func (fnX "__init__" nm (eA f P.p1 P.p2) (eB f txt P) (eS f) [("__class__", cc)] .none kV doc pm an (.ref cda) ct), osl⟩
  code : codeIn K (.ref cda) nm = true
  file : ∃ oc od vs sl tf, K.lookup cda = some ⟨oc, od, .fields vs, sl⟩ ∧ vs[2]? = some (.str file tf)
  cell : ∃ oc od sl, K.lookup cc = some ⟨oc, od, .cell (some (.ref C)), sl⟩
/-- what __init__ leaves -/
structure Left (h h' : Heap) (x C dx t1 : Addr) (f : Str) (v : Value) : Prop where
  keep : ∀ b o, b ≠ x → h.get? b = some o → h'.get? b = some o
  obj : h'.get? x = some { cls := .ref C, dict := some dx, data := .fields #[.ref t1, .none, .none, .none, .bool false, .none] }
  dbig : h.objs.size ≤ dx
  dne : dx ≠ x
  ns : h'.Ns1 dx (fun y => if y = f then some v else none)
structure Made (h h' : Heap) (e C d : Addr) (f : Str) (v : Value) : Prop where
  keep : ∀ b o, h.get? b = some o → h'.get? b = some o
  new : h.objs.size ≤ e
  obj : ∃ oe vs, h'.get? e = some oe ∧ oe.cls = .ref C ∧ oe.dict = some d ∧ oe.data = .fields vs ∧ vs[1]? = some .none ∧ vs[2]? = some .none
  dbig : h.objs.size ≤ d
  dne : d ≠ e
  ns : h'.Ns1 d (fun y => if y = f then some v else none)
section
variable {prog : Program} {w : World} {M : Model} {A : Around} {E : Value → Shared → Prop} {R : Result → Shared → Prop} {s : Shared} {K : Frag} {mg mb : Str → Option Value} {C fI cda cc : Addr} {nm f txt file : Str} {P : Ps}
/-- the bound ValueError.__init__, called -/
theorem call_mw {h : Heap} {g : Array GenState} {d : Drawn} {t : Nat} {os : OsState} {u x t0 : Addr} {rest : List Value} {Q : Value → Shared → Prop} (X : K.In h) (T : ExK K C fI cda cc nm f txt file P) (hu : h.get? u = some (kxs_mw "ValueError.__init__" x))
    (hx : h.get? x = some (excObj C t0 none .none)) (hz : rest.length ≤ sizeLine)
    (k : ∀ h' t1, (∀ b o, b ≠ x → h.get? b = some o → h'.get? b = some o) → h'.get? x = some (excObj C t1 none .none) → Q .none ⟨h', g, d, t, os⟩) : wpAny (model prog w) A (call (.ref u) rest) Q E ⟨h, g, d, t, os⟩ := by
  have FB := F.excBase_ValueError
  obtain ⟨nm', N', qn, bs, bm, hdct, sn, sub, ab, col, dd, k0, k1, k2, k3, k5, hC, hT⟩ := excInit_of X T.own
  refine wpAny_call (codeAny_of_tree ?_)
  show wpAny _ A.in1 (callAny (.ref u) ⟨rest, []⟩) _ _ _
  unfold callAny
  refine wpAny_bind (wpAny_load hu ?_)
  refine KFB.if_so (show ((Value.type "method-wrapper" == Value.type "method" || Value.type "method-wrapper" == Value.type "builtin_function_or_method") || Value.type "method-wrapper" == Value.type "method-wrapper") = true by decide) ?_
  refine wpAny_bind (check_bound_init FB.toExcCallFacts hC hx rfl ?_)
  refine wpAny_bind (wpAny_pure (wpAny_pure ?_))
  refine ⟨plainId_quiet FB.init.plain _, codeAny_builtin FB.initEntry ?_⟩
  exact exc_init_tree (cls := .ref C) (t0 := t0) (dv := none) (c2 := .none) (c3 := .none) (b4 := .bool false) hx hz fun h' k1 k2 _ => k h' _ k1 k2
/-- what a text must show of its own: by rfl, all written -/
structure Shows (prog : Program) (nm f txt file : Str) (P : Ps) : Prop where
  binds : ∀ (cc : Addr) (kV doc pm : Value) (an : Option Addr) (cd ct u v : Value),
    bindArgs (fnX "__init__" nm (eA f P.p1 P.p2) (eB f txt P) (eS f) [("__class__", cc)] .none kV doc pm an cd ct) ⟨[u, v], []⟩ = pure [(("self" : Str), u), (f, v)]
  he : ∃ pl : Sem Bool, ∀ (L fI cc : Addr) (cd : Value), eval (eX txt P) (envX nm (eS f) L fI cd [("__class__", cc)]) = (do
      let ov ← attributeBase (.Call (.Name "super" P.q1) [] [] P.q2) "__init__" (envX nm (eS f) L fI cd [("__class__", cc)]) (eval (.Call (.Name "super" P.q1) [] [] P.q2) (envX nm (eS f) L fI cd [("__class__", cc)]))
      standAt P.q3.atName
      let (fx, first) ← holding [ov] (getMethod ov "__init__" pl)
      callWith P.q5 fx first (backTo P.q5 (starEach [.Constant (.str txt) P.n P.q4] (envX nm (eS f) L fI cd [("__class__", cc)]))) [])
  sw : ∀ (L fI cc : Addr) (cd : Value), swapsWith (eX txt P) none P.q6.line (envX nm (eS f) L fI cd [("__class__", cc)]) = pure false
  ne : (f == ("self" : Str)) = false
  loc : (eS f).names.lookup f = some .local
  kS : (eS f).names.lookup ("super" : Str) = some .globalImplicit
  kC : (eS f).names.lookup ("__class__" : Str) = some .free
  dbg : (f == ("__debug__" : Str)) = false
  file : (prog.main.file == file) = true
  top : (prog.main.scope.names.lookup ("super" : Str)).isSome = false
theorem init_ok (T : ExK K C fI cda cc nm f txt file P) (S : Shows prog nm f txt file P) {x t0 : Addr} {v : Value} (X : K.In s.heap) (G : s.heap.Ns mainGlobals mg) (G1 : mg "super" = none) (B : s.heap.Ns builtinsNs mb) (B1 : mb "super" = some (.type "super"))
    (hlim : s.heap.NoLimit) (hx : s.heap.get? x = some (excObj C t0 none .none)) (hnx : K.lookup x = none) (hroom : A.depth < recursionLimit)
    (k : ∀ h' tk dx t1, Left s.heap h' x C dx t1 f v → R (.ok (.ret .none)) { s with heap := h', toks := tk }) : codeAny (model prog w) A (.call (.ref fI) ⟨[.ref x, v], []⟩) R s := by
  obtain ⟨oc, od, kV, doc, pm, an, ct, osl, ho⟩ := T.fn
  obtain ⟨pl, he⟩ := S.he
  obtain ⟨cd, hcd, hmro, hdct⟩ := T.cls
  obtain ⟨oc2, od2, vs, sl2, tf, hcda, hvs⟩ := T.file
  obtain ⟨oc3, od3, sl3, hcell⟩ := T.cell
  have hof := X _ _ ho
  refine ks_codeAny_call_defAt (binds := [(("self" : Str), .ref x), (f, v)]) hroom hof rfl hlim (codeRec_of X T.code) rfl (BindsTo.of_eq (S.binds _ _ _ _ _ _ _ _ _)) (fun y hy => ?_) (fun y hy => ?_) (fun h₁ hn hk => ?_) rfl rfl rfl
  · have hy' : y ∈ (eS f).names := hy
    have e : y = (("self" : Str), NameKind.local) ∨ y = (f, NameKind.local) ∨ y = (("__class__" : Str), NameKind.free) ∨ y = (("super" : Str), NameKind.globalImplicit) := by simpa using hy'
    rcases e with e | e | e | e <;> (rw [e]; intro z; cases z)
  · have e : y = (("self" : Str), Value.ref x) ∨ y = (f, v) := by simpa using hy
    rcases e with e | e
    · rw [e]
      rfl
    · rw [e]
      exact S.loc
  · have X₁ : K.In h₁ := X.keeps hk
    have hx₁ := hk _ _ hx
    have hself : (fun y => List.lookup y [(("self" : Str), Value.ref x), (f, v)].reverse) ("self" : Str) = some (.ref x) := by
      show List.lookup ("self" : Str) [(f, v), (("self" : Str), Value.ref x)] = some (.ref x)
      have e : (("self" : Str) == f) = false := by
        rw [Bool.eq_false_iff]
        intro z
        have z2 := eq_of_beq z
        have z3 := S.ne
        rw [← z2] at z3
        exact absurd z3 (by decide)
      simp [List.lookup, e]
    refine ks_wpAt_execs_cons (ks_wpAt_Expr_any (ks_wpAt_MethodCall (pl := pl) (ks_wpAt_super_base S.kS S.kC (by decide) rfl (X₁ _ _ ho) rfl rfl rfl (X₁ _ _ hcda) rfl hvs S.file S.top ?_) (he _ _ _ _)) rfl (S.sw _ _ _ _))
    refine ks_loadName_global rfl S.kS (loadGlobal_builtin (G.keeps hk) G1 (B.keeps hk) B1 ⟨rfl, ?_⟩)
    refine wpAny_loadName_free rfl S.kC rfl ⟨_, X₁ _ _ hcell, rfl⟩ ?_
    refine wpAny_loadName_local rfl rfl hn hself ?_
    obtain ⟨oD, hD1, hD2⟩ : ∃ oD, h₁.get? C = some oD ∧ oD.data = .cls cd := by
      unfold clsIn at hcd
      split at hcd
      · rename_i c d cd' sl ho2
        cases hcd
        exact ⟨_, X₁ _ _ ho2, rfl⟩
      · cases hcd
    refine ks_wpAny_isType_cls hD1 hD2 ⟨rfl, ?_⟩
    refine ks_wpAny_call_super hD1 hD2 hx₁ rfl (fun c z => by cases z) (looks_mroIn X₁ T.sC) (fun h₂ hso k₂ => ?_)
    have X₂ : K.In h₂ := X₁.keeps k₂
    have hx₂ := k₂ _ _ hx₁
    have sup := T.sup
    unfold ks_superIn at sup
    rw [hcd] at sup
    have ty : Looks (model prog w) h₂ (typeOf (.ref x)) (.ref C) := fun A Q E s' keep q => wpAny_typeOf_ref (keep _ _ hx₂) q
    have nxC : x ≠ C := by
      intro z
      rw [z] at hx₁
      rw [hx₁] at hD1
      cases hD1
      cases hD2
    refine kxs_getMethod kxs_ValueError hso (looks_opaque X₂ T.tp) (l₀ := cd.mro) (fun A Q E s' keep q => wpAny_bind ((looks_clsIn X₂ hcd) A _ E s' keep (wpAny_pure q))) rfl X₂ sup (ty.andThen (looks_subIn X₂ T.sVE)) nxC (by decide) ?_
    have k₃ : ∀ b o, h₂.get? b = some o → (h₂.push (kxs_mw "ValueError.__init__" x)).get? b = some o := fun b o e => Heap.get?_push_of_some _ e
    refine kxs_callWith (i := "ValueError.__init__") (x := x) rfl (Calls.evalArgs_plain (Calls.spliced_cons (Calls.Constant_str (x := txt) (k := P.n) (pos := P.q4) (Calls.spliced_nil ⟨Heap.get?_push_size _ rfl, ?_⟩))))
    refine call_mw (X₂.keeps k₃) T (Heap.get?_push_size _ rfl) (k₃ _ _ hx₂) (by rw [sizeLine_eq]; exact (by decide : 1 ≤ 16777216)) fun h₄ t1 k₄ hx₄ => ?_
    -- self.f = f
    have X₄ : K.In h₄ := fun a o e => k₄ a o (fun z => by rw [z, hnx] at e; cases e) (k₃ _ _ (X₂ a o e))
    have hxL : s.heap.objs.size ≠ x := Nat.ne_of_gt (Heap.lt_size hx)
    have hn₄ : h₄.Ns s.heap.objs.size (fun y => List.lookup y [(("self" : Str), Value.ref x), (f, v)].reverse) := hn.at fun o q => k₄ _ _ hxL (k₃ _ _ (k₂ _ _ q))
    have hfv : (fun y => List.lookup y [(("self" : Str), Value.ref x), (f, v)].reverse) f = some v := by
      show List.lookup f [(f, v), (("self" : Str), Value.ref x)] = some v
      simp [List.lookup]
    refine wpAt_of_wpAny (wpAny_execs_cons (plainObj_wpAny_Assign_Attribute ?_))
    refine wpAny_Name (wpAny_loadName_local rfl S.loc hn₄ hfv ?_) S.dbg
    refine wpAny_Name (wpAny_loadName_local rfl rfl hn₄ hself ?_) (by decide)
    refine set_plain X₄ (ox := excObj C t1 none .none) (od := none) ⟨hx₄, rfl, rfl, trivial⟩ T.sa ?_
    refine HandSPX.exc_osa X₄ hx₄ hcd hmro hdct T.noN fun h₅ tk₅ dx k₅ dn dne hx₅ hn₅ => ?_
    refine wpAny_execs_nil ?_
    refine k h₅ _ dx t1 ⟨fun b o hb e => k₅ b o hb (k₄ b o hb (k₃ _ _ (k₂ _ _ (hk b o e)))), hx₅, ?_, dne, hn₅⟩
    have z1 : s.heap.objs.size < h₄.objs.size := hn₄.lt
    exact Nat.le_of_lt (Nat.lt_of_lt_of_le z1 dn)
/-- C(v) -/
theorem made_ok (T : ExK K C fI cda cc nm f txt file P) (S : Shows prog nm f txt file P) {v : Value} (X : K.In s.heap) (G : s.heap.Ns mainGlobals mg) (G1 : mg "super" = none) (B : s.heap.Ns builtinsNs mb) (B1 : mb "super" = some (.type "super"))
    (hlim : s.heap.NoLimit) (hroom : A.depth + 1 < recursionLimit) (k : ∀ h' tk e d, Made s.heap h' e C d f v → R (.ok (.ret (.ref e))) { s with heap := h', toks := tk }) : codeAny (model prog w) A (.call (.ref C) ⟨[v], []⟩) R s := by
  obtain ⟨nm', N', qn, bs, bm, hdct, sn, sub, ab, col, dd, k0, k1, k2, k3, k5, hC, hT⟩ := excInit_of X T.own
  obtain ⟨hp, g, dr, tk, os⟩ := s
  have kk : ∀ b o, hp.get? b = some o → ((hp.push (kdv_tup [v])).push (HandSPX.excO C hp.objs.size)).get? b = some o := fun b o e => Heap.get?_push_of_some _ (Heap.get?_push_of_some _ e)
  have hget : ((hp.push (kdv_tup [v])).push (HandSPX.excO C hp.objs.size)).get? (hp.objs.size + 1) = some (HandSPX.excO C hp.objs.size) := by heap_get
  have hnx : K.lookup (hp.objs.size + 1) = none := by
    cases e : K.lookup (hp.objs.size + 1) with
    | none => rfl
    | some o =>
      have z : hp.get? (hp.objs.size + 1) = some o := X _ _ e
      exact absurd (Nat.lt_of_succ_lt (Heap.lt_size z)) (Nat.lt_irrefl _)
  refine HandSPX.call_own F.excBase_ValueError hT hC (looks_findIn X T.iC) (fun self => bind_fn X self T.tI) (by rw [sizeLine_eq]; exact (by decide : 1 ≤ 16777216)) ?_
  refine init_ok (s := ⟨(hp.push (kdv_tup [v])).push (HandSPX.excO C hp.objs.size), g, dr, tk, os⟩) T S (X.keeps kk) (G.keeps kk) G1 (B.keeps kk) B1 (hlim.keeps kk) hget hnx ?_ fun h' tk' dx t1 L => ?_
  · show A.depth + 1 < recursionLimit
    exact hroom
  · have old : ∀ b o, hp.get? b = some o → h'.get? b = some o := fun b o e => L.keep b o (Nat.ne_of_lt (Nat.lt_succ_of_lt (Heap.lt_size e))) (kk b o e)
    have z : hp.objs.size + 1 + 1 ≤ dx := by
      have q := L.dbig
      rw [Heap.size_push, Heap.size_push] at q
      exact q
    exact ⟨rfl, k h' tk' (hp.objs.size + 1) dx ⟨old, Nat.le_succ _, ⟨_, _, L.obj, rfl, rfl, rfl, rfl, rfl⟩, Nat.le_trans (Nat.le_trans (Nat.le_succ _) (Nat.le_succ _)) z, L.dne, L.ns⟩⟩
end
end TE
set_option maxRecDepth 100000
set_option maxHeartbeats 4000000
/-! The rules over the layer: raise X(e), e.f, isinstance(e, ..), several clauses with names. -/
namespace L2
open PySem PySem.Spec PyProof.Rows
theorem relO_one {f : Str} {v : V} {v' : Value} (r : RelV v v') (g : Str) : RelO (List.lookup g [(f, v)]) (if g = f then some v' else none) := by
  by_cases hw : g = f
  · subst hw
    rw [if_pos rfl]
    have q : List.lookup g [(g, v)] = some v := by simp [List.lookup]
    rw [q]
    exact r
  · rw [if_neg hw]
    have qw : (g == f) = false := by simpa using hw
    have q2 : List.lookup g [(f, v)] = none := by simp [List.lookup, qw]
    rw [q2]
    trivial
/-- what a class of the program's exceptions must have, over the context -/
structure ExC2 (K : PySem.W.Frag) (mg : Str → Option Value) (prog : Program) (x : Str) (C : Addr) (f : Str) : Prop where
  ex : ∃ (fI cda cc : Addr) (nm txt file : Str) (P : TE.Ps), TE.ExK K C fI cda cc nm f txt file P ∧ TE.Shows prog nm f txt file P
  gC : mg x = some (.ref C)
  gS : mg "super" = none
  kC : PySem.W.keepIn K (.ref C) = true
  exC : PySem.W.subIn K (.ref C) (.type "BaseException") = some true
  tyC : PySem.W.typeIn K (.ref C) = some (.type "type")
/-- C(e) -/
def tMkEx (C : Addr) (f : Str) (ta : TA) : St → Hp → XK → Prop := fun σ H Q => ta σ H fun vs H1 => ∃ v, vs = [v] ∧ ∀ d, H1 d = none → Q (.ref C) (some d) (upd H1 d (.xd [(f, v)]))
section
variable {X : Cx} {C : Addr} {x f : Str}
theorem pmk_ex {a : Expr} {ta : TA} {p pos : Pos} {k : Nat} (T : ExC2 X.K X.mg X.prog x C f) (hr : Room k X.A) (ha : PA X [a] ta) (hg : Gl X x := by rfl) (hdb : (x == ("__debug__" : Str)) = false := by decide)
    (he : starEach (a :: []) X.env = (false, eval a X.env) :: starEach [] X.env := by rfl) (hpl : (backTo pos (starEach [] X.env)).any (·.1) = false := by rfl) :
    L2N.PMk X (.Call (.Name x p) [a] [] pos) (tMkEx C f ta) := by
  intro pins s σ H Q I h
  obtain ⟨fI, cda, cc, nm, txt, file, P, TK, TS⟩ := T.ex
  refine wpAny_Call_Name_kw (ld_glob I hg T.gC ?_ hdb)
  refine PySem.W.callWith_K (h₀ := X.base) I.ok.mod.kin T.kC (thn (ha.run pos pins s σ H _ I h) fun us s1 hh => ?_) he hpl
  obtain ⟨vs, H1, I1, r1, v, ev, q1⟩ := hh
  subst ev
  refine ⟨I1.kIn, ?_⟩
  cases r1 with
  | cons rv rn =>
    rename_i v' us'
    cases rn
    show wpAny _ _ (call (.ref C) [v']) _ _ _
    have hlim := I1.nolimit
    have hglob := I1.mod.glob.keeps I1.bk
    obtain ⟨mb, hb1, hb2⟩ := I1.mod.blt
    have hblt := hb1.keeps I1.bk
    obtain ⟨hp, g, dr, tk, os⟩ := s1
    refine wpAny_call (TE.made_ok TK TS I1.kIn hglob T.gS hblt ((hb2 "super" (by decide)).trans (by decide +kernel)) hlim (by have := hr.dp; omega) fun h' tk' e d M => ?_)
    show L2N.MkP X pins σ Q (.ref e) ⟨h', g, dr, tk', os⟩
    obtain ⟨oe, fv, hoe, hc, hd, hdat, h1, h2⟩ := M.obj
    have hns := M.ns
    obtain ⟨G', g1, g2⟩ := restrict h' fun b => decide (b ≠ e)
    have gk : ∀ b, b ≠ e → G'.get? b = h'.get? b := fun b hb => g1 b (decide_eq_true hb)
    have ge : G'.get? e = none := g2 e (by simp)
    have old : ∀ b o, hp.get? b = some o → G'.get? b = some o := fun b o q => (gk b (Nat.ne_of_lt (Nat.lt_of_lt_of_le (Heap.lt_size q) M.new))).trans (M.keep b o q)
    have ob : ObjOk X.prog X.w (upd H1 d (.xd [(f, v)])) G' d (.xd [(f, v)]) :=
      ⟨_, hns.at (fun o q => (gk d M.dne).trans q), fun f => relO_one rv f⟩
    have J : Inv X pins σ (upd H1 d (.xd [(f, v)])) ⟨G', g, dr, tk', os⟩ := I1.laid (t' := tk') old M.dbig ob
    refine ⟨e, oe, fv, ⟨G', g, dr, tk', os⟩, _, .ref C, some d, rfl, J, fun b o q => ?_, ge, hoe, ⟨hc, hd, fun vs' e2 => ?_⟩, hdat, h1, ?_, rfl, I1.bare, raises_own T.exC T.tyC, q1 d (I1.hok.fresh M.dbig)⟩
    · by_cases hb : b = e
      · have q' : G'.get? b = some o := q
        rw [hb, ge] at q'; cases q'
      · exact (gk b hb).symm.trans q
    · rw [hdat] at e2
      cases e2
      exact h2
    · rw [upd_ne (Ne.symm M.dne)]
      exact I1.hok.fresh M.new
end
end L2
set_option maxRecDepth 100000
set_option maxHeartbeats 4000000
/-! try with several clauses, each with a name. -/
namespace L2
open PySem PySem.Spec PyProof.Rows
abbrev Suite : Type := Addr → Value → Option Addr → TS
def endsAs (D : Ends) (i : Nat) : Ends where
  nx := fun σ H => D.nx (σ.set i none) H
  rt := D.rt
  bk := fun σ H => D.bk (σ.set i none) H
  ct := fun σ H => D.ct (σ.set i none) H
def wManyAs (K : PySem.W.Frag) (Wo : WX) (D : Ends) : List (Value × Nat × Suite) → WX
  | [] => Wo
  | q :: r => fun cls d σ H => ∃ b, PySem.W.exmOne K cls q.1 = some b ∧ (b = true → ∀ a, H a = none → q.2.2 a cls d (endsAs D q.2.1) (σ.set q.2.1 (some (.ref a))) H) ∧ (b = false → wManyAs K Wo D r cls d σ H)
inductive HdsAs (X : Cx) : List ExceptHandler → List (Value × Nat × Suite) → Prop
  | nil : HdsAs X [] []
  | cons {x n : Str} {c : Value} {i : Nat} {ts : Suite} {b0 : Stmt} {bs : List Stmt} {np hp : Pos} {hds : List ExceptHandler} {l : List (Value × Nat × Suite)} (hc : Names X x c) (hi : X.N[i]? = some n) (hl : X.env.kindOf n = some .local)
      (su : ∀ (a : Addr) (o : Obj) (cls : Value) (d : Option Addr) (pn : List (Addr × Obj)), L2N.Zn cls d o → (∃ vs, o.data = .fields vs) → PSs (X.suite a ((a, o) :: pn)) (b0 :: bs) (ts a cls d)) (r : HdsAs X hds l) :
      HdsAs X (.ExceptHandler (some (.Name x np)) (some n) (b0 :: bs) hp :: hds) ((c, i, ts) :: l)
section
variable {X : Cx} {body : List Stmt} {h0 : ExceptHandler} {hds : List ExceptHandler} {l : List (Value × Nat × Suite)} {pos : Pos} {tb : WX → TS} {Wo : WX}
theorem ps_try_manyAs (st : X.stack = X.env :: X.outer) (fr : X.env.frame = some X.env.locals) (hN : X.N.Nodup) (tk : L2N.Takes X Wo)
    (hb : ∀ (W : WX) (pn : List (Addr × Obj)) (xe : Value → Shared → Prop), L2N.Takes (X.tr pn xe) W → PassesOwn (model X.prog X.w) X.A X.env xe → PSs (X.tr pn xe) body (tb W))
    (hh : HdsAs X (h0 :: hds) l) : PS X (.Try body (h0 :: hds) [] [] pos) (fun D σ H => tb (wManyAs X.K Wo D l) D σ H) := by
  refine ⟨fun pins s σ H D I hw => ?_⟩
  have ok := I.ok
  have frames : X.A.frames = some (X.env :: X.outer) := by rw [ok.frames, st]
  refine wpAny_Try_except ?_
  let xe2 : Value → Shared → Prop := fun e s1 => wpAny (model X.prog X.w) X.A (noteFrame e X.env) (fun _ s2 => wpAny (model X.prog X.w) X.A (setFlight e none) (fun _ s3 => wpAny (model X.prog X.w) X.A (handleBy e X.env (h0 :: hds)) (SP X pins D) X.xe s3) X.xe s2) X.xe s1
  have tks : L2N.Takes (X.tr (X.pn ++ pins) xe2) (wManyAs X.K Wo D l) := by
    intro u s' q
    obtain ⟨a, B, sI, ps2, σ2, H2, cls, d, rfl, J1, nb, up, sky, na, os, ag, w⟩ := q
    have J2 : Inv X pins σ2 H2 sI := J1.ofTry ok
    have sky2 : Sky B (X.env :: X.outer) a (L2N.Zn cls d) X.env.locals s'.heap := st ▸ sky
    show wpAny (model X.prog X.w) X.A (noteFrame (.ref a) X.env) _ _ _
    refine L2N.Sky.land L2N.Zn.steady frames fr sky2 fun h3 f3 u3 => ?_
    have J3 : Inv X pins σ2 H2 { s' with heap := h3 } := J2.landed nb f3.1 (up.trans u3) os ag
    obtain ⟨o3, v3, g3, z3, d3⟩ := f3.there
    have apart : a ∉ frs (X.env :: X.outer) := by
      intro hm
      obtain ⟨_, o', e', q⟩ := f3.2.2.1.mem hm
      rw [g3] at e'
      cases e'
      exact q _ d3
    have n1 : a ≠ X.env.locals := fun z => apart (List.mem_filterMap.mpr ⟨X.env, List.mem_cons_self, fr.trans (congrArg some z.symm)⟩)
    have n2 : a ∉ X.fs := fun hm => by
      obtain ⟨e, h1, h2⟩ := List.mem_filterMap.mp hm
      exact apart (List.mem_filterMap.mpr ⟨e, .tail _ h1, h2⟩)
    have S3 := J3.suite g3 d3 na n1 n2
    have LT : PySem.W.Looks (model X.prog X.w) h3 (typeOf (.ref a)) cls := fun A Q E s k q => wpAny_typeOf_ref (k _ _ g3) (z3.1.symm ▸ q)
    have go : ∀ {ks : List ExceptHandler} {m : List (Value × Nat × Suite)}, HdsAs X ks m → wManyAs X.K Wo D m cls d σ2 H2 → wpAny (model X.prog X.w) X.A (handleBy (.ref a) X.env ks) (SP X pins D) X.xe { s' with heap := h3 } := by
      intro ks m hk
      induction hk with
      | nil =>
        intro w
        refine wpAny_handleBy_nil ?_
        obtain ⟨_, _, _, oe, vs, T, oT, _, he, _, hd, h1, _⟩ := id f3
        unfold PySem.passOn
        refine wpAny_bind (wpAny_field he hd h1 ?_)
        rw [if_neg (show ¬ ((Value.ref T == Value.none) = true) from by simp)]
        have out : wpAny (model X.prog X.w) X.A (setFlight (.ref a) X.env.frame) (fun _ s4 => wpAny (model X.prog X.w) X.A (throw (.ref a) : Sem Flow) (SP X pins D) X.xe s4) X.xe { s' with heap := h3 } := by
          rw [fr]
          refine HandSPX.setFlight_upZ f3 fun h4 hh4 u4 => wpAny_throw (tk _ _ ⟨a, B, sI, pins, σ2, H2, cls, d, rfl, J2, nb, (up.trans u3).trans u4, .inr (.inr ?_), na, os, ag, w⟩)
          rw [st]
          exact hh4
        first | exact wpAny_bind (wpAny_pure (wpAny_bind out)) | exact wpAny_bind out
      | @cons x n c i ts b0 bs np hp hds2 l2 hc hi hl su r ih =>
        intro w
        obtain ⟨b, hb1, yes, no⟩ := w
        refine wpAny_handleBy_cons (codeAny_handlers_test ?_) (fun q => nomatch q)
        have test : ∀ {Q : Value → Shared → Prop} {E : Value → Shared → Prop}, Q c { s' with heap := h3 } → wpAny (model X.prog X.w) (X.A.mark (some (.ref a))) (eval (.Name x np) X.env) Q E { s' with heap := h3 } := by
          intro Q E q
          obtain ⟨k1, k2, k3 | ⟨k3, k4, k5⟩⟩ := hc
          · exact ld_glob (X := X.suite a ((a, o3) :: (X.pn ++ pins))) S3 k1 k3 q k2
          · exact ld_blt (X := X.suite a ((a, o3) :: (X.pn ++ pins))) S3 k1 k3 k4 q k5 k2
        refine test ((PySem.W.exm_one (M := model X.prog X.w) J3.kIn LT hb1).here ?_)
        cases b with
        | false => exact ih (no rfl)
        | true =>
          refine codeAny_handlers_suite_as ?_
          refine HandSPX.lands_againZ f3 fun h4 f4 u4 => ?_
          have J4 : Inv X pins σ2 H2 { s' with heap := h4 } := J2.landed nb f4.1 ((up.trans u3).trans u4) os ag
          obtain ⟨o4, v4, g4, z4, d4⟩ := f4.there
          have S4 := J4.suite g4 d4 na n1 n2
          refine store_ok (X := X.suite a ((a, o4) :: (X.pn ++ pins))) (v := .ref a) S4 hN hi (.inl hl) rfl (fun s5 S5 => ?_) (.inr hl)
          refine wpAny_mono ((su a o4 cls d (X.pn ++ pins) z4 ⟨_, d4⟩).run [] s5 _ H2 _ S5 (yes rfl a na)) (fun f s6 q6 => ?_) (fun _ _ z => z.elim)
          have fin : ∀ {σ6 : St} {H6 : Hp} {Q : Shared → Prop}, Inv (X.suite a ((a, o4) :: (X.pn ++ pins))) [] σ6 H6 s6 → (∀ s7, Inv X pins (σ6.set i none) H6 s7 → Q s7) →
              wpAny (model X.prog X.w) X.A (do bindName X.env n .none; unbindBehindTheSuite X.env n hp) (fun _ s7 => Q s7) X.xe s6 := fun S6 k => gone_ok (S6.unsuite ok) hN hi hl k
          cases f with
          | ret u =>
            obtain ⟨v6, σ6, H6, S6, r6, q⟩ := q6
            exact fin S6 fun s7 J7 => ⟨_, _, _, J7, r6, q⟩
          | _ =>
            obtain ⟨σ6, H6, S6, q⟩ := q6
            exact fin S6 fun s7 J7 => ⟨_, _, J7, q⟩
    exact go hh w
  refine wpAny_mono ((hb _ (X.pn ++ pins) xe2 tks PassesOwn.looking).run [] s σ H D (I.toTry _) hw) (fun f s1 q => ?_) (fun e s1 he => he)
  cases f with
  | next =>
    obtain ⟨σ2, H2, J2, q⟩ := q
    exact wpAny_execs_nil ⟨σ2, H2, J2.ofTry ok, q⟩
  | ret u =>
    obtain ⟨v, σ2, H2, J2, r, q⟩ := q
    exact ⟨v, σ2, H2, J2.ofTry ok, r, q⟩
  | _ =>
    obtain ⟨σ2, H2, J2, q⟩ := q
    exact ⟨σ2, H2, J2.ofTry ok, q⟩
end
end L2
set_option maxRecDepth 100000
set_option maxHeartbeats 4000000
/-! isinstance of a caught exception that has a dict; the power of a large number. -/
namespace L2
open PySem PySem.Spec PyProof.Rows
def rIsED (K : PySem.W.Frag) (D a : Addr) (d : Option Addr) : List V → Hp → VK → Prop := fun xs H Q => ∃ (c : V) (cv : Value) (b : Bool), xs = [.ref a, c] ∧ (∀ u, RelV c u → u = cv) ∧ (∃ dd fs, d = some dd ∧ H dd = some (.xd fs)) ∧ PySem.W.kitOne K (.ref D) cv = some b ∧ Q (.bl b) H
theorem call_isED {X : Cx} {K : PySem.W.Frag} {a D : Addr} {oe : Obj} {d : Option Addr} {pn : List (Addr × Obj)} (hK : X.K = K) (C : ExcC K D) (hz : Zc (.ref D) d oe) (hf : ∃ vs, oe.data = .fields vs) :
    CallR (X.suite a ((a, oe) :: pn)) (.builtin "isinstance") (rIsED K D a d) := by
  subst hK
  intro pins s σ H xs us Q I r h
  obtain ⟨c, cv, b, rfl, hcv, ⟨dd, fs, ed, hd⟩, e, q⟩ := h
  cases r with
  | cons rx rr =>
    cases rr with
    | cons rt rr =>
      cases rr
      cases rx
      have ec := hcv _ rt
      subst ec
      subst ed
      obtain ⟨hget, _⟩ := I.pin (a, oe) (List.mem_append.mpr (.inl List.mem_cons_self))
      obtain ⟨vs, hv⟩ := hf
      have hx : ObjOk X.prog X.w H s.heap dd (.xd fs) := I.hok dd _ hd
      obtain ⟨mA, hns, _⟩ := hx
      obtain ⟨od, ho, _⟩ := lookIn_ns hns
      have J : PySem.W.InstAt s.heap a oe D (some od) := ⟨hget, hz.1, by unfold PySem.W.notCls; rw [hv] <;> rfl, by rw [hz.2]; exact ho⟩
      have cl : (PySem.W.clsIn X.K D).isSome = true := by
        have z := C.hd
        unfold PySem.W.hasDictIn at z
        cases q : PySem.W.clsIn X.K D with
        | none =>
          rw [q] at z
          cases z
        | some _ => rfl
      exact PySem.W.kia_one (PySem.W.kitx_exc cl C.hg C.hk C.hs C.ha C.hn C.ht C.hm) I.kIn J e (fun z => nomatch z) fun tk => ⟨.bl b, H, I.kept (t' := tk) fun _ _ z => z, rfl, q⟩
/-- a power of a large number -/
theorem op_powW {X : Cx} : OpR X (binaryOp .Pow) (rI (fun i j => 0 ≤ j ∧ (Builtin.Int.intBits i : Int) * j ≤ 2 ^ 27) fun i j => .int (i ^ j.toNat)) := opI fun _ _ _ _ _ _ _ hc q => pow_int hc.1 hc.2 q
end L2

set_option maxRecDepth 100000
set_option maxHeartbeats 2000000
/-! The head's facts, with the program's exceptions among them. -/
namespace TH
open PySem PySem.Spec PyProof.Rows L2
/-- one exception class: its name, its __init__'s qualified name, its field, its text, where its parts stand -/
structure XcD where
  cls : Str
  qual : Str
  f : Str
  txt : Str
  P : TE.Ps
abbrev FnC : Type := Option (Str × Str × Arguments × FuncBody × Scope × Addr × List Str × Addr)
def fnC (K : PySem.W.Frag) (x : Str) : FnC := match K.lookup (He.ma K (He.ga K x) "__init__") with
  | some ⟨_, _, .func fd, _⟩ => some (fd.name, fd.qualname, fd.params, fd.body, fd.scope, fd.globals, fd.closure.map (·.1), fd.builtins)
  | _ => none
def XcD.val (d : XcD) : FnC := some ("__init__", d.qual, TE.eA d.f d.P.p1 d.P.p2, .stmts (TE.eB d.f d.txt d.P), TE.eS d.f, mainGlobals, ["__class__"], builtinsNs)
def veB : List Value := [.type "ValueError", .type "Exception", .type "BaseException", .type "object"]
def fileB (vs : Array Value) (file : Str) : Bool := match (vs[2]? : Option Value) with
  | some (Value.str fl _) => decide (fl = file)
  | _ => false
/-- the code object and the cell -/
def xcFn (K : PySem.W.Frag) (C : Addr) (qual file : Str) (fd : FuncData) : Bool := (match fd.defaults with
    | .none => true
    | _ => false) && ((match fd.code with
    | .ref cda => PySem.W.codeIn K (.ref cda) qual && (match K.lookup cda with
      | some ⟨_, _, .fields vs, _⟩ => fileB vs file
      | _ => false)
    | _ => false) && (match fd.closure with
    | [(_, cc)] => (match K.lookup cc with
      | some ⟨_, _, .cell (some v), _⟩ => decide (v = .ref C)
      | _ => false)
    | _ => false))
def xcB (K : PySem.W.Frag) (file : Str) (d : XcD) : Bool :=
  PySem.W.excInitIn K (He.ga K d.cls) veB "ValueError.__new__" && ((match PySem.W.clsIn K (He.ga K d.cls) with
    | some cd => HandSPX.refsVE cd.mro && cd.hasDict
    | none => false) && (He.eqO (PySem.W.findIn K (.ref (He.ga K d.cls)) "__setattr__") (some (some (.builtin "object.__setattr__"))) && (He.eqO (PySem.W.findIn K (.ref (He.ga K d.cls)) d.f) (some none) &&
  (He.eqO (PySem.W.findIn K (.ref (He.ga K d.cls)) "__init__") (some (some (.ref (He.ma K (He.ga K d.cls) "__init__")))) && (decide (PySem.W.typeIn K (.ref (He.ma K (He.ga K d.cls) "__init__")) = some (.type "function")) &&
  (He.eqO (PySem.W.ks_superIn K (He.ga K d.cls) (He.ga K d.cls) "__init__") (some (some (.builtin "ValueError.__init__"))) && (decide (PySem.W.subIn K (.ref (He.ga K d.cls)) (.type "ValueError") = some true) &&
  (decide (PySem.W.mroIn K (He.ga K d.cls) (.ref (He.ga K d.cls)) = some true) && (He.eqO (PySem.W.nsIn K cStatics "thirdparty.any") (some none) && (match K.lookup (He.ma K (He.ga K d.cls) "__init__") with
    | some ⟨_, _, .func fd, _⟩ => xcFn K (He.ga K d.cls) d.qual file fd
    | _ => false))))))))))
theorem xc_ok {K : PySem.W.Frag} {file : Str} {d : XcD} (e : fnC K d.cls = d.val) (h : xcB K file d = true) : ∃ cda cc, TE.ExK K (He.ga K d.cls) (He.ma K (He.ga K d.cls) "__init__") cda cc d.qual d.f d.txt file d.P := by
  obtain ⟨h1, h⟩ := He.ba h
  obtain ⟨h2, h⟩ := He.ba h
  obtain ⟨h3, h⟩ := He.ba h
  obtain ⟨h4, h⟩ := He.ba h
  obtain ⟨h5, h⟩ := He.ba h
  obtain ⟨h6, h⟩ := He.ba h
  obtain ⟨h7, h⟩ := He.ba h
  obtain ⟨h8, h⟩ := He.ba h
  obtain ⟨h9, h⟩ := He.ba h
  obtain ⟨h10, h11⟩ := He.ba h
  have hcls : ∃ cd, PySem.W.clsIn K (He.ga K d.cls) = some cd ∧ HandSPX.refsVE cd.mro = true ∧ cd.hasDict = true := by
    cases q : PySem.W.clsIn K (He.ga K d.cls) with
    | none =>
      rw [q] at h2
      cases h2
    | some cd =>
      rw [q] at h2
      exact ⟨cd, rfl, He.ba h2⟩
  unfold fnC at e
  cases q : K.lookup (He.ma K (He.ga K d.cls) "__init__") with
  | none =>
    rw [q] at h11
    cases h11
  | some o =>
    obtain ⟨oc, od, dt, osl⟩ := o
    rw [q] at e h11
    cases dt with
    | func fd =>
      obtain ⟨n1, n2, n3, n4, n5, n6, n7, n8, n9, n10, n11, n12, n13, n14, n15⟩ := fd
      have e2 : (some (n1, n2, n3, n4, n5, n6, n7.map (·.1), n15) : FnC) = (some (("__init__" : Str), d.qual, TE.eA d.f d.P.p1 d.P.p2, FuncBody.stmts (TE.eB d.f d.txt d.P), TE.eS d.f, mainGlobals, [("__class__" : Str)], builtinsNs) : FnC) := e
      simp only [Option.some.injEq, Prod.mk.injEq] at e2
      obtain ⟨a1, a2, a3, a4, a5, a6, a7, a8⟩ := e2
      subst a1 a2 a3 a4 a5 a6 a8
      obtain ⟨b1, b⟩ := He.ba (show xcFn K (He.ga K d.cls) d.qual file _ = true from h11)
      obtain ⟨b2, b3⟩ := He.ba b
      dsimp only at b1 b2 b3
      cases n8 with
      | none =>
        cases n13 with
        | ref cda =>
          obtain ⟨b4, b5⟩ := He.ba b2
          match n7, a7, b3 with
          | [(x, cc)], a7, b3 =>
            have ex : x = "__class__" := by simpa using a7
            subst ex
            cases q2 : K.lookup cda with
            | none =>
              rw [q2] at b5
              cases b5
            | some o2 =>
              obtain ⟨oc2, od2, dt2, osl2⟩ := o2
              rw [q2] at b5
              cases dt2 with
              | fields vs =>
                have b6 : fileB vs file = true := b5
                unfold fileB at b6
                have b3' : (match K.lookup cc with
                  | some ⟨_, _, .cell (some v), _⟩ => decide (v = .ref (He.ga K d.cls))
                  | _ => false) = true := b3
                cases q3 : K.lookup cc with
                | none =>
                  rw [q3] at b3'
                  cases b3'
                | some o3 =>
                  obtain ⟨oc3, od3, dt3, osl3⟩ := o3
                  rw [q3] at b3'
                  cases dt3 with
                  | cell cv =>
                    cases cv with
                    | none => cases b3'
                    | some v =>
                      have b7 : v = .ref (He.ga K d.cls) := of_decide_eq_true b3'
                      subst b7
                      refine ⟨cda, cc, h1, hcls, He.eqO_ok h3, He.eqO_ok h4, He.eqO_ok h5, of_decide_eq_true h6, He.eqO_ok h7, of_decide_eq_true h8, of_decide_eq_true h9, He.eqO_ok h10, ⟨_, _, _, _, _, _, _, _, q⟩, b4, ?_, ⟨_, _, _, q3⟩⟩
                      cases q4 : vs[2]? with
                      | none =>
                        rw [q4] at b6
                        cases b6
                      | some u =>
                        rw [q4] at b6
                        cases u with
                        | str fl tf =>
                          have b8 : fl = file := of_decide_eq_true b6
                          subst b8
                          exact ⟨_, _, _, _, tf, q2, q4⟩
                        | _ => cases b6
                  | _ => cases b3'
              | _ => cases b5
        | _ => cases b2
      | _ => cases b1
    | _ => cases h11
/-! ### the Hook -/
abbrev AlX : Type := Al × List FnC
def addrsX (g : Addr → Option Obj) (xs : List Str) : List Addr := cStatics :: addrs g xs
def obsKX (fa : List He.Fa) (fn : List He.DefD) (xc : List XcD) (file : Str) (ex : PySem.W.Frag → Bool) (K : PySem.W.Frag) : AlX := (obsK fa fn (fun K => (xc.all fun d => xcB K file d) && ex K) K, xc.map fun d => fnC K d.cls)
def valKX (fn : List He.DefD) (xc : List XcD) : AlX := (valK fn, xc.map XcD.val)
def obsGX (xs : List Str) (fa : List He.Fa) (fn : List He.DefD) (xc : List XcD) (file : Str) (ex : PySem.W.Frag → Bool) (g : Addr → Option Obj) : AlX := frK g (addrsX g xs) fun K => obsKX fa fn xc file ex K
structure SaysX (fa : List He.Fa) (fn : List He.DefD) (xc : List XcD) (file : Str) (ex : PySem.W.Frag → Bool) (K : PySem.W.Frag) : Prop where
  fa : ∀ f ∈ fa, f.ok K = true
  fn : ∀ d ∈ fn, ∃ fd, FunD K d.name d.qual d.params d.body d.scope (d.dvs K) (d.kws K) (He.fAd K d.at_) fd
  xc : ∀ d ∈ xc, ∃ cda cc, TE.ExK K (He.ga K d.cls) (He.ma K (He.ga K d.cls) "__init__") cda cc d.qual d.f d.txt file d.P
  ex : ex K = true
theorem saysX_of {fa : List He.Fa} {fn : List He.DefD} {xc : List XcD} {file : Str} {ex : PySem.W.Frag → Bool} {K : PySem.W.Frag} (e : obsKX fa fn xc file ex K = valKX fn xc) : SaysX fa fn xc file ex K := by
  have e1 : obsK fa fn (fun K => (xc.all fun d => xcB K file d) && ex K) K = valK fn := congrArg (fun z : AlX => z.1) e
  have S := says_of e1
  have m : xc.map (fun d => fnC K d.cls) = xc.map XcD.val := congrArg (fun z : AlX => z.2) e
  obtain ⟨c1, c2⟩ := He.ba S.ex
  exact ⟨S.fa, S.fn, fun d hd => xc_ok (List.map_inj_left.mp m d hd) (List.all_eq_true.mp c1 d hd), c2⟩
def hookX (xs : List Str) (fa : List He.Fa) (fn : List He.DefD) (xc : List XcD) (file : Str) (ex : PySem.W.Frag → Bool) : PySem.W.Hook where
  α := AlX
  obs := fun s => obsGX xs fa fn xc file ex s.heap.get?
  val := fun _ => valKX fn xc
  says := fun _ h => ∃ K : PySem.W.Frag, K.In h ∧ SaysX fa fn xc file ex K
  of := fun _ s e => by
    have e2 : frK s.heap.get? (addrsX s.heap.get? xs) (fun K => obsKX fa fn xc file ex K) = valKX fn xc := e
    rw [frK_eq] at e2
    exact ⟨_, He.frG_in, saysX_of e2⟩
  keeps := fun _ _ _ ⟨K, hK, c⟩ k => ⟨K, PySem.W.Frag.In.keeps hK k, c⟩
theorem obX_eq {xs : List Str} {fa : List He.Fa} {fn : List He.DefD} {xc : List XcD} {file : Str} {ex : PySem.W.Frag → Bool} (s : PySem.W.SharedT) : obsGX xs fa fn xc file ex (HandSHeadRun.getT s) = (hookX xs fa fn xc file ex).obs s.abs := by
  have e : HandSHeadRun.getT s = s.abs.heap.get? := funext (HandSHeadRun.getT_eq s)
  rw [e]
  rfl
end TH
set_option maxRecDepth 100000
set_option maxHeartbeats 2000000
namespace K63
open PySem PySem.Spec PyProof.Rows L2 TB
def top (i : Nat) : Stmt := PySem.Challenge.pw_tumbler_k63_distances_between_positions.main.body.getD i (.Pass ⟨0, 0, 0, 0⟩)
abbrev s_is_whole : Stmt := top 13
def d_is_whole : He.DefD := ⟨("is_whole", none), "is_whole", "is_whole", defArgs s_is_whole, defBody s_is_whole, defScope s_is_whole, [], []⟩
theorem sc_is_whole : FnScope ["value"] ["value"] (defScope s_is_whole) := ⟨rfl, rfl, rfl, by decide +kernel, rfl, by decide +kernel, by decide +kernel⟩
abbrev s_is_index : Stmt := top 14
def d_is_index : He.DefD := ⟨("is_index", none), "is_index", "is_index", defArgs s_is_index, defBody s_is_index, defScope s_is_index, [], []⟩
theorem sc_is_index : FnScope ["value", "limit"] ["value", "limit"] (defScope s_is_index) := ⟨rfl, rfl, rfl, by decide +kernel, rfl, by decide +kernel, by decide +kernel⟩
abbrev s_is_row : Stmt := top 15
def d_is_row : He.DefD := ⟨("is_row", none), "is_row", "is_row", defArgs s_is_row, defBody s_is_row, defScope s_is_row, [], []⟩
theorem sc_is_row : FnScope ["value", "length"] ["value", "length"] (defScope s_is_row) := ⟨rfl, rfl, rfl, by decide +kernel, rfl, by decide +kernel, by decide +kernel⟩
abbrev s_is_perm : Stmt := top 18
def d_is_perm : He.DefD := ⟨("is_perm", none), "is_perm", "is_perm", defArgs s_is_perm, defBody s_is_perm, defScope s_is_perm, [], []⟩
theorem sc_is_perm : FnScope ["value", "points", "taken", "image", "_"] ["value", "points"] (defScope s_is_perm) := ⟨rfl, rfl, rfl, by decide +kernel, rfl, by decide +kernel, by decide +kernel⟩
abbrev s_identity : Stmt := top 19
def d_identity : He.DefD := ⟨("identity", none), "identity", "identity", defArgs s_identity, defBody s_identity, defScope s_identity, [], []⟩
theorem sc_identity : FnScope ["points"] ["points"] (defScope s_identity) := ⟨rfl, rfl, rfl, by decide +kernel, rfl, by decide +kernel, by decide +kernel⟩
abbrev s_times : Stmt := top 21
def d_times : He.DefD := ⟨("times", none), "times", "times", defArgs s_times, defBody s_times, defScope s_times, [], []⟩
theorem sc_times : FnScope ["first", "second", "image"] ["first", "second"] (defScope s_times) := ⟨rfl, rfl, rfl, by decide +kernel, rfl, by decide +kernel, by decide +kernel⟩
abbrev s_inverse : Stmt := top 22
def d_inverse : He.DefD := ⟨("inverse", none), "inverse", "inverse", defArgs s_inverse, defBody s_inverse, defScope s_inverse, [], []⟩
theorem sc_inverse : FnScope ["perm", "back", "point", "image", "_"] ["perm"] (defScope s_inverse) := ⟨rfl, rfl, rfl, by decide +kernel, rfl, by decide +kernel, by decide +kernel⟩
abbrev s_is_name : Stmt := top 26
def d_is_name : He.DefD := ⟨("is_name", none), "is_name", "is_name", defArgs s_is_name, defBody s_is_name, defScope s_is_name, [], []⟩
theorem sc_is_name : FnScope ["value", "letter"] ["value"] (defScope s_is_name) := ⟨rfl, rfl, rfl, by decide +kernel, rfl, by decide +kernel, by decide +kernel⟩
abbrev s_steps_of : Stmt := top 43
def d_steps_of : He.DefD := ⟨("steps_of", none), "steps_of", "steps_of", defArgs s_steps_of, defBody s_steps_of, defScope s_steps_of, [], []⟩
theorem sc_steps_of : FnScope ["puzzle", "pairs", "name", "perm"] ["puzzle"] (defScope s_steps_of) := ⟨rfl, rfl, rfl, by decide +kernel, rfl, by decide +kernel, by decide +kernel⟩
abbrev s_step_perms : Stmt := top 44
def d_step_perms : He.DefD := ⟨("step_perms", none), "step_perms", "step_perms", defArgs s_step_perms, defBody s_step_perms, defScope s_step_perms, [], []⟩
theorem sc_step_perms : FnScope ["puzzle", "back", "perms", "_", "perm"] ["puzzle", "back"] (defScope s_step_perms) := ⟨rfl, rfl, rfl, by decide +kernel, rfl, by decide +kernel, by decide +kernel⟩
abbrev s_can_search : Stmt := top 45
def d_can_search : He.DefD := ⟨("can_search", none), "can_search", "can_search", defArgs s_can_search, defBody s_can_search, defScope s_can_search, [], []⟩
theorem sc_can_search : FnScope ["turns", "depth", "steps", "total", "_"] ["turns", "depth"] (defScope s_can_search) := ⟨rfl, rfl, rfl, by decide +kernel, rfl, by decide +kernel, by decide +kernel⟩
abbrev s_grown : Stmt := top 46
def d_grown : He.DefD := ⟨("grown", none), "grown", "grown", defArgs s_grown, defBody s_grown, defScope s_grown, [], []⟩
theorem sc_grown : FnScope ["shells", "perms", "last", "earlier", "found", "position", "perm", "after"] ["shells", "perms"] (defScope s_grown) := ⟨rfl, rfl, rfl, by decide +kernel, rfl, by decide +kernel, by decide +kernel⟩
abbrev s_check_most : Stmt := top 47
def d_check_most : He.DefD := ⟨("check_most", none), "check_most", "check_most", defArgs s_check_most, defBody s_check_most, defScope s_check_most, [], []⟩
theorem sc_check_most : FnScope ["most"] ["most"] (defScope s_check_most) := ⟨rfl, rfl, rfl, by decide +kernel, rfl, by decide +kernel, by decide +kernel⟩
abbrev s_check_search : Stmt := top 49
def d_check_search : He.DefD := ⟨("check_search", none), "check_search", "check_search", defArgs s_check_search, defBody s_check_search, defScope s_check_search, [], []⟩
theorem sc_check_search : FnScope ["puzzle", "start", "goal", "most", "value"] ["puzzle", "start", "goal", "most"] (defScope s_check_search) := ⟨rfl, rfl, rfl, by decide +kernel, rfl, by decide +kernel, by decide +kernel⟩
abbrev s_meeting : Stmt := top 50
def d_meeting : He.DefD := ⟨("meeting", none), "meeting", "meeting", defArgs s_meeting, defBody s_meeting, defScope s_meeting, [], []⟩
theorem sc_meeting : FnScope ["near", "far", "last", "position"] ["near", "far"] (defScope s_meeting) := ⟨rfl, rfl, rfl, by decide +kernel, rfl, by decide +kernel, by decide +kernel⟩
abbrev s_searched : Stmt := top 51
def d_searched : He.DefD := ⟨("searched", none), "searched", "searched", defArgs s_searched, defBody s_searched, defScope s_searched, [], []⟩
theorem sc_searched : FnScope ["puzzle", "start", "goal", "most", "ahead", "behind", "near", "far"] ["puzzle", "start", "goal", "most"] (defScope s_searched) := ⟨rfl, rfl, rfl, by decide +kernel, rfl, by decide +kernel, by decide +kernel⟩
abbrev s_distance : Stmt := top 52
def d_distance : He.DefD := ⟨("distance", none), "distance", "distance", defArgs s_distance, defBody s_distance, defScope s_distance, [], [("most", .int 6)]⟩
theorem sc_distance : FnScope ["puzzle", "start", "goal", "most", "near", "far"] ["puzzle", "start", "goal", "most"] (defScope s_distance) := ⟨rfl, rfl, rfl, by decide +kernel, rfl, by decide +kernel, by decide +kernel⟩
abbrev s__keeps_spot : Stmt := top 67
def d__keeps_spot : He.DefD := ⟨("_keeps_spot", none), "_keeps_spot", "_keeps_spot", defArgs s__keeps_spot, defBody s__keeps_spot, defScope s__keeps_spot, [], []⟩
theorem sc__keeps_spot : FnScope ["perm", "marks", "spot", "to", "twist", "mark"] ["perm", "marks", "spot"] (defScope s__keeps_spot) := ⟨rfl, rfl, rfl, by decide +kernel, rfl, by decide +kernel, by decide +kernel⟩
abbrev s_keeps_marks : Stmt := top 68
def d_keeps_marks : He.DefD := ⟨("keeps_marks", none), "keeps_marks", "keeps_marks", defArgs s_keeps_marks, defBody s_keeps_marks, defScope s_keeps_marks, [], []⟩
theorem sc_keeps_marks : FnScope ["perm", "marks", "spot"] ["perm", "marks"] (defScope s_keeps_marks) := ⟨rfl, rfl, rfl, by decide +kernel, rfl, by decide +kernel, by decide +kernel⟩
abbrev s__law_purse : Stmt := top 79
def d__law_purse : He.DefD := ⟨("_law_purse", none), "_law_purse", "_law_purse", defArgs s__law_purse, defBody s__law_purse, defScope s__law_purse, [], []⟩
theorem sc__law_purse : FnScope ["script", "cell"] ["script"] (defScope s__law_purse) := ⟨rfl, rfl, rfl, by decide +kernel, rfl, by decide +kernel, by decide +kernel⟩
abbrev s__law_draw : Stmt := top 80
def d__law_draw : He.DefD := ⟨("_law_draw", none), "_law_draw", "_law_draw", defArgs s__law_draw, defBody s__law_draw, defScope s__law_draw, [], []⟩
theorem sc__law_draw : FnScope ["purse", "size", "cell", "digit"] ["purse", "size"] (defScope s__law_draw) := ⟨rfl, rfl, rfl, by decide +kernel, rfl, by decide +kernel, by decide +kernel⟩
abbrev s__law_perm : Stmt := top 81
def d__law_perm : He.DefD := ⟨("_law_perm", none), "_law_perm", "_law_perm", defArgs s__law_perm, defBody s__law_perm, defScope s__law_perm, [], []⟩
theorem sc__law_perm : FnScope ["purse", "points", "left", "perm", "k", "at"] ["purse", "points"] (defScope s__law_perm) := ⟨rfl, rfl, rfl, by decide +kernel, rfl, by decide +kernel, by decide +kernel⟩
abbrev s__law_names : Stmt := top 82
def d__law_names : He.DefD := ⟨("_law_names", none), "_law_names", "_law_names", defArgs s__law_names, defBody s__law_names, defScope s__law_names, [], []⟩
theorem sc__law_names : FnScope ["purse", "count", "letters", "alike", "shift", "length", "spot", "begin", "base", "names", "k"] ["purse", "count"] (defScope s__law_names) := ⟨rfl, rfl, rfl, by decide +kernel, rfl, by decide +kernel, by decide +kernel⟩
abbrev s__law_after : Stmt := top 83
def d__law_after : He.DefD := ⟨("_law_after", none), "_law_after", "_law_after", defArgs s__law_after, defBody s__law_after, defScope s__law_after, [], []⟩
theorem sc__law_after : FnScope ["first", "second", "point"] ["first", "second"] (defScope s__law_after) := ⟨rfl, rfl, rfl, by decide +kernel, rfl, by decide +kernel, by decide +kernel⟩
abbrev s__law_back : Stmt := top 84
def d__law_back : He.DefD := ⟨("_law_back", none), "_law_back", "_law_back", defArgs s__law_back, defBody s__law_back, defScope s__law_back, [], []⟩
theorem sc__law_back : FnScope ["perm", "back", "point"] ["perm"] (defScope s__law_back) := ⟨rfl, rfl, rfl, by decide +kernel, rfl, by decide +kernel, by decide +kernel⟩
abbrev s__law_is_integer : Stmt := top 85
def d__law_is_integer : He.DefD := ⟨("_law_is_integer", none), "_law_is_integer", "_law_is_integer", defArgs s__law_is_integer, defBody s__law_is_integer, defScope s__law_is_integer, [], []⟩
theorem sc__law_is_integer : FnScope ["told"] ["told"] (defScope s__law_is_integer) := ⟨rfl, rfl, rfl, by decide +kernel, rfl, by decide +kernel, by decide +kernel⟩
abbrev s__law_same : Stmt := top 86
def d__law_same : He.DefD := ⟨("_law_same", none), "_law_same", "_law_same", defArgs s__law_same, defBody s__law_same, defScope s__law_same, [], []⟩
theorem sc__law_same : FnScope ["told", "due"] ["told", "due"] (defScope s__law_same) := ⟨rfl, rfl, rfl, by decide +kernel, rfl, by decide +kernel, by decide +kernel⟩
abbrev s__law_position : Stmt := top 87
def d__law_position : He.DefD := ⟨("_law_position", none), "_law_position", "_law_position", defArgs s__law_position, defBody s__law_position, defScope s__law_position, [], []⟩
theorem sc__law_position : FnScope ["purse", "points", "group", "spots", "to", "perm", "spot", "twist", "k"] ["purse", "points", "group"] (defScope s__law_position) := ⟨rfl, rfl, rfl, by decide +kernel, rfl, by decide +kernel, by decide +kernel⟩
abbrev s__law_world : Stmt := top 88
def d__law_world : He.DefD := ⟨("_law_world", none), "_law_world", "_law_world", defArgs s__law_world, defBody s__law_world, defScope s__law_world, [], []⟩
theorem sc__law_world : FnScope ["purse", "choice", "group", "points", "count", "pair", "k"] ["purse"] (defScope s__law_world) := ⟨rfl, rfl, rfl, by decide +kernel, rfl, by decide +kernel, by decide +kernel⟩
abbrev s__law_ball : Stmt := top 89
def d__law_ball : He.DefD := ⟨("_law_ball", none), "_law_ball", "_law_ball", defArgs s__law_ball, defBody s__law_ball, defScope s__law_ball, [], []⟩
theorem sc__law_ball : FnScope ["perms", "points", "steps", "line", "ball", "radius", "further", "spot", "step", "made", "perm"] ["perms", "points"] (defScope s__law_ball) := ⟨rfl, rfl, rfl, by decide +kernel, rfl, by decide +kernel, by decide +kernel⟩
abbrev s__law_between : Stmt := top 90
def d__law_between : He.DefD := ⟨("_law_between", none), "_law_between", "_law_between", defArgs s__law_between, defBody s__law_between, defScope s__law_between, [], []⟩
theorem sc__law_between : FnScope ["ball", "first", "second"] ["ball", "first", "second"] (defScope s__law_between) := ⟨rfl, rfl, rfl, by decide +kernel, rfl, by decide +kernel, by decide +kernel⟩
abbrev s__law_edge : Stmt := top 91
def d__law_edge : He.DefD := ⟨("_law_edge", none), "_law_edge", "_law_edge", defArgs s__law_edge, defBody s__law_edge, defScope s__law_edge, [], []⟩
theorem sc__law_edge : FnScope ["steps", "power", "half"] ["steps"] (defScope s__law_edge) := ⟨rfl, rfl, rfl, by decide +kernel, rfl, by decide +kernel, by decide +kernel⟩
abbrev s__law_right : Stmt := top 92
def d__law_right : He.DefD := ⟨("_law_right", none), "_law_right", "_law_right", defArgs s__law_right, defBody s__law_right, defScope s__law_right, [], []⟩
theorem sc__law_right : FnScope ["told", "near", "reach", "limit"] ["told", "near", "reach", "limit"] (defScope s__law_right) := ⟨rfl, rfl, rfl, by decide +kernel, rfl, by decide +kernel, by decide +kernel⟩
abbrev s__law_alike : Stmt := top 93
def d__law_alike : He.DefD := ⟨("_law_alike", none), "_law_alike", "_law_alike", defArgs s__law_alike, defBody s__law_alike, defScope s__law_alike, [], []⟩
theorem sc__law_alike : FnScope ["told", "due"] ["told", "due"] (defScope s__law_alike) := ⟨rfl, rfl, rfl, by decide +kernel, rfl, by decide +kernel, by decide +kernel⟩
abbrev s__law_triangle : Stmt := top 94
def d__law_triangle : He.DefD := ⟨("_law_triangle", none), "_law_triangle", "_law_triangle", defArgs s__law_triangle, defBody s__law_triangle, defScope s__law_triangle, [], []⟩
theorem sc__law_triangle : FnScope ["sides", "limit", "k", "left", "right", "whole"] ["sides", "limit"] (defScope s__law_triangle) := ⟨rfl, rfl, rfl, by decide +kernel, rfl, by decide +kernel, by decide +kernel⟩
abbrev s__law_walk : Stmt := top 95
def d__law_walk : He.DefD := ⟨("_law_walk", none), "_law_walk", "_law_walk", defArgs s__law_walk, defBody s__law_walk, defScope s__law_walk, [], []⟩
theorem sc__law_walk : FnScope ["purse", "names", "perms", "spot", "count", "word", "k", "pick", "perm"] ["purse", "names", "perms", "spot", "count"] (defScope s__law_walk) := ⟨rfl, rfl, rfl, by decide +kernel, rfl, by decide +kernel, by decide +kernel⟩
abbrev s__law_refuses : Stmt := top 96
def d__law_refuses : He.DefD := ⟨("_law_refuses", none), "_law_refuses", "_law_refuses", defArgs s__law_refuses, defBody s__law_refuses, defScope s__law_refuses, [], []⟩
theorem sc__law_refuses : FnScope ["puzzle", "first", "second", "limit", "raised", "refused"] ["puzzle", "first", "second", "limit"] (defScope s__law_refuses) := ⟨rfl, rfl, rfl, by decide +kernel, rfl, by decide +kernel, by decide +kernel⟩
abbrev s__law_renamed : Stmt := top 97
def d__law_renamed : He.DefD := ⟨("_law_renamed", none), "_law_renamed", "_law_renamed", defArgs s__law_renamed, defBody s__law_renamed, defScope s__law_renamed, [], []⟩
theorem sc__law_renamed : FnScope ["perms", "points", "names", "to", "turns", "perm"] ["perms", "points", "names", "to"] (defScope s__law_renamed) := ⟨rfl, rfl, rfl, by decide +kernel, rfl, by decide +kernel, by decide +kernel⟩
abbrev s__law_same_elsewhere : Stmt := top 98
def d__law_same_elsewhere : He.DefD := ⟨("_law_same_elsewhere", none), "_law_same_elsewhere", "_law_same_elsewhere", defArgs s__law_same_elsewhere, defBody s__law_same_elsewhere, defScope s__law_same_elsewhere, [], []⟩
theorem sc__law_same_elsewhere : FnScope ["puzzle", "renamed", "spots", "limit", "shift", "to", "first", "second", "back", "told", "ends"] ["puzzle", "renamed", "spots", "limit", "shift", "to"] (defScope s__law_same_elsewhere) := ⟨rfl, rfl, rfl, by decide +kernel, rfl, by decide +kernel, by decide +kernel⟩
abbrev s__law_limits : Stmt := top 99
def d__law_limits : He.DefD := ⟨("_law_limits", none), "_law_limits", "_law_limits", defArgs s__law_limits, defBody s__law_limits, defScope s__law_limits, [], []⟩
theorem sc__law_limits : FnScope ["purse", "puzzle", "spots", "found", "edge", "near", "far", "pick"] ["purse", "puzzle", "spots", "found", "edge"] (defScope s__law_limits) := ⟨rfl, rfl, rfl, by decide +kernel, rfl, by decide +kernel, by decide +kernel⟩
abbrev s_law : Stmt := top 100
def d_law : He.DefD := ⟨("law", none), "law", "law", defArgs s_law, defBody s_law, defScope s_law, [], []⟩
theorem sc_law : FnScope ["script", "purse", "world", "points", "perms", "names", "turns", "puzzle", "to", "renamed", "found", "edge", "limit", "first", "walk", "told", "strange", "third", "spots", "sides", "pair", "near", "shift", "k"] ["script"] (defScope s_law) := ⟨rfl, rfl, rfl, by decide +kernel, rfl, by decide +kernel, by decide +kernel⟩
abbrev s_Puzzle___init__ : Stmt := inClass (top 77) 0
def d_Puzzle___init__ : He.DefD := ⟨("Puzzle", some "__init__"), "__init__", "Puzzle.__init__", defArgs s_Puzzle___init__, defBody s_Puzzle___init__, defScope s_Puzzle___init__, [], [("marks", .int 1)]⟩
theorem sc_Puzzle___init__ : FnScope ["self", "points", "turns", "marks", "names", "perms", "name", "perm"] ["self", "points", "turns", "marks"] (defScope s_Puzzle___init__) := ⟨rfl, rfl, rfl, by decide +kernel, rfl, by decide +kernel, by decide +kernel⟩
abbrev s_Puzzle___len__ : Stmt := inClass (top 77) 2
def d_Puzzle___len__ : He.DefD := ⟨("Puzzle", some "__len__"), "__len__", "Puzzle.__len__", defArgs s_Puzzle___len__, defBody s_Puzzle___len__, defScope s_Puzzle___len__, [], []⟩
theorem sc_Puzzle___len__ : FnScope ["self"] ["self"] (defScope s_Puzzle___len__) := ⟨rfl, rfl, rfl, by decide +kernel, rfl, by decide +kernel, by decide +kernel⟩
abbrev s_Puzzle_is_position : Stmt := inClass (top 77) 9
def d_Puzzle_is_position : He.DefD := ⟨("Puzzle", some "is_position"), "is_position", "Puzzle.is_position", defArgs s_Puzzle_is_position, defBody s_Puzzle_is_position, defScope s_Puzzle_is_position, [], []⟩
theorem sc_Puzzle_is_position : FnScope ["self", "value"] ["self", "value"] (defScope s_Puzzle_is_position) := ⟨rfl, rfl, rfl, by decide +kernel, rfl, by decide +kernel, by decide +kernel⟩
abbrev s_Puzzle_play : Stmt := inClass (top 77) 10
def d_Puzzle_play : He.DefD := ⟨("Puzzle", some "play"), "play", "Puzzle.play", defArgs s_Puzzle_play, defBody s_Puzzle_play, defScope s_Puzzle_play, [.non], []⟩
theorem sc_Puzzle_play : FnScope ["self", "word", "start", "by_step", "name", "perm", "position", "step"] ["self", "word", "start"] (defScope s_Puzzle_play) := ⟨rfl, rfl, rfl, by decide +kernel, rfl, by decide +kernel, by decide +kernel⟩
def fn : List He.DefD := [d_is_whole, d_is_index, d_is_row, d_is_perm, d_identity, d_times, d_inverse, d_is_name, d_steps_of, d_step_perms, d_can_search, d_grown, d_check_most, d_check_search, d_meeting, d_searched, d_distance, d__keeps_spot, d_keeps_marks, d__law_purse, d__law_draw, d__law_perm, d__law_names, d__law_after, d__law_back, d__law_is_integer, d__law_same, d__law_position, d__law_world, d__law_ball, d__law_between, d__law_edge, d__law_right, d__law_alike, d__law_triangle, d__law_walk, d__law_refuses, d__law_renamed, d__law_same_elsewhere, d__law_limits, d_law, d_Puzzle___init__, d_Puzzle___len__, d_Puzzle_is_position, d_Puzzle_play]
def fa0 : List He.Fa := [.glo "is_whole", .glo "is_index", .glo "is_row", .glo "is_perm", .glo "identity", .glo "times", .glo "inverse", .glo "is_name", .glo "steps_of", .glo "step_perms", .glo "can_search", .glo "grown"]
def fa1 : List He.Fa := [.glo "check_most", .glo "check_search", .glo "meeting", .glo "searched", .glo "distance", .glo "_keeps_spot", .glo "keeps_marks", .glo "_law_purse", .glo "_law_draw", .glo "_law_perm", .glo "_law_names", .glo "_law_after"]
def fa2 : List He.Fa := [.glo "_law_back", .glo "_law_is_integer", .glo "_law_same", .glo "_law_position", .glo "_law_world", .glo "_law_ball", .glo "_law_between", .glo "_law_edge", .glo "_law_right", .glo "_law_alike", .glo "_law_triangle", .glo "_law_walk"]
def fa3 : List He.Fa := [.glo "_law_refuses", .glo "_law_renamed", .glo "_law_same_elsewhere", .glo "_law_limits", .glo "law", .glo "Puzzle", .glo "TumblerError", .glo "TooMany", .glo "InvalidLimit", .cls "Puzzle", .mkr "Puzzle", .meth "Puzzle" "__init__"]
def fa4 : List He.Fa := [.meth "Puzzle" "__len__", .meth "Puzzle" "is_position", .meth "Puzzle" "play", .noat "Puzzle" "points", .noat "Puzzle" "marks", .noat "Puzzle" "spots", .noat "Puzzle" "names", .noat "Puzzle" "perms", .noat "Puzzle" "_links", .free "len", .free "range", .free "tuple"]
def fa5 : List He.Fa := [.free "list", .free "int", .free "isinstance", .free "bool", .free "zip", .free "enumerate", .free "all", .free "min", .free "str", .free "divmod", .free "ValueError", .int "MOST_POINTS" 24]
def fa6 : List He.Fa := [.int "MOST_TURNS" 8, .int "MOST_LETTERS" 8, .int "MOST_BALL" 4096, .int "MOST_STEPS" 24, .free "super"]
def fa : List He.Fa := fa0 ++ fa1 ++ fa2 ++ fa3 ++ fa4 ++ fa5 ++ fa6
def x_TooMany : TH.XcD := ⟨"TooMany", "TooMany.__init__", "bound", "there are more things than the limit allows", ⟨0, ⟨44, 17, 44, 21⟩, ⟨44, 23, 44, 28⟩, ⟨45, 8, 45, 13⟩, ⟨45, 8, 45, 15⟩, ⟨45, 8, 45, 24⟩, ⟨45, 25, 45, 70⟩, ⟨45, 8, 45, 71⟩, ⟨45, 8, 45, 71⟩, ⟨46, 8, 46, 12⟩, ⟨46, 8, 46, 18⟩, ⟨46, 21, 46, 26⟩, ⟨46, 8, 46, 26⟩⟩⟩
def x_InvalidLimit : TH.XcD := ⟨"InvalidLimit", "InvalidLimit.__init__", "value", "the limit is out of range", ⟨0, ⟨29, 17, 29, 21⟩, ⟨29, 23, 29, 28⟩, ⟨30, 8, 30, 13⟩, ⟨30, 8, 30, 15⟩, ⟨30, 8, 30, 24⟩, ⟨30, 25, 30, 52⟩, ⟨30, 8, 30, 53⟩, ⟨30, 8, 30, 53⟩, ⟨31, 8, 31, 12⟩, ⟨31, 8, 31, 18⟩, ⟨31, 21, 31, 26⟩, ⟨31, 8, 31, 26⟩⟩⟩
def xc : List TH.XcD := [x_TooMany, x_InvalidLimit]
def xfile : Str := "/claim/cut.py"
abbrev aT (K : PySem.W.Frag) : Addr := He.ga K "TooMany"
abbrev aL (K : PySem.W.Frag) : Addr := He.ga K "InvalidLimit"
abbrev aE (K : PySem.W.Frag) : Addr := He.ga K "TumblerError"
def xcl (K : PySem.W.Frag) (C : Addr) : Bool := PySem.W.keepIn K (.ref C) && (decide (PySem.W.subIn K (.ref C) (.type "BaseException") = some true) && (decide (PySem.W.typeIn K (.ref C) = some (.type "type")) && (PySem.W.hasDictIn K C && (He.eqO (PySem.W.findIn K (.ref C) "__getattribute__") (some (some (.builtin "BaseException.__getattribute__"))) && (He.eqO (PySem.W.findIn K (.ref C) "__getattr__") (some none) && (He.eqO (PySem.W.findIn K (.ref C) "__class__") (some (some (.builtin "object.__class__"))) && (He.eqO (PySem.W.specialIn K (.builtin "object.__class__") "__get__") (some (some (.builtin "getset_descriptor.__get__"))) && (decide (PySem.W.takesIn K (.builtin "object.__class__") = some true) && (decide (PySem.W.mroIn K C (.type "object") = some true) && (decide (PySem.W.kitOne K (.ref C) (.ref (aE K)) = some true) && decide (PySem.W.kitOne K (.ref C) (.type "ValueError") = some true)))))))))))
def exB (K : PySem.W.Frag) : Bool := xcl K (aT K) && (xcl K (aL K) && (decide (PySem.W.exmOne K (.ref (aT K)) (.ref (aT K)) = some true) && (decide (PySem.W.exmOne K (.ref (aL K)) (.ref (aT K)) = some false) && decide (PySem.W.exmOne K (.ref (aL K)) (.ref (aL K)) = some true))))
structure Xcl (K : PySem.W.Frag) (C : Addr) : Prop where
  keep : PySem.W.keepIn K (.ref C) = true
  sub : PySem.W.subIn K (.ref C) (.type "BaseException") = some true
  ty : PySem.W.typeIn K (.ref C) = some (.type "type")
  exc : ExcC K C
  xf : XfC K C
  kE : PySem.W.kitOne K (.ref C) (.ref (aE K)) = some true
  kV : PySem.W.kitOne K (.ref C) (.type "ValueError") = some true
theorem xcl_ok {K : PySem.W.Frag} {C : Addr} (h : xcl K C = true) : Xcl K C := by
  obtain ⟨h1, h⟩ := He.ba h
  obtain ⟨h2, h⟩ := He.ba h
  obtain ⟨h3, h⟩ := He.ba h
  obtain ⟨h4, h⟩ := He.ba h
  obtain ⟨h5, h⟩ := He.ba h
  obtain ⟨h6, h⟩ := He.ba h
  obtain ⟨h7, h⟩ := He.ba h
  obtain ⟨h8, h⟩ := He.ba h
  obtain ⟨h9, h⟩ := He.ba h
  obtain ⟨h10, h⟩ := He.ba h
  obtain ⟨h11, h12⟩ := He.ba h
  exact ⟨h1, of_decide_eq_true h2, of_decide_eq_true h3, ⟨He.eqO_ok h5, He.eqO_ok h6, of_decide_eq_true h2, h4, He.eqO_ok h7, He.eqO_ok h8, of_decide_eq_true h9, of_decide_eq_true h10⟩, ⟨He.eqO_ok h5, He.eqO_ok h6, of_decide_eq_true h2, h4⟩, of_decide_eq_true h11, of_decide_eq_true h12⟩
/-- what the head has left -/
structure Ctx (K : PySem.W.Frag) (mg : Str → Option Value) : Prop where
  ex : ∃ h : Heap, K.In h ∧ h.Ns mainGlobals mg ∧ TH.SaysX fa fn xc xfile exB K
section
variable {K : PySem.W.Frag} {mg : Str → Option Value}
theorem Ctx.g_is_whole (c : Ctx K mg) : mg "is_whole" = some (.ref (He.ga K "is_whole")) := by obtain ⟨h, X, G, S⟩ := c.ex; exact He.glo_ok X G (S.fa _ (List.mem_of_getElem? (i := 0) rfl))
theorem Ctx.g_is_index (c : Ctx K mg) : mg "is_index" = some (.ref (He.ga K "is_index")) := by obtain ⟨h, X, G, S⟩ := c.ex; exact He.glo_ok X G (S.fa _ (List.mem_of_getElem? (i := 1) rfl))
theorem Ctx.g_is_row (c : Ctx K mg) : mg "is_row" = some (.ref (He.ga K "is_row")) := by obtain ⟨h, X, G, S⟩ := c.ex; exact He.glo_ok X G (S.fa _ (List.mem_of_getElem? (i := 2) rfl))
theorem Ctx.g_is_perm (c : Ctx K mg) : mg "is_perm" = some (.ref (He.ga K "is_perm")) := by obtain ⟨h, X, G, S⟩ := c.ex; exact He.glo_ok X G (S.fa _ (List.mem_of_getElem? (i := 3) rfl))
theorem Ctx.g_identity (c : Ctx K mg) : mg "identity" = some (.ref (He.ga K "identity")) := by obtain ⟨h, X, G, S⟩ := c.ex; exact He.glo_ok X G (S.fa _ (List.mem_of_getElem? (i := 4) rfl))
theorem Ctx.g_times (c : Ctx K mg) : mg "times" = some (.ref (He.ga K "times")) := by obtain ⟨h, X, G, S⟩ := c.ex; exact He.glo_ok X G (S.fa _ (List.mem_of_getElem? (i := 5) rfl))
theorem Ctx.g_inverse (c : Ctx K mg) : mg "inverse" = some (.ref (He.ga K "inverse")) := by obtain ⟨h, X, G, S⟩ := c.ex; exact He.glo_ok X G (S.fa _ (List.mem_of_getElem? (i := 6) rfl))
theorem Ctx.g_is_name (c : Ctx K mg) : mg "is_name" = some (.ref (He.ga K "is_name")) := by obtain ⟨h, X, G, S⟩ := c.ex; exact He.glo_ok X G (S.fa _ (List.mem_of_getElem? (i := 7) rfl))
theorem Ctx.g_steps_of (c : Ctx K mg) : mg "steps_of" = some (.ref (He.ga K "steps_of")) := by obtain ⟨h, X, G, S⟩ := c.ex; exact He.glo_ok X G (S.fa _ (List.mem_of_getElem? (i := 8) rfl))
theorem Ctx.g_step_perms (c : Ctx K mg) : mg "step_perms" = some (.ref (He.ga K "step_perms")) := by obtain ⟨h, X, G, S⟩ := c.ex; exact He.glo_ok X G (S.fa _ (List.mem_of_getElem? (i := 9) rfl))
theorem Ctx.g_can_search (c : Ctx K mg) : mg "can_search" = some (.ref (He.ga K "can_search")) := by obtain ⟨h, X, G, S⟩ := c.ex; exact He.glo_ok X G (S.fa _ (List.mem_of_getElem? (i := 10) rfl))
theorem Ctx.g_grown (c : Ctx K mg) : mg "grown" = some (.ref (He.ga K "grown")) := by obtain ⟨h, X, G, S⟩ := c.ex; exact He.glo_ok X G (S.fa _ (List.mem_of_getElem? (i := 11) rfl))
theorem Ctx.g_check_most (c : Ctx K mg) : mg "check_most" = some (.ref (He.ga K "check_most")) := by obtain ⟨h, X, G, S⟩ := c.ex; exact He.glo_ok X G (S.fa _ (List.mem_of_getElem? (i := 12) rfl))
theorem Ctx.g_check_search (c : Ctx K mg) : mg "check_search" = some (.ref (He.ga K "check_search")) := by obtain ⟨h, X, G, S⟩ := c.ex; exact He.glo_ok X G (S.fa _ (List.mem_of_getElem? (i := 13) rfl))
theorem Ctx.g_meeting (c : Ctx K mg) : mg "meeting" = some (.ref (He.ga K "meeting")) := by obtain ⟨h, X, G, S⟩ := c.ex; exact He.glo_ok X G (S.fa _ (List.mem_of_getElem? (i := 14) rfl))
theorem Ctx.g_searched (c : Ctx K mg) : mg "searched" = some (.ref (He.ga K "searched")) := by obtain ⟨h, X, G, S⟩ := c.ex; exact He.glo_ok X G (S.fa _ (List.mem_of_getElem? (i := 15) rfl))
theorem Ctx.g_distance (c : Ctx K mg) : mg "distance" = some (.ref (He.ga K "distance")) := by obtain ⟨h, X, G, S⟩ := c.ex; exact He.glo_ok X G (S.fa _ (List.mem_of_getElem? (i := 16) rfl))
theorem Ctx.g__keeps_spot (c : Ctx K mg) : mg "_keeps_spot" = some (.ref (He.ga K "_keeps_spot")) := by obtain ⟨h, X, G, S⟩ := c.ex; exact He.glo_ok X G (S.fa _ (List.mem_of_getElem? (i := 17) rfl))
theorem Ctx.g_keeps_marks (c : Ctx K mg) : mg "keeps_marks" = some (.ref (He.ga K "keeps_marks")) := by obtain ⟨h, X, G, S⟩ := c.ex; exact He.glo_ok X G (S.fa _ (List.mem_of_getElem? (i := 18) rfl))
theorem Ctx.g__law_purse (c : Ctx K mg) : mg "_law_purse" = some (.ref (He.ga K "_law_purse")) := by obtain ⟨h, X, G, S⟩ := c.ex; exact He.glo_ok X G (S.fa _ (List.mem_of_getElem? (i := 19) rfl))
theorem Ctx.g__law_draw (c : Ctx K mg) : mg "_law_draw" = some (.ref (He.ga K "_law_draw")) := by obtain ⟨h, X, G, S⟩ := c.ex; exact He.glo_ok X G (S.fa _ (List.mem_of_getElem? (i := 20) rfl))
theorem Ctx.g__law_perm (c : Ctx K mg) : mg "_law_perm" = some (.ref (He.ga K "_law_perm")) := by obtain ⟨h, X, G, S⟩ := c.ex; exact He.glo_ok X G (S.fa _ (List.mem_of_getElem? (i := 21) rfl))
theorem Ctx.g__law_names (c : Ctx K mg) : mg "_law_names" = some (.ref (He.ga K "_law_names")) := by obtain ⟨h, X, G, S⟩ := c.ex; exact He.glo_ok X G (S.fa _ (List.mem_of_getElem? (i := 22) rfl))
theorem Ctx.g__law_after (c : Ctx K mg) : mg "_law_after" = some (.ref (He.ga K "_law_after")) := by obtain ⟨h, X, G, S⟩ := c.ex; exact He.glo_ok X G (S.fa _ (List.mem_of_getElem? (i := 23) rfl))
theorem Ctx.g__law_back (c : Ctx K mg) : mg "_law_back" = some (.ref (He.ga K "_law_back")) := by obtain ⟨h, X, G, S⟩ := c.ex; exact He.glo_ok X G (S.fa _ (List.mem_of_getElem? (i := 24) rfl))
theorem Ctx.g__law_is_integer (c : Ctx K mg) : mg "_law_is_integer" = some (.ref (He.ga K "_law_is_integer")) := by obtain ⟨h, X, G, S⟩ := c.ex; exact He.glo_ok X G (S.fa _ (List.mem_of_getElem? (i := 25) rfl))
theorem Ctx.g__law_same (c : Ctx K mg) : mg "_law_same" = some (.ref (He.ga K "_law_same")) := by obtain ⟨h, X, G, S⟩ := c.ex; exact He.glo_ok X G (S.fa _ (List.mem_of_getElem? (i := 26) rfl))
theorem Ctx.g__law_position (c : Ctx K mg) : mg "_law_position" = some (.ref (He.ga K "_law_position")) := by obtain ⟨h, X, G, S⟩ := c.ex; exact He.glo_ok X G (S.fa _ (List.mem_of_getElem? (i := 27) rfl))
theorem Ctx.g__law_world (c : Ctx K mg) : mg "_law_world" = some (.ref (He.ga K "_law_world")) := by obtain ⟨h, X, G, S⟩ := c.ex; exact He.glo_ok X G (S.fa _ (List.mem_of_getElem? (i := 28) rfl))
theorem Ctx.g__law_ball (c : Ctx K mg) : mg "_law_ball" = some (.ref (He.ga K "_law_ball")) := by obtain ⟨h, X, G, S⟩ := c.ex; exact He.glo_ok X G (S.fa _ (List.mem_of_getElem? (i := 29) rfl))
theorem Ctx.g__law_between (c : Ctx K mg) : mg "_law_between" = some (.ref (He.ga K "_law_between")) := by obtain ⟨h, X, G, S⟩ := c.ex; exact He.glo_ok X G (S.fa _ (List.mem_of_getElem? (i := 30) rfl))
theorem Ctx.g__law_edge (c : Ctx K mg) : mg "_law_edge" = some (.ref (He.ga K "_law_edge")) := by obtain ⟨h, X, G, S⟩ := c.ex; exact He.glo_ok X G (S.fa _ (List.mem_of_getElem? (i := 31) rfl))
theorem Ctx.g__law_right (c : Ctx K mg) : mg "_law_right" = some (.ref (He.ga K "_law_right")) := by obtain ⟨h, X, G, S⟩ := c.ex; exact He.glo_ok X G (S.fa _ (List.mem_of_getElem? (i := 32) rfl))
theorem Ctx.g__law_alike (c : Ctx K mg) : mg "_law_alike" = some (.ref (He.ga K "_law_alike")) := by obtain ⟨h, X, G, S⟩ := c.ex; exact He.glo_ok X G (S.fa _ (List.mem_of_getElem? (i := 33) rfl))
theorem Ctx.g__law_triangle (c : Ctx K mg) : mg "_law_triangle" = some (.ref (He.ga K "_law_triangle")) := by obtain ⟨h, X, G, S⟩ := c.ex; exact He.glo_ok X G (S.fa _ (List.mem_of_getElem? (i := 34) rfl))
theorem Ctx.g__law_walk (c : Ctx K mg) : mg "_law_walk" = some (.ref (He.ga K "_law_walk")) := by obtain ⟨h, X, G, S⟩ := c.ex; exact He.glo_ok X G (S.fa _ (List.mem_of_getElem? (i := 35) rfl))
theorem Ctx.g__law_refuses (c : Ctx K mg) : mg "_law_refuses" = some (.ref (He.ga K "_law_refuses")) := by obtain ⟨h, X, G, S⟩ := c.ex; exact He.glo_ok X G (S.fa _ (List.mem_of_getElem? (i := 36) rfl))
theorem Ctx.g__law_renamed (c : Ctx K mg) : mg "_law_renamed" = some (.ref (He.ga K "_law_renamed")) := by obtain ⟨h, X, G, S⟩ := c.ex; exact He.glo_ok X G (S.fa _ (List.mem_of_getElem? (i := 37) rfl))
theorem Ctx.g__law_same_elsewhere (c : Ctx K mg) : mg "_law_same_elsewhere" = some (.ref (He.ga K "_law_same_elsewhere")) := by obtain ⟨h, X, G, S⟩ := c.ex; exact He.glo_ok X G (S.fa _ (List.mem_of_getElem? (i := 38) rfl))
theorem Ctx.g__law_limits (c : Ctx K mg) : mg "_law_limits" = some (.ref (He.ga K "_law_limits")) := by obtain ⟨h, X, G, S⟩ := c.ex; exact He.glo_ok X G (S.fa _ (List.mem_of_getElem? (i := 39) rfl))
theorem Ctx.g_law (c : Ctx K mg) : mg "law" = some (.ref (He.ga K "law")) := by obtain ⟨h, X, G, S⟩ := c.ex; exact He.glo_ok X G (S.fa _ (List.mem_of_getElem? (i := 40) rfl))
theorem Ctx.g_Puzzle (c : Ctx K mg) : mg "Puzzle" = some (.ref (He.ga K "Puzzle")) := by obtain ⟨h, X, G, S⟩ := c.ex; exact He.glo_ok X G (S.fa _ (List.mem_of_getElem? (i := 41) rfl))
theorem Ctx.g_TumblerError (c : Ctx K mg) : mg "TumblerError" = some (.ref (He.ga K "TumblerError")) := by obtain ⟨h, X, G, S⟩ := c.ex; exact He.glo_ok X G (S.fa _ (List.mem_of_getElem? (i := 42) rfl))
theorem Ctx.g_TooMany (c : Ctx K mg) : mg "TooMany" = some (.ref (He.ga K "TooMany")) := by obtain ⟨h, X, G, S⟩ := c.ex; exact He.glo_ok X G (S.fa _ (List.mem_of_getElem? (i := 43) rfl))
theorem Ctx.g_InvalidLimit (c : Ctx K mg) : mg "InvalidLimit" = some (.ref (He.ga K "InvalidLimit")) := by obtain ⟨h, X, G, S⟩ := c.ex; exact He.glo_ok X G (S.fa _ (List.mem_of_getElem? (i := 44) rfl))
theorem Ctx.cls (c : Ctx K mg) : Cls K (He.ga K "Puzzle") := by obtain ⟨h, X, G, S⟩ := c.ex; exact He.cls_ok (S.fa _ (List.mem_of_getElem? (i := 45) rfl))
theorem Ctx.mkr (c : Ctx K mg) : Mk K (He.ga K "Puzzle") (He.ma K (He.ga K "Puzzle") "__init__") := by obtain ⟨h, X, G, S⟩ := c.ex; exact He.mkr_ok (S.fa _ (List.mem_of_getElem? (i := 46) rfl))
theorem Ctx.m_Puzzle___init__ (c : Ctx K mg) : Meth K (He.ga K "Puzzle") "__init__" (He.ma K (He.ga K "Puzzle") "__init__") := by obtain ⟨h, X, G, S⟩ := c.ex; exact He.meth_ok (S.fa _ (List.mem_of_getElem? (i := 47) rfl))
theorem Ctx.m_Puzzle___len__ (c : Ctx K mg) : Meth K (He.ga K "Puzzle") "__len__" (He.ma K (He.ga K "Puzzle") "__len__") := by obtain ⟨h, X, G, S⟩ := c.ex; exact He.meth_ok (S.fa _ (List.mem_of_getElem? (i := 48) rfl))
theorem Ctx.m_Puzzle_is_position (c : Ctx K mg) : Meth K (He.ga K "Puzzle") "is_position" (He.ma K (He.ga K "Puzzle") "is_position") := by obtain ⟨h, X, G, S⟩ := c.ex; exact He.meth_ok (S.fa _ (List.mem_of_getElem? (i := 49) rfl))
theorem Ctx.m_Puzzle_play (c : Ctx K mg) : Meth K (He.ga K "Puzzle") "play" (He.ma K (He.ga K "Puzzle") "play") := by obtain ⟨h, X, G, S⟩ := c.ex; exact He.meth_ok (S.fa _ (List.mem_of_getElem? (i := 50) rfl))
theorem Ctx.n_points (c : Ctx K mg) : NoAttr K (He.ga K "Puzzle") "points" := by obtain ⟨h, X, G, S⟩ := c.ex; exact He.noat_ok (S.fa _ (List.mem_of_getElem? (i := 51) rfl))
theorem Ctx.n_marks (c : Ctx K mg) : NoAttr K (He.ga K "Puzzle") "marks" := by obtain ⟨h, X, G, S⟩ := c.ex; exact He.noat_ok (S.fa _ (List.mem_of_getElem? (i := 52) rfl))
theorem Ctx.n_spots (c : Ctx K mg) : NoAttr K (He.ga K "Puzzle") "spots" := by obtain ⟨h, X, G, S⟩ := c.ex; exact He.noat_ok (S.fa _ (List.mem_of_getElem? (i := 53) rfl))
theorem Ctx.n_names (c : Ctx K mg) : NoAttr K (He.ga K "Puzzle") "names" := by obtain ⟨h, X, G, S⟩ := c.ex; exact He.noat_ok (S.fa _ (List.mem_of_getElem? (i := 54) rfl))
theorem Ctx.n_perms (c : Ctx K mg) : NoAttr K (He.ga K "Puzzle") "perms" := by obtain ⟨h, X, G, S⟩ := c.ex; exact He.noat_ok (S.fa _ (List.mem_of_getElem? (i := 55) rfl))
theorem Ctx.n__links (c : Ctx K mg) : NoAttr K (He.ga K "Puzzle") "_links" := by obtain ⟨h, X, G, S⟩ := c.ex; exact He.noat_ok (S.fa _ (List.mem_of_getElem? (i := 56) rfl))
theorem Ctx.f_len (c : Ctx K mg) : mg "len" = none := by obtain ⟨h, X, G, S⟩ := c.ex; exact He.free_ok X G (S.fa _ (List.mem_of_getElem? (i := 57) rfl))
theorem Ctx.f_range (c : Ctx K mg) : mg "range" = none := by obtain ⟨h, X, G, S⟩ := c.ex; exact He.free_ok X G (S.fa _ (List.mem_of_getElem? (i := 58) rfl))
theorem Ctx.f_tuple (c : Ctx K mg) : mg "tuple" = none := by obtain ⟨h, X, G, S⟩ := c.ex; exact He.free_ok X G (S.fa _ (List.mem_of_getElem? (i := 59) rfl))
theorem Ctx.f_list (c : Ctx K mg) : mg "list" = none := by obtain ⟨h, X, G, S⟩ := c.ex; exact He.free_ok X G (S.fa _ (List.mem_of_getElem? (i := 60) rfl))
theorem Ctx.f_int (c : Ctx K mg) : mg "int" = none := by obtain ⟨h, X, G, S⟩ := c.ex; exact He.free_ok X G (S.fa _ (List.mem_of_getElem? (i := 61) rfl))
theorem Ctx.f_isinstance (c : Ctx K mg) : mg "isinstance" = none := by obtain ⟨h, X, G, S⟩ := c.ex; exact He.free_ok X G (S.fa _ (List.mem_of_getElem? (i := 62) rfl))
theorem Ctx.f_bool (c : Ctx K mg) : mg "bool" = none := by obtain ⟨h, X, G, S⟩ := c.ex; exact He.free_ok X G (S.fa _ (List.mem_of_getElem? (i := 63) rfl))
theorem Ctx.f_zip (c : Ctx K mg) : mg "zip" = none := by obtain ⟨h, X, G, S⟩ := c.ex; exact He.free_ok X G (S.fa _ (List.mem_of_getElem? (i := 64) rfl))
theorem Ctx.f_enumerate (c : Ctx K mg) : mg "enumerate" = none := by obtain ⟨h, X, G, S⟩ := c.ex; exact He.free_ok X G (S.fa _ (List.mem_of_getElem? (i := 65) rfl))
theorem Ctx.f_all (c : Ctx K mg) : mg "all" = none := by obtain ⟨h, X, G, S⟩ := c.ex; exact He.free_ok X G (S.fa _ (List.mem_of_getElem? (i := 66) rfl))
theorem Ctx.f_min (c : Ctx K mg) : mg "min" = none := by obtain ⟨h, X, G, S⟩ := c.ex; exact He.free_ok X G (S.fa _ (List.mem_of_getElem? (i := 67) rfl))
theorem Ctx.f_str (c : Ctx K mg) : mg "str" = none := by obtain ⟨h, X, G, S⟩ := c.ex; exact He.free_ok X G (S.fa _ (List.mem_of_getElem? (i := 68) rfl))
theorem Ctx.f_divmod (c : Ctx K mg) : mg "divmod" = none := by obtain ⟨h, X, G, S⟩ := c.ex; exact He.free_ok X G (S.fa _ (List.mem_of_getElem? (i := 69) rfl))
theorem Ctx.f_ValueError (c : Ctx K mg) : mg "ValueError" = none := by obtain ⟨h, X, G, S⟩ := c.ex; exact He.free_ok X G (S.fa _ (List.mem_of_getElem? (i := 70) rfl))
theorem Ctx.c_MOST_POINTS (c : Ctx K mg) : ∃ t, mg "MOST_POINTS" = some (.int 24 t) := by obtain ⟨h, X, G, S⟩ := c.ex; exact He.int_ok X G (S.fa _ (List.mem_of_getElem? (i := 71) rfl))
theorem Ctx.c_MOST_TURNS (c : Ctx K mg) : ∃ t, mg "MOST_TURNS" = some (.int 8 t) := by obtain ⟨h, X, G, S⟩ := c.ex; exact He.int_ok X G (S.fa _ (List.mem_of_getElem? (i := 72) rfl))
theorem Ctx.c_MOST_LETTERS (c : Ctx K mg) : ∃ t, mg "MOST_LETTERS" = some (.int 8 t) := by obtain ⟨h, X, G, S⟩ := c.ex; exact He.int_ok X G (S.fa _ (List.mem_of_getElem? (i := 73) rfl))
theorem Ctx.c_MOST_BALL (c : Ctx K mg) : ∃ t, mg "MOST_BALL" = some (.int 4096 t) := by obtain ⟨h, X, G, S⟩ := c.ex; exact He.int_ok X G (S.fa _ (List.mem_of_getElem? (i := 74) rfl))
theorem Ctx.c_MOST_STEPS (c : Ctx K mg) : ∃ t, mg "MOST_STEPS" = some (.int 24 t) := by obtain ⟨h, X, G, S⟩ := c.ex; exact He.int_ok X G (S.fa _ (List.mem_of_getElem? (i := 75) rfl))
theorem Ctx.D_is_whole (c : Ctx K mg) : ∃ fd, FunD K "is_whole" "is_whole" (defArgs s_is_whole) (defBody s_is_whole) (defScope s_is_whole) (d_is_whole.dvs K) (d_is_whole.kws K) (He.fAd K d_is_whole.at_) fd := by obtain ⟨h, X, G, S⟩ := c.ex; exact S.fn d_is_whole (List.mem_of_getElem? (i := 0) rfl)
theorem Ctx.D_is_index (c : Ctx K mg) : ∃ fd, FunD K "is_index" "is_index" (defArgs s_is_index) (defBody s_is_index) (defScope s_is_index) (d_is_index.dvs K) (d_is_index.kws K) (He.fAd K d_is_index.at_) fd := by obtain ⟨h, X, G, S⟩ := c.ex; exact S.fn d_is_index (List.mem_of_getElem? (i := 1) rfl)
theorem Ctx.D_is_row (c : Ctx K mg) : ∃ fd, FunD K "is_row" "is_row" (defArgs s_is_row) (defBody s_is_row) (defScope s_is_row) (d_is_row.dvs K) (d_is_row.kws K) (He.fAd K d_is_row.at_) fd := by obtain ⟨h, X, G, S⟩ := c.ex; exact S.fn d_is_row (List.mem_of_getElem? (i := 2) rfl)
theorem Ctx.D_is_perm (c : Ctx K mg) : ∃ fd, FunD K "is_perm" "is_perm" (defArgs s_is_perm) (defBody s_is_perm) (defScope s_is_perm) (d_is_perm.dvs K) (d_is_perm.kws K) (He.fAd K d_is_perm.at_) fd := by obtain ⟨h, X, G, S⟩ := c.ex; exact S.fn d_is_perm (List.mem_of_getElem? (i := 3) rfl)
theorem Ctx.D_identity (c : Ctx K mg) : ∃ fd, FunD K "identity" "identity" (defArgs s_identity) (defBody s_identity) (defScope s_identity) (d_identity.dvs K) (d_identity.kws K) (He.fAd K d_identity.at_) fd := by obtain ⟨h, X, G, S⟩ := c.ex; exact S.fn d_identity (List.mem_of_getElem? (i := 4) rfl)
theorem Ctx.D_times (c : Ctx K mg) : ∃ fd, FunD K "times" "times" (defArgs s_times) (defBody s_times) (defScope s_times) (d_times.dvs K) (d_times.kws K) (He.fAd K d_times.at_) fd := by obtain ⟨h, X, G, S⟩ := c.ex; exact S.fn d_times (List.mem_of_getElem? (i := 5) rfl)
theorem Ctx.D_inverse (c : Ctx K mg) : ∃ fd, FunD K "inverse" "inverse" (defArgs s_inverse) (defBody s_inverse) (defScope s_inverse) (d_inverse.dvs K) (d_inverse.kws K) (He.fAd K d_inverse.at_) fd := by obtain ⟨h, X, G, S⟩ := c.ex; exact S.fn d_inverse (List.mem_of_getElem? (i := 6) rfl)
theorem Ctx.D_is_name (c : Ctx K mg) : ∃ fd, FunD K "is_name" "is_name" (defArgs s_is_name) (defBody s_is_name) (defScope s_is_name) (d_is_name.dvs K) (d_is_name.kws K) (He.fAd K d_is_name.at_) fd := by obtain ⟨h, X, G, S⟩ := c.ex; exact S.fn d_is_name (List.mem_of_getElem? (i := 7) rfl)
theorem Ctx.D_steps_of (c : Ctx K mg) : ∃ fd, FunD K "steps_of" "steps_of" (defArgs s_steps_of) (defBody s_steps_of) (defScope s_steps_of) (d_steps_of.dvs K) (d_steps_of.kws K) (He.fAd K d_steps_of.at_) fd := by obtain ⟨h, X, G, S⟩ := c.ex; exact S.fn d_steps_of (List.mem_of_getElem? (i := 8) rfl)
theorem Ctx.D_step_perms (c : Ctx K mg) : ∃ fd, FunD K "step_perms" "step_perms" (defArgs s_step_perms) (defBody s_step_perms) (defScope s_step_perms) (d_step_perms.dvs K) (d_step_perms.kws K) (He.fAd K d_step_perms.at_) fd := by obtain ⟨h, X, G, S⟩ := c.ex; exact S.fn d_step_perms (List.mem_of_getElem? (i := 9) rfl)
theorem Ctx.D_can_search (c : Ctx K mg) : ∃ fd, FunD K "can_search" "can_search" (defArgs s_can_search) (defBody s_can_search) (defScope s_can_search) (d_can_search.dvs K) (d_can_search.kws K) (He.fAd K d_can_search.at_) fd := by obtain ⟨h, X, G, S⟩ := c.ex; exact S.fn d_can_search (List.mem_of_getElem? (i := 10) rfl)
theorem Ctx.D_grown (c : Ctx K mg) : ∃ fd, FunD K "grown" "grown" (defArgs s_grown) (defBody s_grown) (defScope s_grown) (d_grown.dvs K) (d_grown.kws K) (He.fAd K d_grown.at_) fd := by obtain ⟨h, X, G, S⟩ := c.ex; exact S.fn d_grown (List.mem_of_getElem? (i := 11) rfl)
theorem Ctx.D_check_most (c : Ctx K mg) : ∃ fd, FunD K "check_most" "check_most" (defArgs s_check_most) (defBody s_check_most) (defScope s_check_most) (d_check_most.dvs K) (d_check_most.kws K) (He.fAd K d_check_most.at_) fd := by obtain ⟨h, X, G, S⟩ := c.ex; exact S.fn d_check_most (List.mem_of_getElem? (i := 12) rfl)
theorem Ctx.D_check_search (c : Ctx K mg) : ∃ fd, FunD K "check_search" "check_search" (defArgs s_check_search) (defBody s_check_search) (defScope s_check_search) (d_check_search.dvs K) (d_check_search.kws K) (He.fAd K d_check_search.at_) fd := by obtain ⟨h, X, G, S⟩ := c.ex; exact S.fn d_check_search (List.mem_of_getElem? (i := 13) rfl)
theorem Ctx.D_meeting (c : Ctx K mg) : ∃ fd, FunD K "meeting" "meeting" (defArgs s_meeting) (defBody s_meeting) (defScope s_meeting) (d_meeting.dvs K) (d_meeting.kws K) (He.fAd K d_meeting.at_) fd := by obtain ⟨h, X, G, S⟩ := c.ex; exact S.fn d_meeting (List.mem_of_getElem? (i := 14) rfl)
theorem Ctx.D_searched (c : Ctx K mg) : ∃ fd, FunD K "searched" "searched" (defArgs s_searched) (defBody s_searched) (defScope s_searched) (d_searched.dvs K) (d_searched.kws K) (He.fAd K d_searched.at_) fd := by obtain ⟨h, X, G, S⟩ := c.ex; exact S.fn d_searched (List.mem_of_getElem? (i := 15) rfl)
theorem Ctx.D_distance (c : Ctx K mg) : ∃ fd, FunD K "distance" "distance" (defArgs s_distance) (defBody s_distance) (defScope s_distance) (d_distance.dvs K) (d_distance.kws K) (He.fAd K d_distance.at_) fd := by obtain ⟨h, X, G, S⟩ := c.ex; exact S.fn d_distance (List.mem_of_getElem? (i := 16) rfl)
theorem Ctx.D__keeps_spot (c : Ctx K mg) : ∃ fd, FunD K "_keeps_spot" "_keeps_spot" (defArgs s__keeps_spot) (defBody s__keeps_spot) (defScope s__keeps_spot) (d__keeps_spot.dvs K) (d__keeps_spot.kws K) (He.fAd K d__keeps_spot.at_) fd := by obtain ⟨h, X, G, S⟩ := c.ex; exact S.fn d__keeps_spot (List.mem_of_getElem? (i := 17) rfl)
theorem Ctx.D_keeps_marks (c : Ctx K mg) : ∃ fd, FunD K "keeps_marks" "keeps_marks" (defArgs s_keeps_marks) (defBody s_keeps_marks) (defScope s_keeps_marks) (d_keeps_marks.dvs K) (d_keeps_marks.kws K) (He.fAd K d_keeps_marks.at_) fd := by obtain ⟨h, X, G, S⟩ := c.ex; exact S.fn d_keeps_marks (List.mem_of_getElem? (i := 18) rfl)
theorem Ctx.D__law_purse (c : Ctx K mg) : ∃ fd, FunD K "_law_purse" "_law_purse" (defArgs s__law_purse) (defBody s__law_purse) (defScope s__law_purse) (d__law_purse.dvs K) (d__law_purse.kws K) (He.fAd K d__law_purse.at_) fd := by obtain ⟨h, X, G, S⟩ := c.ex; exact S.fn d__law_purse (List.mem_of_getElem? (i := 19) rfl)
theorem Ctx.D__law_draw (c : Ctx K mg) : ∃ fd, FunD K "_law_draw" "_law_draw" (defArgs s__law_draw) (defBody s__law_draw) (defScope s__law_draw) (d__law_draw.dvs K) (d__law_draw.kws K) (He.fAd K d__law_draw.at_) fd := by obtain ⟨h, X, G, S⟩ := c.ex; exact S.fn d__law_draw (List.mem_of_getElem? (i := 20) rfl)
theorem Ctx.D__law_perm (c : Ctx K mg) : ∃ fd, FunD K "_law_perm" "_law_perm" (defArgs s__law_perm) (defBody s__law_perm) (defScope s__law_perm) (d__law_perm.dvs K) (d__law_perm.kws K) (He.fAd K d__law_perm.at_) fd := by obtain ⟨h, X, G, S⟩ := c.ex; exact S.fn d__law_perm (List.mem_of_getElem? (i := 21) rfl)
theorem Ctx.D__law_names (c : Ctx K mg) : ∃ fd, FunD K "_law_names" "_law_names" (defArgs s__law_names) (defBody s__law_names) (defScope s__law_names) (d__law_names.dvs K) (d__law_names.kws K) (He.fAd K d__law_names.at_) fd := by obtain ⟨h, X, G, S⟩ := c.ex; exact S.fn d__law_names (List.mem_of_getElem? (i := 22) rfl)
theorem Ctx.D__law_after (c : Ctx K mg) : ∃ fd, FunD K "_law_after" "_law_after" (defArgs s__law_after) (defBody s__law_after) (defScope s__law_after) (d__law_after.dvs K) (d__law_after.kws K) (He.fAd K d__law_after.at_) fd := by obtain ⟨h, X, G, S⟩ := c.ex; exact S.fn d__law_after (List.mem_of_getElem? (i := 23) rfl)
theorem Ctx.D__law_back (c : Ctx K mg) : ∃ fd, FunD K "_law_back" "_law_back" (defArgs s__law_back) (defBody s__law_back) (defScope s__law_back) (d__law_back.dvs K) (d__law_back.kws K) (He.fAd K d__law_back.at_) fd := by obtain ⟨h, X, G, S⟩ := c.ex; exact S.fn d__law_back (List.mem_of_getElem? (i := 24) rfl)
theorem Ctx.D__law_is_integer (c : Ctx K mg) : ∃ fd, FunD K "_law_is_integer" "_law_is_integer" (defArgs s__law_is_integer) (defBody s__law_is_integer) (defScope s__law_is_integer) (d__law_is_integer.dvs K) (d__law_is_integer.kws K) (He.fAd K d__law_is_integer.at_) fd := by obtain ⟨h, X, G, S⟩ := c.ex; exact S.fn d__law_is_integer (List.mem_of_getElem? (i := 25) rfl)
theorem Ctx.D__law_same (c : Ctx K mg) : ∃ fd, FunD K "_law_same" "_law_same" (defArgs s__law_same) (defBody s__law_same) (defScope s__law_same) (d__law_same.dvs K) (d__law_same.kws K) (He.fAd K d__law_same.at_) fd := by obtain ⟨h, X, G, S⟩ := c.ex; exact S.fn d__law_same (List.mem_of_getElem? (i := 26) rfl)
theorem Ctx.D__law_position (c : Ctx K mg) : ∃ fd, FunD K "_law_position" "_law_position" (defArgs s__law_position) (defBody s__law_position) (defScope s__law_position) (d__law_position.dvs K) (d__law_position.kws K) (He.fAd K d__law_position.at_) fd := by obtain ⟨h, X, G, S⟩ := c.ex; exact S.fn d__law_position (List.mem_of_getElem? (i := 27) rfl)
theorem Ctx.D__law_world (c : Ctx K mg) : ∃ fd, FunD K "_law_world" "_law_world" (defArgs s__law_world) (defBody s__law_world) (defScope s__law_world) (d__law_world.dvs K) (d__law_world.kws K) (He.fAd K d__law_world.at_) fd := by obtain ⟨h, X, G, S⟩ := c.ex; exact S.fn d__law_world (List.mem_of_getElem? (i := 28) rfl)
theorem Ctx.D__law_ball (c : Ctx K mg) : ∃ fd, FunD K "_law_ball" "_law_ball" (defArgs s__law_ball) (defBody s__law_ball) (defScope s__law_ball) (d__law_ball.dvs K) (d__law_ball.kws K) (He.fAd K d__law_ball.at_) fd := by obtain ⟨h, X, G, S⟩ := c.ex; exact S.fn d__law_ball (List.mem_of_getElem? (i := 29) rfl)
theorem Ctx.D__law_between (c : Ctx K mg) : ∃ fd, FunD K "_law_between" "_law_between" (defArgs s__law_between) (defBody s__law_between) (defScope s__law_between) (d__law_between.dvs K) (d__law_between.kws K) (He.fAd K d__law_between.at_) fd := by obtain ⟨h, X, G, S⟩ := c.ex; exact S.fn d__law_between (List.mem_of_getElem? (i := 30) rfl)
theorem Ctx.D__law_edge (c : Ctx K mg) : ∃ fd, FunD K "_law_edge" "_law_edge" (defArgs s__law_edge) (defBody s__law_edge) (defScope s__law_edge) (d__law_edge.dvs K) (d__law_edge.kws K) (He.fAd K d__law_edge.at_) fd := by obtain ⟨h, X, G, S⟩ := c.ex; exact S.fn d__law_edge (List.mem_of_getElem? (i := 31) rfl)
theorem Ctx.D__law_right (c : Ctx K mg) : ∃ fd, FunD K "_law_right" "_law_right" (defArgs s__law_right) (defBody s__law_right) (defScope s__law_right) (d__law_right.dvs K) (d__law_right.kws K) (He.fAd K d__law_right.at_) fd := by obtain ⟨h, X, G, S⟩ := c.ex; exact S.fn d__law_right (List.mem_of_getElem? (i := 32) rfl)
theorem Ctx.D__law_alike (c : Ctx K mg) : ∃ fd, FunD K "_law_alike" "_law_alike" (defArgs s__law_alike) (defBody s__law_alike) (defScope s__law_alike) (d__law_alike.dvs K) (d__law_alike.kws K) (He.fAd K d__law_alike.at_) fd := by obtain ⟨h, X, G, S⟩ := c.ex; exact S.fn d__law_alike (List.mem_of_getElem? (i := 33) rfl)
theorem Ctx.D__law_triangle (c : Ctx K mg) : ∃ fd, FunD K "_law_triangle" "_law_triangle" (defArgs s__law_triangle) (defBody s__law_triangle) (defScope s__law_triangle) (d__law_triangle.dvs K) (d__law_triangle.kws K) (He.fAd K d__law_triangle.at_) fd := by obtain ⟨h, X, G, S⟩ := c.ex; exact S.fn d__law_triangle (List.mem_of_getElem? (i := 34) rfl)
theorem Ctx.D__law_walk (c : Ctx K mg) : ∃ fd, FunD K "_law_walk" "_law_walk" (defArgs s__law_walk) (defBody s__law_walk) (defScope s__law_walk) (d__law_walk.dvs K) (d__law_walk.kws K) (He.fAd K d__law_walk.at_) fd := by obtain ⟨h, X, G, S⟩ := c.ex; exact S.fn d__law_walk (List.mem_of_getElem? (i := 35) rfl)
theorem Ctx.D__law_refuses (c : Ctx K mg) : ∃ fd, FunD K "_law_refuses" "_law_refuses" (defArgs s__law_refuses) (defBody s__law_refuses) (defScope s__law_refuses) (d__law_refuses.dvs K) (d__law_refuses.kws K) (He.fAd K d__law_refuses.at_) fd := by obtain ⟨h, X, G, S⟩ := c.ex; exact S.fn d__law_refuses (List.mem_of_getElem? (i := 36) rfl)
theorem Ctx.D__law_renamed (c : Ctx K mg) : ∃ fd, FunD K "_law_renamed" "_law_renamed" (defArgs s__law_renamed) (defBody s__law_renamed) (defScope s__law_renamed) (d__law_renamed.dvs K) (d__law_renamed.kws K) (He.fAd K d__law_renamed.at_) fd := by obtain ⟨h, X, G, S⟩ := c.ex; exact S.fn d__law_renamed (List.mem_of_getElem? (i := 37) rfl)
theorem Ctx.D__law_same_elsewhere (c : Ctx K mg) : ∃ fd, FunD K "_law_same_elsewhere" "_law_same_elsewhere" (defArgs s__law_same_elsewhere) (defBody s__law_same_elsewhere) (defScope s__law_same_elsewhere) (d__law_same_elsewhere.dvs K) (d__law_same_elsewhere.kws K) (He.fAd K d__law_same_elsewhere.at_) fd := by obtain ⟨h, X, G, S⟩ := c.ex; exact S.fn d__law_same_elsewhere (List.mem_of_getElem? (i := 38) rfl)
theorem Ctx.D__law_limits (c : Ctx K mg) : ∃ fd, FunD K "_law_limits" "_law_limits" (defArgs s__law_limits) (defBody s__law_limits) (defScope s__law_limits) (d__law_limits.dvs K) (d__law_limits.kws K) (He.fAd K d__law_limits.at_) fd := by obtain ⟨h, X, G, S⟩ := c.ex; exact S.fn d__law_limits (List.mem_of_getElem? (i := 39) rfl)
theorem Ctx.D_law (c : Ctx K mg) : ∃ fd, FunD K "law" "law" (defArgs s_law) (defBody s_law) (defScope s_law) (d_law.dvs K) (d_law.kws K) (He.fAd K d_law.at_) fd := by obtain ⟨h, X, G, S⟩ := c.ex; exact S.fn d_law (List.mem_of_getElem? (i := 40) rfl)
theorem Ctx.D_Puzzle___init__ (c : Ctx K mg) : ∃ fd, FunD K "__init__" "Puzzle.__init__" (defArgs s_Puzzle___init__) (defBody s_Puzzle___init__) (defScope s_Puzzle___init__) (d_Puzzle___init__.dvs K) (d_Puzzle___init__.kws K) (He.fAd K d_Puzzle___init__.at_) fd := by obtain ⟨h, X, G, S⟩ := c.ex; exact S.fn d_Puzzle___init__ (List.mem_of_getElem? (i := 41) rfl)
theorem Ctx.D_Puzzle___len__ (c : Ctx K mg) : ∃ fd, FunD K "__len__" "Puzzle.__len__" (defArgs s_Puzzle___len__) (defBody s_Puzzle___len__) (defScope s_Puzzle___len__) (d_Puzzle___len__.dvs K) (d_Puzzle___len__.kws K) (He.fAd K d_Puzzle___len__.at_) fd := by obtain ⟨h, X, G, S⟩ := c.ex; exact S.fn d_Puzzle___len__ (List.mem_of_getElem? (i := 42) rfl)
theorem Ctx.D_Puzzle_is_position (c : Ctx K mg) : ∃ fd, FunD K "is_position" "Puzzle.is_position" (defArgs s_Puzzle_is_position) (defBody s_Puzzle_is_position) (defScope s_Puzzle_is_position) (d_Puzzle_is_position.dvs K) (d_Puzzle_is_position.kws K) (He.fAd K d_Puzzle_is_position.at_) fd := by obtain ⟨h, X, G, S⟩ := c.ex; exact S.fn d_Puzzle_is_position (List.mem_of_getElem? (i := 43) rfl)
theorem Ctx.D_Puzzle_play (c : Ctx K mg) : ∃ fd, FunD K "play" "Puzzle.play" (defArgs s_Puzzle_play) (defBody s_Puzzle_play) (defScope s_Puzzle_play) (d_Puzzle_play.dvs K) (d_Puzzle_play.kws K) (He.fAd K d_Puzzle_play.at_) fd := by obtain ⟨h, X, G, S⟩ := c.ex; exact S.fn d_Puzzle_play (List.mem_of_getElem? (i := 44) rfl)
theorem Ctx.xT (c : Ctx K mg) : Xcl K (aT K) := by obtain ⟨h, X, G, S⟩ := c.ex; exact xcl_ok (He.ba S.ex).1
theorem Ctx.xL (c : Ctx K mg) : Xcl K (aL K) := by obtain ⟨h, X, G, S⟩ := c.ex; exact xcl_ok (He.ba (He.ba S.ex).2).1
theorem Ctx.mTT (c : Ctx K mg) : PySem.W.exmOne K (.ref (aT K)) (.ref (aT K)) = some true := by obtain ⟨h, X, G, S⟩ := c.ex; exact of_decide_eq_true (He.ba (He.ba (He.ba S.ex).2).2).1
theorem Ctx.mLT (c : Ctx K mg) : PySem.W.exmOne K (.ref (aL K)) (.ref (aT K)) = some false := by obtain ⟨h, X, G, S⟩ := c.ex; exact of_decide_eq_true (He.ba (He.ba (He.ba (He.ba S.ex).2).2).2).1
theorem Ctx.mLL (c : Ctx K mg) : PySem.W.exmOne K (.ref (aL K)) (.ref (aL K)) = some true := by obtain ⟨h, X, G, S⟩ := c.ex; exact of_decide_eq_true (He.ba (He.ba (He.ba (He.ba S.ex).2).2).2).2
theorem Ctx.g_super (c : Ctx K mg) : mg "super" = none := by obtain ⟨h, X, G, S⟩ := c.ex; exact He.free_ok X G (S.fa _ (List.mem_of_getElem? (i := 76) rfl))
abbrev prog63 : Program := PySem.Challenge.pw_tumbler_k63_distances_between_positions
theorem sh_TooMany : TE.Shows prog63 x_TooMany.qual x_TooMany.f x_TooMany.txt xfile x_TooMany.P := ⟨fun _ _ _ _ _ _ _ _ _ => rfl, ⟨_, fun _ _ _ _ => rfl⟩, fun _ _ _ _ => rfl, by decide +kernel, by rfl, by rfl, by rfl, by decide +kernel, by kernel_rfl, by kernel_rfl⟩
theorem sh_InvalidLimit : TE.Shows prog63 x_InvalidLimit.qual x_InvalidLimit.f x_InvalidLimit.txt xfile x_InvalidLimit.P := ⟨fun _ _ _ _ _ _ _ _ _ => rfl, ⟨_, fun _ _ _ _ => rfl⟩, fun _ _ _ _ => rfl, by decide +kernel, by rfl, by rfl, by rfl, by decide +kernel, by kernel_rfl, by kernel_rfl⟩
theorem Ctx.exT (c : Ctx K mg) : ExC2 K mg prog63 "TooMany" (aT K) "bound" := by
  have g := c.g_TooMany
  have gs := c.g_super
  have x := c.xT
  obtain ⟨h, X, G, S⟩ := c.ex
  obtain ⟨cda, cc, t⟩ := S.xc x_TooMany (List.mem_of_getElem? (i := 0) rfl)
  exact ⟨⟨_, _, _, _, _, _, _, t, sh_TooMany⟩, g, gs, x.keep, x.sub, x.ty⟩
theorem Ctx.exL (c : Ctx K mg) : ExC2 K mg prog63 "InvalidLimit" (aL K) "value" := by
  have g := c.g_InvalidLimit
  have gs := c.g_super
  have x := c.xL
  obtain ⟨h, X, G, S⟩ := c.ex
  obtain ⟨cda, cc, t⟩ := S.xc x_InvalidLimit (List.mem_of_getElem? (i := 1) rfl)
  exact ⟨⟨_, _, _, _, _, _, _, t, sh_InvalidLimit⟩, g, gs, x.keep, x.sub, x.ty⟩
theorem Ctx.noT (c : Ctx K mg) : PySem.W.findIn K (.ref (aT K)) "bound" = some none := by
  obtain ⟨h, X, G, S⟩ := c.ex
  obtain ⟨cda, cc, t⟩ := S.xc x_TooMany (List.mem_of_getElem? (i := 0) rfl)
  exact t.noN
theorem Ctx.noL (c : Ctx K mg) : PySem.W.findIn K (.ref (aL K)) "value" = some none := by
  obtain ⟨h, X, G, S⟩ := c.ex
  obtain ⟨cda, cc, t⟩ := S.xc x_InvalidLimit (List.mem_of_getElem? (i := 1) rfl)
  exact t.noN
end
end K63
set_option maxRecDepth 100000
set_option maxHeartbeats 2000000
/-! Comprehensions that leave the heap as it was; rows of positions. -/
namespace TB
open PySem PySem.Spec PyProof.Rows L2
theorem neF {α : Type} [DecidableEq α] {a b : α} (e : a = b) : (!decide (a = b)) = false := by rw [decide_eq_true e]; rfl
theorem neT {α : Type} [DecidableEq α] {a b : α} (e : a ≠ b) : (!decide (a = b)) = true := by rw [decide_eq_false e]; rfl
/-- the class at C has a method m that keeps the promise sp -/
structure Mn (P : Program) (w : World) (K : PySem.W.Frag) (mg : Str → Option Value) (base : Heap) (CX : CXT) (k : Nat) (C : Addr) (m : Str) (ps : List Str) (sp : Sp) : Prop where
  ex : ∃ (f : Addr) (fd : FuncData), Meth K C m f ∧ FnOk P w K mg base CX k f fd ps sp ∧ Binds K fd ps []
/-- between two statements: what the first leaves, M, is all that the second needs -/
theorem cut {a b : TS} {D : Ends} {σ : L2.St} {H : Hp} (M : L2.St → Hp → Prop) (hb : ∀ σ H, M σ H → b D σ H) (ha : ∀ N : L2.St → Hp → Prop, (∀ σ H, M σ H → N σ H) → a { D with nx := N } σ H) : tSeq a b D σ H := ha _ hb
/-- a constant into a slot -/
theorem asgC {v : V} {i : Nat} {b : TS} {D : Ends} {σ : L2.St} {H : Hp} (h : b D (σ.set i (some v)) H) : tSeq (tAsg (tC v) (gName i)) b D σ H := h
/-- the same at a continuation -/
theorem cutK {N : L2.St → Hp → Prop} {σ : L2.St} {H : Hp} (h : N σ H) : N σ H := h
theorem tyL {K : PySem.W.Frag} {H : Hp} {D : Addr} {xs : List V} (h : H D = some (.lst xs)) : tyV K "list" (.ref D) H := .inl ⟨rfl, _, SqL.of h⟩
theorem sz (n : Nat) (h : n ≤ 100000) : n ≤ sizeLine := by rw [sizeLine_eq]; omega
theorem szL (n : Nat) (h : n ≤ 100000) : n < sizeLine := by rw [sizeLine_eq]; omega
theorem szk {n : Nat} (h : Nat.ble n 100000 = true) : n ≤ sizeLine := sz n (Nat.le_of_ble_eq_true h)
/-- range(n), the turns' numbers -/
theorem walk_rng {n : Nat} : Walk (Itr 0 n) n (fun _ => True) (fun i H x H' => H' = H ∧ x = V.int (i : Int)) :=
  Walk.mono walk_range (fun _ h => h) fun i H x H' _ _ y => ⟨y.1, y.2.trans (congrArg V.int (Int.zero_add _))⟩
/-- a row of values that stand for tuples of numbers -/
def Rw (H : Hp) (xs : List V) (ps : List (List Nat)) : Prop := xs.length = ps.length ∧ ∀ (i : Nat) (p : List Nat), ps[i]? = some p → ∃ a : Addr, xs[i]? = some (V.ref a) ∧ Tn H a p
theorem Rw.nil {H : Hp} : Rw H [] [] := ⟨rfl, fun _ _ h => by cases h⟩
theorem Rw.mono {H H' : Hp} {xs : List V} {ps : List (List Nat)} (h : Rw H xs ps) (s : Same H H') : Rw H' xs ps := ⟨h.1, fun i p e => by
  obtain ⟨a, h1, h2⟩ := h.2 i p e
  exact ⟨a, h1, h2.mono s⟩⟩
theorem Rw.but {H H' : Hp} {xs ls : List V} {ps : List (List Nat)} {l : Addr} (h : Rw H xs ps) (hl : H l = some (.lst ls)) (s : But l H H') : Rw H' xs ps := ⟨h.1, fun i p e => by
  obtain ⟨a, h1, h2⟩ := h.2 i p e
  exact ⟨a, h1, h2.but hl s⟩⟩
theorem Rw.append {H : Hp} {xs ys : List V} {ps qs : List (List Nat)} (h : Rw H xs ps) (k : Rw H ys qs) : Rw H (xs ++ ys) (ps ++ qs) := by
  refine ⟨by rw [List.length_append, List.length_append, h.1, k.1], fun i p e => ?_⟩
  by_cases q : i < ps.length
  · rw [List.getElem?_append_left q] at e
    obtain ⟨a, h1, h2⟩ := h.2 i p e
    exact ⟨a, by rw [List.getElem?_append_left (by rw [h.1]; exact q)]; exact h1, h2⟩
  · rw [List.getElem?_append_right (by omega)] at e
    obtain ⟨a, h1, h2⟩ := k.2 _ p e
    exact ⟨a, by rw [List.getElem?_append_right (by rw [h.1]; omega), h.1]; exact h1, h2⟩
theorem Rw.one {H : Hp} {a : Addr} {p : List Nat} (h : Tn H a p) : Rw H [.ref a] [p] := ⟨rfl, fun i q e => by
  cases i with
  | zero => cases e; exact ⟨a, rfl, h⟩
  | succ i => cases e⟩
theorem Rw.snoc {H : Hp} {xs : List V} {ps : List (List Nat)} {a : Addr} {p : List Nat} (h : Rw H xs ps) (t : Tn H a p) : Rw H (xs ++ [.ref a]) (ps ++ [p]) := h.append (Rw.one t)
theorem Rw.cons {H : Hp} {xs : List V} {ps : List (List Nat)} {a : Addr} {p : List Nat} (t : Tn H a p) (h : Rw H xs ps) : Rw H (.ref a :: xs) (p :: ps) := (Rw.one t).append h
theorem Rw.get {H : Hp} {xs : List V} {ps : List (List Nat)} {i : Nat} {v : V} (h : Rw H xs ps) (e : xs[i]? = some v) : ∃ a p, v = .ref a ∧ ps[i]? = some p ∧ Tn H a p := by
  have hi : i < ps.length := by rw [← h.1]; exact (List.getElem?_eq_some_iff.mp e).1
  obtain ⟨a, h1, h2⟩ := h.2 i _ (List.getElem?_eq_getElem hi)
  rw [e] at h1
  exact ⟨a, _, Option.some.inj h1, List.getElem?_eq_getElem hi, h2⟩
theorem Rw.take {H : Hp} {xs : List V} {ps : List (List Nat)} {i : Nat} {a : Addr} {p : List Nat} (h : Rw H xs (ps.take i)) (e : ps[i]? = some p) (t : Tn H a p) : Rw H (xs ++ [.ref a]) (ps.take (i + 1)) := by
  rw [List.take_succ, e]
  exact h.snoc t
section
variable {J : It} {n : Nat} {G : Hp → Prop} {Y : Nat → Hp → V → Hp → Prop}
/-- the tuples of H stand in H' -/
def Tps (H H' : Hp) : Prop := ∀ a ys, H a = some (.tup ys) → H' a = some (.tup ys)
theorem Tps.of {H H' : Hp} (s : Same H H') : Tps H H' := fun a _ h => s a _ h
theorem Tps.upd {H : Hp} {D : Addr} {xs ys : List V} (h : H D = some (.lst xs)) : Tps H (L2.upd H D (.lst ys)) := fun a zs e => by
  rw [upd_ne (ne_of e h (by intro z; cases z))]
  exact e
theorem Tps.but {H H' : Hp} {D : Addr} {xs : List V} (h : H D = some (.lst xs)) (b : But D H H') : Tps H H' := fun a zs e => b a _ (ne_of e h (by intro z; cases z)) e
theorem Tps.tn {H H' : Hp} {a : Addr} {p : List Nat} (s : Tps H H') (h : Tn H a p) : Tn H' a p := s a _ h
theorem Tps.rw {H H' : Hp} {xs : List V} {ps : List (List Nat)} (s : Tps H H') (h : Rw H xs ps) : Rw H' xs ps := ⟨h.1, fun i p e => by
  obtain ⟨a, h1, h2⟩ := h.2 i p e
  exact ⟨a, h1, s.tn h2⟩⟩
theorem Tps.trans {H H1 H2 : Hp} (a : Tps H H1) (b : Tps H1 H2) : Tps H H2 := fun c ys h => b c ys (a c ys h)
/-- a comprehension without ifs whose parts leave what was there: R tells of the values so far -/
theorem lc_same (w : Walk J n G Y) {g : TG} {te : TE} {vs : List Nat} {σ : L2.St} {H0 : Hp} {D : Addr} {Qd : Hp → Prop} (hD : H0 D = none) (R : Nat → Hp → List V → Prop) (h0 : ∀ H, Same H0 H → R 0 H []) (hm : ∀ i H H' acc, Tps H H' → R i H acc → R i H' acc) (hn : n ≤ 100000)
    (hG : ∀ H, Same H0 H → G H)
    (hs : ∀ i x H H' acc (C : V → Hp → Prop), i < n → Same H0 H → R i H acc → Y i H x H' → (∀ y H4, Same H H4 → R (i + 1) H4 (acc ++ [y]) → C y H4) → g x (wipe σ vs) H' fun σ2 H2 => wipe σ2 vs = wipe σ vs ∧ te σ2 H2 C)
    (hd : ∀ H acc, Same H0 H → H D = some (.lst acc) → acc.length = n → R n H acc → Qd H) :
    ∃ W : Nat → Nat → Hp → Prop, (∃ m, W 0 m (upd H0 D (.lst []))) ∧ ∀ i m H, W i m H →
      (J.stop i H ∧ Qd H) ∨ (J.go i H ∧ ∃ Nx : Hp → Prop, (∀ H', Nx H' → ∃ m', m' < m ∧ W (i + 1) m' H') ∧ ∀ x H', J.yld i H x H' → g x (wipe σ vs) H' fun σ2 H2 => wipe σ2 vs = wipe σ vs ∧ tYes σ2 H2 fun b H3 =>
        if b = true then te σ2 H3 fun y H4 => ∃ acc, H4 D = some (.lst acc) ∧ acc.length < sizeLine ∧ Nx (upd H4 D (.lst (acc ++ [y]))) else Nx H3) := by
  refine lc_it w (fun i H => Same H0 H ∧ ∃ acc, H D = some (.lst acc) ∧ acc.length = i ∧ R i H acc) ⟨same_new hD, [], upd_same, rfl, h0 _ (same_new hD)⟩ (fun i H _ h => hG H h.1) ?_ ?_
  · rintro i x H H' hi ⟨s1, acc, e1, l1, r1⟩ y
    refine hs i x H H' acc (fun y H4 => ∃ acc, H4 D = some (.lst acc) ∧ acc.length < sizeLine ∧ _) hi s1 r1 y fun y2 H4 s4 r4 => ?_
    have e4 := s4 D _ e1
    refine ⟨acc, e4, by rw [sizeLine_eq]; omega, Same.upd_of (s1.trans s4) hD, _, upd_same, by rw [List.length_append, l1]; rfl, hm _ _ _ _ (Tps.upd e4) r4⟩
  · rintro H ⟨s1, acc, e1, l1, r1⟩
    exact hd H acc s1 e1 l1 r1
end
end TB
set_option maxRecDepth 100000
set_option maxHeartbeats 2000000
/-! Distances in the graph of positions. -/
namespace TM
/-- p is reached from s by k steps of gs -/
def W (gs : List (List Nat)) : Nat → List Nat → List Nat → Prop
  | 0, s, p => p = s
  | k + 1, s, p => ∃ q, W gs k s q ∧ ∃ g, g ∈ gs ∧ p = mul q g
/-- k is the distance -/
def Ex (gs : List (List Nat)) (k : Nat) (s p : List Nat) : Prop := W gs k s p ∧ ∀ j, j < k → ¬ W gs j s p
/-- all steps move n points, each step back is a step -/
def Sym (n : Nat) (gs : List (List Nat)) : Prop := (∀ g ∈ gs, IsP n g) ∧ ∀ g ∈ gs, inv g ∈ gs
section
variable {n : Nat} {gs : List (List Nat)}
theorem W.isP (hS : Sym n gs) : ∀ {k : Nat} {s p : List Nat}, IsP n s → W gs k s p → IsP n p
  | 0, s, p, hs, h => by
    have e : p = s := h
    rw [e]
    exact hs
  | k + 1, s, p, hs, ⟨q, hq, g, hg, e⟩ => by
    rw [e]
    exact (W.isP hS hs hq).mul (hS.1 g hg)
theorem W.one {s g : List Nat} (hg : g ∈ gs) : W gs 1 s (mul s g) := ⟨s, rfl, g, hg, rfl⟩
theorem W.add : ∀ {b a : Nat} {s q p : List Nat}, W gs a s q → W gs b q p → W gs (a + b) s p
  | 0, a, s, q, p, h, k => by
    have e : p = q := k
    rw [e]
    exact h
  | b + 1, a, s, q, p, h, ⟨r, hr, g, hg, e⟩ => ⟨r, W.add h hr, g, hg, e⟩
theorem W.split : ∀ {b a : Nat} {s p : List Nat}, W gs (a + b) s p → ∃ q, W gs a s q ∧ W gs b q p
  | 0, a, s, p, h => ⟨p, h, rfl⟩
  | b + 1, a, s, p, ⟨r, hr, g, hg, e⟩ => by
    obtain ⟨q, h1, h2⟩ := W.split (b := b) hr
    exact ⟨q, h1, r, h2, g, hg, e⟩
theorem mul_back {p g : List Nat} (hp : IsP n p) (hg : IsP n g) : mul (mul p g) (inv g) = p := by
  rw [mul_assoc hp hg hg.inv, mul_inv hg, mul_one hp]
theorem W.symm (hS : Sym n gs) : ∀ {k : Nat} {s p : List Nat}, IsP n s → W gs k s p → W gs k p s
  | 0, s, p, hs, h => Eq.symm h
  | k + 1, s, p, hs, ⟨q, hq, g, hg, e⟩ => by
    have hqP := W.isP hS hs hq
    have e2 : q = mul p (inv g) := by rw [e, mul_back hqP (hS.1 g hg)]
    have h1 : W gs 1 p q := by
      rw [e2]
      exact W.one (hS.2 g hg)
    have h2 := W.add h1 (W.symm hS hs hq)
    rw [Nat.add_comm] at h2
    exact h2
theorem W.sub {gs' : List (List Nat)} (h : ∀ g ∈ gs, g ∈ gs') : ∀ {k : Nat} {s p : List Nat}, W gs k s p → W gs' k s p
  | 0, s, p, e => e
  | k + 1, s, p, ⟨q, hq, g, hg, e⟩ => ⟨q, W.sub h hq, g, h g hg, e⟩
theorem Ex.same {gs' : List (List Nat)} (h : ∀ g, g ∈ gs ↔ g ∈ gs') {k : Nat} {s p : List Nat} : Ex gs k s p ↔ Ex gs' k s p := by
  have a : ∀ j, W gs j s p ↔ W gs' j s p := fun j => ⟨W.sub fun g => (h g).mp, W.sub fun g => (h g).mpr⟩
  exact ⟨fun z => ⟨(a k).mp z.1, fun j hj y => z.2 j hj ((a j).mpr y)⟩, fun z => ⟨(a k).mpr z.1, fun j hj y => z.2 j hj ((a j).mp y)⟩⟩
theorem W.least : ∀ {k : Nat} {s p : List Nat}, W gs k s p → ∃ j, j ≤ k ∧ Ex gs j s p := by
  intro k
  induction k using Nat.strongRecOn with
  | _ k ih =>
    intro s p h
    by_cases z : ∃ j, j < k ∧ W gs j s p
    · obtain ⟨j, hj, w⟩ := z
      obtain ⟨i, hi, e⟩ := ih j hj w
      exact ⟨i, by omega, e⟩
    · exact ⟨k, Nat.le_refl _, h, fun j hj w => z ⟨j, hj, w⟩⟩
theorem Ex.uniq {j k : Nat} {s p : List Nat} (a : Ex gs j s p) (b : Ex gs k s p) : j = k := by
  rcases Nat.lt_trichotomy j k with h | h | h
  · exact absurd a.1 (b.2 j h)
  · exact h
  · exact absurd b.1 (a.2 k h)
theorem Ex.symm (hS : Sym n gs) {k : Nat} {s p : List Nat} (hs : IsP n s) (h : Ex gs k s p) : Ex gs k p s :=
  ⟨h.1.symm hS hs, fun j hj w => h.2 j hj (w.symm hS (h.1.isP hS hs))⟩
theorem Ex.zero {s p : List Nat} : Ex gs 0 s p ↔ p = s := ⟨fun h => h.1, fun h => ⟨h, fun j hj => by omega⟩⟩
/-- the next layer -/
theorem Ex.step (hS : Sym n gs) {k : Nat} {s p : List Nat} (hs : IsP n s) : Ex gs (k + 1) s p ↔ (∃ q, Ex gs k s q ∧ ∃ g, g ∈ gs ∧ p = mul q g) ∧ ¬ Ex gs k s p ∧ (∀ j, j + 1 = k → ¬ Ex gs j s p) := by
  constructor
  · intro h
    obtain ⟨q, hq, g, hg, e⟩ := h.1
    refine ⟨⟨q, ⟨hq, fun j hj w => ?_⟩, g, hg, e⟩, fun z => h.2 k (by omega) z.1, fun j hj z => h.2 j (by omega) z.1⟩
    exact h.2 (j + 1) (by omega) ⟨q, w, g, hg, e⟩
  · rintro ⟨⟨q, hq, g, hg, e⟩, h1, h2⟩
    refine ⟨⟨q, hq.1, g, hg, e⟩, fun j hj w => ?_⟩
    obtain ⟨i, hi, x⟩ := w.least
    have hqP := hq.1.isP hS hs
    have e2 : q = mul p (inv g) := by rw [e, mul_back hqP (hS.1 g hg)]
    have w2 : W gs (i + 1) s q := ⟨p, x.1, inv g, hS.2 g hg, e2⟩
    have h3 : k ≤ i + 1 := by
      rcases Nat.lt_or_ge (i + 1) k with z | z
      · exact absurd w2 (hq.2 _ z)
      · exact z
    by_cases z : i = k
    · rw [z] at x
      exact h1 x
    · exact h2 i (by omega) x
/-- the layers meet exactly if their radii sum up to the distance -/
theorem meet (hS : Sym n gs) {a b : Nat} {s t : List Nat} (hs : IsP n s) (ht : IsP n t) (hm : ∀ j, j < a + b → ¬ W gs j s t) : (∃ p, Ex gs a s p ∧ Ex gs b t p) ↔ W gs (a + b) s t := by
  constructor
  · rintro ⟨p, h1, h2⟩
    exact h1.1.add (h2.1.symm hS ht)
  · intro h
    obtain ⟨q, h1, h2⟩ := h.split
    have hq := h1.isP hS hs
    refine ⟨q, ⟨h1, fun j hj w => hm (j + b) (by omega) (w.add h2)⟩, h2.symm hS hq, fun j hj w => hm (a + j) (by omega) (h1.add (w.symm hS ht))⟩
/-- moved from the left -/
theorem W.left (hS : Sym n gs) {t : List Nat} (ht : IsP n t) : ∀ {k : Nat} {s p : List Nat}, IsP n s → W gs k s p → W gs k (mul t s) (mul t p)
  | 0, s, p, hs, h => by
    have e : p = s := h
    rw [e]
    exact rfl
  | k + 1, s, p, hs, ⟨q, hq, g, hg, e⟩ => ⟨mul t q, W.left hS ht hs hq, g, hg, by rw [e, mul_assoc ht (hq.isP hS hs) (hS.1 g hg)]⟩
theorem W.left_iff (hS : Sym n gs) {t s p : List Nat} {k : Nat} (ht : IsP n t) (hs : IsP n s) (hp : IsP n p) : W gs k (mul t s) (mul t p) ↔ W gs k s p := by
  constructor
  · intro h
    have h2 := W.left hS ht.inv (ht.mul hs) h
    rw [← mul_assoc ht.inv ht hs, ← mul_assoc ht.inv ht hp, inv_mul ht, one_mul hs, one_mul hp] at h2
    exact h2
  · exact W.left hS ht hs
/-- the steps renamed by t -/
def conj (t g : List Nat) : List Nat := mul (mul (inv t) g) t
theorem conj_isP {t g : List Nat} (ht : IsP n t) (hg : IsP n g) : IsP n (conj t g) := (ht.inv.mul hg).mul ht
theorem conj_mul {t q g : List Nat} (ht : IsP n t) (hq : IsP n q) (hg : IsP n g) : conj t (mul q g) = mul (conj t q) (conj t g) := by
  unfold conj
  have h1 := ht.inv.mul hq
  have h2 := ht.inv.mul hg
  rw [mul_assoc h1 ht (h2.mul ht), ← mul_assoc ht h2 ht, ← mul_assoc ht ht.inv hg, mul_inv ht, one_mul hg, ← mul_assoc h1 hg ht, mul_assoc ht.inv hq hg]
theorem conj_conj {t g : List Nat} (ht : IsP n t) (hg : IsP n g) : conj (inv t) (conj t g) = g := by
  unfold conj
  have h2 := ht.inv.mul hg
  rw [inv_inv ht, mul_assoc ht (h2.mul ht) ht.inv, mul_assoc h2 ht ht.inv, mul_inv ht, mul_one h2, ← mul_assoc ht ht.inv hg, mul_inv ht, one_mul hg]
theorem W.conj (hS : Sym n gs) {t : List Nat} (ht : IsP n t) {gs' : List (List Nat)} (h : ∀ g ∈ gs, conj t g ∈ gs') : ∀ {k : Nat} {s p : List Nat}, IsP n s → W gs k s p → W gs' k (TM.conj t s) (TM.conj t p)
  | 0, s, p, hs, e => congrArg (TM.conj t) e
  | k + 1, s, p, hs, ⟨q, hq, g, hg, e⟩ => ⟨TM.conj t q, W.conj hS ht h hs hq, TM.conj t g, h g hg, by rw [e, conj_mul ht (hq.isP hS hs) (hS.1 g hg)]⟩
theorem W.conj_iff (hS : Sym n gs) {t : List Nat} (ht : IsP n t) {gs' : List (List Nat)} (hS' : Sym n gs') (h : ∀ g, IsP n g → (g ∈ gs ↔ TM.conj t g ∈ gs')) {k : Nat} {s p : List Nat} (hs : IsP n s) (hp : IsP n p) : W gs' k (TM.conj t s) (TM.conj t p) ↔ W gs k s p := by
  constructor
  · intro w
    have w2 := W.conj (gs' := gs) hS' ht.inv (fun g hg => (h _ (conj_isP ht.inv (hS'.1 g hg))).mpr (by
      have e := conj_conj ht.inv (hS'.1 g hg)
      rw [inv_inv ht] at e
      rw [e]
      exact hg)) (conj_isP ht hs) w
    rw [conj_conj ht hs, conj_conj ht hp] at w2
    exact w2
  · exact W.conj hS ht (fun g hg => (h g (hS.1 g hg)).mp hg) hs
/-- the distance, or none up to most -/
def Dist (gs : List (List Nat)) (s t : List Nat) (most : Nat) : Option Nat → Prop
  | none => ∀ j, j ≤ most → ¬ W gs j s t
  | some d => d ≤ most ∧ Ex gs d s t
theorem Dist.uniq {s t : List Nat} {most : Nat} {a b : Option Nat} (h : Dist gs s t most a) (k : Dist gs s t most b) : a = b := by
  cases a with
  | none =>
    cases b with
    | none => rfl
    | some d => exact absurd k.2.1 (h d k.1)
  | some d =>
    cases b with
    | none => exact absurd h.2.1 (k d h.1)
    | some e => rw [h.2.uniq k.2]
theorem Dist.iff {gs' : List (List Nat)} {s t s' t' : List Nat} {most : Nat} {a : Option Nat} (h : ∀ k, W gs k s t ↔ W gs' k s' t') (d : Dist gs s t most a) : Dist gs' s' t' most a := by
  cases a with
  | none => exact fun j hj w => d j hj ((h j).mpr w)
  | some e => exact ⟨d.1, (h e).mp d.2.1, fun j hj w => d.2.2 j hj ((h j).mpr w)⟩
end
end TM
set_option maxRecDepth 100000
set_option maxHeartbeats 2000000
/-! A position made of a perm of the spots and twists. -/
namespace TM
theorem divs {m s k s' k' : Nat} (hm : 0 < m) (hk : k < m) (hk' : k' < m) (e : s * m + k = s' * m + k') : s = s' ∧ k = k' := by
  have h1 : (s * m + k) / m = s := by rw [Nat.mul_comm, Nat.mul_add_div hm, Nat.div_eq_of_lt hk, Nat.add_zero]
  have h2 : (s' * m + k') / m = s' := by rw [Nat.mul_comm, Nat.mul_add_div hm, Nat.div_eq_of_lt hk', Nat.add_zero]
  have h3 : s = s' := by rw [← h1, ← h2, e]
  subst h3
  exact ⟨rfl, by omega⟩
theorem tw_inj {m t k k' : Nat} (hk : k < m) (hk' : k' < m) (e : (t + k) % m = (t + k') % m) : k = k' := by
  have hm : 0 < m := by omega
  have a : ∀ x y : Nat, x ≤ y → y < m → (t + x) % m = (t + y) % m → x = y := fun x y hxy hy h => by
    have h1 := Nat.div_add_mod (t + x) m
    have h2 := Nat.div_add_mod (t + y) m
    have h3 : (t + x) / m ≤ (t + y) / m := Nat.div_le_div_right (by omega)
    have h4 : m * ((t + y) / m) - m * ((t + x) / m) = y - x := by omega
    rw [← Nat.mul_sub] at h4
    rcases Nat.eq_zero_or_pos ((t + y) / m - (t + x) / m) with z | z
    · rw [z, Nat.mul_zero] at h4
      omega
    · have : m ≤ m * ((t + y) / m - (t + x) / m) := Nat.le_mul_of_pos_right m z
      omega
  rcases Nat.le_total k k' with h | h
  · exact a k k' h hk' e
  · exact (a k' k h hk e.symm).symm
theorem pos_ok {n m q : Nat} {to p : List Nat} (hm : 0 < m) (hq : q * m = n) (hto : IsP q to) (hl : p.length = n) (h : ∀ s, s < q → ∃ t : Nat, ∀ k, k < m → p[s * m + k]? = some (to.getD s 0 * m + (t + k) % m)) : IsP n p ∧ KM m n p := by
  have sp : ∀ i, i < n → ∃ s k, s < q ∧ k < m ∧ i = s * m + k := fun i hi => by
    refine ⟨i / m, i % m, ?_, Nat.mod_lt _ hm, ?_⟩
    · rw [Nat.div_lt_iff_lt_mul hm, hq]
      exact hi
    · rw [Nat.mul_comm, Nat.div_add_mod]
  have tl : ∀ s, s < q → to.getD s 0 < q := fun s hs => by
    have : s < to.length := by rw [hto.len]; exact hs
    simp only [List.getD_eq_getElem?_getD, List.getElem?_eq_getElem this, Option.getD_some]
    exact hto.lt _ (List.getElem_mem this)
  have ti : ∀ s s', s < q → s' < q → to.getD s 0 = to.getD s' 0 → s = s' := fun s s' hs hs' e => by
    have h1 : s < to.length := by rw [hto.len]; exact hs
    have h2 : s' < to.length := by rw [hto.len]; exact hs'
    simp only [List.getD_eq_getElem?_getD, List.getElem?_eq_getElem h1, List.getElem?_eq_getElem h2, Option.getD_some] at e
    exact nd_get hto.nd (List.getElem?_eq_getElem h1) (by rw [e]; exact List.getElem?_eq_getElem h2)
  refine ⟨⟨hl, fun x hx => ?_, nodup_of_inj fun i j x hi hj => ?_⟩, fun i x hi e => ?_⟩
  · obtain ⟨i, hi, ei⟩ := List.getElem_of_mem hx
    obtain ⟨s, k, hs, hk, rfl⟩ := sp i (by omega)
    obtain ⟨t, ht⟩ := h s hs
    have e := ht k hk
    rw [List.getElem?_eq_getElem hi, ei] at e
    rw [Option.some.inj e]
    have a1 := tl s hs
    have a2 := Nat.mod_lt (t + k) hm
    have a3 : (to.getD s 0 + 1) * m ≤ q * m := Nat.mul_le_mul_right m a1
    rw [Nat.add_mul] at a3
    omega
  · have li := lt_of_get hi
    have lj := lt_of_get hj
    obtain ⟨s, k, hs, hk, rfl⟩ := sp i (by omega)
    obtain ⟨s', k', hs', hk', rfl⟩ := sp j (by omega)
    obtain ⟨t, ht⟩ := h s hs
    obtain ⟨t', ht'⟩ := h s' hs'
    rw [ht k hk] at hi
    rw [ht' k' hk'] at hj
    have e := (Option.some.inj hi).trans (Option.some.inj hj).symm
    obtain ⟨e1, e2⟩ := divs hm (Nat.mod_lt _ hm) (Nat.mod_lt _ hm) e
    have es := ti s s' hs hs' e1
    subst es
    have et : (t + k) % m = (t' + k) % m := by
      have := (ht k hk).symm.trans (ht' k hk)
      exact (divs hm (Nat.mod_lt _ hm) (Nat.mod_lt _ hm) (Option.some.inj this)).2
    have et' : (t + k') % m = (t' + k') % m := by
      have := (ht k' hk').symm.trans (ht' k' hk')
      exact (divs hm (Nat.mod_lt _ hm) (Nat.mod_lt _ hm) (Option.some.inj this)).2
    rw [tw_inj hk hk' (e2.trans et'.symm)]
  · obtain ⟨s, k, hs, hk, rfl⟩ := sp i hi
    obtain ⟨t, ht⟩ := h s hs
    rw [ht k hk] at e
    have e' := Option.some.inj e
    rw [rot_at hm hk, ← e', rot_at hm (Nat.mod_lt _ hm), ht _ (Nat.mod_lt _ hm)]
    congr 2
    rw [Nat.add_mod_mod, Nat.mod_add_mod, Nat.add_assoc]
end TM
set_option maxRecDepth 100000
set_option maxHeartbeats 2000000
namespace K63
open PySem PySem.Spec PyProof.Rows L2 TB TM

def spTimes : Sp := fun vs H Q _ => ∃ (a b : Addr) (p q : List Nat), vs = [.ref a, .ref b] ∧ Tn H a p ∧ Tn H b q ∧ p.length = q.length ∧ (∀ x ∈ p, x < q.length) ∧ p.length ≤ 100 ∧
  ∀ c H', Same H H' → Tn H' c (mul p q) → Q (.ref c) H'
section
variable {P : Program} {w : World} {K : PySem.W.Frag} {mg : Str → Option Value} {base : Heap}
theorem dn_times (c : Ctx K mg) : Dn P w K mg base CX0 1 "times" ["first", "second"] spTimes := by
  have f_len := c.f_len
  have f_tuple := c.f_tuple
  have sc := sc_times
  obtain ⟨fd, F⟩ := c.D_times
  refine ⟨_, fd, c.g_times, F.kp, F.ok sc (fun vs H Q E h => ?_) (fun cdv A outer s H vs Q E hr h => ⟨_, PSs.nox ((pss_cons (ps_if (pt_cmpR op_ne (pe_callB (call_lenK (K := K) rfl) (by rfl) f_len boot_len (pa_cons (pv 0) pa_nil)) (pe_callB (call_lenK (K := K) rfl) (by rfl) f_len boot_len (pa_cons (pv 1) pa_nil)) (nomark _)) (pss_one ps_never) pss_nil)
  (pss_one (ps_ret (pe_callTy (call_tupK (K := K) rfl) (by rfl) f_tuple boot_tuple (pa_cons (pe_lc (own := [("image", 2)]) (tt := tYes) rfl sc.nd (pi_tupK (K := K) rfl (pv 0)) (blkOk_by (own := [("image", 2)]) (N := ["first", "second", "image"]) (sc := defScope s_times) (by decide +kernel)) (fun _ _ _ _ _ => (pg_name (i := 2) sc.nd rfl (by first | exact Or.inl rfl | exact Or.inr rfl))) (fun _ _ _ _ _ => pts_nil) (fun _ _ _ _ _ => (pe_ix (ix_tupK (K := K) rfl) (pv 1) (pv 2) (fun _ _ => rfl)))) pa_nil)))))), ?_⟩), F.bindsN fun _ _ _ _ _ _ us hl => match us, hl with | [_, _], _ => rfl⟩
  · obtain ⟨a, b, p, q, rfl, _⟩ := h
    rfl
  · obtain ⟨a, b, p, q, rfl, hp, hq, hl, hx, hz, k⟩ := h
    refine ⟨_, rfl, a, _, rfl, .inr hp.t, _, rfl, b, _, rfl, .inr hq.t, rfl, _, rfl, iteNS (by rw [nv_length, nv_length, hl]) ?_⟩
    refine ⟨_, rfl, a, rfl, ⟨_, hp.t⟩, fun D hD => lc_it (walk_tup (xs := nv p)) (fun i H' => Same H H' ∧ H' D = some (.lst (nv (mul (p.take i) q)))) ?_ ?_ ?_ ?_⟩
    · exact ⟨same_new hD, upd_same⟩
    · rintro i H' hi ⟨s1, h1⟩
      exact (hp.mono s1).t
    · rintro i x H1 H2 hi ⟨s1, h1⟩ ⟨rfl, hx2⟩
      rw [nv_length] at hi
      obtain ⟨n, hn⟩ : ∃ n, p[i]? = some n := ⟨p[i], by simp [hi]⟩
      rw [nv_get, hn] at hx2
      obtain rfl : V.int (n : Int) = x := Option.some.inj hx2
      have hnq : n < q.length := hx n (List.mem_of_getElem? hn)
      refine ⟨rfl, ⟨_, rfl, _, rfl, b, _, _, _, rfl, rfl, (hq.mono s1).t, nv_at (n := q.getD n 0) (by simp [hnq]), _, h1, ?_, ?_⟩⟩
      · rw [nv_length, mul, List.length_map, List.length_take, sizeLine_eq]
        omega
      · refine ⟨Same.upd_of s1 hD, ?_⟩
        rw [upd_same, List.take_succ, hn]
        simp [mul, nv]
    · rintro H1 ⟨s1, h1⟩
      rw [nv_length, List.take_length] at h1
      refine ⟨D, _, rfl, .inl ⟨SqL.of h1, fun l hl2 => ?_⟩⟩
      exact k l _ (s1.trans (same_new hl2)) upd_same
end
end K63
set_option maxRecDepth 100000
set_option maxHeartbeats 2000000
namespace K63
open PySem PySem.Spec PyProof.Rows L2 TB TM
def spIsWhole : Sp := fun vs H Q _ => ∃ i : Int, vs = [.int i] ∧ Q (.bl true) H
def spIsIndex : Sp := fun vs H Q _ => ∃ i l : Int, vs = [.int i, .int l] ∧ Q (.bl (decide (0 ≤ i ∧ i < l))) H
def spIsRow : Sp := fun vs H Q _ => ∃ (a : Addr) (xs : List V) (n : Int), vs = [.ref a, .int n] ∧ H a = some (.tup xs) ∧ Q (.bl (decide ((xs.length : Int) = n))) H
def spIsPerm : Sp := fun vs H Q _ => ∃ (a : Addr) (p : List Nat) (n : Nat), vs = [.ref a, .int (n : Int)] ∧ Tn H a p ∧ IsP n p ∧ 1 ≤ n ∧ n ≤ 100 ∧ ∀ H', Same H H' → Q (.bl true) H'
def spIdentity : Sp := fun vs H Q _ => ∃ n : Nat, vs = [.int (n : Int)] ∧ n ≤ 100 ∧ ∀ c H', Same H H' → Tn H' c (List.range n) → Q (.ref c) H'
section
variable {P : Program} {w : World} {K : PySem.W.Frag} {mg : Str → Option Value} {base : Heap}
theorem dn_is_whole (c : Ctx K mg) : Dn P w K mg base CX0 1 "is_whole" ["value"] spIsWhole := by
  have f_bool := c.f_bool
  have f_int := c.f_int
  have f_isinstance := c.f_isinstance
  have sc := sc_is_whole
  obtain ⟨fd, F⟩ := c.D_is_whole
  refine ⟨_, fd, c.g_is_whole, F.kp, F.ok sc (fun vs H Q E h => ?_) (fun cdv A outer s H vs Q E hr h => ⟨_, PSs.nox ((pss_one (ps_ret (pe_and (pe_callB (call_isiK1 (K := K) rfl) (by rfl) f_isinstance (by decide +kernel) (pa_cons (pv 0) (pa_cons (pe_bltn (v := .ty "int") (by rfl) f_int boot_int rfl) pa_nil))) (pe_one (pe_not (pe_callB (call_isiK1 (K := K) rfl) (by rfl) f_isinstance (by decide +kernel) (pa_cons (pv 0) (pa_cons (pe_bltn (v := .ty "bool") (by rfl) f_bool boot_bool rfl) pa_nil))))))))), ?_⟩), F.bindsN fun _ _ _ _ _ _ us hl => match us, hl with | [_], _ => rfl⟩
  · obtain ⟨i, rfl, _⟩ := h
    rfl
  · obtain ⟨i, rfl, k⟩ := h
    exact ⟨_, rfl, _, _, _, _, true, rfl, .ty _, .base (.int i), kit_ty (by decide +kernel), _, rfl, _, rfl, _, _, _, _, false, rfl, .ty _, .base (.int i), kit_ty (by decide +kernel), _, rfl, k⟩
theorem dn_is_index (c : Ctx K mg) : Dn P w K mg base CX0 2 "is_index" ["value", "limit"] spIsIndex := by
  obtain ⟨f__is_whole, fd_is_whole, g_is_whole, k_is_whole, F_is_whole, b_is_whole⟩ := (dn_is_whole (P := P) (w := w) (base := base) c).ex
  have sc := sc_is_index
  obtain ⟨fd, F⟩ := c.D_is_index
  refine ⟨_, fd, c.g_is_index, F.kp, F.ok sc (fun vs H Q E h => ?_) (fun cdv A outer s H vs Q E hr h => ⟨_, PSs.nox ((pss_one (ps_ret (pe_and (pe_call F_is_whole (hr.mono (by decide)) (by rfl) g_is_whole k_is_whole b_is_whole nil_v pass0 (pa_cons (pv 0) pa_nil)) (pe_one (pe_chain op_le op_lt pe_int (pv 0) (pv 1))))))), ?_⟩), F.bindsN fun _ _ _ _ _ _ us hl => match us, hl with | [_, _], _ => rfl⟩
  · obtain ⟨i, l, rfl, _⟩ := h
    rfl
  · obtain ⟨i, l, rfl, k⟩ := h
    refine ⟨_, rfl, i, rfl, true, rfl, _, rfl, _, _, rfl, rfl, _, rfl, iteD (fun h0 => ?_) (fun h0 => ?_)⟩
    · refine ⟨_, rfl, _, _, rfl, rfl, bl_of ?_ k⟩
      by_cases h1 : i < l
      · rw [decide_eq_true h1, decide_eq_true ⟨h0, h1⟩]
      · rw [decide_eq_false h1, decide_eq_false fun z => h1 z.2]
    · exact bl_of (decide_eq_false fun z => h0 z.1).symm k
theorem dn_is_row (c : Ctx K mg) : Dn P w K mg base CX0 1 "is_row" ["value", "length"] spIsRow := by
  have f_isinstance := c.f_isinstance
  have f_len := c.f_len
  have f_tuple := c.f_tuple
  have sc := sc_is_row
  obtain ⟨fd, F⟩ := c.D_is_row
  refine ⟨_, fd, c.g_is_row, F.kp, F.ok sc (fun vs H Q E h => ?_) (fun cdv A outer s H vs Q E hr h => ⟨_, PSs.nox ((pss_one (ps_ret (pe_and (pe_callB (call_isiK1 (K := K) rfl) (by rfl) f_isinstance (by decide +kernel) (pa_cons (pv 0) (pa_cons (pe_bltn (v := .ty "tuple") (by rfl) f_tuple boot_tuple rfl) pa_nil))) (pe_one (pe_cmpR op_eq (pe_callB (call_lenK (K := K) rfl) (by rfl) f_len boot_len (pa_cons (pv 0) pa_nil)) (pv 1) (nomark _))))))), ?_⟩), F.bindsN fun _ _ _ _ _ _ us hl => match us, hl with | [_, _], _ => rfl⟩
  · obtain ⟨a, xs, n, rfl, _⟩ := h
    rfl
  · obtain ⟨a, xs, n, rfl, ha, k⟩ := h
    exact ⟨_, rfl, _, _, _, _, true, rfl, .ty _, .base (.tup ha), kit_ty (by decide +kernel), _, rfl, _, rfl, a, xs, rfl, .inr (SqT.of ha), _, rfl, rfl, bl_of (dvi _ _) k⟩
theorem dn_identity (c : Ctx K mg) : Dn P w K mg base CX0 1 "identity" ["points"] spIdentity := by
  have f_range := c.f_range
  have f_tuple := c.f_tuple
  have sc := sc_identity
  obtain ⟨fd, F⟩ := c.D_identity
  refine ⟨_, fd, c.g_identity, F.kp, F.ok sc (fun vs H Q E h => ?_) (fun cdv A outer s H vs Q E hr h => ⟨_, PSs.nox ((pss_one (ps_ret (pe_tupRg rfl (by rfl) f_tuple (prg_1 (by rfl) f_range (pv 0)))))), ?_⟩), F.bindsN fun _ _ _ _ _ _ us hl => match us, hl with | [_], _ => rfl⟩
  · obtain ⟨n, rfl, _⟩ := h
    rfl
  · obtain ⟨n, rfl, hn, k⟩ := h
    refine ⟨_, rfl, _, rfl, RgOk.of_le (by omega) (by omega) (by omega) (by omega), fun q hq => k q _ (same_new hq) ?_⟩
    show upd H q (.tup (rgV 0 (n : Int))) q = some (.tup (nv (List.range n)))
    rw [upd_same]
    have e : rgV 0 (n : Int) = nv (List.range n) := by
      unfold rgV nv
      have e1 : ((n : Int) - 0).toNat = n := by omega
      rw [e1]
      refine List.map_congr_left fun i _ => ?_
      rw [Int.zero_add]
    rw [e]
theorem dn_is_perm (c : Ctx K mg) : Dn P w K mg base CX0 3 "is_perm" ["value", "points"] spIsPerm := by
  have f_range := c.f_range
  obtain ⟨f__is_index, fd_is_index, g_is_index, k_is_index, F_is_index, b_is_index⟩ := (dn_is_index (P := P) (w := w) (base := base) c).ex
  obtain ⟨f__is_row, fd_is_row, g_is_row, k_is_row, F_is_row, b_is_row⟩ := (dn_is_row (P := P) (w := w) (base := base) c).ex
  have sc := sc_is_perm
  obtain ⟨fd, F⟩ := c.D_is_perm
  refine ⟨_, fd, c.g_is_perm, F.kp, F.ok sc (fun vs H Q E h => ?_) (fun cdv A outer s H vs Q E hr h => ⟨_, PSs.nox ((pss_cons (ps_if (PW.pt (pw_or (pt_cmpR op_lt (pv 1) pe_int (nomark _)) (pw_or1 (pt_not (pt_val (pe_call F_is_row (hr.mono (by decide)) (by rfl) g_is_row k_is_row b_is_row nil_v pass0 (pa_cons (pv 0) (pa_cons (pv 1) pa_nil)))))))) (pss_one (ps_ret pe_bl)) pss_nil)
  (pss_cons (ps_setLc (i := 2) (own := [("_", 4)]) (tt := tYes) rfl sc.nd rfl rfl (sw_true rfl rfl rfl (by decide +kernel)) (pi_range1 (by rfl) f_range (pa_cons (pv 1) pa_nil)) (blkOk_by (own := [("_", 4)]) (N := ["value", "points", "taken", "image", "_"]) (sc := defScope s_is_perm) (by decide +kernel)) (fun _ _ _ _ _ => (pg_name (i := 4) sc.nd rfl (by first | exact Or.inl rfl | exact Or.inr rfl))) (fun _ _ _ _ _ => pts_nil) (fun _ _ _ _ _ => pe_bl))
  (pss_cons (ps_for PassesOwn.never rfl (pi_tupK (K := K) rfl (pv 0)) (pg_name (i := 3) sc.nd rfl (by first | exact Or.inl rfl | exact Or.inr rfl)) (pss_cons (ps_if (PW.pt (pw_or (pt_not (pt_val (pe_call F_is_index (hr.mono (by decide)) (by rfl) g_is_index k_is_index b_is_index nil_v pass0 (pa_cons (pv 3) (pa_cons (pv 1) pa_nil))))) (pw_or1 (pt_val (pe_ix (ix_listK (K := K) rfl) (pv 2) (pv 3) (fun _ _ => rfl)))))) (pss_one (ps_ret pe_bl)) pss_nil)
  (pss_one (ps_asg pe_bl (pg_sub (pv 2) (pv 3) set_list (fun _ => rfl))))))
  (pss_one (ps_ret pe_bl)))))), ?_⟩), F.bindsN fun _ _ _ _ _ _ us hl => match us, hl with | [_, _], _ => rfl⟩
  · obtain ⟨a, p, n, rfl, _⟩ := h
    rfl
  · obtain ⟨a, p, n, rfl, hp, hP, h1, hn, k⟩ := h
    refine ⟨_, rfl, _, _, rfl, rfl, _, rfl, iteD (fun z => by omega) fun _ => ?_⟩
    refine ⟨_, rfl, _, rfl, a, _, _, rfl, hp, _, rfl, ?_⟩
    rw [nv_length, hP.len, decide_eq_true rfl]
    refine ⟨_, rfl, (n : Int), rfl, by omega, by omega, fun D hD => lc_it (walk_range (lo := 0) (n := (n : Int).toNat)) (fun i H' => Same H H' ∧ H' D = some (.lst ((List.replicate i false).map V.bl))) ?_ ?_ ?_ ?_⟩
    · exact ⟨same_new hD, upd_same⟩
    · intros; trivial
    · rintro i x H1 H2 hi ⟨s1, e1⟩ ⟨rfl, rfl⟩
      refine ⟨rfl, ?_⟩
      refine ⟨_, e1, ?_, Same.upd_of s1 hD, ?_⟩
      · rw [List.length_map, List.length_replicate, sizeLine_eq]
        omega
      · rw [upd_same, List.replicate_succ', List.map_append]
        rfl
    · rintro H1 ⟨s1, e1⟩
      have en : (n : Int).toNat = n := by omega
      rw [en] at e1
      refine ⟨_, rfl, a, rfl, ⟨_, (hp.mono s1).t⟩, for_it (walk_tup (xs := nv p)) (fun i σ H' => (∃ im, σ = [some (.ref a), some (.int (n : Int)), some (.ref D), im, none]) ∧ Same H H' ∧
        ∃ bs : List Bool, H' D = some (.lst (bs.map V.bl)) ∧ bs.length = n ∧ ∀ x, bs[x]? = some true → x ∈ p.take i) ?_ ?_ ?_ ?_⟩
      · refine ⟨⟨none, rfl⟩, s1, List.replicate n false, e1, List.length_replicate, fun x hx => ?_⟩
        rw [List.getElem?_replicate] at hx
        split at hx <;> cases hx
      · rintro i σ H' hi ⟨_, s2, _⟩
        exact (hp.mono s2).t
      · rintro i x σ H2 H3 hi ⟨⟨im, rfl⟩, s2, bs, e2, hl, hb⟩ ⟨rfl, hx⟩
        rw [nv_length] at hi
        obtain ⟨m, hm⟩ := get_of hi
        rw [nv_get, hm] at hx
        obtain rfl : V.int (m : Int) = x := Option.some.inj hx
        have hmn : m < n := hP.lt m (List.mem_of_getElem? hm)
        refine ⟨_, rfl, _, rfl, (m : Int), (n : Int), rfl, _, rfl, ?_⟩
        rw [decide_eq_true (by omega : (0 : Int) ≤ (m : Int) ∧ (m : Int) < (n : Int))]
        refine ⟨_, rfl, _, rfl, D, _, _, _, rfl, rfl, SqL.of e2, atI_nat (v := V.bl false) ?_, _, rfl, ?_⟩
        · obtain ⟨b, eb⟩ := get_of (show m < bs.length by omega)
          rw [List.getElem?_map, eb]
          cases b with
          | false => rfl
          | true =>
            have z := hb m eb
            obtain ⟨j, hj, ej⟩ := List.getElem_of_mem z
            rw [List.length_take] at hj
            rw [List.getElem_take] at ej
            have e3 : p[j]? = some m := by rw [List.getElem?_eq_getElem (by omega), ej]
            have e4 := nd_ix hP.nd e3 hm
            omega
        · refine ⟨_, rfl, _, rfl, D, _, (m : Int), m, rfl, rfl, e2, ?_, ?_⟩
          · unfold ixN
            rw [List.length_map, hl, if_pos (by omega), if_pos (by omega)]
            rfl
          · refine ⟨⟨_, rfl⟩, Same.upd_of s2 hD, bs.set m true, ?_, ?_, fun x hx => ?_⟩
            · rw [upd_same, List.map_set]
            · rw [List.length_set, hl]
            · rw [List.take_succ, hm]
              rw [List.getElem?_set] at hx
              split at hx
              · rename_i e
                subst e
                simp
              · simp [hb x hx]
      · rintro σ H' ⟨⟨im, rfl⟩, s2, _⟩
        exact k _ s2
end
end K63
set_option maxRecDepth 100000
set_option maxHeartbeats 2000000
namespace K63
open PySem PySem.Spec PyProof.Rows L2 TB TM
def spInverse : Sp := fun vs H Q _ => ∃ (a : Addr) (p : List Nat) (n : Nat), vs = [.ref a] ∧ Tn H a p ∧ IsP n p ∧ n ≤ 100 ∧ ∀ c H', Same H H' → Tn H' c (inv p) → Q (.ref c) H'
def spKeepsSpot : Sp := fun vs H Q _ => ∃ (a : Addr) (p : List Nat) (n m i : Nat), vs = [.ref a, .int (m : Int), .int (i : Int)] ∧ Tn H a p ∧ IsP n p ∧ 1 ≤ m ∧ m ≤ n ∧ m ∣ n ∧ i * m < n ∧ KM m n p ∧ n ≤ 100 ∧ ∀ H', Same H H' → Q (.bl true) H'
def spKeepsMarks : Sp := fun vs H Q _ => ∃ (a : Addr) (p : List Nat) (n m : Nat), vs = [.ref a, .int (m : Int)] ∧ Tn H a p ∧ IsP n p ∧ 1 ≤ m ∧ m ∣ n ∧ 1 ≤ n ∧ KM m n p ∧ n ≤ 100 ∧ ∀ H', Same H H' → Q (.bl true) H'
/-- what a list must hold after i steps to end as the inverse -/
def InvTo (p b : List Nat) (i : Nat) : Prop := b.length = p.length ∧ ∀ j x, j < i → p[j]? = some x → b[x]? = some j
theorem InvTo.step {n : Nat} {p b : List Nat} {i x : Nat} (hP : IsP n p) (h : InvTo p b i) (e : p[i]? = some x) : InvTo p (b.set x i) (i + 1) := by
  refine ⟨by rw [List.length_set, h.1], fun j y hj ej => ?_⟩
  rw [List.getElem?_set]
  have hx := hP.lt x (List.mem_of_getElem? e)
  by_cases q : x = y
  · subst q
    rw [if_pos rfl, if_pos (by rw [h.1, hP.len]; exact hx), nd_ix hP.nd e ej]
  · rw [if_neg q]
    by_cases z : j = i
    · subst z
      rw [e] at ej
      exact absurd (Option.some.inj ej) q
    · exact h.2 j y (by omega) ej
theorem InvTo.done {n : Nat} {p b : List Nat} (hP : IsP n p) (h : InvTo p b n) : b = inv p := by
  refine TM.ext (n := n) (by rw [h.1, hP.len]) (by rw [inv_length, hP.len]) fun x hx => ?_
  obtain ⟨j, hj, ej⟩ := List.getElem_of_mem (hP.mem hx)
  have e1 : p[j]? = some x := by rw [List.getElem?_eq_getElem hj, ej]
  rw [inv_get hP e1, h.2 j x (by rw [← hP.len]; exact hj) e1]
section
variable {P : Program} {w : World} {K : PySem.W.Frag} {mg : Str → Option Value} {base : Heap}
theorem dn_inverse (c : Ctx K mg) : Dn P w K mg base CX0 1 "inverse" ["perm"] spInverse := by
  have f_enumerate := c.f_enumerate
  have f_tuple := c.f_tuple
  have sc := sc_inverse
  obtain ⟨fd, F⟩ := c.D_inverse
  refine ⟨_, fd, c.g_inverse, F.kp, F.ok sc (fun vs H Q E h => ?_) (fun cdv A outer s H vs Q E hr h => ⟨_, PSs.nox ((pss_cons (ps_setLc (i := 1) (own := [("_", 4)]) (tt := tYes) rfl sc.nd rfl rfl (sw_true rfl rfl rfl (by decide +kernel)) (pi_tupK (K := K) rfl (pv 0)) (blkOk_by (own := [("_", 4)]) (N := ["perm", "back", "point", "image", "_"]) (sc := defScope s_inverse) (by decide +kernel)) (fun _ _ _ _ _ => (pg_name (i := 4) sc.nd rfl (by first | exact Or.inl rfl | exact Or.inr rfl))) (fun _ _ _ _ _ => pts_nil) (fun _ _ _ _ _ => pe_int))
  (pss_cons (ps_for PassesOwn.never rfl (pi_enumT (K := K) rfl (by rfl) f_enumerate (pv 0)) (pg_tupK (K := K) (n := 2) rfl rfl (pgs_cons (pg_name (i := 2) sc.nd rfl (by first | exact Or.inl rfl | exact Or.inr rfl)) (pgs_cons (pg_name (i := 3) sc.nd rfl (by first | exact Or.inl rfl | exact Or.inr rfl)) pgs_nil))) (pss_one (ps_asg (pv 2) (pg_sub (pv 1) (pv 3) set_list (fun _ => rfl)))))
  (pss_one (ps_ret (pe_callTy (call_tupK (K := K) rfl) (by rfl) f_tuple boot_tuple (pa_cons (pv 1) pa_nil))))))), ?_⟩), F.bindsN fun _ _ _ _ _ _ us hl => match us, hl with | [_], _ => rfl⟩
  · obtain ⟨a, p, n, rfl, _⟩ := h
    rfl
  · obtain ⟨a, p, n, rfl, hp, hP, hn, k⟩ := h
    refine ⟨_, rfl, a, rfl, ⟨_, hp.t⟩, fun D hD => lc_it (walk_tup (xs := nv p)) (fun i H' => Same H H' ∧ H' D = some (.lst (nv (List.replicate i 0)))) ?_ ?_ ?_ ?_⟩
    · exact ⟨same_new hD, upd_same⟩
    · rintro i H' hi ⟨s1, h1⟩
      exact (hp.mono s1).t
    · rintro i x H1 H2 hi ⟨s1, h1⟩ ⟨rfl, hx2⟩
      rw [nv_length] at hi
      refine ⟨rfl, ⟨_, h1, ?_, ?_⟩⟩
      · rw [nv_length, List.length_replicate, sizeLine_eq]
        have := hP.len
        omega
      · refine ⟨Same.upd_of s1 hD, ?_⟩
        rw [upd_same, List.replicate_succ', nv_append]
        rfl
    · rintro H1 ⟨s1, h1⟩
      rw [nv_length, hP.len] at h1
      refine ⟨_, rfl, a, _, rfl, (hp.mono s1).t, for_it (walk_enT (xs := nv p)) (fun i σ H' => (∃ x y, σ = [some (.ref a), some (.ref D), x, y, none]) ∧ Same H H' ∧ ∃ b, H' D = some (.lst (nv b)) ∧ InvTo p b i) ?_ ?_ ?_ ?_⟩
      · exact ⟨⟨_, _, rfl⟩, s1, _, h1, by rw [List.length_replicate, hP.len], fun j x hj => by omega⟩
      · rintro i σ H' hi ⟨_, s2, _⟩
        exact (hp.mono s2).t
      · rintro i v σ H2 H3 hi ⟨⟨x, y, rfl⟩, s2, b, e2, hb⟩ ⟨T, u, z, rfl, hT, rfl, hu, hz⟩
        rw [nv_length] at hi
        obtain ⟨m, hm⟩ := get_of hi
        replace hz : (nv p)[i]? = some z := hz
        rw [nv_get, hm] at hz
        obtain rfl : V.int (m : Int) = z := Option.some.inj hz
        obtain rfl : V.int (i : Int) = u := Option.some.inj hu
        have hmn := hP.lt m (List.mem_of_getElem? hm)
        refine ⟨T, _, rfl, SqT.of upd_same, rfl, _, _, rfl, _, _, rfl, rfl, ?_⟩
        refine ⟨_, rfl, _, rfl, _, rfl, D, nv b, (m : Int), m, rfl, rfl, same_new hT D _ e2, ?_, ?_⟩
        · unfold ixN
          rw [nv_length, hb.1, hP.len, if_pos (by omega), if_pos (by omega)]
          rfl
        · refine ⟨⟨_, _, rfl⟩, Same.upd_of (s2.trans (same_new hT)) hD, b.set m i, ?_, hb.step hP hm⟩
          rw [upd_same]
          unfold nv
          rw [List.map_set]
      · rintro σ H' ⟨⟨x, y, rfl⟩, s2, b, e2, hb⟩
        rw [nv_length, hP.len] at hb
        rw [hb.done hP] at e2
        refine ⟨_, rfl, D, _, rfl, .inl ⟨SqL.of e2, fun l hl2 => ?_⟩⟩
        exact k l _ (s2.trans (same_new hl2)) upd_same
theorem dn__keeps_spot (c : Ctx K mg) : Dn P w K mg base CX0 1 "_keeps_spot" ["perm", "marks", "spot"] spKeepsSpot := by
  have f_divmod := c.f_divmod
  have f_range := c.f_range
  have sc := sc__keeps_spot
  obtain ⟨fd, F⟩ := c.D__keeps_spot
  refine ⟨_, fd, c.g__keeps_spot, F.kp, F.ok sc (fun vs H Q E h => ?_) (fun cdv A outer s H vs Q E hr h => ⟨_, PSs.nox ((pss_cons (ps_asg (pe_callB call_divmod (by rfl) f_divmod (by decide +kernel) (pa_cons (pe_ix (ix_tupK (K := K) rfl) (pv 0) (pe_op op_mul (pv 2) (pv 1)) (fun _ _ => rfl)) (pa_cons (pv 1) pa_nil))) (pg_tupK (K := K) (n := 2) rfl rfl (pgs_cons (pg_name (i := 3) sc.nd rfl (by first | exact Or.inl rfl | exact Or.inr rfl)) (pgs_cons (pg_name (i := 4) sc.nd rfl (by first | exact Or.inl rfl | exact Or.inr rfl)) pgs_nil))))
  (pss_cons (ps_for PassesOwn.never rfl (pi_range1 (by rfl) f_range (pa_cons (pv 1) pa_nil)) (pg_name (i := 5) sc.nd rfl (by first | exact Or.inl rfl | exact Or.inr rfl)) (pss_one (ps_if (pt_cmpR op_ne (pe_ix (ix_tupK (K := K) rfl) (pv 0) (pe_op op_add (pe_op op_mul (pv 2) (pv 1)) (pv 5)) (fun _ _ => rfl)) (pe_op op_add (pe_op op_mul (pv 3) (pv 1)) (pe_op op_modN (pe_op op_add (pv 4) (pv 5)) (pv 1))) (nomark _)) (pss_one (ps_ret pe_bl)) pss_nil)))
  (pss_one (ps_ret pe_bl))))), ?_⟩), F.bindsN fun _ _ _ _ _ _ us hl => match us, hl with | [_, _, _], _ => rfl⟩
  · obtain ⟨a, p, n, m, i, rfl, _⟩ := h
    rfl
  · obtain ⟨a, p, n, m, i, rfl, hp, hP, h1, hmn, hd, hi, kp, hn, k⟩ := h
    obtain ⟨x, hx⟩ := get_of (show i * m < p.length by rw [hP.len]; exact hi)
    have hxn := hP.lt x (List.mem_of_getElem? hx)
    have hkm := kp.at h1 hd hi hx
    have eim : (i : Int) * (m : Int) = ((i * m : Nat) : Int) := by push_cast; rfl
    have c1 : CMul (i : Int) (m : Int) := .inr (by constructor <;> omega)
    refine ⟨_, rfl, _, rfl, _, rfl, _, _, rfl, rfl, c1, a, nv p, _, _, rfl, rfl, hp.t, (by rw [eim]; exact nv_at hx), ?_⟩
    refine ⟨_, rfl, _, _, rfl, ⟨by omega, by omega⟩, fun T hT => ?_⟩
    refine ⟨T, _, rfl, SqT.of upd_same, rfl, _, _, rfl, _, _, rfl, rfl, ?_⟩
    refine ⟨_, rfl, (m : Int), rfl, by omega, by omega, for_it (walk_rng (n := m)) (fun j σ H' => (∃ u, σ = [some (.ref a), some (.int (m : Int)), some (.int (i : Int)), some (.int ((x : Int) / (m : Int))), some (.int ((x : Int) % (m : Int))), u]) ∧ Same H H') ?_ ?_ ?_ ?_⟩
    · exact ⟨⟨none, rfl⟩, same_new hT⟩
    · intros; trivial
    · rintro j y σ H2 H3 hj ⟨⟨u, rfl⟩, s2⟩ ⟨rfl, rfl⟩
      have e5 : (i : Int) * (m : Int) + (j : Int) = ((i * m + j : Nat) : Int) := by push_cast; rfl
      have e6 : (x : Int) / (m : Int) * (m : Int) + ((x : Int) % (m : Int) + (j : Int)).fmod (m : Int) = ((x / m * m + (x % m + j) % m : Nat) : Int) := by
        rw [Int.fmod_eq_emod_of_nonneg _ (by omega)]
        push_cast
        rfl
      refine ⟨_, rfl, _, rfl, _, rfl, _, _, rfl, rfl, c1, _, rfl, _, _, rfl, rfl, a, nv p, _, _, rfl, rfl, (hp.mono s2).t, (by rw [e5]; exact nv_at (hkm j hj)), ?_⟩
      have c2 : CMul ((x : Int) / (m : Int)) (m : Int) := .inr (by constructor <;> omega)
      refine ⟨_, rfl, _, rfl, _, _, rfl, rfl, c2, _, rfl, _, rfl, _, _, rfl, rfl, _, rfl, _, _, rfl, rfl, (by omega), _, _, rfl, rfl, ?_⟩
      refine ⟨rfl, _, rfl, iteNS (congrArg V.int e6.symm) ?_⟩
      exact ⟨⟨_, rfl⟩, s2⟩
    · rintro σ H' ⟨_, s2⟩
      exact k _ s2
theorem dn_keeps_marks (c : Ctx K mg) : Dn P w K mg base CX0 2 "keeps_marks" ["perm", "marks"] spKeepsMarks := by
  have f_all := c.f_all
  have f_len := c.f_len
  have f_range := c.f_range
  obtain ⟨f___keeps_spot, fd__keeps_spot, g__keeps_spot, k__keeps_spot, F__keeps_spot, b__keeps_spot⟩ := (dn__keeps_spot (P := P) (w := w) (base := base) c).ex
  have sc := sc_keeps_marks
  obtain ⟨fd, F⟩ := c.D_keeps_marks
  refine ⟨_, fd, c.g_keeps_marks, F.kp, F.ok sc (fun vs H Q E h => ?_) (fun cdv A outer s H vs Q E hr h => ⟨_, PSs.nox ((pss_cons (ps_if (PW.pt (pw_or (pt_cmpR op_lt (pv 1) pe_int (nomark _)) (pw_or1 (pt_cmpR op_ne (pe_op op_modN (pe_callB (call_lenK (K := K) rfl) (by rfl) f_len boot_len (pa_cons (pv 0) pa_nil)) (pv 1)) pe_int (nomark _))))) (pss_one (ps_ret pe_bl)) pss_nil)
  (pss_one (ps_ret (pe_callB (cr_allK (K := K) rfl rfl) (by rfl) f_all (by decide +kernel) (pa_cons (pe_lc (own := [("spot", 2)]) (tt := tYes) rfl sc.nd (pi_range1 (by rfl) f_range (pa_cons (pe_op op_fdivN (pe_callB (call_lenK (K := K) rfl) (by rfl) f_len boot_len (pa_cons (pv 0) pa_nil)) (pv 1)) pa_nil)) (blkOk_by (own := [("spot", 2)]) (N := ["perm", "marks", "spot"]) (sc := defScope s_keeps_marks) (by decide +kernel)) (fun _ _ _ _ _ => (pg_name (i := 2) sc.nd rfl (by first | exact Or.inl rfl | exact Or.inr rfl))) (fun _ _ _ _ _ => pts_nil) (fun _ _ _ _ _ => (pe_call F__keeps_spot (hr.mono (by decide)) (by rfl) g__keeps_spot k__keeps_spot b__keeps_spot nil_v pass0 (pa_cons (pv 0) (pa_cons (pv 1) (pa_cons (pv 2) pa_nil)))))) pa_nil)))))), ?_⟩), F.bindsN fun _ _ _ _ _ _ us hl => match us, hl with | [_, _], _ => rfl⟩
  · obtain ⟨a, p, n, m, rfl, _⟩ := h
    rfl
  · obtain ⟨a, p, n, m, rfl, hp, hP, h1, hd, hn1, kp, hn, k⟩ := h
    have em : ((nv p).length : Int).fmod (m : Int) = 0 := by
      rw [nv_length, hP.len, Int.fmod_eq_emod_of_nonneg _ (by omega)]
      have := Nat.mod_eq_zero_of_dvd hd
      have e := congrArg (fun (z : Nat) => (z : Int)) this
      simpa using e
    have ed : ((nv p).length : Int).fdiv (m : Int) = ((n / m : Nat) : Int) := by
      rw [nv_length, hP.len, Int.fdiv_eq_ediv_of_nonneg _ (by omega)]
      rfl
    have hmn : m ≤ n := Nat.le_of_dvd (by omega) hd
    obtain ⟨q, hqd⟩ : ∃ q, n / m = q := ⟨_, rfl⟩
    have hq : q ≤ n := hqd ▸ Nat.div_le_self _ _
    rw [hqd] at ed
    refine ⟨_, rfl, _, _, rfl, rfl, _, rfl, iteD (fun z => by omega) fun _ => ?_⟩
    refine ⟨_, rfl, a, _, rfl, .inr hp.t, _, rfl, _, _, rfl, rfl, (by omega), rfl, _, rfl, iteNS (congrArg V.int em) ?_⟩
    refine ⟨_, rfl, a, _, rfl, .inr hp.t, _, rfl, _, _, rfl, rfl, ⟨by omega, by omega⟩, _, congrArg (fun z => [V.int z]) ed, by omega, by omega, fun D hD => lc_same (walk_rng (n := (q : Int).toNat)) hD (fun i _ acc => acc = (List.replicate i true).map V.bl) (fun _ _ => rfl) (fun _ _ _ _ _ h => h) (by omega) (fun _ _ => trivial) ?_ ?_⟩
    · rintro i x H1 H2 acc C hi s1 rfl ⟨rfl, rfl⟩ kC
      have him : i * m < n := by
        have e1 := Nat.div_mul_cancel hd
        rw [hqd] at e1
        have e2 : (i + 1) * m ≤ q * m := Nat.mul_le_mul_right m (by omega)
        rw [Nat.add_mul] at e2
        omega
      refine ⟨rfl, _, rfl, _, rfl, _, rfl, a, p, n, m, i, rfl, hp.mono s1, hP, h1, hmn, hd, him, kp, hn, fun H4 s4 => kC _ _ s4 ?_⟩
      · rw [List.replicate_succ', List.map_append]
        rfl
    · rintro H1 acc s1 e1 l1 rfl
      refine ⟨D, _, rfl, SqL.of e1, bl_of ?_ (k _ s1)⟩
      rw [List.all_eq_true]
      intro x hx
      exact List.eq_of_mem_replicate hx
end
end K63
set_option maxRecDepth 100000
set_option maxHeartbeats 2000000
namespace K63
open PySem PySem.Spec PyProof.Rows L2 TB TM
/-- the fields of a puzzle -/
def pzF (n m : Nat) (na pa : Addr) : List (Str × V) := [("points", .int (n : Int)), ("marks", .int (m : Int)), ("spots", .int ((n : Int).fdiv (m : Int))), ("names", .ref na), ("perms", .ref pa), ("_links", .non)]
/-- a puzzle of n points, m marks, the names zs, the perms ps stands at a -/
def Pz (K : PySem.W.Frag) (H : Hp) (a : Addr) (n m : Nat) (zs : List Str) (ps : List (List Nat)) : Prop :=
  ∃ (dx na pa : Addr) (xs : List V), H a = some (.ins (He.ga K "Puzzle") dx (pzF n m na pa)) ∧ H na = some (.tup (zs.map V.str)) ∧ H pa = some (.tup xs) ∧ Rw H xs ps ∧ zs.length = ps.length
theorem Pz.mono {K : PySem.W.Frag} {H H' : Hp} {a : Addr} {n m : Nat} {zs : List Str} {ps : List (List Nat)} (h : Pz K H a n m zs ps) (s : Same H H') : Pz K H' a n m zs ps := by
  obtain ⟨dx, na, pa, xs, h1, h2, h3, h4, h5⟩ := h
  exact ⟨dx, na, pa, xs, s a _ h1, s na _ h2, s pa _ h3, h4.mono s, h5⟩
/-- what the perms of a puzzle are -/
def Good (n m : Nat) (ps : List (List Nat)) : Prop := 1 ≤ n ∧ n ≤ 24 ∧ 1 ≤ m ∧ m ∣ n ∧ ps.length ≤ 8 ∧ (∀ p ∈ ps, IsP n p) ∧ ∀ p ∈ ps, KM m n p
/-- each perm and its inverse -/
def gens (ps : List (List Nat)) : List (List Nat) := ps.flatMap fun p => [p, inv p]
theorem gens_length : ∀ ps : List (List Nat), (gens ps).length = 2 * ps.length
  | [] => rfl
  | p :: ps => by
    unfold gens
    rw [List.flatMap_cons, List.length_append]
    have := gens_length ps
    unfold gens at this
    rw [this]
    simp only [List.length_cons, List.length_nil]
    omega
theorem gens_take {ps : List (List Nat)} {i : Nat} {p : List Nat} (e : ps[i]? = some p) : gens (ps.take (i + 1)) = gens (ps.take i) ++ [p] ++ [inv p] := by
  unfold gens
  rw [List.take_succ, e, List.flatMap_append]
  simp
theorem gens_isP {n : Nat} {ps : List (List Nat)} (h : ∀ p ∈ ps, IsP n p) : ∀ g ∈ gens ps, IsP n g := fun g hg => by
  unfold gens at hg
  obtain ⟨p, hp, hg⟩ := List.mem_flatMap.mp hg
  have : g = p ∨ g = inv p := by simpa using hg
  rcases this with e | e <;> rw [e]
  · exact h p hp
  · exact (h p hp).inv
/-- pairs of a step and a perm -/
def St (H : Hp) (xs : List V) (gs : List (List Nat)) : Prop := xs.length = gs.length ∧ ∀ (i : Nat) (g : List Nat), gs[i]? = some g → ∃ (q a : Addr) (u : V), xs[i]? = some (.ref q) ∧ H q = some (.tup [u, .ref a]) ∧ Tn H a g
theorem St.tps {H H' : Hp} {xs : List V} {gs : List (List Nat)} (h : St H xs gs) (s : Tps H H') : St H' xs gs := ⟨h.1, fun i g e => by
  obtain ⟨q, a, u, h1, h2, h3⟩ := h.2 i g e
  exact ⟨q, a, u, h1, s _ _ h2, s.tn h3⟩⟩
theorem St.nil {H : Hp} : St H [] [] := ⟨rfl, fun _ _ h => by cases h⟩
theorem St.snoc {H : Hp} {xs : List V} {gs : List (List Nat)} {q a : Addr} {u : V} {g : List Nat} (h : St H xs gs) (hq : H q = some (.tup [u, .ref a])) (t : Tn H a g) : St H (xs ++ [.ref q]) (gs ++ [g]) := by
  refine ⟨by rw [List.length_append, List.length_append, h.1]; rfl, fun i g2 e => ?_⟩
  by_cases z : i < gs.length
  · rw [List.getElem?_append_left z] at e
    obtain ⟨q2, a2, u2, h1, h2⟩ := h.2 i g2 e
    exact ⟨q2, a2, u2, by rw [List.getElem?_append_left (by rw [h.1]; exact z)]; exact h1, h2⟩
  · rw [List.getElem?_append_right (by omega)] at e
    have hi : i - gs.length = 0 := by
      have := lt_of_get e
      simp only [List.length_cons, List.length_nil] at this
      omega
    rw [hi] at e
    cases e
    exact ⟨q, a, u, by rw [List.getElem?_append_right (by rw [h.1]; omega), h.1, hi]; rfl, hq, t⟩
def spStepsOf (K : PySem.W.Frag) : Sp := fun vs H Q _ => ∃ (a : Addr) (n m : Nat) (zs : List Str) (ps : List (List Nat)), vs = [.ref a] ∧ Pz K H a n m zs ps ∧ Good n m ps ∧ ∀ l xs H', Same H H' → H' l = some (.lst xs) → St H' xs (gens ps) → Q (.ref l) H'
def spStepPerms (K : PySem.W.Frag) : Sp := fun vs H Q _ => ∃ (a : Addr) (b : Bool) (n m : Nat) (zs : List Str) (ps : List (List Nat)), vs = [.ref a, .bl b] ∧ Pz K H a n m zs ps ∧ Good n m ps ∧ ∀ l xs H', Same H H' → H' l = some (.lst xs) → Rw H' xs (if b then (gens ps).map inv else gens ps) → Q (.ref l) H'
/-- all powers of b up to the d-th are at most 4096 -/
def canS (b d : Nat) : Bool := (List.range d).all fun i => decide (b ^ (i + 1) ≤ 4096)
def spCanSearch : Sp := fun vs H Q _ => ∃ t d : Nat, vs = [.int (t : Int), .int (d : Int)] ∧ t ≤ 1000 ∧ d ≤ 1000 ∧ Q (.bl (canS (2 * t) d)) H
/-- the form of a name: one to eight small letters -/
def NameOk (z : Str) : Prop := 1 ≤ z.cps.size ∧ z.cps.size ≤ 8 ∧ ∀ (i c : Nat), z.cps[i]? = some c → 97 ≤ c ∧ c ≤ 122
theorem sing_le {a b : Nat} (h : a ≤ b) : (!decide ([b] < [a])) = true := by
  have e : ¬ [b] < [a] := by
    intro z
    rw [List.cons_lt_cons_iff] at z
    rcases z with z | ⟨_, z⟩
    · omega
    · cases z
  rw [decide_eq_false e]
  rfl
def spIsName : Sp := fun vs H Q _ => ∃ z : Str, vs = [.str z] ∧ NameOk z ∧ ∀ H', Same H H' → Q (.bl true) H'
def spPzLen (K : PySem.W.Frag) : Sp := fun vs H Q _ => ∃ (a : Addr) (n m : Nat) (zs : List Str) (ps : List (List Nat)), vs = [.ref a] ∧ Pz K H a n m zs ps ∧ Q (.int (ps.length : Int)) H
def spIsPosition (K : PySem.W.Frag) : Sp := fun vs H Q _ => ∃ (a b : Addr) (n m : Nat) (zs : List Str) (ps : List (List Nat)) (p : List Nat), vs = [.ref a, .ref b] ∧ Pz K H a n m zs ps ∧ Good n m ps ∧ Tn H b p ∧ IsP n p ∧ KM m n p ∧ ∀ H', Same H H' → Q (.bl true) H'
section
variable {P : Program} {w : World} {K : PySem.W.Frag} {mg : Str → Option Value} {base : Heap}
theorem dn_steps_of (c : Ctx K mg) : Dn P w K mg base CX0 2 "steps_of" ["puzzle"] (spStepsOf K) := by
  have f_zip := c.f_zip
  obtain ⟨f__inverse, fd_inverse, g_inverse, k_inverse, F_inverse, b_inverse⟩ := (dn_inverse (P := P) (w := w) (base := base) c).ex
  have sc := sc_steps_of
  obtain ⟨fd, F⟩ := c.D_steps_of
  refine ⟨_, fd, c.g_steps_of, F.kp, F.ok sc (fun vs H Q E h => ?_) (fun cdv A outer s H vs Q E hr h => ⟨_, PSs.nox ((pss_cons (ps_set (i := 1) sc.nd rfl (by first | exact Or.inl rfl | exact Or.inr rfl) (pe_lst pa_nil))
  (pss_cons (ps_for PassesOwn.never rfl (RZ.pi_zipA (by rfl) f_zip (pa_cons (pe_fldK (K := K) rfl (pv 0) rfl) (pa_cons (pe_fldK (K := K) rfl (pv 0) rfl) pa_nil))) (pg_tupK (K := K) (n := 2) rfl rfl (pgs_cons (pg_name (i := 2) sc.nd rfl (by first | exact Or.inl rfl | exact Or.inr rfl)) (pgs_cons (pg_name (i := 3) sc.nd rfl (by first | exact Or.inl rfl | exact Or.inr rfl)) pgs_nil))) (pss_cons (ps_expr (pe_bm PySem.F.plainAttrs_list PySem.F.slot_list_append PySem.F.type_list_append mt_append (pv 1) (pa_cons (pe_tup (pa_cons (pe_tup (pa_cons (pv 2) (pa_cons pe_int pa_nil))) (pa_cons (pv 3) pa_nil))) pa_nil)))
  (pss_one (ps_expr (pe_bm PySem.F.plainAttrs_list PySem.F.slot_list_append PySem.F.type_list_append mt_append (pv 1) (pa_cons (pe_tup (pa_cons (pe_tup (pa_cons (pv 2) (pa_cons (pe_un un_neg pe_int) pa_nil))) (pa_cons (pe_call F_inverse (hr.mono (by decide)) (by rfl) g_inverse k_inverse b_inverse nil_v pass0 (pa_cons (pv 3) pa_nil)) pa_nil))) pa_nil))))))
  (pss_one (ps_ret (pv 1)))))), ?_⟩), F.bindsN fun _ _ _ _ _ _ us hl => match us, hl with | [_], _ => rfl⟩
  · obtain ⟨a, n, m, zs, ps, rfl, _⟩ := h
    rfl
  · obtain ⟨a, n, m, zs, ps, rfl, hz, hg, k⟩ := h
    obtain ⟨dx, na, pa, xs, h1, h2, h3, h4, h5⟩ := id hz
    refine ⟨by decide +kernel, fun D hD => ?_⟩
    have s0 : Same H (upd H D (.lst [])) := same_new hD
    refine ⟨_, rfl, a, _, dx, _, _, rfl, s0 _ _ h1, c.cls, c.n_names, rfl, _, rfl, a, _, dx, _, _, rfl, s0 _ _ h1, c.cls, c.n_perms, rfl, na, pa, zs.map V.str, xs, rfl, .inr ⟨SqT.of (s0 _ _ h2), SqT.of (s0 _ _ h3), ?_⟩⟩
    refine RZ.for_zipT (xs := zs.map V.str) (ys := xs) (by rw [List.length_map, h5]; exact h4.1.symm) (fun i σ H' => (∃ x y, σ = [some (.ref a), some (.ref D), x, y]) ∧ Same H H' ∧ ∃ ys, H' D = some (.lst ys) ∧ St H' ys (gens (ps.take i))) ?_ ?_ ?_ ?_
    · exact ⟨⟨none, none, rfl⟩, s0, [], upd_same, St.nil⟩
    · rintro i σ H' ⟨_, s1, _⟩
      exact ⟨SqT.of (s1 _ _ h2), SqT.of (s1 _ _ h3)⟩
    · rintro i u v T σ H1 hu hv ⟨⟨x, y, rfl⟩, s1, ys, e1, st1⟩ hT
      obtain ⟨b, p, rfl, hp, tp⟩ := h4.get hv
      refine ⟨T, _, rfl, SqT.of upd_same, rfl, _, _, rfl, _, _, rfl, rfl, ?_⟩
      have hi : i < ps.length := lt_of_get hp
      have hpn : ∀ p ∈ ps, IsP n p := hg.2.2.2.2.2.1
      have hP := hpn p (List.mem_of_getElem? hp)
      have s2 : Same H1 (upd H1 T (.tup [u, .ref b])) := same_new hT
      have l1 : ys.length = 2 * i := by
        rw [st1.1, gens_length, List.length_take]
        omega
      have h8 : ps.length ≤ 8 := hg.2.2.2.2.1
      refine ⟨_, rfl, tyL (s2 _ _ e1), _, rfl, szk rfl, fun q1 hq1 => ⟨_, rfl, szk rfl, fun q2 hq2 => ?_⟩⟩
      have s3 := s2.trans (same_new (o := .tup [u, .int 1]) hq1)
      have s4 := s3.trans (same_new (o := .tup [.ref q1, .ref b]) hq2)
      refine ⟨D, ys, _, rfl, rfl, s4 _ _ e1, szL _ (by omega), ?_⟩
      have e5 : upd (upd (upd (upd H1 T (.tup [u, .ref b])) q1 (.tup [u, .int 1])) q2 (.tup [.ref q1, .ref b])) D (.lst (ys ++ [.ref q2])) D = some (.lst (ys ++ [.ref q2])) := upd_same
      have t5 := Tps.upd (ys := ys ++ [.ref q2]) (s4 _ _ e1)
      have st5 := (st1.tps (Tps.of s4)).snoc (q := q2) upd_same (tp.mono (s1.trans s4))
      replace st5 := st5.tps t5
      have s5 : Same H (upd (upd (upd (upd H1 T (.tup [u, .ref b])) q1 (.tup [u, .int 1])) q2 (.tup [.ref q1, .ref b])) D (.lst (ys ++ [.ref q2]))) := Same.upd_of (s1.trans s4) hD
      generalize upd (upd (upd (upd H1 T (.tup [u, .ref b])) q1 (.tup [u, .int 1])) q2 (.tup [.ref q1, .ref b])) D (.lst (ys ++ [.ref q2])) = H5 at e5 st5 s5 ⊢
      refine ⟨_, rfl, tyL e5, _, rfl, _, rfl, szk rfl, fun q3 hq3 => ⟨_, rfl, b, p, n, rfl, ?_, hP, by have := hg.2.1; omega, fun c2 H6 s6 t6 => ⟨szk rfl, fun q4 hq4 => ?_⟩⟩⟩
      · exact (tp.mono s5).mono (same_new hq3)
      · have s7 := (same_new (o := .tup [u, .int (-1)]) hq3).trans s6
        have s8 := s7.trans (same_new (o := .tup [.ref q3, .ref c2]) hq4)
        refine ⟨D, _, _, rfl, rfl, s8 _ _ e5, szL _ (by rw [List.length_append, l1]; simp; omega), ⟨_, _, rfl⟩, Same.upd_of (s5.trans s8) hD, _, upd_same, ?_⟩
        rw [gens_take hp]
        exact ((st5.tps (Tps.of s8)).snoc (q := q4) upd_same (t6.mono (same_new hq4))).tps (Tps.upd (s8 _ _ e5))
    · rintro σ H' ⟨⟨x, y, rfl⟩, s1, ys, e1, st1⟩
      rw [List.length_map, h5, List.take_length] at st1
      exact ⟨_, rfl, k _ _ _ s1 e1 st1⟩
theorem dn_step_perms (c : Ctx K mg) : Dn P w K mg base CX0 3 "step_perms" ["puzzle", "back"] (spStepPerms K) := by
  obtain ⟨f__inverse, fd_inverse, g_inverse, k_inverse, F_inverse, b_inverse⟩ := (dn_inverse (P := P) (w := w) (base := base) c).ex
  obtain ⟨f__steps_of, fd_steps_of, g_steps_of, k_steps_of, F_steps_of, b_steps_of⟩ := (dn_steps_of (P := P) (w := w) (base := base) c).ex
  have sc := sc_step_perms
  obtain ⟨fd, F⟩ := c.D_step_perms
  refine ⟨_, fd, c.g_step_perms, F.kp, F.ok sc (fun vs H Q E h => ?_) (fun cdv A outer s H vs Q E hr h => ⟨_, PSs.nox ((pss_cons (ps_setLc (i := 2) (own := [("_", 3), ("perm", 4)]) (tt := tYes) rfl sc.nd rfl rfl (sw_true rfl rfl rfl (by decide +kernel)) (pi_listK (K := K) rfl (pe_call F_steps_of (hr.mono (by decide)) (by rfl) g_steps_of k_steps_of b_steps_of nil_v pass0 (pa_cons (pv 0) pa_nil))) (blkOk_by (own := [("_", 3), ("perm", 4)]) (N := ["puzzle", "back", "perms", "_", "perm"]) (sc := defScope s_step_perms) (by decide +kernel)) (fun _ _ _ _ _ => (pg_tupK (K := K) (n := 2) rfl rfl (pgs_cons (pg_name (i := 3) sc.nd rfl (by first | exact Or.inl rfl | exact Or.inr rfl)) (pgs_cons (pg_name (i := 4) sc.nd rfl (by first | exact Or.inl rfl | exact Or.inr rfl)) pgs_nil)))) (fun _ _ _ _ _ => pts_nil) (fun _ _ _ _ _ => (pv 4)))
  (pss_cons (ps_if (pt_val (pv 1)) (pss_one (ps_ret (pe_lc (own := [("perm", 4)]) (tt := tYes) rfl sc.nd (pi_listK (K := K) rfl (pv 2)) (blkOk_by (own := [("perm", 4)]) (N := ["puzzle", "back", "perms", "_", "perm"]) (sc := defScope s_step_perms) (by decide +kernel)) (fun _ _ _ _ _ => (pg_name (i := 4) sc.nd rfl (by first | exact Or.inl rfl | exact Or.inr rfl))) (fun _ _ _ _ _ => pts_nil) (fun _ _ _ _ _ => (pe_call F_inverse (hr.mono (by decide)) (by rfl) g_inverse k_inverse b_inverse nil_v pass0 (pa_cons (pv 4) pa_nil)))))) pss_nil)
  (pss_one (ps_ret (pv 2)))))), ?_⟩), F.bindsN fun _ _ _ _ _ _ us hl => match us, hl with | [_, _], _ => rfl⟩
  · obtain ⟨a, b, n, m, zs, ps, rfl, _⟩ := h
    rfl
  · obtain ⟨a, b, n, m, zs, ps, rfl, hz, hg, k⟩ := h
    have hlen : (gens ps).length ≤ 16 := by
      rw [gens_length]
      have := hg.2.2.2.2.1
      omega
    have hP : ∀ g ∈ gens ps, IsP n g := gens_isP hg.2.2.2.2.2.1
    refine ⟨_, rfl, a, n, m, zs, ps, rfl, hz, hg, fun l xs H1 s1 e1 st1 => ⟨l, rfl, ⟨_, SqL.of e1⟩, fun D hD => lc_same (walk_list (xs := xs)) hD (fun i H acc => Rw H acc ((gens ps).take i)) (fun _ _ => Rw.nil) (fun _ _ _ _ t r => t.rw r) (by rw [st1.1]; omega) (fun H s => SqL.of (s _ _ e1)) ?_ ?_⟩⟩
    · rintro i x H2 H3 acc C hi s2 r2 ⟨rfl, hx⟩ kC
      obtain ⟨g, eg⟩ := get_of (show i < (gens ps).length by rw [← st1.1]; exact hi)
      obtain ⟨q, a2, u, h1, h2, h3⟩ := st1.2 i g eg
      rw [h1] at hx
      obtain rfl : V.ref q = x := Option.some.inj hx
      refine ⟨q, _, rfl, SqT.of (s2 _ _ h2), rfl, _, _, rfl, _, _, rfl, rfl, rfl, _, rfl, kC _ _ (fun _ _ h => h) (r2.take eg (h3.mono s2))⟩
    · rintro H2 acc s2 e2 l2 r2
      rw [st1.1, List.take_length] at r2
      refine ⟨_, rfl, b, rfl, iteB (fun hb => ?_) (fun hb => ?_)⟩
      · subst hb
        refine ⟨_, rfl, D, rfl, ⟨_, SqL.of e2⟩, fun D2 hD2 => lc_same (walk_list (xs := acc)) hD2 (fun i H acc => Rw H acc (((gens ps).map inv).take i)) (fun _ _ => Rw.nil) (fun _ _ _ _ t r => t.rw r) (by rw [r2.1]; omega) (fun H s => SqL.of (s _ _ e2)) ?_ ?_⟩
        · rintro i x H4 H5 acc2 C hi s4 r4 ⟨rfl, hx⟩ kC
          obtain ⟨b2, g, rfl, eg, tg⟩ := r2.get hx
          have hgP := hP g (List.mem_of_getElem? eg)
          refine ⟨rfl, _, rfl, b2, g, n, rfl, tg.mono s4, hgP, by have := hg.2.1; omega, fun c6 H6 s6 t6 => kC _ _ s6 ?_⟩
          exact (r4.mono s6).take (by rw [List.getElem?_map, eg]; rfl) t6
        · rintro H4 acc2 s4 e4 l4 r4
          rw [r2.1, ← List.length_map (f := inv), List.take_length] at r4
          exact k _ _ _ ((s1.trans s2).trans s4) e4 r4
      · subst hb
        exact ⟨_, rfl, k _ _ _ (s1.trans s2) e2 r2⟩
theorem dn_can_search (c : Ctx K mg) : Dn P w K mg base CX0 1 "can_search" ["turns", "depth"] spCanSearch := by
  have f_range := c.f_range
  obtain ⟨t_MOST_BALL, c_MOST_BALL⟩ := c.c_MOST_BALL
  have sc := sc_can_search
  obtain ⟨fd, F⟩ := c.D_can_search
  refine ⟨_, fd, c.g_can_search, F.kp, F.ok sc (fun vs H Q E h => ?_) (fun cdv A outer s H vs Q E hr h => ⟨_, PSs.nox ((pss_cons (ps_set (i := 2) sc.nd rfl (by first | exact Or.inl rfl | exact Or.inr rfl) (pe_op op_mul pe_int (pv 0)))
  (pss_cons (ps_set (i := 3) sc.nd rfl (by first | exact Or.inl rfl | exact Or.inr rfl) pe_int)
  (pss_cons (ps_for PassesOwn.never rfl (pi_range1 (by rfl) f_range (pa_cons (pv 1) pa_nil)) (pg_name (i := 4) sc.nd rfl (by first | exact Or.inl rfl | exact Or.inr rfl)) (pss_cons (ps_set (i := 3) sc.nd rfl (by first | exact Or.inl rfl | exact Or.inr rfl) (pe_op op_mul (pv 3) (pv 2)))
  (pss_one (ps_if (pt_cmpR op_gt (pv 3) (pe_glob (v := .int 4096) rfl c_MOST_BALL ⟨_, rfl⟩) (nomark _)) (pss_one (ps_ret pe_bl)) pss_nil))))
  (pss_one (ps_ret pe_bl)))))), ?_⟩), F.bindsN fun _ _ _ _ _ _ us hl => match us, hl with | [_, _], _ => rfl⟩
  · obtain ⟨t, d, rfl, _⟩ := h
    rfl
  · obtain ⟨t, d, rfl, ht, hd, k⟩ := h
    refine ⟨_, rfl, _, _, rfl, rfl, (.inl (by decide)), _, rfl, (d : Int), rfl, by omega, by omega, for_it (walk_rng (n := d)) (fun j σ H' => H' = H ∧ (∃ u, σ = [some (.int (t : Int)), some (.int (d : Int)), some (.int (2 * (t : Int))), some (.int (((2 * t) ^ j : Nat) : Int)), u]) ∧ ∀ i, i < j → (2 * t) ^ (i + 1) ≤ 4096) ?_ ?_ ?_ ?_⟩
    · exact ⟨rfl, ⟨none, rfl⟩, fun i hi => by omega⟩
    · intros; trivial
    · rintro j y σ H2 H3 hj ⟨rfl, ⟨u, rfl⟩, hle⟩ ⟨rfl, rfl⟩
      have ep : (((2 * t) ^ j : Nat) : Int) * (2 * (t : Int)) = (((2 * t) ^ (j + 1) : Nat) : Int) := by
        rw [Nat.pow_succ]
        push_cast
        rfl
      refine ⟨_, rfl, _, rfl, _, _, rfl, rfl, (.inr (by constructor <;> omega)), _, rfl, _, _, rfl, rfl, _, rfl, iteD (fun h0 => ?_) (fun h0 => ?_)⟩
      · rw [ep] at h0
        refine bl_of (b := canS (2 * t) d) ?_ k
        symm
        unfold canS
        rw [List.all_eq_false]
        exact ⟨j, List.mem_range.mpr hj, by rw [decide_eq_true_eq]; omega⟩
      · rw [ep] at h0
        refine ⟨rfl, ⟨some (V.int (j : Int)), ?_⟩, fun i hi => ?_⟩
        · show [some (V.int (t : Int)), some (V.int (d : Int)), some (V.int (2 * (t : Int))), some (V.int ((((2 * t) ^ j : Nat) : Int) * (2 * (t : Int)))), some (V.int (j : Int))] = _
          rw [ep]
        · by_cases z : i = j
          · subst z
            omega
          · exact hle i (by omega)
    · rintro σ H' ⟨rfl, ⟨u, rfl⟩, hle⟩
      refine bl_of (b := canS (2 * t) d) ?_ k
      symm
      unfold canS
      rw [List.all_eq_true]
      intro i hi
      exact decide_eq_true (hle i (List.mem_range.mp hi))
theorem dn_is_name (c : Ctx K mg) : Dn P w K mg base CX0 1 "is_name" ["value"] spIsName := by
  have f_all := c.f_all
  have f_isinstance := c.f_isinstance
  have f_len := c.f_len
  have f_str := c.f_str
  obtain ⟨t_MOST_LETTERS, c_MOST_LETTERS⟩ := c.c_MOST_LETTERS
  have sc := sc_is_name
  obtain ⟨fd, F⟩ := c.D_is_name
  refine ⟨_, fd, c.g_is_name, F.kp, F.ok sc (fun vs H Q E h => ?_) (fun cdv A outer s H vs Q E hr h => ⟨_, PSs.nox ((pss_cons (ps_if (PW.pt (pw_or (pt_not (pt_val (pe_callB (call_isiK1 (K := K) rfl) (by rfl) f_isinstance (by decide +kernel) (pa_cons (pv 0) (pa_cons (pe_bltn (v := .ty "str") (by rfl) f_str boot_str rfl) pa_nil))))) (pw_or1 (pt_not (pt_chain op_le op_le pe_int (pe_callB call_len_str (by rfl) f_len boot_len (pa_cons (pv 0) pa_nil)) (pe_glob (v := .int 8) rfl c_MOST_LETTERS ⟨_, rfl⟩)))))) (pss_one (ps_ret pe_bl)) pss_nil)
  (pss_one (ps_ret (pe_callB (cr_allK (K := K) rfl rfl) (by rfl) f_all (by decide +kernel) (pa_cons (pe_lc (own := [("letter", 1)]) (tt := tYes) rfl sc.nd (pi_str (pv 0)) (blkOk_by (own := [("letter", 1)]) (N := ["value", "letter"]) (sc := defScope s_is_name) (by decide +kernel)) (fun _ _ _ _ _ => (pg_name (i := 1) sc.nd rfl (by first | exact Or.inl rfl | exact Or.inr rfl))) (fun _ _ _ _ _ => pts_nil) (fun _ _ _ _ _ => (pe_chain op_le_str op_le_str pe_str (pv 1) pe_str))) pa_nil)))))), ?_⟩), F.bindsN fun _ _ _ _ _ _ us hl => match us, hl with | [_], _ => rfl⟩
  · obtain ⟨z, rfl, _⟩ := h
    rfl
  · obtain ⟨z, rfl, hz, k⟩ := h
    refine ⟨_, rfl, _, _, _, _, true, rfl, .ty _, .base (.str z), kit_ty (by decide +kernel), _, rfl, ?_⟩
    have e8 : (z.length : Int) = (z.cps.size : Int) := rfl
    refine ⟨_, rfl, z, rfl, sz _ (by show z.cps.size ≤ 100000; have := hz.2.1; omega), _, _, rfl, rfl, _, rfl, iteD (fun _ => ?_) (fun h0 => absurd (by rw [e8]; have := hz.1; omega) h0)⟩
    refine ⟨_, _, rfl, rfl, _, rfl, iteNS (by rw [e8]; have := hz.2.1; omega) ?_⟩
    refine ⟨_, rfl, _, rfl, fun D hD => lc_same (walk_str (z := z)) hD (fun i _ acc => acc = (List.replicate i true).map V.bl) (fun _ _ => rfl) (fun _ _ _ _ _ h => h) (by have := hz.2.1; omega) (fun _ _ => trivial) ?_ ?_⟩
    · rintro i x H1 H2 acc C hi s1 rfl ⟨rfl, ch, hch, rfl⟩ kC
      obtain ⟨g1, g2⟩ := hz.2.2 i ch hch
      refine ⟨rfl, _, rfl, _, _, rfl, rfl, _, rfl, ?_⟩
      have ea : (Str.ofString "a").cps.toList = [97] := by decide +kernel
      have ez : (Str.ofString "z").cps.toList = [122] := by decide +kernel
      have ka : (!decide ((⟨#[ch]⟩ : Str).cps.toList < (Str.ofString "a").cps.toList)) = true := by rw [ea]; exact sing_le g1
      have kz : (!decide ((Str.ofString "z").cps.toList < (⟨#[ch]⟩ : Str).cps.toList)) = true := by rw [ez]; exact sing_le g2
      rw [if_pos ka]
      refine ⟨_, _, rfl, rfl, ?_⟩
      rw [kz]
      refine kC _ _ (fun _ _ h => h) ?_
      rw [List.replicate_succ', List.map_append]
      rfl
    · rintro H1 acc s1 e1 l1 rfl
      refine ⟨D, _, rfl, SqL.of e1, bl_of ?_ (k _ s1)⟩
      rw [List.all_eq_true]
      intro x hx
      exact List.eq_of_mem_replicate hx
theorem dn_Puzzle___len__ (c : Ctx K mg) : Mn P w K mg base CX0 1 (He.ga K "Puzzle") "__len__" ["self"] (spPzLen K) := by
  have f_len := c.f_len
  have sc := sc_Puzzle___len__
  obtain ⟨fd, F⟩ := c.D_Puzzle___len__
  refine ⟨_, fd, c.m_Puzzle___len__, F.ok sc (fun vs H Q E h => ?_) (fun cdv A outer s H vs Q E hr h => ⟨_, PSs.nox ((pss_one (ps_ret (pe_callB (call_lenK (K := K) rfl) (by rfl) f_len boot_len (pa_cons (pe_fldK (K := K) rfl (pv 0) rfl) pa_nil))))), ?_⟩), F.bindsN fun _ _ _ _ _ _ us hl => match us, hl with | [_], _ => rfl⟩
  · obtain ⟨a, n, m, zs, ps, rfl, _⟩ := h
    rfl
  · obtain ⟨a, n, m, zs, ps, rfl, hz, k⟩ := h
    obtain ⟨dx, na, pa, xs, h1, h2, h3, h4, h5⟩ := id hz
    exact ⟨_, rfl, a, _, dx, _, _, rfl, h1, c.cls, c.n_names, rfl, na, _, rfl, .inr (SqT.of h2), (by rw [List.length_map, h5]; exact k)⟩
theorem dn_Puzzle_is_position (c : Ctx K mg) : Mn P w K mg base CX0 4 (He.ga K "Puzzle") "is_position" ["self", "value"] (spIsPosition K) := by
  obtain ⟨f__keeps_marks, fd_keeps_marks, g_keeps_marks, k_keeps_marks, F_keeps_marks, b_keeps_marks⟩ := (dn_keeps_marks (P := P) (w := w) (base := base) c).ex
  obtain ⟨f__is_perm, fd_is_perm, g_is_perm, k_is_perm, F_is_perm, b_is_perm⟩ := (dn_is_perm (P := P) (w := w) (base := base) c).ex
  have sc := sc_Puzzle_is_position
  obtain ⟨fd, F⟩ := c.D_Puzzle_is_position
  refine ⟨_, fd, c.m_Puzzle_is_position, F.ok sc (fun vs H Q E h => ?_) (fun cdv A outer s H vs Q E hr h => ⟨_, PSs.nox ((pss_one (ps_ret (pe_and (pe_call F_is_perm (hr.mono (by decide)) (by rfl) g_is_perm k_is_perm b_is_perm nil_v pass0 (pa_cons (pv 1) (pa_cons (pe_fldK (K := K) rfl (pv 0) rfl) pa_nil))) (pe_one (pe_call F_keeps_marks (hr.mono (by decide)) (by rfl) g_keeps_marks k_keeps_marks b_keeps_marks nil_v pass0 (pa_cons (pv 1) (pa_cons (pe_fldK (K := K) rfl (pv 0) rfl) pa_nil)))))))), ?_⟩), F.bindsN fun _ _ _ _ _ _ us hl => match us, hl with | [_, _], _ => rfl⟩
  · obtain ⟨a, b, n, m, zs, ps, p, rfl, _⟩ := h
    rfl
  · obtain ⟨a, b, n, m, zs, ps, p, rfl, hz, hg, hp, hP, kp, k⟩ := h
    obtain ⟨dx, na, pa, xs, h1, h2, h3, h4, h5⟩ := id hz
    have h24 := hg.2.1
    refine ⟨_, rfl, _, rfl, a, _, dx, _, _, rfl, h1, c.cls, c.n_points, rfl, b, p, n, rfl, hp, hP, hg.1, by omega, fun H1 s1 => ⟨_, rfl, ?_⟩⟩
    exact ⟨_, rfl, _, rfl, a, _, dx, _, _, rfl, s1 _ _ h1, c.cls, c.n_marks, rfl, b, p, n, m, rfl, hp.mono s1, hP, hg.2.2.1, hg.2.2.2.1, hg.1, kp, by omega, fun H2 s2 => k _ (s1.trans s2)⟩
end
end K63
set_option maxRecDepth 100000
set_option maxHeartbeats 2000000
namespace K63
open PySem PySem.Spec PyProof.Rows L2 TB TM
/-- the pairs of a dict that holds a set of positions -/
def km (S : List (List Nat)) : List (List Key × V) := S.map fun p => (nk p, V.non)
theorem km_length (S : List (List Nat)) : (km S).length = S.length := by unfold km; rw [List.length_map]
theorem km_any (S : List (List Nat)) (p : List Nat) : ((km S).any fun kv => decide (kv.1 = nk p)) = decide (p ∈ S) := by
  unfold km
  rw [List.any_map, Bool.eq_iff_iff, List.any_eq_true, decide_eq_true_eq]
  constructor
  · rintro ⟨q, hq, e⟩
    have e2 : nk q = nk p := of_decide_eq_true e
    rw [← nk_inj e2]
    exact hq
  · intro h
    exact ⟨p, h, decide_eq_true rfl⟩
theorem km_get (S : List (List Nat)) (p : List Nat) : (valV (km S) (nk p)).isSome = decide (p ∈ S) := by rw [← valV_any, km_any]
theorem km_put (S : List (List Nat)) (p : List Nat) : putK (km S) (nk p) V.non = km (if p ∈ S then S else S ++ [p]) := by
  unfold putK
  rw [km_any]
  by_cases h : p ∈ S
  · rw [decide_eq_true h, if_pos rfl, if_pos h]
    unfold km
    rw [List.map_map]
    refine List.map_congr_left fun q hq => ?_
    show (if nk q = nk p then (nk q, V.non) else (nk q, V.non)) = (nk q, V.non)
    split <;> rfl
  · rw [decide_eq_false h, if_neg h, if_neg (by intro z; cases z)]
    unfold km
    rw [List.map_append]
    rfl
/-- a layer: the positions at the distance k -/
def Lay (gs : List (List Nat)) (s : List Nat) (k : Nat) (S : List (List Nat)) : Prop := S.Nodup ∧ (∀ p, p ∈ S ↔ Ex gs k s p) ∧ S.length ≤ gs.length ^ k
/-- a list of layers stands in the heap -/
def Shells (H : Hp) (xs : List V) (gs : List (List Nat)) (s : List Nat) : Prop := ∀ (i : Nat) (v : V), xs[i]? = some v → ∃ (d : Addr) (S : List (List Nat)), v = .ref d ∧ H d = some (.dT (km S)) ∧ Lay gs s i S
theorem Shells.mono {H H' : Hp} {xs : List V} {gs : List (List Nat)} {s : List Nat} (h : Shells H xs gs s) (m : Same H H') : Shells H' xs gs s := fun i v e => by
  obtain ⟨d, S, h1, h2, h3⟩ := h i v e
  exact ⟨d, S, h1, m d _ h2, h3⟩
theorem Shells.but {H H' : Hp} {xs ls : List V} {l : Addr} {gs : List (List Nat)} {s : List Nat} (h : Shells H xs gs s) (hl : H l = some (.lst ls)) (m : But l H H') : Shells H' xs gs s := fun i v e => by
  obtain ⟨d, S, h1, h2, h3⟩ := h i v e
  exact ⟨d, S, h1, m d _ (ne_of h2 hl (by intro z; cases z)) h2, h3⟩
theorem Shells.snoc {H : Hp} {xs : List V} {gs : List (List Nat)} {s : List Nat} {d : Addr} {S : List (List Nat)} (h : Shells H xs gs s) (hd : H d = some (.dT (km S))) (hl : Lay gs s xs.length S) : Shells H (xs ++ [.ref d]) gs s := fun i v e => by
  by_cases z : i < xs.length
  · rw [List.getElem?_append_left z] at e
    exact h i v e
  · rw [List.getElem?_append_right (by omega)] at e
    have hi : i - xs.length = 0 := by
      have := lt_of_get e
      simp only [List.length_cons, List.length_nil] at this
      omega
    rw [hi] at e
    cases e
    have : i = xs.length := by omega
    rw [this]
    exact ⟨d, S, rfl, hd, hl⟩
/-- the found positions: of T those that are neither in S nor in E -/
def FF (S E T F : List (List Nat)) : Prop := F.Nodup ∧ (∀ p, p ∈ F ↔ p ∈ T ∧ p ∉ S ∧ p ∉ E) ∧ F.length ≤ T.length
theorem FF.nil {S E : List (List Nat)} : FF S E [] [] := ⟨List.nodup_nil, fun p => by simp, Nat.le_refl _⟩
theorem FF.add {S E T F : List (List Nat)} {p : List Nat} (h : FF S E T F) (hs : p ∉ S) (he : p ∉ E) : FF S E (T ++ [p]) (if p ∈ F then F else F ++ [p]) := by
  obtain ⟨h1, h2, h3⟩ := h
  by_cases z : p ∈ F
  · rw [if_pos z]
    refine ⟨h1, fun q => ?_, by rw [List.length_append]; omega⟩
    rw [h2 q]
    constructor
    · rintro ⟨a, b⟩
      exact ⟨List.mem_append_left _ a, b⟩
    · rintro ⟨a, b⟩
      rcases List.mem_append.mp a with a | a
      · exact ⟨a, b⟩
      · have e : q = p := by simpa using a
        rw [e]
        exact (h2 p).mp z
  · rw [if_neg z]
    refine ⟨?_, fun q => ?_, by rw [List.length_append, List.length_append]; exact Nat.add_le_add_right h3 _⟩
    · rw [List.nodup_append]
      refine ⟨h1, by simp, fun a ha b hb e => ?_⟩
      have : b = p := by simpa using hb
      rw [e, this] at ha
      exact z ha
    · rw [List.mem_append, h2 q, List.mem_append]
      constructor
      · rintro (⟨a, b⟩ | a)
        · exact ⟨.inl a, b⟩
        · have e : q = p := by simpa using a
          rw [e]
          exact ⟨.inr (List.mem_singleton.mpr rfl), hs, he⟩
      · rintro ⟨a | a, b⟩
        · exact .inl ⟨a, b⟩
        · exact .inr a
theorem FF.skip {S E T F : List (List Nat)} {p : List Nat} (h : FF S E T F) (hs : p ∈ S ∨ p ∈ E) : FF S E (T ++ [p]) F := by
  obtain ⟨h1, h2, h3⟩ := h
  refine ⟨h1, fun q => ?_, by rw [List.length_append]; omega⟩
  rw [h2 q]
  constructor
  · rintro ⟨a, b⟩
    exact ⟨List.mem_append_left _ a, b⟩
  · rintro ⟨a, b⟩
    rcases List.mem_append.mp a with a | a
    · exact ⟨a, b⟩
    · have e : q = p := by simpa using a
      rw [e] at b
      rcases hs with hs | hs
      · exact absurd hs b.1
      · exact absurd hs b.2
/-- all products of the first i of S with gs -/
def prods (S gs : List (List Nat)) : List (List Nat) := S.flatMap fun q => gs.map fun g => mul q g
theorem prods_length (gs : List (List Nat)) : ∀ S : List (List Nat), (prods S gs).length = S.length * gs.length
  | [] => by simp [prods]
  | q :: S => by
    have := prods_length gs S
    unfold prods at this ⊢
    rw [List.flatMap_cons, List.length_append, List.length_map, this, List.length_cons, Nat.add_mul]
    omega
theorem prods_take {S gs : List (List Nat)} {i : Nat} {q : List Nat} (e : S[i]? = some q) : prods (S.take (i + 1)) gs = prods (S.take i) gs ++ gs.map fun g => mul q g := by
  unfold prods
  rw [List.take_succ, e, List.flatMap_append]
  simp
theorem Lay.next {n : Nat} {gs : List (List Nat)} {s : List Nat} {k : Nat} {S E F : List (List Nat)} (hS : Sym n gs) (hs : IsP n s) (hL : Lay gs s k S) (hE : ∀ p, p ∈ E ↔ ∃ j, j + 1 = k ∧ Ex gs j s p) (hF : FF S E (prods S gs) F) : Lay gs s (k + 1) F := by
  refine ⟨hF.1, fun p => ?_, ?_⟩
  · rw [hF.2.1 p, Ex.step hS hs]
    have a : p ∈ prods S gs ↔ ∃ q, Ex gs k s q ∧ ∃ g, g ∈ gs ∧ p = mul q g := by
      unfold prods
      rw [List.mem_flatMap]
      constructor
      · rintro ⟨q, hq, hp⟩
        obtain ⟨g, hg, e⟩ := List.mem_map.mp hp
        exact ⟨q, (hL.2.1 q).mp hq, g, hg, e.symm⟩
      · rintro ⟨q, hq, g, hg, e⟩
        exact ⟨q, (hL.2.1 q).mpr hq, List.mem_map.mpr ⟨g, hg, e.symm⟩⟩
    rw [a, hL.2.1 p, hE p]
    constructor
    · rintro ⟨h1, h2, h3⟩
      exact ⟨h1, h2, fun j hj z => h3 ⟨j, hj, z⟩⟩
    · rintro ⟨h1, h2, h3⟩
      exact ⟨h1, h2, fun ⟨j, hj, z⟩ => h3 j hj z⟩
  · refine Nat.le_trans hF.2.2 ?_
    rw [prods_length, Nat.pow_succ]
    exact Nat.mul_le_mul_right _ hL.2.2
def spGrown : Sp := fun vs H Q _ => ∃ (l m : Addr) (xs ys : List V) (n k : Nat) (gs : List (List Nat)) (s : List Nat), vs = [.ref l, .ref m] ∧ H l = some (.lst xs) ∧ xs.length = k + 1 ∧ k ≤ 100 ∧ Shells H xs gs s ∧ H m = some (.lst ys) ∧ Rw H ys gs ∧ Sym n gs ∧ IsP n s ∧ n ≤ 24 ∧ gs.length ≤ 16 ∧ gs.length ^ (k + 1) ≤ 4096 ∧
  ∀ d F H', Same H H' → H' d = some (.dT (km F)) → Lay gs s (k + 1) F → Q (.ref d) H'
section
variable {P : Program} {w : World} {K : PySem.W.Frag} {mg : Str → Option Value} {base : Heap}
theorem dn_grown (c : Ctx K mg) : Dn P w K mg base CX0 2 "grown" ["shells", "perms"] spGrown := by
  have f_len := c.f_len
  obtain ⟨f__times, fd_times, g_times, k_times, F_times, b_times⟩ := (dn_times (P := P) (w := w) (base := base) c).ex
  have sc := sc_grown
  obtain ⟨fd, F⟩ := c.D_grown
  refine ⟨_, fd, c.g_grown, F.kp, F.ok sc (fun vs H Q E h => ?_) (fun cdv A outer s H vs Q E hr h => ⟨_, PSs.nox ((pss_cons (ps_set (i := 2) sc.nd rfl (by first | exact Or.inl rfl | exact Or.inr rfl) (pe_ix (ix_listK (K := K) rfl) (pv 0) (pe_un un_neg pe_int) (fun _ _ => rfl)))
  (pss_cons (ps_set (i := 3) sc.nd rfl (by first | exact Or.inl rfl | exact Or.inr rfl) pe_dnewT)
  (pss_cons (ps_if (pt_cmpR op_gt (pe_callB (call_lenK (K := K) rfl) (by rfl) f_len boot_len (pa_cons (pv 0) pa_nil)) pe_int (nomark _)) (pss_one (ps_set (i := 3) sc.nd rfl (by first | exact Or.inl rfl | exact Or.inr rfl) (pe_ix (ix_listK (K := K) rfl) (pv 0) (pe_un un_neg pe_int) (fun _ _ => rfl)))) pss_nil)
  (pss_cons (ps_set (i := 4) sc.nd rfl (by first | exact Or.inl rfl | exact Or.inr rfl) pe_dnewT)
  (pss_cons (ps_lock (ps_for PassesOwn.never rfl (pi_keys (pv 2)) (pg_name (i := 5) sc.nd rfl (by first | exact Or.inl rfl | exact Or.inr rfl)) (pss_one (ps_for PassesOwn.never rfl (pi_listK (K := K) rfl (pv 1)) (pg_name (i := 6) sc.nd rfl (by first | exact Or.inl rfl | exact Or.inr rfl)) (pss_cons (ps_set (i := 7) sc.nd rfl (by first | exact Or.inl rfl | exact Or.inr rfl) (pe_call F_times (hr.mono (by decide)) (by rfl) g_times k_times b_times nil_v pass0 (pa_cons (pv 5) (pa_cons (pv 6) pa_nil))))
  (pss_one (ps_if (PW.pt (pw_and (pt_cmp (pc_dnotin (hu_of hr) (pv 7) (pv 2))) (pw_and1 (pt_cmp (pc_dnotin (hu_of hr) (pv 7) (pv 3)))))) (pss_one (ps_dput (hu_of hr) (pv 4) (pv 7) pe_non rfl)) pss_nil)))))))
  (pss_one (ps_ret (pv 4))))))))), ?_⟩), F.bindsN fun _ _ _ _ _ _ us hl => match us, hl with | [_, _], _ => rfl⟩
  · obtain ⟨l, m, xs, ys, n, k, gs, s, rfl, _⟩ := h
    rfl
  · obtain ⟨l, m, xs, ys, n, k, gs, s, rfl, hl, hx, hk, sh, hm, rw1, hS, hs, hn, hg, h4, kk⟩ := h
    obtain ⟨v, hv⟩ := get_of (show k < xs.length by omega)
    obtain ⟨d, S, rfl, hd, hL⟩ := sh k v hv
    have hat : atI xs (-1) = some (.ref d) := by
      unfold atI ixN
      rw [if_neg (by decide), if_pos (by omega), Option.bind_some]
      have e : (-1 + (xs.length : Int)).toNat = k := by omega
      rw [e]
      exact hv
    refine ⟨_, rfl, _, rfl, l, xs, _, _, rfl, rfl, SqL.of hl, hat, fun e0 he0 => ?_⟩
    dsimp only [gName]
    refine cut (a := tIfS _ _ _) (fun σ H2 => ∃ (e : Addr) (E : List (List Nat)), σ = [some (.ref l), some (.ref m), some (.ref d), some (.ref e), none, none, none, none] ∧ Same H H2 ∧ H2 e = some (.dT (km E)) ∧ ∀ p, p ∈ E ↔ ∃ j, j + 1 = k ∧ Ex gs j s p) ?_ fun N hN => ?_
    · rintro σ H2 ⟨e, E, rfl, s2, he, hE⟩
      refine fun D hD => ?_
      dsimp only [gName]
      refine cut (a := tLock _) (fun σ H3 => ∃ F u1 u2 u3, σ = [some (.ref l), some (.ref m), some (.ref d), some (.ref e), some (.ref D), u1, u2, u3] ∧ Same H H3 ∧ H3 D = some (.dT (km F)) ∧ FF S E (prods S gs) F) ?_ fun N hN => ?_
      · rintro σ H3 ⟨F, u1, u2, u3, rfl, s3, hF, fF⟩
        exact ⟨_, rfl, kk D F H3 s3 hF (Lay.next hS hs hL hE fF)⟩
      · have hdD : d ≠ D := fun z => by
          rw [z] at hd
          rw [s2 _ _ hd] at hD
          cases hD
        have hd2 : (upd H2 D (.dT [])) d = some (.dT (km S)) := by
          rw [upd_ne hdD]
          exact s2 _ _ hd
        refine ⟨d, _, hd2, trivial, fun od => ?_⟩
        generalize hHl : upd (upd H2 D (.dT [])) d (.frz od (.dT (km S))) = Hl
        have hlD : Hl D = some (.dT (km [])) := by
          rw [← hHl, upd_ne (Ne.symm hdD), upd_same]
          rfl
        have hld : Hl d = some (.frz od (.dT (km S))) := by rw [← hHl, upd_same]
        have up : ∀ (b : Addr) (o : HO), b ≠ d → H2 b = some o → Hl b = some o := fun b o hb ho => by
          rw [← hHl, upd_ne hb, upd_ne (ne_of_none ho hD)]
          exact ho
        have tl : ∀ {b : Addr} {p : List Nat} {H' : Hp}, But D Hl H' → Tn H b p → Tn H' b p := fun {b p H'} bt t => bt b _ (ne_of_none (s2 _ _ t) hD) (up b _ (ne_of (s2 _ _ t) (s2 _ _ hd) (by intro z; cases z)) (s2 _ _ t))
        have eRd : ∀ {H' : Hp}, But D Hl H' → Rd H' e (.dT (km E)) := fun {H'} bt => by
          have heD := ne_of_none he hD
          by_cases z : e = d
          · subst z
            rw [s2 _ _ hd] at he
            have he2 : km S = km E := by injection he with he; injection he
            rw [← he2]
            exact .inr ⟨od, bt _ _ heD hld⟩
          · exact .inl (bt _ _ heD (up _ _ z he))
        have mS : ∀ {H' : Hp}, But D Hl H' → H' m = some (.lst ys) := fun {H'} bt => bt m _ (ne_of_none (s2 _ _ hm) hD) (up m _ (ne_of (s2 _ _ hm) (s2 _ _ hd) (by intro z; cases z)) (s2 _ _ hm))
        refine ⟨_, rfl, d, od, rfl, .inr ⟨_, hld, for_it (walk_keysT (kvs := km S)) (fun i σ H' => (∃ u1 u2 u3, σ = [some (.ref l), some (.ref m), some (.ref d), some (.ref e), some (.ref D), u1, u2, u3]) ∧ But D Hl H' ∧ ∃ F, H' D = some (.dT (km F)) ∧ FF S E (prods (S.take i) gs) F) ?_ ?_ ?_ ?_⟩⟩
        · exact ⟨⟨_, _, _, rfl⟩, But.refl _ _, [], hlD, FF.nil⟩
        · rintro i σ H' hi ⟨_, bt, _⟩
          exact bt d _ hdD hld
        · rintro i x σ H3 H4 hi ⟨⟨u1, u2, u3, rfl⟩, bt, F, eF, fF⟩ ⟨rfl, kq, vq, q, hq, rfl, tq⟩
          rw [km_length] at hi
          obtain ⟨p, hp⟩ := get_of hi
          have hkq : (km S)[i]? = some (nk p, V.non) := by
            unfold km
            rw [List.getElem?_map, hp]
            rfl
          rw [hkq] at hq
          injection hq with hq
          injection hq with hq1 hq2
          subst hq1
          rw [nk_kV] at tq
          have hpS : p ∈ S := List.mem_of_getElem? hp
          have hpP : IsP n p := ((hL.2.1 p).mp hpS).1.isP hS hs
          have tqH : Tn _ q p := tq
          refine ⟨_, rfl, m, rfl, ⟨_, SqL.of (mS bt)⟩, for_it (walk_list (xs := ys)) (fun j σ H' => (∃ u2 u3, σ = [some (.ref l), some (.ref m), some (.ref d), some (.ref e), some (.ref D), some (.ref q), u2, u3]) ∧ But D Hl H' ∧ Tn H' q p ∧ ∃ F, H' D = some (.dT (km F)) ∧ FF S E (prods (S.take i) gs ++ (gs.take j).map fun g => mul p g) F) ?_ ?_ ?_ ?_⟩
          · exact ⟨⟨_, _, rfl⟩, bt, tqH, F, eF, by simpa using fF⟩
          · rintro j σ H' hj ⟨_, bt2, _⟩
            exact SqL.of (mS bt2)
          · rintro j x σ H5 H6 hj ⟨⟨u2, u3, rfl⟩, bt2, tq2, F2, eF2, fF2⟩ ⟨rfl, hx2⟩
            obtain ⟨b, g, rfl, eg, tg⟩ := rw1.get hx2
            have hgP := hS.1 g (List.mem_of_getElem? eg)
            refine ⟨_, rfl, _, rfl, q, b, p, g, rfl, tq2, tl bt2 tg, by rw [hpP.len, hgP.len], fun z hz => by rw [hgP.len]; exact hpP.lt z hz, by rw [hpP.len]; omega, fun r H7 s7 t7 => ?_⟩
            have bt3 : But D Hl H7 := bt2.same s7
            have tk : H7 r = some (.tup ((nk (mul p g)).map kV)) := by
              rw [nk_kV]
              exact t7
            have g1 : DGet H7 d (.ref r) (valV (km S) (nk (mul p g))) := .inr ⟨_, _, r, .inr ⟨od, bt3 d _ hdD hld⟩, rfl, tk, rfl⟩
            have g2 : DGet H7 e (.ref r) (valV (km E) (nk (mul p g))) := .inr ⟨_, _, r, eRd bt3, rfl, tk, rfl⟩
            have tstep : (gs.take (j + 1)).map (fun g => mul p g) = (gs.take j).map (fun g => mul p g) ++ [mul p g] := by
              rw [List.take_succ, eg]
              simp
            have fin : ∀ F3 H', But D H7 H' → H' D = some (.dT (km F3)) → FF S E ((prods (S.take i) gs ++ (gs.take j).map fun g => mul p g) ++ [mul p g]) F3 → (∃ u2 u3, [some (V.ref l), some (V.ref m), some (V.ref d), some (V.ref e), some (V.ref D), some (V.ref q), some (V.ref b), some (V.ref r)] = [some (.ref l), some (.ref m), some (.ref d), some (.ref e), some (.ref D), some (.ref q), u2, u3]) ∧ But D Hl H' ∧ Tn H' q p ∧ ∃ F, H' D = some (.dT (km F)) ∧ FF S E (prods (S.take i) gs ++ (gs.take (j + 1)).map fun g => mul p g) F := fun F3 H' b3 e3 f3 =>
              ⟨⟨_, _, rfl⟩, bt3.trans b3, b3 q _ (ne_of (tq2.mono s7) (s7 _ _ eF2) (by intro z; cases z)) (tq2.mono s7), F3, e3, by rw [tstep, ← List.append_assoc]; exact f3⟩
            refine ⟨_, rfl, _, rfl, d, _, rfl, g1, _, rfl, iteB (fun h1 => ?_) (fun h1 => ?_)⟩
            · rw [km_get] at h1
              have h1' : mul p g ∉ S := fun z => by
                rw [decide_eq_true z] at h1
                cases h1
              refine ⟨_, rfl, _, rfl, e, _, rfl, g2, _, rfl, iteB (fun h2 => ?_) (fun h2 => ?_)⟩
              · rw [km_get] at h2
                have h2' : mul p g ∉ E := fun z => by
                  rw [decide_eq_true z] at h2
                  cases h2
                have hFl : F2.length ≤ 4096 := by
                  have a1 := fF2.2.2
                  rw [List.length_append, prods_length, List.length_map, List.length_take, List.length_take] at a1
                  have a2 := hL.2.2
                  have a3 : (i + 1) * gs.length ≤ gs.length ^ k * gs.length := Nat.mul_le_mul_right _ (by omega)
                  have a5 : gs.length ^ k * gs.length = gs.length ^ (k + 1) := rfl
                  have a6 := rw1.1
                  rw [a5, Nat.add_mul] at a3
                  have a4 : min i S.length * gs.length ≤ i * gs.length := Nat.mul_le_mul_right _ (Nat.min_le_left _ _)
                  omega
                refine ⟨_, rfl, _, rfl, D, _, rfl, DPut.t (s7 _ _ eF2) tk (szL _ (by rw [km_length]; omega)), ?_⟩
                exact fin _ _ But.upd (by rw [upd_same, km_put]) (fF2.add h1' h2')
              · rw [km_get] at h2
                have h2' : mul p g ∈ E := by
                  by_cases z : mul p g ∈ E
                  · exact z
                  · rw [decide_eq_false z] at h2
                    cases h2
                exact fin _ _ (But.refl _ _) (s7 _ _ eF2) (fF2.skip (.inr h2'))
            · rw [km_get] at h1
              have h1' : mul p g ∈ S := by
                by_cases z : mul p g ∈ S
                · exact z
                · rw [decide_eq_false z] at h1
                  cases h1
              exact fin _ _ (But.refl _ _) (s7 _ _ eF2) (fF2.skip (.inl h1'))
          · rintro σ H' ⟨⟨u2, u3, rfl⟩, bt2, tq2, F2, eF2, fF2⟩
            rw [rw1.1, List.take_length, ← prods_take hp] at fF2
            exact ⟨⟨_, _, _, rfl⟩, bt2, F2, eF2, fF2⟩
        · rintro σ H' ⟨⟨u1, u2, u3, rfl⟩, bt, F, eF, fF⟩
          rw [km_length, List.take_length] at fF
          refine ⟨bt d _ hdD hld, hN _ _ ⟨F, _, _, _, rfl, fun a o ho => ?_, ?_, fF⟩⟩
          · have ho2 := s2 a o ho
            by_cases z : a = d
            · subst z
              rw [upd_same, ← hd, ho]
            · rw [upd_ne z]
              exact bt a o (ne_of_none ho2 hD) (up a o z ho2)
          · rw [upd_ne (Ne.symm hdD)]
            exact eF
    · have e1 : (upd H e0 (.dT [])) l = some (.lst xs) := by
        rw [upd_ne (ne_of_none hl he0)]
        exact hl
      refine ⟨_, rfl, l, _, rfl, .inl (SqL.of e1), _, _, rfl, rfl, _, rfl, iteD (fun hk1 => ?_) (fun hk1 => ?_)⟩
      · obtain ⟨v2, hv2⟩ := get_of (show k - 1 < xs.length by omega)
        obtain ⟨d2, E, rfl, hd2, hL2⟩ := sh (k - 1) v2 hv2
        have hat2 : atI xs (-2) = some (.ref d2) := by
          unfold atI ixN
          rw [if_neg (by decide), if_pos (by omega), Option.bind_some]
          have e : (-2 + (xs.length : Int)).toNat = k - 1 := by omega
          rw [e]
          exact hv2
        refine ⟨_, rfl, _, rfl, l, xs, _, _, rfl, rfl, SqL.of e1, hat2, hN _ _ ⟨d2, E, rfl, same_new he0, ?_, fun p => ?_⟩⟩
        · rw [upd_ne (ne_of_none hd2 he0)]
          exact hd2
        · rw [hL2.2.1 p]
          exact ⟨fun z => ⟨k - 1, by omega, z⟩, fun ⟨j, hj, z⟩ => by
            have : j = k - 1 := by omega
            rw [← this]
            exact z⟩
      · refine hN _ _ ⟨e0, [], rfl, same_new he0, upd_same, fun p => ⟨fun z => (nomatch z), ?_⟩⟩
        rintro ⟨j, hj, _⟩
        omega
end
end K63
set_option maxRecDepth 100000
set_option maxHeartbeats 2000000
namespace K63
open PySem PySem.Spec PyProof.Rows L2 TB TM
theorem atI_m1 {α : Type} {xs : List α} {k : Nat} {v : α} (hx : xs.length = k + 1) (hv : xs[k]? = some v) : atI xs (-1) = some v := by
  unfold atI ixN
  rw [if_neg (by decide), if_pos (by omega), Option.bind_some]
  have e : (-1 + (xs.length : Int)).toNat = k := by omega
  rw [e]
  exact hv
def spMeeting : Sp := fun vs H Q _ => ∃ (l m : Addr) (xs ys : List V) (a b : Nat) (d e : Addr) (S E : List (List Nat)), vs = [.ref l, .ref m] ∧ H l = some (.lst xs) ∧ xs.length = a + 1 ∧ xs[a]? = some (.ref d) ∧ H m = some (.lst ys) ∧ ys.length = b + 1 ∧ ys[b]? = some (.ref e) ∧
  H d = some (.dT (km S)) ∧ H e = some (.dT (km E)) ∧ S.length ≤ 4096 ∧ ∀ r zs H', Same H H' → H' r = some (.lst zs) → (zs = [] ↔ ∀ p ∈ S, p ∉ E) → Q (.ref r) H'
section
variable {P : Program} {w : World} {K : PySem.W.Frag} {mg : Str → Option Value} {base : Heap}
theorem dn_meeting (c : Ctx K mg) : Dn P w K mg base CX0 1 "meeting" ["near", "far"] spMeeting := by
  have sc := sc_meeting
  obtain ⟨fd, F⟩ := c.D_meeting
  refine ⟨_, fd, c.g_meeting, F.kp, F.ok sc (fun vs H Q E h => ?_) (fun cdv A outer s H vs Q E hr h => ⟨_, PSs.nox ((pss_cons (ps_set (i := 2) sc.nd rfl (by first | exact Or.inl rfl | exact Or.inr rfl) (pe_ix (ix_listK (K := K) rfl) (pv 1) (pe_un un_neg pe_int) (fun _ _ => rfl)))
  (pss_one (ps_ret (pe_lock (pe_lc (own := [("position", 3)])  rfl sc.nd (pi_keys (pe_ix (ix_listK (K := K) rfl) (pv 0) (pe_un un_neg pe_int) (fun _ _ => rfl))) (blkOk_by (own := [("position", 3)]) (N := ["near", "far", "last", "position"]) (sc := defScope s_meeting) (by decide +kernel)) (fun _ _ _ _ _ => (pg_name (i := 3) sc.nd rfl (by first | exact Or.inl rfl | exact Or.inr rfl))) (fun _ _ _ _ _ => pts_one (pt_cmp (pc_din (hu_of hr) (pv 3) (pv 2)))) (fun _ _ _ _ _ => (pv 3)))))))), ?_⟩), F.bindsN fun _ _ _ _ _ _ us hl => match us, hl with | [_, _], _ => rfl⟩
  · obtain ⟨l, m, xs, ys, a, b, d, e, S, E, rfl, _⟩ := h
    rfl
  · obtain ⟨l, m, xs, ys, a, b, d, e, S, E, rfl, hl, hx, hxa, hm, hy, hyb, hd, he, h4, k⟩ := h
    have hat1 := atI_m1 hx hxa
    have hat2 := atI_m1 hy hyb
    refine ⟨_, rfl, _, rfl, m, ys, _, _, rfl, rfl, SqL.of hm, hat2, d, _, hd, trivial, fun od => ?_⟩
    generalize hHl : upd H d (.frz od (.dT (km S))) = Hl
    have hld : Hl d = some (.frz od (.dT (km S))) := by rw [← hHl, upd_same]
    have up : ∀ (b : Addr) (o : HO), b ≠ d → H b = some o → Hl b = some o := fun b o hb ho => by
      rw [← hHl, upd_ne hb]
      exact ho
    have hll : Hl l = some (.lst xs) := up _ _ (ne_of hl hd (by intro z; cases z)) hl
    have eRd : Rd Hl e (.dT (km E)) := by
      by_cases z : e = d
      · subst z
        rw [hd] at he
        have he2 : km S = km E := by injection he with he; injection he
        rw [← he2]
        exact .inr ⟨od, hld⟩
      · exact .inl (up _ _ z he)
    have rdM : ∀ {H' : Hp}, Same Hl H' → Rd H' e (.dT (km E)) := fun {H'} sm => by
      rcases eRd with z | ⟨o, z⟩
      · exact .inl (sm _ _ z)
      · exact .inr ⟨o, sm _ _ z⟩
    refine ⟨_, rfl, _, rfl, l, xs, _, _, rfl, rfl, SqL.of hll, hat1, d, od, rfl, .inr ⟨_, hld, fun D hD => lc_it (walk_keysT (kvs := km S)) (fun i H' => Same Hl H' ∧ ∃ zs, H' D = some (.lst zs) ∧ zs.length ≤ i ∧ (zs = [] ↔ ∀ p ∈ S.take i, p ∉ E)) ?_ ?_ ?_ ?_⟩⟩
    · exact ⟨same_new hD, [], upd_same, Nat.le_refl _, by simp⟩
    · rintro i H' hi ⟨s1, _⟩
      exact s1 _ _ hld
    · rintro i x H3 H4 hi ⟨s1, zs, ez, lz, iz⟩ ⟨rfl, kq, vq, q, hq, rfl, tq⟩
      rw [km_length] at hi
      obtain ⟨p, hp⟩ := get_of hi
      have hkq : (km S)[i]? = some (nk p, V.non) := by
        unfold km
        rw [List.getElem?_map, hp]
        rfl
      rw [hkq] at hq
      injection hq with hq
      injection hq with hq1 hq2
      subst hq1
      have g1 : DGet _ e (.ref q) (valV (km E) (nk p)) := .inr ⟨_, _, q, rdM s1, rfl, tq, rfl⟩
      have htk : ∀ P : List Nat → Prop, (∀ r ∈ S.take (i + 1), P r) ↔ (∀ r ∈ S.take i, P r) ∧ P p := fun P => by
        rw [List.take_succ, hp]
        simp only [Option.toList_some, List.mem_append, List.mem_singleton]
        exact ⟨fun z => ⟨fun r hr => z r (.inl hr), z p (.inr rfl)⟩, fun z r hr => hr.elim (z.1 r) fun e => e ▸ z.2⟩
      refine ⟨rfl, _, rfl, _, rfl, e, _, rfl, g1, _, rfl, iteB (fun h1 => ?_) (fun h1 => ?_)⟩
      · rw [km_get] at h1
        refine ⟨_, rfl, zs, ez, szL _ (by omega), Same.upd_of s1 hD, _, upd_same, by rw [List.length_append]; exact Nat.add_le_add_right lz _, ?_⟩
        rw [htk]
        constructor
        · intro z
          simp at z
        · intro z
          exact absurd (of_decide_eq_true h1) z.2
      · rw [km_get] at h1
        refine ⟨s1, zs, ez, by omega, ?_⟩
        rw [htk, iz]
        exact ⟨fun z => ⟨z, of_decide_eq_false h1⟩, fun z => z.1⟩
    · rintro H' ⟨s1, zs, ez, lz, iz⟩
      rw [km_length, List.take_length] at iz
      have hDd : D ≠ d := fun z => by
        rw [z, hld] at hD
        cases hD
      refine ⟨s1 _ _ hld, k D zs _ (fun a2 o ho => ?_) ?_ iz⟩
      · by_cases z : a2 = d
        · subst z
          rw [upd_same, ← hd, ho]
        · rw [upd_ne z]
          exact s1 _ _ (up a2 o z ho)
      · rw [upd_ne hDd]
        exact ez
end
end K63
set_option maxRecDepth 100000
set_option maxHeartbeats 2000000
namespace K63
open PySem PySem.Spec PyProof.Rows L2 TB TM
theorem mem_gens {ps : List (List Nat)} {g : List Nat} : g ∈ gens ps ↔ ∃ p, p ∈ ps ∧ (g = p ∨ g = inv p) := by
  unfold gens
  rw [List.mem_flatMap]
  exact ⟨fun ⟨p, hp, h⟩ => ⟨p, hp, by simpa using h⟩, fun ⟨p, hp, h⟩ => ⟨p, hp, by simpa using h⟩⟩
theorem gens_sym {n : Nat} {ps : List (List Nat)} (h : ∀ p ∈ ps, IsP n p) : Sym n (gens ps) := by
  refine ⟨gens_isP h, fun g hg => ?_⟩
  obtain ⟨p, hp, e⟩ := mem_gens.mp hg
  refine mem_gens.mpr ⟨p, hp, ?_⟩
  rcases e with e | e
  · exact .inr (by rw [e])
  · exact .inl (by rw [e, inv_inv (h p hp)])
theorem gens_same {n : Nat} {ps : List (List Nat)} (h : ∀ p ∈ ps, IsP n p) (g : List Nat) : g ∈ gens ps ↔ g ∈ (gens ps).map inv := by
  constructor
  · intro hg
    exact List.mem_map.mpr ⟨inv g, (gens_sym h).2 g hg, inv_inv ((gens_sym h).1 g hg)⟩
  · intro hg
    obtain ⟨f, hf, e⟩ := List.mem_map.mp hg
    rw [← e]
    exact (gens_sym h).2 f hf
theorem gensI_sym {n : Nat} {ps : List (List Nat)} (h : ∀ p ∈ ps, IsP n p) : Sym n ((gens ps).map inv) :=
  ⟨fun g hg => (gens_sym h).1 g ((gens_same h g).mpr hg), fun g hg => (gens_same h _).mp ((gens_sym h).2 g ((gens_same h g).mpr hg))⟩
theorem lay_zero {gs : List (List Nat)} {s : List Nat} : Lay gs s 0 [s] := ⟨by simp, fun p => by rw [Ex.zero, List.mem_singleton], Nat.le_refl _⟩
theorem meet_lay {n : Nat} {ps : List (List Nat)} {s t : List Nat} {A B : Nat} {S E : List (List Nat)} (h : ∀ p ∈ ps, IsP n p) (hs : IsP n s) (ht : IsP n t) (hS : Lay (gens ps) s A S) (hE : Lay ((gens ps).map inv) t B E) (hm : ∀ j, j < A + B → ¬ W (gens ps) j s t) :
    (∀ p ∈ S, p ∉ E) ↔ ¬ W (gens ps) (A + B) s t := by
  rw [← meet (gens_sym h) hs ht hm]
  constructor
  · rintro z ⟨p, h1, h2⟩
    exact z p ((hS.2.1 p).mpr h1) ((hE.2.1 p).mpr ((Ex.same (gens_same h)).mp h2))
  · intro z p hp hq
    exact z ⟨p, (hS.2.1 p).mp hp, (Ex.same (gens_same h)).mpr ((hE.2.1 p).mp hq)⟩
theorem canS_le {b d i : Nat} (h : canS b d = true) (hi : i < d) : b ^ (i + 1) ≤ 4096 := of_decide_eq_true (List.all_eq_true.mp h i (List.mem_range.mpr hi))
/-- what searched leaves -/
structure Sea (H : Hp) (l m : Addr) (ps : List (List Nat)) (s t : List Nat) (A B : Nat) (xs ys : List V) : Prop where
  hl : H l = some (.lst xs)
  hm : H m = some (.lst ys)
  lx : xs.length = A + 1
  ly : ys.length = B + 1
  sx : Shells H xs (gens ps) s
  sy : Shells H ys ((gens ps).map inv) t
  no : ∀ j, j < A + B → ¬ W (gens ps) j s t
def spSearched (K : PySem.W.Frag) : Sp := fun vs H Q _ => ∃ (z a b : Addr) (n m most : Nat) (zs : List Str) (ps : List (List Nat)) (s t : List Nat), vs = [.ref z, .ref a, .ref b, .int (most : Int)] ∧ Pz K H z n m zs ps ∧ Good n m ps ∧ Tn H a s ∧ Tn H b t ∧ IsP n s ∧ IsP n t ∧ most ≤ 24 ∧ canS (2 * ps.length) ((most + 1) / 2) = true ∧
  ∀ r l m xs ys A B H', Same H H' → H' r = some (.tup [.ref l, .ref m]) → Sea H' l m ps s t A B xs ys → A ≤ 100 → B ≤ 100 → A + B ≤ most → (A + B = most ∨ W (gens ps) (A + B) s t) → (∀ S, Lay (gens ps) s A S → S.length ≤ 4096) → Q (.ref r) H'
section
variable {P : Program} {w : World} {K : PySem.W.Frag} {mg : Str → Option Value} {base : Heap}
theorem dn_searched (c : Ctx K mg) : Dn P w K mg base CX0 4 "searched" ["puzzle", "start", "goal", "most"] (spSearched K) := by
  have f_len := c.f_len
  obtain ⟨f__meeting, fd_meeting, g_meeting, k_meeting, F_meeting, b_meeting⟩ := (dn_meeting (P := P) (w := w) (base := base) c).ex
  obtain ⟨f__grown, fd_grown, g_grown, k_grown, F_grown, b_grown⟩ := (dn_grown (P := P) (w := w) (base := base) c).ex
  obtain ⟨f__step_perms, fd_step_perms, g_step_perms, k_step_perms, F_step_perms, b_step_perms⟩ := (dn_step_perms (P := P) (w := w) (base := base) c).ex
  have sc := sc_searched
  obtain ⟨fd, F⟩ := c.D_searched
  refine ⟨_, fd, c.g_searched, F.kp, F.ok sc (fun vs H Q E h => ?_) (fun cdv A outer s H vs Q E hr h => ⟨_, PSs.nox ((pss_cons (ps_set (i := 4) sc.nd rfl (by first | exact Or.inl rfl | exact Or.inr rfl) (pe_call F_step_perms (hr.mono (by decide)) (by rfl) g_step_perms k_step_perms b_step_perms nil_v pass0 (pa_cons (pv 0) (pa_cons pe_bl pa_nil))))
  (pss_cons (ps_set (i := 5) sc.nd rfl (by first | exact Or.inl rfl | exact Or.inr rfl) (pe_call F_step_perms (hr.mono (by decide)) (by rfl) g_step_perms k_step_perms b_step_perms nil_v pass0 (pa_cons (pv 0) (pa_cons pe_bl pa_nil))))
  (pss_cons (ps_set (i := 6) sc.nd rfl (by first | exact Or.inl rfl | exact Or.inr rfl) (pe_lst (pa_cons (pe_dispT (pv 1) pe_non (hu_of hr)) pa_nil)))
  (pss_cons (ps_set (i := 7) sc.nd rfl (by first | exact Or.inl rfl | exact Or.inr rfl) (pe_lst (pa_cons (pe_dispT (pv 2) pe_non (hu_of hr)) pa_nil)))
  (pss_cons (ps_while PassesOwn.never (PW.pt (pw_and (pt_cmpR op_lt (pe_op op_add (pe_callB (call_lenK (K := K) rfl) (by rfl) f_len boot_len (pa_cons (pv 6) pa_nil)) (pe_callB (call_lenK (K := K) rfl) (by rfl) f_len boot_len (pa_cons (pv 7) pa_nil))) (pe_op op_add (pv 3) pe_int) (nomark _)) (pw_and1 (pt_cmpR op_eq (pe_callB (call_lenK (K := K) rfl) (by rfl) f_len boot_len (pa_cons (pe_call F_meeting (hr.mono (by decide)) (by rfl) g_meeting k_meeting b_meeting nil_v pass0 (pa_cons (pv 6) (pa_cons (pv 7) pa_nil))) pa_nil)) pe_int (nomark _))))) (pss_one (ps_if (pt_cmpR op_gt (pe_callB (call_lenK (K := K) rfl) (by rfl) f_len boot_len (pa_cons (pv 6) pa_nil)) (pe_callB (call_lenK (K := K) rfl) (by rfl) f_len boot_len (pa_cons (pv 7) pa_nil)) (nomark _)) (pss_one (ps_expr (pe_bm PySem.F.plainAttrs_list PySem.F.slot_list_append PySem.F.type_list_append mt_append (pv 7) (pa_cons (pe_call F_grown (hr.mono (by decide)) (by rfl) g_grown k_grown b_grown nil_v pass0 (pa_cons (pv 7) (pa_cons (pv 5) pa_nil))) pa_nil)))) (pss_one (ps_expr (pe_bm PySem.F.plainAttrs_list PySem.F.slot_list_append PySem.F.type_list_append mt_append (pv 6) (pa_cons (pe_call F_grown (hr.mono (by decide)) (by rfl) g_grown k_grown b_grown nil_v pass0 (pa_cons (pv 6) (pa_cons (pv 4) pa_nil))) pa_nil)))))))
  (pss_one (ps_ret (pe_tup (pa_cons (pv 6) (pa_cons (pv 7) pa_nil))))))))))), ?_⟩), F.bindsN fun _ _ _ _ _ _ us hl => match us, hl with | [_, _, _, _], _ => rfl⟩
  · obtain ⟨z, a, b, n, m, most, zs, ps, s, t, rfl, _⟩ := h
    rfl
  · obtain ⟨z, a, b, n, m, most, zs, ps, s, t, rfl, hz, hg, ha, hb, hs, ht, hmost, hc, k⟩ := h
    have hP : ∀ p ∈ ps, IsP n p := hg.2.2.2.2.2.1
    refine ⟨_, rfl, z, false, n, m, zs, ps, rfl, hz, hg, fun ah us H1 s1 hah rah => ?_⟩
    refine ⟨_, rfl, z, true, n, m, zs, ps, rfl, hz.mono s1, hg, fun bh vs H2 s2 hbh rbh => ?_⟩
    have h8 : ps.length ≤ 8 := hg.2.2.2.2.1
    have lg : (gens ps).length = 2 * ps.length := gens_length ps
    have lgI : ((gens ps).map inv).length = 2 * ps.length := by rw [List.length_map, lg]
    have hS := gens_sym hP
    have hSI := gensI_sym hP
    have pw : ∀ i, i ≤ (most + 1) / 2 → (2 * ps.length) ^ i ≤ 4096 := fun i hi => by
      cases i with
      | zero => exact Nat.le_of_ble_eq_true rfl
      | succ i => exact canS_le hc hi
    refine fun d1 hd1 => ⟨_, rfl, upd_same, a, nk s, rfl, ?_, szk rfl, fun l hl => ?_⟩
    · rw [nk_kV]
      exact (((ha.mono s1).mono s2).mono (same_new hd1))
    dsimp only [gName]
    have s3 : Same H2 (upd (upd (upd H2 d1 (.dT [])) d1 (.dT [(nk s, V.non)])) l (.lst [.ref d1])) := (Same.upd_of (same_new hd1) hd1).trans (same_new hl)
    have hH2l : H2 l = none := by
      cases q : H2 l with
      | none => rfl
      | some o =>
        rw [(Same.upd_of (same_new hd1) hd1) l o q] at hl
        cases hl
    have e31 : (upd (upd (upd H2 d1 (.dT [])) d1 (.dT [(nk s, V.non)])) l (.lst [.ref d1])) l = some (.lst [.ref d1]) := upd_same
    have e32 : (upd (upd (upd H2 d1 (.dT [])) d1 (.dT [(nk s, V.non)])) l (.lst [.ref d1])) d1 = some (.dT (km [s])) := by
      rw [upd_ne (fun q => by rw [← q, upd_same] at hl; cases hl), upd_same]
      rfl
    generalize upd (upd (upd H2 d1 (.dT [])) d1 (.dT [(nk s, V.non)])) l (.lst [.ref d1]) = H3 at s3 e31 e32 ⊢
    refine fun d2 hd2 => ⟨_, rfl, upd_same, b, nk t, rfl, ?_, szk rfl, fun m2 hm2 => ?_⟩
    · rw [nk_kV]
      exact ((((hb.mono s1).mono s2).mono s3).mono (same_new hd2))
    dsimp only [gName]
    have s4 : Same H3 (upd (upd (upd H3 d2 (.dT [])) d2 (.dT [(nk t, V.non)])) m2 (.lst [.ref d2])) := (Same.upd_of (same_new hd2) hd2).trans (same_new hm2)
    have hH3m : H3 m2 = none := by
      cases q : H3 m2 with
      | none => rfl
      | some o =>
        rw [(Same.upd_of (same_new hd2) hd2) m2 o q] at hm2
        cases hm2
    have e41 : (upd (upd (upd H3 d2 (.dT [])) d2 (.dT [(nk t, V.non)])) m2 (.lst [.ref d2])) m2 = some (.lst [.ref d2]) := upd_same
    have e42 : (upd (upd (upd H3 d2 (.dT [])) d2 (.dT [(nk t, V.non)])) m2 (.lst [.ref d2])) d2 = some (.dT (km [t])) := by
      rw [upd_ne (fun q => by rw [← q, upd_same] at hm2; cases hm2), upd_same]
      rfl
    generalize upd (upd (upd H3 d2 (.dT [])) d2 (.dT [(nk t, V.non)])) m2 (.lst [.ref d2]) = H4 at s4 e41 e42 ⊢
    have hlm : l ≠ m2 := fun q => by
      rw [← q, e31] at hH3m
      cases hH3m
    have hH2m : H2 m2 = none := by
      cases q : H2 m2 with
      | none => rfl
      | some o =>
        rw [s3 m2 o q] at hH3m
        cases hH3m
    refine cut (a := tWhile _ _) (fun σ H' => ∃ A B xs ys, σ = [some (.ref z), some (.ref a), some (.ref b), some (.int (most : Int)), some (.ref ah), some (.ref bh), some (.ref l), some (.ref m2)] ∧ Same H2 H' ∧ Sea H' l m2 ps s t A B xs ys ∧ A + B ≤ most ∧ (A = B ∨ A = B + 1) ∧ (A + B = most ∨ W (gens ps) (A + B) s t)) ?_ fun N hN => ?_
    · rintro σ H' ⟨A, B, xs, ys, rfl, s5, sea, hAB, hd, hfin⟩
      refine ⟨_, rfl, _, rfl, szk rfl, fun r hr => k r l m2 xs ys A B _ (((s1.trans s2).trans s5).trans (same_new hr)) upd_same ?_ (by omega) (by omega) hAB hfin fun S hL => ?_⟩
      · exact ⟨same_new hr _ _ sea.hl, same_new hr _ _ sea.hm, sea.lx, sea.ly, sea.sx.mono (same_new hr), sea.sy.mono (same_new hr), sea.no⟩
      · have := hL.2.2
        rw [lg] at this
        exact Nat.le_trans this (pw A (by omega))
    · refine ⟨fun mm σ H' => ∃ A B xs ys, mm = most - (A + B) ∧ σ = [some (.ref z), some (.ref a), some (.ref b), some (.int (most : Int)), some (.ref ah), some (.ref bh), some (.ref l), some (.ref m2)] ∧ Same H2 H' ∧ Sea H' l m2 ps s t A B xs ys ∧ A + B ≤ most ∧ (A = B ∨ A = B + 1), ?_, ?_⟩
      · refine ⟨most, 0, 0, [.ref d1], [.ref d2], rfl, rfl, s3.trans s4, ⟨s4 _ _ e31, e41, rfl, rfl, ?_, ?_, fun j hj => by omega⟩, by omega, .inl rfl⟩
        · intro i v e
          cases i with
          | zero =>
            cases e
            exact ⟨d1, [s], rfl, s4 _ _ e32, lay_zero⟩
          | succ i => cases e
        · intro i v e
          cases i with
          | zero =>
            cases e
            exact ⟨d2, [t], rfl, e42, lay_zero⟩
          | succ i => cases e
      · rintro mm σ H5 ⟨A, B, xs, ys, rfl, rfl, s5, sea, hAB, hd⟩
        obtain ⟨hl5, hm5, lx, ly, sx, sy, no⟩ := sea
        refine ⟨_, rfl, l, xs, rfl, .inl (SqL.of hl5), _, rfl, m2, ys, rfl, .inl (SqL.of hm5), _, _, rfl, rfl, _, rfl, _, _, rfl, rfl, _, _, rfl, rfl, _, rfl, iteD (fun h0 => ?_) (fun h0 => ?_)⟩
        · obtain ⟨v1, hv1⟩ := get_of (show A < xs.length by omega)
          obtain ⟨q1, S, rfl, hq1, hL1⟩ := sx A v1 hv1
          obtain ⟨v2, hv2⟩ := get_of (show B < ys.length by omega)
          obtain ⟨q2, E, rfl, hq2, hL2⟩ := sy B v2 hv2
          have h4 : S.length ≤ 4096 := by
            have := hL1.2.2
            rw [lg] at this
            exact Nat.le_trans this (pw A (by omega))
          refine ⟨_, rfl, _, rfl, l, m2, xs, ys, A, B, q1, q2, S, E, rfl, hl5, lx, hv1, hm5, ly, hv2, hq1, hq2, h4, fun r rs H6 s6 hr hiff => ?_⟩
          rw [meet_lay hP hs ht hL1 hL2 no] at hiff
          refine ⟨r, rs, rfl, .inl (SqL.of hr), rfl, _, rfl, ?_⟩
          have no2 : rs = [] → ∀ j, j < A + B + 1 → ¬ W (gens ps) j s t := fun e j hj w => by
            by_cases q : j = A + B
            · rw [q] at w
              exact hiff.mp e w
            · exact no j (by omega) w
          have s56 := s5.trans s6
          have hl6 := s6 _ _ hl5
          have hm6 := s6 _ _ hm5
          refine iteD (fun hz0 => ?_) (fun hz0 => ?_)
          · have rs0 : rs = [] := by
              have e1 := V.int.inj hz0
              exact List.length_eq_zero_iff.mp (by omega)
            refine ⟨fun σ' H' => ∃ A' B' xs ys, A' + B' = A + B + 1 ∧ σ' = [some (.ref z), some (.ref a), some (.ref b), some (.int (most : Int)), some (.ref ah), some (.ref bh), some (.ref l), some (.ref m2)] ∧ Same H2 H' ∧ Sea H' l m2 ps s t A' B' xs ys ∧ A' + B' ≤ most ∧ (A' = B' ∨ A' = B' + 1), fun σ' H' ⟨A', B', xs', ys', e, rest⟩ => ⟨most - (A' + B'), by omega, A', B', xs', ys', rfl, rest⟩, ?_⟩
            refine ⟨_, rfl, l, xs, rfl, .inl (SqL.of hl6), _, rfl, m2, ys, rfl, .inl (SqL.of hm6), _, _, rfl, rfl, _, rfl, iteD (fun h1 => ?_) (fun h1 => ?_)⟩
            · refine ⟨_, rfl, tyL hm6, _, rfl, _, rfl, m2, bh, ys, vs, n, B, (gens ps).map inv, t, rfl, hm6, ly, by omega, sy.mono s6, s56 _ _ hbh, rbh.mono s56, hSI, ht, hg.2.1, by rw [lgI]; omega, by rw [lgI]; exact pw _ (by omega), fun d3 F H7 s7 hd3 hL3 => ?_⟩
              have hm7 := s7 _ _ hm6
              have hl7 := s7 _ _ hl6
              refine ⟨m2, ys, _, rfl, rfl, hm7, szL _ (by omega), A, B + 1, xs, ys ++ [.ref d3], by omega, rfl, Same.upd_of (s56.trans s7) hH2m, ⟨?_, upd_same, lx, ?_, ?_, ?_, ?_⟩, by omega, by omega⟩
              · rw [upd_ne hlm]
                exact hl7
              · rw [List.length_append, ly]
                rfl
              · exact (sx.mono (s6.trans s7)).but hm7 But.upd
              · refine ((sy.mono (s6.trans s7)).snoc hd3 ?_).but hm7 But.upd
                rw [ly]
                exact hL3
              · exact no2 rs0
            · refine ⟨_, rfl, tyL hl6, _, rfl, _, rfl, l, ah, xs, us, n, A, gens ps, s, rfl, hl6, lx, by omega, sx.mono s6, s56 _ _ (s2 _ _ hah), (rah.mono s2).mono s56, hS, hs, hg.2.1, by rw [lg]; omega, by rw [lg]; exact pw _ (by omega), fun d3 F H7 s7 hd3 hL3 => ?_⟩
              have hm7 := s7 _ _ hm6
              have hl7 := s7 _ _ hl6
              refine ⟨l, xs, _, rfl, rfl, hl7, szL _ (by omega), A + 1, B, xs ++ [.ref d3], ys, by omega, rfl, Same.upd_of (s56.trans s7) hH2l, ⟨upd_same, ?_, ?_, ly, ?_, ?_, ?_⟩, by omega, by omega⟩
              · rw [upd_ne (Ne.symm hlm)]
                exact hm7
              · rw [List.length_append, lx]
                rfl
              · refine ((sx.mono (s6.trans s7)).snoc hd3 ?_).but hl7 But.upd
                rw [lx]
                exact hL3
              · exact (sy.mono (s6.trans s7)).but hl7 But.upd
              · have e2 : A + 1 + B = A + B + 1 := by omega
                rw [e2]
                exact no2 rs0
          · refine hN _ _ ⟨A, B, xs, ys, rfl, s56, ⟨hl6, hm6, lx, ly, sx.mono s6, sy.mono s6, no⟩, hAB, hd, .inr ?_⟩
            by_cases w : W (gens ps) (A + B) s t
            · exact w
            · exfalso
              rw [hiff.mpr w] at hz0
              exact hz0 rfl
        · exact hN _ _ ⟨A, B, xs, ys, rfl, s5, ⟨hl5, hm5, lx, ly, sx, sy, no⟩, hAB, hd, .inl (by omega)⟩
end
end K63
set_option maxRecDepth 100000
set_option maxHeartbeats 2000000
namespace K63
open PySem PySem.Spec PyProof.Rows L2 TB TM
/-- None, or the number -/
def oV : Option Nat → V
  | none => .non
  | some d => .int (d : Int)
abbrev okM (most : Int) : Prop := 0 ≤ most ∧ most ≤ 24
def spCheckMost (K : PySem.W.Frag) : Sp := fun vs H Q E => ∃ most : Int, vs = [.int most] ∧ (okM most → Q .non H) ∧ (¬ okM most → ∀ d H', Same H H' → H' d = some (.xd [("value", .int most)]) → E (.ref (aL K)) (some d) H')
/-- what distance and check_search ask -/
structure AskD (K : PySem.W.Frag) (H : Hp) (z a b : Addr) (n m : Nat) (zs : List Str) (ps : List (List Nat)) (s t : List Nat) : Prop where
  pz : Pz K H z n m zs ps
  good : Good n m ps
  ha : Tn H a s
  hb : Tn H b t
  hs : IsP n s
  ht : IsP n t
  ks : KM m n s
  kt : KM m n t
abbrev half (most : Int) : Nat := (most.toNat + 1) / 2
def spCheckSearch (K : PySem.W.Frag) : Sp := fun vs H Q E => ∃ (z a b : Addr) (n m : Nat) (most : Int) (zs : List Str) (ps : List (List Nat)) (s t : List Nat), vs = [.ref z, .ref a, .ref b, .int most] ∧ AskD K H z a b n m zs ps s t ∧
  (okM most → canS (2 * ps.length) (half most) = true → ∀ H', Same H H' → Q .non H') ∧ (okM most → canS (2 * ps.length) (half most) = false → ∀ d H', Same H H' → H' d = some (.xd [("bound", .int 4096)]) → E (.ref (aT K)) (some d) H') ∧
  (¬ okM most → ∀ d H', Same H H' → H' d = some (.xd [("value", .int most)]) → E (.ref (aL K)) (some d) H')
def spDistance (K : PySem.W.Frag) : Sp := fun vs H Q E => ∃ (z a b : Addr) (n m : Nat) (most : Int) (zs : List Str) (ps : List (List Nat)) (s t : List Nat), vs = [.ref z, .ref a, .ref b, .int most] ∧ AskD K H z a b n m zs ps s t ∧
  (okM most → canS (2 * ps.length) (half most) = true → ∀ r H', Same H H' → Dist (gens ps) s t most.toNat r → Q (oV r) H') ∧ (okM most → canS (2 * ps.length) (half most) = false → ∀ d H', Same H H' → H' d = some (.xd [("bound", .int 4096)]) → E (.ref (aT K)) (some d) H') ∧
  (¬ okM most → ∀ d H', Same H H' → H' d = some (.xd [("value", .int most)]) → E (.ref (aL K)) (some d) H')
abbrev P : Program := prog63
/-- nothing is let out -/
theorem passN {X : Cx} : Passes (L2N.CX X.prog X.w) X E0 := fun _ _ _ _ _ _ _ ⟨_, _, _, _, _, _, _, _, _, _, _, _, z⟩ => z.elim
theorem takesN {X : Cx} (hx : X.xe = fun _ _ => False) : L2N.Takes X (fun _ _ _ _ => False) := fun _ _ ⟨_, _, _, _, _, _, _, _, _, _, _, _, _, _, _, _, z⟩ => z.elim
section
variable {w : World} {K : PySem.W.Frag} {mg : Str → Option Value} {base : Heap}
theorem dn_check_most (c : Ctx K mg) : Dn P w K mg base (L2N.CX P w) 4 "check_most" ["most"] (spCheckMost K) := by
  obtain ⟨t_MOST_STEPS, c_MOST_STEPS⟩ := c.c_MOST_STEPS
  obtain ⟨f__is_index, fd_is_index, g_is_index, k_is_index, F_is_index, b_is_index⟩ := (dn_is_index (P := P) (w := w) (base := base) c).ex
  have sc := sc_check_most
  obtain ⟨fd, F⟩ := c.D_check_most
  refine ⟨_, fd, c.g_check_most, F.kp, F.ok sc (fun vs H Q E h => ?_) (fun cdv A outer s H vs Q E hr h => ⟨_, (pss_one (ps_if (pt_not (pt_val (pe_call F_is_index (hr.mono (by decide)) (by rfl) g_is_index k_is_index b_is_index nil_v pass0 (pa_cons (pv 0) (pa_cons (pe_op op_add (pe_glob (v := .int 24) rfl c_MOST_STEPS ⟨_, rfl⟩) pe_int) pa_nil))))) (pss_one (L2N.ps_raise rfl (L2N.takes_of rfl rfl rfl rfl) (pmk_ex c.exL hr (pa_cons (pv 0) pa_nil)))) pss_nil)), ?_⟩), F.bindsN fun _ _ _ _ _ _ us hl => match us, hl with | [_], _ => rfl⟩
  · obtain ⟨most, rfl, _⟩ := h
    rfl
  · obtain ⟨most, rfl, h1, h2⟩ := h
    refine ⟨_, rfl, _, _, rfl, rfl, most, 25, rfl, _, rfl, ?_⟩
    refine iteN (fun hb => ?_) (fun hb => h1 ⟨hb.1, by omega⟩)
    exact ⟨_, rfl, _, rfl, fun d hd => h2 (fun z => hb ⟨z.1, by have := z.2; omega⟩) d _ (same_new hd) upd_same⟩
theorem dn_check_search (c : Ctx K mg) : Dn P w K mg base (L2N.CX P w) 6 "check_search" ["puzzle", "start", "goal", "most"] (spCheckSearch K) := by
  have f_len := c.f_len
  obtain ⟨t_MOST_BALL, c_MOST_BALL⟩ := c.c_MOST_BALL
  obtain ⟨f__can_search, fd_can_search, g_can_search, k_can_search, F_can_search, b_can_search⟩ := (dn_can_search (P := P) (w := w) (base := base) c).ex
  obtain ⟨f__check_most, fd_check_most, g_check_most, k_check_most, F_check_most, b_check_most⟩ := (dn_check_most (w := w) (base := base) c).ex
  obtain ⟨f__Puzzle_is_position, fd_Puzzle_is_position, m_Puzzle_is_position, F_Puzzle_is_position, b_Puzzle_is_position⟩ := (dn_Puzzle_is_position (P := P) (w := w) (base := base) c).ex
  obtain ⟨f__Puzzle___len__, fd_Puzzle___len__, m_Puzzle___len__, F_Puzzle___len__, b_Puzzle___len__⟩ := (dn_Puzzle___len__ (P := P) (w := w) (base := base) c).ex
  have sc := sc_check_search
  obtain ⟨fd, F⟩ := c.D_check_search
  refine ⟨_, fd, c.g_check_search, F.kp, F.ok sc (fun vs H Q E h => ?_) (fun cdv A outer s H vs Q E hr h => ⟨_, (pss_cons (ps_for (passes_of rfl) rfl (pi_tupK (K := K) rfl (pe_tup (pa_cons (pv 1) (pa_cons (pv 2) pa_nil)))) (pg_name (i := 4) sc.nd rfl (by first | exact Or.inl rfl | exact Or.inr rfl)) (pss_one (ps_if (pt_not (pt_val (pe_meth (pv 0) c.cls m_Puzzle_is_position F_Puzzle_is_position (hr.mono (by decide)) b_Puzzle_is_position nil_v pass0 (pa_cons (pv 4) pa_nil)))) (pss_one ps_never) pss_nil)))
  (pss_cons (ps_expr (pe_call F_check_most (hr.mono (by decide)) (by rfl) g_check_most k_check_most b_check_most nil_v (L2N.passes_call (L2N.takes_of rfl rfl rfl rfl) (fun _ _ _ _ h => h)) (pa_cons (pv 3) pa_nil)))
  (pss_one (ps_if (pt_not (pt_val (pe_call F_can_search (hr.mono (by decide)) (by rfl) g_can_search k_can_search b_can_search nil_v pass0 (pa_cons (pe_callB (call_lenOwn m_Puzzle___len__ F_Puzzle___len__ (hr.mono (by decide)) b_Puzzle___len__ pass0) (by rfl) f_len boot_len (pa_cons (pv 0) pa_nil)) (pa_cons (pe_op op_fdivN (pe_op op_add (pv 3) pe_int) pe_int) pa_nil))))) (pss_one (L2N.ps_raise rfl (L2N.takes_of rfl rfl rfl rfl) (pmk_ex c.exT hr (pa_cons (pe_glob (v := .int 4096) rfl c_MOST_BALL ⟨_, rfl⟩) pa_nil)))) pss_nil)))), ?_⟩), F.bindsN fun _ _ _ _ _ _ us hl => match us, hl with | [_, _, _, _], _ => rfl⟩
  · obtain ⟨z, a, b, n, m, most, zs, ps, s, t, rfl, _⟩ := h
    rfl
  · obtain ⟨z, a, b, n, m, most, zs, ps, s, t, rfl, ask, h1, h2, h3⟩ := h
    obtain ⟨pz, good, ha, hb, hs, ht, ks, kt⟩ := id ask
    have eaT := ha
    refine ⟨_, rfl, _, rfl, szk rfl, fun T hT => ⟨T, rfl, ⟨_, SqT.of upd_same⟩, for_it (walk_tup (xs := [.ref a, .ref b])) (fun i σ H' => (∃ u, σ = [some (.ref z), some (.ref a), some (.ref b), some (.int most), u]) ∧ Same H H' ∧ H' T = some (.tup [.ref a, .ref b])) ?_ ?_ ?_ ?_⟩⟩
    · exact ⟨⟨none, rfl⟩, same_new hT, upd_same⟩
    · rintro i σ H' hi ⟨_, _, e⟩
      exact SqT.of e
    · rintro i x σ H1 H2 hi ⟨⟨u, rfl⟩, s1, e1⟩ ⟨rfl, hx⟩
      obtain ⟨dx, na, pa, xs, p1, p2, p3, p4, p5⟩ := id (pz.mono s1)
      obtain ⟨v, p, rfl, tv, vP, vk⟩ : ∃ v p, x = V.ref v ∧ Tn H v p ∧ IsP n p ∧ KM m n p := by
        match i, hx with
        | 0, hx => exact ⟨a, s, (Option.some.inj hx).symm, ha, hs, ks⟩
        | 1, hx => exact ⟨b, t, (Option.some.inj hx).symm, hb, ht, kt⟩
      exact ⟨_, rfl, z, dx, _, rfl, p1, rfl, _, rfl, z, v, n, m, zs, ps, p, rfl, pz.mono s1, good, tv.mono s1, vP, vk, fun H3 s3 => ⟨_, rfl, ⟨_, rfl⟩, s1.trans s3, s3 _ _ e1⟩⟩
    · rintro σ H1 ⟨⟨u, rfl⟩, s1, e1⟩
      obtain ⟨dx, na, pa, xs, p1, p2, p3, p4, p5⟩ := id (pz.mono s1)
      refine ⟨_, rfl, most, rfl, fun hok => ?_, fun hno d H2 s2 e2 => h3 hno d H2 (s1.trans s2) e2⟩
      have h8 : ps.length ≤ 8 := good.2.2.2.2.1
      have em : (most + 1).fdiv 2 = ((half most : Nat) : Int) := by
        rw [Int.fdiv_eq_ediv_of_nonneg _ (by decide)]
        have := hok.1
        show _ = (((most.toNat + 1) / 2 : Nat) : Int)
        omega
      refine ⟨_, rfl, z, dx, _, rfl, p1, z, n, m, zs, ps, rfl, pz.mono s1, ps.length, rfl, by omega, _, rfl, _, _, rfl, rfl, _, _, rfl, rfl, ⟨by decide, by decide⟩, ps.length, half most, ?_, by omega, ?_, _, rfl, ?_⟩
      · show [V.int (ps.length : Int), V.int ((most + 1).fdiv 2)] = _
        rw [em]
      · have := hok.2
        show (most.toNat + 1) / 2 ≤ 1000
        omega
      · cases hc : canS (2 * ps.length) (half most) with
        | true => exact h1 hok hc _ s1
        | false => exact ⟨_, rfl, fun d hd => h2 hok hc d _ (s1.trans (same_new hd)) upd_same⟩
end
end K63
set_option maxRecDepth 100000
set_option maxHeartbeats 2000000
namespace K63
open PySem PySem.Spec PyProof.Rows L2 TB TM
/-- distance as a def, with its two forms of call -/
structure DnD (w : World) (K : PySem.W.Frag) (mg : Str → Option Value) (base : Heap) : Prop where
  ex : ∃ (f : Addr) (fd : FuncData), mg "distance" = some (.ref f) ∧ PySem.W.keepIn K (.ref f) = true ∧ FnOk P w K mg base (L2N.CX P w) 7 f fd ["puzzle", "start", "goal", "most"] (spDistance K) ∧
    (∃ (g : List Value → List Value → List Value), KBn K fd ["puzzle", "start", "goal", "most"] 3 ["most"] g (fun vs zs => vs ++ zs)) ∧ ∃ ds, Vals [V.int 6] ds ∧ Binds K fd ["puzzle", "start", "goal", "most"] ds
section
variable {w : World} {K : PySem.W.Frag} {mg : Str → Option Value} {base : Heap}
theorem dn_distance (c : Ctx K mg) : DnD w K mg base := by
  have f_len := c.f_len
  obtain ⟨f__meeting, fd_meeting, g_meeting, k_meeting, F_meeting, b_meeting⟩ := (dn_meeting (P := P) (w := w) (base := base) c).ex
  obtain ⟨f__searched, fd_searched, g_searched, k_searched, F_searched, b_searched⟩ := (dn_searched (P := P) (w := w) (base := base) c).ex
  obtain ⟨f__check_search, fd_check_search, g_check_search, k_check_search, F_check_search, b_check_search⟩ := (dn_check_search (w := w) (base := base) c).ex
  have sc := sc_distance
  obtain ⟨fd, F⟩ := c.D_distance
  refine ⟨_, fd, c.g_distance, F.kp, F.ok sc (fun vs H Q E h => ?_) (fun cdv A outer s H vs Q E hr h => ⟨_,
(pss_cons (ps_expr (pe_call F_check_search (hr.mono (by decide)) (by rfl) g_check_search k_check_search b_check_search nil_v (L2N.passes_call (L2N.takes_of rfl rfl rfl rfl) (fun _ _ _ _ h => h)) (pa_cons (pv 0) (pa_cons (pv 1) (pa_cons (pv 2) (pa_cons (pv 3) pa_nil))))))
  (pss_cons (ps_asg (pe_call F_searched (hr.mono (by decide)) (by rfl) g_searched k_searched b_searched nil_v pass0 (pa_cons (pv 0) (pa_cons (pv 1) (pa_cons (pv 2) (pa_cons (pv 3) pa_nil))))) (pg_tupK (K := K) (n := 2) rfl rfl (pgs_cons (pg_name (i := 4) sc.nd rfl (by first | exact Or.inl rfl | exact Or.inr rfl)) (pgs_cons (pg_name (i := 5) sc.nd rfl (by first | exact Or.inl rfl | exact Or.inr rfl)) pgs_nil))))
  (pss_cons (ps_if (pt_cmpR op_eq (pe_callB (call_lenK (K := K) rfl) (by rfl) f_len boot_len (pa_cons (pe_call F_meeting (hr.mono (by decide)) (by rfl) g_meeting k_meeting b_meeting nil_v pass0 (pa_cons (pv 4) (pa_cons (pv 5) pa_nil))) pa_nil)) pe_int (nomark _)) (pss_one (ps_ret pe_non)) pss_nil)
  (pss_one (ps_ret (pe_op op_sub (pe_op op_add (pe_callB (call_lenK (K := K) rfl) (by rfl) f_len boot_len (pa_cons (pv 4) pa_nil)) (pe_callB (call_lenK (K := K) rfl) (by rfl) f_len boot_len (pa_cons (pv 5) pa_nil))) pe_int))))))
    , ?_⟩), ?_, ?_⟩
  · obtain ⟨z, a, b, n, m, most, zs, ps, s, t, rfl, _⟩ := h
    rfl
  · obtain ⟨z, a, b, n, m, most, zs, ps, s, t, rfl, ask, h1, h2, h3⟩ := h
    obtain ⟨pz, good, ha, hb, hs, ht, ks, kt⟩ := id ask
    refine ⟨_, rfl, _, rfl, _, rfl, _, rfl, z, a, b, n, m, most, zs, ps, s, t, rfl, ask, fun hok hc H1 s1 => ?_, h2, h3⟩
    have e1 : (most.toNat : Int) = most := by have := hok.1; omega
    refine ⟨_, rfl, _, rfl, _, rfl, _, rfl, z, a, b, n, m, most.toNat, zs, ps, s, t, ?_, pz.mono s1, good, ha.mono s1, hb.mono s1, hs, ht, by have := hok.2; omega, hc, fun r l m2 xs ys A B H2 s2 hr sea hA hB hAB hfin hsz => ?_⟩
    · show [V.ref z, V.ref a, V.ref b, V.int most] = [V.ref z, V.ref a, V.ref b, V.int (most.toNat : Int)]
      rw [e1]
    obtain ⟨hl5, hm5, lx, ly, sx, sy, no⟩ := sea
    obtain ⟨v1, hv1⟩ := get_of (show A < xs.length by omega)
    obtain ⟨q1, S, rfl, hq1, hL1⟩ := sx A v1 hv1
    obtain ⟨v2, hv2⟩ := get_of (show B < ys.length by omega)
    obtain ⟨q2, E2, rfl, hq2, hL2⟩ := sy B v2 hv2
    have hP : ∀ p ∈ ps, IsP n p := good.2.2.2.2.2.1
    refine ⟨r, _, rfl, SqT.of hr, rfl, _, _, rfl, _, _, rfl, rfl, _, rfl, _, rfl, l, m2, xs, ys, A, B, q1, q2, S, E2, rfl, hl5, lx, hv1, hm5, ly, hv2, hq1, hq2, hsz S hL1, fun r2 rs H3 s3 hr2 hiff => ?_⟩
    rw [meet_lay hP hs ht hL1 hL2 no] at hiff
    refine ⟨r2, rs, rfl, .inl (SqL.of hr2), rfl, _, rfl, iteD (fun hz0 => ?_) (fun hz0 => ?_)⟩
    · have rs0 : rs = [] := by
        have e2 := V.int.inj hz0
        exact List.length_eq_zero_iff.mp (by omega)
      refine h1 hok hc none _ ((s1.trans s2).trans s3) fun j hj w => ?_
      rcases hfin with e | e
      · by_cases q : j = A + B
        · rw [q] at w
          exact hiff.mp rs0 w
        · exact no j (by omega) w
      · exact hiff.mp rs0 e
    · have hW : W (gens ps) (A + B) s t := by
        by_cases q : W (gens ps) (A + B) s t
        · exact q
        · exfalso
          rw [hiff.mpr q] at hz0
          exact hz0 rfl
      refine ⟨_, rfl, l, xs, rfl, .inl (SqL.of (s3 _ _ hl5)), _, rfl, m2, ys, rfl, .inl (SqL.of (s3 _ _ hm5)), _, _, rfl, rfl, _, _, rfl, rfl, ?_⟩
      have e3 : (xs.length : Int) + (ys.length : Int) - 2 = ((A + B : Nat) : Int) := by omega
      show Q (.int ((xs.length : Int) + (ys.length : Int) - 2)) _
      rw [e3]
      exact h1 hok hc (some (A + B)) _ ((s1.trans s2).trans s3) ⟨hAB, hW, no⟩
  · obtain ⟨mv, kb⟩ := FunD.kbinds0 (ps := ["puzzle", "start", "goal", "most"]) F 3 ["most"] [] (fun us _ ws => us ++ ws) (by intro z; cases z) (fun q hq => by cases hq) (fun r1 _ r3 => r1.append r3) (fun D doc pm an cdv ct us mv ws l1 l2 l3 => by
      match us, ws, mv, l1, l3, l2 with
      | [_, _, _], [_], [], _, _, _ => exact rfl)
    exact ⟨_, kb⟩
  · refine F.binds0 3 (by intro z; cases z) rfl fun D doc pm an cdv ct us ks l1 l2 => ?_
    match us, ks, l1, l2 with
    | [_, _, _], [_], _, _ => exact ⟨_, _, _, _, _, _, rfl, rfl, rfl⟩
end
end K63
set_option maxRecDepth 100000
set_option maxHeartbeats 2000000
namespace K63
open PySem PySem.Spec PyProof.Rows L2 TB TM
/-- the turns told: pairs of a name and a perm -/
def Tu (H : Hp) (T : Addr) (zs : List Str) (ps : List (List Nat)) : Prop := ∃ ts : List V, H T = some (.tup ts) ∧ ts.length = ps.length ∧ zs.length = ps.length ∧
  ∀ (i : Nat) (z : Str) (p : List Nat), zs[i]? = some z → ps[i]? = some p → ∃ q a : Addr, ts[i]? = some (.ref q) ∧ H q = some (.tup [.str z, .ref a]) ∧ Tn H a p
theorem Tu.tps {H H' : Hp} {T : Addr} {zs : List Str} {ps : List (List Nat)} (h : Tu H T zs ps) (t : Tps H H') : Tu H' T zs ps := by
  obtain ⟨ts, h1, h2, h3, h4⟩ := h
  refine ⟨ts, t _ _ h1, h2, h3, fun i z p hz hp => ?_⟩
  obtain ⟨q, a, e1, e2, e3⟩ := h4 i z p hz hp
  exact ⟨q, a, e1, t _ _ e2, t.tn e3⟩
theorem Tps.ofBut {H H' : Hp} {x C dx : Addr} {fs : List (Str × V)} (h : H x = some (.ins C dx fs)) (b : But x H H') : Tps H H' := fun a ys e => b a _ (ne_of e h (by intro z; cases z)) e
def spPuzInit (K : PySem.W.Frag) : Sp := fun vs H Q _ => ∃ (x dx T : Addr) (n m : Nat) (zs : List Str) (ps : List (List Nat)), vs = [.ref x, .int (n : Int), .ref T, .int (m : Int)] ∧ H x = some (.ins (He.ga K "Puzzle") dx []) ∧ Tu H T zs ps ∧ Good n m ps ∧ (∀ z ∈ zs, NameOk z) ∧ zs.Nodup ∧
  ∀ H', But x H H' → Pz K H' x n m zs ps → Q .non H'
structure DnP (P : Program) (w : World) (K : PySem.W.Frag) (mg : Str → Option Value) (base : Heap) : Prop where
  ex : ∃ (f : Addr) (fd : FuncData), Mk K (He.ga K "Puzzle") f ∧ FnOk P w K mg base CX0 4 f fd ["self", "points", "turns", "marks"] (spPuzInit K) ∧
    (∃ (g : List Value → List Value → List Value), KBn K fd ["self", "points", "turns", "marks"] 3 ["marks"] g (fun vs zs => vs ++ zs)) ∧ ∃ ds, Vals [V.int 1] ds ∧ Binds K fd ["self", "points", "turns", "marks"] ds
section
variable {P : Program} {w : World} {K : PySem.W.Frag} {mg : Str → Option Value} {base : Heap}
theorem dn_Puzzle___init__ (c : Ctx K mg) : DnP P w K mg base := by
  have f_len := c.f_len
  have f_tuple := c.f_tuple
  obtain ⟨t_MOST_POINTS, c_MOST_POINTS⟩ := c.c_MOST_POINTS
  obtain ⟨t_MOST_TURNS, c_MOST_TURNS⟩ := c.c_MOST_TURNS
  obtain ⟨f__keeps_marks, fd_keeps_marks, g_keeps_marks, k_keeps_marks, F_keeps_marks, b_keeps_marks⟩ := (dn_keeps_marks (P := P) (w := w) (base := base) c).ex
  obtain ⟨f__is_perm, fd_is_perm, g_is_perm, k_is_perm, F_is_perm, b_is_perm⟩ := (dn_is_perm (P := P) (w := w) (base := base) c).ex
  obtain ⟨f__is_name, fd_is_name, g_is_name, k_is_name, F_is_name, b_is_name⟩ := (dn_is_name (P := P) (w := w) (base := base) c).ex
  have sc := sc_Puzzle___init__
  obtain ⟨fd, F⟩ := c.D_Puzzle___init__
  refine ⟨_, fd, c.mkr, F.ok sc (fun vs H Q E h => ?_) (fun cdv A outer s H vs Q E hr h => ⟨_, PSs.nox (
(pss_cons (ps_if (PW.pt (pw_or (pt_cmpR op_lt (pv 1) pe_int (nomark _)) (pw_or1 (pt_cmpR op_gt (pv 1) (pe_glob (v := .int 24) rfl c_MOST_POINTS ⟨_, rfl⟩) (nomark _))))) (pss_one ps_never) pss_nil)
  (pss_cons (ps_if (PW.pt (pw_or (pt_cmpR op_lt (pv 3) pe_int (nomark _)) (pw_or1 (pt_cmpR op_ne (pe_op op_modN (pv 1) (pv 3)) pe_int (nomark _))))) (pss_one ps_never) pss_nil)
  (pss_cons (ps_if (pt_cmpR op_gt (pe_callB (call_lenK (K := K) rfl) (by rfl) f_len boot_len (pa_cons (pv 2) pa_nil)) (pe_glob (v := .int 8) rfl c_MOST_TURNS ⟨_, rfl⟩) (nomark _)) (pss_one ps_never) pss_nil)
  (pss_cons (ps_set (i := 4) sc.nd rfl (by first | exact Or.inl rfl | exact Or.inr rfl) (pe_lst pa_nil))
  (pss_cons (ps_set (i := 5) sc.nd rfl (by first | exact Or.inl rfl | exact Or.inr rfl) (pe_lst pa_nil))
  (pss_cons (ps_for PassesOwn.never rfl (pi_tupK (K := K) rfl (pv 2)) (pg_tupK (K := K) (n := 2) rfl rfl (pgs_cons (pg_name (i := 6) sc.nd rfl (by first | exact Or.inl rfl | exact Or.inr rfl)) (pgs_cons (pg_name (i := 7) sc.nd rfl (by first | exact Or.inl rfl | exact Or.inr rfl)) pgs_nil))) (pss_cons (ps_if (pt_not (pt_val (pe_call F_is_name (hr.mono (by decide)) (by rfl) g_is_name k_is_name b_is_name nil_v pass0 (pa_cons (pv 6) pa_nil)))) (pss_one ps_never) pss_nil)
  (pss_cons (ps_if (pt_cmpR (op_in_seqK (K := K) rfl) (pv 6) (pv 4) (by with_unfolding_all rfl)) (pss_one ps_never) pss_nil)
  (pss_cons (ps_if (pt_not (pt_val (pe_call F_is_perm (hr.mono (by decide)) (by rfl) g_is_perm k_is_perm b_is_perm nil_v pass0 (pa_cons (pv 7) (pa_cons (pv 1) pa_nil))))) (pss_one ps_never) pss_nil)
  (pss_cons (ps_if (pt_not (pt_val (pe_call F_keeps_marks (hr.mono (by decide)) (by rfl) g_keeps_marks k_keeps_marks b_keeps_marks nil_v pass0 (pa_cons (pv 7) (pa_cons (pv 3) pa_nil))))) (pss_one ps_never) pss_nil)
  (pss_cons (ps_expr (pe_bm PySem.F.plainAttrs_list PySem.F.slot_list_append PySem.F.type_list_append mt_append (pv 4) (pa_cons (pv 6) pa_nil)))
  (pss_one (ps_expr (pe_bm PySem.F.plainAttrs_list PySem.F.slot_list_append PySem.F.type_list_append mt_append (pv 5) (pa_cons (pv 7) pa_nil))))))))))
  (pss_cons (ps_fld (pv 0) (pv 1) rfl)
  (pss_cons (ps_fld (pv 0) (pv 3) rfl)
  (pss_cons (ps_fld (pv 0) (pe_op op_fdivN (pv 1) (pv 3)) rfl)
  (pss_cons (ps_fld (pv 0) (pe_callTy (call_tupK (K := K) rfl) (by rfl) f_tuple boot_tuple (pa_cons (pv 4) pa_nil)) rfl)
  (pss_cons (ps_fld (pv 0) (pe_callTy (call_tupK (K := K) rfl) (by rfl) f_tuple boot_tuple (pa_cons (pv 5) pa_nil)) rfl)
  (pss_one (ps_fld (pv 0) pe_non rfl)))))))))))))
    ), ?_⟩), ?_, ?_⟩
  · obtain ⟨x, dx, T, n, m, zs, ps, rfl, _⟩ := h
    rfl
  · obtain ⟨x, dx, T, n, m, zs, ps, rfl, hx, tu, hg, hzs, hnd, k⟩ := h
    obtain ⟨ts, t1, t2, t3, t4⟩ := id tu
    obtain ⟨g1, g2, g3, g4, g5, g6, g7⟩ := id hg
    have em : (n : Int).fmod (m : Int) = 0 := by
      rw [Int.fmod_eq_emod_of_nonneg _ (by omega)]
      have := Nat.mod_eq_zero_of_dvd g4
      have e := congrArg (fun (z : Nat) => (z : Int)) this
      simpa using e
    refine ⟨_, rfl, _, _, rfl, rfl, _, rfl, iteD (fun z => by omega) fun _ => ?_⟩
    refine ⟨_, rfl, _, _, rfl, rfl, _, rfl, iteD (fun z => by omega) fun _ => ?_⟩
    refine ⟨_, rfl, _, _, rfl, rfl, _, rfl, iteD (fun z => by omega) fun _ => ?_⟩
    refine ⟨_, rfl, _, rfl, _, _, rfl, rfl, (by omega), rfl, _, rfl, iteNS (congrArg V.int em) ?_⟩
    refine ⟨_, rfl, T, ts, rfl, .inr (SqT.of t1), _, _, rfl, rfl, _, rfl, iteD (fun z => by omega) fun _ => ?_⟩
    refine ⟨szk rfl, fun N hN => ⟨szk rfl, fun M hM => ?_⟩⟩
    dsimp only [gName]
    have s0 : Same H (upd (upd H N (.lst [])) M (.lst [])) := (same_new hN).trans (same_new hM)
    have hNM : N ≠ M := fun z => by
      rw [z, upd_same] at hM
      cases hM
    have hHM : H M = none := by
      rw [upd_ne (Ne.symm hNM)] at hM
      exact hM
    have eN : (upd (upd H N (.lst [])) M (.lst [])) N = some (.lst []) := by rw [upd_ne hNM, upd_same]
    have eM : (upd (upd H N (.lst [])) M (.lst [])) M = some (.lst []) := upd_same
    generalize upd (upd H N (.lst [])) M (.lst []) = H0 at s0 eN eM ⊢
    refine cut (a := tFor _ _ _) (fun σ H' => ∃ u v ys, σ = [some (.ref x), some (.int (n : Int)), some (.ref T), some (.int (m : Int)), some (.ref N), some (.ref M), u, v] ∧ Same H H' ∧ H' N = some (.lst (zs.map V.str)) ∧ H' M = some (.lst ys) ∧ Rw H' ys ps) ?_ fun NX hNX => ?_
    · rintro σ H1 ⟨u, v, ys, rfl, s1, e1, e2, r1⟩
      have x1 := s1 _ _ hx
      have xN : N ≠ x := fun z => by
        rw [← z, hN] at hx
        cases hx
      have xM : M ≠ x := fun z => by
        rw [← z, hHM] at hx
        cases hx
      refine ⟨_, rfl, _, rfl, x, _, dx, _, rfl, x1, c.cls, c.n_points, Nat.le_of_ble_eq_true rfl, ?_⟩
      refine ⟨_, rfl, _, rfl, x, _, dx, _, rfl, upd_same, c.cls, c.n_marks, Nat.le_of_ble_eq_true rfl, ?_⟩
      have hmn : m ≤ n := Nat.le_of_dvd (by omega) g4
      refine ⟨_, rfl, _, rfl, _, _, rfl, rfl, ⟨by omega, by omega⟩, _, rfl, x, _, dx, _, rfl, upd_same, c.cls, c.n_spots, Nat.le_of_ble_eq_true rfl, ?_⟩
      have b1 : But x H1 (upd (upd (upd H1 x (.ins (He.ga K "Puzzle") dx (putF "points" (.int (n : Int)) []))) x (.ins (He.ga K "Puzzle") dx (putF "marks" (.int (m : Int)) (putF "points" (.int (n : Int)) [])))) x
          (.ins (He.ga K "Puzzle") dx (putF "spots" (.int ((n : Int).fdiv (m : Int))) (putF "marks" (.int (m : Int)) (putF "points" (.int (n : Int)) []))))) := (But.upd.trans But.upd).trans But.upd
      have f1 : (upd (upd (upd H1 x (.ins (He.ga K "Puzzle") dx (putF "points" (.int (n : Int)) []))) x (.ins (He.ga K "Puzzle") dx (putF "marks" (.int (m : Int)) (putF "points" (.int (n : Int)) [])))) x
          (.ins (He.ga K "Puzzle") dx (putF "spots" (.int ((n : Int).fdiv (m : Int))) (putF "marks" (.int (m : Int)) (putF "points" (.int (n : Int)) []))))) x = some (.ins (He.ga K "Puzzle") dx [("points", .int (n : Int)), ("marks", .int (m : Int)), ("spots", .int ((n : Int).fdiv (m : Int)))]) := by
        rw [upd_same]
        rfl
      dsimp only
      generalize upd (upd (upd H1 x (.ins (He.ga K "Puzzle") dx (putF "points" (.int (n : Int)) []))) x (.ins (He.ga K "Puzzle") dx (putF "marks" (.int (m : Int)) (putF "points" (.int (n : Int)) [])))) x
          (.ins (He.ga K "Puzzle") dx (putF "spots" (.int ((n : Int).fdiv (m : Int))) (putF "marks" (.int (m : Int)) (putF "points" (.int (n : Int)) [])))) = G1 at b1 f1 ⊢
      refine ⟨_, rfl, N, _, rfl, .inl ⟨SqL.of (b1 _ _ xN e1), fun na hna => ?_⟩⟩
      refine ⟨_, rfl, x, _, dx, _, rfl, same_new hna _ _ f1, c.cls, c.n_names, Nat.le_of_ble_eq_true rfl, ?_⟩
      have b2 : But x H1 (upd (upd G1 na (.tup (zs.map V.str))) x (.ins (He.ga K "Puzzle") dx (putF "names" (.ref na) [("points", .int (n : Int)), ("marks", .int (m : Int)), ("spots", .int ((n : Int).fdiv (m : Int)))]))) := (b1.same (same_new hna)).trans But.upd
      have xna : na ≠ x := fun z => by
        rw [z, f1] at hna
        cases hna
      have f2 : (upd (upd G1 na (.tup (zs.map V.str))) x (.ins (He.ga K "Puzzle") dx (putF "names" (.ref na) [("points", .int (n : Int)), ("marks", .int (m : Int)), ("spots", .int ((n : Int).fdiv (m : Int)))]))) x = some (.ins (He.ga K "Puzzle") dx [("points", .int (n : Int)), ("marks", .int (m : Int)), ("spots", .int ((n : Int).fdiv (m : Int))), ("names", .ref na)]) := by
        rw [upd_same]
        rfl
      have g2n : (upd (upd G1 na (.tup (zs.map V.str))) x (.ins (He.ga K "Puzzle") dx (putF "names" (.ref na) [("points", .int (n : Int)), ("marks", .int (m : Int)), ("spots", .int ((n : Int).fdiv (m : Int)))]))) na = some (.tup (zs.map V.str)) := by rw [upd_ne xna, upd_same]
      dsimp only
      generalize upd (upd G1 na (.tup (zs.map V.str))) x (.ins (He.ga K "Puzzle") dx (putF "names" (.ref na) [("points", .int (n : Int)), ("marks", .int (m : Int)), ("spots", .int ((n : Int).fdiv (m : Int)))])) = G2 at b2 f2 g2n ⊢
      refine ⟨_, rfl, M, _, rfl, .inl ⟨SqL.of (b2 _ _ xM e2), fun pa hpa => ?_⟩⟩
      refine ⟨_, rfl, x, _, dx, _, rfl, same_new hpa _ _ f2, c.cls, c.n_perms, Nat.le_of_ble_eq_true rfl, ?_⟩
      have xpa : pa ≠ x := fun z => by
        rw [z, f2] at hpa
        cases hpa
      have pana : na ≠ pa := fun z => by
        rw [← z, g2n] at hpa
        cases hpa
      have b3 : But x H1 (upd (upd G2 pa (.tup ys)) x (.ins (He.ga K "Puzzle") dx (putF "perms" (.ref pa) [("points", .int (n : Int)), ("marks", .int (m : Int)), ("spots", .int ((n : Int).fdiv (m : Int))), ("names", .ref na)]))) := (b2.same (same_new hpa)).trans But.upd
      have f3 : (upd (upd G2 pa (.tup ys)) x (.ins (He.ga K "Puzzle") dx (putF "perms" (.ref pa) [("points", .int (n : Int)), ("marks", .int (m : Int)), ("spots", .int ((n : Int).fdiv (m : Int))), ("names", .ref na)]))) x = some (.ins (He.ga K "Puzzle") dx [("points", .int (n : Int)), ("marks", .int (m : Int)), ("spots", .int ((n : Int).fdiv (m : Int))), ("names", .ref na), ("perms", .ref pa)]) := by
        rw [upd_same]
        rfl
      have g3n : (upd (upd G2 pa (.tup ys)) x (.ins (He.ga K "Puzzle") dx (putF "perms" (.ref pa) [("points", .int (n : Int)), ("marks", .int (m : Int)), ("spots", .int ((n : Int).fdiv (m : Int))), ("names", .ref na)]))) na = some (.tup (zs.map V.str)) := by
        rw [upd_ne xna, upd_ne pana]
        exact g2n
      have g3p : (upd (upd G2 pa (.tup ys)) x (.ins (He.ga K "Puzzle") dx (putF "perms" (.ref pa) [("points", .int (n : Int)), ("marks", .int (m : Int)), ("spots", .int ((n : Int).fdiv (m : Int))), ("names", .ref na)]))) pa = some (.tup ys) := by rw [upd_ne xpa, upd_same]
      dsimp only
      generalize upd (upd G2 pa (.tup ys)) x (.ins (He.ga K "Puzzle") dx (putF "perms" (.ref pa) [("points", .int (n : Int)), ("marks", .int (m : Int)), ("spots", .int ((n : Int).fdiv (m : Int))), ("names", .ref na)])) = G3 at b3 f3 g3n g3p ⊢
      refine ⟨_, rfl, x, _, dx, _, rfl, f3, c.cls, c.n__links, Nat.le_of_ble_eq_true rfl, ?_⟩
      refine k _ ((But.ofSame s1).trans (b3.trans But.upd)) ⟨dx, na, pa, ys, ?_, ?_, ?_, ?_, t3⟩
      · rw [upd_same]
        rfl
      · rw [upd_ne xna]
        exact g3n
      · rw [upd_ne xpa]
        exact g3p
      · exact (Tps.ofBut (s1 _ _ hx) (b3.trans But.upd)).rw r1
    · refine ⟨_, rfl, T, rfl, ⟨_, SqT.of (s0 _ _ t1)⟩, for_it (walk_tup (xs := ts)) (fun i σ H' => (∃ u v, σ = [some (.ref x), some (.int (n : Int)), some (.ref T), some (.int (m : Int)), some (.ref N), some (.ref M), u, v]) ∧ Same H H' ∧ H' N = some (.lst ((zs.take i).map V.str)) ∧ ∃ ys, H' M = some (.lst ys) ∧ Rw H' ys (ps.take i)) ?_ ?_ ?_ ?_⟩
      · exact ⟨⟨none, none, rfl⟩, s0, eN, [], eM, Rw.nil⟩
      · rintro i σ H' hi ⟨_, s1, _⟩
        exact SqT.of (s1 _ _ t1)
      · rintro i v σ H1 H2 hi ⟨⟨u1, u2, rfl⟩, s1, e1, ys, e2, r1⟩ ⟨rfl, hv⟩
        obtain ⟨z, hz⟩ := get_of (show i < zs.length by omega)
        obtain ⟨p, hp⟩ := get_of (show i < ps.length by omega)
        obtain ⟨q, a, a1, a2, a3⟩ := t4 i z p hz hp
        rw [a1] at hv
        obtain rfl : V.ref q = v := Option.some.inj hv
        have hpP := g6 p (List.mem_of_getElem? hp)
        have hpK := g7 p (List.mem_of_getElem? hp)
        refine ⟨q, _, rfl, SqT.of (s1 _ _ a2), rfl, _, _, rfl, _, _, rfl, rfl, ?_⟩
        refine ⟨_, rfl, z, rfl, hzs z (List.mem_of_getElem? hz), fun H3 s3 => ⟨_, rfl, ?_⟩⟩
        have s13 := s1.trans s3
        have hnot : inV (V.str z) ((zs.take i).map V.str) = false := by
          unfold inV
          rw [List.any_map, List.any_eq_false]
          intro y hy e
          have e2 : (y == z) = true := e
          have e3 : y = z := eq_of_beq e2
          rw [e3] at hy
          obtain ⟨j, hj, ej⟩ := List.getElem_of_mem hy
          rw [List.length_take] at hj
          rw [List.getElem_take] at ej
          have e4 : zs[j]? = some z := by rw [List.getElem?_eq_getElem (by omega), ej]
          have e5 := nd_get hnd e4 hz
          omega
        refine ⟨_, rfl, _, rfl, N, _, rfl, .inl (SqL.of (s3 _ _ e1)), rfl, ?_, _, rfl, ?_⟩
        · rw [List.all_map, List.all_eq_true]
          intro y hy
          rfl
        rw [hnot]
        have hy8 : ys.length ≤ 8 := by
          rw [r1.1, List.length_take]
          omega
        refine ⟨_, rfl, _, rfl, a, p, n, rfl, a3.mono s13, hpP, g1, by omega, fun H4 s4 => ⟨_, rfl, ?_⟩⟩
        refine ⟨_, rfl, _, rfl, a, p, n, m, rfl, (a3.mono s13).mono s4, hpP, g3, g4, g1, hpK, by omega, fun H5 s5 => ⟨_, rfl, ?_⟩⟩
        have s35 := (s3.trans s4).trans s5
        have s15 := s1.trans s35
        refine ⟨_, rfl, tyL (s35 _ _ e1), _, rfl, N, _, _, rfl, rfl, s35 _ _ e1, szL _ (by rw [List.length_map, List.length_take]; omega), ?_⟩
        have eM2 : (upd H5 N (.lst ((zs.take i).map V.str ++ [V.str z]))) M = some (.lst ys) := by
          rw [upd_ne (Ne.symm hNM)]
          exact s35 _ _ e2
        refine ⟨_, rfl, tyL eM2, _, rfl, M, _, _, rfl, rfl, eM2, szL _ (by omega), ⟨_, _, rfl⟩, Same.upd_of (Same.upd_of s15 hN) hHM, ?_, _, upd_same, ?_⟩
        · rw [upd_ne hNM, upd_same, List.take_succ, hz, List.map_append]
          rfl
        · exact (Tps.upd eM2).rw ((Tps.upd (s35 _ _ e1)).rw ((r1.mono s35).take hp (a3.mono s15)))
      · rintro σ H' ⟨⟨u, v, rfl⟩, s1, e1, ys, e2, r1⟩
        rw [t2, ← t3, List.take_length] at e1
        rw [t2, List.take_length] at r1
        exact hNX _ _ ⟨_, _, ys, rfl, s1, e1, e2, r1⟩
  · obtain ⟨mv, kb⟩ := FunD.kbinds0 (ps := ["self", "points", "turns", "marks"]) F 3 ["marks"] [] (fun us _ ws => us ++ ws) (by intro z; cases z) (fun q hq => by cases hq) (fun r1 _ r3 => r1.append r3) (fun D doc pm an cdv ct us mv ws l1 l2 l3 => by
      match us, ws, mv, l1, l3, l2 with
      | [_, _, _], [_], [], _, _, _ => exact rfl)
    exact ⟨_, kb⟩
  · refine F.binds0 3 (by intro z; cases z) rfl fun D doc pm an cdv ct us ks l1 l2 => ?_
    match us, ks, l1, l2 with
    | [_, _, _], [_], _, _ => exact ⟨_, _, _, _, _, _, rfl, rfl, rfl⟩
end
end K63
set_option maxRecDepth 100000
set_option maxHeartbeats 2000000
namespace K63
open PySem PySem.Spec PyProof.Rows L2 TB TM
/-- a step: the k-th perm, or back -/
def stepP (ps : List (List Nat)) (w : Nat × Bool) : List Nat := if w.2 then inv (ps.getD w.1 []) else ps.getD w.1 []
def playW (ps : List (List Nat)) (wd : List (Nat × Bool)) (s : List Nat) : List Nat := wd.foldl (fun s w => mul s (stepP ps w)) s
/-- the key of a step -/
def sk (z : Str) (b : Bool) : List Key := [.inr z, .inl (if b then -1 else 1)]
theorem sk_inj {z y : Str} {a b : Bool} (h : sk z a = sk y b) : z = y ∧ a = b := by
  unfold sk at h
  injection h with h1 h2
  injection h1 with h1
  injection h2 with h2 _
  injection h2 with h2
  refine ⟨h1, ?_⟩
  cases a <;> cases b <;> first | rfl | cases h2
/-- a word as a tuple of pairs -/
def Wd (H : Hp) (T : Addr) (zs : List Str) (wd : List (Nat × Bool)) : Prop := ∃ ws : List V, H T = some (.tup ws) ∧ ws.length = wd.length ∧ ∀ (i : Nat) (w : Nat × Bool), wd[i]? = some w → ∃ (q : Addr) (z : Str), ws[i]? = some (.ref q) ∧ zs[w.1]? = some z ∧ H q = some (.tup ((sk z w.2).map kV))
theorem Wd.tps {H H' : Hp} {T : Addr} {zs : List Str} {wd : List (Nat × Bool)} (h : Wd H T zs wd) (t : Tps H H') : Wd H' T zs wd := by
  obtain ⟨ws, h1, h2, h3⟩ := h
  refine ⟨ws, t _ _ h1, h2, fun i w e => ?_⟩
  obtain ⟨q, z, e1, e2, e3⟩ := h3 i w e
  exact ⟨q, z, e1, e2, t _ _ e3⟩
def spPlay (K : PySem.W.Frag) : Sp := fun vs H Q _ => ∃ (z T a : Addr) (n m : Nat) (zs : List Str) (ps : List (List Nat)) (wd : List (Nat × Bool)) (s : List Nat), vs = [.ref z, .ref T, .ref a] ∧ Pz K H z n m zs ps ∧ Good n m ps ∧ zs.Nodup ∧ Wd H T zs wd ∧ wd.length ≤ 100 ∧ Tn H a s ∧ IsP n s ∧ KM m n s ∧
  ∀ c H', Same H H' → Tn H' c (playW ps wd s) → Q (.ref c) H'
/-- the dict of the steps -/
def BS (H : Hp) (zs : List Str) (ps : List (List Nat)) (kvs : List (List Key × V)) (i : Nat) : Prop := kvs.length ≤ 2 * i ∧ ∀ (j : Nat) (z : Str) (p : List Nat), j < i → zs[j]? = some z → ps[j]? = some p → ∀ b : Bool, ∃ a, valV kvs (sk z b) = some (.ref a) ∧ Tn H a (if b then inv p else p)
theorem BS.tps {H H' : Hp} {zs : List Str} {ps : List (List Nat)} {kvs : List (List Key × V)} {i : Nat} (h : BS H zs ps kvs i) (t : Tps H H') : BS H' zs ps kvs i := ⟨h.1, fun j z p hj hz hp b => by
  obtain ⟨a, e1, e2⟩ := h.2 j z p hj hz hp b
  exact ⟨a, e1, t.tn e2⟩⟩
theorem putK_le {kvs : List (List Key × V)} {k : List Key} {v : V} : (putK kvs k v).length ≤ kvs.length + 1 := by
  unfold putK
  split
  · rw [List.length_map]
    omega
  · rw [List.length_append]
    exact Nat.le_refl _
theorem stepP_isP {n : Nat} {ps : List (List Nat)} (h : ∀ p ∈ ps, IsP n p) {w : Nat × Bool} (hw : w.1 < ps.length) : IsP n (stepP ps w) := by
  obtain ⟨k, b⟩ := w
  have hw' : k < ps.length := hw
  have e : ps.getD k [] = ps[k] := by simp [hw']
  have hp := h _ (List.getElem_mem hw')
  unfold stepP
  simp only
  rw [e]
  cases b with
  | true => exact hp.inv
  | false => exact hp
theorem BS.step {H : Hp} {zs : List Str} {ps : List (List Nat)} {kvs : List (List Key × V)} {i : Nat} {zi : Str} {p : List Nat} {b c : Addr} (h : BS H zs ps kvs i) (hnd : zs.Nodup) (hz : zs[i]? = some zi) (hp : ps[i]? = some p) (tb : Tn H b p) (tc : Tn H c (inv p)) :
    BS H zs ps (putK (putK kvs (sk zi false) (.ref b)) (sk zi true) (.ref c)) (i + 1) := by
  refine ⟨?_, fun j z q hj hzj hpj bb => ?_⟩
  · have a1 := putK_le (kvs := putK kvs (sk zi false) (.ref b)) (k := sk zi true) (v := .ref c)
    have a2 := putK_le (kvs := kvs) (k := sk zi false) (v := .ref b)
    have a3 := h.1
    omega
  · rw [valV_put, valV_put]
    by_cases e : j = i
    · subst e
      rw [hz] at hzj
      rw [hp] at hpj
      obtain rfl := Option.some.inj hzj
      obtain rfl := Option.some.inj hpj
      cases bb with
      | true => exact ⟨c, by rw [if_pos rfl], tc⟩
      | false =>
        rw [if_neg (fun x => by cases (sk_inj x).2), if_pos rfl]
        exact ⟨b, rfl, tb⟩
    · have hne : z ≠ zi := fun x => by
        rw [x] at hzj
        exact e (nd_get hnd hzj hz)
      rw [if_neg (fun x => hne (sk_inj x).1), if_neg (fun x => hne (sk_inj x).1)]
      exact h.2 j z q (by omega) hzj hpj bb
theorem playW_take {ps : List (List Nat)} {wd : List (Nat × Bool)} {s : List Nat} {i : Nat} {x : Nat × Bool} (e : wd[i]? = some x) : playW ps (wd.take (i + 1)) s = mul (playW ps (wd.take i) s) (stepP ps x) := by
  unfold playW
  rw [List.take_succ, e, List.foldl_append]
  rfl
section
variable {P : Program} {w : World} {K : PySem.W.Frag} {mg : Str → Option Value} {base : Heap}
theorem dn_Puzzle_play (c : Ctx K mg) : Mn P w K mg base CX0 5 (He.ga K "Puzzle") "play" ["self", "word", "start"] (spPlay K) := by
  have f_zip := c.f_zip
  obtain ⟨f__times, fd_times, g_times, k_times, F_times, b_times⟩ := (dn_times (P := P) (w := w) (base := base) c).ex
  obtain ⟨f__identity, fd_identity, g_identity, k_identity, F_identity, b_identity⟩ := (dn_identity (P := P) (w := w) (base := base) c).ex
  obtain ⟨f__inverse, fd_inverse, g_inverse, k_inverse, F_inverse, b_inverse⟩ := (dn_inverse (P := P) (w := w) (base := base) c).ex
  obtain ⟨f__Puzzle_is_position, fd_Puzzle_is_position, m_Puzzle_is_position, F_Puzzle_is_position, b_Puzzle_is_position⟩ := (dn_Puzzle_is_position (P := P) (w := w) (base := base) c).ex
  have sc := sc_Puzzle_play
  obtain ⟨fd, F⟩ := c.D_Puzzle_play
  refine ⟨_, fd, c.m_Puzzle_play, F.ok sc (fun vs H Q E h => ?_) (fun cdv A outer s H vs Q E hr h => ⟨_, PSs.nox (
(pss_cons (ps_if (PW.pt (pw_and (pt_cmpR op_notN (pv 2) pe_non (nomark _)) (pw_and1 (pt_not (pt_val (pe_meth (pv 0) c.cls m_Puzzle_is_position F_Puzzle_is_position (hr.mono (by decide)) b_Puzzle_is_position nil_v pass0 (pa_cons (pv 2) pa_nil))))))) (pss_one ps_never) pss_nil)
  (pss_cons (ps_set (i := 3) sc.nd rfl (by first | exact Or.inl rfl | exact Or.inr rfl) pe_dnewT)
  (pss_cons (ps_for PassesOwn.never rfl (RZ.pi_zipA (by rfl) f_zip (pa_cons (pe_fldK (K := K) rfl (pv 0) rfl) (pa_cons (pe_fldK (K := K) rfl (pv 0) rfl) pa_nil))) (pg_tupK (K := K) (n := 2) rfl rfl (pgs_cons (pg_name (i := 4) sc.nd rfl (by first | exact Or.inl rfl | exact Or.inr rfl)) (pgs_cons (pg_name (i := 5) sc.nd rfl (by first | exact Or.inl rfl | exact Or.inr rfl)) pgs_nil))) (pss_cons (ps_dput (hu_of hr) (pv 3) (pe_tup (pa_cons (pv 4) (pa_cons pe_int pa_nil))) (pv 5) rfl)
  (pss_one (ps_dput (hu_of hr) (pv 3) (pe_tup (pa_cons (pv 4) (pa_cons (pe_un un_neg pe_int) pa_nil))) (pe_call F_inverse (hr.mono (by decide)) (by rfl) g_inverse k_inverse b_inverse nil_v pass0 (pa_cons (pv 5) pa_nil)) rfl))))
  (pss_cons (ps_set (i := 6) sc.nd rfl (by first | exact Or.inl rfl | exact Or.inr rfl) (pe_ifExp (pt_cmpR op_isN (pv 2) pe_non (nomark _)) (pe_call F_identity (hr.mono (by decide)) (by rfl) g_identity k_identity b_identity nil_v pass0 (pa_cons (pe_fldK (K := K) rfl (pv 0) rfl) pa_nil)) (pv 2)))
  (pss_cons (ps_for PassesOwn.never rfl (pi_tupK (K := K) rfl (pv 1)) (pg_name (i := 7) sc.nd rfl (by first | exact Or.inl rfl | exact Or.inr rfl)) (pss_cons (ps_if (pt_cmp (pc_dnotin (hu_of hr) (pv 7) (pv 3))) (pss_one ps_never) pss_nil)
  (pss_one (ps_set (i := 6) sc.nd rfl (by first | exact Or.inl rfl | exact Or.inr rfl) (pe_call F_times (hr.mono (by decide)) (by rfl) g_times k_times b_times nil_v pass0 (pa_cons (pv 6) (pa_cons (pe_dget (hu_of hr) (pv 3) (pv 7) (fun _ _ => rfl)) pa_nil)))))))
  (pss_one (ps_ret (pv 6))))))))
    ), ?_⟩), ?_⟩
  · obtain ⟨z, T, a, n, m, zs, ps, wd, s, rfl, _⟩ := h
    rfl
  · obtain ⟨z, T, a, n, m, zs, ps, wd, s, rfl, hz, hg, hnd, hw, hwl, ha, hs, hk, k⟩ := h
    obtain ⟨dx, na, pa, xs, h1, h2, h3, h4, h5⟩ := id hz
    obtain ⟨g1, g2, g3, g4, g5, g6, g7⟩ := id hg
    refine ⟨_, rfl, rfl, _, rfl, iteN (fun _ => ?_) (fun z => by cases z)⟩
    refine ⟨_, rfl, z, dx, _, rfl, h1, rfl, _, rfl, z, a, n, m, zs, ps, s, rfl, hz, hg, ha, hs, hk, fun H1 s1 => ⟨_, rfl, fun D hD => ?_⟩⟩
    dsimp only [gName]
    have s2 : Same H (upd H1 D (.dT [])) := s1.trans (same_new hD)
    have e2 : (upd H1 D (.dT [])) D = some (.dT []) := upd_same
    have hHD : H D = none := by
      cases q : H D with
      | none => rfl
      | some o =>
        rw [s1 _ _ q] at hD
        cases hD
    generalize upd H1 D (.dT []) = H2 at s2 e2 ⊢
    refine cut (a := tFor _ _ _) (fun σ H' => ∃ u v kvs, σ = [some (.ref z), some (.ref T), some (.ref a), some (.ref D), u, v, none, none] ∧ Same H H' ∧ H' D = some (.dT kvs) ∧ BS H' zs ps kvs ps.length) ?_ fun NX hNX => ?_
    · rintro σ H3 ⟨u, v, kvs, rfl, s3, e3, bs⟩
      refine ⟨_, rfl, rfl, _, rfl, iteD (fun z => by cases z) fun _ => ⟨_, rfl, ?_⟩⟩
      dsimp only [gName]
      obtain ⟨ws, w1, w2, w3⟩ := id hw
      refine ⟨_, rfl, T, rfl, ⟨_, SqT.of (s3 _ _ w1)⟩, for_it (walk_tup (xs := ws)) (fun i σ H' => (∃ c st, σ = [some (.ref z), some (.ref T), some (.ref a), some (.ref D), u, v, some (.ref c), st] ∧ Tn H' c (playW ps (wd.take i) s) ∧ IsP n (playW ps (wd.take i) s)) ∧ Same H H' ∧ H' D = some (.dT kvs) ∧ BS H' zs ps kvs ps.length) ?_ ?_ ?_ ?_⟩
      · exact ⟨⟨a, none, rfl, ha.mono s3, hs⟩, s3, e3, bs⟩
      · rintro i σ H' hi ⟨_, s4, _⟩
        exact SqT.of (s4 _ _ w1)
      · rintro i x σ H4 H5 hi ⟨⟨c1, st, rfl, tc, tP⟩, s4, e4, bs4⟩ ⟨rfl, hx⟩
        obtain ⟨wi, hwi⟩ := get_of (show i < wd.length by omega)
        obtain ⟨q, z1, e5, e6, e7⟩ := w3 i wi hwi
        rw [e5] at hx
        obtain rfl : V.ref q = x := Option.some.inj hx
        have hwz : wi.1 < ps.length := by rw [← h5]; exact lt_of_get e6
        have hpw : ps[wi.1]? = some ps[wi.1] := List.getElem?_eq_getElem hwz
        obtain ⟨b, v1, tb⟩ := bs4.2 wi.1 z1 _ hwz e6 hpw wi.2
        have est : (if wi.2 then inv ps[wi.1] else ps[wi.1]) = stepP ps wi := by
          unfold stepP
          have e : ps.getD wi.1 [] = ps[wi.1] := by simp [hwz]
          rw [e]
        rw [est] at tb
        have dg : DGet _ D (.ref q) (valV kvs (sk z1 wi.2)) := DGet.t e4 (s4 _ _ e7)
        have dg2 : DGet _ D (.ref q) (some (.ref b)) := v1 ▸ dg
        have sP := stepP_isP (n := n) g6 hwz
        refine ⟨_, rfl, _, rfl, D, _, rfl, dg2, _, rfl, ?_⟩
        refine ⟨_, rfl, _, rfl, _, rfl, D, _, rfl, dg2, c1, b, _, _, rfl, tc, tb, by rw [tP.len, sP.len], fun y hy => by rw [sP.len]; exact tP.lt y hy, by rw [tP.len]; omega, fun c2 H6 s6 t6 => ?_⟩
        rw [← playW_take hwi] at t6
        refine ⟨⟨c2, _, rfl, t6, ?_⟩, s4.trans s6, s6 _ _ e4, bs4.tps (Tps.of s6)⟩
        rw [playW_take hwi]
        exact tP.mul sP
      · rintro σ H' ⟨⟨c1, st, rfl, tc, tP⟩, s4, _⟩
        rw [w2, List.take_length] at tc
        exact ⟨_, rfl, k c1 _ s4 tc⟩
    · refine ⟨_, rfl, z, _, dx, _, _, rfl, s2 _ _ h1, c.cls, c.n_names, rfl, _, rfl, z, _, dx, _, _, rfl, s2 _ _ h1, c.cls, c.n_perms, rfl, na, pa, zs.map V.str, xs, rfl, .inr ⟨SqT.of (s2 _ _ h2), SqT.of (s2 _ _ h3), ?_⟩⟩
      refine RZ.for_zipT (xs := zs.map V.str) (ys := xs) (by rw [List.length_map, h5]; exact h4.1.symm) (fun i σ H' => (∃ x y, σ = [some (.ref z), some (.ref T), some (.ref a), some (.ref D), x, y, none, none]) ∧ Same H H' ∧ ∃ kvs, H' D = some (.dT kvs) ∧ BS H' zs ps kvs i) ?_ ?_ ?_ ?_
      · exact ⟨⟨none, none, rfl⟩, s2, [], e2, by decide, fun j _ _ hj => by omega⟩
      · rintro i σ H' ⟨_, s1, _⟩
        exact ⟨SqT.of (s1 _ _ h2), SqT.of (s1 _ _ h3)⟩
      · rintro i u v T2 σ H3 hu hv ⟨⟨x, y, rfl⟩, s3, kvs, e3, bs⟩ hT2
        obtain ⟨b, p, rfl, hp, tp⟩ := h4.get hv
        have hil := lt_of_get hp
        have hpP := g6 p (List.mem_of_getElem? hp)
        obtain ⟨zi, hzi, rfl⟩ : ∃ zi, zs[i]? = some zi ∧ u = .str zi := by
          rw [List.getElem?_map] at hu
          cases e : zs[i]? with
          | none =>
            rw [e] at hu
            cases hu
          | some zi =>
            rw [e] at hu
            exact ⟨zi, rfl, (Option.some.inj hu).symm⟩
        refine ⟨T2, _, rfl, SqT.of upd_same, rfl, _, _, rfl, _, _, rfl, rfl, ?_⟩
        have sa : Same H3 (upd H3 T2 (.tup [.str zi, .ref b])) := same_new hT2
        generalize upd H3 T2 (.tup [.str zi, .ref b]) = Ha at sa ⊢
        refine ⟨_, rfl, _, rfl, _, rfl, szk rfl, fun q1 hq1 => ⟨D, _, rfl, DPut.t (k := sk zi false) (same_new hq1 _ _ (sa _ _ e3)) upd_same (szL _ (by have := bs.1; omega)), ?_⟩⟩
        have sb : Same H3 (upd Ha q1 (.tup [.str zi, .int 1])) := sa.trans (same_new hq1)
        have hDb := sb _ _ e3
        generalize upd Ha q1 (.tup [.str zi, .int 1]) = Hb at sb hDb ⊢
        have ec : (upd Hb D (.dT (putK kvs (sk zi false) (.ref b)))) D = some (.dT (putK kvs (sk zi false) (.ref b))) := upd_same
        have tcd : Tps Hb (upd Hb D (.dT (putK kvs (sk zi false) (.ref b)))) := fun a2 ys e => by
          rw [upd_ne (ne_of e hDb (by intro z; cases z))]
          exact e
        have scd : Same H (upd Hb D (.dT (putK kvs (sk zi false) (.ref b)))) := Same.upd_of (s3.trans sb) hHD
        generalize upd Hb D (.dT (putK kvs (sk zi false) (.ref b))) = Hc at ec tcd scd ⊢
        refine ⟨_, rfl, b, p, n, rfl, tp.mono scd, hpP, by omega, fun c2 H6 s6 t6 => ?_⟩
        refine ⟨_, rfl, _, rfl, _, rfl, szk rfl, fun q2 hq2 => ?_⟩
        have ed := same_new (o := .tup [.str zi, .int (-1)]) hq2 _ _ (s6 _ _ ec)
        refine ⟨D, _, rfl, DPut.t (k := sk zi true) ed upd_same (szL _ (by have a1 := bs.1; have a2 := putK_le (kvs := kvs) (k := sk zi false) (v := .ref b); omega)), ⟨_, _, rfl⟩, Same.upd_of ((scd.trans s6).trans (same_new hq2)) hHD, _, upd_same, ?_⟩
        have tfin : Tps Hc (upd (upd H6 q2 (.tup [.str zi, .int (-1)])) D (.dT (putK (putK kvs (sk zi false) (.ref b)) (sk zi true) (.ref c2)))) := fun a2 ys e => by
          have e' := same_new (o := .tup [.str zi, .int (-1)]) hq2 _ _ (s6 _ _ e)
          rw [upd_ne (ne_of e' ed (by intro z; cases z))]
          exact e'
        have tfin6 : Tps H6 (upd (upd H6 q2 (.tup [.str zi, .int (-1)])) D (.dT (putK (putK kvs (sk zi false) (.ref b)) (sk zi true) (.ref c2)))) := fun a2 ys e => by
          have e' := same_new (o := .tup [.str zi, .int (-1)]) hq2 _ _ e
          rw [upd_ne (ne_of e' ed (by intro z; cases z))]
          exact e'
        exact BS.step (bs.tps (((Tps.of sb).trans tcd).trans tfin)) hnd hzi hp (tfin.tn (tp.mono scd)) (tfin6.tn t6)
      · rintro σ H' ⟨⟨x, y, rfl⟩, s3, kvs, e3, bs⟩
        rw [List.length_map, h5] at bs
        exact hNX _ _ ⟨_, _, kvs, rfl, s3, e3, bs⟩
  · obtain ⟨ds, v, b⟩ := F.binds1 (ps := ["self", "word", "start"]) 3 1 (by intro z; cases z) rfl fun T kV doc pm an cdv ct us its l1 l2 => by
      match us, its, l1, l2 with
      | [_, _, _], [_], _, _ => exact ⟨_, rfl, rfl⟩
    cases v
    exact b
end
end K63
set_option maxRecDepth 100000
set_option maxHeartbeats 2000000
namespace K63
open PySem PySem.Spec PyProof.Rows L2 TB TM
theorem SqL_same {K : PySem.W.Frag} {H H' : Hp} {a : Addr} {xs : List V} (s : Same H H') (h : SqL K H a xs) : SqL K H' a xs := by
  rcases h with (h | ⟨o, h⟩) | h
  · exact .inl (.inl (s _ _ h))
  · exact .inl (.inr ⟨o, s _ _ h⟩)
  · exact .inr h
theorem cut_take (xs : List V) (k : Nat) : cutV xs none (some (k : Int)) = xs.take k := by
  unfold cutV
  rw [HT.sIx_nat, HT.sIx_none, List.drop_zero, Nat.sub_zero]
  by_cases h : k ≤ xs.length
  · rw [Nat.min_eq_left h]
  · rw [Nat.min_eq_right (by omega), List.take_length, List.take_of_length_le (by omega)]
theorem cut_drop (xs : List V) (k : Nat) : cutV xs (some (k : Int)) none = xs.drop k := by
  unfold cutV
  rw [HT.sIx_nat, HT.sIx_none]
  by_cases h : k ≤ xs.length
  · rw [Nat.min_eq_left h, List.take_of_length_le (by rw [List.length_drop]; omega)]
  · rw [Nat.min_eq_right (by omega), List.drop_of_length_le (Nat.le_refl _), List.drop_of_length_le (by omega), List.take_nil]
/-- a purse: where it reads on is a place behind its head -/
def PU (H : Hp) (pu : Addr) : Prop := ∃ (a b : Int) (c : Nat) (rest : List Int), H pu = some (.lst ((a :: b :: (c : Int) :: rest).map V.int)) ∧ rest.length ≤ 63
theorem PU.mono {H H' : Hp} {pu : Addr} (h : PU H pu) (s : Same H H') : PU H' pu := by
  obtain ⟨a, b, c, r, h1, h2⟩ := h
  exact ⟨a, b, c, r, s _ _ h1, h2⟩
theorem PU.but {H H' : Hp} {pu l : Addr} {xs : List V} (h : PU H pu) (b : But l H H') (hn : pu ≠ l) : PU H' pu := by
  obtain ⟨a, b2, c, r, h1, h2⟩ := h
  exact ⟨a, b2, c, r, b _ _ hn h1, h2⟩
def spPurse (K : PySem.W.Frag) : Sp := fun vs H Q _ => ∃ (a : Addr) (ns : List Int), vs = [.ref a] ∧ ns.length ≤ 63 ∧ SqL K H a (ns.map V.int) ∧ ∀ pu H', Same H H' → H pu = none → PU H' pu → Q (.ref pu) H'
def spDraw : Sp := fun vs H Q _ => ∃ (pu : Addr) (n : Nat), vs = [.ref pu, .int (n : Int)] ∧ PU H pu ∧ 1 ≤ n ∧ n ≤ 1000 ∧ ∀ (d : Nat) H', But pu H H' → PU H' pu → d < n → Q (.int (d : Int)) H'
theorem ixN_nat {n k : Nat} (h : k < n) : ixN n (k : Int) = some k := by
  unfold ixN
  rw [if_pos (by omega), if_pos (by omega), Int.toNat_natCast]
theorem fmod_lt {i : Int} {n : Nat} (h : 1 ≤ n) : ∃ d : Nat, i.fmod (n : Int) = (d : Int) ∧ d < n := by
  rw [Int.fmod_eq_emod_of_nonneg _ (by omega)]
  have h1 := Int.emod_nonneg i (show (n : Int) ≠ 0 by omega)
  have h2 := Int.emod_lt_of_pos i (show (0 : Int) < (n : Int) by omega)
  exact ⟨(i % (n : Int)).toNat, by omega, by omega⟩
section
variable {P : Program} {w : World} {K : PySem.W.Frag} {mg : Str → Option Value} {base : Heap}
theorem dn__law_purse (c : Ctx K mg) : Dn P w K mg base CX0 1 "_law_purse" ["script"] (spPurse K) := by
  have f_int := c.f_int
  have sc := sc__law_purse
  obtain ⟨fd, F⟩ := c.D__law_purse
  refine ⟨_, fd, c.g__law_purse, F.kp, F.ok sc (fun vs H Q E h => ?_) (fun cdv A outer s H vs Q E hr h => ⟨_, PSs.nox ((pss_one (ps_ret (pe_op op_cat (pe_lst (pa_cons pe_int (pa_cons pe_int (pa_cons pe_int pa_nil)))) (pe_lc (own := [("cell", 1)]) (tt := tYes) rfl sc.nd (pi_listK (K := K) rfl (pe_slice (sl_listK (K := K) rfl) (pv 0) po_none (po_some pe_int))) (blkOk_by (own := [("cell", 1)]) (N := ["script", "cell"]) (sc := defScope s__law_purse) (by decide +kernel)) (fun _ _ _ _ _ => (pg_name (i := 1) sc.nd rfl (by first | exact Or.inl rfl | exact Or.inr rfl))) (fun _ _ _ _ _ => pts_nil) (fun _ _ _ _ _ => (pe_callTy call_int1 (by rfl) f_int boot_int (pa_cons (pv 1) pa_nil)))))))), ?_⟩), F.bindsN fun _ _ _ _ _ _ us hl => match us, hl with | [_], _ => rfl⟩
  · obtain ⟨a, ns, rfl, _⟩ := h
    rfl
  · obtain ⟨a, ns, rfl, hn, hs, k⟩ := h
    refine ⟨szk rfl, fun L hL => ?_⟩
    have hs1 : SqL K (upd H L (.lst [.int 0, .int 20120, .int 3])) a (ns.map V.int) := SqL_same (same_new hL) hs
    refine ⟨_, rfl, _, rfl, a, _, rfl, hs1, fun B hB => ?_⟩
    have e63 : cutV (ns.map V.int) none (some 63) = ns.map V.int := by
      rw [show (63 : Int) = ((63 : Nat) : Int) from rfl, cut_take, List.take_of_length_le (by rw [List.length_map]; exact hn)]
    rw [e63]
    have eB : (upd (upd H L (.lst [.int 0, .int 20120, .int 3])) B (.lst (ns.map V.int))) B = some (.lst (ns.map V.int)) := upd_same
    have eL : (upd (upd H L (.lst [.int 0, .int 20120, .int 3])) B (.lst (ns.map V.int))) L = some (.lst [.int 0, .int 20120, .int 3]) := same_new hB _ _ upd_same
    have sB : Same H (upd (upd H L (.lst [.int 0, .int 20120, .int 3])) B (.lst (ns.map V.int))) := (same_new hL).trans (same_new hB)
    generalize upd (upd H L (.lst [.int 0, .int 20120, .int 3])) B (.lst (ns.map V.int)) = H1 at eB eL sB ⊢
    refine ⟨B, rfl, ⟨_, SqL.of eB⟩, fun D hD => lc_same (walk_list (xs := ns.map V.int)) hD (fun i _ acc => acc = (ns.take i).map V.int) (fun _ _ => rfl) (fun _ _ _ _ _ h => h) (by rw [List.length_map]; omega) (fun H s => SqL.of (s _ _ eB)) ?_ ?_⟩
    · rintro i x H2 H3 acc C hi s2 rfl ⟨rfl, hx⟩ kC
      rw [List.length_map] at hi
      obtain ⟨v, hv⟩ := get_of hi
      rw [List.getElem?_map, hv] at hx
      obtain rfl : V.int v = x := Option.some.inj hx
      refine ⟨rfl, _, rfl, .inl ⟨v, rfl, kC _ _ (fun _ _ h => h) ?_⟩⟩
      rw [List.take_succ, hv, List.map_append]
      rfl
    · rintro H2 acc s2 e2 l2 rfl
      rw [List.length_map, List.take_length] at e2
      refine ⟨L, D, _, _, rfl, rfl, s2 _ _ eL, e2, sz _ (by rw [List.length_map]; simp; omega), fun pu hpu => k pu _ ((sB.trans s2).trans (same_new hpu)) ?_ ⟨0, 20120, 3, ns, upd_same, hn⟩⟩
      cases q : H pu with
      | none => rfl
      | some o =>
        rw [(sB.trans s2) _ _ q] at hpu
        cases hpu
theorem dn__law_draw (c : Ctx K mg) : Dn P w K mg base CX0 1 "_law_draw" ["purse", "size"] spDraw := by
  have f_int := c.f_int
  have f_len := c.f_len
  have sc := sc__law_draw
  obtain ⟨fd, F⟩ := c.D__law_draw
  refine ⟨_, fd, c.g__law_draw, F.kp, F.ok sc (fun vs H Q E h => ?_) (fun cdv A outer s H vs Q E hr h => ⟨_, PSs.nox ((pss_cons (ps_if (PW.pt (pw_and (pt_cmpR op_lt (pe_ix (ix_listK (K := K) rfl) (pv 0) pe_int (fun _ _ => rfl)) pe_int (nomark _)) (pw_and1 (pt_cmpR op_lt (pe_ix (ix_listK (K := K) rfl) (pv 0) pe_int (fun _ _ => rfl)) (pe_callB (call_lenK (K := K) rfl) (by rfl) f_len boot_len (pa_cons (pv 0) pa_nil)) (nomark _))))) (pss_cons (ps_set (i := 2) sc.nd rfl (by first | exact Or.inl rfl | exact Or.inr rfl) (pe_ix (ix_listK (K := K) rfl) (pv 0) (pe_ix (ix_listK (K := K) rfl) (pv 0) pe_int (fun _ _ => rfl)) (fun _ _ => rfl)))
  (pss_cons (ps_asg (pe_op op_add (pe_ix (ix_listK (K := K) rfl) (pv 0) pe_int (fun _ _ => rfl)) pe_int) (pg_sub (pv 0) pe_int set_list (fun _ => rfl)))
  (pss_one (ps_if (pt_cmpR op_ge (pv 2) (pe_op op_pow pe_int pe_int) (nomark _)) (pss_one (ps_asg (pe_op op_modN (pe_callTy call_int1 (by rfl) f_int boot_int (pa_cons (pe_op op_sub (pv 2) (pe_op op_pow pe_int pe_int)) pa_nil)) (pe_op op_powW (pe_op op_pow pe_int pe_int) pe_int)) (pg_sub (pv 0) pe_int set_list (fun _ => rfl)))) (pss_one (ps_asg (pe_op op_modN (pe_callTy call_int1 (by rfl) f_int boot_int (pa_cons (pe_op op_add (pe_op op_add (pe_op op_mul (pe_ix (ix_listK (K := K) rfl) (pv 0) pe_int (fun _ _ => rfl)) pe_int) (pe_op op_modN (pe_callTy call_int1 (by rfl) f_int boot_int (pa_cons (pv 2) pa_nil)) pe_int)) pe_int) pa_nil)) pe_int) (pg_sub (pv 0) pe_int set_list (fun _ => rfl)))))))) pss_nil)
  (pss_cons (ps_if (pt_cmpR op_gt (pe_ix (ix_listK (K := K) rfl) (pv 0) pe_int (fun _ _ => rfl)) pe_int (nomark _)) (pss_cons (ps_set (i := 3) sc.nd rfl (by first | exact Or.inl rfl | exact Or.inr rfl) (pe_op op_modN (pe_callTy call_int1 (by rfl) f_int boot_int (pa_cons (pe_ix (ix_listK (K := K) rfl) (pv 0) pe_int (fun _ _ => rfl)) pa_nil)) (pv 1)))
  (pss_cons (ps_asg (pe_op op_fdivN (pe_ix (ix_listK (K := K) rfl) (pv 0) pe_int (fun _ _ => rfl)) (pv 1)) (pg_sub (pv 0) pe_int set_list (fun _ => rfl)))
  (pss_one (ps_ret (pv 3))))) pss_nil)
  (pss_cons (ps_asg (pe_op op_modN (pe_callTy call_int1 (by rfl) f_int boot_int (pa_cons (pe_op op_add (pe_op op_mul (pe_ix (ix_listK (K := K) rfl) (pv 0) pe_int (fun _ _ => rfl)) pe_int) pe_int) pa_nil)) pe_int) (pg_sub (pv 0) pe_int set_list (fun _ => rfl)))
  (pss_one (ps_ret (pe_op op_modN (pe_op op_modN (pe_callTy call_int1 (by rfl) f_int boot_int (pa_cons (pe_op op_add (pe_op op_mul (pe_op op_fdivN (pe_ix (ix_listK (K := K) rfl) (pv 0) pe_int (fun _ _ => rfl)) pe_int) pe_int) (pe_ix (ix_listK (K := K) rfl) (pv 0) pe_int (fun _ _ => rfl))) pa_nil)) pe_int) (pv 1)))))))), ?_⟩), F.bindsN fun _ _ _ _ _ _ us hl => match us, hl with | [_, _], _ => rfl⟩
  · obtain ⟨pu, n, rfl, _⟩ := h
    rfl
  · obtain ⟨pu, n, rfl, hp, h1, hn, k⟩ := h
    obtain ⟨a, b, cc, rest, e, hr⟩ := hp
    have a0 : ∀ (a b : Int) (cc : Nat) (rest : List Int), atI ((a :: b :: (cc : Int) :: rest).map V.int) 0 = some (.int a) := fun a b cc rest => atI_nat (j := 0) rfl
    have a1 : ∀ (a b : Int) (cc : Nat) (rest : List Int), atI ((a :: b :: (cc : Int) :: rest).map V.int) 1 = some (.int b) := fun a b cc rest => atI_nat (j := 1) rfl
    have a2 : ∀ (a b : Int) (cc : Nat) (rest : List Int), atI ((a :: b :: (cc : Int) :: rest).map V.int) 2 = some (.int (cc : Int)) := fun a b cc rest => atI_nat (j := 2) rfl
    have i0 : ∀ (a b : Int) (cc : Nat) (rest : List Int), ixN ((a :: b :: (cc : Int) :: rest).map V.int).length 0 = some 0 := fun a b cc rest => ixN_nat (by simp)
    have i1 : ∀ (a b : Int) (cc : Nat) (rest : List Int), ixN ((a :: b :: (cc : Int) :: rest).map V.int).length 1 = some 1 := fun a b cc rest => ixN_nat (k := 1) (by simp)
    have i2 : ∀ (a b : Int) (cc : Nat) (rest : List Int), ixN ((a :: b :: (cc : Int) :: rest).map V.int).length 2 = some 2 := fun a b cc rest => ixN_nat (k := 2) (by simp)
    have pw : CPow 10 18 := ⟨by decide, by decide, by decide⟩
    refine cut (a := tIfS _ _ _) (fun σ H' => ∃ (a b : Int) (cc : Nat) (rest : List Int) (u v : Option V), σ = [some (.ref pu), some (.int (n : Int)), u, v] ∧ But pu H H' ∧ H' pu = some (.lst ((a :: b :: (cc : Int) :: rest).map V.int)) ∧ rest.length ≤ 63) ?_ fun N hN => ?_
    · rintro σ H1 ⟨a, b, cc, rest, u, v, rfl, b1, e, hr⟩
      refine ⟨_, rfl, pu, _, _, _, rfl, rfl, SqL.of e, a0 _ _ _ _, _, _, rfl, rfl, _, rfl, iteD (fun h0 => ?_) (fun h0 => ?_)⟩
      · obtain ⟨d, ed, hd⟩ := fmod_lt (i := a) h1
        refine ⟨_, rfl, pu, _, _, _, rfl, rfl, SqL.of e, a0 _ _ _ _, .inl ⟨_, rfl, _, rfl, _, _, rfl, rfl, by omega, ?_⟩⟩
        refine ⟨_, rfl, pu, _, _, _, rfl, rfl, SqL.of e, a0 _ _ _ _, _, rfl, _, _, rfl, rfl, ⟨by omega, by omega⟩, ?_⟩
        refine ⟨_, rfl, pu, _, _, 0, rfl, rfl, e, i0 _ _ _ _, _, rfl, ?_⟩
        show Q (.int (a.fmod (n : Int))) _
        rw [ed]
        exact k d _ (b1.trans But.upd) ⟨_, b, cc, rest, upd_same, hr⟩ hd
      · refine ⟨_, rfl, pu, _, _, _, rfl, rfl, SqL.of e, a1 _ _ _ _, _, _, rfl, rfl, .inr (by constructor <;> decide), _, _, rfl, rfl, .inl ⟨_, rfl, _, _, rfl, rfl, (by decide : (2147483647 : Int) ≠ 0), ?_⟩⟩
        refine ⟨_, rfl, pu, _, _, 1, rfl, rfl, e, i1 _ _ _ _, ?_⟩
        have e3 : (upd H1 pu (.lst (((a :: b :: (cc : Int) :: rest).map V.int).set 1 (.int ((b * 69621 + 1013904223).fmod 2147483647))))) pu = some (.lst ((a :: (b * 69621 + 1013904223).fmod 2147483647 :: (cc : Int) :: rest).map V.int)) := upd_same
        have b3 : But pu H (upd H1 pu (.lst (((a :: b :: (cc : Int) :: rest).map V.int).set 1 (.int ((b * 69621 + 1013904223).fmod 2147483647))))) := b1.trans But.upd
        dsimp only
        generalize (b * 69621 + 1013904223).fmod 2147483647 = b5 at e3 b3 ⊢
        generalize upd H1 pu (.lst (((a :: b :: (cc : Int) :: rest).map V.int).set 1 (.int b5))) = H2 at e3 b3 ⊢
        refine ⟨_, rfl, pu, _, _, _, rfl, rfl, SqL.of e3, a1 _ _ _ _, _, _, rfl, rfl, ⟨by decide, by decide⟩, _, _, rfl, rfl, .inr (by constructor <;> decide), _, rfl, pu, _, _, _, rfl, rfl, SqL.of e3, a1 _ _ _ _, _, _, rfl, rfl, .inl ⟨_, rfl, _, _, rfl, rfl, (by decide : (2147483629 : Int) ≠ 0), _, rfl, _, _, rfl, rfl, by omega, ?_⟩⟩
        obtain ⟨d, ed, hd⟩ := fmod_lt (i := (b5.fdiv 211 * 48271 + b5).fmod 2147483629) h1
        show Q (.int (((b5.fdiv 211 * 48271 + b5).fmod 2147483629).fmod (n : Int))) _
        rw [ed]
        exact k d _ b3 ⟨a, b5, cc, rest, e3, hr⟩ hd
    · refine ⟨_, rfl, pu, _, _, _, rfl, rfl, SqL.of e, a0 _ _ _ _, _, _, rfl, rfl, _, rfl, iteD (fun h0 => ?_) (fun h0 => ?_)⟩
      · refine ⟨_, rfl, pu, _, _, _, rfl, rfl, SqL.of e, a2 _ _ _ _, _, rfl, pu, _, rfl, .inl (SqL.of e), _, _, rfl, rfl, _, rfl, iteD (fun h2 => ?_) (fun h2 => ?_)⟩
        · obtain ⟨w5, hw5⟩ : ∃ w5 : Int, ((a :: b :: (cc : Int) :: rest).map V.int)[cc]? = some (.int w5) := by
            obtain ⟨x, hx⟩ := get_of (show cc < ((a :: b :: (cc : Int) :: rest).map V.int).length by omega)
            rw [List.getElem?_map] at hx
            cases q : (a :: b :: (cc : Int) :: rest)[cc]? with
            | none =>
              rw [q] at hx
              cases hx
            | some w5 => exact ⟨w5, by rw [List.getElem?_map, q]; rfl⟩
          refine ⟨_, rfl, _, rfl, pu, _, _, _, rfl, rfl, SqL.of e, a2 _ _ _ _, pu, _, _, _, rfl, rfl, SqL.of e, atI_nat hw5, ?_⟩
          refine ⟨_, rfl, pu, _, _, _, rfl, rfl, SqL.of e, a2 _ _ _ _, _, _, rfl, rfl, ?_⟩
          refine ⟨_, rfl, pu, _, _, 2, rfl, rfl, e, i2 _ _ _ _, ?_⟩
          have e3 : (upd H pu (.lst (((a :: b :: (cc : Int) :: rest).map V.int).set 2 (.int ((cc : Int) + 1))))) pu = some (.lst ((a :: b :: ((cc + 1 : Nat) : Int) :: rest).map V.int)) := upd_same
          have b3 : But pu H (upd H pu (.lst (((a :: b :: (cc : Int) :: rest).map V.int).set 2 (.int ((cc : Int) + 1))))) := But.upd
          dsimp only
          generalize upd H pu (.lst (((a :: b :: (cc : Int) :: rest).map V.int).set 2 (.int ((cc : Int) + 1)))) = H2 at e3 b3 ⊢
          refine ⟨_, rfl, _, _, rfl, rfl, pw, _, _, rfl, rfl, _, rfl, iteD (fun h3 => ?_) (fun h3 => ?_)⟩
          · refine ⟨_, rfl, _, _, rfl, rfl, pw, _, _, rfl, rfl, .inl ⟨_, rfl, _, _, rfl, rfl, ⟨by decide, by decide, by decide⟩, _, _, rfl, rfl, ⟨by decide, by decide +kernel⟩, _, _, rfl, rfl, (by decide +kernel : ((10 : Int) ^ Int.toNat 60) ^ Int.toNat 10 ≠ 0), ?_⟩⟩
            refine ⟨_, rfl, pu, _, _, 0, rfl, rfl, e3, i0 _ _ _ _, hN _ _ ⟨_, b, cc + 1, rest, _, _, rfl, b3.trans But.upd, upd_same, hr⟩⟩
          · refine ⟨_, rfl, pu, _, _, _, rfl, rfl, SqL.of e3, a1 _ _ _ _, _, _, rfl, rfl, .inr (by constructor <;> decide), _, rfl, .inl ⟨_, rfl, _, _, rfl, rfl, (by decide : (2147483629 : Int) ≠ 0), _, _, rfl, rfl, _, _, rfl, rfl, .inl ⟨_, rfl, _, _, rfl, rfl, (by decide : (2147483647 : Int) ≠ 0), ?_⟩⟩⟩
            refine ⟨_, rfl, pu, _, _, 1, rfl, rfl, e3, i1 _ _ _ _, hN _ _ ⟨a, _, cc + 1, rest, _, _, rfl, b3.trans But.upd, upd_same, hr⟩⟩
        · exact hN _ _ ⟨a, b, cc, rest, _, _, rfl, But.refl _ _, e, hr⟩
      · exact hN _ _ ⟨a, b, cc, rest, _, _, rfl, But.refl _ _, e, hr⟩
end
end K63
set_option maxRecDepth 100000
set_option maxHeartbeats 2000000
namespace K63
open PySem PySem.Spec PyProof.Rows L2 TB TM
theorem rgV_nv (n : Nat) : rgV 0 (n : Int) = nv (List.range n) := by
  unfold rgV nv
  have e1 : ((n : Int) - 0).toNat = n := by omega
  rw [e1]
  refine List.map_congr_left fun i _ => ?_
  rw [Int.zero_add]
theorem _root_.TB.But.upd_of {p q : Addr} {H H1 : Hp} {o : HO} (b : But p H H1) (h : H q = none) : But p H (L2.upd H1 q o) := fun a u n e => by
  rw [upd_ne (ne_of_none e h)]
  exact b a u n e
theorem _root_.TB.But.none {p q : Addr} {H H1 : Hp} (b : But p H H1) (hp : q ≠ p) (h : H1 q = none) : H q = none := by
  cases e : H q with
  | none => rfl
  | some o =>
    rw [b q o hp e] at h
    cases h
theorem PU.ne {H : Hp} {pu a : Addr} (h : PU H pu) (k : H a = none) : a ≠ pu := by
  obtain ⟨_, _, _, _, e, _⟩ := h
  exact fun z => by rw [z, e] at k; cases k
theorem PU.upd {H : Hp} {pu a : Addr} {o : HO} (h : PU H pu) (k : a ≠ pu) : PU (L2.upd H a o) pu := by
  obtain ⟨x, y, z, w, e, l⟩ := h
  exact ⟨x, y, z, w, by rw [upd_ne (Ne.symm k)]; exact e, l⟩
theorem nv_take (p : List Nat) (k : Nat) : (nv p).take k = nv (p.take k) := by unfold nv; rw [List.map_take]
theorem nv_drop (p : List Nat) (k : Nat) : (nv p).drop k = nv (p.drop k) := by unfold nv; rw [List.map_drop]
theorem isP_of_perm {n : Nat} {p : List Nat} (h : p.Perm (List.range n)) : IsP n p := ⟨by rw [h.length_eq, List.length_range], fun x hx => List.mem_range.mp (h.mem_iff.mp hx), h.nodup_iff.mpr List.nodup_range⟩
def spLawPerm : Sp := fun vs H Q _ => ∃ (pu : Addr) (n : Nat), vs = [.ref pu, .int (n : Int)] ∧ PU H pu ∧ 1 ≤ n ∧ n ≤ 100 ∧ ∀ c p H', But pu H H' → PU H' pu → Tn H' c p → H c = none → IsP n p → Q (.ref c) H'
def spBack : Sp := spInverse
section
variable {P : Program} {w : World} {K : PySem.W.Frag} {mg : Str → Option Value} {base : Heap}
theorem dn__law_after (c : Ctx K mg) : Dn P w K mg base CX0 1 "_law_after" ["first", "second"] spTimes := by
  have f_tuple := c.f_tuple
  have sc := sc__law_after
  obtain ⟨fd, F⟩ := c.D__law_after
  refine ⟨_, fd, c.g__law_after, F.kp, F.ok sc (fun vs H Q E h => ?_) (fun cdv A outer s H vs Q E hr h => ⟨_, PSs.nox ((pss_one (ps_ret (pe_callTy (call_tupK (K := K) rfl) (by rfl) f_tuple boot_tuple (pa_cons (pe_lc (own := [("point", 2)]) (tt := tYes) rfl sc.nd (pi_tupK (K := K) rfl (pv 0)) (blkOk_by (own := [("point", 2)]) (N := ["first", "second", "point"]) (sc := defScope s__law_after) (by decide +kernel)) (fun _ _ _ _ _ => (pg_name (i := 2) sc.nd rfl (by first | exact Or.inl rfl | exact Or.inr rfl))) (fun _ _ _ _ _ => pts_nil) (fun _ _ _ _ _ => (pe_ix (ix_tupK (K := K) rfl) (pv 1) (pv 2) (fun _ _ => rfl)))) pa_nil))))), ?_⟩), F.bindsN fun _ _ _ _ _ _ us hl => match us, hl with | [_, _], _ => rfl⟩
  · obtain ⟨a, b, p, q, rfl, _⟩ := h
    rfl
  · obtain ⟨a, b, p, q, rfl, hp, hq, hl, hx, hz, k⟩ := h
    refine ⟨_, rfl, a, rfl, ⟨_, hp.t⟩, fun D hD => lc_it (walk_tup (xs := nv p)) (fun i H' => Same H H' ∧ H' D = some (.lst (nv (mul (p.take i) q)))) ?_ ?_ ?_ ?_⟩
    · exact ⟨same_new hD, upd_same⟩
    · rintro i H' hi ⟨s1, h1⟩
      exact (hp.mono s1).t
    · rintro i x H1 H2 hi ⟨s1, h1⟩ ⟨rfl, hx2⟩
      rw [nv_length] at hi
      obtain ⟨n, hn⟩ : ∃ n, p[i]? = some n := ⟨p[i], by simp [hi]⟩
      rw [nv_get, hn] at hx2
      obtain rfl : V.int (n : Int) = x := Option.some.inj hx2
      have hnq : n < q.length := hx n (List.mem_of_getElem? hn)
      refine ⟨rfl, ⟨_, rfl, _, rfl, b, _, _, _, rfl, rfl, (hq.mono s1).t, nv_at (n := q.getD n 0) (by simp [hnq]), _, h1, ?_, ?_⟩⟩
      · rw [nv_length, mul, List.length_map, List.length_take, sizeLine_eq]
        omega
      · refine ⟨Same.upd_of s1 hD, ?_⟩
        rw [upd_same, List.take_succ, hn]
        simp [mul, nv]
    · rintro H1 ⟨s1, h1⟩
      rw [nv_length, List.take_length] at h1
      refine ⟨D, _, rfl, .inl ⟨SqL.of h1, fun l hl2 => ?_⟩⟩
      exact k l _ (s1.trans (same_new hl2)) upd_same
theorem dn__law_back (c : Ctx K mg) : Dn P w K mg base CX0 1 "_law_back" ["perm"] spInverse := by
  have f_len := c.f_len
  have f_range := c.f_range
  have f_tuple := c.f_tuple
  have sc := sc__law_back
  obtain ⟨fd, F⟩ := c.D__law_back
  refine ⟨_, fd, c.g__law_back, F.kp, F.ok sc (fun vs H Q E h => ?_) (fun cdv A outer s H vs Q E hr h => ⟨_, PSs.nox ((pss_cons (ps_set (i := 1) sc.nd rfl (by first | exact Or.inl rfl | exact Or.inr rfl) (pe_op op_rep (pe_lst (pa_cons pe_int pa_nil)) (pe_callB (call_lenK (K := K) rfl) (by rfl) f_len boot_len (pa_cons (pv 0) pa_nil))))
  (pss_cons (ps_for PassesOwn.never rfl (pi_range1 (by rfl) f_range (pa_cons (pe_callB (call_lenK (K := K) rfl) (by rfl) f_len boot_len (pa_cons (pv 0) pa_nil)) pa_nil)) (pg_name (i := 2) sc.nd rfl (by first | exact Or.inl rfl | exact Or.inr rfl)) (pss_one (ps_asg (pv 2) (pg_sub (pv 1) (pe_ix (ix_tupK (K := K) rfl) (pv 0) (pv 2) (fun _ _ => rfl)) set_list (fun _ => rfl)))))
  (pss_one (ps_ret (pe_callTy (call_tupK (K := K) rfl) (by rfl) f_tuple boot_tuple (pa_cons (pv 1) pa_nil))))))), ?_⟩), F.bindsN fun _ _ _ _ _ _ us hl => match us, hl with | [_], _ => rfl⟩
  · obtain ⟨a, p, n, rfl, _⟩ := h
    rfl
  · obtain ⟨a, p, n, rfl, hp, hP, hn, k⟩ := h
    refine ⟨szk rfl, fun Z hZ => ?_⟩
    refine ⟨_, rfl, a, _, rfl, .inr (SqT.of (same_new hZ _ _ hp)), Z, _, _, rfl, rfl, upd_same, by omega, ?_, ?_, fun D hD => ?_⟩
    · rw [nv_length, hP.len]
      omega
    · rw [nv_length, hP.len, sizeLine_eq]
      show 1 * ((n : Int)).toNat ≤ _
      omega
    dsimp only [gName]
    have s1 : Same H (upd (upd H Z (.lst [.int 0])) D (.lst (List.replicate ((nv p).length : Int).toNat [V.int 0]).flatten)) := (same_new hZ).trans (same_new hD)
    have h1 : (upd (upd H Z (.lst [.int 0])) D (.lst (List.replicate ((nv p).length : Int).toNat [V.int 0]).flatten)) D = some (.lst (nv (List.replicate n 0))) := by
      rw [upd_same, nv_length, hP.len, Int.toNat_natCast]
      have : ∀ k : Nat, (List.replicate k [V.int 0]).flatten = nv (List.replicate k 0) := fun k => by
        induction k with
        | zero => rfl
        | succ k ih =>
          rw [List.replicate_succ, List.flatten_cons, ih]
          rfl
      rw [this]
    have hHD : H D = none := by
      cases q : H D with
      | none => rfl
      | some o =>
        rw [same_new hZ _ _ q] at hD
        cases hD
    generalize upd (upd H Z (.lst [.int 0])) D (.lst (List.replicate ((nv p).length : Int).toNat [V.int 0]).flatten) = H1 at s1 h1 ⊢
    refine ⟨_, rfl, a, _, rfl, .inr (hp.mono s1).t, (n : Int), ?_, by omega, by omega, ?_⟩
    · rw [nv_length, hP.len]
    refine for_it (walk_rng (n := ((n : Int)).toNat)) (fun i σ H' => (∃ u, σ = [some (.ref a), some (.ref D), u]) ∧ Same H H' ∧ ∃ b, H' D = some (.lst (nv b)) ∧ InvTo p b i) ?_ ?_ ?_ ?_
    · exact ⟨⟨none, rfl⟩, s1, _, h1, by rw [List.length_replicate, hP.len], fun j x hj => by omega⟩
    · intros; trivial
    · rintro i x σ H2 H3 hi ⟨⟨u, rfl⟩, s2, b, e2, hb⟩ ⟨rfl, rfl⟩
      obtain ⟨m, hm⟩ := get_of (show i < p.length by rw [hP.len]; omega)
      have hmn := hP.lt m (List.mem_of_getElem? hm)
      refine ⟨_, rfl, _, rfl, _, rfl, _, rfl, a, _, _, _, rfl, rfl, (hp.mono s2).t, nv_at hm, D, nv b, (m : Int), m, rfl, rfl, e2, ?_, ⟨_, rfl⟩, Same.upd_of s2 hHD, b.set m i, ?_, hb.step hP hm⟩
      · rw [nv_length, hb.1, hP.len]
        exact ixN_nat hmn
      · rw [upd_same]
        unfold nv
        rw [List.map_set]
    · rintro σ H' ⟨⟨u, rfl⟩, s2, b, e2, hb⟩
      rw [Int.toNat_natCast] at hb
      rw [hb.done hP] at e2
      exact ⟨_, rfl, D, _, rfl, .inl ⟨SqL.of e2, fun l hl2 => k l _ (s2.trans (same_new hl2)) upd_same⟩⟩
theorem dn__law_perm (c : Ctx K mg) : Dn P w K mg base CX0 2 "_law_perm" ["purse", "points"] spLawPerm := by
  have f_len := c.f_len
  have f_list := c.f_list
  have f_range := c.f_range
  have f_tuple := c.f_tuple
  obtain ⟨f___law_draw, fd__law_draw, g__law_draw, k__law_draw, F__law_draw, b__law_draw⟩ := (dn__law_draw (P := P) (w := w) (base := base) c).ex
  have sc := sc__law_perm
  obtain ⟨fd, F⟩ := c.D__law_perm
  refine ⟨_, fd, c.g__law_perm, F.kp, F.ok sc (fun vs H Q E h => ?_) (fun cdv A outer s H vs Q E hr h => ⟨_, PSs.nox ((pss_cons (ps_set (i := 2) sc.nd rfl (by first | exact Or.inl rfl | exact Or.inr rfl) (pe_listRg rfl (by rfl) f_list (prg_1 (by rfl) f_range (pv 1))))
  (pss_cons (ps_set (i := 3) sc.nd rfl (by first | exact Or.inl rfl | exact Or.inr rfl) (pe_lst pa_nil))
  (pss_cons (ps_for PassesOwn.never rfl (pi_range1 (by rfl) f_range (pa_cons (pv 1) pa_nil)) (pg_name (i := 4) sc.nd rfl (by first | exact Or.inl rfl | exact Or.inr rfl)) (pss_cons (ps_set (i := 5) sc.nd rfl (by first | exact Or.inl rfl | exact Or.inr rfl) (pe_call F__law_draw (hr.mono (by decide)) (by rfl) g__law_draw k__law_draw b__law_draw nil_v pass0 (pa_cons (pv 0) (pa_cons (pe_callB (call_lenK (K := K) rfl) (by rfl) f_len boot_len (pa_cons (pv 2) pa_nil)) pa_nil))))
  (pss_cons (ps_expr (pe_bm PySem.F.plainAttrs_list PySem.F.slot_list_append PySem.F.type_list_append mt_append (pv 3) (pa_cons (pe_ix (ix_listK (K := K) rfl) (pv 2) (pv 5) (fun _ _ => rfl)) pa_nil)))
  (pss_one (ps_set (i := 2) sc.nd rfl (by first | exact Or.inl rfl | exact Or.inr rfl) (pe_op op_cat (pe_slice (sl_listK (K := K) rfl) (pv 2) po_none (po_some (pv 5))) (pe_slice (sl_listK (K := K) rfl) (pv 2) (po_some (pe_op op_add (pv 5) pe_int)) po_none)))))))
  (pss_one (ps_ret (pe_callTy (call_tupK (K := K) rfl) (by rfl) f_tuple boot_tuple (pa_cons (pv 3) pa_nil)))))))), ?_⟩), F.bindsN fun _ _ _ _ _ _ us hl => match us, hl with | [_, _], _ => rfl⟩
  · obtain ⟨pu, n, rfl, _⟩ := h
    rfl
  · obtain ⟨pu, n, rfl, hpu, h1, hn, k⟩ := h
    refine ⟨_, rfl, _, rfl, RgOk.of_le (by omega) (by omega) (by omega) (by omega), fun L hL => ⟨szk rfl, fun M hM => ?_⟩⟩
    rw [rgV_nv] at hM ⊢
    dsimp only [gName]
    have hMn : H M = none := by
      cases q : H M with
      | none => rfl
      | some o =>
        rw [same_new hL _ _ q] at hM
        cases hM
    have s0 : Same H (upd (upd H L (.lst (nv (List.range n)))) M (.lst [])) := (same_new hL).trans (same_new hM)
    have hLM : L ≠ M := fun z => by
      rw [z, upd_same] at hM
      cases hM
    have eL : (upd (upd H L (.lst (nv (List.range n)))) M (.lst [])) L = some (.lst (nv (List.range n))) := by rw [upd_ne hLM, upd_same]
    have eM : (upd (upd H L (.lst (nv (List.range n)))) M (.lst [])) M = some (.lst (nv [])) := upd_same
    generalize upd (upd H L (.lst (nv (List.range n)))) M (.lst []) = H0 at s0 eL eM ⊢
    refine ⟨_, rfl, (n : Int), rfl, by omega, by omega, for_it (walk_rng (n := ((n : Int)).toNat)) (fun i σ H' => ∃ (L : Addr) (lf acc : List Nat) (u v : Option V), σ = [some (.ref pu), some (.int (n : Int)), some (.ref L), some (.ref M), u, v] ∧ H L = none ∧ L ≠ M ∧ But pu H H' ∧ PU H' pu ∧ H' L = some (.lst (nv lf)) ∧ H' M = some (.lst (nv acc)) ∧ (acc ++ lf).Perm (List.range n) ∧ acc.length = i) ?_ ?_ ?_ ?_⟩
    · exact ⟨L, List.range n, [], none, none, rfl, hL, hLM, But.ofSame s0, hpu.mono s0, eL, eM, List.Perm.refl _, rfl⟩
    · intros; trivial
    · rintro i x σ H1 H2 hi ⟨L, lf, acc, u, v, rfl, hL, hLM, b1, p1, e1, e2, pm, la⟩ ⟨rfl, rfl⟩
      have ll : lf.length + acc.length = n := by
        have := pm.length_eq
        rw [List.length_append, List.length_range] at this
        omega
      refine ⟨_, rfl, _, rfl, L, _, rfl, .inl (SqL.of e1), pu, lf.length, ?_, p1, by omega, by omega, fun d H3 b3 p3 hd => ?_⟩
      · show [V.ref pu, V.int ((nv lf).length : Int)] = _
        rw [nv_length]
      have e13 := b3 _ _ (hpu.ne hL) e1
      have e23 := b3 _ _ (hpu.ne hMn) e2
      obtain ⟨y, hy⟩ := get_of hd
      refine ⟨_, rfl, tyL e23, _, rfl, _, rfl, L, _, _, _, rfl, rfl, SqL.of e13, nv_at hy, M, _, _, rfl, rfl, e23, szL _ (by rw [nv_length]; omega), ?_⟩
      have e14 : (upd H3 M (.lst (nv acc ++ [V.int (y : Int)]))) L = some (.lst (nv lf)) := by
        rw [upd_ne hLM]
        exact e13
      have e24 : (upd H3 M (.lst (nv acc ++ [V.int (y : Int)]))) M = some (.lst (nv (acc ++ [y]))) := by
        rw [upd_same, nv_append]
        rfl
      have b4 : But pu H (upd H3 M (.lst (nv acc ++ [V.int (y : Int)]))) := (b1.trans b3).upd_of hMn
      have p4 : PU (upd H3 M (.lst (nv acc ++ [V.int (y : Int)]))) pu := p3.upd (hpu.ne hMn)
      generalize upd H3 M (.lst (nv acc ++ [V.int (y : Int)])) = H4 at e14 e24 b4 p4 ⊢
      refine ⟨_, rfl, _, rfl, _, rfl, L, _, rfl, SqL.of e14, fun L1 hL1 => ?_⟩
      rw [cut_take, nv_take]
      have s5 := same_new (o := .lst (nv (lf.take d))) hL1
      have e15 := s5 _ _ e14
      have e25 := s5 _ _ e24
      have b5 := b4.same s5
      have p5 := p4.mono s5
      have e35 : (upd H4 L1 (.lst (nv (lf.take d)))) L1 = some (.lst (nv (lf.take d))) := upd_same
      generalize upd H4 L1 (.lst (nv (lf.take d))) = H5 at s5 e15 e25 b5 p5 e35 ⊢
      refine ⟨_, rfl, _, rfl, _, _, rfl, rfl, _, rfl, L, _, rfl, SqL.of e15, fun L2 hL2 => ?_⟩
      have ed : cutV (nv lf) (some ((d : Int) + 1)) none = nv (lf.drop (d + 1)) := by
        rw [show (d : Int) + 1 = ((d + 1 : Nat) : Int) by omega, cut_drop, nv_drop]
      rw [ed]
      have s6 := same_new (o := .lst (nv (lf.drop (d + 1)))) hL2
      refine ⟨L1, L2, _, _, rfl, rfl, s6 _ _ e35, upd_same, sz _ (by rw [nv_length, nv_length, List.length_take, List.length_drop]; omega), fun L3 hL3 => ?_⟩
      have s7 := s6.trans (same_new (o := .lst (nv (lf.take d) ++ nv (lf.drop (d + 1)))) hL3)
      have b7 := b5.same s7
      have hM5 := s7 _ _ e25
      refine ⟨L3, lf.take d ++ lf.drop (d + 1), acc ++ [y], _, _, rfl, ?_, ?_, b7, p5.mono s7, ?_, hM5, ?_, ?_⟩
      · refine (b5.same s6).none ?_ hL3
        exact (p5.mono s6).ne hL3
      · intro z
        rw [z] at hL3
        rw [s6 _ _ e25] at hL3
        cases hL3
      · rw [upd_same, nv_append]
      · have e5 : lf = lf.take d ++ y :: lf.drop (d + 1) := by
          have a1 := List.take_append_drop d lf
          have a2 : lf.drop d = y :: lf.drop (d + 1) := by
            rw [List.drop_eq_getElem_cons hd]
            have := List.getElem?_eq_getElem hd
            rw [hy] at this
            rw [Option.some.inj this]
          rw [← a2, a1]
        have a3 : (lf.take d ++ y :: lf.drop (d + 1)).Perm (y :: (lf.take d ++ lf.drop (d + 1))) := List.perm_middle
        have a4 : (acc ++ [y] ++ (lf.take d ++ lf.drop (d + 1))).Perm (acc ++ lf) := by
          rw [List.append_assoc]
          refine List.Perm.append_left acc ?_
          rw [e5]
          have := a3.symm
          rw [← e5] at this ⊢
          exact this
        exact a4.trans pm
      · rw [List.length_append, la]
        rfl
    · rintro σ H' ⟨L, lf, acc, u, v, rfl, hL, hLM, b1, p1, e1, e2, pm, la⟩
      have ll : lf.length + acc.length = n := by
        have := pm.length_eq
        rw [List.length_append, List.length_range] at this
        omega
      have l0 : lf = [] := List.length_eq_zero_iff.mp (by omega)
      rw [l0, List.append_nil] at pm
      exact ⟨_, rfl, M, _, rfl, .inl ⟨SqL.of e2, fun q hq => k q acc _ (b1.same (same_new hq)) (p1.mono (same_new hq)) upd_same (b1.none (p1.ne hq) hq) (isP_of_perm pm)⟩⟩
end
end K63
set_option maxRecDepth 100000
set_option maxHeartbeats 2000000
namespace K63
open PySem PySem.Spec PyProof.Rows L2 TB TM
def spLawPos : Sp := fun vs H Q _ => ∃ (pu : Addr) (n m : Nat), vs = [.ref pu, .int (n : Int), .int (m : Int)] ∧ PU H pu ∧ 1 ≤ n ∧ n ≤ 100 ∧ 1 ≤ m ∧ m ∣ n ∧ ∀ c p H', But pu H H' → PU H' pu → Tn H' c p → H c = none → IsP n p → KM m n p → Q (.ref c) H'
section
variable {P : Program} {w : World} {K : PySem.W.Frag} {mg : Str → Option Value} {base : Heap}
theorem dn__law_position (c : Ctx K mg) : Dn P w K mg base CX0 3 "_law_position" ["purse", "points", "group"] spLawPos := by
  have f_range := c.f_range
  have f_tuple := c.f_tuple
  obtain ⟨f___law_draw, fd__law_draw, g__law_draw, k__law_draw, F__law_draw, b__law_draw⟩ := (dn__law_draw (P := P) (w := w) (base := base) c).ex
  obtain ⟨f___law_perm, fd__law_perm, g__law_perm, k__law_perm, F__law_perm, b__law_perm⟩ := (dn__law_perm (P := P) (w := w) (base := base) c).ex
  have sc := sc__law_position
  obtain ⟨fd, F⟩ := c.D__law_position
  refine ⟨_, fd, c.g__law_position, F.kp, F.ok sc (fun vs H Q E h => ?_) (fun cdv A outer s H vs Q E hr h => ⟨_, PSs.nox ((pss_cons (ps_set (i := 3) sc.nd rfl (by first | exact Or.inl rfl | exact Or.inr rfl) (pe_op op_fdivN (pv 1) (pv 2)))
  (pss_cons (ps_set (i := 4) sc.nd rfl (by first | exact Or.inl rfl | exact Or.inr rfl) (pe_call F__law_perm (hr.mono (by decide)) (by rfl) g__law_perm k__law_perm b__law_perm nil_v pass0 (pa_cons (pv 0) (pa_cons (pv 3) pa_nil))))
  (pss_cons (ps_set (i := 5) sc.nd rfl (by first | exact Or.inl rfl | exact Or.inr rfl) (pe_lst pa_nil))
  (pss_cons (ps_for PassesOwn.never rfl (pi_range1 (by rfl) f_range (pa_cons (pv 3) pa_nil)) (pg_name (i := 6) sc.nd rfl (by first | exact Or.inl rfl | exact Or.inr rfl)) (pss_cons (ps_set (i := 7) sc.nd rfl (by first | exact Or.inl rfl | exact Or.inr rfl) (pe_call F__law_draw (hr.mono (by decide)) (by rfl) g__law_draw k__law_draw b__law_draw nil_v pass0 (pa_cons (pv 0) (pa_cons (pv 2) pa_nil))))
  (pss_one (ps_expr (pe_bm PySem.F.plainAttrs_list PySem.F.slot_list_extend PySem.F.type_list_extend mt_extend (pv 5) (pa_cons (pe_lc (own := [("k", 8)]) (tt := tYes) rfl sc.nd (pi_range1 (by rfl) f_range (pa_cons (pv 2) pa_nil)) (blkOk_by (own := [("k", 8)]) (N := ["purse", "points", "group", "spots", "to", "perm", "spot", "twist", "k"]) (sc := defScope s__law_position) (by decide +kernel)) (fun _ _ _ _ _ => (pg_name (i := 8) sc.nd rfl (by first | exact Or.inl rfl | exact Or.inr rfl))) (fun _ _ _ _ _ => pts_nil) (fun _ _ _ _ _ => (pe_op op_add (pe_op op_mul (pe_ix (ix_tupK (K := K) rfl) (pv 4) (pv 6) (fun _ _ => rfl)) (pv 2)) (pe_op op_modN (pe_op op_add (pv 7) (pv 8)) (pv 2))))) pa_nil))))))
  (pss_one (ps_ret (pe_callTy (call_tupK (K := K) rfl) (by rfl) f_tuple boot_tuple (pa_cons (pv 5) pa_nil))))))))), ?_⟩), F.bindsN fun _ _ _ _ _ _ us hl => match us, hl with | [_, _, _], _ => rfl⟩
  · obtain ⟨pu, n, m, rfl, _⟩ := h
    rfl
  · obtain ⟨pu, n, m, rfl, hpu, h1, hn, hm, hd, k⟩ := h
    have hmn : m ≤ n := Nat.le_of_dvd (by omega) hd
    have ed : (n : Int).fdiv (m : Int) = ((n / m : Nat) : Int) := by
      rw [Int.fdiv_eq_ediv_of_nonneg _ (by omega)]
      rfl
    have hqm := Nat.div_mul_cancel hd
    have hq1 : 1 ≤ n / m := Nat.div_pos hmn (by omega)
    have hqn : n / m ≤ n := Nat.div_le_self _ _
    refine ⟨_, rfl, _, rfl, _, _, rfl, rfl, ⟨by omega, by omega⟩, ?_⟩
    dsimp only [gName]
    rw [ed]
    obtain ⟨q, eq⟩ : ∃ q, n / m = q := ⟨_, rfl⟩
    rw [eq] at hqm hq1 hqn ⊢
    refine ⟨_, rfl, _, rfl, pu, q, rfl, hpu, hq1, by omega, fun T to H1 b1 p1 tT hT hto => ⟨szk rfl, fun M hM => ?_⟩⟩
    dsimp only [gName]
    have hMn : H M = none := b1.none (p1.ne hM) hM
    have b2 := b1.same (same_new (o := .lst []) hM)
    have p2 := p1.mono (same_new (o := .lst []) hM)
    have t2 := tT.mono (same_new (o := .lst []) hM)
    have e2 : (upd H1 M (.lst [])) M = some (.lst (nv [])) := upd_same
    generalize upd H1 M (.lst []) = H2 at b2 p2 t2 e2 ⊢
    have hTpu := hpu.ne hT
    refine ⟨_, rfl, (q : Int), rfl, by omega, by omega, for_it (walk_rng (n := ((q : Int)).toNat)) (fun i σ H' => ∃ (acc : List Nat) (u v : Option V), σ = [some (.ref pu), some (.int (n : Int)), some (.int (m : Int)), some (.int (q : Int)), some (.ref T), some (.ref M), u, v, none] ∧ But pu H H' ∧ PU H' pu ∧ Tn H' T to ∧ H' M = some (.lst (nv acc)) ∧ acc.length = i * m ∧ ∀ s, s < i → ∃ t : Nat, ∀ k, k < m → acc[s * m + k]? = some (to.getD s 0 * m + (t + k) % m)) ?_ ?_ ?_ ?_⟩
    · exact ⟨[], none, none, rfl, b2, p2, t2, e2, by simp, fun s hs => by omega⟩
    · intros; trivial
    · rintro i x σ H3 H4 hi ⟨acc, u, v, rfl, b3, p3, t3, e3, la, ha⟩ ⟨rfl, rfl⟩
      have hiq : i < q := by omega
      refine ⟨_, rfl, _, rfl, pu, m, rfl, p3, hm, by omega, fun t H5 b5 p5 ht => ?_⟩
      have t5 : Tn H5 T to := b5 _ _ hTpu t3
      have e5 := b5 _ _ (hpu.ne hMn) e3
      have b35 := b3.trans b5
      obtain ⟨y, hy⟩ := get_of (show i < to.length by rw [hto.len]; exact hiq)
      have hyg : to.getD i 0 = y := by simp [List.getD_eq_getElem?_getD, hy]
      have hyq := hto.lt y (List.mem_of_getElem? hy)
      refine ⟨_, rfl, tyL e5, _, rfl, (m : Int), rfl, by omega, by omega, fun D hD => lc_same (walk_rng (n := ((m : Int)).toNat)) hD (fun k _ acc2 => acc2 = nv ((List.range k).map fun k => y * m + (t + k) % m)) (fun _ _ => rfl) (fun _ _ _ _ _ h => h) (by omega) (fun _ _ => trivial) ?_ ?_⟩
      · rintro k x H6 H7 acc2 C hk s6 rfl ⟨rfl, rfl⟩ kC
        refine ⟨rfl, _, rfl, _, rfl, T, _, _, _, rfl, rfl, (t5.mono s6).t, nv_at hy, _, rfl, _, _, rfl, rfl, .inr (by constructor <;> omega), _, rfl, _, rfl, _, _, rfl, rfl, _, rfl, _, _, rfl, rfl, by omega, _, _, rfl, rfl, ?_⟩
        refine kC _ _ (fun _ _ h => h) ?_
        have ev : (y : Int) * (m : Int) + ((t : Int) + (k : Int)).fmod (m : Int) = ((y * m + (t + k) % m : Nat) : Int) := by
          rw [Int.fmod_eq_emod_of_nonneg _ (by omega)]
          push_cast
          rfl
        show nv _ ++ [V.int ((y : Int) * (m : Int) + ((t : Int) + (k : Int)).fmod (m : Int))] = _
        rw [ev, List.range_succ, List.map_append, nv_append]
        rfl
      · rintro H6 acc2 s6 e6 l6 rfl
        rw [Int.toNat_natCast] at e6
        have e56 := s6 _ _ e5
        have hq8 : (i + 1) * m ≤ q * m := Nat.mul_le_mul_right m hiq
        rw [Nat.add_mul] at hq8
        refine ⟨M, D, _, _, rfl, rfl, e56, e6, sz _ (by rw [nv_length, nv_length, List.length_map, List.length_range]; omega), ?_⟩
        refine ⟨acc ++ (List.range m).map (fun k => y * m + (t + k) % m), _, _, rfl, (b35.same s6).upd_of hMn, (p5.mono s6).upd (hpu.ne hMn), (Tps.upd e56).tn (t5.mono s6), by rw [upd_same, nv_append], ?_, fun s hs => ?_⟩
        · rw [List.length_append, List.length_map, List.length_range, la, Nat.add_mul]
          omega
        · by_cases z : s = i
          · subst z
            refine ⟨t, fun k hk => ?_⟩
            rw [List.getElem?_append_right (by omega), la, hyg]
            have e7 : s * m + k - s * m = k := by omega
            rw [e7, List.getElem?_map, List.getElem?_range hk]
            rfl
          · obtain ⟨t', ht'⟩ := ha s (by omega)
            refine ⟨t', fun k hk => ?_⟩
            have h9 : (s + 1) * m ≤ i * m := Nat.mul_le_mul_right m (by omega)
            rw [Nat.add_mul] at h9
            rw [List.getElem?_append_left (by omega)]
            exact ht' k hk
    · rintro σ H' ⟨acc, u, v, rfl, b3, p3, t3, e3, la, ha⟩
      rw [Int.toNat_natCast] at la ha
      have ok := pos_ok (n := n) (by omega) hqm hto (by omega) ha
      exact ⟨_, rfl, M, _, rfl, .inl ⟨SqL.of e3, fun c hc => k c acc _ (b3.same (same_new hc)) (p3.mono (same_new hc)) upd_same (b3.none (p3.ne hc) hc) ok.1 ok.2⟩⟩
end
end K63
set_option maxRecDepth 100000
set_option maxHeartbeats 2000000
namespace K63
open PySem PySem.Spec PyProof.Rows L2 TB TM
/-- the text of these letters -/
def St_ (l : List Nat) : Str := ⟨l.toArray⟩
theorem St_inj {a b : List Nat} (h : St_ a = St_ b) : a = b := by
  have := congrArg (fun z : Str => z.cps.toList) h
  simpa [St_] using this
theorem St_len (l : List Nat) : (St_ l).length = l.length := by
  show l.toArray.size = _
  simp
theorem St_app (a b : List Nat) : St_ a ++ St_ b = St_ (a ++ b) := by
  show (⟨a.toArray ++ b.toArray⟩ : Str) = ⟨(a ++ b).toArray⟩
  simp
theorem join_one (l : List Nat) : Txt.join (Str.ofString "") (l.map fun b => (⟨#[b]⟩ : Str)) = St_ l := by
  have h0 : ∀ l : List Nat, Str.join (Str.ofString "") (l.map fun b => (⟨#[b]⟩ : Str)) = St_ l := fun l => by
    induction l with
    | nil => rfl
    | cons a l ih =>
      cases l with
      | nil => rfl
      | cons b l =>
        have ih' : Str.join (Str.ofString "") ((⟨#[b]⟩ : Str) :: l.map fun b => (⟨#[b]⟩ : Str)) = St_ (b :: l) := ih
        show (⟨#[a]⟩ : Str) ++ Str.ofString "" ++ Str.join (Str.ofString "") ((⟨#[b]⟩ : Str) :: l.map fun b => (⟨#[b]⟩ : Str)) = _
        rw [ih']
        have e0 : Str.ofString "" = ⟨#[]⟩ := by decide +kernel
        have e : (⟨#[a]⟩ : Str) ++ Str.ofString "" = St_ [a] := by
          rw [e0]
          rfl
        rw [e, St_app]
        rfl
  rw [← h0 l]
  exact eq_of_beq (join_plain_closes _ _)
theorem cutS_take {l : List Nat} (k : Nat) (hk : k ≤ l.length) : cutS (St_ l) none (some (k : Int)) = St_ (l.take k) := by
  unfold cutS
  rw [HT.sIx_nat, HT.sIx_none, St_len, Nat.min_eq_left hk, Nat.sub_zero, List.drop_zero]
  rfl
theorem cutS_mid {l : List Nat} (j k : Nat) (hj : j ≤ l.length) (hk : k ≤ l.length) : cutS (St_ l) (some (j : Int)) (some (k : Int)) = St_ ((l.drop j).take (k - j)) := by
  unfold cutS
  rw [HT.sIx_nat, HT.sIx_nat, St_len, Nat.min_eq_left hj, Nat.min_eq_left hk]
  rfl
/-- the letters of the k-th name -/
def nmL (bs : List Nat) (alike : Bool) (shift length spot begin k : Nat) : List Nat :=
  if alike then bs.take spot ++ [97 + (begin + k) % 26] ++ (bs.drop (spot + 1)).take (length - (spot + 1)) else bs.take (1 + (k + shift) % 8)
def LetOk (l : List Nat) : Prop := 1 ≤ l.length ∧ l.length ≤ 8 ∧ ∀ c ∈ l, 97 ≤ c ∧ c ≤ 122
theorem LetOk.name {l : List Nat} (h : LetOk l) : NameOk (St_ l) := by
  refine ⟨?_, ?_, fun i c e => ?_⟩
  · show 1 ≤ l.toArray.size
    simpa using h.1
  · show l.toArray.size ≤ 8
    simpa using h.2.1
  · have e2 : l[i]? = some c := by
      have : l.toArray[i]? = some c := e
      simpa using this
    exact h.2.2 c (List.mem_of_getElem? e2)
theorem nmL_ok {bs : List Nat} {alike : Bool} {shift length spot begin k : Nat} (hb : bs.length = 8) (hl : ∀ c ∈ bs, 97 ≤ c ∧ c ≤ 122) (h1 : spot < length) (h2 : length ≤ 8) : LetOk (nmL bs alike shift length spot begin k) := by
  unfold nmL
  cases alike with
  | true =>
    rw [if_pos rfl]
    refine ⟨?_, ?_, fun c hc => ?_⟩
    · simp only [List.length_append, List.length_cons, List.length_nil]
      omega
    · simp only [List.length_append, List.length_cons, List.length_nil, List.length_take, List.length_drop]
      omega
    · rw [List.mem_append, List.mem_append] at hc
      rcases hc with (hc | hc) | hc
      · exact hl c (List.mem_of_mem_take hc)
      · have : c = 97 + (begin + k) % 26 := by simpa using hc
        omega
      · exact hl c (List.mem_of_mem_drop (List.mem_of_mem_take hc))
  | false =>
    rw [if_neg (by intro z; cases z)]
    refine ⟨?_, ?_, fun c hc => hl c (List.mem_of_mem_take hc)⟩
    · rw [List.length_take]
      omega
    · rw [List.length_take]
      omega
theorem nmL_inj {bs : List Nat} {alike : Bool} {shift length spot begin j k : Nat} (hb : bs.length = 8) (h1 : spot < length) (h2 : length ≤ 8) (hj : j < 8) (hk : k < 8) (e : nmL bs alike shift length spot begin j = nmL bs alike shift length spot begin k) : j = k := by
  unfold nmL at e
  cases alike with
  | true =>
    rw [if_pos rfl, if_pos rfl, List.append_assoc, List.append_assoc] at e
    have e2 := List.append_cancel_left e
    have e3 : 97 + (begin + j) % 26 = 97 + (begin + k) % 26 := by
      injection e2
    omega
  | false =>
    rw [if_neg (by intro z; cases z), if_neg (by intro z; cases z)] at e
    have := congrArg List.length e
    rw [List.length_take, List.length_take] at this
    omega
def spLawNames : Sp := fun vs H Q _ => ∃ pu : Addr, vs = [.ref pu, .int 8] ∧ PU H pu ∧ ∀ (l : Addr) (zs : List Str) (H' : Hp), But pu H H' → PU H' pu → H l = none → H' l = some (.lst (zs.map V.str)) → zs.length = 8 → (∀ z ∈ zs, NameOk z) → zs.Nodup → Q (.ref l) H'
theorem abc : ∀ i, i < 26 → (Str.ofString "abcdefghijklmnopqrstuvwxyz").cps.toList[i]? = some (97 + i) := by decide +kernel
theorem abc_len : (Str.ofString "abcdefghijklmnopqrstuvwxyz").length ≤ sizeLine := sz _ (by decide +kernel)
section
variable {P : Program} {w : World} {K : PySem.W.Frag} {mg : Str → Option Value} {base : Heap}
theorem dn__law_names (c : Ctx K mg) : Dn P w K mg base CX0 2 "_law_names" ["purse", "count"] spLawNames := by
  have f_range := c.f_range
  obtain ⟨f___law_draw, fd__law_draw, g__law_draw, k__law_draw, F__law_draw, b__law_draw⟩ := (dn__law_draw (P := P) (w := w) (base := base) c).ex
  have sc := sc__law_names
  obtain ⟨fd, F⟩ := c.D__law_names
  refine ⟨_, fd, c.g__law_names, F.kp, F.ok sc (fun vs H Q E h => ?_) (fun cdv A outer s H vs Q E hr h => ⟨_, PSs.nox ((pss_cons (ps_set (i := 2) sc.nd rfl (by first | exact Or.inl rfl | exact Or.inr rfl) pe_str)
  (pss_cons (ps_set (i := 3) sc.nd rfl (by first | exact Or.inl rfl | exact Or.inr rfl) (pe_cmpR op_eq (pe_call F__law_draw (hr.mono (by decide)) (by rfl) g__law_draw k__law_draw b__law_draw nil_v pass0 (pa_cons (pv 0) (pa_cons pe_int pa_nil))) pe_int (nomark _)))
  (pss_cons (ps_set (i := 4) sc.nd rfl (by first | exact Or.inl rfl | exact Or.inr rfl) (pe_call F__law_draw (hr.mono (by decide)) (by rfl) g__law_draw k__law_draw b__law_draw nil_v pass0 (pa_cons (pv 0) (pa_cons pe_int pa_nil))))
  (pss_cons (ps_set (i := 5) sc.nd rfl (by first | exact Or.inl rfl | exact Or.inr rfl) (pe_op op_add pe_int (pe_call F__law_draw (hr.mono (by decide)) (by rfl) g__law_draw k__law_draw b__law_draw nil_v pass0 (pa_cons (pv 0) (pa_cons pe_int pa_nil)))))
  (pss_cons (ps_set (i := 6) sc.nd rfl (by first | exact Or.inl rfl | exact Or.inr rfl) (pe_call F__law_draw (hr.mono (by decide)) (by rfl) g__law_draw k__law_draw b__law_draw nil_v pass0 (pa_cons (pv 0) (pa_cons (pv 5) pa_nil))))
  (pss_cons (ps_set (i := 7) sc.nd rfl (by first | exact Or.inl rfl | exact Or.inr rfl) (pe_call F__law_draw (hr.mono (by decide)) (by rfl) g__law_draw k__law_draw b__law_draw nil_v pass0 (pa_cons (pv 0) (pa_cons pe_int pa_nil))))
  (pss_cons (ps_set (i := 8) sc.nd rfl (by first | exact Or.inl rfl | exact Or.inr rfl) (pe_join pe_str (pe_lc (own := [("k", 10)]) (tt := tYes) rfl sc.nd (pi_range1 (by rfl) f_range (pa_cons pe_int pa_nil)) (blkOk_by (own := [("k", 10)]) (N := ["purse", "count", "letters", "alike", "shift", "length", "spot", "begin", "base", "names", "k"]) (sc := defScope s__law_names) (by decide +kernel)) (fun _ _ _ _ _ => (pg_name (i := 10) sc.nd rfl (by first | exact Or.inl rfl | exact Or.inr rfl))) (fun _ _ _ _ _ => pts_nil) (fun _ _ _ _ _ => (pe_ix ix_str (pv 2) (pe_call F__law_draw (hr.mono (by decide)) (by rfl) g__law_draw k__law_draw b__law_draw nil_v pass0 (pa_cons (pv 0) (pa_cons pe_int pa_nil))) (fun _ _ => rfl))))))
  (pss_cons (ps_set (i := 9) sc.nd rfl (by first | exact Or.inl rfl | exact Or.inr rfl) (pe_lst pa_nil))
  (pss_cons (ps_for PassesOwn.never rfl (pi_range1 (by rfl) f_range (pa_cons (pv 1) pa_nil)) (pg_name (i := 10) sc.nd rfl (by first | exact Or.inl rfl | exact Or.inr rfl)) (pss_one (ps_if (pt_val (pv 3)) (pss_one (ps_expr (pe_bm PySem.F.plainAttrs_list PySem.F.slot_list_append PySem.F.type_list_append mt_append (pv 9) (pa_cons (pe_op op_add_str (pe_op op_add_str (pe_slice sl_str (pv 8) po_none (po_some (pv 6))) (pe_ix ix_str (pv 2) (pe_op op_modN (pe_op op_add (pv 7) (pv 10)) pe_int) (fun _ _ => rfl))) (pe_slice sl_str (pv 8) (po_some (pe_op op_add (pv 6) pe_int)) (po_some (pv 5)))) pa_nil)))) (pss_one (ps_expr (pe_bm PySem.F.plainAttrs_list PySem.F.slot_list_append PySem.F.type_list_append mt_append (pv 9) (pa_cons (pe_slice sl_str (pv 8) po_none (po_some (pe_op op_add pe_int (pe_op op_modN (pe_op op_add (pv 10) (pv 4)) pe_int)))) pa_nil)))))))
  (pss_one (ps_ret (pv 9))))))))))))), ?_⟩), F.bindsN fun _ _ _ _ _ _ us hl => match us, hl with | [_, _], _ => rfl⟩
  · obtain ⟨pu, rfl, _⟩ := h
    rfl
  · obtain ⟨pu, rfl, hpu, k⟩ := h
    refine ⟨_, rfl, pu, 2, rfl, hpu, by decide, by decide, fun d1 H1 b1 p1 hd1 => ⟨rfl, ?_⟩⟩
    refine ⟨_, rfl, pu, 8, rfl, p1, by decide, by decide, fun d2 H2 b2 p2 hd2 => ?_⟩
    refine ⟨_, rfl, pu, 8, rfl, p2, by decide, by decide, fun d3 H3 b3 p3 hd3 => ⟨_, _, rfl, rfl, ?_⟩⟩
    refine ⟨_, rfl, _, rfl, pu, d3 + 1, ?_, p3, by omega, by omega, fun d4 H4 b4 p4 hd4 => ?_⟩
    · show [V.ref pu, V.int (1 + (d3 : Int))] = [V.ref pu, V.int ((d3 + 1 : Nat) : Int)]
      rw [show 1 + (d3 : Int) = ((d3 + 1 : Nat) : Int) by omega]
    refine ⟨_, rfl, pu, 26, rfl, p4, by decide, by decide, fun d5 H5 b5 p5 hd5 => ?_⟩
    have b15 := (((b1.trans b2).trans b3).trans b4).trans b5
    dsimp only [gName]
    refine ⟨⟨_, rfl⟩, 8, rfl, by decide, by decide, fun D hD => lc_it (walk_rng (n := 8)) (fun i H' => But pu H H' ∧ PU H' pu ∧ ∃ bs : List Nat, H' D = some (.lst (bs.map fun b => V.str ⟨#[b]⟩)) ∧ bs.length = i ∧ ∀ x ∈ bs, 97 ≤ x ∧ x ≤ 122) ?_ ?_ ?_ ?_⟩
    · exact ⟨b15.same (same_new hD), p5.mono (same_new hD), [], upd_same, rfl, fun x hx => by cases hx⟩
    · intros; trivial
    · rintro i x H6 H7 hi ⟨b6, p6, bs, e6, l6, h6⟩ ⟨rfl, rfl⟩
      refine ⟨rfl, _, rfl, _, rfl, pu, 26, rfl, p6, by decide, by decide, fun d H8 b8 p8 hd => ?_⟩
      have hDH : H D = none := b15.none (p5.ne hD) hD
      have e8 := b8 _ _ (hpu.ne hDH) e6
      refine ⟨_, _, _, rfl, rfl, abc_len, atI_nat (abc d hd), _, e8, szL _ (by rw [List.length_map]; omega), (b6.trans b8).upd_of hDH, p8.upd (hpu.ne hDH), bs ++ [97 + d], ?_, ?_, fun x hx => ?_⟩
      · rw [upd_same, List.map_append]
        rfl
      · rw [List.length_append, l6]
        rfl
      · rcases List.mem_append.mp hx with hx | hx
        · exact h6 x hx
        · have : x = 97 + d := by simpa using hx
          omega
    · rintro H6 ⟨b6, p6, bs, e6, l6, h6⟩
      refine ⟨_, D, bs.map fun b => (⟨#[b]⟩ : Str), rfl, rfl, .inl (SqL.of ?_), ?_, ?_⟩
      · rw [List.map_map]
        exact e6
      · have e9 : ∀ l : List Nat, ((l.map fun b => (⟨#[b]⟩ : Str)).map fun x => x.length).sum = l.length := fun l => by
          induction l with
          | nil => rfl
          | cons a l ih =>
            rw [List.map_cons, List.map_cons, List.sum_cons, ih, List.length_cons]
            show 1 + _ = _
            omega
        rw [e9, List.length_map, show (Str.ofString "").length = 0 by decide +kernel]
        omega
      · rw [join_one]
        dsimp only [gName]
        refine ⟨szk rfl, fun N hN => ?_⟩
        dsimp only [gName]
        have hNH : H N = none := b6.none (p6.ne hN) hN
        have b7 := b6.same (same_new (o := .lst []) hN)
        have p7 := p6.mono (same_new (o := .lst []) hN)
        have e7 : (upd H6 N (.lst [])) N = some (.lst []) := upd_same
        generalize upd H6 N (.lst []) = H7 at b7 p7 e7 ⊢
        have eb : ∃ al : Bool, (decide (V.int (d1 : Int) = V.int 0)) = al := ⟨_, rfl⟩
        obtain ⟨al, eal⟩ := eb
        rw [eal]
        refine ⟨_, rfl, 8, rfl, by decide, by decide, for_it (walk_rng (n := 8)) (fun i σ H' => (∃ u, σ = [some (.ref pu), some (.int 8), some (.str (Str.ofString "abcdefghijklmnopqrstuvwxyz")), some (.bl al), some (.int (d2 : Int)), some (.int (1 + (d3 : Int))), some (.int (d4 : Int)), some (.int (d5 : Int)), some (.str (St_ bs)), some (.ref N), u]) ∧ But pu H H' ∧ PU H' pu ∧ H' N = some (.lst (((List.range i).map fun k => St_ (nmL bs al d2 (d3 + 1) d4 d5 k)).map V.str))) ?_ ?_ ?_ ?_⟩
        · exact ⟨⟨_, rfl⟩, b7, p7, e7⟩
        · intros; trivial
        · rintro i x σ H9 H8 hi ⟨⟨u, rfl⟩, b8, p8, e8⟩ ⟨rfl, rfl⟩
          have lz : (List.map V.str ((List.range i).map fun k => St_ (nmL bs al d2 (d3 + 1) d4 d5 k))).length < sizeLine := szL _ (by rw [List.length_map, List.length_map, List.length_range]; omega)
          have zb : (St_ bs).length ≤ sizeLine := sz _ (by rw [St_len]; omega)
          have fin : ∀ z : Str, z = St_ (nmL bs al d2 (d3 + 1) d4 d5 i) → But pu H (upd H8 N (.lst (List.map V.str ((List.range i).map fun k => St_ (nmL bs al d2 (d3 + 1) d4 d5 k)) ++ [V.str z]))) ∧ PU (upd H8 N (.lst (List.map V.str ((List.range i).map fun k => St_ (nmL bs al d2 (d3 + 1) d4 d5 k)) ++ [V.str z]))) pu ∧ (upd H8 N (.lst (List.map V.str ((List.range i).map fun k => St_ (nmL bs al d2 (d3 + 1) d4 d5 k)) ++ [V.str z]))) N = some (.lst (((List.range (i + 1)).map fun k => St_ (nmL bs al d2 (d3 + 1) d4 d5 k)).map V.str)) := fun z ez => by
            refine ⟨b8.upd_of hNH, p8.upd (hpu.ne hNH), ?_⟩
            rw [upd_same, ez, List.range_succ, List.map_append, List.map_append]
            rfl
          refine ⟨_, rfl, al, rfl, iteB (fun hal => ?_) (fun hal => ?_)⟩
          · subst hal
            have hd45 : d4 < 8 := by omega
            have em : ((d5 : Int) + (i : Int)).fmod 26 = (((d5 + i) % 26 : Nat) : Int) := by
              rw [Int.fmod_eq_emod_of_nonneg _ (by decide)]
              push_cast
              rfl
            refine ⟨_, rfl, tyL e8, _, rfl, _, rfl, _, rfl, _, rfl, zb, _, rfl, _, rfl, _, rfl, _, _, rfl, rfl, _, _, rfl, rfl, (by decide : (26 : Int) ≠ 0), _, _, _, rfl, rfl, abc_len, (by rw [em]; exact atI_nat (abc _ (Nat.mod_lt _ (by decide)))), _, _, rfl, rfl, ?_, ?_⟩
            · rw [cutS_take _ (by omega), St_len, List.length_take]
              exact sz _ (by show _ + 1 ≤ _; omega)
            · have ec : cutS (St_ bs) (some ((d4 : Int) + 1)) (some (1 + (d3 : Int))) = St_ ((bs.drop (d4 + 1)).take (d3 + 1 - (d4 + 1))) := by
                rw [show (d4 : Int) + 1 = ((d4 + 1 : Nat) : Int) by omega, show 1 + (d3 : Int) = ((d3 + 1 : Nat) : Int) by omega, cutS_mid _ _ (by omega) (by omega)]
              have ez : cutS (St_ bs) none (some (d4 : Int)) ++ (⟨#[97 + (d5 + i) % 26]⟩ : Str) ++ cutS (St_ bs) (some ((d4 : Int) + 1)) (some (1 + (d3 : Int))) = St_ (nmL bs true d2 (d3 + 1) d4 d5 i) := by
                rw [ec, cutS_take _ (by omega), show (⟨#[97 + (d5 + i) % 26]⟩ : Str) = St_ [97 + (d5 + i) % 26] from rfl, St_app, St_app]
                rfl
              refine ⟨_, rfl, _, rfl, _, _, rfl, rfl, _, rfl, _, rfl, _, rfl, _, rfl, zb, _, _, rfl, rfl, ?_, N, _, _, rfl, rfl, e8, lz, ⟨_, rfl⟩, fin _ ez⟩
              rw [ec, cutS_take _ (by omega), show (⟨#[97 + (d5 + i) % 26]⟩ : Str) = St_ [97 + (d5 + i) % 26] from rfl, St_app, St_len, St_len, List.length_append, List.length_take, List.length_take, List.length_drop]
              exact sz _ (by simp only [List.length_cons, List.length_nil]; omega)
          · subst hal
            have em : 1 + ((i : Int) + (d2 : Int)).fmod 8 = ((1 + (i + d2) % 8 : Nat) : Int) := by
              rw [Int.fmod_eq_emod_of_nonneg _ (by decide)]
              push_cast
              rfl
            have ez : cutS (St_ bs) none (some (1 + ((i : Int) + (d2 : Int)).fmod 8)) = St_ (nmL bs false d2 (d3 + 1) d4 d5 i) := by
              rw [em, cutS_take _ (by omega)]
              rfl
            exact ⟨_, rfl, tyL e8, _, rfl, _, rfl, _, rfl, _, _, rfl, rfl, _, _, rfl, rfl, (by decide : (8 : Int) ≠ 0), _, _, rfl, rfl, _, rfl, _, rfl, zb, N, _, _, rfl, rfl, e8, lz, ⟨_, rfl⟩, fin _ ez⟩
        · rintro σ H8 ⟨⟨u, rfl⟩, b8, p8, e8⟩
          have hlt : d4 < d3 + 1 := hd4
          refine ⟨_, rfl, k N _ H8 b8 p8 hNH e8 (by rw [List.length_map, List.length_range]) (fun z hz => ?_) ?_⟩
          · obtain ⟨j, hj, ej⟩ := List.mem_map.mp hz
            rw [← ej]
            exact (nmL_ok l6 h6 hlt (by omega)).name
          · rw [List.nodup_iff_pairwise_ne, List.pairwise_map]
            refine (List.nodup_range (n := 8)).imp_of_mem ?_
            intro x y hx hy hne e
            exact hne (nmL_inj l6 hlt (by omega) (List.mem_range.mp hx) (List.mem_range.mp hy) (St_inj e))
end
end K63
set_option maxRecDepth 100000
set_option maxHeartbeats 2000000
namespace K63
open PySem PySem.Spec PyProof.Rows L2 TB TM
def spWorld : Sp := fun vs H Q _ => ∃ pu : Addr, vs = [.ref pu] ∧ PU H pu ∧ ∀ (c l : Addr) (xs : List V) (n m : Nat) (ps : List (List Nat)) (H' : Hp), But pu H H' → PU H' pu → H c = none → H l = none → H' c = some (.lst [.int (n : Int), .int (m : Int), .ref l]) → H' l = some (.lst xs) → Rw H' xs ps → Good n m ps → Q (.ref c) H'
theorem PU.tps {H H' : Hp} {pu : Addr} (h : PU H pu) (b : But pu H H') : Tps H H' := by
  obtain ⟨_, _, _, _, e, _⟩ := h
  exact Tps.but e b
section
variable {P : Program} {w : World} {K : PySem.W.Frag} {mg : Str → Option Value} {base : Heap}
theorem dn__law_world (c : Ctx K mg) : Dn P w K mg base CX0 4 "_law_world" ["purse"] spWorld := by
  have f_range := c.f_range
  obtain ⟨f___law_position, fd__law_position, g__law_position, k__law_position, F__law_position, b__law_position⟩ := (dn__law_position (P := P) (w := w) (base := base) c).ex
  obtain ⟨f___law_draw, fd__law_draw, g__law_draw, k__law_draw, F__law_draw, b__law_draw⟩ := (dn__law_draw (P := P) (w := w) (base := base) c).ex
  have sc := sc__law_world
  obtain ⟨fd, F⟩ := c.D__law_world
  refine ⟨_, fd, c.g__law_world, F.kp, F.ok sc (fun vs H Q E h => ?_) (fun cdv A outer s H vs Q E hr h => ⟨_, PSs.nox ((pss_cons (ps_set (i := 1) sc.nd rfl (by first | exact Or.inl rfl | exact Or.inr rfl) (pe_call F__law_draw (hr.mono (by decide)) (by rfl) g__law_draw k__law_draw b__law_draw nil_v pass0 (pa_cons (pv 0) (pa_cons pe_int pa_nil))))
  (pss_cons (ps_set (i := 2) sc.nd rfl (by first | exact Or.inl rfl | exact Or.inr rfl) pe_int)
  (pss_cons (ps_if (pt_cmpR op_lt (pv 1) pe_int (nomark _)) (pss_cons (ps_set (i := 3) sc.nd rfl (by first | exact Or.inl rfl | exact Or.inr rfl) (pe_op op_add pe_int (pe_call F__law_draw (hr.mono (by decide)) (by rfl) g__law_draw k__law_draw b__law_draw nil_v pass0 (pa_cons (pv 0) (pa_cons pe_int pa_nil)))))
  (pss_one (ps_set (i := 4) sc.nd rfl (by first | exact Or.inl rfl | exact Or.inr rfl) (pe_call F__law_draw (hr.mono (by decide)) (by rfl) g__law_draw k__law_draw b__law_draw nil_v pass0 (pa_cons (pv 0) (pa_cons pe_int pa_nil)))))) (pss_one (ps_if (pt_cmpR op_eq (pv 1) pe_int (nomark _)) (pss_cons (ps_set (i := 3) sc.nd rfl (by first | exact Or.inl rfl | exact Or.inr rfl) pe_int)
  (pss_one (ps_set (i := 4) sc.nd rfl (by first | exact Or.inl rfl | exact Or.inr rfl) (pe_op op_add pe_int (pe_call F__law_draw (hr.mono (by decide)) (by rfl) g__law_draw k__law_draw b__law_draw nil_v pass0 (pa_cons (pv 0) (pa_cons pe_int pa_nil))))))) (pss_one (ps_if (pt_cmpR op_eq (pv 1) pe_int (nomark _)) (pss_cons (ps_set (i := 3) sc.nd rfl (by first | exact Or.inl rfl | exact Or.inr rfl) (pe_op op_add pe_int (pe_call F__law_draw (hr.mono (by decide)) (by rfl) g__law_draw k__law_draw b__law_draw nil_v pass0 (pa_cons (pv 0) (pa_cons pe_int pa_nil)))))
  (pss_one (ps_set (i := 4) sc.nd rfl (by first | exact Or.inl rfl | exact Or.inr rfl) (pe_op op_add pe_int (pe_call F__law_draw (hr.mono (by decide)) (by rfl) g__law_draw k__law_draw b__law_draw nil_v pass0 (pa_cons (pv 0) (pa_cons pe_int pa_nil))))))) (pss_one (ps_if (pt_cmpR op_lt (pv 1) pe_int (nomark _)) (pss_cons (ps_set (i := 5) sc.nd rfl (by first | exact Or.inl rfl | exact Or.inr rfl) (pe_ix (ix_listK (K := K) rfl) (pe_lst (pa_cons (pe_tup (pa_cons pe_int (pa_cons pe_int pa_nil))) (pa_cons (pe_tup (pa_cons pe_int (pa_cons pe_int pa_nil))) (pa_cons (pe_tup (pa_cons pe_int (pa_cons pe_int pa_nil))) (pa_cons (pe_tup (pa_cons pe_int (pa_cons pe_int pa_nil))) (pa_cons (pe_tup (pa_cons pe_int (pa_cons pe_int pa_nil))) pa_nil)))))) (pe_call F__law_draw (hr.mono (by decide)) (by rfl) g__law_draw k__law_draw b__law_draw nil_v pass0 (pa_cons (pv 0) (pa_cons pe_int pa_nil))) (fun _ _ => rfl)))
  (pss_cons (ps_set (i := 3) sc.nd rfl (by first | exact Or.inl rfl | exact Or.inr rfl) (pe_ix (ix_tupK (K := K) rfl) (pv 5) pe_int (fun _ _ => rfl)))
  (pss_cons (ps_set (i := 2) sc.nd rfl (by first | exact Or.inl rfl | exact Or.inr rfl) (pe_ix (ix_tupK (K := K) rfl) (pv 5) pe_int (fun _ _ => rfl)))
  (pss_one (ps_set (i := 4) sc.nd rfl (by first | exact Or.inl rfl | exact Or.inr rfl) (pe_op op_add pe_int (pe_call F__law_draw (hr.mono (by decide)) (by rfl) g__law_draw k__law_draw b__law_draw nil_v pass0 (pa_cons (pv 0) (pa_cons pe_int pa_nil))))))))) (pss_one (ps_if (pt_cmpR op_eq (pv 1) pe_int (nomark _)) (pss_cons (ps_set (i := 3) sc.nd rfl (by first | exact Or.inl rfl | exact Or.inr rfl) (pe_op op_add pe_int (pe_call F__law_draw (hr.mono (by decide)) (by rfl) g__law_draw k__law_draw b__law_draw nil_v pass0 (pa_cons (pv 0) (pa_cons pe_int pa_nil)))))
  (pss_one (ps_set (i := 4) sc.nd rfl (by first | exact Or.inl rfl | exact Or.inr rfl) pe_int))) (pss_cons (ps_set (i := 3) sc.nd rfl (by first | exact Or.inl rfl | exact Or.inr rfl) (pe_op op_add pe_int (pe_call F__law_draw (hr.mono (by decide)) (by rfl) g__law_draw k__law_draw b__law_draw nil_v pass0 (pa_cons (pv 0) (pa_cons pe_int pa_nil)))))
  (pss_one (ps_set (i := 4) sc.nd rfl (by first | exact Or.inl rfl | exact Or.inr rfl) pe_int))))))))))))
  (pss_one (ps_ret (pe_lst (pa_cons (pv 3) (pa_cons (pv 2) (pa_cons (pe_lc (own := [("k", 6)]) (tt := tYes) rfl sc.nd (pi_range1 (by rfl) f_range (pa_cons (pv 4) pa_nil)) (blkOk_by (own := [("k", 6)]) (N := ["purse", "choice", "group", "points", "count", "pair", "k"]) (sc := defScope s__law_world) (by decide +kernel)) (fun _ _ _ _ _ => (pg_name (i := 6) sc.nd rfl (by first | exact Or.inl rfl | exact Or.inr rfl))) (fun _ _ _ _ _ => pts_nil) (fun _ _ _ _ _ => (pe_call F__law_position (hr.mono (by decide)) (by rfl) g__law_position k__law_position b__law_position nil_v pass0 (pa_cons (pv 0) (pa_cons (pv 3) (pa_cons (pv 2) pa_nil)))))) pa_nil)))))))))), ?_⟩), F.bindsN fun _ _ _ _ _ _ us hl => match us, hl with | [_], _ => rfl⟩
  · obtain ⟨pu, rfl, _⟩ := h
    rfl
  · obtain ⟨pu, rfl, hpu, k⟩ := h
    refine ⟨_, rfl, pu, 16, rfl, hpu, by decide, by decide, fun ch H1 b1 p1 hch => ?_⟩
    dsimp only [gName]
    refine asgC ?_
    refine cut (a := tIfS _ _ _) (fun σ H' => ∃ (n m cc : Nat) (u v : Option V), σ = [some (.ref pu), some (.int (ch : Int)), some (.int (m : Int)), some (.int (n : Int)), some (.int (cc : Int)), u, v] ∧ But pu H H' ∧ PU H' pu ∧ 1 ≤ n ∧ n ≤ 24 ∧ 1 ≤ m ∧ m ∣ n ∧ cc ≤ 8) ?_ fun N hN => ?_
    · rintro σ H2 ⟨n, m, cc, u, v, rfl, b2, p2, h1, h2, h3, h4, h5⟩
      refine ⟨_, rfl, _, rfl, _, rfl, (cc : Int), rfl, by omega, by omega, fun D hD => ?_⟩
      refine lc_it (walk_rng (n := ((cc : Int)).toNat)) (fun i H' => But pu H H' ∧ PU H' pu ∧ ∃ acc ps, H' D = some (.lst acc) ∧ Rw H' acc ps ∧ ps.length = i ∧ (∀ p ∈ ps, IsP n p) ∧ ∀ p ∈ ps, KM m n p) ?_ ?_ ?_ ?_
      · exact ⟨b2.same (same_new hD), p2.mono (same_new hD), [], [], upd_same, Rw.nil, rfl, (fun p hp => by cases hp), (fun p hp => by cases hp)⟩
      · intros; trivial
      · rintro i x H4 H3 hi ⟨b3, p3, acc, ps, e3, r3, l3, g3, g4⟩ ⟨rfl, rfl⟩
        refine ⟨rfl, _, rfl, _, rfl, _, rfl, pu, n, m, rfl, p3, h1, by omega, h3, h4, fun c p H5 b5 p5 tc hc hP hK => ?_⟩
        have hDH : H D = none := b2.none (p2.ne hD) hD
        have e5 := b5 _ _ (hpu.ne hDH) e3
        have r5 : Rw H5 acc ps := (p3.tps b5).rw r3
        refine ⟨acc, e5, szL _ (by rw [r5.1]; omega), (b3.trans b5).upd_of hDH, p5.upd (hpu.ne hDH), _, ps ++ [p], upd_same, ?_, ?_, ?_, ?_⟩
        · exact (Tps.upd e5).rw (r5.snoc tc)
        · rw [List.length_append, l3]
          rfl
        · intro q hq
          rcases List.mem_append.mp hq with hq | hq
          · exact g3 q hq
          · rw [List.mem_singleton.mp hq]
            exact hP
        · intro q hq
          rcases List.mem_append.mp hq with hq | hq
          · exact g4 q hq
          · rw [List.mem_singleton.mp hq]
            exact hK
      · rintro H3 ⟨b3, p3, acc, ps, e3, r3, l3, g3, g4⟩
        have hDH : H D = none := b2.none (p2.ne hD) hD
        refine ⟨szk rfl, fun c hc => ?_⟩
        have s4 := same_new (o := .lst [.int (n : Int), .int (m : Int), .ref D]) hc
        exact k c D acc n m ps _ (b3.same s4) (p3.mono s4) (b3.none (p3.ne hc) hc) hDH upd_same (s4 _ _ e3) (r3.mono s4) ⟨h1, h2, h3, h4, by omega, g3, g4⟩
    · have nx : ∀ (n m cc : Nat) (u v : Option V) (H' : Hp), But pu H H' → PU H' pu → 1 ≤ n → n ≤ 24 → 1 ≤ m → m ∣ n → cc ≤ 8 → N [some (.ref pu), some (.int (ch : Int)), some (.int (m : Int)), some (.int (n : Int)), some (.int (cc : Int)), u, v] H' := fun n m cc u v H' b p h1 h2 h3 h4 h5 => hN _ _ ⟨n, m, cc, u, v, rfl, b, p, h1, h2, h3, h4, h5⟩
      have one : ∀ (a d : Nat), (V.int ((a : Int) + (d : Int))) = V.int ((a + d : Nat) : Int) := fun a d => by rw [show (a : Int) + (d : Int) = ((a + d : Nat) : Int) by omega]
      refine ⟨_, rfl, _, _, rfl, rfl, _, rfl, iteD (fun h0 => ?_) (fun h0 => ?_)⟩
      · refine ⟨_, rfl, pu, 4, rfl, p1, by decide, by decide, fun d H2 b2 p2 hd => ⟨_, _, rfl, rfl, ?_⟩⟩
        refine ⟨_, rfl, pu, 4, rfl, p2, by decide, by decide, fun e H3 b3 p3 he => ?_⟩
        have z := nx (1 + d) 1 e none none H3 ((b1.trans b2).trans b3) p3 (by omega) (by omega) (by omega) (Nat.one_dvd _) (by omega)
        rw [← one] at z
        exact z
      · refine ⟨_, rfl, rfl, _, rfl, iteD (fun h1 => ?_) (fun h1 => ?_)⟩
        · refine asgC ?_
          refine ⟨_, rfl, pu, 2, rfl, p1, by decide, by decide, fun d H2 b2 p2 hd => ⟨_, _, rfl, rfl, ?_⟩⟩
          have z := nx 5 1 (1 + d) none none H2 (b1.trans b2) p2 (by omega) (by omega) (by omega) (Nat.one_dvd _) (by omega)
          rw [← one] at z
          exact z
        · refine ⟨_, rfl, rfl, _, rfl, iteD (fun h2 => ?_) (fun h2 => ?_)⟩
          · refine ⟨_, rfl, pu, 4, rfl, p1, by decide, by decide, fun d H2 b2 p2 hd => ⟨_, _, rfl, rfl, ?_⟩⟩
            refine ⟨_, rfl, pu, 5, rfl, p2, by decide, by decide, fun e H3 b3 p3 he => ⟨_, _, rfl, rfl, ?_⟩⟩
            have z := nx (1 + d) 1 (4 + e) none none H3 ((b1.trans b2).trans b3) p3 (by omega) (by omega) (by omega) (Nat.one_dvd _) (by omega)
            rw [← one, ← one] at z
            exact z
          · refine ⟨_, rfl, _, _, rfl, rfl, _, rfl, iteD (fun h3 => ?_) (fun h3 => ?_)⟩
            · refine ⟨szk rfl, fun q1 hq1 => ⟨szk rfl, fun q2 hq2 => ⟨szk rfl, fun q3 hq3 => ⟨szk rfl, fun q4 hq4 => ⟨szk rfl, fun q5 hq5 => ⟨szk rfl, fun L hL => ?_⟩⟩⟩⟩⟩⟩
              have s1 := same_new (o := .tup [.int 4, .int 2]) hq1
              have s2 := same_new (o := .tup [.int 6, .int 2]) hq2
              have s3 := same_new (o := .tup [.int 6, .int 3]) hq3
              have s4 := same_new (o := .tup [.int 8, .int 4]) hq4
              have s5 := same_new (o := .tup [.int 8, .int 2]) hq5
              have s6 := same_new (o := .lst [.ref q1, .ref q2, .ref q3, .ref q4, .ref q5]) hL
              have f1 := s6 _ _ (s5 _ _ (s4 _ _ (s3 _ _ (s2 _ _ (upd_same (H := H1) (a := q1) (o := .tup [.int 4, .int 2]))))))
              have f2 := s6 _ _ (s5 _ _ (s4 _ _ (s3 _ _ (upd_same (H := upd H1 q1 (.tup [.int 4, .int 2])) (a := q2) (o := .tup [.int 6, .int 2])))))
              have f3 := s6 _ _ (s5 _ _ (s4 _ _ (upd_same (H := upd (upd H1 q1 (.tup [.int 4, .int 2])) q2 (.tup [.int 6, .int 2])) (a := q3) (o := .tup [.int 6, .int 3]))))
              have f4 := s6 _ _ (s5 _ _ (upd_same (H := upd (upd (upd H1 q1 (.tup [.int 4, .int 2])) q2 (.tup [.int 6, .int 2])) q3 (.tup [.int 6, .int 3])) (a := q4) (o := .tup [.int 8, .int 4])))
              have f5 := s6 _ _ (upd_same (H := upd (upd (upd (upd H1 q1 (.tup [.int 4, .int 2])) q2 (.tup [.int 6, .int 2])) q3 (.tup [.int 6, .int 3])) q4 (.tup [.int 8, .int 4])) (a := q5) (o := .tup [.int 8, .int 2]))
              have sL := ((((s1.trans s2).trans s3).trans s4).trans s5).trans s6
              have eL : (upd (upd (upd (upd (upd (upd H1 q1 (.tup [.int 4, .int 2])) q2 (.tup [.int 6, .int 2])) q3 (.tup [.int 6, .int 3])) q4 (.tup [.int 8, .int 4])) q5 (.tup [.int 8, .int 2])) L (.lst [.ref q1, .ref q2, .ref q3, .ref q4, .ref q5])) L = some (.lst [.ref q1, .ref q2, .ref q3, .ref q4, .ref q5]) := upd_same
              dsimp only
              generalize upd (upd (upd (upd (upd (upd H1 q1 (.tup [.int 4, .int 2])) q2 (.tup [.int 6, .int 2])) q3 (.tup [.int 6, .int 3])) q4 (.tup [.int 8, .int 4])) q5 (.tup [.int 8, .int 2])) L (.lst [.ref q1, .ref q2, .ref q3, .ref q4, .ref q5]) = H2 at f1 f2 f3 f4 f5 sL eL ⊢
              have p2 := p1.mono sL
              refine ⟨_, rfl, pu, 5, rfl, p2, by decide, by decide, fun d H3 b3 p3 hd => ?_⟩
              have t3 := p2.tps b3
              have eL3 : H3 L = some (.lst [.ref q1, .ref q2, .ref q3, .ref q4, .ref q5]) := by
                refine b3 _ _ ?_ eL
                intro z
                obtain ⟨_, _, _, _, e, _⟩ := p2
                rw [← z, eL] at e
                injection e with e
                injection e with e
                injection e with e
                cases e
              obtain ⟨q, a, b, hq, ht, g1, g2, g3, g4⟩ : ∃ (q : Addr) (a b : Nat), ([.ref q1, .ref q2, .ref q3, .ref q4, .ref q5] : List V)[d]? = some (.ref q) ∧ H3 q = some (.tup [.int (a : Int), .int (b : Int)]) ∧ 1 ≤ a ∧ a ≤ 24 ∧ 1 ≤ b ∧ b ∣ a := by
                match d, hd with
                | 0, _ => exact ⟨q1, 4, 2, rfl, t3 _ _ f1, by decide, by decide, by decide, by decide⟩
                | 1, _ => exact ⟨q2, 6, 2, rfl, t3 _ _ f2, by decide, by decide, by decide, by decide⟩
                | 2, _ => exact ⟨q3, 6, 3, rfl, t3 _ _ f3, by decide, by decide, by decide, by decide⟩
                | 3, _ => exact ⟨q4, 8, 4, rfl, t3 _ _ f4, by decide, by decide, by decide, by decide⟩
                | 4, _ => exact ⟨q5, 8, 2, rfl, t3 _ _ f5, by decide, by decide, by decide, by decide⟩
              refine ⟨L, _, _, _, rfl, rfl, SqL.of eL3, atI_nat hq, ?_⟩
              refine ⟨_, rfl, q, _, _, _, rfl, rfl, SqT.of ht, atI_nat (j := 0) rfl, ?_⟩
              refine ⟨_, rfl, q, _, _, _, rfl, rfl, SqT.of ht, atI_nat (j := 1) rfl, ?_⟩
              refine ⟨_, rfl, pu, 2, rfl, p3, by decide, by decide, fun e H4 b4 p4 he => ⟨_, _, rfl, rfl, ?_⟩⟩
              have z := nx a b (1 + e) (some (.ref q)) none H4 (((b1.same sL).trans b3).trans b4) p4 g1 g2 g3 g4 (by omega)
              rw [← one] at z
              exact z
            · refine ⟨_, rfl, rfl, _, rfl, iteD (fun h4 => ?_) (fun h4 => ?_)⟩
              · refine ⟨_, rfl, pu, 19, rfl, p1, by decide, by decide, fun d H2 b2 p2 hd => ⟨_, _, rfl, rfl, ?_⟩⟩
                have z := nx (6 + d) 1 1 none none H2 (b1.trans b2) p2 (by omega) (by omega) (by omega) (Nat.one_dvd _) (by omega)
                rw [← one] at z
                exact z
              · refine ⟨_, rfl, pu, 7, rfl, p1, by decide, by decide, fun d H2 b2 p2 hd => ⟨_, _, rfl, rfl, ?_⟩⟩
                have z := nx (6 + d) 1 2 none none H2 (b1.trans b2) p2 (by omega) (by omega) (by omega) (Nat.one_dvd _) (by omega)
                rw [← one] at z
                exact z
end
end K63
set_option maxRecDepth 100000
set_option maxHeartbeats 2000000
namespace K63
open PySem PySem.Spec PyProof.Rows L2 TB TM
/-- a position as data -/
def pd (p : List Nat) : PyData := .tuple (p.map fun (i : Nat) => PyData.int (i : Int))
theorem dp_nv {K : PySem.W.Frag} {H : Hp} : ∀ p : List Nat, DpAll K H (nv p) (p.map fun (i : Nat) => PyData.int (i : Int))
  | [] => .nil
  | a :: p => .cons (.int _) (dp_nv p)
theorem dp_tn {K : PySem.W.Frag} {H : Hp} {a : Addr} {p : List Nat} (h : Tn H a p) : Dp K H (.ref a) (pd p) := .tup (SqT.of h) (dp_nv p)
theorem lay_nv : ∀ p : List Nat, PyData.canLayAll0 (p.map fun (i : Nat) => PyData.int (i : Int)) = true
  | [] => rfl
  | a :: p => by
    show (true && PyData.canLayAll0 _) = true
    rw [lay_nv p]
    rfl
theorem dep_nv : ∀ p : List Nat, PyData.depthAll (p.map fun (i : Nat) => PyData.int (i : Int)) = 0
  | [] => rfl
  | a :: p => by
    show max 0 (PyData.depthAll _) = 0
    rw [dep_nv p]
    rfl
theorem sh_pd (p : List Nat) : SeqAt.shaped (pd p) = true := by
  unfold SeqAt.shaped
  rw [Bool.and_eq_true]
  refine ⟨lay_nv p, decide_eq_true ?_⟩
  show PyData.depthAll _ + 1 ≤ 64
  rw [dep_nv]
  decide
theorem dp_rw {K : PySem.W.Frag} {H : Hp} : ∀ {xs : List V} {ps : List (List Nat)}, Rw H xs ps → DpAll K H xs (ps.map pd)
  | [], [], _ => .nil
  | [], _ :: _, h => by cases h.1
  | _ :: _, [], h => by cases h.1
  | x :: xs, p :: ps, h => by
    obtain ⟨a, e, t⟩ := h.2 0 p rfl
    have e' : x = .ref a := Option.some.inj e
    rw [e']
    refine .cons (dp_tn t) (dp_rw ⟨by have := h.1; simpa using this, fun i q hq => ?_⟩)
    exact h.2 (i + 1) q hq
theorem lay_ps : ∀ ps : List (List Nat), PyData.canLayAll0 (ps.map pd) = true
  | [] => rfl
  | p :: ps => by
    show (PyData.canLay0 (pd p) && PyData.canLayAll0 _) = true
    rw [lay_ps ps]
    show (PyData.canLayAll0 _ && true) = true
    rw [lay_nv]
    rfl
theorem dep_ps : ∀ ps : List (List Nat), PyData.depthAll (ps.map pd) ≤ 1
  | [] => by decide
  | p :: ps => by
    show max (PyData.depthAll _ + 1) (PyData.depthAll _) ≤ 1
    rw [dep_nv]
    have := dep_ps ps
    omega
theorem sh_ps (ps : List (List Nat)) : SeqAt.shaped (.list (ps.map pd)) = true := by
  unfold SeqAt.shaped
  rw [Bool.and_eq_true]
  refine ⟨lay_ps ps, decide_eq_true ?_⟩
  show PyData.depthAll _ + 1 ≤ 64
  have := dep_ps ps
  omega
theorem eqv_ps (ps : List (List Nat)) : PyData.eqv (.list (ps.map pd)) (.list []) = decide (ps = []) := by
  cases ps with
  | nil => rfl
  | cons p ps => rfl
section
variable {K : PySem.W.Frag} {H : Hp} {Q : VK}
theorem ne_nil {L E : Addr} {xs : List V} {ps : List (List Nat)} (hL : H L = some (.lst xs)) (r : Rw H xs ps) (hE : H E = some (.lst [])) (h : Q (.bl (!decide (ps = []))) H) : rNeD K (.ref L) (.ref E) H Q :=
  ⟨_, _, .lst (SqL.of hL) (dp_rw r), .lst (SqL.of hE) .nil, sh_ps ps, by decide, by rw [eqv_ps]; exact h⟩
theorem eq_nil {L E : Addr} {xs : List V} {ps : List (List Nat)} (hL : H L = some (.lst xs)) (r : Rw H xs ps) (hE : H E = some (.lst [])) (h : Q (.bl (decide (ps = []))) H) : rEqD K (.ref L) (.ref E) H Q :=
  ⟨_, _, .lst (SqL.of hL) (dp_rw r), .lst (SqL.of hE) .nil, sh_ps ps, by decide, by rw [eqv_ps]; exact h⟩
theorem ne_self {a b : Addr} {p : List Nat} (ha : Tn H a p) (hb : Tn H b p) (h : Q (.bl false) H) : rNeD K (.ref a) (.ref b) H Q := by
  refine ⟨_, _, dp_tn ha, dp_tn hb, sh_pd p, sh_pd p, ?_⟩
  rw [SeqAt.eqv_refl (pd p) (lay_nv p)]
  exact h
end
def spIsInt : Sp := fun vs H Q _ => ∃ i : Int, vs = [.int i] ∧ Q (.bl true) H
def spLawSame : Sp := fun vs H Q _ => ∃ i : Int, vs = [.int i, .int i] ∧ Q (.bl true) H
def spAlike : Sp := fun vs H Q _ => ∃ r : Option Nat, vs = [oV r, oV r] ∧ Q (.bl true) H
/-- what an answer must be -/
def RightOk (r : Option Nat) (near reach limit : Int) : Prop :=
  if 0 ≤ near ∧ near ≤ limit then ∃ d : Nat, r = some d ∧ (d : Int) = near else if limit < near ∨ limit ≤ reach then r = none else ∀ d : Nat, r = some d → reach < (d : Int) ∧ (d : Int) ≤ limit
def spRight : Sp := fun vs H Q _ => ∃ (r : Option Nat) (near reach limit : Int), vs = [oV r, .int near, .int reach, .int limit] ∧ RightOk r near reach limit ∧ Q (.bl true) H
/-- the triangle's law at one corner -/
def Tri (x y z : Option Nat) (limit : Int) : Prop := ∀ i j : Nat, x = some i → y = some j → (z = none → ¬ (i : Int) + (j : Int) ≤ limit) ∧ ∀ k, z = some k → (k : Int) ≤ (i : Int) + (j : Int)
def spTriangle : Sp := fun vs H Q _ => ∃ (l : Addr) (a b c : Option Nat) (limit : Int), vs = [.ref l, .int limit] ∧ H l = some (.lst [oV a, oV b, oV c]) ∧ Tri a b c limit ∧ Tri b c a limit ∧ Tri c a b limit ∧ Q (.bl true) H
def EdgeOk (b e : Nat) : Prop := e ≤ 12 ∧ (∀ i, i < e → b ^ (i + 1) ≤ 4096) ∧ (e < 12 → 4096 < b ^ (e + 1))
def spEdge : Sp := fun vs H Q _ => ∃ b : Nat, vs = [.int (b : Int)] ∧ b ≤ 1000 ∧ ∀ e : Nat, EdgeOk b e → Q (.int ((2 * e : Nat) : Int)) H
section
variable {P : Program} {w : World} {K : PySem.W.Frag} {mg : Str → Option Value} {base : Heap}
theorem dn__law_is_integer (c : Ctx K mg) : Dn P w K mg base CX0 1 "_law_is_integer" ["told"] spIsInt := by
  have f_bool := c.f_bool
  have f_int := c.f_int
  have f_isinstance := c.f_isinstance
  have sc := sc__law_is_integer
  obtain ⟨fd, F⟩ := c.D__law_is_integer
  refine ⟨_, fd, c.g__law_is_integer, F.kp, F.ok sc (fun vs H Q E h => ?_) (fun cdv A outer s H vs Q E hr h => ⟨_, PSs.nox ((pss_one (ps_ret (pe_and (pe_callB (call_isiK1 (K := K) rfl) (by rfl) f_isinstance (by decide +kernel) (pa_cons (pv 0) (pa_cons (pe_bltn (v := .ty "int") (by rfl) f_int boot_int rfl) pa_nil))) (pe_one (pe_not (pe_callB (call_isiK1 (K := K) rfl) (by rfl) f_isinstance (by decide +kernel) (pa_cons (pv 0) (pa_cons (pe_bltn (v := .ty "bool") (by rfl) f_bool boot_bool rfl) pa_nil))))))))), ?_⟩), F.bindsN fun _ _ _ _ _ _ us hl => match us, hl with | [_], _ => rfl⟩
  · obtain ⟨i, rfl, _⟩ := h
    rfl
  · obtain ⟨i, rfl, k⟩ := h
    exact ⟨_, rfl, _, _, _, _, true, rfl, .ty _, .base (.int i), kit_ty (by decide +kernel), _, rfl, _, rfl, _, _, _, _, false, rfl, .ty _, .base (.int i), kit_ty (by decide +kernel), _, rfl, k⟩
theorem dn__law_same (c : Ctx K mg) : Dn P w K mg base CX0 2 "_law_same" ["told", "due"] spLawSame := by
  obtain ⟨f___law_is_integer, fd__law_is_integer, g__law_is_integer, k__law_is_integer, F__law_is_integer, b__law_is_integer⟩ := (dn__law_is_integer (P := P) (w := w) (base := base) c).ex
  have sc := sc__law_same
  obtain ⟨fd, F⟩ := c.D__law_same
  refine ⟨_, fd, c.g__law_same, F.kp, F.ok sc (fun vs H Q E h => ?_) (fun cdv A outer s H vs Q E hr h => ⟨_, PSs.nox ((pss_one (ps_ret (pe_and (pe_call F__law_is_integer (hr.mono (by decide)) (by rfl) g__law_is_integer k__law_is_integer b__law_is_integer nil_v pass0 (pa_cons (pv 0) pa_nil)) (pe_one (pe_cmpR op_eq (pv 0) (pv 1) (nomark _))))))), ?_⟩), F.bindsN fun _ _ _ _ _ _ us hl => match us, hl with | [_, _], _ => rfl⟩
  · obtain ⟨i, rfl, _⟩ := h
    rfl
  · obtain ⟨i, rfl, k⟩ := h
    exact ⟨_, rfl, i, rfl, _, rfl, _, rfl, _, rfl, rfl, bl_of (decide_eq_true rfl) k⟩
theorem dn__law_alike (c : Ctx K mg) : Dn P w K mg base CX0 3 "_law_alike" ["told", "due"] spAlike := by
  obtain ⟨f___law_same, fd__law_same, g__law_same, k__law_same, F__law_same, b__law_same⟩ := (dn__law_same (P := P) (w := w) (base := base) c).ex
  have sc := sc__law_alike
  obtain ⟨fd, F⟩ := c.D__law_alike
  refine ⟨_, fd, c.g__law_alike, F.kp, F.ok sc (fun vs H Q E h => ?_) (fun cdv A outer s H vs Q E hr h => ⟨_, PSs.nox ((pss_cons (ps_if (pt_cmpR op_isN (pv 1) pe_non (nomark _)) (pss_one (ps_ret (pe_cmpR op_isN (pv 0) pe_non (nomark _)))) pss_nil)
  (pss_one (ps_ret (pe_call F__law_same (hr.mono (by decide)) (by rfl) g__law_same k__law_same b__law_same nil_v pass0 (pa_cons (pv 0) (pa_cons (pv 1) pa_nil))))))), ?_⟩), F.bindsN fun _ _ _ _ _ _ us hl => match us, hl with | [_, _], _ => rfl⟩
  · obtain ⟨r, rfl, _⟩ := h
    rfl
  · obtain ⟨r, rfl, k⟩ := h
    cases r with
    | none => exact ⟨_, rfl, rfl, _, rfl, iteD (fun _ => ⟨_, rfl, rfl, bl_of (decide_eq_true rfl) k⟩) (fun z => absurd rfl z)⟩
    | some d => exact ⟨_, rfl, rfl, _, rfl, iteD (fun z => by cases z) (fun _ => ⟨_, rfl, _, rfl, (d : Int), rfl, k⟩)⟩
theorem dn__law_edge (c : Ctx K mg) : Dn P w K mg base CX0 1 "_law_edge" ["steps"] spEdge := by
  have sc := sc__law_edge
  obtain ⟨fd, F⟩ := c.D__law_edge
  refine ⟨_, fd, c.g__law_edge, F.kp, F.ok sc (fun vs H Q E h => ?_) (fun cdv A outer s H vs Q E hr h => ⟨_, PSs.nox ((pss_cons (ps_set (i := 1) sc.nd rfl (by first | exact Or.inl rfl | exact Or.inr rfl) pe_int)
  (pss_cons (ps_set (i := 2) sc.nd rfl (by first | exact Or.inl rfl | exact Or.inr rfl) pe_int)
  (pss_cons (ps_while PassesOwn.never (PW.pt (pw_and (pt_cmpR op_lt (pv 2) pe_int (nomark _)) (pw_and1 (pt_cmpR op_le (pe_op op_mul (pv 1) (pv 0)) pe_int (nomark _))))) (pss_cons (ps_set (i := 1) sc.nd rfl (by first | exact Or.inl rfl | exact Or.inr rfl) (pe_op op_mul (pv 1) (pv 0)))
  (pss_one (ps_set (i := 2) sc.nd rfl (by first | exact Or.inl rfl | exact Or.inr rfl) (pe_op op_add (pv 2) pe_int)))))
  (pss_one (ps_ret (pe_op op_mul pe_int (pv 2)))))))), ?_⟩), F.bindsN fun _ _ _ _ _ _ us hl => match us, hl with | [_], _ => rfl⟩
  · obtain ⟨b, rfl, _⟩ := h
    rfl
  · obtain ⟨b, rfl, hb, k⟩ := h
    refine asgC (asgC ?_)
    refine cut (a := tWhile _ _) (fun σ H' => H' = H ∧ ∃ (e : Nat) (u : Option V), σ = [some (.int (b : Int)), u, some (.int (e : Int))] ∧ EdgeOk b e) ?_ fun N hN => ?_
    · rintro σ H' ⟨rfl, e, u, rfl, he⟩
      exact ⟨_, rfl, _, _, rfl, rfl, (.inl (by decide)), k e he⟩
    · refine ⟨fun m σ H' => H' = H ∧ ∃ e : Nat, m = 12 - e ∧ e ≤ 12 ∧ σ = [some (.int (b : Int)), some (.int ((b ^ e : Nat) : Int)), some (.int (e : Int))] ∧ ∀ i, i < e → b ^ (i + 1) ≤ 4096, ⟨12, rfl, 0, rfl, by decide, rfl, fun i hi => by omega⟩, ?_⟩
      rintro m σ H' ⟨rfl, e, rfl, h12, rfl, hle⟩
      have ep : ((b ^ e : Nat) : Int) * (b : Int) = ((b ^ (e + 1) : Nat) : Int) := by
        rw [Nat.pow_succ]
        push_cast
        rfl
      refine ⟨_, rfl, _, _, rfl, rfl, _, rfl, iteD (fun h0 => ?_) (fun h0 => ?_)⟩
      · refine ⟨_, rfl, _, rfl, _, _, rfl, rfl, (.inr (by constructor <;> omega)), _, _, rfl, rfl, _, rfl, iteD (fun h1 => ?_) (fun h1 => ?_)⟩
        · rw [ep] at h1
          refine ⟨fun σ' H2 => H2 = H' ∧ σ' = [some (.int (b : Int)), some (.int ((b ^ (e + 1) : Nat) : Int)), some (.int ((e + 1 : Nat) : Int))], ?_, ?_⟩
          · rintro σ' H2 ⟨rfl, rfl⟩
            refine ⟨12 - (e + 1), by omega, rfl, e + 1, rfl, by omega, rfl, fun i hi => ?_⟩
            by_cases z : i = e
            · subst z
              omega
            · exact hle i (by omega)
          · refine ⟨_, rfl, _, rfl, _, _, rfl, rfl, (.inr (by constructor <;> omega)), _, rfl, _, _, rfl, rfl, rfl, ?_⟩
            show [some (V.int (b : Int)), some (V.int (((b ^ e : Nat) : Int) * (b : Int))), some (V.int ((e : Int) + 1))] = _
            rw [ep]
            rfl
        · rw [ep] at h1
          exact hN _ _ ⟨rfl, e, _, rfl, by omega, hle, fun _ => by omega⟩
      · exact hN _ _ ⟨rfl, e, _, rfl, by omega, hle, fun z => absurd z (by omega)⟩
theorem dn__law_right (c : Ctx K mg) : Dn P w K mg base CX0 2 "_law_right" ["told", "near", "reach", "limit"] spRight := by
  obtain ⟨f___law_is_integer, fd__law_is_integer, g__law_is_integer, k__law_is_integer, F__law_is_integer, b__law_is_integer⟩ := (dn__law_is_integer (P := P) (w := w) (base := base) c).ex
  have sc := sc__law_right
  obtain ⟨fd, F⟩ := c.D__law_right
  refine ⟨_, fd, c.g__law_right, F.kp, F.ok sc (fun vs H Q E h => ?_) (fun cdv A outer s H vs Q E hr h => ⟨_, PSs.nox ((pss_cons (ps_if (PW.pt (pw_and (pt_cmpR op_notN (pv 0) pe_non (nomark _)) (pw_and1 (pt_not (pt_val (pe_call F__law_is_integer (hr.mono (by decide)) (by rfl) g__law_is_integer k__law_is_integer b__law_is_integer nil_v pass0 (pa_cons (pv 0) pa_nil))))))) (pss_one (ps_ret pe_bl)) pss_nil)
  (pss_cons (ps_if (pt_chain op_le op_le pe_int (pv 1) (pv 3)) (pss_one (ps_ret (pe_cmpR op_eq (pv 0) (pv 1) (nomark _)))) pss_nil)
  (pss_cons (ps_if (PW.pt (pw_or (pt_cmpR op_gt (pv 1) (pv 3) (nomark _)) (pw_or1 (pt_cmpR op_ge (pv 2) (pv 3) (nomark _))))) (pss_one (ps_ret (pe_cmpR op_isN (pv 0) pe_non (nomark _)))) pss_nil)
  (pss_one (ps_ret (pe_or (pe_cmpR op_isN (pv 0) pe_non (nomark _)) (pe_one (pe_chain op_lt op_le (pv 2) (pv 0) (pv 3)))))))))), ?_⟩), F.bindsN fun _ _ _ _ _ _ us hl => match us, hl with | [_, _, _, _], _ => rfl⟩
  · obtain ⟨r, near, reach, limit, rfl, _⟩ := h
    rfl
  · obtain ⟨r, near, reach, limit, rfl, ok, k⟩ := h
    unfold RightOk at ok
    cases r with
    | none =>
      refine ⟨_, rfl, rfl, _, rfl, iteN (fun z => absurd rfl z) (fun _ => ?_)⟩
      refine ⟨_, rfl, _, _, rfl, rfl, _, rfl, iteD (fun h0 => ?_) (fun h0 => ?_)⟩
      · refine ⟨_, rfl, _, _, rfl, rfl, _, rfl, iteD (fun h1 => ?_) (fun h1 => ?_)⟩
        · rw [if_pos ⟨h0, h1⟩] at ok
          obtain ⟨d, z, _⟩ := ok
          cases z
        · exact ⟨_, rfl, _, rfl, _, _, rfl, rfl, _, rfl, iteD (fun h2 => ⟨_, rfl, rfl, bl_of (decide_eq_true rfl) k⟩) (fun h2 => by omega)⟩
      · refine ⟨_, rfl, _, rfl, _, rfl, _, _, rfl, rfl, _, rfl, iteD (fun h2 => ⟨_, rfl, rfl, bl_of (decide_eq_true rfl) k⟩) (fun h2 => ?_)⟩
        refine ⟨_, rfl, _, rfl, _, _, rfl, rfl, _, rfl, iteD (fun h3 => ⟨_, rfl, rfl, bl_of (decide_eq_true rfl) k⟩) (fun h3 => ?_)⟩
        exact ⟨_, rfl, rfl, _, rfl, iteD (fun _ => k) (fun z => absurd rfl z)⟩
    | some d =>
      refine ⟨_, rfl, rfl, _, rfl, iteN (fun _ => ?_) (fun z => by cases z)⟩
      refine ⟨_, rfl, (d : Int), rfl, _, rfl, ?_⟩
      refine ⟨_, rfl, _, _, rfl, rfl, _, rfl, iteD (fun h0 => ?_) (fun h0 => ?_)⟩
      · refine ⟨_, rfl, _, _, rfl, rfl, _, rfl, iteD (fun h1 => ?_) (fun h1 => ?_)⟩
        · rw [if_pos ⟨h0, h1⟩] at ok
          obtain ⟨e, z, ee⟩ := ok
          have ed : d = e := Option.some.inj z
          rw [← ed] at ee
          exact ⟨_, rfl, _, rfl, rfl, bl_of (decide_eq_true (congrArg V.int ee)) k⟩
        · rw [if_neg (fun z => h1 z.2)] at ok
          refine ⟨_, rfl, _, rfl, _, _, rfl, rfl, _, rfl, iteD (fun h2 => ?_) (fun h2 => by omega)⟩
          rw [if_pos (.inl h2)] at ok
          cases ok
      · rw [if_neg (fun z => h0 z.1)] at ok
        refine ⟨_, rfl, _, rfl, _, rfl, _, _, rfl, rfl, _, rfl, iteD (fun h2 => ?_) (fun h2 => ?_)⟩
        · rw [if_pos (.inl h2)] at ok
          cases ok
        · refine ⟨_, rfl, _, rfl, _, _, rfl, rfl, _, rfl, iteD (fun h3 => ?_) (fun h3 => ?_)⟩
          · rw [if_pos (.inr h3)] at ok
            cases ok
          · rw [if_neg (fun z => z.elim h2 h3)] at ok
            obtain ⟨o1, o2⟩ := ok d rfl
            refine ⟨_, rfl, rfl, _, rfl, iteD (fun z => by cases z) (fun _ => ?_)⟩
            exact ⟨_, rfl, _, rfl, _, _, rfl, rfl, _, rfl, iteD (fun _ => ⟨_, rfl, _, _, rfl, rfl, bl_of (decide_eq_true o2) k⟩) (fun z => absurd o1 z)⟩
theorem dn__law_triangle (c : Ctx K mg) : Dn P w K mg base CX0 1 "_law_triangle" ["sides", "limit"] spTriangle := by
  have f_range := c.f_range
  have sc := sc__law_triangle
  obtain ⟨fd, F⟩ := c.D__law_triangle
  refine ⟨_, fd, c.g__law_triangle, F.kp, F.ok sc (fun vs H Q E h => ?_) (fun cdv A outer s H vs Q E hr h => ⟨_, PSs.nox ((pss_cons (ps_for PassesOwn.never rfl (pi_range1 (by rfl) f_range (pa_cons pe_int pa_nil)) (pg_name (i := 2) sc.nd rfl (by first | exact Or.inl rfl | exact Or.inr rfl)) (pss_cons (ps_set (i := 3) sc.nd rfl (by first | exact Or.inl rfl | exact Or.inr rfl) (pe_ix (ix_listK (K := K) rfl) (pv 0) (pv 2) (fun _ _ => rfl)))
  (pss_cons (ps_set (i := 4) sc.nd rfl (by first | exact Or.inl rfl | exact Or.inr rfl) (pe_ix (ix_listK (K := K) rfl) (pv 0) (pe_op op_modN (pe_op op_add (pv 2) pe_int) pe_int) (fun _ _ => rfl)))
  (pss_cons (ps_set (i := 5) sc.nd rfl (by first | exact Or.inl rfl | exact Or.inr rfl) (pe_ix (ix_listK (K := K) rfl) (pv 0) (pe_op op_modN (pe_op op_add (pv 2) pe_int) pe_int) (fun _ _ => rfl)))
  (pss_one (ps_if (PW.pt (pw_and (pt_cmpR op_notN (pv 3) pe_non (nomark _)) (pw_and1 (pt_cmpR op_notN (pv 4) pe_non (nomark _))))) (pss_cons (ps_if (PW.pt (pw_and (pt_cmpR op_isN (pv 5) pe_non (nomark _)) (pw_and1 (pt_cmpR op_le (pe_op op_add (pv 3) (pv 4)) (pv 1) (nomark _))))) (pss_one (ps_ret pe_bl)) pss_nil)
  (pss_one (ps_if (PW.pt (pw_and (pt_cmpR op_notN (pv 5) pe_non (nomark _)) (pw_and1 (pt_cmpR op_gt (pv 5) (pe_op op_add (pv 3) (pv 4)) (nomark _))))) (pss_one (ps_ret pe_bl)) pss_nil))) pss_nil))))))
  (pss_one (ps_ret pe_bl)))), ?_⟩), F.bindsN fun _ _ _ _ _ _ us hl => match us, hl with | [_, _], _ => rfl⟩
  · obtain ⟨l, a, b, c, limit, rfl, _⟩ := h
    rfl
  · obtain ⟨l, a, b, c0, limit, rfl, hl, t1, t2, t3, k⟩ := h
    refine ⟨3, rfl, by decide, by decide, for_it (walk_rng (n := 3)) (fun i σ H' => H' = H ∧ ∃ u1 u2 u3 u4, σ = [some (.ref l), some (.int limit), u1, u2, u3, u4]) ?_ ?_ ?_ ?_⟩
    · exact ⟨rfl, _, _, _, _, rfl⟩
    · intros; trivial
    · rintro i x σ H2 H1 hi ⟨rfl, u1, u2, u3, u4, rfl⟩ ⟨rfl, rfl⟩
      have em : ∀ j : Nat, ((i : Int) + (j : Int)).fmod 3 = (((i + j) % 3 : Nat) : Int) := fun j => by
        rw [Int.fmod_eq_emod_of_nonneg _ (by decide)]
        push_cast
        rfl
      obtain ⟨x, y, z, ex, ey, ez, tr⟩ : ∃ x y z : Option Nat, ([oV a, oV b, oV c0] : List V)[i]? = some (oV x) ∧ ([oV a, oV b, oV c0] : List V)[(i + 1) % 3]? = some (oV y) ∧ ([oV a, oV b, oV c0] : List V)[(i + 2) % 3]? = some (oV z) ∧ Tri x y z limit := by
        match i, hi with
        | 0, _ => exact ⟨a, b, c0, rfl, rfl, rfl, t1⟩
        | 1, _ => exact ⟨b, c0, a, rfl, rfl, rfl, t2⟩
        | 2, _ => exact ⟨c0, a, b, rfl, rfl, rfl, t3⟩
      refine ⟨_, rfl, _, rfl, l, _, _, _, rfl, rfl, SqL.of hl, atI_nat ex, ?_⟩
      refine ⟨_, rfl, _, rfl, _, _, rfl, rfl, _, _, rfl, rfl, (by decide : (3 : Int) ≠ 0), l, _, _, _, rfl, rfl, SqL.of hl, (by rw [show ((i : Int) + 1).fmod 3 = _ from em 1]; exact atI_nat ey), ?_⟩
      refine ⟨_, rfl, _, rfl, _, _, rfl, rfl, _, _, rfl, rfl, (by decide : (3 : Int) ≠ 0), l, _, _, _, rfl, rfl, SqL.of hl, (by rw [show ((i : Int) + 2).fmod 3 = _ from em 2]; exact atI_nat ez), ?_⟩
      have fin : ∀ v1 v2 v3 v4, (H1 = H1 ∧ ∃ u1 u2 u3 u4, [some (V.ref l), some (V.int limit), some v1, some v2, some v3, some v4] = [some (.ref l), some (.int limit), u1, u2, u3, u4]) := fun _ _ _ _ => ⟨rfl, _, _, _, _, rfl⟩
      cases x with
      | none => exact ⟨_, rfl, rfl, _, rfl, iteN (fun z => absurd rfl z) (fun _ => fin _ _ _ _)⟩
      | some i1 =>
        refine ⟨_, rfl, rfl, _, rfl, iteN (fun _ => ?_) (fun z => by cases z)⟩
        cases y with
        | none => exact ⟨_, rfl, rfl, _, rfl, iteN (fun z => absurd rfl z) (fun _ => fin _ _ _ _)⟩
        | some i2 =>
          refine ⟨_, rfl, rfl, _, rfl, iteN (fun _ => ?_) (fun z => by cases z)⟩
          obtain ⟨r1, r2⟩ := tr i1 i2 rfl rfl
          cases z with
          | none =>
            refine ⟨_, rfl, rfl, _, rfl, iteD (fun _ => ?_) (fun z => absurd rfl z)⟩
            refine ⟨_, rfl, _, rfl, _, _, rfl, rfl, _, rfl, _, _, rfl, rfl, _, rfl, iteD (fun z => absurd z (r1 rfl)) (fun _ => ?_)⟩
            exact ⟨_, rfl, rfl, _, rfl, iteN (fun z => absurd rfl z) (fun _ => fin _ _ _ _)⟩
          | some i3 =>
            refine ⟨_, rfl, rfl, _, rfl, iteD (fun z => by cases z) (fun _ => ?_)⟩
            refine ⟨_, rfl, rfl, _, rfl, iteN (fun _ => ?_) (fun z => by cases z)⟩
            have r3 := r2 i3 rfl
            exact ⟨_, rfl, _, rfl, _, rfl, _, _, rfl, rfl, _, _, rfl, rfl, _, rfl, iteD (fun z => by omega) (fun _ => fin _ _ _ _)⟩
    · rintro σ H1 ⟨rfl, u1, u2, u3, u4, rfl⟩
      exact k
end
end K63
set_option maxRecDepth 100000
set_option maxHeartbeats 2000000
namespace K63
open PySem PySem.Spec PyProof.Rows L2 TB TM
/-- the ball tells the distances up to r -/
def BallK (gs : List (List Nat)) (n : Nat) (kvs : List (List Key × V)) (r : Nat) : Prop := ∀ p, (∃ d : Nat, valV kvs (nk p) = some (.int (d : Int)) ∧ Ex gs d (List.range n) p ∧ d ≤ r) ∨ (valV kvs (nk p) = none ∧ ∀ j, j ≤ r → ¬ W gs j (List.range n) p)
/-- the ball as it is read: d ≤ 24, and what it lacks is farther than reach -/
def BallR (gs : List (List Nat)) (n : Nat) (kvs : List (List Key × V)) (reach : Nat) : Prop := ∀ p, (∃ d : Nat, valV kvs (nk p) = some (.int (d : Int)) ∧ Ex gs d (List.range n) p ∧ d ≤ 24) ∨ (valV kvs (nk p) = none ∧ ∀ j, j ≤ reach → ¬ W gs j (List.range n) p)
theorem putK_new {kvs : List (List Key × V)} {k : List Key} {v : V} (h : valV kvs k = none) : (putK kvs k v).length = kvs.length + 1 := by
  unfold putK
  rw [if_neg (by rw [valV_any, h]; intro z; cases z), List.length_append]
  rfl
/-- within a round: what of T was new stands in F -/
def RS (kvs : List (List Key × V)) (r : Nat) (T : List (List Nat)) (kvs' : List (List Key × V)) (F : List (List Nat)) : Prop :=
  (∀ p, valV kvs' (nk p) = if p ∈ F then some (.int ((r + 1 : Nat) : Int)) else valV kvs (nk p)) ∧ (∀ p, p ∈ F ↔ p ∈ T ∧ valV kvs (nk p) = none) ∧ kvs'.length = kvs.length + F.length ∧ F.length ≤ T.length
theorem RS.nil {kvs : List (List Key × V)} {r : Nat} : RS kvs r [] kvs [] := ⟨fun p => by simp, fun p => by simp, rfl, Nat.le_refl _⟩
theorem RS.add {kvs kvs' : List (List Key × V)} {r : Nat} {T F : List (List Nat)} {p : List Nat} (h : RS kvs r T kvs' F) (hp : valV kvs' (nk p) = none) : RS kvs r (T ++ [p]) (putK kvs' (nk p) (.int ((r + 1 : Nat) : Int))) (F ++ [p]) := by
  obtain ⟨h1, h2, h3, h4⟩ := h
  have hpF : p ∉ F := fun z => by
    rw [h1 p, if_pos z] at hp
    cases hp
  have hpk : valV kvs (nk p) = none := by
    rw [h1 p, if_neg hpF] at hp
    exact hp
  refine ⟨fun q => ?_, fun q => ?_, ?_, ?_⟩
  · rw [valV_put]
    by_cases e : q = p
    · subst e
      rw [if_pos rfl, if_pos (List.mem_append_right _ (List.mem_singleton.mpr rfl))]
    · rw [if_neg (fun z => e (nk_inj z)), h1 q]
      by_cases z : q ∈ F
      · rw [if_pos z, if_pos (List.mem_append_left _ z)]
      · rw [if_neg z, if_neg (fun y => by
          rcases List.mem_append.mp y with y | y
          · exact z y
          · exact e (List.mem_singleton.mp y))]
  · rw [List.mem_append, List.mem_append, h2 q, List.mem_singleton]
    constructor
    · rintro (⟨a, b⟩ | a)
      · exact ⟨.inl a, b⟩
      · rw [a]
        exact ⟨.inr rfl, hpk⟩
    · rintro ⟨a | a, b⟩
      · exact .inl ⟨a, b⟩
      · exact .inr a
  · rw [putK_new hp, h3, List.length_append]
    rfl
  · rw [List.length_append, List.length_append]
    exact Nat.add_le_add_right h4 _
theorem RS.skip {kvs kvs' : List (List Key × V)} {r : Nat} {T F : List (List Nat)} {p : List Nat} (h : RS kvs r T kvs' F) (hp : valV kvs' (nk p) ≠ none) : RS kvs r (T ++ [p]) kvs' F := by
  obtain ⟨h1, h2, h3, h4⟩ := h
  refine ⟨h1, fun q => ?_, h3, by rw [List.length_append]; omega⟩
  rw [h2 q, List.mem_append, List.mem_singleton]
  constructor
  · rintro ⟨a, b⟩
    exact ⟨.inl a, b⟩
  · rintro ⟨a | a, b⟩
    · exact ⟨a, b⟩
    · rw [a] at b ⊢
      by_cases z : p ∈ F
      · exact (h2 p).mp z
      · rw [h1 p, if_neg z] at hp
        exact absurd b hp
theorem BallK.none_iff {gs : List (List Nat)} {n r : Nat} {kvs : List (List Key × V)} (h : BallK gs n kvs r) {p : List Nat} : valV kvs (nk p) = none ↔ ∀ j, j ≤ r → ¬ W gs j (List.range n) p := by
  constructor
  · intro z
    rcases h p with ⟨d, e, _⟩ | ⟨_, e⟩
    · rw [e] at z
      cases z
    · exact e
  · intro z
    rcases h p with ⟨d, e, x, hd⟩ | ⟨e, _⟩
    · exact absurd x.1 (z d hd)
    · exact e
theorem round_layer {gs : List (List Nat)} {n r : Nat} {kvs kvs' : List (List Key × V)} {LS F : List (List Nat)} (hB : BallK gs n kvs r) (hL : ∀ p, p ∈ LS ↔ Ex gs r (List.range n) p) (hR : RS kvs r (prods LS gs) kvs' F) : ∀ p, p ∈ F ↔ Ex gs (r + 1) (List.range n) p := fun p => by
  rw [hR.2.1 p, hB.none_iff]
  have a : p ∈ prods LS gs ↔ ∃ q, Ex gs r (List.range n) q ∧ ∃ g, g ∈ gs ∧ p = mul q g := by
    unfold prods
    rw [List.mem_flatMap]
    constructor
    · rintro ⟨q, hq, hp⟩
      obtain ⟨g, hg, e⟩ := List.mem_map.mp hp
      exact ⟨q, (hL q).mp hq, g, hg, e.symm⟩
    · rintro ⟨q, hq, g, hg, e⟩
      exact ⟨q, (hL q).mpr hq, List.mem_map.mpr ⟨g, hg, e.symm⟩⟩
  rw [a]
  constructor
  · rintro ⟨⟨q, hq, g, hg, e⟩, h2⟩
    exact ⟨⟨q, hq.1, g, hg, e⟩, fun j hj => h2 j (by omega)⟩
  · rintro ⟨⟨q, hq, g, hg, e⟩, h2⟩
    exact ⟨⟨q, ⟨hq, fun j hj w => h2 (j + 1) (by omega) ⟨q, w, g, hg, e⟩⟩, g, hg, e⟩, fun j hj => h2 j (by omega)⟩
theorem round_ball {gs : List (List Nat)} {n r : Nat} {kvs kvs' : List (List Key × V)} {LS F : List (List Nat)} (hB : BallK gs n kvs r) (hL : ∀ p, p ∈ LS ↔ Ex gs r (List.range n) p) (hR : RS kvs r (prods LS gs) kvs' F) : BallK gs n kvs' (r + 1) := fun p => by
  have hF := round_layer hB hL hR
  by_cases z : p ∈ F
  · refine .inl ⟨r + 1, ?_, (hF p).mp z, Nat.le_refl _⟩
    rw [hR.1 p, if_pos z]
  · rw [hR.1 p, if_neg z]
    rcases hB p with ⟨d, e, x, hd⟩ | ⟨e, hn⟩
    · exact .inl ⟨d, e, x, by omega⟩
    · refine .inr ⟨e, fun j hj w => ?_⟩
      by_cases q : j = r + 1
      · rw [q] at w
        exact z ((hF p).mpr ⟨w, fun i hi => hn i (by omega)⟩)
      · exact hn j (by omega) w
theorem BallK.toR {gs : List (List Nat)} {n r : Nat} {kvs : List (List Key × V)} (h : BallK gs n kvs r) (hr : r ≤ 24) : BallR gs n kvs r := fun p => by
  rcases h p with ⟨d, e, x, hd⟩ | e
  · exact .inl ⟨d, e, x, by omega⟩
  · exact .inr e
theorem BallK.full {gs : List (List Nat)} {n r : Nat} {kvs : List (List Key × V)} (h : BallK gs n kvs r) (hr : r ≤ 24) (he : ∀ p, ¬ Ex gs r (List.range n) p) (m : Nat) : BallR gs n kvs m := fun p => by
  rcases h p with ⟨d, e, x, hd⟩ | ⟨e, hn⟩
  · exact .inl ⟨d, e, x, by omega⟩
  · refine .inr ⟨e, fun j hj w => ?_⟩
    obtain ⟨i, hi, x⟩ := w.least
    have hri : r ≤ i := by
      rcases Nat.lt_or_ge i r with z | z
      · exact absurd x.1 (hn i (by omega))
      · exact z
    have e2 : r + (i - r) = i := by omega
    have w2 := x.1
    rw [← e2] at w2
    obtain ⟨q, h1, h2⟩ := w2.split
    refine he q ⟨h1, fun j2 hj2 w3 => ?_⟩
    exact x.2 (j2 + (i - r)) (by omega) (w3.add h2)
theorem BallR.same {gs gs' : List (List Nat)} {n m : Nat} {kvs : List (List Key × V)} (hg : ∀ g, g ∈ gs ↔ g ∈ gs') (h : BallR gs n kvs m) : BallR gs' n kvs m := fun p => by
  rcases h p with ⟨d, e, x, hd⟩ | ⟨e, hn⟩
  · exact .inl ⟨d, e, (Ex.same hg).mp x, hd⟩
  · exact .inr ⟨e, fun j hj w => hn j hj (W.sub (fun g => (hg g).mpr) w)⟩
theorem BallK.zero {gs : List (List Nat)} {n : Nat} : BallK gs n [(nk (List.range n), V.int 0)] 0 := fun p => by
  by_cases h : p = List.range n
  · refine .inl ⟨0, ?_, Ex.zero.mpr h, Nat.le_refl _⟩
    rw [h]
    exact valV_pos (p := (nk (List.range n), V.int 0)) rfl
  · refine .inr ⟨?_, fun j hj w => ?_⟩
    · rw [valV_neg (p := (nk (List.range n), V.int 0)) (fun z => h (nk_inj z.symm))]
      rfl
    · have : j = 0 := by omega
      rw [this] at w
      exact h w
/-- all but what stands at two places is as it was -/
def Bu2 (p q : Addr) (H H' : Hp) : Prop := ∀ b o, b ≠ p → b ≠ q → H b = some o → H' b = some o
def spBall : Sp := fun vs H Q _ => ∃ (l : Addr) (xs : List V) (n : Nat) (ps : List (List Nat)), vs = [.ref l, .int (n : Int)] ∧ H l = some (.lst xs) ∧ Rw H xs ps ∧ (∀ p ∈ ps, IsP n p) ∧ 1 ≤ n ∧ n ≤ 24 ∧ ps.length ≤ 8 ∧
  ∀ (c d : Addr) (kvs : List (List Key × V)) (reach : Nat) (H' : Hp), Same H H' → H' c = some (.lst [.ref d, .int (reach : Int)]) → H' d = some (.dT kvs) → kvs.length ≤ 10000 → reach ≤ 24 → BallR (gens ps) n kvs reach → Q (.ref c) H'
def spBetween : Sp := fun vs H Q _ => ∃ (d a b : Addr) (kvs : List (List Key × V)) (n : Nat) (p q : List Nat), vs = [.ref d, .ref a, .ref b] ∧ H d = some (.dT kvs) ∧ Tn H a p ∧ Tn H b q ∧ IsP n p ∧ IsP n q ∧ n ≤ 24 ∧ ∀ H', Same H H' → Q ((valV kvs (nk (mul (inv p) q))).getD (.int (-1))) H'
section
variable {P : Program} {w : World} {K : PySem.W.Frag} {mg : Str → Option Value} {base : Heap}
theorem dn__law_between (c : Ctx K mg) : Dn P w K mg base CX0 2 "_law_between" ["ball", "first", "second"] spBetween := by
  obtain ⟨f___law_after, fd__law_after, g__law_after, k__law_after, F__law_after, b__law_after⟩ := (dn__law_after (P := P) (w := w) (base := base) c).ex
  obtain ⟨f___law_back, fd__law_back, g__law_back, k__law_back, F__law_back, b__law_back⟩ := (dn__law_back (P := P) (w := w) (base := base) c).ex
  have sc := sc__law_between
  obtain ⟨fd, F⟩ := c.D__law_between
  refine ⟨_, fd, c.g__law_between, F.kp, F.ok sc (fun vs H Q E h => ?_) (fun cdv A outer s H vs Q E hr h => ⟨_, PSs.nox ((pss_one (ps_ret (pe_dget2 (hu_of hr) (pv 0) (pe_call F__law_after (hr.mono (by decide)) (by rfl) g__law_after k__law_after b__law_after nil_v pass0 (pa_cons (pe_call F__law_back (hr.mono (by decide)) (by rfl) g__law_back k__law_back b__law_back nil_v pass0 (pa_cons (pv 1) pa_nil)) (pa_cons (pv 2) pa_nil))) (pe_un un_neg pe_int) ⟨rfl, rfl, rfl, rfl⟩)))), ?_⟩), F.bindsN fun _ _ _ _ _ _ us hl => match us, hl with | [_, _, _], _ => rfl⟩
  · obtain ⟨d, a, b, kvs, n, p, q, rfl, _⟩ := h
    rfl
  · obtain ⟨d, a, b, kvs, n, p, q, rfl, hd, ha, hb, hp, hq, hn, k⟩ := h
    refine ⟨_, rfl, d, rfl, .inr ⟨kvs, .inl hd⟩, _, rfl, a, p, n, rfl, ha, hp, by omega, fun c1 H1 s1 t1 => ?_⟩
    have hpi := hp.inv
    refine ⟨_, rfl, c1, b, _, _, rfl, t1, hb.mono s1, by rw [hpi.len, hq.len], fun x hx => by rw [hq.len]; exact hpi.lt x hx, by rw [hpi.len]; omega, fun c2 H2 s2 t2 => ?_⟩
    have tk : H2 c2 = some (.tup ((nk (mul (inv p) q)).map kV)) := by
      rw [nk_kV]
      exact t2
    exact ⟨_, rfl, _, DGet.t ((s1.trans s2) _ _ hd) tk, k _ (s1.trans s2)⟩
theorem dn__law_ball (c : Ctx K mg) : Dn P w K mg base CX0 2 "_law_ball" ["perms", "points"] spBall := by
  have f_len := c.f_len
  have f_list := c.f_list
  have f_range := c.f_range
  have f_tuple := c.f_tuple
  obtain ⟨f___law_after, fd__law_after, g__law_after, k__law_after, F__law_after, b__law_after⟩ := (dn__law_after (P := P) (w := w) (base := base) c).ex
  obtain ⟨f___law_back, fd__law_back, g__law_back, k__law_back, F__law_back, b__law_back⟩ := (dn__law_back (P := P) (w := w) (base := base) c).ex
  have sc := sc__law_ball
  obtain ⟨fd, F⟩ := c.D__law_ball
  refine ⟨_, fd, c.g__law_ball, F.kp, F.ok sc (fun vs H Q E h => ?_) (fun cdv A outer s H vs Q E hr h => ⟨_, PSs.nox ((pss_cons (ps_set (i := 2) sc.nd rfl (by first | exact Or.inl rfl | exact Or.inr rfl) (pe_op op_cat (pv 0) (pe_lc (own := [("perm", 10)]) (tt := tYes) rfl sc.nd (pi_listK (K := K) rfl (pv 0)) (blkOk_by (own := [("perm", 10)]) (N := ["perms", "points", "steps", "line", "ball", "radius", "further", "spot", "step", "made", "perm"]) (sc := defScope s__law_ball) (by decide +kernel)) (fun _ _ _ _ _ => (pg_name (i := 10) sc.nd rfl (by first | exact Or.inl rfl | exact Or.inr rfl))) (fun _ _ _ _ _ => pts_nil) (fun _ _ _ _ _ => (pe_call F__law_back (hr.mono (by decide)) (by rfl) g__law_back k__law_back b__law_back nil_v pass0 (pa_cons (pv 10) pa_nil))))))
  (pss_cons (ps_set (i := 3) sc.nd rfl (by first | exact Or.inl rfl | exact Or.inr rfl) (pe_lst (pa_cons (pe_tupRg rfl (by rfl) f_tuple (prg_1 (by rfl) f_range (pv 1))) pa_nil)))
  (pss_cons (ps_set (i := 4) sc.nd rfl (by first | exact Or.inl rfl | exact Or.inr rfl) (pe_dispT (pe_ix (ix_listK (K := K) rfl) (pv 3) pe_int (fun _ _ => rfl)) pe_int (hu_of hr)))
  (pss_cons (ps_set (i := 5) sc.nd rfl (by first | exact Or.inl rfl | exact Or.inr rfl) pe_int)
  (pss_cons (ps_while PassesOwn.never (PW.pt (pw_and (pt_cmpR (op_neDK (K := K) rfl hr.units) (pv 3) (pe_lst pa_nil) (nomark _)) (pw_and (pt_cmpR op_le (pe_callB call_len_dT (by rfl) f_len boot_len (pa_cons (pv 4) pa_nil)) pe_int (nomark _)) (pw_and1 (pt_cmpR op_lt (pv 5) pe_int (nomark _)))))) (pss_cons (ps_set (i := 5) sc.nd rfl (by first | exact Or.inl rfl | exact Or.inr rfl) (pe_op op_add (pv 5) pe_int))
  (pss_cons (ps_set (i := 6) sc.nd rfl (by first | exact Or.inl rfl | exact Or.inr rfl) (pe_lst pa_nil))
  (pss_cons (ps_for PassesOwn.never rfl (pi_listK (K := K) rfl (pv 3)) (pg_name (i := 7) sc.nd rfl (by first | exact Or.inl rfl | exact Or.inr rfl)) (pss_one (ps_for PassesOwn.never rfl (pi_listK (K := K) rfl (pv 2)) (pg_name (i := 8) sc.nd rfl (by first | exact Or.inl rfl | exact Or.inr rfl)) (pss_cons (ps_set (i := 9) sc.nd rfl (by first | exact Or.inl rfl | exact Or.inr rfl) (pe_call F__law_after (hr.mono (by decide)) (by rfl) g__law_after k__law_after b__law_after nil_v pass0 (pa_cons (pv 7) (pa_cons (pv 8) pa_nil))))
  (pss_one (ps_if (pt_cmp (pc_dnotin (hu_of hr) (pv 9) (pv 4))) (pss_cons (ps_dput (hu_of hr) (pv 4) (pv 9) (pv 5) rfl)
  (pss_one (ps_expr (pe_bm PySem.F.plainAttrs_list PySem.F.slot_list_append PySem.F.type_list_append mt_append (pv 6) (pa_cons (pv 9) pa_nil))))) pss_nil))))))
  (pss_one (ps_set (i := 3) sc.nd rfl (by first | exact Or.inl rfl | exact Or.inr rfl) (pe_callTy (call_listK (K := K) rfl) (by rfl) f_list boot_list (pa_cons (pv 6) pa_nil))))))))
  (pss_cons (ps_if (pt_cmpR (op_eqDK (K := K) rfl hr.units) (pv 3) (pe_lst pa_nil) (nomark _)) (pss_one (ps_ret (pe_lst (pa_cons (pv 4) (pa_cons pe_int pa_nil))))) pss_nil)
  (pss_one (ps_ret (pe_lst (pa_cons (pv 4) (pa_cons (pv 5) pa_nil)))))))))))), ?_⟩), F.bindsN fun _ _ _ _ _ _ us hl => match us, hl with | [_, _], _ => rfl⟩
  · obtain ⟨l, xs, n, ps, rfl, _⟩ := h
    rfl
  · obtain ⟨l, xs, n, ps, rfl, hl, hr0, hP, h1, hn, h8, k⟩ := h
    refine ⟨_, rfl, _, rfl, l, rfl, ⟨_, SqL.of hl⟩, fun B hB => lc_same (walk_list (xs := xs)) hB (fun i H acc => Rw H acc ((ps.map inv).take i)) (fun _ _ => Rw.nil) (fun _ _ _ _ t r => t.rw r) (by rw [hr0.1]; omega) (fun H s => SqL.of (s _ _ hl)) ?_ ?_⟩
    · rintro i x H2 H3 acc C hi s2 r2 ⟨rfl, hx⟩ kC
      obtain ⟨b, p, rfl, hp, tp⟩ := (hr0.mono s2).get hx
      exact ⟨rfl, _, rfl, b, p, n, rfl, tp, hP p (List.mem_of_getElem? hp), by omega, fun c1 H4 s4 t4 => kC _ _ s4 ((r2.mono s4).take (by rw [List.getElem?_map, hp]; rfl) t4)⟩
    · rintro H1 acc s1 e1 l1 r1
      rw [hr0.1, ← List.length_map (f := inv), List.take_length] at r1
      have lxs := hr0.1
      have lac : acc.length = ps.length := by rw [r1.1, List.length_map]
      refine ⟨l, B, _, _, rfl, rfl, s1 _ _ hl, e1, sz _ (by omega), fun S hS => ?_⟩
      dsimp only [gName]
      have s2 := s1.trans (same_new (o := .lst (xs ++ acc)) hS)
      have e2 : (upd H1 S (.lst (xs ++ acc))) S = some (.lst (xs ++ acc)) := upd_same
      have r2 : Rw (upd H1 S (.lst (xs ++ acc))) (xs ++ acc) (ps ++ ps.map inv) := ((hr0.mono s1).append r1).mono (same_new hS)
      generalize upd H1 S (.lst (xs ++ acc)) = H2 at s2 e2 r2 ⊢
      obtain ⟨gs, hgs⟩ : ∃ gs, ps ++ ps.map inv = gs := ⟨_, rfl⟩
      rw [hgs] at r2
      have lgs : gs.length ≤ 16 := by
        rw [← hgs, List.length_append, List.length_map]
        omega
      have gP : ∀ g ∈ gs, IsP n g := fun g hg => by
        rw [← hgs] at hg
        rcases List.mem_append.mp hg with hg | hg
        · exact hP g hg
        · obtain ⟨p, hp, e⟩ := List.mem_map.mp hg
          rw [← e]
          exact (hP p hp).inv
      have gsame : ∀ g, g ∈ gs ↔ g ∈ gens ps := fun g => by
        rw [← hgs, mem_gens, List.mem_append, List.mem_map]
        constructor
        · rintro (a | ⟨p, hp, e⟩)
          · exact ⟨g, a, .inl rfl⟩
          · exact ⟨p, hp, .inr e.symm⟩
        · rintro ⟨p, hp, e | e⟩
          · exact .inl (e ▸ hp)
          · exact .inr ⟨p, hp, e.symm⟩
      have hSym : Sym n gs := ⟨gP, fun g hg => (gsame _).mpr ((gens_sym hP).2 g ((gsame g).mp hg))⟩
      refine ⟨_, rfl, _, rfl, RgOk.of_le (by omega) (by omega) (by omega) (by omega), fun q0 hq0 => ⟨szk rfl, fun L0 hL0 => ?_⟩⟩
      rw [rgV_nv] at hL0 ⊢
      dsimp only [gName]
      have s3 : Same H2 (upd (upd H2 q0 (.tup (nv (List.range n)))) L0 (.lst [.ref q0])) := (same_new hq0).trans (same_new hL0)
      have e3 : (upd (upd H2 q0 (.tup (nv (List.range n)))) L0 (.lst [.ref q0])) L0 = some (.lst [.ref q0]) := upd_same
      have t3 : Tn (upd (upd H2 q0 (.tup (nv (List.range n)))) L0 (.lst [.ref q0])) q0 (List.range n) := same_new hL0 _ _ upd_same
      generalize upd (upd H2 q0 (.tup (nv (List.range n)))) L0 (.lst [.ref q0]) = H3 at s3 e3 t3 ⊢
      refine fun D hD => ⟨_, rfl, L0, _, _, _, rfl, rfl, SqL.of (same_new hD _ _ e3), atI_nat (j := 0) rfl, upd_same, q0, nk (List.range n), rfl, ?_, ?_⟩
      · rw [nk_kV]
        exact same_new hD _ _ t3
      dsimp only [gName]
      refine asgC ?_
      have s4 : Same H3 (upd (upd H3 D (.dT [])) D (.dT [(nk (List.range n), V.int 0)])) := Same.upd_of (same_new hD) hD
      have e4 : (upd (upd H3 D (.dT [])) D (.dT [(nk (List.range n), V.int 0)])) D = some (.dT [(nk (List.range n), V.int 0)]) := upd_same
      generalize upd (upd H3 D (.dT [])) D (.dT [(nk (List.range n), V.int 0)]) = H4 at s4 e4 ⊢
      have sH3 := s2.trans s3
      refine cut (a := tWhile _ _) (fun σ H' => ∃ (r : Nat) (L : Addr) (lx : List V) (LS : List (List Nat)) (kvs : List (List Key × V)) (u6 u7 u8 u9 : Option V), r ≤ 24 ∧ σ = [some (.ref l), some (.int (n : Int)), some (.ref S), some (.ref L), some (.ref D), some (.int (r : Int)), u6, u7, u8, u9, none] ∧ Same H3 H' ∧ H' D = some (.dT kvs) ∧ kvs.length ≤ 10000 ∧ H' L = some (.lst lx) ∧ Rw H' lx LS ∧ (∀ p, p ∈ LS ↔ Ex gs r (List.range n) p) ∧ BallK gs n kvs r) ?_ fun N hN => ?_
      · rintro σ H' ⟨r, L, lx, LS, kvs, u6, u7, u8, u9, hr, rfl, s5, e5, l5, eL, rL, mL, bK⟩
        have sH := sH3.trans s5
        refine ⟨_, rfl, szk rfl, fun E hE => ?_⟩
        have s6 := same_new (o := .lst []) hE
        refine eq_nil (s6 _ _ eL) (rL.mono s6) upd_same ⟨_, rfl, iteD (fun h0 => ?_) (fun h0 => ?_)⟩
        · refine ⟨_, rfl, szk rfl, fun c1 hc1 => ?_⟩
          have s7 := s6.trans (same_new (o := .lst [.ref D, .int 24]) hc1)
          refine k c1 D kvs 24 _ (sH.trans s7) upd_same (s7 _ _ e5) l5 (by decide) (BallR.same gsame (bK.full hr (fun p x => ?_) 24))
          rw [h0] at mL
          exact absurd ((mL p).mpr x) (by simp)
        · refine ⟨_, rfl, _, rfl, szk rfl, fun c1 hc1 => ?_⟩
          have s7 := s6.trans (same_new (o := .lst [.ref D, .int (r : Int)]) hc1)
          exact k c1 D kvs r _ (sH.trans s7) upd_same (s7 _ _ e5) l5 hr (BallR.same gsame (bK.toR hr))
      · refine ⟨fun mm σ H' => ∃ (r : Nat) (L : Addr) (lx : List V) (LS : List (List Nat)) (kvs : List (List Key × V)) (u6 u7 u8 u9 : Option V), mm = 24 - r ∧ r ≤ 24 ∧ σ = [some (.ref l), some (.int (n : Int)), some (.ref S), some (.ref L), some (.ref D), some (.int (r : Int)), u6, u7, u8, u9, none] ∧ Same H3 H' ∧ H' D = some (.dT kvs) ∧ kvs.length ≤ 10000 ∧ H' L = some (.lst lx) ∧ Rw H' lx LS ∧ (∀ p, p ∈ LS ↔ Ex gs r (List.range n) p) ∧ BallK gs n kvs r ∧ LS.length ≤ kvs.length, ?_, ?_⟩
        · exact ⟨24, 0, L0, [.ref q0], [List.range n], _, _, _, _, _, rfl, by decide, rfl, s4, e4, by show 1 ≤ 10000; decide, s4 _ _ e3, Rw.one (t3.mono s4), fun p => by rw [Ex.zero, List.mem_singleton], BallK.zero, Nat.le_refl _⟩
        · rintro mm σ H5 ⟨r, L, lx, LS, kvs, u6, u7, u8, u9, rfl, hr, rfl, s5, e5, l5, eL, rL, mL, bK, lLS⟩
          refine ⟨_, rfl, szk rfl, fun E hE => ?_⟩
          have s6 := same_new (o := .lst []) hE
          have exit : ∀ H', Same H5 H' → N [some (.ref l), some (.int (n : Int)), some (.ref S), some (.ref L), some (.ref D), some (.int (r : Int)), u6, u7, u8, u9, none] H' := fun H' s => hN _ _ ⟨r, L, lx, LS, kvs, u6, u7, u8, u9, hr, rfl, s5.trans s, s _ _ e5, l5, s _ _ eL, rL.mono s, mL, bK⟩
          refine ne_nil (s6 _ _ eL) (rL.mono s6) upd_same ⟨_, rfl, iteN (fun h0 => ?_) (fun h0 => exit _ s6)⟩
          refine ⟨_, rfl, D, kvs, rfl, s6 _ _ e5, _, _, rfl, rfl, _, rfl, iteD (fun h1 => ?_) (fun h1 => exit _ s6)⟩
          refine ⟨_, rfl, _, _, rfl, rfl, _, rfl, iteD (fun h2 => ?_) (fun h2 => exit _ s6)⟩
          have s56 := s5.trans s6
          have eD6 := s6 _ _ e5
          have eL6 := s6 _ _ eL
          have rL6 := rL.mono s6
          generalize upd H5 E (.lst []) = H6 at s6 s56 eD6 eL6 rL6 ⊢
          refine ⟨fun σ' H' => ∃ (L : Addr) (lx : List V) (LS : List (List Nat)) (kvs : List (List Key × V)) (u6 u7 u8 u9 : Option V), σ' = [some (.ref l), some (.int (n : Int)), some (.ref S), some (.ref L), some (.ref D), some (.int ((r + 1 : Nat) : Int)), u6, u7, u8, u9, none] ∧ Same H3 H' ∧ H' D = some (.dT kvs) ∧ kvs.length ≤ 10000 ∧ H' L = some (.lst lx) ∧ Rw H' lx LS ∧ (∀ p, p ∈ LS ↔ Ex gs (r + 1) (List.range n) p) ∧ BallK gs n kvs (r + 1) ∧ LS.length ≤ kvs.length, ?_, ?_⟩
          · rintro σ' H' ⟨L, lx, LS, kvs, u6, u7, u8, u9, hσ, rest⟩
            exact ⟨24 - (r + 1), by omega, r + 1, L, lx, LS, kvs, u6, u7, u8, u9, rfl, by omega, hσ, rest⟩
          refine ⟨_, rfl, _, _, rfl, rfl, szk rfl, fun M hM => ?_⟩
          have er1 : (r : Int) + 1 = ((r + 1 : Nat) : Int) := by omega
          dsimp only [gName]
          rw [er1]
          have s7 := same_new (o := .lst []) hM
          have eM7 : (upd H6 M (.lst [])) M = some (.lst []) := upd_same
          have eD7 := s7 _ _ eD6
          have eL7 := s7 _ _ eL6
          have rL7 := rL6.mono s7
          have s37 := s56.trans s7
          have hML : L ≠ M := ne_of_none eL6 hM
          have hMD : D ≠ M := ne_of_none eD6 hM
          have hLD : L ≠ D := ne_of eL6 eD6 (by intro z; cases z)
          have hM3 : H3 M = none := by
            cases q : H3 M with
            | none => rfl
            | some o =>
              rw [s56 _ _ q] at hM
              cases hM
          generalize upd H6 M (.lst []) = H7 at s7 eM7 eD7 eL7 rL7 s37 ⊢
          have hSD : S ≠ D := ne_of_none (s3 _ _ e2) hD
          have hSM : S ≠ M := ne_of_none (s3 _ _ e2) hM3
          have keepT : ∀ {b : Addr} {p : List Nat} {H' : Hp}, Bu2 D M H7 H' → Tn H7 b p → Tn H' b p := fun {b p H'} bb t => bb b _ (ne_of t eD7 (by intro z; cases z)) (ne_of t eM7 (by intro z; cases z)) t
          have keepR : ∀ {vs : List V} {qs : List (List Nat)} {H' : Hp}, Bu2 D M H7 H' → Rw H7 vs qs → Rw H' vs qs := fun {vs qs H'} bb t => ⟨t.1, fun i p e => by
            obtain ⟨a, h1, h2⟩ := t.2 i p e
            exact ⟨a, h1, keepT bb h2⟩⟩
          have r7 : Rw H7 (xs ++ acc) gs := (r2.mono s3).mono s37
          have eS7 : H7 S = some (.lst (xs ++ acc)) := s37 _ _ (s3 _ _ e2)
          have fin3 : ∀ {H' : Hp}, Bu2 D M H7 H' → Same H3 H' := fun {H'} bb b o ho => bb b o (ne_of_none ho hD) (ne_of_none ho hM3) (s37 _ _ ho)
          have lkv : kvs.length ≤ 160 := by omega
          have lprods : ∀ i, i ≤ LS.length → ∀ j, j ≤ gs.length → (prods (LS.take i) gs ++ (gs.take j).map fun g => mul [] g).length ≤ 160 * 16 + 16 := fun i hi j hj => by
            rw [List.length_append, prods_length, List.length_map, List.length_take, List.length_take]
            have a1 : min i LS.length * gs.length ≤ 160 * 16 := Nat.mul_le_mul (by omega) lgs
            omega
          refine cut (a := tFor _ _ _) (fun σ H' => ∃ (kvs' : List (List Key × V)) (fx : List V) (F : List (List Nat)) (u7 u8 u9 : Option V), σ = [some (.ref l), some (.int (n : Int)), some (.ref S), some (.ref L), some (.ref D), some (.int ((r + 1 : Nat) : Int)), some (.ref M), u7, u8, u9, none] ∧ Bu2 D M H7 H' ∧ H' D = some (.dT kvs') ∧ H' M = some (.lst fx) ∧ Rw H' fx F ∧ RS kvs r (prods LS gs) kvs' F) ?_ fun NX hNX => ?_
          · rintro σ H8 ⟨kvs', fx, F, u7, u8, u9, rfl, bb, eD8, eM8, rF, rs⟩
            have l1 := lprods LS.length (Nat.le_refl _) 0 (Nat.zero_le _)
            rw [List.take_length, List.length_append] at l1
            have l2 := rs.2.2.1
            have l3 := rs.2.2.2
            refine ⟨_, rfl, M, _, rfl, .inl (SqL.of eM8), fun L1 hL1 => ⟨L1, fx, F, kvs', _, _, _, _, rfl, (fin3 bb).trans (same_new hL1), same_new hL1 _ _ eD8, by omega, upd_same, rF.mono (same_new hL1), round_layer bK mL rs, round_ball bK mL rs, by omega⟩⟩
          · refine ⟨_, rfl, L, rfl, ⟨_, SqL.of eL7⟩, for_it (walk_list (xs := lx)) (fun i σ H' => ∃ (kvs' : List (List Key × V)) (fx : List V) (F : List (List Nat)) (u7 u8 u9 : Option V), σ = [some (.ref l), some (.int (n : Int)), some (.ref S), some (.ref L), some (.ref D), some (.int ((r + 1 : Nat) : Int)), some (.ref M), u7, u8, u9, none] ∧ Bu2 D M H7 H' ∧ H' D = some (.dT kvs') ∧ H' M = some (.lst fx) ∧ Rw H' fx F ∧ RS kvs r (prods (LS.take i) gs) kvs' F) ?_ ?_ ?_ ?_⟩
            · exact ⟨kvs, [], [], _, _, _, rfl, fun _ _ _ _ h => h, eD7, eM7, Rw.nil, RS.nil⟩
            · rintro i σ H' hi ⟨_, _, _, _, _, _, _, bb, _⟩
              exact SqL.of (bb _ _ hLD hML eL7)
            · rintro i x σ H9 H8 hi ⟨kvs', fx, F, u7, u8, u9, rfl, bb, eD8, eM8, rF, rs⟩ ⟨rfl, hx⟩
              obtain ⟨b, p, rfl, hp, tp7⟩ := rL7.get hx
              have hpP : IsP n p := ((mL p).mp (List.mem_of_getElem? hp)).1.isP hSym (IsP.range n)
              have hiLS := lt_of_get hp
              refine ⟨_, rfl, S, rfl, ⟨_, SqL.of (bb _ _ hSD hSM eS7)⟩, for_it (walk_list (xs := xs ++ acc)) (fun j σ H' => ∃ (kvs' : List (List Key × V)) (fx : List V) (F : List (List Nat)) (u8 u9 : Option V), σ = [some (.ref l), some (.int (n : Int)), some (.ref S), some (.ref L), some (.ref D), some (.int ((r + 1 : Nat) : Int)), some (.ref M), some (.ref b), u8, u9, none] ∧ Bu2 D M H7 H' ∧ H' D = some (.dT kvs') ∧ H' M = some (.lst fx) ∧ Rw H' fx F ∧ RS kvs r (prods (LS.take i) gs ++ (gs.take j).map fun g => mul p g) kvs' F) ?_ ?_ ?_ ?_⟩
              · exact ⟨kvs', fx, F, _, _, rfl, bb, eD8, eM8, rF, by simpa using rs⟩
              · rintro j σ H' hj ⟨_, _, _, _, _, _, bb2, _⟩
                exact SqL.of (bb2 _ _ hSD hSM eS7)
              · rintro j y σ H11 H10 hj ⟨kvs2, fx2, F2, u8', u9', rfl, bb2, eD10, eM10, rF2, rs2⟩ ⟨rfl, hy⟩
                obtain ⟨b2, g, rfl, hg, tg7⟩ := r7.get hy
                have hgP := gP g (List.mem_of_getElem? hg)
                have hjg := lt_of_get hg
                have tstep : (gs.take (j + 1)).map (fun g => mul p g) = (gs.take j).map (fun g => mul p g) ++ [mul p g] := by
                  rw [List.take_succ, hg]
                  simp
                refine ⟨_, rfl, _, rfl, b, b2, p, g, rfl, keepT bb2 tp7, keepT bb2 tg7, by rw [hpP.len, hgP.len], fun z hz => by rw [hgP.len]; exact hpP.lt z hz, by rw [hpP.len]; omega, fun q H12 s12 t12 => ?_⟩
                have tk : H12 q = some (.tup ((nk (mul p g)).map kV)) := by
                  rw [nk_kV]
                  exact t12
                have eD12 := s12 _ _ eD10
                have eM12 := s12 _ _ eM10
                have bb12 : Bu2 D M H7 H12 := fun b o h1 h2 h3 => s12 _ _ (bb2 b o h1 h2 h3)
                have dg : DGet H12 D (.ref q) (valV kvs2 (nk (mul p g))) := DGet.t eD12 tk
                have ll := lprods i (by omega) j (by omega)
                have ll2 := rs2.2.2.1
                have ll3 := rs2.2.2.2
                rw [List.length_append, List.length_map] at ll ll3
                refine ⟨_, rfl, _, rfl, D, _, rfl, dg, _, rfl, iteB (fun h0 => ?_) (fun h0 => ?_)⟩
                · have hnone : valV kvs2 (nk (mul p g)) = none := by
                    cases q : valV kvs2 (nk (mul p g)) with
                    | none => rfl
                    | some v =>
                      rw [q] at h0
                      cases h0
                  refine ⟨_, rfl, _, rfl, _, rfl, D, _, rfl, DPut.t eD12 tk (szL _ (by omega)), ?_⟩
                  have eM13 : (upd H12 D (.dT (putK kvs2 (nk (mul p g)) (.int ((r + 1 : Nat) : Int))))) M = some (.lst fx2) := by
                    rw [upd_ne (Ne.symm hMD)]
                    exact eM12
                  have lf2 := rF2.1
                  refine ⟨_, rfl, tyL eM13, _, rfl, M, _, _, rfl, rfl, eM13, szL _ (by omega), putK kvs2 (nk (mul p g)) (.int ((r + 1 : Nat) : Int)), fx2 ++ [.ref q], F2 ++ [mul p g], _, _, rfl, ?_, ?_, upd_same, ?_, ?_⟩
                  · intro b o h1 h2 h3
                    rw [upd_ne h2, upd_ne h1]
                    exact bb12 b o h1 h2 h3
                  · rw [upd_ne hMD, upd_same]
                  · have tt : Tps H12 (upd (upd H12 D (.dT (putK kvs2 (nk (mul p g)) (.int ((r + 1 : Nat) : Int))))) M (.lst (fx2 ++ [.ref q]))) := fun a ys e => by
                      rw [upd_ne (ne_of e eM12 (by intro z; cases z)), upd_ne (ne_of e eD12 (by intro z; cases z))]
                      exact e
                    exact (tt.rw (rF2.mono s12)).snoc (tt.tn t12)
                  · rw [tstep, ← List.append_assoc]
                    exact rs2.add hnone
                · have hsome : valV kvs2 (nk (mul p g)) ≠ none := fun z => by
                    rw [z] at h0
                    cases h0
                  refine ⟨kvs2, fx2, F2, _, _, rfl, bb12, eD12, eM12, rF2.mono s12, ?_⟩
                  rw [tstep, ← List.append_assoc]
                  exact rs2.skip hsome
              · rintro σ H' ⟨kvs2, fx2, F2, u8', u9', rfl, bb2, eD10, eM10, rF2, rs2⟩
                rw [r7.1, List.take_length, ← prods_take hp] at rs2
                exact ⟨kvs2, fx2, F2, _, _, _, rfl, bb2, eD10, eM10, rF2, rs2⟩
            · rintro σ H' ⟨kvs', fx, F, u7, u8, u9, rfl, bb, eD8, eM8, rF, rs⟩
              rw [rL7.1, List.take_length] at rs
              exact hNX _ _ ⟨kvs', fx, F, _, _, _, rfl, bb, eD8, eM8, rF, rs⟩
end
end K63
set_option maxRecDepth 100000
set_option maxHeartbeats 2000000
namespace K63
open PySem PySem.Spec PyProof.Rows L2 TB TM
/-- the steps of a word as values -/
def Wl (H : Hp) (ws : List V) (zs : List Str) (wd : List (Nat × Bool)) : Prop := ws.length = wd.length ∧ ∀ (i : Nat) (w : Nat × Bool), wd[i]? = some w → ∃ (q : Addr) (z : Str), ws[i]? = some (.ref q) ∧ zs[w.1]? = some z ∧ H q = some (.tup ((sk z w.2).map kV))
theorem Wl.tps {H H' : Hp} {ws : List V} {zs : List Str} {wd : List (Nat × Bool)} (h : Wl H ws zs wd) (t : Tps H H') : Wl H' ws zs wd := ⟨h.1, fun i w e => by
  obtain ⟨q, z, e1, e2, e3⟩ := h.2 i w e
  exact ⟨q, z, e1, e2, t _ _ e3⟩⟩
theorem Wl.snoc {H : Hp} {ws : List V} {zs : List Str} {wd : List (Nat × Bool)} {q : Addr} {z : Str} {w : Nat × Bool} (h : Wl H ws zs wd) (hz : zs[w.1]? = some z) (hq : H q = some (.tup ((sk z w.2).map kV))) : Wl H (ws ++ [.ref q]) zs (wd ++ [w]) := by
  refine ⟨by rw [List.length_append, List.length_append, h.1]; rfl, fun i w2 e => ?_⟩
  by_cases x : i < wd.length
  · rw [List.getElem?_append_left x] at e
    obtain ⟨q2, z2, e1, e2⟩ := h.2 i w2 e
    exact ⟨q2, z2, by rw [List.getElem?_append_left (by rw [h.1]; exact x)]; exact e1, e2⟩
  · rw [List.getElem?_append_right (by omega)] at e
    have hi : i - wd.length = 0 := by
      have := lt_of_get e
      simp only [List.length_cons, List.length_nil] at this
      omega
    rw [hi] at e
    cases e
    exact ⟨q, z, by rw [List.getElem?_append_right (by rw [h.1]; omega), h.1, hi]; rfl, hz, hq⟩
theorem playW_snoc {ps : List (List Nat)} {wd : List (Nat × Bool)} {s : List Nat} {x : Nat × Bool} : playW ps (wd ++ [x]) s = mul (playW ps wd s) (stepP ps x) := by
  unfold playW
  rw [List.foldl_append]
  rfl
def spWalk : Sp := fun vs H Q _ => ∃ (pu N L a : Addr) (zs : List Str) (xs : List V) (n cnt : Nat) (ps : List (List Nat)) (s : List Nat), vs = [.ref pu, .ref N, .ref L, .ref a, .int (cnt : Int)] ∧ PU H pu ∧ N ≠ pu ∧ L ≠ pu ∧ H N = some (.lst (zs.map V.str)) ∧ zs.length = 8 ∧ H L = some (.lst xs) ∧ Rw H xs ps ∧ (∀ p ∈ ps, IsP n p) ∧ ps.length ≤ 8 ∧ Tn H a s ∧ IsP n s ∧ n ≤ 24 ∧ cnt ≤ 8 ∧
  ∀ (c T b : Addr) (wd : List (Nat × Bool)) (H' : Hp), But pu H H' → PU H' pu → H c = none → H' c = some (.lst [.ref T, .ref b]) → Wd H' T zs wd → Tn H' b (playW ps wd s) → wd.length ≤ cnt → (∀ w ∈ wd, w.1 < ps.length) → Q (.ref c) H'
section
variable {P : Program} {w : World} {K : PySem.W.Frag} {mg : Str → Option Value} {base : Heap}
theorem dn__law_walk (c : Ctx K mg) : Dn P w K mg base CX0 2 "_law_walk" ["purse", "names", "perms", "spot", "count"] spWalk := by
  have f_len := c.f_len
  have f_min := c.f_min
  have f_range := c.f_range
  have f_tuple := c.f_tuple
  obtain ⟨f___law_after, fd__law_after, g__law_after, k__law_after, F__law_after, b__law_after⟩ := (dn__law_after (P := P) (w := w) (base := base) c).ex
  obtain ⟨f___law_back, fd__law_back, g__law_back, k__law_back, F__law_back, b__law_back⟩ := (dn__law_back (P := P) (w := w) (base := base) c).ex
  obtain ⟨f___law_draw, fd__law_draw, g__law_draw, k__law_draw, F__law_draw, b__law_draw⟩ := (dn__law_draw (P := P) (w := w) (base := base) c).ex
  have sc := sc__law_walk
  obtain ⟨fd, F⟩ := c.D__law_walk
  refine ⟨_, fd, c.g__law_walk, F.kp, F.ok sc (fun vs H Q E h => ?_) (fun cdv A outer s H vs Q E hr h => ⟨_, PSs.nox ((pss_cons (ps_set (i := 5) sc.nd rfl (by first | exact Or.inl rfl | exact Or.inr rfl) (pe_lst pa_nil))
  (pss_cons (ps_for PassesOwn.never rfl (pi_range1 (by rfl) f_range (pa_cons (pe_op op_mul (pv 4) (pe_callB (call_min2 rfl) (by rfl) f_min (by decide +kernel) (pa_cons pe_int (pa_cons (pe_callB (call_lenK (K := K) rfl) (by rfl) f_len boot_len (pa_cons (pv 2) pa_nil)) pa_nil)))) pa_nil)) (pg_name (i := 6) sc.nd rfl (by first | exact Or.inl rfl | exact Or.inr rfl)) (pss_cons (ps_set (i := 7) sc.nd rfl (by first | exact Or.inl rfl | exact Or.inr rfl) (pe_call F__law_draw (hr.mono (by decide)) (by rfl) g__law_draw k__law_draw b__law_draw nil_v pass0 (pa_cons (pv 0) (pa_cons (pe_op op_mul pe_int (pe_callB (call_lenK (K := K) rfl) (by rfl) f_len boot_len (pa_cons (pv 2) pa_nil))) pa_nil))))
  (pss_cons (ps_set (i := 8) sc.nd rfl (by first | exact Or.inl rfl | exact Or.inr rfl) (pe_ix (ix_listK (K := K) rfl) (pv 2) (pe_op op_fdivN (pv 7) pe_int) (fun _ _ => rfl)))
  (pss_cons (ps_if (pt_cmpR op_eq (pe_op op_modN (pv 7) pe_int) pe_int (nomark _)) (pss_one (ps_set (i := 8) sc.nd rfl (by first | exact Or.inl rfl | exact Or.inr rfl) (pe_call F__law_back (hr.mono (by decide)) (by rfl) g__law_back k__law_back b__law_back nil_v pass0 (pa_cons (pv 8) pa_nil)))) pss_nil)
  (pss_cons (ps_expr (pe_bm PySem.F.plainAttrs_list PySem.F.slot_list_append PySem.F.type_list_append mt_append (pv 5) (pa_cons (pe_tup (pa_cons (pe_ix (ix_listK (K := K) rfl) (pv 1) (pe_op op_fdivN (pv 7) pe_int) (fun _ _ => rfl)) (pa_cons (pe_op op_sub pe_int (pe_op op_mul pe_int (pe_op op_modN (pv 7) pe_int))) pa_nil))) pa_nil)))
  (pss_one (ps_set (i := 3) sc.nd rfl (by first | exact Or.inl rfl | exact Or.inr rfl) (pe_call F__law_after (hr.mono (by decide)) (by rfl) g__law_after k__law_after b__law_after nil_v pass0 (pa_cons (pv 3) (pa_cons (pv 8) pa_nil))))))))))
  (pss_one (ps_ret (pe_lst (pa_cons (pe_callTy (call_tupK (K := K) rfl) (by rfl) f_tuple boot_tuple (pa_cons (pv 5) pa_nil)) (pa_cons (pv 3) pa_nil)))))))), ?_⟩), F.bindsN fun _ _ _ _ _ _ us hl => match us, hl with | [_, _, _, _, _], _ => rfl⟩
  · obtain ⟨pu, N, L, a, zs, xs, n, cnt, ps, s, rfl, _⟩ := h
    rfl
  · obtain ⟨pu, N, L, a, zs, xs, n, cnt, ps, s, rfl, hpu, hNp, hLp, hN, hz8, hL, hR, hP, h8, ha, hs, hn, hc, k⟩ := h
    refine ⟨szk rfl, fun M hM => ?_⟩
    dsimp only [gName]
    have s1 := same_new (o := .lst []) hM
    have e1 : (upd H M (.lst [])) M = some (.lst []) := upd_same
    have p1 := hpu.mono s1
    generalize upd H M (.lst []) = H1 at s1 e1 p1 ⊢
    have hMp := hpu.ne hM
    obtain ⟨tot, htot, htc, hto⟩ : ∃ tot : Nat, (cnt : Int) * (if (xs.length : Int) < 1 then (xs.length : Int) else 1) = (tot : Int) ∧ tot ≤ cnt ∧ (1 ≤ tot → 1 ≤ ps.length) := by
      by_cases z : (xs.length : Int) < 1
      · rw [if_pos z]
        refine ⟨0, ?_, Nat.zero_le _, fun q => by omega⟩
        have : (xs.length : Int) = 0 := by omega
        rw [this, Int.mul_zero]
        rfl
      · rw [if_neg z]
        refine ⟨cnt, by rw [Int.mul_one], Nat.le_refl _, fun q => ?_⟩
        have := hR.1
        omega
    refine ⟨_, rfl, _, rfl, L, _, rfl, .inl (SqL.of (s1 _ _ hL)), _, _, rfl, _, _, rfl, rfl, (.inr (by constructor <;> (split <;> omega))), (tot : Int), congrArg (fun z => [V.int z]) htot, by omega, by omega, ?_⟩
    refine for_it (walk_rng (n := ((tot : Int)).toNat)) (fun i σ H' => ∃ (b : Addr) (ws : List V) (wd : List (Nat × Bool)) (u6 u7 u8 : Option V), σ = [some (.ref pu), some (.ref N), some (.ref L), some (.ref b), some (.int (cnt : Int)), some (.ref M), u6, u7, u8] ∧ But pu H H' ∧ PU H' pu ∧ H' M = some (.lst ws) ∧ Wl H' ws zs wd ∧ wd.length = i ∧ Tn H' b (playW ps wd s) ∧ IsP n (playW ps wd s) ∧ ∀ w ∈ wd, w.1 < ps.length) ?_ ?_ ?_ ?_
    · exact ⟨a, [], [], _, _, _, rfl, But.ofSame s1, p1, e1, ⟨rfl, fun i w e => by cases e⟩, rfl, ha.mono s1, hs, fun w hw => by cases hw⟩
    · intros; trivial
    · rintro i x σ H3 H2 hi ⟨b, ws, wd, u6, u7, u8, rfl, b2, p2, e2, w2, lw, tb, bP, hwd⟩ ⟨rfl, rfl⟩
      have h1 : 1 ≤ ps.length := hto (by omega)
      have hx := hR.1
      refine ⟨_, rfl, _, rfl, L, _, rfl, .inl (SqL.of (b2 _ _ hLp hL)), _, _, rfl, rfl, (.inl (by decide)), pu, 2 * ps.length, ?_, p2, by omega, by omega, fun d H4 b4 p4 hd => ?_⟩
      · show [V.ref pu, V.int (2 * (xs.length : Int))] = [V.ref pu, V.int ((2 * ps.length : Nat) : Int)]
        rw [hx]
        rfl
      have b24 := b2.trans b4
      have t24 := p2.tps b4
      have e4 := b4 _ _ hMp e2
      have ed : (d : Int).fdiv 2 = ((d / 2 : Nat) : Int) := by
        rw [Int.fdiv_eq_ediv_of_nonneg _ (by decide)]
        rfl
      have em : (d : Int).fmod 2 = ((d % 2 : Nat) : Int) := by
        rw [Int.fmod_eq_emod_of_nonneg _ (by decide)]
        rfl
      have hd2 : d / 2 < ps.length := by omega
      obtain ⟨p, hp⟩ := get_of hd2
      obtain ⟨v, hv⟩ := get_of (show d / 2 < xs.length by omega)
      obtain ⟨pa, p', rfl, hp', tpa⟩ := hR.get hv
      rw [hp] at hp'
      obtain rfl : p = p' := Option.some.inj hp'
      obtain ⟨z, hzz⟩ := get_of (show d / 2 < zs.length by omega)
      have hpP := hP p (List.mem_of_getElem? hp)
      have tpa4 : Tn H4 pa p := (hpu.tps b24).tn tpa
      have zat : (zs.map V.str)[d / 2]? = some (.str z) := by rw [List.getElem?_map, hzz]; rfl
      refine ⟨_, rfl, _, rfl, _, _, rfl, rfl, ⟨by decide, by decide⟩, L, _, _, _, rfl, rfl, SqL.of (b24 _ _ hLp hL), (by rw [ed]; exact atI_nat hv), ?_⟩
      dsimp only [gName]
      have hgd : ps.getD (d / 2) [] = p := by simp [List.getD_eq_getElem?_getD, hp]
      obtain ⟨bb, hbb⟩ : ∃ bb : Bool, bb = decide (d % 2 = 1) := ⟨_, rfl⟩
      have hst : stepP ps (d / 2, bb) = if bb then inv p else p := by
        unfold stepP
        simp only
        rw [hgd]
      refine cut (a := tIfS _ _ _) (fun σ H' => ∃ pr : Addr, σ = [some (.ref pu), some (.ref N), some (.ref L), some (.ref b), some (.int (cnt : Int)), some (.ref M), some (.int (i : Int)), some (.int (d : Int)), some (.ref pr)] ∧ Same H4 H' ∧ Tn H' pr (stepP ps (d / 2, bb))) ?_ fun NX hNX => ?_
      · rintro σ H5 ⟨pr, rfl, s5, tpr⟩
        have b25 := b24.same s5
        have e5 := s5 _ _ e4
        have evl : (1 : Int) - 2 * (d : Int).fmod 2 = if bb then -1 else 1 := by
          rw [em, hbb]
          by_cases q : d % 2 = 1
          · rw [decide_eq_true q, if_pos rfl, q]
            rfl
          · have q0 : d % 2 = 0 := by omega
            rw [decide_eq_false q, if_neg (by intro z; cases z), q0]
            rfl
        refine ⟨_, rfl, tyL e5, _, rfl, _, rfl, _, _, rfl, rfl, ⟨by decide, by decide⟩, N, _, _, _, rfl, rfl, SqL.of (b25 _ _ hNp hN), (by rw [ed]; exact atI_nat zat), _, rfl, _, _, rfl, rfl, (by decide : (2 : Int) ≠ 0), _, _, rfl, rfl, (.inl (by decide)), _, _, rfl, rfl, szk rfl, fun q hq => ?_⟩
        have s6 := same_new (o := .tup [.str z, .int (1 - 2 * (d : Int).fmod 2)]) hq
        have e6 := s6 _ _ e5
        have hq6 : (upd H5 q (.tup [.str z, .int (1 - 2 * (d : Int).fmod 2)])) q = some (.tup ((sk z bb).map kV)) := by
          rw [upd_same, evl]
          cases bb <;> rfl
        dsimp only
        have b26 := b25.same s6
        have p6 := (p4.mono s5).mono s6
        have t46 := s5.trans s6
        generalize upd H5 q (.tup [.str z, .int (1 - 2 * (d : Int).fmod 2)]) = H6 at s6 e6 hq6 b26 p6 t46 ⊢
        have lws := w2.1
        refine ⟨M, ws, _, rfl, rfl, e6, szL _ (by omega), ?_⟩
        have tu := Tps.upd (ys := ws ++ [.ref q]) e6
        have e7 : (upd H6 M (.lst (ws ++ [.ref q]))) M = some (.lst (ws ++ [.ref q])) := upd_same
        have b7 := b26.upd_of (o := .lst (ws ++ [.ref q])) hM
        have p7 := p6.upd (o := .lst (ws ++ [.ref q])) hMp
        have w7 := ((w2.tps (t24.trans (Tps.of t46))).snoc (w := (d / 2, bb)) hzz hq6).tps tu
        have tb7 := tu.tn ((t24.trans (Tps.of t46)).tn tb)
        have tpr7 := tu.tn (tpr.mono s6)
        generalize upd H6 M (.lst (ws ++ [.ref q])) = H7 at tu e7 b7 p7 w7 tb7 tpr7 ⊢
        have sP := stepP_isP (n := n) hP (w := (d / 2, bb)) hd2
        refine ⟨_, rfl, _, rfl, b, pr, _, _, rfl, tb7, tpr7, by rw [bP.len, sP.len], fun y hy => by rw [sP.len]; exact bP.lt y hy, by rw [bP.len]; omega, fun c2 H8 s8 t8 => ?_⟩
        rw [← playW_snoc] at t8
        refine ⟨c2, _, wd ++ [(d / 2, bb)], _, _, _, rfl, b7.same s8, p7.mono s8, s8 _ _ e7, w7.tps (Tps.of s8), by rw [List.length_append, lw]; rfl, t8, ?_, fun w hw => ?_⟩
        · rw [playW_snoc]
          exact bP.mul sP
        · rcases List.mem_append.mp hw with hw | hw
          · exact hwd w hw
          · rw [List.mem_singleton.mp hw]
            exact hd2
      · refine ⟨_, rfl, _, _, rfl, rfl, (by decide : (2 : Int) ≠ 0), rfl, _, rfl, iteD (fun h0 => ?_) (fun h0 => ?_)⟩
        · have h0' := V.int.inj h0
          rw [em] at h0'
          have hb1 : bb = true := by
            rw [hbb]
            exact decide_eq_true (by omega)
          refine ⟨_, rfl, pa, p, n, rfl, tpa4, hpP, by omega, fun c1 H5 s5 t5 => hNX _ _ ⟨c1, rfl, s5, ?_⟩⟩
          rw [hst, hb1]
          exact t5
        · have hb0 : bb = false := by
            rw [hbb]
            refine decide_eq_false fun q => h0 ?_
            show V.int ((d : Int).fmod 2) = V.int 1
            rw [em, q]
            rfl
          refine hNX _ _ ⟨pa, rfl, fun _ _ h => h, ?_⟩
          rw [hst, hb0]
          exact tpa4
    · rintro σ H' ⟨b, ws, wd, u6, u7, u8, rfl, b2, p2, e2, w2, lw, tb, bP, hwd⟩
      refine ⟨_, rfl, M, _, rfl, .inl ⟨SqL.of e2, fun T hT => ⟨_, rfl, szk rfl, fun c1 hc1 => ?_⟩⟩⟩
      have s5 := same_new (o := .tup ws) hT
      have s6 := s5.trans (same_new (o := .lst [.ref T, .ref b]) hc1)
      refine k c1 T b wd _ (b2.same s6) (p2.mono s6) ((b2.same s5).none ((p2.mono s5).ne hc1) hc1) upd_same ⟨ws, same_new hc1 _ _ upd_same, w2.1, (w2.tps (Tps.of s6)).2⟩ (tb.mono s6) (by omega) hwd
end
end K63
set_option maxRecDepth 100000
set_option maxHeartbeats 2000000
namespace K63
open PySem PySem.Spec PyProof.Rows L2 TB TM
/-- turns as values -/
def Tl (H : Hp) (ts : List V) (zs : List Str) (ps : List (List Nat)) : Prop := ts.length = ps.length ∧ zs.length = ps.length ∧
  ∀ (i : Nat) (z : Str) (p : List Nat), zs[i]? = some z → ps[i]? = some p → ∃ q a : Addr, ts[i]? = some (.ref q) ∧ H q = some (.tup [.str z, .ref a]) ∧ Tn H a p
theorem Tl.tps {H H' : Hp} {ts : List V} {zs : List Str} {ps : List (List Nat)} (h : Tl H ts zs ps) (t : Tps H H') : Tl H' ts zs ps := ⟨h.1, h.2.1, fun i z p hz hp => by
  obtain ⟨q, a, e1, e2, e3⟩ := h.2.2 i z p hz hp
  exact ⟨q, a, e1, t _ _ e2, t.tn e3⟩⟩
theorem snoc_get {α : Type} {l : List α} {x y : α} {i : Nat} (h : (l ++ [x])[i]? = some y) : (i < l.length ∧ l[i]? = some y) ∨ (i = l.length ∧ x = y) := by
  by_cases z : i < l.length
  · rw [List.getElem?_append_left z] at h
    exact .inl ⟨z, h⟩
  · rw [List.getElem?_append_right (by omega)] at h
    have hi : i - l.length = 0 := by
      have := lt_of_get h
      simp only [List.length_cons, List.length_nil] at this
      omega
    rw [hi] at h
    exact .inr ⟨by omega, Option.some.inj h⟩
theorem Tl.snoc {H : Hp} {ts : List V} {zs : List Str} {ps : List (List Nat)} {q a : Addr} {z : Str} {p : List Nat} (h : Tl H ts zs ps) (hq : H q = some (.tup [.str z, .ref a])) (t : Tn H a p) : Tl H (ts ++ [.ref q]) (zs ++ [z]) (ps ++ [p]) := by
  obtain ⟨h1, h2, h3⟩ := h
  refine ⟨by rw [List.length_append, List.length_append, h1]; rfl, by rw [List.length_append, List.length_append, h2]; rfl, fun i z2 p2 hz hp => ?_⟩
  rcases snoc_get hz with ⟨l1, e1⟩ | ⟨l1, e1⟩
  · rcases snoc_get hp with ⟨l2, e2⟩ | ⟨l2, e2⟩
    · obtain ⟨q2, a2, x1, x2⟩ := h3 i z2 p2 e1 e2
      exact ⟨q2, a2, by rw [List.getElem?_append_left (by omega)]; exact x1, x2⟩
    · omega
  · rcases snoc_get hp with ⟨l2, e2⟩ | ⟨l2, e2⟩
    · omega
    · rw [← e1, ← e2]
      refine ⟨q, a, ?_, hq, t⟩
      rw [List.getElem?_append_right (by omega), h1, l2, Nat.sub_self]
      rfl
theorem Tl.nil {H : Hp} : Tl H [] [] [] := ⟨rfl, rfl, fun _ _ _ h => by cases h⟩
theorem Tl.tu {H : Hp} {T : Addr} {ts : List V} {zs : List Str} {ps : List (List Nat)} (h : Tl H ts zs ps) (e : H T = some (.tup ts)) : Tu H T zs ps := ⟨ts, e, h.1, h.2.1, h.2.2⟩
/-- the names from the last -/
def backN (zs : List Str) (k : Nat) : List Str := (List.range k).map fun i => zs.getD (7 - i) Str.empty
theorem backN_mem {zs : List Str} {k : Nat} (h : zs.length = 8) : ∀ z ∈ backN zs k, z ∈ zs := fun z hz => by
  unfold backN at hz
  obtain ⟨i, _, e⟩ := List.mem_map.mp hz
  have : 7 - i < zs.length := by omega
  simp only [List.getD_eq_getElem?_getD, List.getElem?_eq_getElem this, Option.getD_some] at e
  rw [← e]
  exact List.getElem_mem this
theorem backN_nodup {zs : List Str} {k : Nat} (h : zs.length = 8) (hk : k ≤ 8) (hn : zs.Nodup) : (backN zs k).Nodup := by
  unfold backN
  rw [List.nodup_iff_pairwise_ne, List.pairwise_map]
  refine (List.nodup_range (n := k)).imp_of_mem ?_
  intro x y hx hy hne e
  have hx' := List.mem_range.mp hx
  have hy' := List.mem_range.mp hy
  have h1 : 7 - x < zs.length := by omega
  have h2 : 7 - y < zs.length := by omega
  simp only [List.getD_eq_getElem?_getD, List.getElem?_eq_getElem h1, List.getElem?_eq_getElem h2, Option.getD_some] at e
  have := nd_get hn (List.getElem?_eq_getElem h1) (by rw [e]; exact List.getElem?_eq_getElem h2)
  omega
def spRenamed (K : PySem.W.Frag) : Sp := fun vs H Q _ => ∃ (L N a : Addr) (xs : List V) (zs : List Str) (n : Nat) (ps : List (List Nat)) (t : List Nat), vs = [.ref L, .int (n : Int), .ref N, .ref a] ∧ H L = some (.lst xs) ∧ Rw H xs ps ∧ (∀ p ∈ ps, IsP n p) ∧ ps.length ≤ 8 ∧ 1 ≤ n ∧ n ≤ 24 ∧
  H N = some (.lst (zs.map V.str)) ∧ zs.length = 8 ∧ (∀ z ∈ zs, NameOk z) ∧ zs.Nodup ∧ Tn H a t ∧ IsP n t ∧ ∀ (x : Addr) (zs' : List Str) (H' : Hp), Same H H' → Pz K H' x n 1 zs' (ps.reverse.map (conj t)) → Q (.ref x) H'
section
variable {P : Program} {w : World} {K : PySem.W.Frag} {mg : Str → Option Value} {base : Heap}
theorem dn__law_renamed (c : Ctx K mg) : Dn P w K mg base CX0 6 "_law_renamed" ["perms", "points", "names", "to"] (spRenamed K) := by
  have f_len := c.f_len
  have f_tuple := c.f_tuple
  obtain ⟨f__Puzzle, fd_Puzzle, M_Puzzle, F_Puzzle, ⟨gk_Puzzle, kb_Puzzle⟩, ds_Puzzle, v_Puzzle, b_Puzzle⟩ := (dn_Puzzle___init__ (P := P) (w := w) (base := base) c).ex
  have g_Puzzle := c.g_Puzzle
  obtain ⟨f___law_after, fd__law_after, g__law_after, k__law_after, F__law_after, b__law_after⟩ := (dn__law_after (P := P) (w := w) (base := base) c).ex
  obtain ⟨f___law_back, fd__law_back, g__law_back, k__law_back, F__law_back, b__law_back⟩ := (dn__law_back (P := P) (w := w) (base := base) c).ex
  have sc := sc__law_renamed
  obtain ⟨fd, F⟩ := c.D__law_renamed
  refine ⟨_, fd, c.g__law_renamed, F.kp, F.ok sc (fun vs H Q E h => ?_) (fun cdv A outer s H vs Q E hr h => ⟨_, PSs.nox ((pss_cons (ps_set (i := 4) sc.nd rfl (by first | exact Or.inl rfl | exact Or.inr rfl) (pe_lst pa_nil))
  (pss_cons (ps_for PassesOwn.never rfl (pi_listK (K := K) rfl (pe_revL (pv 0))) (pg_name (i := 5) sc.nd rfl (by first | exact Or.inl rfl | exact Or.inr rfl)) (pss_one (ps_expr (pe_bm PySem.F.plainAttrs_list PySem.F.slot_list_append PySem.F.type_list_append mt_append (pv 4) (pa_cons (pe_tup (pa_cons (pe_ix (ix_listK (K := K) rfl) (pv 2) (pe_op op_sub pe_int (pe_callB (call_lenK (K := K) rfl) (by rfl) f_len boot_len (pa_cons (pv 4) pa_nil))) (fun _ _ => rfl)) (pa_cons (pe_call F__law_after (hr.mono (by decide)) (by rfl) g__law_after k__law_after b__law_after nil_v pass0 (pa_cons (pe_call F__law_after (hr.mono (by decide)) (by rfl) g__law_after k__law_after b__law_after nil_v pass0 (pa_cons (pe_call F__law_back (hr.mono (by decide)) (by rfl) g__law_back k__law_back b__law_back nil_v pass0 (pa_cons (pv 3) pa_nil)) (pa_cons (pv 5) pa_nil))) (pa_cons (pv 3) pa_nil))) pa_nil))) pa_nil)))))
  (pss_one (ps_ret (pe_make M_Puzzle F_Puzzle (hr.mono (by decide)) (by rfl) g_Puzzle b_Puzzle v_Puzzle pass0 (pa_cons (pv 1) (pa_cons (pe_callTy (call_tupK (K := K) rfl) (by rfl) f_tuple boot_tuple (pa_cons (pv 4) pa_nil)) pa_nil)))))))), ?_⟩), F.bindsN fun _ _ _ _ _ _ us hl => match us, hl with | [_, _, _, _], _ => rfl⟩
  · obtain ⟨L, N, a, xs, zs, n, ps, t, rfl, _⟩ := h
    rfl
  · obtain ⟨L, N, a, xs, zs, n, ps, t, rfl, hL, hR, hP, h8, h1, hn, hN, hz8, hz, hnd, ha, ht, k⟩ := h
    refine ⟨szk rfl, fun M hM => ?_⟩
    dsimp only [gName]
    have s1 := same_new (o := .lst []) hM
    have e1 : (upd H M (.lst [])) M = some (.lst []) := upd_same
    generalize upd H M (.lst []) = H1 at s1 e1 ⊢
    refine cut (a := tFor _ _ _) (fun σ H' => ∃ (ts : List V) (u : Option V), σ = [some (.ref L), some (.int (n : Int)), some (.ref N), some (.ref a), some (.ref M), u] ∧ Same H H' ∧ H' M = some (.lst ts) ∧ Tl H' ts (backN zs ps.length) (ps.reverse.map (conj t))) ?_ fun NX hNX => ?_
    · rintro σ H2 ⟨ts, u, rfl, s2, e2, tl⟩
      refine ⟨_, rfl, _, rfl, M, _, rfl, .inl ⟨SqL.of e2, fun T hT => ?_⟩⟩
      have s3 := same_new (o := .tup ts) hT
      have e3 : (upd H2 T (.tup ts)) T = some (.tup ts) := upd_same
      have tl3 := tl.tps (Tps.of s3)
      have s23 := s2.trans s3
      generalize upd H2 T (.tup ts) = H3 at s3 e3 tl3 s23 ⊢
      intro x dx hx hdx hne
      have s4 : Same H3 (upd (upd H3 dx (.own x)) x (.ins (He.ga K "Puzzle") dx [])) := (same_new hdx).trans (same_new (by rw [upd_ne (Ne.symm hne)]; exact hx))
      have hPc : ∀ p ∈ ps.reverse.map (conj t), IsP n p := fun p hp => by
        obtain ⟨q, hq, e⟩ := List.mem_map.mp hp
        rw [← e]
        exact conj_isP ht (hP q (List.mem_reverse.mp hq))
      refine ⟨x, dx, T, n, 1, backN zs ps.length, ps.reverse.map (conj t), rfl, upd_same, (tl3.tps (Tps.of s4)).tu (s4 _ _ e3), ⟨h1, hn, by decide, Nat.one_dvd _, by rw [List.length_map, List.length_reverse]; exact h8, hPc, fun p _ => KM.one⟩, fun z hzz => hz z (backN_mem hz8 z hzz), backN_nodup hz8 h8 hnd, fun H5 b5 pz => ⟨rfl, k x _ H5 (fun b o ho => ?_) pz⟩⟩
      have ho3 := s23 b o ho
      exact b5 b o (ne_of_none ho3 hx) (s4 _ _ ho3)
    · refine ⟨_, rfl, L, _, rfl, SqL.of (s1 _ _ hL), fun R hR1 => ?_⟩
      have s2 := s1.trans (same_new (o := .lst xs.reverse) hR1)
      have eM2 := same_new (o := .lst xs.reverse) hR1 _ _ e1
      have eR2 : (upd H1 R (.lst xs.reverse)) R = some (.lst xs.reverse) := upd_same
      have hRM : R ≠ M := fun z => by
        rw [z, e1] at hR1
        cases hR1
      have hHR : H R = none := by
        cases q : H R with
        | none => rfl
        | some o =>
          rw [s1 _ _ q] at hR1
          cases hR1
      generalize upd H1 R (.lst xs.reverse) = H2 at s2 eM2 eR2 ⊢
      have hRrev : Rw H2 xs.reverse ps.reverse := by
        refine ⟨by rw [List.length_reverse, List.length_reverse, hR.1], fun i p e => ?_⟩
        have hi := lt_of_get e
        rw [List.length_reverse] at hi
        rw [List.getElem?_reverse hi] at e
        obtain ⟨b, h1, h2⟩ := hR.2 _ p e
        refine ⟨b, ?_, h2.mono s2⟩
        rw [List.getElem?_reverse (by rw [hR.1]; exact hi), hR.1]
        exact h1
      have lxs : xs.length = ps.length := hR.1
      refine ⟨R, rfl, ⟨_, SqL.of eR2⟩, for_it (walk_list (xs := xs.reverse)) (fun i σ H' => ∃ (ts : List V) (u : Option V), σ = [some (.ref L), some (.int (n : Int)), some (.ref N), some (.ref a), some (.ref M), u] ∧ Same H H' ∧ H' R = some (.lst xs.reverse) ∧ Rw H' xs.reverse ps.reverse ∧ H' M = some (.lst ts) ∧ Tl H' ts (backN zs i) ((ps.reverse.map (conj t)).take i)) ?_ ?_ ?_ ?_⟩
      · exact ⟨[], none, rfl, s2, eR2, hRrev, eM2, Tl.nil⟩
      · rintro i σ H' hi ⟨_, _, _, _, e, _⟩
        exact SqL.of e
      · rintro i y σ H4 H3 hi ⟨ts, u, rfl, s3, eR3, rR3, eM3, tl⟩ ⟨rfl, hy⟩
        obtain ⟨b, p, rfl, hp, tp⟩ := rR3.get hy
        have hpP := hP p (List.mem_reverse.mp (List.mem_of_getElem? hp))
        have hil := lt_of_get hp
        rw [List.length_reverse] at hil
        have lts : ts.length = i := by
          have := tl.1
          rw [List.length_take, List.length_map, List.length_reverse] at this
          omega
        have e7 : (7 : Int) - (ts.length : Int) = ((7 - i : Nat) : Int) := by omega
        have hz7 : 7 - i < zs.length := by omega
        have ez : (zs.map V.str)[7 - i]? = some (.str (zs.getD (7 - i) Str.empty)) := by
          rw [List.getElem?_map, List.getElem?_eq_getElem hz7]
          simp [List.getD_eq_getElem?_getD, List.getElem?_eq_getElem hz7]
        refine ⟨_, rfl, tyL eM3, _, rfl, _, rfl, M, _, rfl, .inl (SqL.of eM3), _, _, rfl, rfl, N, _, _, _, rfl, rfl, SqL.of (s3 _ _ hN), (by rw [e7]; exact atI_nat ez), ?_⟩
        have hti := ht.inv
        refine ⟨_, rfl, a, t, n, rfl, ha.mono s3, ht, by omega, fun c1 H5 s5 t5 => ?_⟩
        refine ⟨_, rfl, c1, b, _, _, rfl, t5, tp.mono s5, by rw [hti.len, hpP.len], fun x hx => by rw [hpP.len]; exact hti.lt x hx, by rw [hti.len]; omega, fun c2 H6 s6 t6 => ?_⟩
        have hm := hti.mul hpP
        refine ⟨_, rfl, c2, a, _, _, rfl, t6, ((ha.mono s3).mono s5).mono s6, by rw [hm.len, ht.len], fun x hx => by rw [ht.len]; exact hm.lt x hx, by rw [hm.len]; omega, fun c3 H7 s7 t7 => ⟨szk rfl, fun q hq => ?_⟩⟩
        have s37 := (s5.trans s6).trans s7
        have s8 := s37.trans (same_new (o := .tup [.str (zs.getD (7 - i) Str.empty), .ref c3]) hq)
        have eM8 := s8 _ _ eM3
        refine ⟨M, _, _, rfl, rfl, eM8, szL _ (by omega), _, _, rfl, Same.upd_of (s3.trans s8) hM, ?_, ?_, upd_same, ?_⟩
        · rw [upd_ne hRM]
          exact s8 _ _ eR3
        · exact (Tps.upd eM8).rw (rR3.mono s8)
        · have e9 : backN zs (i + 1) = backN zs i ++ [zs.getD (7 - i) Str.empty] := by
            unfold backN
            rw [List.range_succ, List.map_append]
            rfl
          have e10 : (ps.reverse.map (conj t)).take (i + 1) = (ps.reverse.map (conj t)).take i ++ [conj t p] := by
            rw [List.take_succ, List.getElem?_map, hp]
            rfl
          rw [e9, e10]
          refine ((tl.tps (Tps.of s8)).snoc upd_same ?_).tps (Tps.upd eM8)
          exact t7.mono (same_new hq)
      · rintro σ H' ⟨ts, u, rfl, s3, eR3, rR3, eM3, tl⟩
        rw [List.length_reverse, lxs] at tl
        have e11 : (ps.reverse.map (conj t)).take ps.length = ps.reverse.map (conj t) := List.take_of_length_le (by rw [List.length_map, List.length_reverse]; exact Nat.le_refl _)
        rw [e11] at tl
        exact hNX _ _ ⟨ts, u, rfl, s3, eM3, tl⟩
end
end K63
set_option maxRecDepth 100000
set_option maxHeartbeats 2000000
namespace K63
open PySem PySem.Spec PyProof.Rows L2 TB TM
/-- a call with keywords whose exceptions are told by the slots -/
def tCallNS (n m : Nat) (sp : Sp) (gV : List V → List V → List V) (E : L2.St → XK) (t tk : TA) : TE :=
  fun σ H Q => t σ H fun vs H1 => tk σ H1 fun zs H2 => vs.length = n ∧ zs.length = m ∧ sp (gV vs zs) H2 Q (E σ)
section
variable {X : Cx} {CX : CXT} {k n : Nat} {f : Addr} {fd : FuncData} {ps ks : List Str} {sp : Sp} {E : L2.St → XK} {x : Str} {p pos : Pos} {e : Expr} {es : List Expr} {kws : List Keyword} {t tk : TA} {g : List Value → List Value → List Value} {gV : List V → List V → List V}
theorem pe_callNS (F : FnOk X.prog X.w X.K X.mg X.base CX k f fd ps sp) (hr : Room k X.A) (hg : Gl X x) (hm : X.mg x = some (.ref f)) (hk : PySem.W.keepIn X.K (.ref f) = true)
    (hb : KBn X.K fd ps n ks g gV) (hx : ∀ σ, PassesAt CX X σ (E σ)) (ha : PA X (e :: es) t) (hkw : PK X kws tk)
    (h1 : (backToKw pos (keywordEach kws X.env)).all (·.1.isSome) = true := by rfl)
    (h2 : (backToKw pos (keywordEach kws X.env)).filterMap (·.1) = ks := by rfl)
    (h3 : (x == ("__debug__" : Str)) = false := by decide)
    (h4 : starEach (e :: es) X.env = (false, eval e X.env) :: starEach es X.env := by rfl)
    (h5 : ((backTo pos (starEach (e :: es) X.env)).any (·.1) || (backToKw pos (keywordEach kws X.env)).any (·.1.isNone)) = false := by rfl) :
    PE X (.Call (.Name x p) (e :: es) kws pos) (tCallNS n ks.length sp gV E t tk) := by
  constructor
  intro pins s σ H Q I h
  apply wpAny_Call_Name_kw
  refine ld_glob I hg hm ?_ h3
  refine PySem.W.callWith_KW (h₀ := X.base) I.ok.mod.kin hk h1 (thn (ha.run pos pins s σ H _ I h) ?_) h5 h4
  rintro us s1 ⟨vs, H1, I1, r, q⟩
  refine thn (hkw.run pos pins s1 σ H1 _ I1 q) ?_
  rintro ws s2 ⟨zs, H2, I2, rz, l1, l2, q2⟩
  refine ⟨I2.kIn, ?_⟩
  rw [h2]
  refine wpAny_call (codeAny_mono (F.run X.A X.stack s2 H2 ⟨us, ks.zip ws⟩ (g us ws) (gV vs zs) Q (E σ) hr I2.env0 (hb.to s2 us ws I2.kIn (r.length.symm.trans l1) (rz.length.symm.trans l2)) (hb.rel r rz) q2) ?_)
  intro y s3 hq
  match y, hq with
  | .error u, hq => exact hx σ pins H2 s2 u s3 I2 hq
  | .ok (.ret _), hq => exact I2.after hq
  | .ok .next, hq => exact hq.elim
  | .ok .brk, hq => exact hq.elim
  | .ok .cont, hq => exact hq.elim
/-- a suite for one class of the caught -/
theorem pss_cls {sts : List Stmt} {u c : Value} {t : TS} (h : u = c → PSs X sts t) : PSs X sts (fun D σ H => u = c ∧ t D σ H) := ⟨fun pins s σ H D I q => (h q.1).run pins s σ H D I q.2⟩
end
theorem _root_.L2.FunD.okH {P : Program} {w : World} {K : PySem.W.Frag} {mg : Str → Option Value} {base : Heap} {x qual : Str} {params : Arguments} {body : List Stmt} {scope : Scope} {dvs : List V} {kws : List (Str × V)} {f : Addr} {fd : FuncData} {CX : CXT} {N ps : List Str} {k : Nat} {sp : Sp}
    (F : FunD K x qual params body scope dvs kws f fd) (S : FnScope N ps scope) (len : ∀ vs H Q E, sp vs H Q E → vs.length = ps.length)
    (hb : ∀ (cdv : Value) (A : Around) (outer : List Env) (s : Shared) (H : Hp) (vs : List V) (Q : VK) (E : XK) (p : Addr × Obj), L2H.Hot1 A p → L2H.RoomH k (A.deeper (envOfC qual scope s.heap.objs.size f cdv)) → sp vs H Q E →
      ∃ t, PSs (L2H.cxH CX P w K mg base N qual scope f cdv A outer s H E p) body t ∧ t { nx := fun _ H' => Q .non H', rt := Q } (L2.start N vs) H) : L2H.FnH P w K mg base CX (k + 1) f fd ps sp := by
  obtain ⟨_, _, _, _, _, _, _, cdv, _, _, rfl, lk, hcd, _, _⟩ := F.ex
  exact L2H.fn_ofH lk hcd S len fun A outer s H vs Q E p hot hr hsp => hb cdv A outer s H vs Q E p hot hr hsp
/-- a def that is called while an exception is handled -/
structure DnH (P : Program) (w : World) (K : PySem.W.Frag) (mg : Str → Option Value) (base : Heap) (k : Nat) (x : Str) (ps : List Str) (sp : Sp) : Prop where
  ex : ∃ (f : Addr) (fd : FuncData), mg x = some (.ref f) ∧ PySem.W.keepIn K (.ref f) = true ∧ L2H.FnH P w K mg base CX0 k f fd ps sp ∧ Binds K fd ps []
section
variable {P : Program} {w : World} {K : PySem.W.Frag} {mg : Str → Option Value} {base : Heap}
theorem dh__law_is_integer (c : Ctx K mg) : DnH P w K mg base 1 "_law_is_integer" ["told"] spIsInt := by
  have f_bool := c.f_bool
  have f_int := c.f_int
  have f_isinstance := c.f_isinstance
  have sc := sc__law_is_integer
  obtain ⟨fd, F⟩ := c.D__law_is_integer
  refine ⟨_, fd, c.g__law_is_integer, F.kp, F.okH sc (fun vs H Q E h => ?_) (fun cdv A outer s H vs Q E p hot hr h => ⟨_, PSs.nox (
(pss_one (ps_ret (pe_and (pe_callB (call_isiK1 (K := K) rfl) (by rfl) f_isinstance (by decide +kernel) (pa_cons (pv 0) (pa_cons (pe_bltn (v := .ty "int") (by rfl) f_int boot_int rfl) pa_nil))) (pe_one (pe_not (pe_callB (call_isiK1 (K := K) rfl) (by rfl) f_isinstance (by decide +kernel) (pa_cons (pv 0) (pa_cons (pe_bltn (v := .ty "bool") (by rfl) f_bool boot_bool rfl) pa_nil))))))))
    ), ?_⟩), F.bindsN fun _ _ _ _ _ _ us hl => match us, hl with | [_], _ => rfl⟩
  · obtain ⟨i, rfl, _⟩ := h
    rfl
  · obtain ⟨i, rfl, k⟩ := h
    exact ⟨_, rfl, _, _, _, _, true, rfl, .ty _, .base (.int i), kit_ty (by decide +kernel), _, rfl, _, rfl, _, _, _, _, false, rfl, .ty _, .base (.int i), kit_ty (by decide +kernel), _, rfl, k⟩
theorem dh__law_same (c : Ctx K mg) : DnH P w K mg base 2 "_law_same" ["told", "due"] spLawSame := by
  obtain ⟨f1, fd1, g1, k1, F1, b1⟩ := (dh__law_is_integer (P := P) (w := w) (base := base) c).ex
  have sc := sc__law_same
  obtain ⟨fd, F⟩ := c.D__law_same
  refine ⟨_, fd, c.g__law_same, F.kp, F.okH sc (fun vs H Q E h => ?_) (fun cdv A outer s H vs Q E p hot hr h => ⟨_, PSs.nox (
    (pss_one (ps_ret (pe_and (L2H.pe_callH (E := fun _ => E0) F1 ⟨hr.dp, hr.un⟩ ⟨p, hot, List.mem_cons_self⟩ (by rfl) g1 k1 b1 (fun σ _ _ _ _ _ _ h => h.elim) (pa_cons (pv 0) pa_nil)) (pe_one (pe_cmpR op_eq (pv 0) (pv 1) (nomark _))))))
    ), ?_⟩), F.bindsN fun _ _ _ _ _ _ us hl => match us, hl with | [_, _], _ => rfl⟩
  · obtain ⟨i, rfl, _⟩ := h
    rfl
  · obtain ⟨i, rfl, k⟩ := h
    exact ⟨_, rfl, i, rfl, _, rfl, _, rfl, _, rfl, rfl, bl_of (decide_eq_true rfl) k⟩
end
theorem hotC {X : Cx} {a : Addr} {oe : Obj} {cls : Value} {d : Option Addr} {pn : List (Addr × Obj)} (hz : L2N.Zn cls d oe) (hf : ∃ vs, oe.data = .fields vs) : L2H.HotC (X.suite a ((a, oe) :: pn)) := by
  obtain ⟨vs, e⟩ := hf
  exact ⟨(a, oe), ⟨rfl, vs, e, hz.2.2 vs e⟩, List.mem_cons_self⟩
def spRefuses (K : PySem.W.Frag) : Sp := fun vs H Q _ => ∃ (z a b : Addr) (n m : Nat) (limit : Int) (zs : List Str) (ps : List (List Nat)) (s t : List Nat), vs = [.ref z, .ref a, .ref b, .int limit] ∧ AskD K H z a b n m zs ps s t ∧ (okM limit → canS (2 * ps.length) (half limit) = false) ∧ ∀ H', Same H H' → Q (.bl true) H'
section
variable {w : World} {K : PySem.W.Frag} {mg : Str → Option Value} {base : Heap}
theorem dn__law_refuses (c : Ctx K mg) : Dn P w K mg base CX0 8 "_law_refuses" ["puzzle", "first", "second", "limit"] (spRefuses K) := by
  have f_isinstance := c.f_isinstance
  have f_ValueError := c.f_ValueError
  obtain ⟨f__distance, fd_distance, g_distance, k_distance, F_distance, ⟨gk_distance, kb_distance⟩, ds_distance, v_distance, b_distance⟩ := (dn_distance (w := w) (base := base) c).ex
  obtain ⟨f__law_same, fd__law_same, g__law_same, k__law_same, F__law_same, b__law_same⟩ := (dh__law_same (P := P) (w := w) (base := base) c).ex
  have sc := sc__law_refuses
  obtain ⟨fd, F⟩ := c.D__law_refuses
  have xT := c.xT
  have xL := c.xL
  have gT := c.g_TooMany
  have gL := c.g_InvalidLimit
  have gE := c.g_TumblerError
  refine ⟨_, fd, c.g__law_refuses, F.kp, F.ok sc (fun vs H Q E h => ?_) (fun cdv A outer s H vs Q E hr h => ⟨_, PSs.nox (pss_cons (ps_try_manyAs (tb := fun W => tDrop (tCallNS 3 1 (spDistance K) (fun vs zs => vs ++ zs) (WE W) (tCons (tVar 0) (tCons (tVar 1) (tCons (tVar 2) tNil))) (tCons (tVar 3) tNil)))
      (l := [(.ref (aT K), 4, _), (.ref (aL K), 5, _)]) (Wo := fun _ _ _ _ => False) rfl rfl sc.nd (takesN rfl)
      (fun W pn xe tk _ => pss_one (ps_expr (pe_callNS F_distance (hr.mono (by decide)) (by rfl) g_distance k_distance kb_distance (fun σ => L2N.passAt tk σ) (pa_cons (pv 0) (pa_cons (pv 1) (pa_cons (pv 2) pa_nil))) (pk_cons (pv 3) pk_nil))))
      (.cons ⟨rfl, by decide, .inl gT⟩ rfl rfl (fun a oe cls d pn hz hf => pss_cls (u := cls) (c := .ref (aT K)) fun ec => pss_cons
          (ps_if (PW.pt (pw_or (pt_not (pt_val (pe_callB (call_isED (K := K) rfl xT.exc (ec ▸ hz.zc) hf) (by rfl) f_isinstance (by decide +kernel) (pa_cons (pv 4) (pa_cons (pe_glob (v := .ref (aE K)) rfl gE rfl) pa_nil)))))
            (pw_or1 (pt_not (pt_val (pe_callB (call_isED (K := K) rfl xT.exc (ec ▸ hz.zc) hf) (by rfl) f_isinstance (by decide +kernel) (pa_cons (pv 4) (pa_cons (pe_bltn (v := .ty "ValueError") (by rfl) f_ValueError (by decide +kernel) rfl) pa_nil)))))))) (pss_one (ps_ret pe_bl)) pss_nil)
          (pss_one (ps_ret (pe_and (pe_chain op_le op_le pe_int (pv 3) pe_int) (pe_one (L2H.pe_callH (E := fun _ => E0) F__law_same ⟨(hr.mono (by decide : 2 ≤ 7)).dp, (hr.mono (by decide : 2 ≤ 7)).un⟩ (hotC hz hf) (by rfl) g__law_same k__law_same b__law_same (fun σ _ _ _ _ _ _ h => h.elim) (pa_cons (pe_xf xT.xf c.noT hz.zc hf (pv 4)) (pa_cons pe_int pa_nil))))))))
        (.cons ⟨rfl, by decide, .inl gL⟩ rfl rfl (fun a oe cls d pn hz hf => pss_cls (u := cls) (c := .ref (aL K)) fun ec => pss_cons
          (ps_if (PW.pt (pw_or (pt_not (pt_val (pe_callB (call_isED (K := K) rfl xL.exc (ec ▸ hz.zc) hf) (by rfl) f_isinstance (by decide +kernel) (pa_cons (pv 5) (pa_cons (pe_glob (v := .ref (aE K)) rfl gE rfl) pa_nil)))))
            (pw_or1 (pt_not (pt_val (pe_callB (call_isED (K := K) rfl xL.exc (ec ▸ hz.zc) hf) (by rfl) f_isinstance (by decide +kernel) (pa_cons (pv 5) (pa_cons (pe_bltn (v := .ty "ValueError") (by rfl) f_ValueError (by decide +kernel) rfl) pa_nil)))))))) (pss_one (ps_ret pe_bl)) pss_nil)
          (pss_one (ps_ret (pe_and (pe_or (pe_cmpR op_lt (pv 3) pe_int (nomark _)) (pe_one (pe_cmpR op_gt (pv 3) pe_int (nomark _)))) (pe_one (L2H.pe_callH (E := fun _ => E0) F__law_same ⟨(hr.mono (by decide : 2 ≤ 7)).dp, (hr.mono (by decide : 2 ≤ 7)).un⟩ (hotC hz hf) (by rfl) g__law_same k__law_same b__law_same (fun σ _ _ _ _ _ _ h => h.elim) (pa_cons (pe_xf xL.xf c.noL hz.zc hf (pv 5)) (pa_cons (pv 3) pa_nil))))))))
        .nil)))
      (pss_one (ps_ret pe_bl))), ?_⟩), F.bindsN fun _ _ _ _ _ _ us hl => match us, hl with | [_, _, _, _], _ => rfl⟩
  · obtain ⟨z, a, b, n, m, limit, zs, ps, s, t, rfl, _⟩ := h
    rfl
  · obtain ⟨z, a, b, n, m, limit, zs, ps, s, t, rfl, ask, hno, k⟩ := h
    refine ⟨_, rfl, _, rfl, _, rfl, _, rfl, rfl, rfl, z, a, b, n, m, limit, zs, ps, s, t, rfl, ask, fun hok hc => ?_, fun hok hc d H1 s1 hd => ?_, fun hok d H1 s1 hd => ?_⟩
    · rw [hno hok] at hc
      cases hc
    · refine ⟨true, c.mTT, fun _ x hx => ⟨rfl, ?_⟩, fun y => by cases y⟩
      refine ⟨_, rfl, .ref (aE K), .ref (aE K), true, rfl, fun u r => r, ⟨d, _, rfl, hd⟩, xT.kE, _, rfl, ?_⟩
      refine ⟨_, rfl, .ty "ValueError", .type "ValueError", true, rfl, fun u r => r, ⟨d, _, rfl, hd⟩, xT.kV, _, rfl, ?_⟩
      refine ⟨_, rfl, _, _, rfl, rfl, _, rfl, iteD (fun h0 => ?_) (fun h0 => absurd hok.1 h0)⟩
      refine ⟨_, _, rfl, rfl, _, rfl, iteD (fun h1 => ?_) (fun h1 => absurd hok.2 h1)⟩
      exact ⟨_, rfl, rfl, rfl, d, _, .int 4096, rfl, hd, rfl, 4096, rfl, k _ s1⟩
    · refine ⟨false, c.mLT, fun y => (by cases y), fun _ => ⟨true, c.mLL, fun _ x hx => ⟨rfl, ?_⟩, fun y => by cases y⟩⟩
      refine ⟨_, rfl, .ref (aE K), .ref (aE K), true, rfl, fun u r => r, ⟨d, _, rfl, hd⟩, xL.kE, _, rfl, ?_⟩
      refine ⟨_, rfl, .ty "ValueError", .type "ValueError", true, rfl, fun u r => r, ⟨d, _, rfl, hd⟩, xL.kV, _, rfl, ?_⟩
      have fin : ∀ (σ : L2.St) (Q2 : V → Hp → Prop), True := fun _ _ => trivial
      refine ⟨_, rfl, _, _, rfl, rfl, _, rfl, iteD (fun h0 => ?_) (fun h0 => ?_)⟩
      · exact ⟨_, rfl, _, rfl, rfl, rfl, d, _, .int limit, rfl, hd, rfl, _, rfl, limit, rfl, k _ s1⟩
      · refine ⟨_, rfl, _, _, rfl, rfl, _, rfl, iteD (fun h1 => ?_) (fun h1 => absurd ⟨by omega, by omega⟩ hok)⟩
        exact ⟨_, rfl, rfl, rfl, d, _, .int limit, rfl, hd, rfl, _, rfl, limit, rfl, k _ s1⟩
end
end K63
set_option maxRecDepth 100000
set_option maxHeartbeats 2000000
namespace K63
open PySem PySem.Spec PyProof.Rows L2 TB TM
theorem dist_ok {K : PySem.W.Frag} {H : Hp} {Q : VK} {E : XK} {z a b : Addr} {n m most : Nat} {zs : List Str} {ps : List (List Nat)} {s t : List Nat} (ask : AskD K H z a b n m zs ps s t) (h1 : most ≤ 24) (hc : canS (2 * ps.length) ((most + 1) / 2) = true)
    (k : ∀ r H', Same H H' → Dist (gens ps) s t most r → Q (oV r) H') : spDistance K [.ref z, .ref a, .ref b, .int (most : Int)] H Q E :=
  ⟨z, a, b, n, m, most, zs, ps, s, t, rfl, ask, (fun _ _ r H' s d => k r H' s d), (fun _ hc' => by
    have e : canS (2 * ps.length) (half (most : Int)) = true := hc
    rw [e] at hc'
    cases hc'), (fun hno => absurd ⟨by omega, by omega⟩ hno)⟩
theorem AskD.mono {K : PySem.W.Frag} {H H' : Hp} {z a b : Addr} {n m : Nat} {zs : List Str} {ps : List (List Nat)} {s t : List Nat} (h : AskD K H z a b n m zs ps s t) (sm : Same H H') : AskD K H' z a b n m zs ps s t :=
  ⟨h.pz.mono sm, h.good, h.ha.mono sm, h.hb.mono sm, h.hs, h.ht, h.ks, h.kt⟩
theorem conj_inv {n : Nat} {t g : List Nat} (ht : IsP n t) (hg : IsP n g) : inv (conj t g) = conj t (inv g) := by
  have hc := conj_isP ht hg
  have hi := conj_isP ht hg.inv
  have e : mul (conj t g) (conj t (inv g)) = List.range n := by
    rw [← conj_mul ht hg hg.inv, mul_inv hg]
    unfold conj
    rw [mul_one ht.inv, inv_mul ht]
  have e2 : mul (inv (conj t g)) (mul (conj t g) (conj t (inv g))) = conj t (inv g) := by rw [← mul_assoc hc.inv hc hi, inv_mul hc, one_mul hi]
  rw [e, mul_one hc.inv] at e2
  exact e2
theorem conj_inj {n : Nat} {t g h : List Nat} (ht : IsP n t) (hg : IsP n g) (hh : IsP n h) (e : conj t g = conj t h) : g = h := by
  rw [← conj_conj ht hg, ← conj_conj ht hh, e]
theorem ren_good {n m : Nat} {ps : List (List Nat)} {t : List Nat} (g : Good n m ps) (ht : IsP n t) : Good n 1 (ps.reverse.map (conj t)) := by
  obtain ⟨g1, g2, g3, g4, g5, g6, g7⟩ := g
  refine ⟨g1, g2, by decide, Nat.one_dvd _, by rw [List.length_map, List.length_reverse]; exact g5, fun p hp => ?_, fun p _ => KM.one⟩
  obtain ⟨q, hq, e⟩ := List.mem_map.mp hp
  rw [← e]
  exact conj_isP ht (g6 q (List.mem_reverse.mp hq))
theorem ren_gens {n : Nat} {ps : List (List Nat)} {t : List Nat} (h : ∀ p ∈ ps, IsP n p) (ht : IsP n t) (g : List Nat) (hg : IsP n g) : g ∈ gens ps ↔ conj t g ∈ gens (ps.reverse.map (conj t)) := by
  rw [mem_gens, mem_gens]
  constructor
  · rintro ⟨p, hp, e⟩
    refine ⟨conj t p, List.mem_map.mpr ⟨p, List.mem_reverse.mpr hp, rfl⟩, ?_⟩
    rcases e with e | e
    · exact .inl (by rw [e])
    · exact .inr (by rw [e, conj_inv ht (h p hp)])
  · rintro ⟨q, hq, e⟩
    obtain ⟨p, hp, ep⟩ := List.mem_map.mp hq
    have hp' := List.mem_reverse.mp hp
    refine ⟨p, hp', ?_⟩
    rcases e with e | e
    · exact .inl (conj_inj ht hg (h p hp') (by rw [e, ep]))
    · exact .inr (conj_inj ht hg (h p hp').inv (by rw [e, ← ep, conj_inv ht (h p hp')]))
def spSameElse (K : PySem.W.Frag) : Sp := fun vs H Q _ => ∃ (z z2 S sh to a b c : Addr) (n m limit : Nat) (zs zs2 : List Str) (ps : List (List Nat)) (s u h t : List Nat), vs = [.ref z, .ref z2, .ref S, .int (limit : Int), .ref sh, .ref to] ∧ H S = some (.lst [.ref a, .ref b, .ref c]) ∧ AskD K H z a b n m zs ps s u ∧
  Pz K H z2 n 1 zs2 (ps.reverse.map (conj t)) ∧ Tn H sh h ∧ IsP n h ∧ KM m n h ∧ Tn H to t ∧ IsP n t ∧ limit ≤ 24 ∧ canS (2 * ps.length) ((limit + 1) / 2) = true ∧
  ∀ (l : Addr) (r : Option Nat) (H' : Hp), Same H H' → H' l = some (.lst [oV r, oV r, oV r, oV r]) → Dist (gens ps) s u limit r → Q (.ref l) H'
section
variable {w : World} {K : PySem.W.Frag} {mg : Str → Option Value} {base : Heap}
theorem dn__law_same_elsewhere (c : Ctx K mg) : Dn P w K mg base CX0 8 "_law_same_elsewhere" ["puzzle", "renamed", "spots", "limit", "shift", "to"] (spSameElse K) := by
  obtain ⟨f__distance, fd_distance, g_distance, k_distance, F_distance, ⟨gk_distance, kb_distance⟩, ds_distance, v_distance, b_distance⟩ := (dn_distance (w := w) (base := base) c).ex
  obtain ⟨f___law_after, fd__law_after, g__law_after, k__law_after, F__law_after, b__law_after⟩ := (dn__law_after (P := P) (w := w) (base := base) c).ex
  obtain ⟨f___law_back, fd__law_back, g__law_back, k__law_back, F__law_back, b__law_back⟩ := (dn__law_back (P := P) (w := w) (base := base) c).ex
  have sc := sc__law_same_elsewhere
  obtain ⟨fd, F⟩ := c.D__law_same_elsewhere
  refine ⟨_, fd, c.g__law_same_elsewhere, F.kp, F.ok sc (fun vs H Q E h => ?_) (fun cdv A outer s H vs Q E hr h => ⟨_, PSs.nox ((pss_cons (ps_set (i := 6) sc.nd rfl (by first | exact Or.inl rfl | exact Or.inr rfl) (pe_ix (ix_listK (K := K) rfl) (pv 2) pe_int (fun _ _ => rfl)))
  (pss_cons (ps_set (i := 7) sc.nd rfl (by first | exact Or.inl rfl | exact Or.inr rfl) (pe_ix (ix_listK (K := K) rfl) (pv 2) pe_int (fun _ _ => rfl)))
  (pss_cons (ps_set (i := 8) sc.nd rfl (by first | exact Or.inl rfl | exact Or.inr rfl) (pe_call F__law_back (hr.mono (by decide)) (by rfl) g__law_back k__law_back b__law_back nil_v pass0 (pa_cons (pv 5) pa_nil)))
  (pss_cons (ps_set (i := 9) sc.nd rfl (by first | exact Or.inl rfl | exact Or.inr rfl) (pe_lst (pa_cons (pe_callN F_distance (hr.mono (by decide)) (by rfl) g_distance k_distance kb_distance passN (pa_cons (pv 0) (pa_cons (pv 7) (pa_cons (pv 6) pa_nil))) (pk_cons (pv 3) pk_nil)) pa_nil)))
  (pss_cons (ps_expr (pe_bm PySem.F.plainAttrs_list PySem.F.slot_list_append PySem.F.type_list_append mt_append (pv 9) (pa_cons (pe_callN F_distance (hr.mono (by decide)) (by rfl) g_distance k_distance kb_distance passN (pa_cons (pv 0) (pa_cons (pe_call F__law_after (hr.mono (by decide)) (by rfl) g__law_after k__law_after b__law_after nil_v pass0 (pa_cons (pv 4) (pa_cons (pv 6) pa_nil))) (pa_cons (pe_call F__law_after (hr.mono (by decide)) (by rfl) g__law_after k__law_after b__law_after nil_v pass0 (pa_cons (pv 4) (pa_cons (pv 7) pa_nil))) pa_nil))) (pk_cons (pv 3) pk_nil)) pa_nil)))
  (pss_cons (ps_set (i := 10) sc.nd rfl (by first | exact Or.inl rfl | exact Or.inr rfl) (pe_lst (pa_cons (pe_call F__law_after (hr.mono (by decide)) (by rfl) g__law_after k__law_after b__law_after nil_v pass0 (pa_cons (pe_call F__law_after (hr.mono (by decide)) (by rfl) g__law_after k__law_after b__law_after nil_v pass0 (pa_cons (pv 8) (pa_cons (pv 6) pa_nil))) (pa_cons (pv 5) pa_nil))) (pa_cons (pe_call F__law_after (hr.mono (by decide)) (by rfl) g__law_after k__law_after b__law_after nil_v pass0 (pa_cons (pe_call F__law_after (hr.mono (by decide)) (by rfl) g__law_after k__law_after b__law_after nil_v pass0 (pa_cons (pv 8) (pa_cons (pv 7) pa_nil))) (pa_cons (pv 5) pa_nil))) pa_nil))))
  (pss_cons (ps_expr (pe_bm PySem.F.plainAttrs_list PySem.F.slot_list_append PySem.F.type_list_append mt_append (pv 9) (pa_cons (pe_callN F_distance (hr.mono (by decide)) (by rfl) g_distance k_distance kb_distance passN (pa_cons (pv 1) (pa_cons (pe_ix (ix_listK (K := K) rfl) (pv 10) pe_int (fun _ _ => rfl)) (pa_cons (pe_ix (ix_listK (K := K) rfl) (pv 10) pe_int (fun _ _ => rfl)) pa_nil))) (pk_cons (pv 3) pk_nil)) pa_nil)))
  (pss_cons (ps_expr (pe_bm PySem.F.plainAttrs_list PySem.F.slot_list_append PySem.F.type_list_append mt_append (pv 9) (pa_cons (pe_callN F_distance (hr.mono (by decide)) (by rfl) g_distance k_distance kb_distance passN (pa_cons (pv 0) (pa_cons (pv 6) (pa_cons (pv 7) pa_nil))) (pk_cons (pv 3) pk_nil)) pa_nil)))
  (pss_one (ps_ret (pv 9)))))))))))), ?_⟩), F.bindsN fun _ _ _ _ _ _ us hl => match us, hl with | [_, _, _, _, _, _], _ => rfl⟩
  · obtain ⟨z, z2, S, sh, to, a, b, c, n, m, limit, zs, zs2, ps, s, u, h, t, rfl, _⟩ := h
    rfl
  · obtain ⟨z, z2, S, sh, to, a, b, c3, n, m, limit, zs, zs2, ps, s, u, h, t, rfl, hS, ask, pz2, hsh, hhP, hhK, hto, htP, hl, hcs, k⟩ := h
    have hP : ∀ p ∈ ps, IsP n p := ask.good.2.2.2.2.2.1
    have h24 := ask.good.2.1
    have hSym := gens_sym hP
    have uniq : ∀ {r0 r1 : Option Nat}, Dist (gens ps) s u limit r0 → Dist (gens ps) s u limit r1 → r1 = r0 := fun a b => b.uniq a
    refine ⟨_, rfl, S, _, _, _, rfl, rfl, SqL.of hS, atI_nat (j := 0) rfl, ?_⟩
    refine ⟨_, rfl, S, _, _, _, rfl, rfl, SqL.of hS, atI_nat (j := 1) rfl, ?_⟩
    refine ⟨_, rfl, to, t, n, rfl, hto, htP, by omega, fun bk H1 s1 t1 => ?_⟩
    have ask1 := ask.mono s1
    have hti := htP.inv
    have sw : AskD K H1 z b a n m zs ps u s := ⟨ask1.pz, ask1.good, ask1.hb, ask1.ha, ask1.ht, ask1.hs, ask1.kt, ask1.ks⟩
    refine ⟨_, rfl, _, rfl, _, rfl, _, rfl, rfl, rfl, dist_ok sw hl hcs fun r H2 s2 d1 => ?_⟩
    have dr : Dist (gens ps) s u limit r := d1.iff fun k => ⟨fun w => w.symm hSym ask.ht, fun w => w.symm hSym ask.hs⟩
    refine ⟨szk rfl, fun M hM => ?_⟩
    have hHM : H M = none := by
      cases q : H M with
      | none => rfl
      | some o =>
        rw [(s1.trans s2) _ _ q] at hM
        cases hM
    have s13 := (s1.trans s2).trans (same_new (o := .lst [oV r]) hM)
    have e3 : (upd H2 M (.lst [oV r])) M = some (.lst [oV r]) := upd_same
    dsimp only [gName]
    have tb3 : Tn (upd H2 M (.lst [oV r])) bk (inv t) := (t1.mono s2).mono (same_new hM)
    generalize upd H2 M (.lst [oV r]) = H3 at s13 e3 tb3 ⊢
    have lenOK : ∀ {p q : List Nat}, IsP n p → IsP n q → p.length = q.length ∧ (∀ x ∈ p, x < q.length) ∧ p.length ≤ 100 := fun hp hq => ⟨by rw [hp.len, hq.len], fun x hx => by rw [hq.len]; exact hp.lt x hx, by rw [hp.len]; omega⟩
    have hs := ask.hs
    have hu := ask.ht
    refine ⟨_, rfl, tyL e3, _, rfl, _, rfl, _, rfl, sh, a, h, s, rfl, hsh.mono s13, ask.ha.mono s13, (lenOK hhP hs).1, (lenOK hhP hs).2.1, (lenOK hhP hs).2.2, fun c4 H4 s4 t4 => ?_⟩
    refine ⟨_, rfl, _, rfl, sh, b, h, u, rfl, (hsh.mono s13).mono s4, (ask.hb.mono s13).mono s4, (lenOK hhP hu).1, (lenOK hhP hu).2.1, (lenOK hhP hu).2.2, fun c5 H5 s5 t5 => ?_⟩
    have s35 := s4.trans s5
    have s15 := s13.trans s35
    have g3 : 0 < m := ask.good.2.2.1
    have g4 : m ∣ n := ask.good.2.2.2.1
    have ask5 := ask.mono s15
    have sw2 : AskD K H5 z c4 c5 n m zs ps (mul h s) (mul h u) := ⟨ask5.pz, ask5.good, t4.mono s5, t5, hhP.mul hs, hhP.mul hu, KM.mul g3 g4 hhP hs hhK ask.ks, KM.mul g3 g4 hhP hu hhK ask.kt⟩
    refine ⟨_, rfl, rfl, rfl, dist_ok sw2 hl hcs fun r2 H6 s6 d2 => ?_⟩
    have er2 := (uniq dr (d2.iff fun k => W.left_iff hSym hhP hs hu)).symm
    subst er2
    have s36 := s35.trans s6
    have e6 := s36 _ _ e3
    refine ⟨M, _, _, rfl, rfl, e6, szk rfl, ?_⟩
    have s17 := Same.upd_of (o := .lst [oV r, oV r]) (s15.trans s6) hHM
    have e7 : (upd H6 M (.lst [oV r, oV r])) M = some (.lst [oV r, oV r]) := upd_same
    have tb7 : Tn (upd H6 M (.lst [oV r, oV r])) bk (inv t) := (Tps.upd e6).tn (tb3.mono s36)
    show tSeq _ _ _ _ (upd H6 M (.lst [oV r, oV r]))
    generalize upd H6 M (.lst [oV r, oV r]) = H7 at s17 e7 tb7 ⊢
    refine ⟨_, rfl, _, rfl, bk, a, inv t, s, rfl, tb7, ask.ha.mono s17, (lenOK hti hs).1, (lenOK hti hs).2.1, (lenOK hti hs).2.2, fun c6 H8 s8 t8 => ?_⟩
    have m1 := hti.mul hs
    refine ⟨_, rfl, c6, to, _, t, rfl, t8, (hto.mono s17).mono s8, (lenOK m1 htP).1, (lenOK m1 htP).2.1, (lenOK m1 htP).2.2, fun c7 H9 s9 t9 => ?_⟩
    have s79 := s8.trans s9
    refine ⟨_, rfl, _, rfl, bk, b, inv t, u, rfl, tb7.mono s79, (ask.hb.mono s17).mono s79, (lenOK hti hu).1, (lenOK hti hu).2.1, (lenOK hti hu).2.2, fun c8 H10 s10 t10 => ?_⟩
    have m2 := hti.mul hu
    have s710 := s79.trans s10
    refine ⟨_, rfl, c8, to, _, t, rfl, t10, (hto.mono s17).mono s710, (lenOK m2 htP).1, (lenOK m2 htP).2.1, (lenOK m2 htP).2.2, fun c9 H11 s11 t11 => ⟨szk rfl, fun E1 hE1 => ?_⟩⟩
    have s911 := s10.trans s11
    have s12 := same_new (o := .lst [.ref c7, .ref c9]) hE1
    have eE : (upd H11 E1 (.lst [.ref c7, .ref c9])) E1 = some (.lst [.ref c7, .ref c9]) := upd_same
    dsimp only [gName]
    have s712 := (s710.trans s11).trans s12
    have f7 := ((t9.mono s911).mono s12)
    have f9 := t11.mono s12
    generalize upd H11 E1 (.lst [.ref c7, .ref c9]) = H12 at s12 eE s712 f7 f9 ⊢
    have e12 := s712 _ _ e7
    have s112 := s17.trans s712
    have hg2 := ren_good ask.good htP
    have ask3 : AskD K H12 z2 c7 c9 n 1 zs2 (ps.reverse.map (conj t)) (conj t s) (conj t u) := ⟨pz2.mono s112, hg2, f7, f9, conj_isP htP hs, conj_isP htP hu, KM.one, KM.one⟩
    have len2 : (ps.reverse.map (conj t)).length = ps.length := by rw [List.length_map, List.length_reverse]
    refine ⟨_, rfl, tyL e12, _, rfl, _, rfl, E1, _, _, _, rfl, rfl, SqL.of eE, atI_nat (j := 0) rfl, _, rfl, E1, _, _, _, rfl, rfl, SqL.of eE, atI_nat (j := 1) rfl, _, rfl, rfl, rfl, dist_ok ask3 hl (by rw [len2]; exact hcs) fun r3 H13 s13' d3 => ?_⟩
    have er3 := (uniq dr (d3.iff fun k => W.conj_iff hSym htP (gens_sym hg2.2.2.2.2.2.1) (ren_gens hP htP) hs hu)).symm
    subst er3
    have e13 := s13' _ _ e12
    refine ⟨M, _, _, rfl, rfl, e13, szk rfl, ?_⟩
    have s114 := Same.upd_of (o := .lst [oV r, oV r, oV r]) (s112.trans s13') hHM
    have e14 : (upd H13 M (.lst [oV r, oV r, oV r])) M = some (.lst [oV r, oV r, oV r]) := upd_same
    show tSeq _ _ _ _ (upd H13 M (.lst [oV r, oV r, oV r]))
    generalize upd H13 M (.lst [oV r, oV r, oV r]) = H14 at s114 e14 ⊢
    refine ⟨_, rfl, tyL e14, _, rfl, _, rfl, _, rfl, _, rfl, rfl, rfl, dist_ok (ask.mono s114) hl hcs fun r4 H15 s15' d4 => ?_⟩
    have er4 := (uniq dr d4).symm
    subst er4
    have e15 := s15' _ _ e14
    refine ⟨M, _, _, rfl, rfl, e15, szk rfl, _, rfl, ?_⟩
    exact k M r _ (Same.upd_of (s114.trans s15') hHM) upd_same dr
end
end K63
set_option maxRecDepth 100000
set_option maxHeartbeats 2000000
namespace K63
open PySem PySem.Spec PyProof.Rows L2 TB TM
/-- what the ball tells of two positions -/
def Near (gs : List (List Nat)) (s v : List Nat) (reach : Nat) (near : Int) : Prop := (∃ d : Nat, near = (d : Int) ∧ Ex gs d s v ∧ d ≤ 24) ∨ (near = -1 ∧ ∀ j, j ≤ reach → ¬ W gs j s v)
theorem near_of {n reach : Nat} {ps : List (List Nat)} {s v : List Nat} {kvs : List (List Key × V)} (hP : ∀ p ∈ ps, IsP n p) (hs : IsP n s) (hv : IsP n v) (hB : BallR (gens ps) n kvs reach) :
    ∃ near : Int, (valV kvs (nk (mul (inv s) v))).getD (.int (-1)) = .int near ∧ Near (gens ps) s v reach near := by
  have hw : ∀ j, W (gens ps) j (List.range n) (mul (inv s) v) ↔ W (gens ps) j s v := fun j => by
    rw [← inv_mul hs]
    exact W.left_iff (gens_sym hP) hs.inv hs hv
  rcases hB (mul (inv s) v) with ⟨d, e, x, hd⟩ | ⟨e, hn⟩
  · exact ⟨(d : Int), by rw [e]; rfl, .inl ⟨d, rfl, ⟨(hw d).mp x.1, fun j hj w => x.2 j hj ((hw j).mpr w)⟩, hd⟩⟩
  · exact ⟨-1, by rw [e]; rfl, .inr ⟨rfl, fun j hj w => hn j hj ((hw j).mpr w)⟩⟩
theorem goNext {D : Ends} {σ : L2.St} {H : Hp} (h : D.nx σ H) : tNext D σ H := h
theorem right_of {gs : List (List Nat)} {s v : List Nat} {reach limit : Nat} {near : Int} {r : Option Nat} (hN : Near gs s v reach near) (hd : Dist gs s v limit r) : RightOk r near (reach : Int) (limit : Int) := by
  unfold RightOk
  rcases hN with ⟨d, e, x, h24⟩ | ⟨e, hn⟩
  · subst e
    by_cases h : d ≤ limit
    · rw [if_pos ⟨by omega, by omega⟩]
      exact ⟨d, hd.uniq (b := some d) ⟨h, x⟩, rfl⟩
    · rw [if_neg (fun z => h (by omega)), if_pos (.inl (by omega))]
      cases r with
      | none => rfl
      | some c =>
        have := hd.2.uniq x
        have := hd.1
        omega
  · subst e
    rw [if_neg (fun z => by omega)]
    by_cases h : limit ≤ reach
    · rw [if_pos (.inr (by omega))]
      cases r with
      | none => rfl
      | some c => exact absurd hd.2.1 (hn c (Nat.le_trans hd.1 h))
    · rw [if_neg (fun z => by omega)]
      intro c hc
      subst hc
      refine ⟨?_, by have := hd.1; omega⟩
      rcases Nat.lt_or_ge reach c with z | z
      · omega
      · exact absurd hd.2.1 (hn c z)
theorem canS_of {b e d : Nat} (h : EdgeOk b e) (hd : d ≤ e) : canS b d = true := List.all_eq_true.mpr fun i hi => decide_eq_true (h.2.1 i (by have := List.mem_range.mp hi; omega))
theorem canS_not {b e : Nat} (h : EdgeOk b e) (he : e < 12) : canS b (e + 1) = false := List.all_eq_false.mpr ⟨e, List.mem_range.mpr (by omega), by rw [decide_eq_true_eq]; have := h.2.2 he; omega⟩
theorem canS_small {b d : Nat} (hb : b ≤ 16) (hd : d ≤ 3) : canS b d = true := List.all_eq_true.mpr fun i hi => decide_eq_true (by
  have hi := List.mem_range.mp hi
  have h1 : b ^ (i + 1) ≤ 16 ^ (i + 1) := Nat.pow_le_pow_left hb _
  have h2 : (16 : Nat) ^ (i + 1) ≤ 16 ^ 3 := Nat.pow_le_pow_right (by decide) (by omega)
  exact Nat.le_trans h1 h2)
def spLimits (K : PySem.W.Frag) : Sp := fun vs H Q _ => ∃ (pu z S F d a b c3 : Addr) (n m e reach : Nat) (zs : List Str) (ps : List (List Nat)) (s u v : List Nat) (kvs : List (List Key × V)), vs = [.ref pu, .ref z, .ref S, .ref F, .int ((2 * e : Nat) : Int)] ∧ PU H pu ∧ S ≠ pu ∧ H S = some (.lst [.ref a, .ref b, .ref c3]) ∧
  AskD K H z a b n m zs ps s u ∧ AskD K H z a c3 n m zs ps s v ∧ H F = some (.lst [.ref d, .int (reach : Int)]) ∧ H d = some (.dT kvs) ∧ BallR (gens ps) n kvs reach ∧ EdgeOk (2 * ps.length) e ∧ ∀ H', Q (.bl true) H'
section
variable {w : World} {K : PySem.W.Frag} {mg : Str → Option Value} {base : Heap}
theorem dn__law_limits (c : Ctx K mg) : Dn P w K mg base CX0 9 "_law_limits" ["purse", "puzzle", "spots", "found", "edge"] (spLimits K) := by
  have f_len := c.f_len
  obtain ⟨f___law_refuses, fd__law_refuses, g__law_refuses, k__law_refuses, F__law_refuses, b__law_refuses⟩ := (dn__law_refuses (w := w) (base := base) c).ex
  obtain ⟨f___law_draw, fd__law_draw, g__law_draw, k__law_draw, F__law_draw, b__law_draw⟩ := (dn__law_draw (P := P) (w := w) (base := base) c).ex
  obtain ⟨f___law_right, fd__law_right, g__law_right, k__law_right, F__law_right, b__law_right⟩ := (dn__law_right (P := P) (w := w) (base := base) c).ex
  obtain ⟨f__distance, fd_distance, g_distance, k_distance, F_distance, ⟨gk_distance, kb_distance⟩, ds_distance, v_distance, b_distance⟩ := (dn_distance (w := w) (base := base) c).ex
  obtain ⟨f___law_between, fd__law_between, g__law_between, k__law_between, F__law_between, b__law_between⟩ := (dn__law_between (P := P) (w := w) (base := base) c).ex
  obtain ⟨f___law_same, fd__law_same, g__law_same, k__law_same, F__law_same, b__law_same⟩ := (dn__law_same (P := P) (w := w) (base := base) c).ex
  have sc := sc__law_limits
  obtain ⟨fd, F⟩ := c.D__law_limits
  refine ⟨_, fd, c.g__law_limits, F.kp, F.ok sc (fun vs H Q E h => ?_) (fun cdv A outer s H vs Q E hr h => ⟨_, PSs.nox ((pss_cons (ps_set (i := 5) sc.nd rfl (by first | exact Or.inl rfl | exact Or.inr rfl) (pe_call F__law_between (hr.mono (by decide)) (by rfl) g__law_between k__law_between b__law_between nil_v pass0 (pa_cons (pe_ix (ix_listK (K := K) rfl) (pv 3) pe_int (fun _ _ => rfl)) (pa_cons (pe_ix (ix_listK (K := K) rfl) (pv 2) pe_int (fun _ _ => rfl)) (pa_cons (pe_ix (ix_listK (K := K) rfl) (pv 2) pe_int (fun _ _ => rfl)) pa_nil)))))
  (pss_cons (ps_if (pt_chain op_le op_le pe_int (pv 5) (pv 4)) (pss_cons (ps_if (pt_not (pt_val (pe_call F__law_same (hr.mono (by decide)) (by rfl) g__law_same k__law_same b__law_same nil_v pass0 (pa_cons (pe_callN F_distance (hr.mono (by decide)) (by rfl) g_distance k_distance kb_distance passN (pa_cons (pv 1) (pa_cons (pe_ix (ix_listK (K := K) rfl) (pv 2) pe_int (fun _ _ => rfl)) (pa_cons (pe_ix (ix_listK (K := K) rfl) (pv 2) pe_int (fun _ _ => rfl)) pa_nil))) (pk_cons (pv 5) pk_nil)) (pa_cons (pv 5) pa_nil))))) (pss_one (ps_ret pe_bl)) pss_nil)
  (pss_one (ps_if (PW.pt (pw_and (pt_cmpR op_gt (pv 5) pe_int (nomark _)) (pw_and1 (pt_cmpR op_notN (pe_callN F_distance (hr.mono (by decide)) (by rfl) g_distance k_distance kb_distance passN (pa_cons (pv 1) (pa_cons (pe_ix (ix_listK (K := K) rfl) (pv 2) pe_int (fun _ _ => rfl)) (pa_cons (pe_ix (ix_listK (K := K) rfl) (pv 2) pe_int (fun _ _ => rfl)) pa_nil))) (pk_cons (pe_op op_sub (pv 5) pe_int) pk_nil)) pe_non (nomark _))))) (pss_one (ps_ret pe_bl)) pss_nil))) pss_nil)
  (pss_cons (ps_set (i := 6) sc.nd rfl (by first | exact Or.inl rfl | exact Or.inr rfl) (pe_call F__law_between (hr.mono (by decide)) (by rfl) g__law_between k__law_between b__law_between nil_v pass0 (pa_cons (pe_ix (ix_listK (K := K) rfl) (pv 3) pe_int (fun _ _ => rfl)) (pa_cons (pe_ix (ix_listK (K := K) rfl) (pv 2) pe_int (fun _ _ => rfl)) (pa_cons (pe_ix (ix_listK (K := K) rfl) (pv 2) pe_int (fun _ _ => rfl)) pa_nil)))))
  (pss_cons (ps_if (pt_not (pt_val (pe_call F__law_right (hr.mono (by decide)) (by rfl) g__law_right k__law_right b__law_right nil_v pass0 (pa_cons (pe_call F_distance (hr.mono (by decide)) (by rfl) g_distance k_distance b_distance v_distance passN (pa_cons (pv 1) (pa_cons (pe_ix (ix_listK (K := K) rfl) (pv 2) pe_int (fun _ _ => rfl)) (pa_cons (pe_ix (ix_listK (K := K) rfl) (pv 2) pe_int (fun _ _ => rfl)) pa_nil)))) (pa_cons (pv 6) (pa_cons (pe_ix (ix_listK (K := K) rfl) (pv 3) pe_int (fun _ _ => rfl)) (pa_cons pe_int pa_nil))))))) (pss_one (ps_ret pe_bl)) pss_nil)
  (pss_cons (ps_if (PW.pt (pw_and (pt_cmpR op_le (pe_callB call_len_dT (by rfl) f_len boot_len (pa_cons (pe_ix (ix_listK (K := K) rfl) (pv 3) pe_int (fun _ _ => rfl)) pa_nil)) pe_int (nomark _)) (pw_and1 (pt_cmpR op_eq (pe_ix (ix_listK (K := K) rfl) (pv 3) pe_int (fun _ _ => rfl)) pe_int (nomark _))))) (pss_one (ps_if (pt_not (pt_val (pe_call F__law_right (hr.mono (by decide)) (by rfl) g__law_right k__law_right b__law_right nil_v pass0 (pa_cons (pe_callN F_distance (hr.mono (by decide)) (by rfl) g_distance k_distance kb_distance passN (pa_cons (pv 1) (pa_cons (pe_ix (ix_listK (K := K) rfl) (pv 2) pe_int (fun _ _ => rfl)) (pa_cons (pe_ix (ix_listK (K := K) rfl) (pv 2) pe_int (fun _ _ => rfl)) pa_nil))) (pk_cons (pv 4) pk_nil)) (pa_cons (pv 6) (pa_cons pe_int (pa_cons (pv 4) pa_nil))))))) (pss_one (ps_ret pe_bl)) pss_nil)) pss_nil)
  (pss_cons (ps_if (PW.pt (pw_and (pt_cmpR op_lt (pv 4) pe_int (nomark _)) (pw_and1 (pt_not (pt_val (pe_call F__law_refuses (hr.mono (by decide)) (by rfl) g__law_refuses k__law_refuses b__law_refuses nil_v pass0 (pa_cons (pv 1) (pa_cons (pe_ix (ix_listK (K := K) rfl) (pv 2) pe_int (fun _ _ => rfl)) (pa_cons (pe_ix (ix_listK (K := K) rfl) (pv 2) pe_int (fun _ _ => rfl)) (pa_cons (pe_op op_add (pv 4) pe_int) pa_nil)))))))))) (pss_one (ps_ret pe_bl)) pss_nil)
  (pss_cons (ps_set (i := 7) sc.nd rfl (by first | exact Or.inl rfl | exact Or.inr rfl) (pe_call F__law_draw (hr.mono (by decide)) (by rfl) g__law_draw k__law_draw b__law_draw nil_v pass0 (pa_cons (pv 0) (pa_cons pe_int pa_nil))))
  (pss_one (ps_ret (pe_call F__law_refuses (hr.mono (by decide)) (by rfl) g__law_refuses k__law_refuses b__law_refuses nil_v pass0 (pa_cons (pv 1) (pa_cons (pe_ix (ix_listK (K := K) rfl) (pv 2) pe_int (fun _ _ => rfl)) (pa_cons (pe_ix (ix_listK (K := K) rfl) (pv 2) pe_int (fun _ _ => rfl)) (pa_cons (pe_ix (ix_listK (K := K) rfl) (pe_lst (pa_cons (pe_un un_neg pe_int) (pa_cons (pe_un un_neg pe_int) (pa_cons (pe_un un_neg pe_int) (pa_cons pe_int (pa_cons pe_int (pa_cons pe_int pa_nil))))))) (pv 7) (fun _ _ => rfl)) pa_nil))))))))))))))), ?_⟩), F.bindsN fun _ _ _ _ _ _ us hl => match us, hl with | [_, _, _, _, _], _ => rfl⟩
  · obtain ⟨pu, z, S, F, d, a, b, c3, n, m, e, reach, zs, ps, s, u, v, kvs, rfl, _⟩ := h
    rfl
  · obtain ⟨pu, z, S, F, d, a, b, c3, n, m, e, reach, zs, ps, s, u, v, kvs, rfl, hpu, hSp, hS, ask1, ask2, hF, hd, hB, hE, k⟩ := h
    have hP : ∀ p ∈ ps, IsP n p := ask1.good.2.2.2.2.2.1
    have h8 : ps.length ≤ 8 := ask1.good.2.2.2.2.1
    have h24 := ask1.good.2.1
    have he12 := hE.1
    obtain ⟨near, en, hN⟩ := near_of hP ask1.hs ask1.ht hB
    obtain ⟨far, ef, hFr⟩ := near_of hP ask2.hs ask2.ht hB
    refine ⟨_, rfl, F, _, _, _, rfl, rfl, SqL.of hF, atI_nat (j := 0) rfl, _, rfl, S, _, _, _, rfl, rfl, SqL.of hS, atI_nat (j := 0) rfl, _, rfl, S, _, _, _, rfl, rfl, SqL.of hS, atI_nat (j := 1) rfl, d, a, b, kvs, n, s, u, rfl, hd, ask1.ha, ask1.hb, ask1.hs, ask1.ht, h24, fun H1 s1 => ?_⟩
    rw [en]
    dsimp only [gName]
    refine cut (a := tIfS _ _ _) (fun σ H' => σ = [some (.ref pu), some (.ref z), some (.ref S), some (.ref F), some (.int ((2 * e : Nat) : Int)), some (.int near), none, none] ∧ Same H H') ?_ fun N hNx => ?_
    · rintro σ H2 ⟨rfl, s2⟩
      have hS2 := s2 _ _ hS
      have hF2 := s2 _ _ hF
      refine ⟨_, rfl, F, _, _, _, rfl, rfl, SqL.of hF2, atI_nat (j := 0) rfl, _, rfl, S, _, _, _, rfl, rfl, SqL.of hS2, atI_nat (j := 0) rfl, _, rfl, S, _, _, _, rfl, rfl, SqL.of hS2, atI_nat (j := 2) rfl, d, a, c3, kvs, n, s, v, rfl, s2 _ _ hd, (ask2.mono s2).ha, (ask2.mono s2).hb, ask2.hs, ask2.ht, h24, fun H3 s3 => ?_⟩
      rw [ef]
      dsimp only [gName]
      have s03 := s2.trans s3
      have hS3 := s03 _ _ hS
      have hF3 := s03 _ _ hF
      refine ⟨_, rfl, _, rfl, S, _, _, _, rfl, rfl, SqL.of hS3, atI_nat (j := 0) rfl, _, rfl, S, _, _, _, rfl, rfl, SqL.of hS3, atI_nat (j := 2) rfl, ?_⟩
      have c6 : canS (2 * ps.length) (half 6) = true := canS_small (by omega) (by decide)
      refine ⟨z, a, c3, n, m, 6, zs, ps, s, v, rfl, ask2.mono s03, (fun _ _ r H4 s4 d4' => ?_), (fun _ hc' => by rw [c6] at hc'; cases hc'), (fun hno => absurd (by decide) hno)⟩
      have d4 : Dist (gens ps) s v 6 r := d4'
      have s04 := s03.trans s4
      have hF4 := s04 _ _ hF
      refine ⟨_, rfl, _, rfl, F, _, _, _, rfl, rfl, SqL.of hF4, atI_nat (j := 1) rfl, r, far, _, _, rfl, right_of hFr d4, _, rfl, iteF (goNext ?_)⟩
      dsimp only
      refine cut (a := tIfS _ _ _) (fun σ H' => σ = [some (.ref pu), some (.ref z), some (.ref S), some (.ref F), some (.int ((2 * e : Nat) : Int)), some (.int near), some (.int far), none] ∧ Same H H') ?_ fun N2 hN2 => ?_
      · rintro σ H5 ⟨rfl, s5⟩
        have hS5 := s5 _ _ hS
        refine cut (a := tIfS _ _ _) (fun σ H' => σ = [some (.ref pu), some (.ref z), some (.ref S), some (.ref F), some (.int ((2 * e : Nat) : Int)), some (.int near), some (.int far), none] ∧ Same H H') ?_ fun N3 hN3 => ?_
        · rintro σ H6 ⟨rfl, s6⟩
          refine ⟨_, rfl, pu, 6, rfl, hpu.mono s6, by decide, by decide, fun pk H7 b7 p7 hpk => ?_⟩
          dsimp only [gName]
          have hS7 : H7 S = some (.lst [.ref a, .ref b, .ref c3]) := b7 _ _ hSp (s6 _ _ hS)
          have t7 : Tps H6 H7 := (hpu.mono s6).tps b7
          have pn : ∀ {x : Addr} {o : HO}, H6 x = some o → (∀ xs, o ≠ .lst xs) → H7 x = some o := fun {x o} hx ho => by
            obtain ⟨_, _, _, _, ep, _⟩ := hpu.mono s6
            refine b7 _ _ (fun q => ?_) hx
            rw [q, ep] at hx
            exact ho _ (Option.some.inj hx).symm
          have ask6 := ask1.mono s6
          have ask7 : AskD K H7 z a b n m zs ps s u := by
            obtain ⟨dx, na, pa, xs, q1, q2, q3, q4, q5⟩ := ask6.pz
            exact ⟨⟨dx, na, pa, xs, pn q1 (fun _ q => by cases q), t7 _ _ q2, t7 _ _ q3, t7.rw q4, q5⟩, ask6.good, t7.tn ask6.ha, t7.tn ask6.hb, ask6.hs, ask6.ht, ask6.ks, ask6.kt⟩
          refine ⟨_, rfl, _, rfl, S, _, _, _, rfl, rfl, SqL.of hS7, atI_nat (j := 0) rfl, _, rfl, S, _, _, _, rfl, rfl, SqL.of hS7, atI_nat (j := 1) rfl, _, rfl, _, rfl, _, rfl, szk rfl, fun E1 hE1 => ?_⟩
          obtain ⟨lim, hlim, hbad⟩ : ∃ lim : Int, ([.int (-1), .int (-2), .int (-3), .int 25, .int 26, .int 27] : List V)[pk]? = some (.int lim) ∧ ¬ okM lim := by
            match pk, hpk with
            | 0, _ => exact ⟨-1, rfl, by decide⟩
            | 1, _ => exact ⟨-2, rfl, by decide⟩
            | 2, _ => exact ⟨-3, rfl, by decide⟩
            | 3, _ => exact ⟨25, rfl, by decide⟩
            | 4, _ => exact ⟨26, rfl, by decide⟩
            | 5, _ => exact ⟨27, rfl, by decide⟩
          exact ⟨_, rfl, E1, _, _, _, rfl, rfl, SqL.of upd_same, atI_nat hlim, z, a, b, n, m, lim, zs, ps, s, u, rfl, ask7.mono (same_new hE1), fun hok => absurd hok hbad, fun H8 _ => k _⟩
        · refine ⟨_, rfl, _, _, rfl, rfl, _, rfl, iteD (fun h0 => ?_) (fun h0 => hN3 _ _ ⟨rfl, s5⟩)⟩
          have he : e < 12 := by omega
          refine ⟨_, rfl, _, rfl, S, _, _, _, rfl, rfl, SqL.of hS5, atI_nat (j := 0) rfl, _, rfl, S, _, _, _, rfl, rfl, SqL.of hS5, atI_nat (j := 1) rfl, _, rfl, _, _, rfl, rfl, z, a, b, n, m, ((2 * e : Nat) : Int) + 1, zs, ps, s, u, rfl, ask1.mono s5, fun _ => ?_, fun H6 s6 => ⟨_, rfl, hN3 _ _ ⟨rfl, s5.trans s6⟩⟩⟩
          have eh : half (((2 * e : Nat) : Int) + 1) = e + 1 := by
            show ((((2 * e : Nat) : Int) + 1).toNat + 1) / 2 = e + 1
            omega
          rw [eh]
          exact canS_not hE he
      · have hF4' := hF4
        refine ⟨_, rfl, F, _, _, _, rfl, rfl, SqL.of hF4, atI_nat (j := 0) rfl, d, kvs, rfl, s04 _ _ hd, _, _, rfl, rfl, _, rfl, iteD (fun h0 => ?_) (fun h0 => hN2 _ _ ⟨rfl, s04⟩)⟩
        refine ⟨_, rfl, F, _, _, _, rfl, rfl, SqL.of hF4, atI_nat (j := 1) rfl, rfl, _, rfl, iteD (fun h1 => ?_) (fun h1 => hN2 _ _ ⟨rfl, s04⟩)⟩
        have hr24 : reach = 24 := by
          have := V.int.inj h1
          omega
        have hS4 := s04 _ _ hS
        refine ⟨_, rfl, _, rfl, S, _, _, _, rfl, rfl, SqL.of hS4, atI_nat (j := 0) rfl, _, rfl, S, _, _, _, rfl, rfl, SqL.of hS4, atI_nat (j := 2) rfl, _, rfl, rfl, rfl, dist_ok (most := 2 * e) (ask2.mono s04) (by omega) (canS_of hE (by omega)) fun r5 H5 s5 d5 => ?_⟩
        have ok5 := right_of hFr d5
        rw [hr24] at ok5
        exact ⟨_, rfl, _, rfl, r5, far, 24, _, rfl, ok5, _, rfl, hN2 _ _ ⟨rfl, s04.trans s5⟩⟩
    · rcases hN with ⟨dd, e1, x, h24'⟩ | ⟨e1, hn⟩
      · subst e1
        refine ⟨_, rfl, _, _, rfl, rfl, _, rfl, iteD (fun h0 => ?_) (fun h0 => absurd (by omega) h0)⟩
        refine ⟨_, rfl, _, _, rfl, rfl, _, rfl, iteD (fun h1 => ?_) (fun h1 => hNx _ _ ⟨rfl, s1⟩)⟩
        have hS1 := s1 _ _ hS
        have hde : dd ≤ 2 * e := by omega
        refine ⟨_, rfl, _, rfl, S, _, _, _, rfl, rfl, SqL.of hS1, atI_nat (j := 0) rfl, _, rfl, S, _, _, _, rfl, rfl, SqL.of hS1, atI_nat (j := 1) rfl, _, rfl, rfl, rfl, dist_ok (most := dd) (ask1.mono s1) h24' (canS_of hE (by omega)) fun r H2 s2 d2 => ?_⟩
        have er : r = some dd := d2.uniq (b := some dd) ⟨Nat.le_refl _, x⟩
        subst er
        have s02 := s1.trans s2
        have hS2 := s02 _ _ hS
        refine ⟨_, rfl, (dd : Int), rfl, _, rfl, ?_⟩
        refine ⟨_, rfl, _, _, rfl, rfl, _, rfl, iteD (fun h2 => ?_) (fun h2 => hNx _ _ ⟨rfl, s02⟩)⟩
        have ed : (dd : Int) - 1 = ((dd - 1 : Nat) : Int) := by omega
        refine ⟨_, rfl, _, rfl, S, _, _, _, rfl, rfl, SqL.of hS2, atI_nat (j := 0) rfl, _, rfl, S, _, _, _, rfl, rfl, SqL.of hS2, atI_nat (j := 1) rfl, _, rfl, _, _, rfl, rfl, rfl, rfl, ?_⟩
        show spDistance K [.ref z, .ref a, .ref b, .int ((dd : Int) - 1)] _ _ _
        rw [ed]
        refine dist_ok (most := dd - 1) (ask1.mono s02) (by omega) (canS_of hE (by omega)) fun r H3 s3 d3 => ?_
        have er : r = none := by
          cases r with
          | none => rfl
          | some c =>
            have q1 := d3.2.uniq x
            have q2 := d3.1
            omega
        subst er
        exact ⟨rfl, _, rfl, iteN (fun z => absurd rfl z) (fun _ => hNx _ _ ⟨rfl, s02.trans s3⟩)⟩
      · subst e1
        exact ⟨_, rfl, _, _, rfl, rfl, _, rfl, iteD (fun h0 => absurd h0 (by decide)) (fun h0 => ⟨_, rfl, hNx _ _ ⟨rfl, s1⟩⟩)⟩
end
end K63
set_option maxRecDepth 100000
set_option maxHeartbeats 4000000
namespace K63
open PySem PySem.Spec PyProof.Rows L2 TB TM
theorem PU.keep {H H' : Hp} {pu x : Addr} {o : HO} (h : PU H pu) (b : But pu H H') (hx : H x = some o) (ho : ∀ xs, o ≠ .lst xs) : H' x = some o := by
  obtain ⟨_, _, _, _, e, _⟩ := h
  refine b _ _ (fun q => ?_) hx
  rw [q, e] at hx
  exact ho _ (Option.some.inj hx).symm
theorem Pz.but {K : PySem.W.Frag} {H H' : Hp} {pu a : Addr} {n m : Nat} {zs : List Str} {ps : List (List Nat)} (h : Pz K H a n m zs ps) (p : PU H pu) (b : But pu H H') : Pz K H' a n m zs ps := by
  obtain ⟨dx, na, pa, xs, q1, q2, q3, q4, q5⟩ := h
  exact ⟨dx, na, pa, xs, p.keep b q1 (fun _ q => by cases q), p.keep b q2 (fun _ q => by cases q), p.keep b q3 (fun _ q => by cases q), (p.tps b).rw q4, q5⟩
/-- what the law has made -/
structure Lw (K : PySem.W.Frag) (H : Hp) (pu W L N X to X2 F d : Addr) (n m e reach : Nat) (xs : List V) (ps : List (List Nat)) (zs zs2 : List Str) (t : List Nat) (kvs : List (List Key × V)) : Prop where
  pk : PU H pu
  w : H W = some (.lst [.int (n : Int), .int (m : Int), .ref L])
  wn : W ≠ pu
  l : H L = some (.lst xs)
  ln : L ≠ pu
  r : Rw H xs ps
  good : Good n m ps
  nm : H N = some (.lst (zs.map V.str))
  nn : N ≠ pu
  n8 : zs.length = 8
  nok : ∀ z ∈ zs, NameOk z
  nnd : zs.Nodup
  pz : Pz K H X n m (zs.take ps.length) ps
  tt : Tn H to t
  tP : IsP n t
  pz2 : Pz K H X2 n 1 zs2 (ps.reverse.map (conj t))
  f : H F = some (.lst [.ref d, .int (reach : Int)])
  fn : F ≠ pu
  dd : H d = some (.dT kvs)
  ball : BallR (gens ps) n kvs reach
  r24 : reach ≤ 24
  edge : EdgeOk (2 * ps.length) e
theorem Lw.mono {K : PySem.W.Frag} {H H' : Hp} {pu W L N X to X2 F d : Addr} {n m e reach : Nat} {xs : List V} {ps : List (List Nat)} {zs zs2 : List Str} {t : List Nat} {kvs : List (List Key × V)} (h : Lw K H pu W L N X to X2 F d n m e reach xs ps zs zs2 t kvs) (b : But pu H H') (p : PU H' pu) : Lw K H' pu W L N X to X2 F d n m e reach xs ps zs zs2 t kvs :=
  ⟨p, b _ _ h.wn h.w, h.wn, b _ _ h.ln h.l, h.ln, (h.pk.tps b).rw h.r, h.good, b _ _ h.nn h.nm, h.nn, h.n8, h.nok, h.nnd, h.pz.but h.pk b, (h.pk.tps b).tn h.tt, h.tP, h.pz2.but h.pk b, b _ _ h.fn h.f, h.fn, h.pk.keep b h.dd (fun _ q => by cases q), h.ball, h.r24, h.edge⟩
theorem Lw.same {K : PySem.W.Frag} {H H' : Hp} {pu W L N X to X2 F d : Addr} {n m e reach : Nat} {xs : List V} {ps : List (List Nat)} {zs zs2 : List Str} {t : List Nat} {kvs : List (List Key × V)} (h : Lw K H pu W L N X to X2 F d n m e reach xs ps zs zs2 t kvs) (s : Same H H') : Lw K H' pu W L N X to X2 F d n m e reach xs ps zs zs2 t kvs := h.mono (But.ofSame s) (h.pk.mono s)
/-- the law's slots -/
abbrev sg (a pu W L N T X to X2 F : Addr) (n e : Nat) (x12 x13 x14 x15 x16 x17 x18 x19 x20 x21 x22 : Option V) : L2.St :=
  [some (.ref a), some (.ref pu), some (.ref W), some (.int (n : Int)), some (.ref L), some (.ref N), some (.ref T), some (.ref X), some (.ref to), some (.ref X2), some (.ref F), some (.int ((2 * e : Nat) : Int)), x12, x13, x14, x15, x16, x17, x18, x19, x20, x21, x22, none]
def spLaw (K : PySem.W.Frag) : Sp := fun vs H Q _ => ∃ (a : Addr) (ns : List Int), vs = [.ref a] ∧ ns.length ≤ 63 ∧ SqL K H a (ns.map V.int) ∧ ∀ H', Q (.bl true) H'
theorem tri_ok {n limit : Nat} {gs : List (List Nat)} {s u v : List Nat} {x y z : Option Nat} (hS : Sym n gs) (hs : IsP n s) (hv : IsP n v) (hx : Dist gs s u limit x) (hy : Dist gs u v limit y) (hz : Dist gs v s limit z) : Tri x y z (limit : Int) := fun i j ei ej => by
  subst ei ej
  have w : TM.W gs (i + j) v s := (hx.2.1.add hy.2.1).symm hS hs
  refine ⟨fun e => ?_, fun k e => ?_⟩
  · subst e
    intro h
    exact hz (i + j) (by omega) w
  · subst e
    rcases Nat.lt_or_ge (i + j) k with h | h
    · exact absurd w (hz.2.2 _ h)
    · omega
/-- the position with the number j -/
def pos (s1 s2 s3 : List Nat) (j : Nat) : List Nat := if j = 0 then s1 else if j = 1 then s2 else s3
abbrev NL : List Str := ["script", "purse", "world", "points", "perms", "names", "turns", "puzzle", "to", "renamed", "found", "edge", "limit", "first", "walk", "told", "strange", "third", "spots", "sides", "pair", "near", "shift", "k"]
section
variable {w : World} {K : PySem.W.Frag} {mg : Str → Option Value} {base : Heap}
theorem law_t2 (c : Ctx K mg) {cdv : Value} {A : Around} {outer : List Env} {s : Shared} {H0 : Hp} {E : XK} (hr : Room 9 (A.deeper (envOfC "law" (defScope s_law) s.heap.objs.size (He.fAd K d_law.at_) cdv))) :
    ∃ tt, PSs (cxOf CX0 P w K mg base NL "law" (defScope s_law) (He.fAd K d_law.at_) cdv A outer s H0 E).nox ((defBody s_law).drop 21) tt ∧
      ∀ (Q : VK) (H : Hp) (a pu W L N T X to X2 F d : Addr) (n m e reach : Nat) (xs : List V) (ps : List (List Nat)) (zs zs2 : List Str) (t : List Nat) (kvs : List (List Key × V)) (lim : Nat) (a1 WK TW b a2 b3 : Addr) (s1 s2 s3 : List Nat) (wd : List (Nat × Bool)) (x15 x16 : V),
        Lw K H pu W L N X to X2 F d n m e reach xs ps zs zs2 t kvs → lim ≤ 24 → canS (2 * ps.length) ((lim + 1) / 2) = true → Tn H a1 s1 → IsP n s1 → KM m n s1 → H WK = some (.lst [.ref TW, .ref a2]) → WK ≠ pu → Wd H TW zs wd → Tn H a2 s2 → IsP n s2 → KM m n s2 → TM.W (gens ps) wd.length s1 s2 → Tn H b3 s3 → IsP n s3 → KM m n s3 →
        (∀ H', Q (.bl true) H') → tt { nx := fun _ H' => Q .non H', rt := Q } (sg a pu W L N T X to X2 F n e (some (.int (lim : Int))) (some (.ref a1)) (some (.ref WK)) (some x15) (some x16) (some (.ref b3)) none none none none none) H := by
  have f_isinstance := c.f_isinstance
  have f_len := c.f_len
  have f_range := c.f_range
  have f_tuple := c.f_tuple
  obtain ⟨f___law_limits, fd__law_limits, g__law_limits, k__law_limits, F__law_limits, b__law_limits⟩ := (dn__law_limits (w := w) (base := base) c).ex
  obtain ⟨f___law_alike, fd__law_alike, g__law_alike, k__law_alike, F__law_alike, b__law_alike⟩ := (dn__law_alike (P := P) (w := w) (base := base) c).ex
  obtain ⟨f___law_same_elsewhere, fd__law_same_elsewhere, g__law_same_elsewhere, k__law_same_elsewhere, F__law_same_elsewhere, b__law_same_elsewhere⟩ := (dn__law_same_elsewhere (w := w) (base := base) c).ex
  obtain ⟨f___law_position, fd__law_position, g__law_position, k__law_position, F__law_position, b__law_position⟩ := (dn__law_position (P := P) (w := w) (base := base) c).ex
  obtain ⟨f___law_triangle, fd__law_triangle, g__law_triangle, k__law_triangle, F__law_triangle, b__law_triangle⟩ := (dn__law_triangle (P := P) (w := w) (base := base) c).ex
  obtain ⟨f___law_right, fd__law_right, g__law_right, k__law_right, F__law_right, b__law_right⟩ := (dn__law_right (P := P) (w := w) (base := base) c).ex
  obtain ⟨f___law_between, fd__law_between, g__law_between, k__law_between, F__law_between, b__law_between⟩ := (dn__law_between (P := P) (w := w) (base := base) c).ex
  obtain ⟨f__distance, fd_distance, g_distance, k_distance, F_distance, ⟨gk_distance, kb_distance⟩, ds_distance, v_distance, b_distance⟩ := (dn_distance (w := w) (base := base) c).ex
  obtain ⟨f___law_walk, fd__law_walk, g__law_walk, k__law_walk, F__law_walk, b__law_walk⟩ := (dn__law_walk (P := P) (w := w) (base := base) c).ex
  obtain ⟨f___law_draw, fd__law_draw, g__law_draw, k__law_draw, F__law_draw, b__law_draw⟩ := (dn__law_draw (P := P) (w := w) (base := base) c).ex
  obtain ⟨f__Puzzle_play, fd_Puzzle_play, m_Puzzle_play, F_Puzzle_play, b_Puzzle_play⟩ := (dn_Puzzle_play (P := P) (w := w) (base := base) c).ex
  obtain ⟨f___law_edge, fd__law_edge, g__law_edge, k__law_edge, F__law_edge, b__law_edge⟩ := (dn__law_edge (P := P) (w := w) (base := base) c).ex
  obtain ⟨f___law_ball, fd__law_ball, g__law_ball, k__law_ball, F__law_ball, b__law_ball⟩ := (dn__law_ball (P := P) (w := w) (base := base) c).ex
  obtain ⟨f___law_renamed, fd__law_renamed, g__law_renamed, k__law_renamed, F__law_renamed, b__law_renamed⟩ := (dn__law_renamed (P := P) (w := w) (base := base) c).ex
  obtain ⟨f___law_perm, fd__law_perm, g__law_perm, k__law_perm, F__law_perm, b__law_perm⟩ := (dn__law_perm (P := P) (w := w) (base := base) c).ex
  obtain ⟨f__Puzzle, fd_Puzzle, M_Puzzle, F_Puzzle, ⟨gk_Puzzle, kb_Puzzle⟩, ds_Puzzle, v_Puzzle, b_Puzzle⟩ := (dn_Puzzle___init__ (P := P) (w := w) (base := base) c).ex
  have g_Puzzle := c.g_Puzzle
  obtain ⟨f___law_names, fd__law_names, g__law_names, k__law_names, F__law_names, b__law_names⟩ := (dn__law_names (P := P) (w := w) (base := base) c).ex
  obtain ⟨f___law_world, fd__law_world, g__law_world, k__law_world, F__law_world, b__law_world⟩ := (dn__law_world (P := P) (w := w) (base := base) c).ex
  obtain ⟨f___law_purse, fd__law_purse, g__law_purse, k__law_purse, F__law_purse, b__law_purse⟩ := (dn__law_purse (P := P) (w := w) (base := base) c).ex
  have sc := sc_law
  refine ⟨_,
(pss_cons (ps_set (i := 18) sc.nd rfl (by first | exact Or.inl rfl | exact Or.inr rfl) (pe_lst (pa_cons (pv 13) (pa_cons (pe_ix (ix_listK (K := K) rfl) (pv 14) pe_int (fun _ _ => rfl)) (pa_cons (pv 17) pa_nil)))))
  (pss_cons (ps_set (i := 19) sc.nd rfl (by first | exact Or.inl rfl | exact Or.inr rfl) (pe_lst pa_nil))
  (pss_cons (ps_for PassesOwn.never rfl (pi_tupK (K := K) rfl (pe_tup (pa_cons (pe_tup (pa_cons pe_int (pa_cons pe_int pa_nil))) (pa_cons (pe_tup (pa_cons pe_int (pa_cons pe_int pa_nil))) (pa_cons (pe_tup (pa_cons pe_int (pa_cons pe_int pa_nil))) pa_nil))))) (pg_name (i := 20) sc.nd rfl (by first | exact Or.inl rfl | exact Or.inr rfl)) (pss_cons (ps_set (i := 15) sc.nd rfl (by first | exact Or.inl rfl | exact Or.inr rfl) (pe_callN F_distance (hr.mono (by decide)) (by rfl) g_distance k_distance kb_distance passN (pa_cons (pv 7) (pa_cons (pe_ix (ix_listK (K := K) rfl) (pv 18) (pe_ix (ix_tupK (K := K) rfl) (pv 20) pe_int (fun _ _ => rfl)) (fun _ _ => rfl)) (pa_cons (pe_ix (ix_listK (K := K) rfl) (pv 18) (pe_ix (ix_tupK (K := K) rfl) (pv 20) pe_int (fun _ _ => rfl)) (fun _ _ => rfl)) pa_nil))) (pk_cons (pv 12) pk_nil)))
  (pss_cons (ps_set (i := 21) sc.nd rfl (by first | exact Or.inl rfl | exact Or.inr rfl) (pe_call F__law_between (hr.mono (by decide)) (by rfl) g__law_between k__law_between b__law_between nil_v pass0 (pa_cons (pe_ix (ix_listK (K := K) rfl) (pv 10) pe_int (fun _ _ => rfl)) (pa_cons (pe_ix (ix_listK (K := K) rfl) (pv 18) (pe_ix (ix_tupK (K := K) rfl) (pv 20) pe_int (fun _ _ => rfl)) (fun _ _ => rfl)) (pa_cons (pe_ix (ix_listK (K := K) rfl) (pv 18) (pe_ix (ix_tupK (K := K) rfl) (pv 20) pe_int (fun _ _ => rfl)) (fun _ _ => rfl)) pa_nil)))))
  (pss_cons (ps_if (pt_not (pt_val (pe_call F__law_right (hr.mono (by decide)) (by rfl) g__law_right k__law_right b__law_right nil_v pass0 (pa_cons (pv 15) (pa_cons (pv 21) (pa_cons (pe_ix (ix_listK (K := K) rfl) (pv 10) pe_int (fun _ _ => rfl)) (pa_cons (pv 12) pa_nil))))))) (pss_one (ps_ret pe_bl)) pss_nil)
  (pss_one (ps_expr (pe_bm PySem.F.plainAttrs_list PySem.F.slot_list_append PySem.F.type_list_append mt_append (pv 19) (pa_cons (pv 15) pa_nil))))))))
  (pss_cons (ps_if (pt_not (pt_val (pe_call F__law_triangle (hr.mono (by decide)) (by rfl) g__law_triangle k__law_triangle b__law_triangle nil_v pass0 (pa_cons (pv 19) (pa_cons (pv 12) pa_nil))))) (pss_one (ps_ret pe_bl)) pss_nil)
  (pss_cons (ps_if (PW.pt (pw_and (pt_cmpR op_le (pe_callB (call_lenK (K := K) rfl) (by rfl) f_len boot_len (pa_cons (pe_ix (ix_listK (K := K) rfl) (pv 14) pe_int (fun _ _ => rfl)) pa_nil)) (pv 12) (nomark _)) (pw_and1 (PW.pt (pw_or (pt_cmpR op_isN (pe_ix (ix_listK (K := K) rfl) (pv 19) pe_int (fun _ _ => rfl)) pe_non (nomark _)) (pw_or1 (pt_cmpR op_gt (pe_ix (ix_listK (K := K) rfl) (pv 19) pe_int (fun _ _ => rfl)) (pe_callB (call_lenK (K := K) rfl) (by rfl) f_len boot_len (pa_cons (pe_ix (ix_listK (K := K) rfl) (pv 14) pe_int (fun _ _ => rfl)) pa_nil)) (nomark _)))))))) (pss_one (ps_ret pe_bl)) pss_nil)
  (pss_cons (ps_set (i := 22) sc.nd rfl (by first | exact Or.inl rfl | exact Or.inr rfl) (pe_call F__law_position (hr.mono (by decide)) (by rfl) g__law_position k__law_position b__law_position nil_v pass0 (pa_cons (pv 1) (pa_cons (pv 3) (pa_cons (pe_ix (ix_listK (K := K) rfl) (pv 2) pe_int (fun _ _ => rfl)) pa_nil)))))
  (pss_cons (ps_for PassesOwn.never rfl (pi_listK (K := K) rfl (pe_call F__law_same_elsewhere (hr.mono (by decide)) (by rfl) g__law_same_elsewhere k__law_same_elsewhere b__law_same_elsewhere nil_v pass0 (pa_cons (pv 7) (pa_cons (pv 9) (pa_cons (pv 18) (pa_cons (pv 12) (pa_cons (pv 22) (pa_cons (pv 8) pa_nil)))))))) (pg_name (i := 15) sc.nd rfl (by first | exact Or.inl rfl | exact Or.inr rfl)) (pss_one (ps_if (pt_not (pt_val (pe_call F__law_alike (hr.mono (by decide)) (by rfl) g__law_alike k__law_alike b__law_alike nil_v pass0 (pa_cons (pv 15) (pa_cons (pe_ix (ix_listK (K := K) rfl) (pv 19) pe_int (fun _ _ => rfl)) pa_nil))))) (pss_one (ps_ret pe_bl)) pss_nil)))
  (pss_one (ps_ret (pe_call F__law_limits (hr.mono (by decide)) (by rfl) g__law_limits k__law_limits b__law_limits nil_v pass0 (pa_cons (pv 1) (pa_cons (pv 7) (pa_cons (pv 18) (pa_cons (pv 10) (pa_cons (pv 11) pa_nil)))))))))))))))
    , ?_⟩
  intro Q H a pu W L N T X to X2 F d n m e reach xs ps zs zs2 t kvs lim a1 WK TW b a2 b3 s1 s2 s3 wd x15 x16 LW hl24 hcs t1 P1 k1 eWK nWK wWd t2 P2 k2 hwk t3 P3 k3 k
  obtain ⟨g1, g2, g3, g4, g5, g6, g7⟩ := id LW.good
  have hSym := gens_sym g6
  have znd : (zs.take ps.length).Nodup := LW.nnd.sublist (List.take_sublist _ _)
  refine ⟨_, rfl, _, rfl, WK, _, _, _, rfl, rfl, SqL.of eWK, atI_nat (j := 1) rfl, _, rfl, szk rfl, fun S hS => ?_⟩
  have nS := LW.pk.ne hS
  have sS := same_new (o := .lst [.ref a1, .ref a2, .ref b3]) hS
  have eS : (upd H S (.lst [.ref a1, .ref a2, .ref b3])) S = some (.lst [.ref a1, .ref a2, .ref b3]) := upd_same
  dsimp only [gName]
  generalize upd H S (.lst [.ref a1, .ref a2, .ref b3]) = Hb at sS eS ⊢
  have LWb := LW.same sS
  have t1b := t1.mono sS
  have t2b := t2.mono sS
  have t3b := t3.mono sS
  have eWKb := sS _ _ eWK
  have wWdb := wWd.tps (Tps.of sS)
  clear LW t1 t2 t3 eWK wWd sS hS
  refine ⟨szk rfl, fun R hR => ?_⟩
  have nR := LWb.pk.ne hR
  have sR := same_new (o := .lst []) hR
  have eR : (upd Hb R (.lst [])) R = some (.lst []) := upd_same
  dsimp only [gName]
  generalize upd Hb R (.lst []) = H1 at sR eR ⊢
  have P3' : ∀ j, IsP n (pos s1 s2 s3 j) := fun j => by
    unfold pos
    split
    · exact P1
    · split
      · exact P2
      · exact P3
  have K3' : ∀ j, KM m n (pos s1 s2 s3 j) := fun j => by
    unfold pos
    split
    · exact k1
    · split
      · exact k2
      · exact k3
  refine cut (a := tFor _ _ _) (fun σ H' => ∃ (r0 r1 r2 : Option Nat) (x15 x20 x21 : Option V), σ = sg a pu W L N T X to X2 F n e (some (.int (lim : Int))) (some (.ref a1)) (some (.ref WK)) x15 (some x16) (some (.ref b3)) (some (.ref S)) (some (.ref R)) x20 x21 none ∧ Same Hb H' ∧ H' R = some (.lst [oV r0, oV r1, oV r2]) ∧ Dist (gens ps) s1 s2 lim r0 ∧ Dist (gens ps) s2 s3 lim r1 ∧ Dist (gens ps) s3 s1 lim r2) ?_ fun NX hNX => ?_
  · rintro σ H2 ⟨r0, r1, r2, x15, x20, x21, rfl, s2', eR2, d0, d1, d2⟩
    have LW2 := LWb.same s2'
    have eWK2 := s2' _ _ eWKb
    obtain ⟨ws, eTW, lws, _⟩ := wWdb.tps (Tps.of s2')
    have eS2 := s2' _ _ eS
    refine ⟨_, rfl, _, rfl, R, r0, r1, r2, (lim : Int), rfl, eR2, tri_ok hSym P1 P3 d0 d1 d2, tri_ok hSym P2 P1 d1 d2 d0, tri_ok hSym P3 P2 d2 d0 d1, _, rfl, iteF (goNext ?_)⟩
    dsimp only
    refine cut (a := tIfS _ _ _) (fun σ H' => σ = sg a pu W L N T X to X2 F n e (some (.int (lim : Int))) (some (.ref a1)) (some (.ref WK)) x15 (some x16) (some (.ref b3)) (some (.ref S)) (some (.ref R)) x20 x21 none ∧ H' = H2) ?_ fun NX hNX => ?_
    · rintro σ H' ⟨rfl, rfl⟩
      refine ⟨_, rfl, _, rfl, _, rfl, W, _, _, _, rfl, rfl, SqL.of LW2.w, atI_nat (j := 1) rfl, pu, n, m, rfl, LW2.pk, g1, by omega, g3, g4, fun sh h H3 b3' p3 th hsh hP hK => ?_⟩
      dsimp only [gName]
      have LW3 := LW2.mono b3' p3
      have t23 := LW2.pk.tps b3'
      have eR3 := b3' _ _ nR eR2
      have eS3 := b3' _ _ nS eS2
      have ask : AskD K H3 X a1 a2 n m (zs.take ps.length) ps s1 s2 := ⟨LW3.pz, LW3.good, t23.tn (t1b.mono s2'), t23.tn (t2b.mono s2'), P1, P2, k1, k2⟩
      have ask3 : AskD K H3 X a1 b3 n m (zs.take ps.length) ps s1 s3 := ⟨LW3.pz, LW3.good, t23.tn (t1b.mono s2'), t23.tn (t3b.mono s2'), P1, P3, k1, k3⟩
      refine ⟨_, rfl, _, rfl, _, rfl, _, rfl, _, rfl, _, rfl, X, X2, S, sh, to, a1, a2, b3, n, m, lim, zs.take ps.length, zs2, ps, s1, s2, h, t, rfl, eS3, ask, LW3.pz2, th, hP, hK, LW3.tt, LW3.tP, hl24, hcs, fun l r H4 s4 eL4 d4 => ?_⟩
      obtain rfl : r0 = r := d0.uniq d4
      refine ⟨l, rfl, ⟨_, SqL.of eL4⟩, for_it (walk_list (xs := [oV r0, oV r0, oV r0, oV r0])) (fun i σ H' => H' = H4 ∧ ∃ x15 : Option V, σ = sg a pu W L N T X to X2 F n e (some (.int (lim : Int))) (some (.ref a1)) (some (.ref WK)) x15 (some x16) (some (.ref b3)) (some (.ref S)) (some (.ref R)) x20 x21 (some (.ref sh))) ?_ ?_ ?_ ?_⟩
      · exact ⟨rfl, _, rfl⟩
      · rintro i σ H' hi ⟨rfl, _⟩
        exact SqL.of eL4
      · rintro i x σ H5 H6 hi ⟨rfl, y15, rfl⟩ ⟨rfl, hx⟩
        have ex : x = oV r0 := by
          match i, hi, hx with
          | 0, _, hx => exact (Option.some.inj hx).symm
          | 1, _, hx => exact (Option.some.inj hx).symm
          | 2, _, hx => exact (Option.some.inj hx).symm
          | 3, _, hx => exact (Option.some.inj hx).symm
        subst ex
        exact ⟨_, rfl, _, rfl, R, _, _, _, rfl, rfl, SqL.of (s4 _ _ eR3), atI_nat (j := 0) rfl, r0, rfl, _, rfl, rfl, _, rfl⟩
      · rintro σ H' ⟨rfl, y15, rfl⟩
        have LW4 := LW3.same s4
        exact ⟨_, rfl, _, rfl, _, rfl, _, rfl, _, rfl, pu, X, S, F, d, a1, a2, b3, n, m, e, reach, zs.take ps.length, ps, s1, s2, s3, kvs, rfl, LW4.pk, nS, s4 _ _ eS3, ask.mono s4, ask3.mono s4, LW4.f, LW4.dd, LW4.ball, LW4.edge, fun H5 => k H5⟩
    · refine ⟨_, rfl, WK, _, _, _, rfl, rfl, SqL.of eWK2, atI_nat (j := 0) rfl, TW, ws, rfl, .inr (SqT.of eTW), _, rfl, _, _, rfl, rfl, _, rfl, iteD (fun h0 => ?_) (fun h0 => hNX _ _ ⟨rfl, rfl⟩)⟩
      have hwl : wd.length ≤ lim := by omega
      cases r0 with
      | none => exact absurd hwk (d0 _ hwl)
      | some c0 =>
        refine ⟨_, rfl, R, _, _, _, rfl, rfl, SqL.of eR2, atI_nat (j := 0) rfl, rfl, _, rfl, iteD (fun z => by cases z) (fun _ => ?_)⟩
        refine ⟨_, rfl, R, _, _, _, rfl, rfl, SqL.of eR2, atI_nat (j := 0) rfl, _, rfl, WK, _, _, _, rfl, rfl, SqL.of eWK2, atI_nat (j := 0) rfl, TW, ws, rfl, .inr (SqT.of eTW), _, _, rfl, rfl, _, rfl, iteD (fun h1 => ?_) (fun _ => hNX _ _ ⟨rfl, rfl⟩)⟩
        exfalso
        rcases Nat.lt_or_ge wd.length c0 with q | q
        · exact d0.2.2 _ q hwk
        · omega
  · refine ⟨szk rfl, fun q1 hq1 => ⟨szk rfl, fun q2 hq2 => ⟨szk rfl, fun q3 hq3 => ⟨szk rfl, fun T3 hT3 => ?_⟩⟩⟩⟩
    have z1 := same_new (o := .tup [.int 0, .int 1]) hq1
    have z2 := same_new (o := .tup [.int 1, .int 2]) hq2
    have z3 := same_new (o := .tup [.int 2, .int 0]) hq3
    have z4 := same_new (o := .tup [.ref q1, .ref q2, .ref q3]) hT3
    have f1 := z4 _ _ (z3 _ _ (z2 _ _ (upd_same (H := H1) (a := q1) (o := .tup [.int 0, .int 1]))))
    have f2 := z4 _ _ (z3 _ _ (upd_same (H := upd H1 q1 (.tup [.int 0, .int 1])) (a := q2) (o := .tup [.int 1, .int 2])))
    have f3 := z4 _ _ (upd_same (H := upd (upd H1 q1 (.tup [.int 0, .int 1])) q2 (.tup [.int 1, .int 2])) (a := q3) (o := .tup [.int 2, .int 0]))
    have f4 : (upd (upd (upd (upd H1 q1 (.tup [.int 0, .int 1])) q2 (.tup [.int 1, .int 2])) q3 (.tup [.int 2, .int 0])) T3 (.tup [.ref q1, .ref q2, .ref q3])) T3 = some (.tup [.ref q1, .ref q2, .ref q3]) := upd_same
    have z14 := ((z1.trans z2).trans z3).trans z4
    generalize upd (upd (upd (upd H1 q1 (.tup [.int 0, .int 1])) q2 (.tup [.int 1, .int 2])) q3 (.tup [.int 2, .int 0])) T3 (.tup [.ref q1, .ref q2, .ref q3]) = H2 at f1 f2 f3 f4 z14 ⊢
    refine ⟨T3, rfl, ⟨_, SqT.of f4⟩, for_it (walk_tup (xs := [.ref q1, .ref q2, .ref q3])) (fun i σ H' => ∃ (rs : List (Option Nat)) (x15 x20 x21 : Option V), σ = sg a pu W L N T X to X2 F n e (some (.int (lim : Int))) (some (.ref a1)) (some (.ref WK)) x15 (some x16) (some (.ref b3)) (some (.ref S)) (some (.ref R)) x20 x21 none ∧ But R H2 H' ∧ H' R = some (.lst (rs.map oV)) ∧ rs.length = i ∧ ∀ (j : Nat) (r : Option Nat), rs[j]? = some r → Dist (gens ps) (pos s1 s2 s3 j) (pos s1 s2 s3 ((j + 1) % 3)) lim r) ?_ ?_ ?_ ?_⟩
    · exact ⟨[], _, _, _, rfl, But.refl _ _, z14 _ _ eR, rfl, fun j r e => by cases e⟩
    · rintro i σ H' hi ⟨_, _, _, _, _, bb, eR', _⟩
      exact SqT.of (bb _ _ (ne_of f4 (z14 _ _ eR) (by intro z; cases z)) f4)
    · rintro i x σ H4 H3 hi ⟨rs, x15, x20, x21, rfl, bb, eR3, lrs, hrs⟩ ⟨rfl, hx⟩
      have sb3 : Same Hb H3 := fun b o ho => bb b o (ne_of_none ho hR) (z14 _ _ (sR _ _ ho))
      obtain ⟨q, xa, ya, ja, jb, rfl, hq, hxa, hya, tx, ty⟩ : ∃ (q xa ya : Addr) (ja jb : Nat), x = .ref q ∧ H2 q = some (.tup [.int (ja : Int), .int (jb : Int)]) ∧ ([.ref a1, .ref a2, .ref b3] : List V)[ja]? = some (.ref xa) ∧ ([.ref a1, .ref a2, .ref b3] : List V)[jb]? = some (.ref ya) ∧ Tn Hb xa (pos s1 s2 s3 i) ∧ Tn Hb ya (pos s1 s2 s3 ((i + 1) % 3)) := by
        match i, hi, hx with
        | 0, _, hx => exact ⟨q1, a1, a2, 0, 1, (Option.some.inj hx).symm, f1, rfl, rfl, t1b, t2b⟩
        | 1, _, hx => exact ⟨q2, a2, b3, 1, 2, (Option.some.inj hx).symm, f2, rfl, rfl, t2b, t3b⟩
        | 2, _, hx => exact ⟨q3, b3, a1, 2, 0, (Option.some.inj hx).symm, f3, rfl, rfl, t3b, t1b⟩
      have hq3' : H3 q = some (.tup [.int (ja : Int), .int (jb : Int)]) := bb _ _ (ne_of hq (z14 _ _ eR) (by intro z; cases z)) hq
      have LW3 := LWb.same sb3
      have eS3 := sb3 _ _ eS
      have ask : AskD K H3 X xa ya n m (zs.take ps.length) ps (pos s1 s2 s3 i) (pos s1 s2 s3 ((i + 1) % 3)) := ⟨LW3.pz, LW3.good, tx.mono sb3, ty.mono sb3, P3' _, P3' _, K3' _, K3' _⟩
      refine ⟨_, rfl, _, rfl, _, rfl, q, _, _, _, rfl, rfl, SqT.of hq3', atI_nat (j := 0) rfl, S, _, _, _, rfl, rfl, SqL.of eS3, atI_nat hxa, _, rfl, _, rfl, q, _, _, _, rfl, rfl, SqT.of hq3', atI_nat (j := 1) rfl, S, _, _, _, rfl, rfl, SqL.of eS3, atI_nat hya, _, rfl, rfl, rfl, dist_ok ask hl24 hcs fun r H5 s5 d5 => ?_⟩
      dsimp only [gName]
      have hq5 := s5 _ _ hq3'
      have eS5 := s5 _ _ eS3
      have LW5 := LW3.same s5
      have ask5 := ask.mono s5
      obtain ⟨near, en, hN⟩ := near_of g6 (P3' i) (P3' ((i + 1) % 3)) LW5.ball
      refine ⟨_, rfl, F, _, _, _, rfl, rfl, SqL.of LW5.f, atI_nat (j := 0) rfl, _, rfl, _, rfl, q, _, _, _, rfl, rfl, SqT.of hq5, atI_nat (j := 0) rfl, S, _, _, _, rfl, rfl, SqL.of eS5, atI_nat hxa, _, rfl, _, rfl, q, _, _, _, rfl, rfl, SqT.of hq5, atI_nat (j := 1) rfl, S, _, _, _, rfl, rfl, SqL.of eS5, atI_nat hya, d, xa, ya, kvs, n, _, _, rfl, LW5.dd, ask5.ha, ask5.hb, P3' _, P3' _, g2, fun H6 s6 => ?_⟩
      rw [en]
      dsimp only [gName]
      have LW6 := LW5.same s6
      refine ⟨_, rfl, _, rfl, _, rfl, F, _, _, _, rfl, rfl, SqL.of LW6.f, atI_nat (j := 1) rfl, _, rfl, r, near, _, _, rfl, right_of hN d5, _, rfl, ?_⟩
      have eR6 := s6 _ _ (s5 _ _ eR3)
      refine ⟨_, rfl, tyL eR6, _, rfl, R, _, _, rfl, rfl, eR6, szL _ (by rw [List.length_map, lrs]; simp at hi; omega), rs ++ [r], _, _, _, rfl, ((bb.same s5).same s6).trans But.upd, ?_, by rw [List.length_append, lrs]; rfl, fun j r' ej => ?_⟩
      · rw [upd_same, List.map_append]
        rfl
      · rcases snoc_get ej with ⟨_, e1⟩ | ⟨e1, e2⟩
        · exact hrs j r' e1
        · rw [← e2, e1, lrs]
          exact d5
    · rintro σ H' ⟨rs, x15, x20, x21, rfl, bb, eR3, lrs, hrs⟩
      match rs, lrs, eR3, hrs with
      | [r0, r1, r2], _, eR3, hrs => exact hNX _ _ ⟨r0, r1, r2, _, _, _, rfl, fun b o ho => bb b o (ne_of_none ho hR) (z14 _ _ (sR _ _ ho)), eR3, hrs 0 r0 rfl, hrs 1 r1 rfl, hrs 2 r2 rfl⟩
end
end K63
set_option maxRecDepth 100000
set_option maxHeartbeats 4000000
namespace K63
open PySem PySem.Spec PyProof.Rows L2 TB TM
theorem stepP_gens {ps : List (List Nat)} {w : Nat × Bool} (h : w.1 < ps.length) : stepP ps w ∈ gens ps := by
  obtain ⟨k, b⟩ := w
  have h' : k < ps.length := h
  have e : ps.getD k [] = ps[k] := by simp [h']
  refine mem_gens.mpr ⟨ps[k], List.getElem_mem h', ?_⟩
  unfold stepP
  simp only
  rw [e]
  cases b with
  | true => exact .inr rfl
  | false => exact .inl rfl
theorem gens_km {n m : Nat} {ps : List (List Nat)} (hP : ∀ p ∈ ps, IsP n p) (hK : ∀ p ∈ ps, KM m n p) : ∀ g ∈ gens ps, KM m n g := fun g hg => by
  obtain ⟨p, hp, e⟩ := mem_gens.mp hg
  rcases e with e | e
  · rw [e]
    exact hK p hp
  · rw [e]
    exact KM.inv (hP p hp) (hK p hp)
theorem playW_W {ps : List (List Nat)} : ∀ {wd : List (Nat × Bool)} {s : List Nat}, (∀ w ∈ wd, w.1 < ps.length) → TM.W (gens ps) wd.length s (playW ps wd s)
  | [], s, _ => rfl
  | w :: wd, s, h => by
    have h1 : TM.W (gens ps) 1 s (mul s (stepP ps w)) := W.one (stepP_gens (h w List.mem_cons_self))
    have h2 := playW_W (wd := wd) (s := mul s (stepP ps w)) fun x hx => h x (List.mem_cons_of_mem _ hx)
    have h3 := h1.add h2
    rw [Nat.add_comm] at h3
    exact h3
theorem W_km {n m : Nat} {ps : List (List Nat)} (hm : 0 < m) (hd : m ∣ n) (hP : ∀ p ∈ ps, IsP n p) (hK : ∀ p ∈ ps, KM m n p) : ∀ {k : Nat} {s p : List Nat}, IsP n s → KM m n s → TM.W (gens ps) k s p → KM m n p
  | 0, s, p, hs, ks, h => by
    have e : p = s := h
    rw [e]
    exact ks
  | k + 1, s, p, hs, ks, ⟨q, hq, g, hg, e⟩ => by
    rw [e]
    exact KM.mul hm hd (hq.isP (gens_sym hP) hs) (gens_isP hP g hg) (W_km hm hd hP hK hs ks hq) (gens_km hP hK g hg)
theorem Wd.take {H : Hp} {T : Addr} {zs : List Str} {wd : List (Nat × Bool)} {k : Nat} (h : Wd H T zs wd) (hw : ∀ w ∈ wd, w.1 < k) : Wd H T (zs.take k) wd := by
  obtain ⟨ws, h1, h2, h3⟩ := h
  refine ⟨ws, h1, h2, fun i w e => ?_⟩
  obtain ⟨q, z, e1, e2, e3⟩ := h3 i w e
  exact ⟨q, z, e1, by rw [List.getElem?_take_of_lt (hw w (List.mem_of_getElem? e))]; exact e2, e3⟩
section
variable {w : World} {K : PySem.W.Frag} {mg : Str → Option Value} {base : Heap}
theorem law_t1 (c : Ctx K mg) {cdv : Value} {A : Around} {outer : List Env} {s : Shared} {H0 : Hp} {E : XK} (hr : Room 9 (A.deeper (envOfC "law" (defScope s_law) s.heap.objs.size (He.fAd K d_law.at_) cdv))) :
    ∃ tt, PSs (cxOf CX0 P w K mg base NL "law" (defScope s_law) (He.fAd K d_law.at_) cdv A outer s H0 E).nox ((defBody s_law).drop 13) tt ∧
      ∀ (Q : VK) (H : Hp) (a pu W L N T X to X2 F d : Addr) (n m e reach : Nat) (xs : List V) (ps : List (List Nat)) (zs zs2 : List Str) (t : List Nat) (kvs : List (List Key × V)) (lim : Nat),
        Lw K H pu W L N X to X2 F d n m e reach xs ps zs zs2 t kvs → lim ≤ 24 → canS (2 * ps.length) ((lim + 1) / 2) = true →
        (∀ H', Q (.bl true) H') → tt { nx := fun _ H' => Q .non H', rt := Q } (sg a pu W L N T X to X2 F n e (some (.int (lim : Int))) none none none none none none none none none none) H := by
  have f_isinstance := c.f_isinstance
  have f_len := c.f_len
  have f_range := c.f_range
  have f_tuple := c.f_tuple
  obtain ⟨f___law_limits, fd__law_limits, g__law_limits, k__law_limits, F__law_limits, b__law_limits⟩ := (dn__law_limits (w := w) (base := base) c).ex
  obtain ⟨f___law_alike, fd__law_alike, g__law_alike, k__law_alike, F__law_alike, b__law_alike⟩ := (dn__law_alike (P := P) (w := w) (base := base) c).ex
  obtain ⟨f___law_same_elsewhere, fd__law_same_elsewhere, g__law_same_elsewhere, k__law_same_elsewhere, F__law_same_elsewhere, b__law_same_elsewhere⟩ := (dn__law_same_elsewhere (w := w) (base := base) c).ex
  obtain ⟨f___law_position, fd__law_position, g__law_position, k__law_position, F__law_position, b__law_position⟩ := (dn__law_position (P := P) (w := w) (base := base) c).ex
  obtain ⟨f___law_triangle, fd__law_triangle, g__law_triangle, k__law_triangle, F__law_triangle, b__law_triangle⟩ := (dn__law_triangle (P := P) (w := w) (base := base) c).ex
  obtain ⟨f___law_right, fd__law_right, g__law_right, k__law_right, F__law_right, b__law_right⟩ := (dn__law_right (P := P) (w := w) (base := base) c).ex
  obtain ⟨f___law_between, fd__law_between, g__law_between, k__law_between, F__law_between, b__law_between⟩ := (dn__law_between (P := P) (w := w) (base := base) c).ex
  obtain ⟨f__distance, fd_distance, g_distance, k_distance, F_distance, ⟨gk_distance, kb_distance⟩, ds_distance, v_distance, b_distance⟩ := (dn_distance (w := w) (base := base) c).ex
  obtain ⟨f___law_walk, fd__law_walk, g__law_walk, k__law_walk, F__law_walk, b__law_walk⟩ := (dn__law_walk (P := P) (w := w) (base := base) c).ex
  obtain ⟨f___law_draw, fd__law_draw, g__law_draw, k__law_draw, F__law_draw, b__law_draw⟩ := (dn__law_draw (P := P) (w := w) (base := base) c).ex
  obtain ⟨f__Puzzle_play, fd_Puzzle_play, m_Puzzle_play, F_Puzzle_play, b_Puzzle_play⟩ := (dn_Puzzle_play (P := P) (w := w) (base := base) c).ex
  obtain ⟨f___law_edge, fd__law_edge, g__law_edge, k__law_edge, F__law_edge, b__law_edge⟩ := (dn__law_edge (P := P) (w := w) (base := base) c).ex
  obtain ⟨f___law_ball, fd__law_ball, g__law_ball, k__law_ball, F__law_ball, b__law_ball⟩ := (dn__law_ball (P := P) (w := w) (base := base) c).ex
  obtain ⟨f___law_renamed, fd__law_renamed, g__law_renamed, k__law_renamed, F__law_renamed, b__law_renamed⟩ := (dn__law_renamed (P := P) (w := w) (base := base) c).ex
  obtain ⟨f___law_perm, fd__law_perm, g__law_perm, k__law_perm, F__law_perm, b__law_perm⟩ := (dn__law_perm (P := P) (w := w) (base := base) c).ex
  obtain ⟨f__Puzzle, fd_Puzzle, M_Puzzle, F_Puzzle, ⟨gk_Puzzle, kb_Puzzle⟩, ds_Puzzle, v_Puzzle, b_Puzzle⟩ := (dn_Puzzle___init__ (P := P) (w := w) (base := base) c).ex
  have g_Puzzle := c.g_Puzzle
  obtain ⟨f___law_names, fd__law_names, g__law_names, k__law_names, F__law_names, b__law_names⟩ := (dn__law_names (P := P) (w := w) (base := base) c).ex
  obtain ⟨f___law_world, fd__law_world, g__law_world, k__law_world, F__law_world, b__law_world⟩ := (dn__law_world (P := P) (w := w) (base := base) c).ex
  obtain ⟨f___law_purse, fd__law_purse, g__law_purse, k__law_purse, F__law_purse, b__law_purse⟩ := (dn__law_purse (P := P) (w := w) (base := base) c).ex
  have sc := sc_law
  obtain ⟨tt, htt, hq⟩ := law_t2 (w := w) (base := base) (outer := outer) (H0 := H0) (E := E) c hr
  refine ⟨_,
(pss_cons (ps_set (i := 13) sc.nd rfl (by first | exact Or.inl rfl | exact Or.inr rfl) (pe_tupRg rfl (by rfl) f_tuple (prg_1 (by rfl) f_range (pv 3))))
  (pss_cons (ps_if (pt_cmpR op_eq (pe_call F__law_draw (hr.mono (by decide)) (by rfl) g__law_draw k__law_draw b__law_draw nil_v pass0 (pa_cons (pv 1) (pa_cons pe_int pa_nil))) pe_int (nomark _)) (pss_one (ps_set (i := 13) sc.nd rfl (by first | exact Or.inl rfl | exact Or.inr rfl) (pe_call F__law_position (hr.mono (by decide)) (by rfl) g__law_position k__law_position b__law_position nil_v pass0 (pa_cons (pv 1) (pa_cons (pv 3) (pa_cons (pe_ix (ix_listK (K := K) rfl) (pv 2) pe_int (fun _ _ => rfl)) pa_nil)))))) pss_nil)
  (pss_cons (ps_set (i := 14) sc.nd rfl (by first | exact Or.inl rfl | exact Or.inr rfl) (pe_call F__law_walk (hr.mono (by decide)) (by rfl) g__law_walk k__law_walk b__law_walk nil_v pass0 (pa_cons (pv 1) (pa_cons (pv 5) (pa_cons (pv 4) (pa_cons (pv 13) (pa_cons (pe_call F__law_draw (hr.mono (by decide)) (by rfl) g__law_draw k__law_draw b__law_draw nil_v pass0 (pa_cons (pv 1) (pa_cons pe_int pa_nil))) pa_nil)))))))
  (pss_cons (ps_set (i := 15) sc.nd rfl (by first | exact Or.inl rfl | exact Or.inr rfl) (pe_meth (pv 7) c.cls m_Puzzle_play F_Puzzle_play (hr.mono (by decide)) b_Puzzle_play nil_v pass0 (pa_cons (pe_ix (ix_listK (K := K) rfl) (pv 14) pe_int (fun _ _ => rfl)) (pa_cons (pv 13) pa_nil))))
  (pss_cons (ps_if (PW.pt (pw_or (pt_not (pt_val (pe_callB (call_isiK1 (K := K) rfl) (by rfl) f_isinstance (by decide +kernel) (pa_cons (pv 15) (pa_cons (pe_bltn (v := .ty "tuple") (by rfl) f_tuple boot_tuple rfl) pa_nil))))) (pw_or1 (pt_cmpR (op_neDK (K := K) rfl hr.units) (pv 15) (pe_ix (ix_listK (K := K) rfl) (pv 14) pe_int (fun _ _ => rfl)) (nomark _))))) (pss_one (ps_ret pe_bl)) pss_nil)
  (pss_cons (ps_set (i := 16) sc.nd rfl (by first | exact Or.inl rfl | exact Or.inr rfl) (pe_cmpR op_eq (pe_call F__law_draw (hr.mono (by decide)) (by rfl) g__law_draw k__law_draw b__law_draw nil_v pass0 (pa_cons (pv 1) (pa_cons pe_int pa_nil))) pe_int (nomark _)))
  (pss_cons (ps_set (i := 17) sc.nd rfl (by first | exact Or.inl rfl | exact Or.inr rfl) (pe_ix (ix_listK (K := K) rfl) (pe_call F__law_walk (hr.mono (by decide)) (by rfl) g__law_walk k__law_walk b__law_walk nil_v pass0 (pa_cons (pv 1) (pa_cons (pv 5) (pa_cons (pv 4) (pa_cons (pe_ix (ix_listK (K := K) rfl) (pv 14) pe_int (fun _ _ => rfl)) (pa_cons (pe_call F__law_draw (hr.mono (by decide)) (by rfl) g__law_draw k__law_draw b__law_draw nil_v pass0 (pa_cons (pv 1) (pa_cons pe_int pa_nil))) pa_nil)))))) pe_int (fun _ _ => rfl)))
  (pss_cons (ps_if (pt_val (pv 16)) (pss_one (ps_set (i := 17) sc.nd rfl (by first | exact Or.inl rfl | exact Or.inr rfl) (pe_call F__law_position (hr.mono (by decide)) (by rfl) g__law_position k__law_position b__law_position nil_v pass0 (pa_cons (pv 1) (pa_cons (pv 3) (pa_cons (pe_ix (ix_listK (K := K) rfl) (pv 2) pe_int (fun _ _ => rfl)) pa_nil)))))) pss_nil)
  htt))))))))
    , ?_⟩
  intro Q H a pu W L N T X to X2 F d n m e reach xs ps zs zs2 t kvs lim LW hl24 hcs k
  obtain ⟨g1, g2, g3, g4, g5, g6, g7⟩ := id LW.good
  have hSym := gens_sym g6
  have znd : (zs.take ps.length).Nodup := LW.nnd.sublist (List.take_sublist _ _)
  refine ⟨_, rfl, _, rfl, RgOk.of_le (by omega) (by omega) (by omega) (by omega), fun c1 hc1 => ?_⟩
  rw [rgV_nv]
  have s1 := same_new (o := .tup (nv (List.range n))) hc1
  have tc1 : Tn (upd H c1 (.tup (nv (List.range n)))) c1 (List.range n) := upd_same
  dsimp only [gName]
  generalize upd H c1 (.tup (nv (List.range n))) = H1 at s1 tc1 ⊢
  have LW1 := LW.same s1
  clear LW
  refine cut (a := tIfS _ _ _) (fun σ H' => ∃ (a1 : Addr) (s1 : List Nat), σ = sg a pu W L N T X to X2 F n e (some (.int (lim : Int))) (some (.ref a1)) none none none none none none none none none ∧ Lw K H' pu W L N X to X2 F d n m e reach xs ps zs zs2 t kvs ∧ Tn H' a1 s1 ∧ IsP n s1 ∧ KM m n s1) ?_ fun NX hNX => ?_
  · rintro σ H2 ⟨a1, s1, rfl, LW2, t2, P1, k1⟩
    clear LW1 tc1
    refine ⟨_, rfl, _, rfl, _, rfl, _, rfl, _, rfl, pu, 8, rfl, LW2.pk, by decide, by decide, fun dr H3 b3 p3 hdr => ?_⟩
    have LW3 := LW2.mono b3 p3
    have t3 := (LW2.pk.tps b3).tn t2
    refine ⟨pu, N, L, a1, zs, xs, n, dr, ps, s1, rfl, p3, LW3.nn, LW3.ln, LW3.nm, LW3.n8, LW3.l, LW3.r, g6, g5, t3, P1, g2, by omega, fun WK TW a2 wd H4 b4 p4 hWK eWK wWd tw lwd hwd => ?_⟩
    have LW4 := LW3.mono b4 p4
    have t4 := (p3.tps b4).tn t3
    have nWK := p3.ne hWK
    have hW := playW_W (s := s1) hwd
    have P2 : IsP n (playW ps wd s1) := hW.isP hSym P1
    have k2 : KM m n (playW ps wd s1) := W_km g3 g4 g6 g7 P1 k1 hW
    obtain ⟨s2, es2⟩ : ∃ s2, playW ps wd s1 = s2 := ⟨_, rfl⟩
    rw [es2] at tw hW P2 k2
    dsimp only [gName]
    obtain ⟨dx, na, pa, pxs, q1, q2, q3, q4, q5⟩ := id LW4.pz
    refine ⟨_, rfl, X, dx, _, rfl, q1, rfl, _, rfl, WK, _, _, _, rfl, rfl, SqL.of eWK, atI_nat (j := 0) rfl, _, rfl, X, TW, a1, n, m, zs.take ps.length, ps, wd, s1, rfl, LW4.pz, LW4.good, znd, wWd.take hwd, by omega, t4, P1, k1, fun ct H5 s5 t5 => ?_⟩
    rw [es2] at t5
    dsimp only [gName]
    have LW5 := LW4.same s5
    have eWK5 := s5 _ _ eWK
    have tw5 := tw.mono s5
    have wWd5 := wWd.tps (Tps.of s5)
    have t45 := t4.mono s5
    refine ⟨_, rfl, _, _, _, _, true, rfl, .ty _, .base (.tup t5), kit_ty (by decide +kernel), _, rfl, ?_⟩
    refine ⟨_, rfl, _, rfl, WK, _, _, _, rfl, rfl, SqL.of eWK5, atI_nat (j := 1) rfl, ne_self t5 tw5 ⟨_, rfl, ?_⟩⟩
    refine ⟨_, rfl, pu, 4, rfl, LW5.pk, by decide, by decide, fun ds H6 b6 p6 hds => ⟨rfl, ?_⟩⟩
    have LW6 := LW5.mono b6 p6
    have ts6 := LW5.pk.tps b6
    have eWK6 := b6 _ _ nWK eWK5
    obtain ⟨st, est⟩ : ∃ st : Bool, decide (V.int (ds : Int) = V.int 0) = st := ⟨_, rfl⟩
    dsimp only [gName]
    rw [est]
    refine ⟨_, rfl, _, rfl, _, rfl, _, rfl, WK, _, _, _, rfl, rfl, SqL.of eWK6, atI_nat (j := 1) rfl, _, rfl, pu, 8, rfl, LW6.pk, by decide, by decide, fun dr2 H7 b7 p7 hdr2 => ?_⟩
    have LW7 := LW6.mono b7 p7
    have ts7 := ts6.trans (LW6.pk.tps b7)
    refine ⟨pu, N, L, a2, zs, xs, n, dr2, ps, s2, rfl, p7, LW7.nn, LW7.ln, LW7.nm, LW7.n8, LW7.l, LW7.r, g6, g5, ts7.tn tw5, P2, g2, by omega, fun WK2 TW2 b3' wd2 H8 b8 p8 hWK2 eWK2 _ tb8 _ hwd2 => ?_⟩
    have LW8 := LW7.mono b8 p8
    have ts8 := ts7.trans (p7.tps b8)
    have hW2 := playW_W (s := s2) hwd2
    have P3 : IsP n (playW ps wd2 s2) := hW2.isP hSym P2
    have k3 : KM m n (playW ps wd2 s2) := W_km g3 g4 g6 g7 P2 k2 hW2
    refine ⟨WK2, _, _, _, rfl, rfl, SqL.of eWK2, atI_nat (j := 1) rfl, ?_⟩
    dsimp only [gName]
    have eWK8 := b8 _ _ nWK (b7 _ _ nWK eWK6)
    have go : ∀ (H' : Hp) (b3 : Addr) (s3 : List Nat), But pu H8 H' → PU H' pu → Tn H' b3 s3 → IsP n s3 → KM m n s3 → tt { nx := fun _ H' => Q .non H', rt := Q } (sg a pu W L N T X to X2 F n e (some (.int (lim : Int))) (some (.ref a1)) (some (.ref WK)) (some (.ref ct)) (some (.bl st)) (some (.ref b3)) none none none none none) H' := fun H' b3 s3 bb pp tb Pb kb => by
      have t8' := p8.tps bb
      exact hq Q H' a pu W L N T X to X2 F d n m e reach xs ps zs zs2 t kvs lim a1 WK TW b3 a2 b3 s1 s2 s3 wd _ _ (LW8.mono bb pp) hl24 hcs (t8'.tn (ts8.tn t45)) P1 k1 (bb _ _ nWK eWK8) nWK ((wWd5.tps ts8).tps t8') (t8'.tn (ts8.tn tw5)) P2 k2 hW tb Pb kb k
    refine ⟨_, rfl, st, rfl, iteB (fun h0 => ?_) (fun h0 => ?_)⟩
    · exact ⟨_, rfl, _, rfl, _, rfl, W, _, _, _, rfl, rfl, SqL.of LW8.w, atI_nat (j := 1) rfl, pu, n, m, rfl, LW8.pk, g1, by omega, g3, g4, fun c2 q H9 b9 p9 t9 _ hP hK => go H9 c2 q b9 p9 t9 hP hK⟩
    · exact go H8 b3' _ (But.refl _ _) p8 tb8 P3 k3
  · refine ⟨_, rfl, pu, 2, rfl, LW1.pk, by decide, by decide, fun dr H2 b2 p2 hdr => ⟨rfl, _, rfl, iteD (fun h0 => ?_) (fun h0 => ?_)⟩⟩
    · have LW2 := LW1.mono b2 p2
      exact ⟨_, rfl, _, rfl, _, rfl, W, _, _, _, rfl, rfl, SqL.of LW2.w, atI_nat (j := 1) rfl, pu, n, m, rfl, p2, g1, by omega, g3, g4, fun c2 q H3 b3 p3 t3 _ hP hK => hNX _ _ ⟨c2, q, rfl, LW2.mono b3 p3, t3, hP, hK⟩⟩
    · exact hNX _ _ ⟨c1, _, rfl, LW1.mono b2 p2, (LW1.pk.tps b2).tn tc1, IsP.range n, KM.range g3 g4⟩
end
end K63
set_option maxRecDepth 100000
set_option maxHeartbeats 4000000
namespace K63
open PySem PySem.Spec PyProof.Rows L2 TB TM
section
variable {w : World} {K : PySem.W.Frag} {mg : Str → Option Value} {base : Heap}
theorem law_ok (c : Ctx K mg) {fd : FuncData} (FD : FunD K "law" "law" (defArgs s_law) (defBody s_law) (defScope s_law) (d_law.dvs K) (d_law.kws K) (He.fAd K d_law.at_) fd) : FnOk P w K mg base CX0 10 (He.fAd K d_law.at_) fd ["script"] (spLaw K) := by
  have f_isinstance := c.f_isinstance
  have f_len := c.f_len
  have f_range := c.f_range
  have f_tuple := c.f_tuple
  obtain ⟨f___law_limits, fd__law_limits, g__law_limits, k__law_limits, F__law_limits, b__law_limits⟩ := (dn__law_limits (w := w) (base := base) c).ex
  obtain ⟨f___law_alike, fd__law_alike, g__law_alike, k__law_alike, F__law_alike, b__law_alike⟩ := (dn__law_alike (P := P) (w := w) (base := base) c).ex
  obtain ⟨f___law_same_elsewhere, fd__law_same_elsewhere, g__law_same_elsewhere, k__law_same_elsewhere, F__law_same_elsewhere, b__law_same_elsewhere⟩ := (dn__law_same_elsewhere (w := w) (base := base) c).ex
  obtain ⟨f___law_position, fd__law_position, g__law_position, k__law_position, F__law_position, b__law_position⟩ := (dn__law_position (P := P) (w := w) (base := base) c).ex
  obtain ⟨f___law_triangle, fd__law_triangle, g__law_triangle, k__law_triangle, F__law_triangle, b__law_triangle⟩ := (dn__law_triangle (P := P) (w := w) (base := base) c).ex
  obtain ⟨f___law_right, fd__law_right, g__law_right, k__law_right, F__law_right, b__law_right⟩ := (dn__law_right (P := P) (w := w) (base := base) c).ex
  obtain ⟨f___law_between, fd__law_between, g__law_between, k__law_between, F__law_between, b__law_between⟩ := (dn__law_between (P := P) (w := w) (base := base) c).ex
  obtain ⟨f__distance, fd_distance, g_distance, k_distance, F_distance, ⟨gk_distance, kb_distance⟩, ds_distance, v_distance, b_distance⟩ := (dn_distance (w := w) (base := base) c).ex
  obtain ⟨f___law_walk, fd__law_walk, g__law_walk, k__law_walk, F__law_walk, b__law_walk⟩ := (dn__law_walk (P := P) (w := w) (base := base) c).ex
  obtain ⟨f___law_draw, fd__law_draw, g__law_draw, k__law_draw, F__law_draw, b__law_draw⟩ := (dn__law_draw (P := P) (w := w) (base := base) c).ex
  obtain ⟨f__Puzzle_play, fd_Puzzle_play, m_Puzzle_play, F_Puzzle_play, b_Puzzle_play⟩ := (dn_Puzzle_play (P := P) (w := w) (base := base) c).ex
  obtain ⟨f___law_edge, fd__law_edge, g__law_edge, k__law_edge, F__law_edge, b__law_edge⟩ := (dn__law_edge (P := P) (w := w) (base := base) c).ex
  obtain ⟨f___law_ball, fd__law_ball, g__law_ball, k__law_ball, F__law_ball, b__law_ball⟩ := (dn__law_ball (P := P) (w := w) (base := base) c).ex
  obtain ⟨f___law_renamed, fd__law_renamed, g__law_renamed, k__law_renamed, F__law_renamed, b__law_renamed⟩ := (dn__law_renamed (P := P) (w := w) (base := base) c).ex
  obtain ⟨f___law_perm, fd__law_perm, g__law_perm, k__law_perm, F__law_perm, b__law_perm⟩ := (dn__law_perm (P := P) (w := w) (base := base) c).ex
  obtain ⟨f__Puzzle, fd_Puzzle, M_Puzzle, F_Puzzle, ⟨gk_Puzzle, kb_Puzzle⟩, ds_Puzzle, v_Puzzle, b_Puzzle⟩ := (dn_Puzzle___init__ (P := P) (w := w) (base := base) c).ex
  have g_Puzzle := c.g_Puzzle
  obtain ⟨f___law_names, fd__law_names, g__law_names, k__law_names, F__law_names, b__law_names⟩ := (dn__law_names (P := P) (w := w) (base := base) c).ex
  obtain ⟨f___law_world, fd__law_world, g__law_world, k__law_world, F__law_world, b__law_world⟩ := (dn__law_world (P := P) (w := w) (base := base) c).ex
  obtain ⟨f___law_purse, fd__law_purse, g__law_purse, k__law_purse, F__law_purse, b__law_purse⟩ := (dn__law_purse (P := P) (w := w) (base := base) c).ex
  have sc := sc_law
  refine FD.ok sc (fun vs H Q E h => ?_) (fun cdv A outer s H vs Q E hr h => ?_)
  · obtain ⟨a, ns, rfl, _⟩ := h
    rfl
  · obtain ⟨tt, htt, hq⟩ := law_t1 (w := w) (base := base) (outer := outer) (H0 := H) (E := E) c hr
    refine ⟨_, PSs.nox (
(pss_cons (ps_set (i := 1) sc.nd rfl (by first | exact Or.inl rfl | exact Or.inr rfl) (pe_call F__law_purse (hr.mono (by decide)) (by rfl) g__law_purse k__law_purse b__law_purse nil_v pass0 (pa_cons (pv 0) pa_nil)))
  (pss_cons (ps_set (i := 2) sc.nd rfl (by first | exact Or.inl rfl | exact Or.inr rfl) (pe_call F__law_world (hr.mono (by decide)) (by rfl) g__law_world k__law_world b__law_world nil_v pass0 (pa_cons (pv 1) pa_nil)))
  (pss_cons (ps_set (i := 3) sc.nd rfl (by first | exact Or.inl rfl | exact Or.inr rfl) (pe_ix (ix_listK (K := K) rfl) (pv 2) pe_int (fun _ _ => rfl)))
  (pss_cons (ps_set (i := 4) sc.nd rfl (by first | exact Or.inl rfl | exact Or.inr rfl) (pe_ix (ix_listK (K := K) rfl) (pv 2) pe_int (fun _ _ => rfl)))
  (pss_cons (ps_set (i := 5) sc.nd rfl (by first | exact Or.inl rfl | exact Or.inr rfl) (pe_call F__law_names (hr.mono (by decide)) (by rfl) g__law_names k__law_names b__law_names nil_v pass0 (pa_cons (pv 1) (pa_cons pe_int pa_nil))))
  (pss_cons (ps_set (i := 6) sc.nd rfl (by first | exact Or.inl rfl | exact Or.inr rfl) (pe_callTy (call_tupK (K := K) rfl) (by rfl) f_tuple boot_tuple (pa_cons (pe_lc (own := [("k", 23)]) (tt := tYes) rfl sc.nd (pi_range1 (by rfl) f_range (pa_cons (pe_callB (call_lenK (K := K) rfl) (by rfl) f_len boot_len (pa_cons (pv 4) pa_nil)) pa_nil)) (blkOk_by (own := [("k", 23)]) (N := ["script", "purse", "world", "points", "perms", "names", "turns", "puzzle", "to", "renamed", "found", "edge", "limit", "first", "walk", "told", "strange", "third", "spots", "sides", "pair", "near", "shift", "k"]) (sc := defScope s_law) (by decide +kernel)) (fun _ _ _ _ _ => (pg_name (i := 23) sc.nd rfl (by first | exact Or.inl rfl | exact Or.inr rfl))) (fun _ _ _ _ _ => pts_nil) (fun _ _ _ _ _ => (pe_tup (pa_cons (pe_ix (ix_listK (K := K) rfl) (pv 5) (pv 23) (fun _ _ => rfl)) (pa_cons (pe_ix (ix_listK (K := K) rfl) (pv 4) (pv 23) (fun _ _ => rfl)) pa_nil))))) pa_nil)))
  (pss_cons (ps_set (i := 7) sc.nd rfl (by first | exact Or.inl rfl | exact Or.inr rfl) (pe_makeK M_Puzzle F_Puzzle (hr.mono (by decide)) (by rfl) g_Puzzle kb_Puzzle pass0 (pa_cons (pv 3) (pa_cons (pv 6) pa_nil)) (pk_cons (pe_ix (ix_listK (K := K) rfl) (pv 2) pe_int (fun _ _ => rfl)) pk_nil)))
  (pss_cons (ps_set (i := 8) sc.nd rfl (by first | exact Or.inl rfl | exact Or.inr rfl) (pe_call F__law_perm (hr.mono (by decide)) (by rfl) g__law_perm k__law_perm b__law_perm nil_v pass0 (pa_cons (pv 1) (pa_cons (pv 3) pa_nil))))
  (pss_cons (ps_set (i := 9) sc.nd rfl (by first | exact Or.inl rfl | exact Or.inr rfl) (pe_call F__law_renamed (hr.mono (by decide)) (by rfl) g__law_renamed k__law_renamed b__law_renamed nil_v pass0 (pa_cons (pv 4) (pa_cons (pv 3) (pa_cons (pv 5) (pa_cons (pv 8) pa_nil))))))
  (pss_cons (ps_set (i := 10) sc.nd rfl (by first | exact Or.inl rfl | exact Or.inr rfl) (pe_call F__law_ball (hr.mono (by decide)) (by rfl) g__law_ball k__law_ball b__law_ball nil_v pass0 (pa_cons (pv 4) (pa_cons (pv 3) pa_nil))))
  (pss_cons (ps_set (i := 11) sc.nd rfl (by first | exact Or.inl rfl | exact Or.inr rfl) (pe_call F__law_edge (hr.mono (by decide)) (by rfl) g__law_edge k__law_edge b__law_edge nil_v pass0 (pa_cons (pe_op op_mul pe_int (pe_callB (call_lenK (K := K) rfl) (by rfl) f_len boot_len (pa_cons (pv 4) pa_nil))) pa_nil)))
  (pss_cons (ps_set (i := 12) sc.nd rfl (by first | exact Or.inl rfl | exact Or.inr rfl) (pe_call F__law_draw (hr.mono (by decide)) (by rfl) g__law_draw k__law_draw b__law_draw nil_v pass0 (pa_cons (pv 1) (pa_cons pe_int pa_nil))))
  (pss_cons (ps_if (PW.pt (pw_or (pt_cmpR op_gt (pv 12) (pv 11) (nomark _)) (pw_or1 (pt_cmpR op_gt (pe_callB call_len_dT (by rfl) f_len boot_len (pa_cons (pe_ix (ix_listK (K := K) rfl) (pv 10) pe_int (fun _ _ => rfl)) pa_nil)) pe_int (nomark _))))) (pss_one (ps_set (i := 12) sc.nd rfl (by first | exact Or.inl rfl | exact Or.inr rfl) (pe_op op_modN (pv 12) pe_int))) pss_nil)
  htt)))))))))))))
      ), ?_⟩
    obtain ⟨a, ns, rfl, hns, hsq, k⟩ := h
    refine ⟨_, rfl, a, ns, rfl, hns, hsq, fun pu H1 s1 hpu0 p1 => ?_⟩
    refine ⟨_, rfl, pu, rfl, p1, fun W L xs n m ps H2 b2 p2 hW hL eW eL r2 good => ?_⟩
    have wn := p1.ne hW
    have ln := p1.ne hL
    refine ⟨_, rfl, W, _, _, _, rfl, rfl, SqL.of eW, atI_nat (j := 0) rfl, ?_⟩
    refine ⟨_, rfl, W, _, _, _, rfl, rfl, SqL.of eW, atI_nat (j := 2) rfl, ?_⟩
    refine ⟨_, rfl, pu, rfl, p2, fun N zs H3 b3 p3 hN eN n8 nok nnd => ?_⟩
    have nn := p2.ne hN
    have eW3 := b3 _ _ wn eW
    have eL3 := b3 _ _ ln eL
    have r3 := (p2.tps b3).rw r2
    obtain ⟨g1, g2, g3, g4, g5, g6, g7⟩ := id good
    have lxs : xs.length = ps.length := r3.1
    refine ⟨_, rfl, L, _, rfl, .inl (SqL.of eL3), (ps.length : Int), by rw [lxs], by omega, by omega, fun D hD => lc_same (walk_rng (n := ((ps.length : Int)).toNat)) hD (fun i H acc => Tl H acc (zs.take i) (ps.take i)) (fun _ _ => Tl.nil) (fun _ _ _ _ t r => r.tps t) (by omega) (fun _ _ => trivial) ?_ ?_⟩
    · rintro i x H4 H5 acc C hi s4 tl ⟨rfl, rfl⟩ kC
      have hil : i < ps.length := by omega
      obtain ⟨p, hp⟩ := get_of hil
      obtain ⟨b, hb, tb⟩ := r3.2 i p hp
      obtain ⟨z, hz⟩ := get_of (show i < zs.length by omega)
      have zat : (zs.map V.str)[i]? = some (.str z) := by rw [List.getElem?_map, hz]; rfl
      refine ⟨rfl, _, rfl, _, rfl, N, _, _, _, rfl, rfl, SqL.of (s4 _ _ eN), atI_nat zat, _, rfl, _, rfl, L, _, _, _, rfl, rfl, SqL.of (s4 _ _ eL3), atI_nat hb, szk rfl, fun q hq => kC _ _ (same_new hq) ?_⟩
      have e1 : zs.take (i + 1) = zs.take i ++ [z] := by rw [List.take_succ, hz]; rfl
      have e2 : ps.take (i + 1) = ps.take i ++ [p] := by rw [List.take_succ, hp]; rfl
      rw [e1, e2]
      exact (tl.tps (Tps.of (same_new hq))).snoc upd_same ((tb.mono s4).mono (same_new hq))
    · rintro H4 acc s4 e4 l4 tl
      rw [Int.toNat_natCast, List.take_of_length_le (Nat.le_refl _)] at tl
      refine ⟨D, _, rfl, .inl ⟨SqL.of e4, fun T hT => ?_⟩⟩
      have s5 := s4.trans (same_new (o := .tup acc) hT)
      have eT : (upd H4 T (.tup acc)) T = some (.tup acc) := upd_same
      have tl5 := tl.tps (Tps.of (same_new (o := .tup acc) hT))
      dsimp only [gName]
      generalize upd H4 T (.tup acc) = H5 at s5 eT tl5 ⊢
      refine ⟨_, rfl, _, rfl, _, rfl, W, _, _, _, rfl, rfl, SqL.of (s5 _ _ eW3), atI_nat (j := 1) rfl, rfl, rfl, fun X dx hX hdx hne => ?_⟩
      have s6 : Same H5 (upd (upd H5 dx (.own X)) X (.ins (He.ga K "Puzzle") dx [])) := (same_new hdx).trans (same_new (by rw [upd_ne (Ne.symm hne)]; exact hX))
      have znd : (zs.take ps.length).Nodup := nnd.sublist (List.take_sublist _ _)
      refine ⟨X, dx, T, n, m, zs.take ps.length, ps, rfl, upd_same, (tl5.tps (Tps.of s6)).tu (s6 _ _ eT), good, fun z hz => nok z (List.mem_of_mem_take hz), znd, fun H7 b7 pz => ⟨rfl, ?_⟩⟩
      have s57 : Same H5 H7 := fun b o ho => b7 b o (ne_of_none ho hX) (s6 _ _ ho)
      have s37 := s5.trans s57
      have p7 := p3.mono s37
      dsimp only [gName]
      refine ⟨_, rfl, _, rfl, pu, n, rfl, p7, g1, by omega, fun to t H8 b8 p8 tt hto tP => ?_⟩
      have t78 := p7.tps b8
      have eW8 := b8 _ _ wn (s37 _ _ eW3)
      have eL8 := b8 _ _ ln (s37 _ _ eL3)
      have eN8 := b8 _ _ nn (s37 _ _ eN)
      have r8 := t78.rw (r3.mono s37)
      have pz8 := pz.but p7 b8
      refine ⟨_, rfl, _, rfl, _, rfl, _, rfl, L, N, to, xs, zs, n, ps, t, rfl, eL8, r8, g6, g5, g1, g2, eN8, n8, nok, nnd, tt, tP, fun X2 zs2 H9 s9 pz2 => ?_⟩
      refine ⟨_, rfl, _, rfl, L, xs, n, ps, rfl, s9 _ _ eL8, r8.mono s9, g6, g1, g2, g5, fun F d kvs reach H10 s10 hF hd hkl hr24 hB => ?_⟩
      refine ⟨_, rfl, L, _, rfl, .inl (SqL.of (s10 _ _ (s9 _ _ eL8))), _, _, rfl, rfl, (.inl (by decide)), 2 * ps.length, ?_, by omega, fun e hE => ?_⟩
      · show [V.int (2 * (xs.length : Int))] = [V.int ((2 * ps.length : Nat) : Int)]
        rw [lxs]
        rfl
      have s810 := s9.trans s10
      have LW : Lw K H10 pu W L N X to X2 F d n m e reach xs ps zs zs2 t kvs :=
        ⟨p8.mono s810, s810 _ _ eW8, wn, s810 _ _ eL8, ln, r8.mono s810, good, s810 _ _ eN8, nn, n8, nok, nnd, pz8.mono s810, tt.mono s810, tP, pz2.mono s10, hF, ?_, hd, hB, hr24, hE⟩
      · refine ⟨_, rfl, pu, 25, rfl, LW.pk, by decide, by decide, fun lim0 H11 b11 p11 hl0 => ?_⟩
        have LW11 := LW.mono b11 p11
        clear LW s810 hF hd hB hr24 hE s10 pz2 s9 pz8 r8 eN8 eL8 eW8 t78 p7 s37 s57 pz b7 s6 tl5 eT s5 tl e4 s4 r3 eL3 eW3 r2 eL eW p8 b8 tt hto b11 p11
        dsimp only [gName]
        refine cut (a := tIfS _ _ _) (fun σ H' => ∃ lim : Nat, σ = sg a pu W L N T X to X2 F n e (some (.int (lim : Int))) none none none none none none none none none none ∧ Lw K H' pu W L N X to X2 F d n m e reach xs ps zs zs2 t kvs ∧ lim ≤ 24 ∧ canS (2 * ps.length) ((lim + 1) / 2) = true) ?_ fun N1 hN1 => ?_
        · rintro σ H12 ⟨lim, rfl, LW12, hl24, hcs⟩
          exact hq Q H12 a pu W L N T X to X2 F d n m e reach xs ps zs zs2 t kvs lim LW12 hl24 hcs k
        · have hm : (lim0 : Int).fmod 7 = ((lim0 % 7 : Nat) : Int) := by
            rw [Int.fmod_eq_emod_of_nonneg _ (by decide)]
            rfl
          have md : N1 (sg a pu W L N T X to X2 F n e (some (.int ((lim0 : Int).fmod 7))) none none none none none none none none none none) H11 := by
            rw [hm]
            exact hN1 _ _ ⟨_, rfl, LW11, by omega, canS_small (by omega) (by omega)⟩
          refine ⟨_, rfl, _, rfl, _, _, rfl, rfl, _, rfl, iteD (fun h0 => ?_) (fun h0 => ?_)⟩
          · exact ⟨_, rfl, _, _, rfl, rfl, (by decide : (7 : Int) ≠ 0), md⟩
          · refine ⟨_, rfl, F, _, _, _, rfl, rfl, SqL.of LW11.f, atI_nat (j := 0) rfl, d, kvs, rfl, LW11.dd, _, _, rfl, rfl, _, rfl, iteD (fun h1 => ?_) (fun h1 => ?_)⟩
            · exact ⟨_, rfl, _, _, rfl, rfl, (by decide : (7 : Int) ≠ 0), md⟩
            · exact hN1 _ _ ⟨lim0, rfl, LW11, by omega, canS_of LW11.edge (by omega)⟩
      · intro q
        rw [q] at hF
        obtain ⟨x1, x2, x3, x4, ep, _⟩ := p8.mono s810
        rw [ep] at hF
        injection hF with hF
        injection hF with hF
        injection hF with hF
        cases hF
end
end K63
set_option maxRecDepth 100000
set_option maxHeartbeats 0
namespace K63
open PySem PySem.Spec PyProof.Rows L2
def loose0 : List PySem.Str := ["_wall", "TumblerError", "InvalidCycles", "InvalidText", "InvalidPuzzle", "InvalidPosition", "InvalidLimit", "UnknownName", "NameTaken", "TooMany", "Unlike", "is_whole", "is_index", "is_row", "MOST_POINTS", "is_perm"]
def loose1 : List PySem.Str := ["identity", "is_identity", "times", "inverse", "cycle_at", "MOST_LETTERS", "is_name", "line_result", "BookMaker", "DIGITS", "cycles_of", "_are_cycles", "from_cycles", "_write_cycle", "write_perm", "_read_number"]
def loose2 : List PySem.Str := ["_read_cycles", "read_perm", "MOST_BALL", "MOST_STEPS", "steps_of", "step_perms", "can_search", "grown", "check_most", "check_search", "meeting", "searched", "distance", "spread", "Maker", "Level"]
def loose3 : List PySem.Str := ["sifted", "depth_of", "Walk", "needed_lines", "worked", "Link", "Chain", "_keeps_spot", "keeps_marks", "read_lines", "written_lines", "_counts_of", "_is_count", "_turn_of", "MOST_TURNS", "Puzzle"]
def loose4 : List PySem.Str := ["_law_purse", "_law_draw", "_law_perm", "_law_names", "_law_after", "_law_back", "_law_is_integer", "_law_same", "_law_position", "_law_world", "_law_ball", "_law_between", "_law_edge", "_law_right", "_law_alike", "_law_triangle"]
def loose5 : List PySem.Str := ["_law_walk", "_law_refuses", "_law_renamed", "_law_same_elsewhere", "_law_limits"]
def loose : List PySem.Str := loose0 ++ loose1 ++ loose2 ++ loose3 ++ loose4 ++ loose5
def xs0 : List PySem.Str := ["is_whole", "is_index", "is_row", "is_perm", "identity", "times", "inverse", "is_name", "steps_of", "step_perms", "can_search", "grown", "check_most", "check_search", "meeting", "searched"]
def xs1 : List PySem.Str := ["distance", "_keeps_spot", "keeps_marks", "_law_purse", "_law_draw", "_law_perm", "_law_names", "_law_after", "_law_back", "_law_is_integer", "_law_same", "_law_position", "_law_world", "_law_ball", "_law_between", "_law_edge"]
def xs2 : List PySem.Str := ["_law_right", "_law_alike", "_law_triangle", "_law_walk", "_law_refuses", "_law_renamed", "_law_same_elsewhere", "_law_limits", "law", "Puzzle", "TumblerError", "TooMany", "InvalidLimit"]
def xs : List PySem.Str := xs0 ++ xs1 ++ xs2
abbrev R : PySem.W.OpenRow := PySem.W.OpenLaw.row PySem.Challenge.rw_tumbler_k63_distances_between_positions
abbrev hk : PySem.W.Hook := TH.hookX xs fa fn xc xfile exB
def ob (s : PySem.W.SharedT) : TH.AlX := TH.obsGX xs fa fn xc xfile exB (HandSHeadRun.getT s)
theorem ob_eq (s : PySem.W.SharedT) : ob s = hk.obs s.abs := TH.obX_eq s
theorem run (w : World) : HandSHeadRun.RunEq R (PySem.W.view R.prog [100]) hk ob 8000 loose w := by
  intro os
  kernel_rfl
end K63
set_option maxRecDepth 100000
set_option maxHeartbeats 0
open PySem PySem.W PySem.Calls PyProof.Rows
theorem PySem.Challenge.cw_tumbler_k63_distances_between_positions_holds : PySem.Challenge.rw_tumbler_k63_distances_between_positions.Holds := by
  w_on; o_law
  refine HandSHeadRun.head_any (r := OpenLaw.row PySem.Challenge.rw_tumbler_k63_distances_between_positions) (q := view (OpenLaw.row PySem.Challenge.rw_tumbler_k63_distances_between_positions).prog [100]) (H := K63.hk) (ob := K63.ob)
    (M := 8000) (loose := K63.loose) (d := HandSHeadRun.topDef (OpenLaw.row PySem.Challenge.rw_tumbler_k63_distances_between_positions).prog 100) (kwd := []) K63.ob_eq
    (by kernel_rfl) (fun s => by kernel_rfl) K63.run (by kernel_rfl) (by kernel_rfl) (by kernel_rfl) (by rfl) (by first | assumption | decide +kernel) (by decide +kernel) ⟨rfl, rfl, rfl, rfl, rfl, by decide +kernel⟩ ?hw ?hc
  case hw => w_witness2
  case hc =>
    refine L2.walk_ofE (l := PySem.Challenge.rw_tumbler_k63_distances_between_positions) (n := 63) (k := 10) (x := "script") (CX := L2.CX0) rfl (by decide) (by kernel_rfl) ⟨rfl, by decide, by decide⟩ ?F (fun _ _ _ _ z => z)
    intro w mg fa h Y G hmg0
    obtain ⟨K, KX, S⟩ := Y
    have c : K63.Ctx K mg := ⟨h, KX, G, S⟩
    have hmg : mg ("law" : PySem.Str) = some (.ref fa) := by
      have e : (HandSHeadRun.topDef (OpenLaw.row PySem.Challenge.rw_tumbler_k63_distances_between_positions).prog 100).name = ("law" : PySem.Str) := by kernel_rfl
      rw [← e]
      exact hmg0
    obtain ⟨fd, FD⟩ := c.D_law
    have e := hmg.symm.trans c.g_law
    injection e with e
    injection e with e
    subst e
    refine ⟨K, fd, K63.spLaw K, KX, fun s u => L2.FunD.bindsA (ps := ["script"]) FD (fun _ _ _ _ _ _ us hl => match us, hl with | [_], _ => rfl) s [u] rfl, fun H a ns hl _ hS => ⟨a, ns, rfl, hl, hS, fun _ => rfl⟩, fun base _ _ => K63.law_ok c FD⟩
