import PyProof.Rows.All
import HandS.ForMost
import HandS.Gcd
import HandS.Wide
import HandS.IsInst
import HandS.Conv
import HandS.Zip
import HandS.Rev
import HandS.Flow
import HandS.Style
import HandS.TupAny
import HandS.EndBits
import PyProof.ReprReads
import HandS.Exc
import HandS.ExcOwn
import HandS.TryMany
import HandS.ExcIs
import HandS.ExcField
import KE.KExcIs
import KE.GoesEnum
import KE.GoesZip
import HandS.More
import HandS.ForSpec
import HandS.Small
import PySem.Challenge.RW_roadcrowds_k52_whole_rows_told_unlike
set_option Elab.async false
set_option linter.all false
set_option autoImplicit false
set_option maxRecDepth 100000
set_option maxHeartbeats 4000000
/-! PD: a small functional reading of the Python that the laws use: values as PyData, mutable lists as cells of a store.
    Part 1: values, what represents them, steps of the store. -/
namespace PD
open PySem PySem.Spec PyProof.Rows L2

/-- a value: plain data, or the mutable list in a cell of the store -/
inductive W where
  | d (x : PyData)
  | m (n : Nat)
/-- the mutable lists; none: dead (let go, or locked by a loop) -/
abbrev Sto := List (Option (List PyData))
abbrev Rho := List (Option W)

/-! ### what represents what -/
/-- a list that is not changed any more -/
def FzL (K : PySem.W.Frag) (H : Hp) (a : Addr) (vs : List V) : Prop :=
  (∃ o, H a = some (.frz o (.lst vs))) ∨
    ∃ (o : Obj) (its : Array Value) (n : Nat), K.lookup a = some o ∧ o.cls = .type "list" ∧ o.dict = none ∧ o.data = .seq its n ∧ its.size ≤ sizeLine ∧ Vals vs its.toList
/-- a tuple (no known object of another kind) -/
def TpT (K : PySem.W.Frag) (H : Hp) (a : Addr) (vs : List V) : Prop :=
  (H a = some (.tup vs)) ∨
    ∃ (o : Obj) (its : Array Value) (n : Nat), K.lookup a = some o ∧ o.cls = .type "tuple" ∧ o.data = .seq its n ∧ its.size ≤ sizeLine ∧ Vals vs its.toList
theorem FzL.sq {K : PySem.W.Frag} {H : Hp} {a : Addr} {vs : List V} (h : FzL K H a vs) : SqL K H a vs := by
  rcases h with ⟨o, h⟩ | h
  · exact .inl (.inr ⟨o, h⟩)
  · exact .inr h
theorem TpT.sq {K : PySem.W.Frag} {H : Hp} {a : Addr} {vs : List V} (h : TpT K H a vs) : SqT K H a vs := by
  rcases h with h | h
  · exact .inl (.inl h)
  · exact .inr h

mutual
inductive Rep (K : PySem.W.Frag) (H : Hp) : PyData → V → Prop
  | non : Rep K H .none .non
  | bl (b : Bool) : Rep K H (.bool b) (.bl b)
  | int (i : Int) : Rep K H (.int i) (.int i)
  | str (x : Str) : Rep K H (.str x) (.str x)
  | tup {a : Addr} {vs : List V} {xs : List PyData} : TpT K H a vs → RepL K H xs vs → Rep K H (.tuple xs) (.ref a)
  | lst {a : Addr} {vs : List V} {xs : List PyData} : FzL K H a vs → RepL K H xs vs → Rep K H (.list xs) (.ref a)
inductive RepL (K : PySem.W.Frag) (H : Hp) : List PyData → List V → Prop
  | nil : RepL K H [] []
  | cons {x : PyData} {v : V} {xs : List PyData} {vs : List V} : Rep K H x v → RepL K H xs vs → RepL K H (x :: xs) (v :: vs)
end

/-- never changed: tuples and known things -/
def Imm : HO → Prop
  | .tup _ => True
  | .frz _ _ => True
  | _ => False
/-- what is never changed stays -/
def Keeps (H H' : Hp) : Prop := ∀ a o, H a = some o → Imm o → H' a = some o
theorem Keeps.refl {H : Hp} : Keeps H H := fun _ _ h _ => h
theorem Keeps.trans {H H1 H2 : Hp} (h : Keeps H H1) (g : Keeps H1 H2) : Keeps H H2 := fun a o e i => g a o (h a o e i) i
theorem FzL.mono {K : PySem.W.Frag} {H H' : Hp} {a : Addr} {vs : List V} (k : Keeps H H') (h : FzL K H a vs) : FzL K H' a vs := by
  rcases h with ⟨o, h⟩ | h
  · exact .inl ⟨o, k _ _ h trivial⟩
  · exact .inr h
theorem TpT.mono {K : PySem.W.Frag} {H H' : Hp} {a : Addr} {vs : List V} (k : Keeps H H') (h : TpT K H a vs) : TpT K H' a vs := by
  rcases h with h | h
  · exact .inl (k _ _ h trivial)
  · exact .inr h
mutual
theorem Rep.mono {K : PySem.W.Frag} {H H' : Hp} (k : Keeps H H') : ∀ {d : PyData} {v : V}, Rep K H d v → Rep K H' d v
  | _, _, .non => .non
  | _, _, .bl b => .bl b
  | _, _, .int i => .int i
  | _, _, .str x => .str x
  | _, _, .tup h l => .tup (h.mono k) (RepL.mono k l)
  | _, _, .lst h l => .lst (h.mono k) (RepL.mono k l)
theorem RepL.mono {K : PySem.W.Frag} {H H' : Hp} (k : Keeps H H') : ∀ {xs : List PyData} {vs : List V}, RepL K H xs vs → RepL K H' xs vs
  | _, _, .nil => .nil
  | _, _, .cons h l => .cons (Rep.mono k h) (RepL.mono k l)
end
mutual
theorem Rep.dp {K : PySem.W.Frag} {H : Hp} : ∀ {d : PyData} {v : V}, Rep K H d v → Dp K H v d
  | _, _, .non => .non
  | _, _, .bl b => .bl b
  | _, _, .int i => .int i
  | _, _, .str x => .str x
  | _, _, .tup h l => .tup h.sq (RepL.dp l)
  | _, _, .lst h l => .lst h.sq (RepL.dp l)
theorem RepL.dp {K : PySem.W.Frag} {H : Hp} : ∀ {xs : List PyData} {vs : List V}, RepL K H xs vs → DpAll K H vs xs
  | _, _, .nil => .nil
  | _, _, .cons h l => .cons (Rep.dp h) (RepL.dp l)
end
section
variable {K : PySem.W.Frag} {H : Hp}
theorem RepL.length : ∀ {xs : List PyData} {vs : List V}, RepL K H xs vs → xs.length = vs.length
  | _, _, .nil => rfl
  | _, _, .cons _ l => by rw [List.length_cons, List.length_cons, RepL.length l]
theorem RepL.get : ∀ {xs : List PyData} {vs : List V} {i : Nat} {x : PyData}, RepL K H xs vs → xs[i]? = some x → ∃ v, vs[i]? = some v ∧ Rep K H x v
  | _, _, _, _, .nil, h => by simp at h
  | _, _, 0, _, .cons r _, h => by simp at h; subst h; exact ⟨_, rfl, r⟩
  | _, _, i + 1, _, .cons _ l, h => by simpa using RepL.get (i := i) l (by simpa using h)
theorem RepL.get' : ∀ {xs : List PyData} {vs : List V} {i : Nat} {v : V}, RepL K H xs vs → vs[i]? = some v → ∃ x, xs[i]? = some x ∧ Rep K H x v
  | _, _, _, _, .nil, h => by simp at h
  | _, _, 0, _, .cons r _, h => by simp at h; subst h; exact ⟨_, rfl, r⟩
  | _, _, i + 1, _, .cons _ l, h => by simpa using RepL.get' (i := i) l (by simpa using h)
theorem RepL.append : ∀ {xs ys : List PyData} {vs ws : List V}, RepL K H xs vs → RepL K H ys ws → RepL K H (xs ++ ys) (vs ++ ws)
  | _, _, _, _, .nil, h => h
  | _, _, _, _, .cons r l, h => .cons r (RepL.append l h)
theorem RepL.drop : ∀ {xs : List PyData} {vs : List V} (n : Nat), RepL K H xs vs → RepL K H (xs.drop n) (vs.drop n)
  | _, _, 0, h => by simpa using h
  | _, _, _ + 1, .nil => by simpa using RepL.nil
  | _, _, n + 1, .cons _ l => by simpa using RepL.drop n l
theorem RepL.take : ∀ {xs : List PyData} {vs : List V} (n : Nat), RepL K H xs vs → RepL K H (xs.take n) (vs.take n)
  | _, _, 0, _ => by simpa using RepL.nil
  | _, _, _ + 1, .nil => by simpa using RepL.nil
  | _, _, n + 1, .cons r l => by simpa using RepL.cons r (RepL.take n l)
theorem RepL.set : ∀ {xs : List PyData} {vs : List V} (i : Nat) {x : PyData} {v : V}, RepL K H xs vs → Rep K H x v → RepL K H (xs.set i x) (vs.set i v)
  | _, _, _, _, _, .nil, _ => by simpa using RepL.nil
  | _, _, 0, _, _, .cons _ l, h => by simpa using RepL.cons h l
  | _, _, i + 1, _, _, .cons r l, h => by simpa using RepL.cons r (RepL.set i l h)
theorem RepL.reverse : ∀ {xs : List PyData} {vs : List V}, RepL K H xs vs → RepL K H xs.reverse vs.reverse
  | _, _, .nil => by simpa using RepL.nil
  | _, _, .cons r l => by simpa using RepL.append (RepL.reverse l) (.cons r .nil)
theorem RepL.eraseIdx : ∀ {xs : List PyData} {vs : List V} (i : Nat), RepL K H xs vs → RepL K H (xs.eraseIdx i) (vs.eraseIdx i)
  | _, _, _, .nil => by simpa using RepL.nil
  | _, _, 0, .cons _ l => by simpa using l
  | _, _, i + 1, .cons r l => by simpa using RepL.cons r (RepL.eraseIdx i l)
theorem RepL.dropLast : ∀ {xs : List PyData} {vs : List V}, RepL K H xs vs → RepL K H xs.dropLast vs.dropLast
  | _, _, .nil => .nil
  | _, _, .cons r .nil => .nil
  | _, _, .cons r (.cons q l) => by simpa using RepL.cons r (RepL.dropLast (.cons q l))
theorem RepL.ints : ∀ (ns : List Int), RepL K H (ns.map PyData.int) (ns.map V.int)
  | [] => .nil
  | n :: ns => .cons (.int n) (RepL.ints ns)
end

/-- a value of either kind -/
inductive WRep (K : PySem.W.Frag) (H : Hp) (μ : List Addr) : W → V → Prop
  | d {x : PyData} {v : V} : Rep K H x v → WRep K H μ (.d x) v
  | m {n : Nat} {a : Addr} : μ[n]? = some a → WRep K H μ (.m n) (.ref a)
inductive WRepL (K : PySem.W.Frag) (H : Hp) (μ : List Addr) : List W → List V → Prop
  | nil : WRepL K H μ [] []
  | cons {w : W} {v : V} {ws : List W} {vs : List V} : WRep K H μ w v → WRepL K H μ ws vs → WRepL K H μ (w :: ws) (v :: vs)
theorem WRep.mono {K : PySem.W.Frag} {H H' : Hp} {μ μ' : List Addr} (k : Keeps H H') (p : μ <+: μ') {w : W} {v : V} (h : WRep K H μ w v) : WRep K H' μ' w v := by
  cases h with
  | d h => exact .d (h.mono k)
  | m h =>
    obtain ⟨r, rfl⟩ := p
    exact .m (by rw [List.getElem?_append_left (List.getElem?_eq_some_iff.mp h).1]; exact h)
theorem WRepL.mono {K : PySem.W.Frag} {H H' : Hp} {μ μ' : List Addr} (k : Keeps H H') (p : μ <+: μ') : ∀ {ws : List W} {vs : List V}, WRepL K H μ ws vs → WRepL K H' μ' ws vs
  | _, _, .nil => .nil
  | _, _, .cons h l => .cons (h.mono k p) (WRepL.mono k p l)
theorem WRepL.length {K : PySem.W.Frag} {H : Hp} {μ : List Addr} : ∀ {ws : List W} {vs : List V}, WRepL K H μ ws vs → ws.length = vs.length
  | _, _, .nil => rfl
  | _, _, .cons _ l => by rw [List.length_cons, List.length_cons, WRepL.length l]

theorem nd_inj {α : Type} : ∀ {l : List α} {i j : Nat} {a : α}, l.Nodup → l[i]? = some a → l[j]? = some a → i = j
  | [], _, _, _, _, h, _ => by simp at h
  | _ :: _, 0, 0, _, _, _, _ => rfl
  | x :: l, 0, j + 1, a, nd, h, g => by
    simp at h g
    subst h
    exact absurd (List.mem_of_getElem? g) (List.nodup_cons.mp nd).1
  | x :: l, i + 1, 0, a, nd, h, g => by
    simp at h g
    subst g
    exact absurd (List.mem_of_getElem? h) (List.nodup_cons.mp nd).1
  | x :: l, i + 1, j + 1, a, nd, h, g => by
    simp at h g
    rw [nd_inj (List.nodup_cons.mp nd).2 h g]
/-! ### the store -/
structure StoOk (K : PySem.W.Frag) (H : Hp) (μ : List Addr) (S : Sto) : Prop where
  len : μ.length = S.length
  nd : μ.Nodup
  there : ∀ a ∈ μ, ∃ o, H a = some o
  cell : ∀ (n : Nat) (xs : List PyData), S[n]? = some (some xs) → ∃ a vs, μ[n]? = some a ∧ H a = some (.lst vs) ∧ RepL K H xs vs
/-- the address of a list that may be changed -/
def Live (μ : List Addr) (S : Sto) (a : Addr) : Prop := ∃ (n : Nat) (xs : List PyData), μ[n]? = some a ∧ S[n]? = some (some xs)
/-- all that is tracked stays, but the lists of the store -/
def Ext (μ : List Addr) (S : Sto) (H H' : Hp) : Prop := ∀ a o, H a = some o → ¬ Live μ S a → H' a = some o
structure Stp (K : PySem.W.Frag) (μ : List Addr) (S : Sto) (H : Hp) (μ' : List Addr) (S' : Sto) (H' : Hp) : Prop where
  pre : μ <+: μ'
  sto : StoOk K H' μ' S'
  ext : Ext μ S H H'
  fresh : ∀ a ∈ μ', a ∈ μ ∨ H a = none
  dead : ∀ n : Nat, S[n]? = some none → S'[n]? = some none
section
variable {K : PySem.W.Frag} {H H1 H2 : Hp} {μ μ1 μ2 : List Addr} {S S1 S2 : Sto}
theorem StoOk.live_lst (ok : StoOk K H μ S) {a : Addr} (l : Live μ S a) : ∃ vs, H a = some (.lst vs) := by
  obtain ⟨n, xs, h1, h2⟩ := l
  obtain ⟨b, vs, h3, h4, _⟩ := ok.cell n xs h2
  rw [h1] at h3; cases h3
  exact ⟨vs, h4⟩
theorem StoOk.keeps (ok : StoOk K H μ S) (e : Ext μ S H H1) : Keeps H H1 := fun a o h i => e a o h fun l => by
  obtain ⟨vs, h'⟩ := ok.live_lst l
  rw [h] at h'; cases h'; exact i
theorem Stp.refl (ok : StoOk K H μ S) : Stp K μ S H μ S H := ⟨List.prefix_rfl, ok, fun _ _ h _ => h, fun _ h => .inl h, fun _ h => h⟩
theorem Stp.keeps (ok : StoOk K H μ S) (s : Stp K μ S H μ1 S1 H1) : Keeps H H1 := ok.keeps s.ext
theorem Stp.trans (ok : StoOk K H μ S) (s : Stp K μ S H μ1 S1 H1) (t : Stp K μ1 S1 H1 μ2 S2 H2) : Stp K μ S H μ2 S2 H2 where
  pre := s.pre.trans t.pre
  sto := t.sto
  ext := fun a o h nl => by
    refine t.ext a o (s.ext a o h nl) fun ⟨n, xs, h1, h2⟩ => ?_
    rcases s.fresh a (List.mem_of_getElem? h1) with m | m
    · obtain ⟨i, hi⟩ := List.getElem?_of_mem m
      have hi1 : μ1[i]? = some a := by
        obtain ⟨r, e⟩ := s.pre
        rw [← e, List.getElem?_append_left (List.getElem?_eq_some_iff.mp hi).1]; exact hi
      have en : n = i := nd_inj s.sto.nd h1 hi1
      subst en
      have hlt : n < S.length := by rw [← ok.len]; exact (List.getElem?_eq_some_iff.mp hi).1
      cases hS : S[n]? with
      | none => exact absurd (List.getElem?_eq_none_iff.mp hS) (Nat.not_le_of_lt hlt)
      | some c =>
        cases c with
        | none => rw [s.dead n hS] at h2; cases h2
        | some ys => exact nl ⟨n, ys, hi, hS⟩
    · rw [m] at h; cases h
  fresh := fun a h => by
    rcases t.fresh a h with m | m
    · exact s.fresh a m
    · cases e : H a with
      | none => exact .inr rfl
      | some o =>
        by_cases nl : Live μ S a
        · obtain ⟨n, xs, h1, _⟩ := nl
          exact .inl (List.mem_of_getElem? h1)
        · rw [s.ext a o e nl] at m; cases m
  dead := fun n h => t.dead n (s.dead n h)
theorem Stp.len (s : Stp K μ S H μ1 S1 H1) (ok : StoOk K H μ S) : S.length ≤ S1.length := by
  rw [← ok.len, ← s.sto.len]; exact s.pre.length_le
/-- something new, or untouched things changed: the store as it is -/
theorem Stp.same (ok : StoOk K H μ S) (e : ∀ a o, H a = some o → H1 a = some o) : Stp K μ S H μ S H1 where
  pre := List.prefix_rfl
  sto := ⟨ok.len, ok.nd, fun a m => let ⟨o, h⟩ := ok.there a m; ⟨o, e a o h⟩, fun n xs h => by
    obtain ⟨a, vs, h1, h2, h3⟩ := ok.cell n xs h
    exact ⟨a, vs, h1, e _ _ h2, h3.mono fun a o h _ => e a o h⟩⟩
  ext := fun a o h _ => e a o h
  fresh := fun _ h => .inl h
  dead := fun _ h => h
theorem same_new {p : Addr} {o : HO} (h : H p = none) : ∀ a u, H a = some u → (upd H p o) a = some u := fun a u e => by
  rw [upd_ne (ne_of_none e h)]; exact e
/-- a new object that is no cell -/
theorem Stp.new (ok : StoOk K H μ S) {p : Addr} {o : HO} (h : H p = none) : Stp K μ S H μ S (upd H p o) := Stp.same ok (same_new h)
/-- a new cell -/
theorem Stp.cell (ok : StoOk K H μ S) {p : Addr} {vs : List V} {xs : List PyData} (h : H p = none) (r : RepL K H xs vs) : Stp K μ S H (μ ++ [p]) (S ++ [some xs]) (upd H p (.lst vs)) where
  pre := ⟨[p], rfl⟩
  sto := by
    have hp : p ∉ μ := fun m => by obtain ⟨o, e⟩ := ok.there p m; rw [h] at e; cases e
    refine ⟨by simp [ok.len], ?_, fun a m => ?_, fun n ys e => ?_⟩
    · rw [List.nodup_append]
      exact ⟨ok.nd, by simp, fun a ha b hb e => by simp at hb; subst hb; subst e; exact hp ha⟩
    · rcases List.mem_append.mp m with m | m
      · obtain ⟨o, e⟩ := ok.there a m
        exact ⟨o, same_new h a o e⟩
      · simp at m; subst m; exact ⟨_, upd_same⟩
    · have kp : Keeps H (upd H p (.lst vs)) := fun a o e _ => same_new h a o e
      by_cases hn : n < S.length
      · rw [List.getElem?_append_left hn] at e
        obtain ⟨a, ws, h1, h2, h3⟩ := ok.cell n ys e
        exact ⟨a, ws, by rw [List.getElem?_append_left (by rw [ok.len]; exact hn)]; exact h1, same_new h _ _ h2, h3.mono kp⟩
      · rw [List.getElem?_append_right (by omega)] at e
        have e0 : n - S.length = 0 := by
          have := (List.getElem?_eq_some_iff.mp e).1
          simp at this; omega
        rw [e0] at e
        simp at e; subst e
        exact ⟨p, vs, by rw [List.getElem?_append_right (by rw [ok.len]; omega), ok.len, e0]; rfl, upd_same, r.mono kp⟩
  ext := fun a o e _ => same_new h a o e
  fresh := fun a m => by
    rcases List.mem_append.mp m with m | m
    · exact .inl m
    · simp at m; subst m; exact .inr h
  dead := fun n e => by rw [List.getElem?_append_left (List.getElem?_eq_some_iff.mp e).1]; exact e
/-- a cell is written -/
theorem Stp.put (ok : StoOk K H μ S) {n : Nat} {a : Addr} {us vs : List V} {xs ys : List PyData} (hn : S[n]? = some (some xs)) (ha : μ[n]? = some a) (hu : H a = some (.lst us)) (r : RepL K H ys vs) :
    Stp K μ S H μ (S.set n (some ys)) (upd H a (.lst vs)) where
  pre := List.prefix_rfl
  sto := by
    have kp : Keeps H (upd H a (.lst vs)) := fun b o e i => by
      rw [upd_ne (fun z => by subst z; rw [hu] at e; cases e; exact i)]; exact e
    refine ⟨by simp [ok.len], ok.nd, fun b m => ?_, fun k zs e => ?_⟩
    · by_cases hb : b = a
      · subst hb; exact ⟨_, upd_same⟩
      · obtain ⟨o, e⟩ := ok.there b m
        exact ⟨o, by rw [upd_ne hb]; exact e⟩
    · by_cases hk : k = n
      · subst hk
        rw [List.getElem?_set_self (List.getElem?_eq_some_iff.mp hn).1] at e
        cases e
        exact ⟨a, vs, ha, upd_same, r.mono kp⟩
      · rw [List.getElem?_set_ne (Ne.symm hk)] at e
        obtain ⟨b, ws, h1, h2, h3⟩ := ok.cell k zs e
        have hb : b ≠ a := fun z => by
          subst z
          exact hk (nd_inj ok.nd h1 ha)
        exact ⟨b, ws, h1, by rw [upd_ne hb]; exact h2, h3.mono kp⟩
  ext := fun b o e nl => by
    rw [upd_ne (fun z => by subst z; exact nl ⟨n, xs, ha, hn⟩)]; exact e
  fresh := fun _ h => .inl h
  dead := fun k e => by
    rw [List.getElem?_set_ne (fun z => by subst z; rw [hn] at e; cases e)]; exact e
/-- a cell is frozen: its list becomes plain data, the cell is dead -/
theorem Stp.freeze (ok : StoOk K H μ S) {n : Nat} {a : Addr} {us : List V} {xs : List PyData} (hn : S[n]? = some (some xs)) (ha : μ[n]? = some a) (hu : H a = some (.lst us)) (o : Obj) :
    Stp K μ S H μ (S.set n none) (upd H a (.frz o (.lst us))) where
  pre := List.prefix_rfl
  sto := by
    have kp : Keeps H (upd H a (.frz o (.lst us))) := fun b o e i => by
      rw [upd_ne (fun z => by subst z; rw [hu] at e; cases e; exact i)]; exact e
    refine ⟨by simp [ok.len], ok.nd, fun b m => ?_, fun k zs e => ?_⟩
    · by_cases hb : b = a
      · subst hb; exact ⟨_, upd_same⟩
      · obtain ⟨o, e⟩ := ok.there b m
        exact ⟨o, by rw [upd_ne hb]; exact e⟩
    · have hk : k ≠ n := fun z => by
        subst z
        rw [List.getElem?_set_self (List.getElem?_eq_some_iff.mp hn).1] at e; cases e
      rw [List.getElem?_set_ne (Ne.symm hk)] at e
      obtain ⟨b, ws, h1, h2, h3⟩ := ok.cell k zs e
      have hb : b ≠ a := fun z => by
        subst z
        exact hk (nd_inj ok.nd h1 ha)
      exact ⟨b, ws, h1, by rw [upd_ne hb]; exact h2, h3.mono kp⟩
  ext := fun b o e nl => by
    rw [upd_ne (fun z => by subst z; exact nl ⟨n, xs, ha, hn⟩)]; exact e
  fresh := fun _ h => .inl h
  dead := fun k e => by
    by_cases hk : k = n
    · subst hk; rw [hn] at e; cases e
    · rw [List.getElem?_set_ne (Ne.symm hk)]; exact e
/-- the cells behind the first ones are forgotten -/
theorem StoOk.cut (ok : StoOk K H μ S) (n : Nat) : StoOk K H (μ.take n) (S.take n) where
  len := by simp [ok.len]
  nd := ok.nd.sublist (List.take_sublist _ _)
  there := fun a m => ok.there a (List.mem_of_mem_take m)
  cell := fun k xs e => by
    have hk : k < n := by
      have := (List.getElem?_eq_some_iff.mp e).1
      simp at this; omega
    rw [List.getElem?_take_of_lt hk] at e
    obtain ⟨a, vs, h1, h2, h3⟩ := ok.cell k xs e
    exact ⟨a, vs, by rw [List.getElem?_take_of_lt hk]; exact h1, h2, h3⟩
end

/-! ### the names -/
structure EnvOk (K : PySem.W.Frag) (H : Hp) (μ : List Addr) (ρ : Rho) (σ : L2.St) : Prop where
  len : ρ.length = σ.length
  get : ∀ (i : Nat) (w : W), ρ[i]? = some (some w) → ∃ v, σ[i]? = some (some v) ∧ WRep K H μ w v
section
variable {K : PySem.W.Frag} {H H' : Hp} {μ μ' : List Addr} {ρ : Rho} {σ : L2.St}
theorem EnvOk.mono (k : Keeps H H') (p : μ <+: μ') (e : EnvOk K H μ ρ σ) : EnvOk K H' μ' ρ σ := ⟨e.len, fun i w h => let ⟨v, h1, h2⟩ := e.get i w h; ⟨v, h1, h2.mono k p⟩⟩
theorem EnvOk.step {S S' : Sto} (ok : StoOk K H μ S) (s : Stp K μ S H μ' S' H') (e : EnvOk K H μ ρ σ) : EnvOk K H' μ' ρ σ := e.mono (s.keeps ok) s.pre
theorem EnvOk.set {w : W} {v : V} (e : EnvOk K H μ ρ σ) (i : Nat) (r : WRep K H μ w v) : EnvOk K H μ (ρ.set i (some w)) (σ.set i (some v)) := by
  refine ⟨by simp [e.len], fun j w' h => ?_⟩
  by_cases hj : j = i
  · subst hj
    have hl : j < ρ.length := by
      have := (List.getElem?_eq_some_iff.mp h).1
      simpa using this
    rw [List.getElem?_set_self hl] at h
    cases h
    exact ⟨v, by rw [List.getElem?_set_self (by rw [← e.len]; exact hl)], r⟩
  · rw [List.getElem?_set_ne (Ne.symm hj)] at h ⊢
    exact e.get j w' h
/-- the slots of a comprehension's own names forgotten -/
def wipeR (ρ : Rho) : List Nat → Rho
  | [] => ρ
  | v :: vs => (wipeR ρ vs).set v none
theorem wipeR_length : ∀ vs : List Nat, (wipeR ρ vs).length = ρ.length
  | [] => rfl
  | v :: vs => by unfold wipeR; rw [List.length_set, wipeR_length vs]
theorem EnvOk.wipe (e : EnvOk K H μ ρ σ) : ∀ vs : List Nat, EnvOk K H μ (wipeR ρ vs) (L2.wipe σ vs)
  | [] => e
  | v :: vs => by
    have ih := EnvOk.wipe e vs
    refine ⟨by unfold wipeR L2.wipe; rw [List.length_set, List.length_set, ih.len], fun j w h => ?_⟩
    unfold wipeR at h
    unfold L2.wipe
    by_cases hj : j = v
    · subst hj
      by_cases hl : j < (wipeR ρ vs).length
      · rw [List.getElem?_set_self hl] at h; cases h
      · rw [List.getElem?_eq_none (by simpa using hl)] at h; cases h
    · rw [List.getElem?_set_ne (Ne.symm hj)] at h ⊢
      exact ih.get j w h
end
end PD

/-! PD, part 2: readings by functions; names, constants, operators, comparisons, tests. -/
namespace PD
open PySem PySem.Spec PyProof.Rows L2

theorem PE.imp {X : Cx} {e : Expr} {t t' : TE} (h : PE X e t) (i : ∀ σ H Q, t' σ H Q → t σ H Q) : PE X e t' := ⟨fun pins s σ H Q I q => h.run pins s σ H Q I (i σ H Q q)⟩
theorem PT.imp {X : Cx} {e : Expr} {t t' : TT} (h : PT X e t) (i : ∀ σ H Q, t' σ H Q → t σ H Q) : PT X e t' := ⟨fun pins s σ H Q I q => h.run pins s σ H Q I (i σ H Q q)⟩
theorem PW.imp {X : Cx} {e : Expr} {t t' : TT} (h : PW X e t) (i : ∀ σ H Q, t' σ H Q → t σ H Q) : PW X e t' := ⟨fun wh pins s σ H Q I q => h.run wh pins s σ H Q I (i σ H Q q)⟩
theorem PA.imp {X : Cx} {es : List Expr} {t t' : TA} (h : PA X es t) (i : ∀ σ H Q, t' σ H Q → t σ H Q) : PA X es t' := ⟨fun pos pins s σ H Q I q => h.run pos pins s σ H Q I (i σ H Q q)⟩
theorem PSs.imp {X : Cx} {e : List Stmt} {t t' : TS} (h : PSs X e t) (i : ∀ D σ H, t' D σ H → t D σ H) : PSs X e t' := ⟨fun pins s σ H D I q => h.run pins s σ H D I (i D σ H q)⟩
theorem PS.imp {X : Cx} {e : Stmt} {t t' : TS} (h : PS X e t) (i : ∀ D σ H, t' D σ H → t D σ H) : PS X e t' := ⟨fun pins s σ H D I q => h.run pins s σ H D I (i D σ H q)⟩
theorem OpR.imp {X : Cx} {f : Value → Value → Sem Value} {r r' : R2} (h : OpR X f r) (i : ∀ x y H Q, r' x y H Q → r x y H Q) : OpR X f r' := fun pins s σ H x y v u Q I rx ry q => h pins s σ H x y v u Q I rx ry (i _ _ _ _ q)
theorem CallR.imp {X : Cx} {f : Value} {r r' : List V → Hp → VK → Prop} (h : CallR X f r) (i : ∀ xs H Q, r' xs H Q → r xs H Q) : CallR X f r' := fun pins s σ H xs us Q I rx q => h pins s σ H xs us Q I rx (i _ _ _ q)

/-! ### a list that has just been laid becomes plain data -/
section
variable {X : Cx} {pins : List (Addr × Obj)} {σ : L2.St} {H : Hp} {s : Shared}
theorem Inv.frozen {p : Addr} {xs : List V} {o : Obj} (I : Inv X pins σ H s) (hp : H p = some (.lst xs)) (ho : s.heap.get? p = some o) : Inv X pins σ (upd H p (.frz o (.lst xs))) s := by
  have ne : ∀ b u, H b = some u → u ≠ .lst xs → b ≠ p := fun b u e n z => by subst z; rw [hp] at e; cases e; exact n rfl
  have nn : ∀ b, H b = none → b ≠ p := fun b e z => by subst z; rw [hp] at e; cases e
  have hok : HOk X.prog X.w (upd H p (.frz o (.lst xs))) s.heap := fun b u e => by
    by_cases hb : b = p
    · subst hb
      rw [upd_same] at e; cases e
      refine ⟨ho, ?_⟩
      have q := I.hok b _ hp
      exact q
    · rw [upd_ne hb] at e
      refine (I.hok b u e).stay (fun c w _ q => q) (fun c q => ?_) fun c ys q => ?_
      · rw [upd_ne (ne c _ q (by intro z; cases z))]; exact q
      · rw [upd_ne (ne c _ q (by intro z; cases z))]; exact q
  have := I.un (t' := s.toks) (h' := s.heap) (H' := upd H p (.frz o (.lst xs))) ?_ hok
  · exact this
  · exact ⟨fun _ _ e _ _ _ => e, fun _ ob e _ _ _ => ⟨ob.slots, e⟩, fun b _ _ n _ => by rw [upd_ne (nn b n)]; exact n, fun b ob e _ => ⟨ob, e⟩,
      fun b ys e => by rw [upd_ne (ne b _ e (by intro z; cases z))]; exact e, fun b ob u e => by rw [upd_ne (ne b _ e (by intro z; cases z))]; exact e,
      fun b ps e => ⟨#[], by rw [upd_ne (ne b _ e (by intro z; cases z)), e]; simp⟩⟩
/-- the wish behind a list that may be frozen -/
def QFz (Q : VK) : VK := fun v H1 => (∃ p xs, v = .ref p ∧ H1 p = some (.lst xs) ∧ ∀ o, Q v (upd H1 p (.frz o (.lst xs)))) ∨ Q v H1
theorem ep_fz {Q : VK} {u : Value} (h : EP X pins σ (QFz Q) u s) : EP X pins σ Q u s := by
  obtain ⟨v, H1, I, r, q⟩ := h
  rcases q with ⟨p, xs, rfl, hp, q⟩ | q
  · obtain ⟨_, its, n, rv, e⟩ := (show ObjOk X.prog X.w H1 s.heap p (.lst xs) from I.hok p _ hp)
    exact ⟨_, _, Inv.frozen I hp e, r, q _⟩
  · exact ⟨v, H1, I, r, q⟩
end
theorem pe_fz {X : Cx} {e : Expr} {t : TE} (h : PE X e t) : PE X e (fun σ H Q => t σ H (QFz Q)) := ⟨fun pins s σ H Q I q => thn (h.run pins s σ H _ I q) fun _ _ z => ep_fz z⟩
theorem op_fz {X : Cx} {f : Value → Value → Sem Value} {r : R2} (h : OpR X f r) : OpR X f (fun x y H Q => r x y H (QFz Q)) := fun pins s σ H x y v u Q I rx ry q => thn (h pins s σ H x y v u _ I rx ry q) fun _ _ z => ep_fz z
theorem call_fz {X : Cx} {f : Value} {r : List V → Hp → VK → Prop} (h : CallR X f r) : CallR X f (fun xs H Q => r xs H (QFz Q)) := fun pins s σ H xs us Q I rx q => thn (h pins s σ H xs us _ I rx q) fun _ _ z => ep_fz z

/-! ### reading by functions -/
abbrev CE := Rho → Sto → Option (W × Sto)
abbrev CB := Rho → Sto → Option (Bool × Sto)
abbrev CL := Rho → Sto → Option (List W × Sto)
section
variable (K : PySem.W.Frag)
def rdE (m : CE) : TE := fun σ H Q => ∃ μ S ρ w S', StoOk K H μ S ∧ EnvOk K H μ ρ σ ∧ m ρ S = some (w, S') ∧ ∀ v H' μ', Stp K μ S H μ' S' H' → WRep K H' μ' w v → Q v H'
def rdB (m : CB) : TT := fun σ H Q => ∃ μ S ρ w S', StoOk K H μ S ∧ EnvOk K H μ ρ σ ∧ m ρ S = some (w, S') ∧ ∀ H' μ', Stp K μ S H μ' S' H' → Q w H'
def rdL (m : CL) : TA := fun σ H Q => ∃ μ S ρ ws S', StoOk K H μ S ∧ EnvOk K H μ ρ σ ∧ m ρ S = some (ws, S') ∧ ∀ vs H' μ', Stp K μ S H μ' S' H' → WRepL K H' μ' ws vs → Q vs H'
/-- what an operation of two values is to reach -/
def F2 (f : W → W → Sto → Option (W × Sto)) : R2 := fun x y H Q => ∃ μ S w1 w2 w S', StoOk K H μ S ∧ WRep K H μ w1 x ∧ WRep K H μ w2 y ∧ f w1 w2 S = some (w, S') ∧ ∀ v H' μ', Stp K μ S H μ' S' H' → WRep K H' μ' w v → Q v H'
def F1 (f : W → Sto → Option (W × Sto)) : V → Hp → VK → Prop := fun x H Q => ∃ μ S w1 w S', StoOk K H μ S ∧ WRep K H μ w1 x ∧ f w1 S = some (w, S') ∧ ∀ v H' μ', Stp K μ S H μ' S' H' → WRep K H' μ' w v → Q v H'
def FN (f : List W → Sto → Option (W × Sto)) : List V → Hp → VK → Prop := fun xs H Q => ∃ μ S ws w S', StoOk K H μ S ∧ WRepL K H μ ws xs ∧ f ws S = some (w, S') ∧ ∀ v H' μ', Stp K μ S H μ' S' H' → WRep K H' μ' w v → Q v H'
end
abbrev SE (X : Cx) (e : Expr) (m : CE) : Prop := PE X e (rdE X.K m)
abbrev SB (X : Cx) (e : Expr) (m : CB) : Prop := PT X e (rdB X.K m)
abbrev SL (X : Cx) (es : List Expr) (m : CL) : Prop := PA X es (rdL X.K m)

/-! ### the functions -/
def constE (x : PyData) : CE := fun _ S => some (.d x, S)
def varE (i : Nat) : CE := fun ρ S => match ρ[i]? with
  | some (some w) => some (w, S)
  | _ => none
def binE (f : W → W → Sto → Option (W × Sto)) (a b : CE) : CE := fun ρ S => (a ρ S).bind fun p => (b ρ p.2).bind fun q => f p.1 q.1 q.2
def unE (f : W → Sto → Option (W × Sto)) (a : CE) : CE := fun ρ S => (a ρ S).bind fun p => f p.1 p.2
def ifE (t : CB) (a b : CE) : CE := fun ρ S => (t ρ S).bind fun p => if p.1 = true then a ρ p.2 else b ρ p.2
def nilL : CL := fun _ S => some ([], S)
def consL (a : CE) (r : CL) : CL := fun ρ S => (a ρ S).bind fun p => (r ρ p.2).bind fun q => some (p.1 :: q.1, q.2)
def appE (f : List W → Sto → Option (W × Sto)) (r : CL) : CE := fun ρ S => (r ρ S).bind fun p => f p.1 p.2
def andB (a b : CB) : CB := fun ρ S => (a ρ S).bind fun p => if p.1 = true then b ρ p.2 else some (false, p.2)
def orB (a b : CB) : CB := fun ρ S => (a ρ S).bind fun p => if p.1 = true then some (true, p.2) else b ρ p.2
def notB (a : CB) : CB := fun ρ S => (a ρ S).bind fun p => some (!p.1, p.2)
def asBool : W → Option Bool
  | .d (.bool b) => some b
  | _ => none
/-- a bool's test -/
def valB (a : CE) : CB := fun ρ S => (a ρ S).bind fun p => (asBool p.1).bind fun b => some (b, p.2)
/-- a test as a value -/
def boolE (t : CB) : CE := fun ρ S => (t ρ S).bind fun p => some (.d (.bool p.1), p.2)
/-- what a value is read as -/
def rd (S : Sto) : W → Option PyData
  | .d x => some x
  | .m n => match S[n]? with
    | some (some xs) => some (.list xs)
    | _ => none
def pf1 (g : PyData → Option PyData) : W → Sto → Option (W × Sto) := fun x S => (rd S x).bind fun a => (g a).bind fun c => some (.d c, S)
def pf2 (g : PyData → PyData → Option PyData) : W → W → Sto → Option (W × Sto) := fun x y S => (rd S x).bind fun a => (rd S y).bind fun b => (g a b).bind fun c => some (.d c, S)

section
variable {K : PySem.W.Frag} {H : Hp} {μ : List Addr} {S : Sto}
/-- read: plain data, or a list that stands in a cell -/
inductive RdRep (K : PySem.W.Frag) (H : Hp) : PyData → V → Prop
  | imm {x : PyData} {v : V} : Rep K H x v → RdRep K H x v
  | cell {a : Addr} {vs : List V} {xs : List PyData} : H a = some (.lst vs) → RepL K H xs vs → RdRep K H (.list xs) (.ref a)
theorem RdRep.of {w : W} {v : V} {x : PyData} (ok : StoOk K H μ S) (r : WRep K H μ w v) (h : rd S w = some x) : RdRep K H x v := by
  cases r with
  | d r => cases h; exact .imm r
  | m hm =>
    rename_i n a
    have h' : (match S[n]? with
      | some (some xs) => some (PyData.list xs)
      | _ => none) = some x := h
    split at h'
    · rename_i xs hs
      cases h'
      obtain ⟨b, vs, h1, h2, h3⟩ := ok.cell _ _ hs
      rw [hm] at h1; cases h1
      exact .cell h2 h3
    · cases h'
theorem RdRep.dp {x : PyData} {v : V} (r : RdRep K H x v) : Dp K H v x := by
  cases r with
  | imm r => exact r.dp
  | cell h l => exact .lst (SqL.of h) l.dp
theorem RdRep.list {xs : List PyData} {v : V} (r : RdRep K H (.list xs) v) : ∃ a vs, v = .ref a ∧ SqL K H a vs ∧ RepL K H xs vs := by
  cases r with
  | imm r => cases r with | lst h l => exact ⟨_, _, rfl, h.sq, l⟩
  | cell h l => exact ⟨_, _, rfl, SqL.of h, l⟩
theorem RdRep.tuple {xs : List PyData} {v : V} (r : RdRep K H (.tuple xs) v) : ∃ a vs, v = .ref a ∧ TpT K H a vs ∧ RepL K H xs vs := by
  cases r with
  | imm r => cases r with | tup h l => exact ⟨_, _, rfl, h, l⟩
theorem RdRep.int {i : Int} {v : V} (r : RdRep K H (.int i) v) : v = .int i := by cases r with | imm r => cases r; rfl
theorem RdRep.bool {b : Bool} {v : V} (r : RdRep K H (.bool b) v) : v = .bl b := by cases r with | imm r => cases r; rfl
theorem RdRep.str {b : Str} {v : V} (r : RdRep K H (.str b) v) : v = .str b := by cases r with | imm r => cases r; rfl
theorem RdRep.none {v : V} (r : RdRep K H .none v) : v = .non := by cases r with | imm r => cases r; rfl
end

/-! ### names and constants -/
section
variable {X : Cx} {e a b : Expr} {ma mb : CE} {pos : Pos}
theorem se_const {x : PyData} {v : V} {j : Nat} {c : Const} (h : PE X (.Constant c j pos) (tC v)) (r : ∀ H, Rep X.K H x v) : SE X (.Constant c j pos) (constE x) :=
  PE.imp h fun σ H Q ⟨μ, S, ρ, w, S', ok, en, e, q⟩ => by
    cases e
    exact q v H μ (.refl ok) (.d (r H))
theorem se_int {i : Int} {j : Nat} : SE X (.Constant (.int i) j pos) (constE (.int i)) := se_const pe_int fun _ => .int i
theorem se_bool {i : Bool} {j : Nat} : SE X (.Constant (.bool i) j pos) (constE (.bool i)) := se_const pe_bl fun _ => .bl i
theorem se_none {j : Nat} : SE X (.Constant .none j pos) (constE .none) := se_const pe_non fun _ => .non
theorem se_str {i : Str} {j : Nat} : SE X (.Constant (.str i) j pos) (constE (.str i)) := se_const pe_str fun _ => .str i
theorem se_var {i : Nat} {x : Str} (hN : X.N[i]? = some x) (hv : Vis X.env.scope x) (hd : (x == ("__debug__" : Str)) = false) (hcd : (x == ("__classdict__" : Str)) = false) : SE X (.Name x pos) (varE i) :=
  PE.imp (pe_var hN hv hd hcd) fun σ H Q ⟨μ, S, ρ, w, S', ok, en, e, q⟩ => by
    unfold varE at e
    split at e
    · rename_i w' h
      cases e
      obtain ⟨v, h1, h2⟩ := en.get i _ h
      exact ⟨v, h1, q v H μ (.refl ok) h2⟩
    · cases e
theorem se_glob {x : Str} {d : PyData} {v : V} {u : Value} (hg : Gl X x) (hm : X.mg x = some u) (r : RelV v u) (rp : ∀ H, Rep X.K H d v) (hd : (x == ("__debug__" : Str)) = false) : SE X (.Name x pos) (constE d) :=
  PE.imp (pe_glob hg hm r hd) fun σ H Q ⟨μ, S, ρ, w, S', ok, en, e, q⟩ => by
    cases e
    exact q v H μ (.refl ok) (.d (rp H))

/-! ### operators -/
theorem rd_bin {f : W → W → Sto → Option (W × Sto)} {K : PySem.W.Frag} {σ : L2.St} {H : Hp} {Q : VK} (h : rdE K (binE f ma mb) σ H Q) :
    rdE K ma σ H fun x H1 => rdE K mb σ H1 fun y H2 => F2 K f x y H2 Q := by
  obtain ⟨μ, S, ρ, w, S', ok, en, e, q⟩ := h
  unfold binE at e
  cases ha : ma ρ S with
  | none => rw [ha] at e; cases e
  | some p =>
    obtain ⟨w1, S1⟩ := p
    rw [ha] at e
    cases hb : mb ρ S1 with
    | none => rw [Option.bind_some, hb] at e; cases e
    | some p2 =>
      obtain ⟨w2, S2⟩ := p2
      rw [Option.bind_some, hb, Option.bind_some] at e
      refine ⟨μ, S, ρ, w1, S1, ok, en, ha, fun x H1 μ1 st1 r1 => ⟨μ1, S1, ρ, w2, S2, st1.sto, en.step ok st1, hb, fun y H2 μ2 st2 r2 => ?_⟩⟩
      exact ⟨μ2, S2, w1, w2, w, S', st2.sto, r1.mono (st2.keeps st1.sto) st2.pre, r2, e, fun v H' μ' st3 r3 => q v H' μ' (st1.trans ok (st2.trans st1.sto st3)) r3⟩
theorem rd_un {f : W → Sto → Option (W × Sto)} {K : PySem.W.Frag} {σ : L2.St} {H : Hp} {Q : VK} (h : rdE K (unE f ma) σ H Q) : rdE K ma σ H fun x H1 => F1 K f x H1 Q := by
  obtain ⟨μ, S, ρ, w, S', ok, en, e, q⟩ := h
  unfold unE at e
  cases ha : ma ρ S with
  | none => rw [ha] at e; cases e
  | some p =>
    obtain ⟨w1, S1⟩ := p
    rw [ha] at e
    exact ⟨μ, S, ρ, w1, S1, ok, en, ha, fun x H1 μ1 st1 r1 => ⟨μ1, S1, w1, w, S', st1.sto, r1, e, fun v H' μ' st3 r3 => q v H' μ' (st1.trans ok st3) r3⟩⟩
theorem se_bin {op : Operator} {f : W → W → Sto → Option (W × Sto)} (ho : OpR X (binaryOp op) (F2 X.K f)) (ha : SE X a ma) (hb : SE X b mb) : SE X (.BinOp a op b pos) (binE f ma mb) :=
  PE.imp (pe_op ho ha hb) fun _ _ _ h => rd_bin h
theorem se_un {op : UnaryOp} {f : W → Sto → Option (W × Sto)} (ho : UnR X (unaryOp op) (F1 X.K f)) (ha : SE X a ma) : SE X (.UnaryOp op a pos) (unE f ma) :=
  PE.imp (pe_un ho ha) fun _ _ _ h => rd_un h
theorem se_cmp {op : CmpOp} {f : W → W → Sto → Option (W × Sto)} (ho : OpR X (compareOp op) (F2 X.K f)) (ha : SE X a ma) (hb : SE X b mb) (hm : behindInMarks op b = false) : SE X (.Compare a [op] [b] pos) (binE f ma mb) :=
  PE.imp (pe_cmpR ho ha hb hm) fun _ _ _ h => rd_bin h

/-- a pure operation's reading, from its rule on values -/
theorem F2_pure {K : PySem.W.Frag} {g : PyData → PyData → Option PyData} {x y : V} {H : Hp} {Q : VK} (h : F2 K (pf2 g) x y H Q) :
    ∃ d1 d2 c, RdRep K H d1 x ∧ RdRep K H d2 y ∧ g d1 d2 = some c ∧ ∀ v H', (∀ a o, H a = some o → H' a = some o) → Rep K H' c v → Q v H' := by
  obtain ⟨μ, S, w1, w2, w, S', ok, r1, r2, e, q⟩ := h
  unfold pf2 at e
  cases h1 : rd S w1 with
  | none => rw [h1] at e; cases e
  | some d1 =>
    cases h2 : rd S w2 with
    | none => rw [h1, Option.bind_some, h2] at e; cases e
    | some d2 =>
      cases h3 : g d1 d2 with
      | none => rw [h1, Option.bind_some, h2, Option.bind_some, h3] at e; cases e
      | some c =>
        rw [h1, Option.bind_some, h2, Option.bind_some, h3, Option.bind_some] at e
        cases e
        exact ⟨d1, d2, c, RdRep.of ok r1 h1, RdRep.of ok r2 h2, h3, fun v H' k r => q v H' μ (Stp.same ok k) (.d r)⟩
theorem F1_pure {K : PySem.W.Frag} {g : PyData → Option PyData} {x : V} {H : Hp} {Q : VK} (h : F1 K (pf1 g) x H Q) :
    ∃ d1 c, RdRep K H d1 x ∧ g d1 = some c ∧ ∀ v H', (∀ a o, H a = some o → H' a = some o) → Rep K H' c v → Q v H' := by
  obtain ⟨μ, S, w1, w, S', ok, r1, e, q⟩ := h
  unfold pf1 at e
  cases h1 : rd S w1 with
  | none => rw [h1] at e; cases e
  | some d1 =>
    cases h3 : g d1 with
    | none => rw [h1, Option.bind_some, h3] at e; cases e
    | some c =>
      rw [h1, Option.bind_some, h3, Option.bind_some] at e
      cases e
      exact ⟨d1, c, RdRep.of ok r1 h1, h3, fun v H' k r => q v H' μ (Stp.same ok k) (.d r)⟩
end
theorem keeps_all {H : Hp} : ∀ a o, H a = some o → H a = some o := fun _ _ h => h

/-! ### + - * // % ** -/
def mulOk (i j : Int) : Bool := decide (i.natAbs.log2 + j.natAbs.log2 < 1000000)
def divOk (j : Int) : Bool := decide (j ≠ 0 ∧ j.natAbs.log2 < 9000)
/-- the greatest length of a list, of a tuple that is made -/
abbrev lim : Nat := 100000
def addP : PyData → PyData → Option PyData
  | .int i, .int j => some (.int (i + j))
  | .list xs, .list ys => if xs.length + ys.length ≤ lim then some (.list (xs ++ ys)) else none
  | .tuple xs, .tuple ys => if xs.length + ys.length ≤ lim then some (.tuple (xs ++ ys)) else none
  | _, _ => none
def subP : PyData → PyData → Option PyData
  | .int i, .int j => some (.int (i - j))
  | _, _ => none
def mulP : PyData → PyData → Option PyData
  | .int i, .int j => if mulOk i j = true then some (.int (i * j)) else none
  | _, _ => none
def divP : PyData → PyData → Option PyData
  | .int i, .int j => if divOk j = true then some (.int (i.fdiv j)) else none
  | _, _ => none
def modP : PyData → PyData → Option PyData
  | .int i, .int j => if j ≠ 0 then some (.int (i.fmod j)) else none
  | _, _ => none
def powP : PyData → PyData → Option PyData
  | .int i, .int j => if 0 ≤ j ∧ j ≤ 1000000 ∧ i.natAbs < 2 ^ 64 then some (.int (i ^ j.toNat)) else none
  | _, _ => none
theorem lim_le {n : Nat} (h : n ≤ lim) : n ≤ sizeLine := Nat.le_trans h (by rw [sizeLine_eq]; decide)
section
variable {X : Cx}
/-- list + list, of any lists that are read -/
theorem op_catL : OpR X (binaryOp .Add) (fun x y H Q => ∃ a b xs ys, x = .ref a ∧ y = .ref b ∧ SqL X.K H a xs ∧ SqL X.K H b ys ∧ xs.length + ys.length ≤ sizeLine ∧ ∀ p, H p = none → Q (.ref p) (upd H p (.lst (xs ++ ys)))) := by
  intro pins s σ H x y v u Q I rx ry h
  obtain ⟨a, b, xs, ys, rfl, rfl, ha, hb, hz, q⟩ := h
  cases rx
  cases ry
  obtain ⟨its, r, pl, _⟩ := I.list ha
  obtain ⟨its2, r2, pl2, _⟩ := I.list hb
  obtain ⟨⟨cls, dd, data, sl⟩, ho, hc, n, hd⟩ := id pl.isList
  obtain ⟨⟨cls2, dd2, data2, sl2⟩, ho2, hc2, n2, hd2⟩ := id pl2.isList
  simp only at hc hd hc2 hd2
  subst hc hd hc2 hd2
  have e : its.toArray ++ its2.toArray = (its ++ its2).toArray := by simp
  refine concat_meets ⟨_, ho, rfl⟩ ⟨_, ho2, rfl⟩ PySem.noFill_list_add PySem.seq_list_add PySem.F.slot_list_add PySem.F.entry_list_add (PySem.F.args_list_add_2 _ _) (list_addW a b its.toArray its2.toArray n n2 dd dd2 sl sl2 (by rw [List.size_toArray, List.size_toArray, ← r.length, ← r2.length]; exact hz)) ⟨ho, ho2, ?_⟩
  rw [e]
  exact ⟨.ref _, _, I.lnew (t' := s.toks) (r.append r2) (by rw [List.length_append]; exact hz), rfl, q _ I.fresh⟩
theorem so_add : OpR X (binaryOp .Add) (F2 X.K (pf2 addP)) := by
  refine OpR.imp (op_fz (op_add.or (op_catL.or op_catA))) fun x y H Q h => ?_
  obtain ⟨d1, d2, c, r1, r2, e, q⟩ := F2_pure h
  unfold addP at e
  split at e
  · cases e
    exact .inl ⟨_, _, r1.int, r2.int, .inr (q _ H keeps_all (.int _))⟩
  · split at e
    · rename_i hz
      cases e
      obtain ⟨a, vs, rfl, h1, l1⟩ := r1.list
      obtain ⟨b, us, rfl, h2, l2⟩ := r2.list
      refine .inr (.inl ⟨a, b, vs, us, rfl, rfl, h1, h2, by rw [← l1.length, ← l2.length]; exact lim_le hz, fun p hp => .inl ⟨p, _, rfl, upd_same, fun o => ?_⟩⟩)
      rw [upd_upd]
      exact q _ _ (same_new hp) (.lst (.inl ⟨o, upd_same⟩) ((l1.append l2).mono fun a o e _ => same_new hp a o e))
    · cases e
  · split at e
    · rename_i xs ys hz
      cases e
      obtain ⟨a, vs, rfl, h1, l1⟩ := r1.tuple
      obtain ⟨b, us, rfl, h2, l2⟩ := r2.tuple
      refine .inr (.inr ⟨a, b, vs, us, rfl, rfl, h1.sq, h2.sq, by rw [← l1.length, ← l2.length]; exact lim_le hz, fun e => .inr (q _ H keeps_all (.tup h2 ?_)), fun _ e => .inr (q _ H keeps_all (.tup h1 ?_)), fun _ _ p hp => .inr ?_⟩)
      · subst e; cases l1; exact l2
      · subst e; cases l2; rw [List.append_nil]; exact l1
      · exact q _ _ (same_new hp) (.tup (.inl upd_same) ((l1.append l2).mono fun a o e _ => same_new hp a o e))
    · cases e
  · cases e
/-- list + list, a list that is changed later -/
def catP : PyData → PyData → Option (List PyData)
  | .list xs, .list ys => if xs.length + ys.length ≤ lim then some (xs ++ ys) else none
  | _, _ => none
def addM (x y : W) (S : Sto) : Option (W × Sto) := (rd S x).bind fun a => (rd S y).bind fun b => (catP a b).bind fun xs => some (.m S.length, S ++ [some xs])
theorem so_addM : OpR X (binaryOp .Add) (F2 X.K addM) := by
  refine OpR.imp op_catL fun x y H Q h => ?_
  obtain ⟨μ, S, w1, w2, w, S', ok, r1, r2, e, q⟩ := h
  unfold addM at e
  cases h1 : rd S w1 with
  | none => rw [h1] at e; cases e
  | some d1 =>
    cases h2 : rd S w2 with
    | none => rw [h1, Option.bind_some, h2] at e; cases e
    | some d2 =>
      cases h3 : catP d1 d2 with
      | none => rw [h1, Option.bind_some, h2, Option.bind_some, h3] at e; cases e
      | some c =>
        rw [h1, Option.bind_some, h2, Option.bind_some, h3, Option.bind_some] at e
        cases e
        have q1 := RdRep.of ok r1 h1
        have q2 := RdRep.of ok r2 h2
        unfold catP at h3
        split at h3
        · split at h3
          · rename_i hz
            cases h3
            obtain ⟨a, vs, rfl, g1, l1⟩ := q1.list
            obtain ⟨b, us, rfl, g2, l2⟩ := q2.list
            refine ⟨a, b, vs, us, rfl, rfl, g1, g2, by rw [← l1.length, ← l2.length]; exact lim_le hz, fun p hp => ?_⟩
            refine q _ _ _ (.cell ok hp (l1.append l2)) (.m ?_)
            rw [← ok.len, List.getElem?_append_right (Nat.le_refl _), Nat.sub_self]; rfl
          · cases h3
        · cases h3
theorem so_sub : OpR X (binaryOp .Sub) (F2 X.K (pf2 subP)) := by
  refine OpR.imp op_sub fun x y H Q h => ?_
  obtain ⟨d1, d2, c, r1, r2, e, q⟩ := F2_pure h
  unfold subP at e
  split at e
  · cases e; exact ⟨_, _, r1.int, r2.int, q _ H keeps_all (.int _)⟩
  · cases e
theorem so_mul : OpR X (binaryOp .Mult) (F2 X.K (pf2 mulP)) := by
  refine OpR.imp op_mulW fun x y H Q h => ?_
  obtain ⟨d1, d2, c, r1, r2, e, q⟩ := F2_pure h
  unfold mulP at e
  split at e
  · split at e
    · rename_i hm
      cases e; exact ⟨_, _, r1.int, r2.int, show _ < _ from of_decide_eq_true hm, q _ H keeps_all (.int _)⟩
    · cases e
  · cases e
theorem op_fdivF : OpR X (binaryOp .FloorDiv) (rI (fun _ j => j ≠ 0 ∧ j.natAbs.log2 < 9000) fun i j => .int (i.fdiv j)) := opI fun i j _ _ _ _ _ hc q =>
  floordiv_int hc.1 q (.inl (PyProof.noPylong_of_log2 hc.2))
theorem so_div : OpR X (binaryOp .FloorDiv) (F2 X.K (pf2 divP)) := by
  refine OpR.imp op_fdivF fun x y H Q h => ?_
  obtain ⟨d1, d2, c, r1, r2, e, q⟩ := F2_pure h
  unfold divP at e
  split at e
  · split at e
    · rename_i hm
      cases e; exact ⟨_, _, r1.int, r2.int, of_decide_eq_true hm, q _ H keeps_all (.int _)⟩
    · cases e
  · cases e
theorem so_mod : OpR X (binaryOp .Mod) (F2 X.K (pf2 modP)) := by
  refine OpR.imp op_modN fun x y H Q h => ?_
  obtain ⟨d1, d2, c, r1, r2, e, q⟩ := F2_pure h
  unfold modP at e
  split at e
  · split at e
    · rename_i hm
      cases e; exact ⟨_, _, r1.int, r2.int, hm, q _ H keeps_all (.int _)⟩
    · cases e
  · cases e
theorem so_pow : OpR X (binaryOp .Pow) (F2 X.K (pf2 powP)) := by
  refine OpR.imp op_pow fun x y H Q h => ?_
  obtain ⟨d1, d2, c, r1, r2, e, q⟩ := F2_pure h
  unfold powP at e
  split at e
  · split at e
    · rename_i hm
      cases e; exact ⟨_, _, r1.int, r2.int, hm, q _ H keeps_all (.int _)⟩
    · cases e
  · cases e
def binF : Operator → Option (W → W → Sto → Option (W × Sto))
  | .Add => some (pf2 addP)
  | .Sub => some (pf2 subP)
  | .Mult => some (pf2 mulP)
  | .FloorDiv => some (pf2 divP)
  | .Mod => some (pf2 modP)
  | .Pow => some (pf2 powP)
  | _ => none
theorem so_bin {op : Operator} {f : W → W → Sto → Option (W × Sto)} (h : binF op = some f) : OpR X (binaryOp op) (F2 X.K f) := by
  cases op <;> cases h <;> first | exact so_add | exact so_sub | exact so_mul | exact so_div | exact so_mod | exact so_pow
def negP : PyData → Option PyData
  | .int i => some (.int (-i))
  | _ => none
theorem so_neg : UnR X (unaryOp .USub) (F1 X.K (pf1 negP)) := by
  intro pins s σ H x v Q I r h
  refine un_neg pins s σ H x v Q I r ?_
  obtain ⟨d1, c, r1, e, q⟩ := F1_pure h
  unfold negP at e
  split at e
  · cases e; exact ⟨_, r1.int, q _ H keeps_all (.int _)⟩
  · cases e

/-! ### comparisons -/
def eqOk (a b : PyData) : Bool := a.canLay0 && b.canLay0 && decide (min a.depth b.depth ≤ 64)
def eqP (a b : PyData) : Option PyData := if eqOk a b = true then some (.bool (PyData.eqv a b)) else none
def neP (a b : PyData) : Option PyData := if eqOk a b = true then some (.bool (!PyData.eqv a b)) else none
theorem op_eqM (hu : X.A.units + 64 < cLine) : OpR X (compareOp .Eq) (fun x y H Q => ∃ d e, Dp X.K H x d ∧ Dp X.K H y e ∧ eqOk d e = true ∧ Q (.bl (PyData.eqv d e)) H) := by
  intro pins s σ H x y v u Q I rx ry h
  obtain ⟨d, e, hd, he, k, q⟩ := h
  obtain ⟨as, r1⟩ := Dp.reads I d x v hd rx
  obtain ⟨bs, r2⟩ := Dp.reads I e y u he ry
  unfold eqOk at k
  simp only [Bool.and_eq_true, decide_eq_true_eq] at k
  exact SeqAt.compareEq_reads r1 r2 k.1.1 k.1.2 (by omega) ⟨.bl _, H, I, rfl, q⟩
theorem op_neM (hu : X.A.units + 64 < cLine) : OpR X (compareOp .NotEq) (fun x y H Q => ∃ d e, Dp X.K H x d ∧ Dp X.K H y e ∧ eqOk d e = true ∧ Q (.bl (!PyData.eqv d e)) H) := by
  intro pins s σ H x y v u Q I rx ry h
  obtain ⟨d, e, hd, he, k, q⟩ := h
  obtain ⟨as, r1⟩ := Dp.reads I d x v hd rx
  obtain ⟨bs, r2⟩ := Dp.reads I e y u he ry
  unfold eqOk at k
  simp only [Bool.and_eq_true, decide_eq_true_eq] at k
  exact SeqAt.compareNe_reads r1 r2 k.1.1 k.1.2 (by omega) ⟨.bl _, H, I, rfl, q⟩
theorem so_eq (hu : X.A.units + 64 < cLine) : OpR X (compareOp .Eq) (F2 X.K (pf2 eqP)) := by
  refine OpR.imp (op_eqM hu) fun x y H Q h => ?_
  obtain ⟨d1, d2, c, r1, r2, e, q⟩ := F2_pure h
  unfold eqP at e
  split at e
  · rename_i hk
    cases e; exact ⟨_, _, r1.dp, r2.dp, hk, q _ H keeps_all (.bl _)⟩
  · cases e
theorem so_ne (hu : X.A.units + 64 < cLine) : OpR X (compareOp .NotEq) (F2 X.K (pf2 neP)) := by
  refine OpR.imp (op_neM hu) fun x y H Q h => ?_
  obtain ⟨d1, d2, c, r1, r2, e, q⟩ := F2_pure h
  unfold neP at e
  split at e
  · rename_i hk
    cases e; exact ⟨_, _, r1.dp, r2.dp, hk, q _ H keeps_all (.bl _)⟩
  · cases e
def ltP : PyData → PyData → Option PyData
  | .int i, .int j => some (.bool (decide (i < j)))
  | _, _ => none
def leP : PyData → PyData → Option PyData
  | .int i, .int j => some (.bool (decide (i ≤ j)))
  | _, _ => none
def gtP : PyData → PyData → Option PyData
  | .int i, .int j => some (.bool (decide (j < i)))
  | _, _ => none
def geP : PyData → PyData → Option PyData
  | .int i, .int j => some (.bool (decide (j ≤ i)))
  | _, _ => none
theorem so_lt : OpR X (compareOp .Lt) (F2 X.K (pf2 ltP)) := by
  refine OpR.imp op_lt fun x y H Q h => ?_
  obtain ⟨d1, d2, c, r1, r2, e, q⟩ := F2_pure h
  unfold ltP at e
  split at e
  · cases e; exact ⟨_, _, r1.int, r2.int, q _ H keeps_all (.bl _)⟩
  · cases e
theorem so_le : OpR X (compareOp .LtE) (F2 X.K (pf2 leP)) := by
  refine OpR.imp op_le fun x y H Q h => ?_
  obtain ⟨d1, d2, c, r1, r2, e, q⟩ := F2_pure h
  unfold leP at e
  split at e
  · cases e; exact ⟨_, _, r1.int, r2.int, q _ H keeps_all (.bl _)⟩
  · cases e
theorem so_gt : OpR X (compareOp .Gt) (F2 X.K (pf2 gtP)) := by
  refine OpR.imp op_gt fun x y H Q h => ?_
  obtain ⟨d1, d2, c, r1, r2, e, q⟩ := F2_pure h
  unfold gtP at e
  split at e
  · cases e; exact ⟨_, _, r1.int, r2.int, q _ H keeps_all (.bl _)⟩
  · cases e
theorem so_ge : OpR X (compareOp .GtE) (F2 X.K (pf2 geP)) := by
  refine OpR.imp op_ge fun x y H Q h => ?_
  obtain ⟨d1, d2, c, r1, r2, e, q⟩ := F2_pure h
  unfold geP at e
  split at e
  · cases e; exact ⟨_, _, r1.int, r2.int, q _ H keeps_all (.bl _)⟩
  · cases e
/-- x is None -/
def isNone : W → Bool
  | .d .none => true
  | _ => false
def isF : W → W → Sto → Option (W × Sto)
  | x, .d .none, S => some (.d (.bool (isNone x)), S)
  | _, _, _ => none
def isntF : W → W → Sto → Option (W × Sto)
  | x, .d .none, S => some (.d (.bool (!isNone x)), S)
  | _, _, _ => none
theorem isNone_eq {K : PySem.W.Frag} {H : Hp} {μ : List Addr} {w : W} {v : V} (r : WRep K H μ w v) : isNone w = decide (v = .non) := by
  cases r with
  | d r => cases r <;> simp [isNone]
  | m h => simp [isNone]
theorem so_is : OpR X (compareOp .Is) (F2 X.K isF) := by
  refine OpR.imp op_isN fun x y H Q h => ?_
  obtain ⟨μ, S, w1, w2, w, S', ok, r1, r2, e, q⟩ := h
  unfold isF at e
  split at e
  · cases e
    cases r2 with
    | d r2 =>
      cases r2
      exact ⟨rfl, q _ H μ (.refl ok) (.d (by rw [isNone_eq r1]; exact .bl _))⟩
  · cases e
theorem so_isnt : OpR X (compareOp .IsNot) (F2 X.K isntF) := by
  refine OpR.imp op_notN fun x y H Q h => ?_
  obtain ⟨μ, S, w1, w2, w, S', ok, r1, r2, e, q⟩ := h
  unfold isntF at e
  split at e
  · cases e
    cases r2 with
    | d r2 =>
      cases r2
      exact ⟨rfl, q _ H μ (.refl ok) (.d (by rw [isNone_eq r1]; exact .bl _))⟩
  · cases e
def cmpF : CmpOp → Option (W → W → Sto → Option (W × Sto))
  | .Eq => some (pf2 eqP)
  | .NotEq => some (pf2 neP)
  | .Lt => some (pf2 ltP)
  | .LtE => some (pf2 leP)
  | .Gt => some (pf2 gtP)
  | .GtE => some (pf2 geP)
  | .Is => some isF
  | .IsNot => some isntF
  | _ => none
theorem so_cmp (hu : X.A.units + 64 < cLine) {op : CmpOp} {f : W → W → Sto → Option (W × Sto)} (h : cmpF op = some f) : OpR X (compareOp op) (F2 X.K f) := by
  cases op <;> cases h <;> first | exact so_eq hu | exact so_ne hu | exact so_lt | exact so_le | exact so_gt | exact so_ge | exact so_is | exact so_isnt
theorem cmp_mark {op : CmpOp} {f : W → W → Sto → Option (W × Sto)} (h : cmpF op = some f) (b : Expr) : behindInMarks op b = false := nobehind b (by rintro rfl; cases h) (by rintro rfl; cases h)
end

/-! ### tests -/
section
variable {X : Cx} {e a b c : Expr} {ma mb mc : CE} {ta tb : CB} {pos : Pos}
theorem rd_valB {K : PySem.W.Frag} {σ : L2.St} {H : Hp} {Q : Bool → Hp → Prop} (h : rdB K (valB ma) σ H Q) : rdE K ma σ H fun x H1 => ∃ k, x = .bl k ∧ Q k H1 := by
  obtain ⟨μ, S, ρ, w, S', ok, en, e, q⟩ := h
  unfold valB at e
  cases ha : ma ρ S with
  | none => rw [ha] at e; cases e
  | some p =>
    obtain ⟨w1, S1⟩ := p
    rw [ha, Option.bind_some] at e
    cases hb : asBool w1 with
    | none => rw [hb] at e; cases e
    | some k =>
      rw [hb, Option.bind_some] at e
      cases e
      refine ⟨μ, S, ρ, w1, _, ok, en, ha, fun x H1 μ1 st1 r1 => ⟨_, ?_, q H1 μ1 st1⟩⟩
      unfold asBool at hb
      split at hb
      · cases hb
        cases r1 with | d r => cases r; rfl
      · cases hb
theorem rd_boolE {K : PySem.W.Frag} {σ : L2.St} {H : Hp} {Q : VK} (h : rdE K (boolE ta) σ H Q) : rdB K ta σ H fun k H1 => Q (.bl k) H1 := by
  obtain ⟨μ, S, ρ, w, S', ok, en, e, q⟩ := h
  unfold boolE at e
  cases ha : ta ρ S with
  | none => rw [ha] at e; cases e
  | some p =>
    obtain ⟨w1, S1⟩ := p
    rw [ha, Option.bind_some] at e
    cases e
    exact ⟨μ, S, ρ, w1, _, ok, en, ha, fun H1 μ1 st1 => q _ H1 μ1 st1 (.d (.bl _))⟩
theorem sb_val (h : SE X e ma) (he : ∀ whole, isTrue e X.env whole = (do let v ← whole; standAt e.pos; holding [v] (truthy v))) : SB X e (valB ma) :=
  PT.imp (pt_val h he) fun _ _ _ h => rd_valB h
theorem sb_cmp {op : CmpOp} {f : W → W → Sto → Option (W × Sto)} (ho : OpR X (compareOp op) (F2 X.K f)) (ha : SE X a ma) (hb : SE X b mb) (hm : behindInMarks op b = false) : SB X (.Compare a [op] [b] pos) (valB (binE f ma mb)) :=
  PT.imp (pt_cmpR ho ha hb hm) fun _ _ _ h => by
    have h1 := rd_valB h
    exact rd_bin h1
def chE (f g : W → W → Sto → Option (W × Sto)) (a b c : CE) : CE := fun ρ S => (a ρ S).bind fun p => (b ρ p.2).bind fun q => (f p.1 q.1 q.2).bind fun z => (asBool z.1).bind fun k => if k = true then (c ρ z.2).bind fun r => g q.1 r.1 r.2 else some (.d (.bool false), z.2)
theorem rd_ch {f g : W → W → Sto → Option (W × Sto)} {K : PySem.W.Frag} {σ : L2.St} {H : Hp} {Q : VK} (h : rdE K (chE f g ma mb mc) σ H Q) :
    rdE K ma σ H fun x H1 => rdE K mb σ H1 fun y H2 => F2 K f x y H2 fun z H3 => ∃ k, z = .bl k ∧ if k = true then rdE K mc σ H3 fun u H4 => F2 K g y u H4 Q else Q (.bl false) H3 := by
  obtain ⟨μ, S, ρ, w, S', ok, en, e, q⟩ := h
  unfold chE at e
  cases ha : ma ρ S with
  | none => rw [ha] at e; cases e
  | some p =>
    obtain ⟨w1, S1⟩ := p
    rw [ha, Option.bind_some] at e
    cases hb : mb ρ S1 with
    | none => rw [hb] at e; cases e
    | some p2 =>
      obtain ⟨w2, S2⟩ := p2
      rw [hb, Option.bind_some] at e
      cases hf : f w1 w2 S2 with
      | none => rw [hf] at e; cases e
      | some p3 =>
        obtain ⟨w3, S3⟩ := p3
        rw [hf, Option.bind_some] at e
        cases hk : asBool w3 with
        | none => rw [hk] at e; cases e
        | some k =>
          rw [hk, Option.bind_some] at e
          refine ⟨μ, S, ρ, w1, S1, ok, en, ha, fun x H1 μ1 st1 r1 => ⟨μ1, S1, ρ, w2, S2, st1.sto, en.step ok st1, hb, fun y H2 μ2 st2 r2 => ?_⟩⟩
          refine ⟨μ2, S2, w1, w2, w3, S3, st2.sto, r1.mono (st2.keeps st1.sto) st2.pre, r2, hf, fun z H3 μ3 st3 r3 => ?_⟩
          have s12 := st1.trans ok st2
          have s13 := s12.trans ok st3
          unfold asBool at hk
          split at hk
          · rename_i b
            cases hk
            cases r3 with | d r3 =>
            cases r3
            refine ⟨k, rfl, ?_⟩
            cases k with
            | true =>
              simp only [if_true] at e ⊢
              cases hc : mc ρ S3 with
              | none => rw [hc] at e; cases e
              | some p4 =>
                obtain ⟨w4, S4⟩ := p4
                rw [hc, Option.bind_some] at e
                refine ⟨μ3, S3, ρ, w4, S4, st3.sto, en.step ok s13, hc, fun u H4 μ4 st4 r4 => ?_⟩
                exact ⟨μ4, S4, w2, w4, w, S', st4.sto, r2.mono ((st3.trans st2.sto st4).keeps st2.sto) (st3.trans st2.sto st4).pre, r4, e, fun v H' μ' st5 r5 => q v H' μ' (s13.trans ok (st4.trans st3.sto st5)) r5⟩
            | false =>
              simp only [Bool.false_eq_true, if_false] at e ⊢
              cases e
              exact q _ H3 μ3 s13 (.d (.bl _))
          · cases hk
theorem se_chain {op op' : CmpOp} {f g : W → W → Sto → Option (W × Sto)} (ho : OpR X (compareOp op) (F2 X.K f)) (ho' : OpR X (compareOp op') (F2 X.K g)) (ha : SE X a ma) (hb : SE X b mb) (hc : SE X c mc) (hm : behindInMarks op' c = false) :
    SE X (.Compare a [op, op'] [b, c] pos) (chE f g ma mb mc) :=
  PE.imp (pe_chain ho ho' ha hb hc hm) fun _ _ _ h => rd_ch h
theorem sb_chain {op op' : CmpOp} {f g : W → W → Sto → Option (W × Sto)} (ho : OpR X (compareOp op) (F2 X.K f)) (ho' : OpR X (compareOp op') (F2 X.K g)) (ha : SE X a ma) (hb : SE X b mb) (hc : SE X c mc) (hm : behindInMarks op' c = false) :
    SB X (.Compare a [op, op'] [b, c] pos) (valB (chE f g ma mb mc)) :=
  PT.imp (pt_chain ho ho' ha hb hc hm) fun _ _ _ h => by
    have h1 := rd_valB h
    exact rd_ch h1
theorem sb_not (h : SB X a ta) : SB X (.UnaryOp .Not a pos) (notB ta) :=
  PT.imp (pt_not h) fun σ H Q ⟨μ, S, ρ, w, S', ok, en, e, q⟩ => by
    unfold notB at e
    cases ha : ta ρ S with
    | none => rw [ha] at e; cases e
    | some p =>
      obtain ⟨w1, S1⟩ := p
      rw [ha, Option.bind_some] at e
      cases e
      exact ⟨μ, S, ρ, w1, _, ok, en, ha, fun H1 μ1 st1 => q H1 μ1 st1⟩
theorem rd_andB {K : PySem.W.Frag} {σ : L2.St} {H : Hp} {Q : Bool → Hp → Prop} (h : rdB K (andB ta tb) σ H Q) : rdB K ta σ H fun k H1 => if k = true then rdB K tb σ H1 Q else Q false H1 := by
  obtain ⟨μ, S, ρ, w, S', ok, en, e, q⟩ := h
  unfold andB at e
  cases ha : ta ρ S with
  | none => rw [ha] at e; cases e
  | some p =>
    obtain ⟨k, S1⟩ := p
    rw [ha, Option.bind_some] at e
    refine ⟨μ, S, ρ, k, S1, ok, en, ha, fun H1 μ1 st1 => ?_⟩
    cases k with
    | true => exact ⟨μ1, S1, ρ, w, S', st1.sto, en.step ok st1, e, fun H2 μ2 st2 => q H2 μ2 (st1.trans ok st2)⟩
    | false => cases e; exact q H1 μ1 st1
theorem rd_orB {K : PySem.W.Frag} {σ : L2.St} {H : Hp} {Q : Bool → Hp → Prop} (h : rdB K (orB ta tb) σ H Q) : rdB K ta σ H fun k H1 => if k = true then Q true H1 else rdB K tb σ H1 Q := by
  obtain ⟨μ, S, ρ, w, S', ok, en, e, q⟩ := h
  unfold orB at e
  cases ha : ta ρ S with
  | none => rw [ha] at e; cases e
  | some p =>
    obtain ⟨k, S1⟩ := p
    rw [ha, Option.bind_some] at e
    refine ⟨μ, S, ρ, k, S1, ok, en, ha, fun H1 μ1 st1 => ?_⟩
    cases k with
    | false => exact ⟨μ1, S1, ρ, w, S', st1.sto, en.step ok st1, e, fun H2 μ2 st2 => q H2 μ2 (st1.trans ok st2)⟩
    | true => cases e; exact q H1 μ1 st1
/-! as values: the parts are bools -/
def andE (a b : CE) : CE := fun ρ S => (a ρ S).bind fun p => (asBool p.1).bind fun k => if k = true then b ρ p.2 else some (.d (.bool false), p.2)
def orE (a b : CE) : CE := fun ρ S => (a ρ S).bind fun p => (asBool p.1).bind fun k => if k = true then some (.d (.bool true), p.2) else b ρ p.2
def notE (a : CE) : CE := fun ρ S => (a ρ S).bind fun p => (asBool p.1).bind fun k => some (.d (.bool (!k)), p.2)
theorem rd_andE {K : PySem.W.Frag} {σ : L2.St} {H : Hp} {Q : VK} (h : rdE K (andE ma mb) σ H Q) : rdE K ma σ H fun x H1 => ∃ k, x = .bl k ∧ if k = true then rdE K mb σ H1 Q else Q (.bl false) H1 := by
  obtain ⟨μ, S, ρ, w, S', ok, en, e, q⟩ := h
  unfold andE at e
  cases ha : ma ρ S with
  | none => rw [ha] at e; cases e
  | some p =>
    obtain ⟨w1, S1⟩ := p
    rw [ha, Option.bind_some] at e
    cases hk : asBool w1 with
    | none => rw [hk] at e; cases e
    | some k =>
      rw [hk, Option.bind_some] at e
      refine ⟨μ, S, ρ, w1, S1, ok, en, ha, fun x H1 μ1 st1 r1 => ?_⟩
      unfold asBool at hk
      split at hk
      · cases hk
        cases r1 with | d r1 =>
        cases r1
        refine ⟨k, rfl, ?_⟩
        cases k with
        | true => exact ⟨μ1, S1, ρ, w, S', st1.sto, en.step ok st1, e, fun v H2 μ2 st2 => q v H2 μ2 (st1.trans ok st2)⟩
        | false => cases e; exact q _ H1 μ1 st1 (.d (.bl _))
      · cases hk
theorem rd_orE {K : PySem.W.Frag} {σ : L2.St} {H : Hp} {Q : VK} (h : rdE K (orE ma mb) σ H Q) : rdE K ma σ H fun x H1 => ∃ k, x = .bl k ∧ if k = true then Q (.bl true) H1 else rdE K mb σ H1 Q := by
  obtain ⟨μ, S, ρ, w, S', ok, en, e, q⟩ := h
  unfold orE at e
  cases ha : ma ρ S with
  | none => rw [ha] at e; cases e
  | some p =>
    obtain ⟨w1, S1⟩ := p
    rw [ha, Option.bind_some] at e
    cases hk : asBool w1 with
    | none => rw [hk] at e; cases e
    | some k =>
      rw [hk, Option.bind_some] at e
      refine ⟨μ, S, ρ, w1, S1, ok, en, ha, fun x H1 μ1 st1 r1 => ?_⟩
      unfold asBool at hk
      split at hk
      · cases hk
        cases r1 with | d r1 =>
        cases r1
        refine ⟨k, rfl, ?_⟩
        cases k with
        | false => exact ⟨μ1, S1, ρ, w, S', st1.sto, en.step ok st1, e, fun v H2 μ2 st2 => q v H2 μ2 (st1.trans ok st2)⟩
        | true => cases e; exact q _ H1 μ1 st1 (.d (.bl _))
      · cases hk
theorem se_not (h : SE X a ma) : SE X (.UnaryOp .Not a pos) (notE ma) :=
  PE.imp (pe_not h) fun σ H Q ⟨μ, S, ρ, w, S', ok, en, e, q⟩ => by
    unfold notE at e
    cases ha : ma ρ S with
    | none => rw [ha] at e; cases e
    | some p =>
      obtain ⟨w1, S1⟩ := p
      rw [ha, Option.bind_some] at e
      cases hk : asBool w1 with
      | none => rw [hk] at e; cases e
      | some k =>
        rw [hk, Option.bind_some] at e
        cases e
        refine ⟨μ, S, ρ, w1, _, ok, en, ha, fun x H1 μ1 st1 r1 => ?_⟩
        unfold asBool at hk
        split at hk
        · cases hk
          cases r1 with | d r1 =>
          cases r1
          exact ⟨k, rfl, q _ H1 μ1 st1 (.d (.bl _))⟩
        · cases hk
theorem se_if (hc : SB X c ta) (ha : SE X a ma) (hb : SE X b mb) : SE X (.IfExp c a b pos) (ifE ta ma mb) :=
  PE.imp (pe_ifExp hc ha hb) fun σ H Q ⟨μ, S, ρ, w, S', ok, en, e, q⟩ => by
    unfold ifE at e
    cases hx : ta ρ S with
    | none => rw [hx] at e; cases e
    | some p =>
      obtain ⟨k, S1⟩ := p
      rw [hx, Option.bind_some] at e
      refine ⟨μ, S, ρ, k, S1, ok, en, hx, fun H1 μ1 st1 => ?_⟩
      cases k with
      | true => exact ⟨μ1, S1, ρ, w, S', st1.sto, en.step ok st1, e, fun v H2 μ2 st2 => q v H2 μ2 (st1.trans ok st2)⟩
      | false => exact ⟨μ1, S1, ρ, w, S', st1.sto, en.step ok st1, e, fun v H2 μ2 st2 => q v H2 μ2 (st1.trans ok st2)⟩
end

/-! ### argument lists -/
section
variable {X : Cx} {e a b c : Expr} {es : List Expr} {ma mb mc : CE} {ml : CL} {pos : Pos}
theorem sl_nil : SL X [] nilL := PA.imp pa_nil fun σ H Q ⟨μ, S, ρ, w, S', ok, en, e, q⟩ => by
  cases e
  exact q _ H μ (.refl ok) .nil
theorem rd_cons {K : PySem.W.Frag} {σ : L2.St} {H : Hp} {Q : List V → Hp → Prop} (h : rdL K (consL ma ml) σ H Q) : rdE K ma σ H fun x H1 => rdL K ml σ H1 fun xs H2 => Q (x :: xs) H2 := by
  obtain ⟨μ, S, ρ, w, S', ok, en, e, q⟩ := h
  unfold consL at e
  cases ha : ma ρ S with
  | none => rw [ha] at e; cases e
  | some p =>
    obtain ⟨w1, S1⟩ := p
    rw [ha, Option.bind_some] at e
    cases hb : ml ρ S1 with
    | none => rw [hb] at e; cases e
    | some p2 =>
      obtain ⟨ws, S2⟩ := p2
      rw [hb, Option.bind_some] at e
      cases e
      exact ⟨μ, S, ρ, w1, S1, ok, en, ha, fun x H1 μ1 st1 r1 => ⟨μ1, S1, ρ, ws, _, st1.sto, en.step ok st1, hb, fun xs H2 μ2 st2 r2 => q _ H2 μ2 (st1.trans ok st2) (.cons (r1.mono (st2.keeps st1.sto) st2.pre) r2)⟩⟩
theorem sl_cons (ha : SE X e ma) (hr : SL X es ml) (hs : starEach (e :: es) X.env = (false, eval e X.env) :: starEach es X.env) : SL X (e :: es) (consL ma ml) :=
  PA.imp (pa_cons ha hr hs) fun _ _ _ h => rd_cons h
theorem rd_app {f : List W → Sto → Option (W × Sto)} {K : PySem.W.Frag} {σ : L2.St} {H : Hp} {Q : VK} (h : rdE K (appE f ml) σ H Q) : rdL K ml σ H fun xs H1 => FN K f xs H1 Q := by
  obtain ⟨μ, S, ρ, w, S', ok, en, e, q⟩ := h
  unfold appE at e
  cases ha : ml ρ S with
  | none => rw [ha] at e; cases e
  | some p =>
    obtain ⟨w1, S1⟩ := p
    rw [ha, Option.bind_some] at e
    exact ⟨μ, S, ρ, w1, S1, ok, en, ha, fun x H1 μ1 st1 r1 => ⟨μ1, S1, w1, w, S', st1.sto, r1, e, fun v H' μ' st3 r3 => q v H' μ' (st1.trans ok st3) r3⟩⟩
end
end PD

/-! PD, part 3: displays, subscripts, slices, calls of built-ins. -/
namespace PD
open PySem PySem.Spec PyProof.Rows L2

/-! ### plain data in a row -/
def allD : List W → Option (List PyData)
  | [] => some []
  | .d x :: r => (allD r).bind fun xs => some (x :: xs)
  | .m _ :: _ => none
theorem allD_rep {K : PySem.W.Frag} {H : Hp} {μ : List Addr} : ∀ {ws : List W} {vs : List V} {xs : List PyData}, WRepL K H μ ws vs → allD ws = some xs → RepL K H xs vs
  | _, _, _, .nil, h => by cases h; exact .nil
  | _, _, _, .cons (w := .d x) (.d r) l, h => by
    unfold allD at h
    cases e : allD _ with
    | none => rw [e] at h; cases h
    | some ys => rw [e, Option.bind_some] at h; cases h; exact .cons r (allD_rep l e)
  | _, _, _, .cons (w := .m n) _ _, h => by cases h
def tupF : List W → Sto → Option (W × Sto) := fun ws S => (allD ws).bind fun xs => if xs.length ≤ lim then some (.d (.tuple xs), S) else none
def lstF : List W → Sto → Option (W × Sto) := fun ws S => (allD ws).bind fun xs => if xs.length ≤ lim then some (.d (.list xs), S) else none
def lstM : List W → Sto → Option (W × Sto) := fun ws S => (allD ws).bind fun xs => if xs.length ≤ lim then some (.m S.length, S ++ [some xs]) else none
section
variable {X : Cx} {e a b c : Expr} {es : List Expr} {ma mb mc : CE} {ml : CL} {pos : Pos}
theorem se_tup {k : Nat} (h : SL X es ml) : SE X (.Tuple es k pos) (appE tupF ml) := PE.imp (pe_tup h) fun σ H Q h => by
  obtain ⟨μ, S, ρ, ws, S1, ok, en, e, q⟩ := rd_app h
  refine ⟨μ, S, ρ, ws, S1, ok, en, e, fun vs H1 μ1 st r => ?_⟩
  obtain ⟨μ2, S2, ws2, w, S3, ok2, r2, e2, q2⟩ := q vs H1 μ1 st r
  unfold tupF at e2
  cases ea : allD ws2 with
  | none => rw [ea] at e2; cases e2
  | some xs =>
    rw [ea, Option.bind_some] at e2
    split at e2
    · rename_i hz
      cases e2
      have rl := allD_rep r2 ea
      exact ⟨by rw [← rl.length]; exact lim_le hz, fun p hp => q2 _ _ μ2 (.new ok2 hp) (.d (.tup (.inl upd_same) (rl.mono fun a o e _ => same_new hp a o e)))⟩
    · cases e2
theorem se_lst (h : SL X es ml) : SE X (.List es pos) (appE lstF ml) := PE.imp (pe_fz (pe_lst h)) fun σ H Q h => by
  obtain ⟨μ, S, ρ, ws, S1, ok, en, e, q⟩ := rd_app h
  refine ⟨μ, S, ρ, ws, S1, ok, en, e, fun vs H1 μ1 st r => ?_⟩
  obtain ⟨μ2, S2, ws2, w, S3, ok2, r2, e2, q2⟩ := q vs H1 μ1 st r
  unfold lstF at e2
  cases ea : allD ws2 with
  | none => rw [ea] at e2; cases e2
  | some xs =>
    rw [ea, Option.bind_some] at e2
    split at e2
    · rename_i hz
      cases e2
      have rl := allD_rep r2 ea
      refine ⟨by rw [← rl.length]; exact lim_le hz, fun p hp => .inl ⟨p, _, rfl, upd_same, fun o => ?_⟩⟩
      rw [upd_upd]
      exact q2 _ _ μ2 (.new ok2 hp) (.d (.lst (.inl ⟨o, upd_same⟩) (rl.mono fun a o e _ => same_new hp a o e)))
    · cases e2
theorem se_lstM (h : SL X es ml) : SE X (.List es pos) (appE lstM ml) := PE.imp (pe_lst h) fun σ H Q h => by
  obtain ⟨μ, S, ρ, ws, S1, ok, en, e, q⟩ := rd_app h
  refine ⟨μ, S, ρ, ws, S1, ok, en, e, fun vs H1 μ1 st r => ?_⟩
  obtain ⟨μ2, S2, ws2, w, S3, ok2, r2, e2, q2⟩ := q vs H1 μ1 st r
  unfold lstM at e2
  cases ea : allD ws2 with
  | none => rw [ea] at e2; cases e2
  | some xs =>
    rw [ea, Option.bind_some] at e2
    split at e2
    · rename_i hz
      cases e2
      have rl := allD_rep r2 ea
      refine ⟨by rw [← rl.length]; exact lim_le hz, fun p hp => q2 _ _ _ (.cell ok2 hp rl) (.m ?_)⟩
      rw [← ok2.len, List.getElem?_append_right (Nat.le_refl _), Nat.sub_self]; rfl
    · cases e2

/-! ### subscripts -/
def ixP : PyData → PyData → Option PyData
  | .list xs, .int i => atI xs i
  | .tuple xs, .int i => atI xs i
  | _, _ => none
theorem ixN_len {n m : Nat} (h : n = m) (i : Int) : ixN n i = ixN m i := by rw [h]
theorem RepL.at {K : PySem.W.Frag} {H : Hp} {xs : List PyData} {vs : List V} {i : Int} {x : PyData} (l : RepL K H xs vs) (h : atI xs i = some x) : ∃ v, atI vs i = some v ∧ Rep K H x v := by
  unfold atI at h ⊢
  rw [l.length] at h
  cases e : ixN vs.length i with
  | none => rw [e] at h; cases h
  | some j =>
    rw [e] at h
    exact l.get h
theorem so_ix : IxR X (F2 X.K (pf2 ixP)) := by
  have h := (ix_list (X := X)).or (ix_tup (X := X))
  intro value slice pins s σ H x y v u Q I rx ry q0 hs
  refine h value slice pins s σ H x y v u Q I rx ry ?_ hs
  obtain ⟨d1, d2, c, r1, r2, e, q⟩ := F2_pure q0
  unfold ixP at e
  split at e
  · obtain ⟨a, vs, rfl, h1, l1⟩ := r1.list
    obtain ⟨z, hz, rz⟩ := l1.at e
    exact .inl ⟨a, vs, _, z, rfl, r2.int, h1, hz, q z H keeps_all rz⟩
  · obtain ⟨a, vs, rfl, h1, l1⟩ := r1.tuple
    obtain ⟨z, hz, rz⟩ := l1.at e
    exact .inr ⟨a, vs, _, z, rfl, r2.int, h1.sq, hz, q z H keeps_all rz⟩
  · cases e
def isSlice : Expr → Bool
  | .Slice _ _ _ _ => true
  | _ => false
theorem plainIx {b : Expr} (h : isSlice b = false) : PlainIx b := by
  intro o i
  cases b <;> first | rfl | cases h
theorem se_ix (ha : SE X a ma) (hb : SE X b mb) (hs : isSlice b = false) : SE X (.Subscript a b pos) (binE (pf2 ixP) ma mb) :=
  PE.imp (pe_ix so_ix ha hb (plainIx hs)) fun _ _ _ h => rd_bin h

/-! ### slices -/
def cutP (xs : List PyData) (lo hi : Option Int) : List PyData := (xs.drop (HT.sIx xs.length 0 lo)).take (HT.sIx xs.length xs.length hi - HT.sIx xs.length 0 lo)
def sliceP (lo hi : Option Int) : PyData → Option PyData
  | .list xs => some (.list (cutP xs lo hi))
  | .tuple xs => some (.tuple (cutP xs lo hi))
  | _ => none
theorem RepL.cut {K : PySem.W.Frag} {H : Hp} {xs : List PyData} {vs : List V} (l : RepL K H xs vs) (lo hi : Option Int) : RepL K H (cutP xs lo hi) (cutV vs lo hi) := by
  unfold cutP cutV
  rw [l.length]
  exact (l.drop _).take _
abbrev CO := Rho → Sto → Option (Option Int × Sto)
def rdO (K : PySem.W.Frag) (m : CO) : TO := fun σ H Q => ∃ μ S ρ w S', StoOk K H μ S ∧ EnvOk K H μ ρ σ ∧ m ρ S = some (w, S') ∧ ∀ H' μ', Stp K μ S H μ' S' H' → Q w H'
abbrev SO (X : Cx) (e : Option Expr) (m : CO) : Prop := PO X e (rdO X.K m)
theorem PO.imp {X : Cx} {e : Option Expr} {t t' : TO} (h : PO X e t) (i : ∀ σ H Q, t' σ H Q → t σ H Q) : PO X e t' := ⟨fun pins s σ H Q I q => h.run pins s σ H Q I (i σ H Q q)⟩
def noO : CO := fun _ S => some (none, S)
def asInt : W → Option Int
  | .d (.int i) => some i
  | _ => none
def someO (a : CE) : CO := fun ρ S => (a ρ S).bind fun p => (asInt p.1).bind fun i => some (some i, p.2)
theorem so_none : SO X none noO := PO.imp po_none fun σ H Q ⟨μ, S, ρ, w, S', ok, en, e, q⟩ => by
  cases e
  exact q H μ (.refl ok)
theorem so_some (ha : SE X a ma) : SO X (some a) (someO ma) := PO.imp (po_some ha) fun σ H Q ⟨μ, S, ρ, w, S', ok, en, e, q⟩ => by
  unfold someO at e
  cases hx : ma ρ S with
  | none => rw [hx] at e; cases e
  | some p =>
    obtain ⟨w1, S1⟩ := p
    rw [hx, Option.bind_some] at e
    cases hi : asInt w1 with
    | none => rw [hi] at e; cases e
    | some i =>
      rw [hi, Option.bind_some] at e
      cases e
      refine ⟨μ, S, ρ, w1, _, ok, en, hx, fun v H1 μ1 st r => ⟨i, ?_, q H1 μ1 st⟩⟩
      unfold asInt at hi
      split at hi
      · cases hi
        cases r with | d r => cases r; rfl
      · cases hi
def sliceE (a : CE) (lo hi : CO) : CE := fun ρ S => (a ρ S).bind fun p => (lo ρ p.2).bind fun l => (hi ρ l.2).bind fun u => (rd u.2 p.1).bind fun x => (sliceP l.1 u.1 x).bind fun y => some (.d y, u.2)
theorem se_slice {lo hi : Option Expr} {ml mh : CO} {p2 : Pos} (ha : SE X a ma) (hl : SO X lo ml) (hh : SO X hi mh) : SE X (.Subscript a (.Slice lo hi none p2) pos) (sliceE ma ml mh) :=
  PE.imp (pe_fz (pe_slice (SlR.or sl_list sl_tupA) ha hl hh)) fun σ H Q ⟨μ, S, ρ, w, S', ok, en, e, q⟩ => by
    unfold sliceE at e
    cases h1 : ma ρ S with
    | none => rw [h1] at e; cases e
    | some p =>
      obtain ⟨w1, S1⟩ := p
      rw [h1, Option.bind_some] at e
      cases h2 : ml ρ S1 with
      | none => rw [h2] at e; cases e
      | some p2 =>
        obtain ⟨l, S2⟩ := p2
        rw [h2, Option.bind_some] at e
        cases h3 : mh ρ S2 with
        | none => rw [h3] at e; cases e
        | some p3 =>
          obtain ⟨u, S3⟩ := p3
          rw [h3, Option.bind_some] at e
          cases h4 : rd S3 w1 with
          | none => rw [h4] at e; cases e
          | some x =>
            rw [h4, Option.bind_some] at e
            cases h5 : sliceP l u x with
            | none => rw [h5] at e; cases e
            | some y =>
              rw [h5, Option.bind_some] at e
              cases e
              refine ⟨μ, S, ρ, w1, S1, ok, en, h1, fun v H1 μ1 st1 r1 => ⟨μ1, S1, ρ, l, S2, st1.sto, en.step ok st1, h2, fun H2 μ2 st2 => ?_⟩⟩
              have st12 := st1.trans ok st2
              refine ⟨μ2, S2, ρ, u, S3, st2.sto, en.step ok st12, h3, fun H3 μ3 st3 => ?_⟩
              have st13 := st12.trans ok st3
              have st23 := st2.trans st1.sto st3
              have r3 := RdRep.of st13.sto (r1.mono (st23.keeps st1.sto) st23.pre) h4
              unfold sliceP at h5
              split at h5
              · cases h5
                obtain ⟨a, vs, rfl, ha, la⟩ := r3.list
                refine .inl ⟨a, vs, rfl, ha, fun p hp => .inl ⟨p, _, rfl, upd_same, fun o => ?_⟩⟩
                rw [upd_upd]
                exact q _ _ μ3 (st13.trans ok (.new st13.sto hp)) (.d (.lst (.inl ⟨o, upd_same⟩) ((la.cut l u).mono fun a o e _ => same_new hp a o e)))
              · cases h5
                obtain ⟨a, vs, rfl, ha, la⟩ := r3.tuple
                refine .inr ⟨a, vs, rfl, ha.sq, fun hw => .inr ?_, fun _ p hp => .inr ?_⟩
                · refine q _ H3 μ3 st13 (.d (.tup ha ?_))
                  have e := la.cut l u
                  have e2 : cutV vs l u = vs := by
                    unfold cutV
                    rw [hw.1, hw.2]
                    simp
                  rw [e2] at e
                  exact e
                · exact q _ _ μ3 (st13.trans ok (.new st13.sto hp)) (.d (.tup (.inl upd_same) ((la.cut l u).mono fun a o e _ => same_new hp a o e)))
              · cases h5
end

section
open HT
variable {prog : Program} {w : World} {A : Around} {E : Value → Shared → Prop} {s : Shared}
theorem sliceApplied_rev {sl : Addr} {vl vu vs : Value} {n : Nat} {Q : Int × Int × Nat → Shared → Prop} (hs : s.heap.IsSliceOf sl vl vu vs) (pl : IsPart vl none) (pu : IsPart vu none) (ps : IsPart vs (some (-1)))
    (h : Q ((n : Int) - 1, -1, n) s) : wpAny (model prog w) A (Builtin.Slice.sliceApplied (.ref sl) (pure (n : Int))) Q E s := by
  obtain ⟨os, hos, hcs, hds⟩ := id hs
  unfold Builtin.Slice.sliceApplied Builtin.Slice.sliceFields
  refine wpAny_bind (wpAny_bind (wpAny_field hos hds (x := vl) rfl (wpAny_bind (wpAny_field hos hds (x := vu) rfl (wpAny_bind (wpAny_field hos hds (x := vs) rfl (wpAny_pure ?_)))))))
  refine wpAny_bind (slicePart_ ps ?_)
  show wpAny _ _ (if ((-1 : Int) == 0) = true then _ else _) _ _ s
  rw [if_neg (by decide)]
  refine wpAny_bind (slicePart_ pl (wpAny_bind (slicePart_ pu (wpAny_bind (wpAny_pure ?_)))))
  show wpAny _ _ (pure ((n : Int) - 1, (-1 : Int), Builtin.Slice.slicePlaces ((n : Int) - 1) (-1) (-1))) _ _ s
  have e : Builtin.Slice.slicePlaces ((n : Int) - 1) (-1) (-1) = n := by
    unfold Builtin.Slice.slicePlaces
    rw [if_neg (by decide)]
    by_cases hn : (n : Int) - 1 > -1
    · rw [if_pos hn, show (-(-1) : Int) = 1 by decide, Int.ediv_one]; omega
    · rw [if_neg hn]; omega
  rw [e]
  exact wpAny_pure h
theorem fm_congr {α β : Type} {f g : α → Option β} : ∀ {l : List α}, (∀ x ∈ l, f x = g x) → l.filterMap f = l.filterMap g
  | [], _ => rfl
  | x :: l, h => by rw [List.filterMap_cons, List.filterMap_cons, h x List.mem_cons_self, fm_congr fun y m => h y (List.mem_cons_of_mem _ m)]
theorem pick_rev (xs : Array Value) : ((List.range xs.size).filterMap fun (m : Nat) => xs[(((xs.size : Int) - 1) + (m : Int) * (-1)).toNat]?).toArray = xs.toList.reverse.toArray := by
  congr 1
  have e : (List.range xs.size).filterMap (fun (m : Nat) => xs[(((xs.size : Int) - 1) + (m : Int) * (-1)).toNat]?) = (List.range xs.size).filterMap fun m => xs[xs.size - 1 - m]? := by
    refine fm_congr fun m hm => ?_
    have hm := List.mem_range.mp hm
    have : (((xs.size : Int) - 1) + (m : Int) * (-1)).toNat = xs.size - 1 - m := by omega
    rw [this]
  rw [e]
  have e2 : (List.range xs.size).filterMap (fun m => xs[xs.size - 1 - m]?) = ((List.range xs.size).map fun k => xs.size - 1 - k).filterMap (xs[·]?) := by
    rw [List.filterMap_map]; rfl
  rw [e2, PySem.W.krv_range, List.filterMap_reverse, PySem.W.krv_all]
theorem getItem_tuple_rev {t sl : Addr} {items : Array Value} {vl vu vs : Value} {Q : Value → Shared → Prop} (ht : IsTup s.heap t items) (hs : s.heap.IsSliceOf sl vl vu vs) (pl : IsPart vl none) (pu : IsPart vu none) (ps : IsPart vs (some (-1)))
    (h : Q (.ref s.heap.objs.size) { s with heap := s.heap.push { cls := .type "tuple", data := .seq items.toList.reverse.toArray } })
    (hsz : items.size ≤ sizeLine) : wpAny (model prog w) A (getItem (.ref t) (.ref sl)) Q E s := by
  have htake : sizeOk (.seq items.toList.reverse.toArray) := by
    show items.toList.reverse.toArray.size ≤ sizeLine
    simpa using hsz
  obtain ⟨os, hos, hcs, hds⟩ := id hs
  have hTs : s.TypeIs (.ref sl) "slice" := ⟨os, hos, hcs⟩
  unfold getItem
  try with_reducible refine wpAny_holding ?_
  first | refine wpAny_bind (wpAny_pure ?_) | skip
  refine wpAny_bind (wpAny_sequenceKey ht.typeIs (by decide) ?_)
  refine wpAny_bind (wpAny_callSpecial?_slot (name := Str.ofString "__getitem__") ht.typeIs PyProof.Rows.slot_tuple_getitem
    (wpAny_call_entry PyProof.Rows.slot_tuple_getitem ht.typeIs entry_tuple_getitem ?_ (args_tuple_getitem _ _)))
  show wpAny _ _ (Builtin.Tuple.tupleItemsOf (.ref t) >>= _) _ _ s
  refine wpAny_bind (tupleItemsOf_ ht ?_)
  refine wpAny_bind (wpAny_typeOf hTs ?_)
  rw [if_pos (by decide)]
  refine wpAny_bind (sliceApplied_rev hs pl pu ps ?_)
  have hno : ¬ (((items.size : Int) - 1 == 0 && (-1 : Int) == 1 && items.size == items.size) = true) := by simp
  show wpAny _ _ (if (((items.size : Int) - 1 == 0 && (-1 : Int) == 1 && items.size == items.size) = true) then _ else _) _ _ s
  rw [if_neg hno, pick_rev]
  first
    | exact wpAny_bind (m := Builtin.Tuple.tupleExact _) (wpAny_newObj_type (wpAny_pure ⟨_, rfl, wpAny_pure h⟩) htake)
    | exact wpAny_bind (m := Builtin.Tuple.tupleExact _) (wpAny_newObj_type (wpAny_bind (wpAny_pure (wpAny_pure ⟨_, rfl, wpAny_pure h⟩))) htake)
    | exact wpAny_bind (wpAny_bind (m := Builtin.Tuple.tupleExact _) (wpAny_newObj_type (wpAny_pure (wpAny_pure ⟨_, rfl, wpAny_pure h⟩)) htake))
    | exact wpAny_bind (wpAny_bind (m := Builtin.Tuple.tupleExact _) (wpAny_newObj_type (wpAny_pure ⟨_, rfl, wpAny_pure h⟩) htake))
end
section
variable {X : Cx}
/-- xs[::-1], a list or a tuple -/
def tRevA (K : PySem.W.Frag) (te : TE) : TE := fun σ H Q => te σ H fun x H1 => ∃ a xs, x = .ref a ∧ ((SqL K H1 a xs ∧ ∀ p, H1 p = none → Q (.ref p) (upd H1 p (.lst xs.reverse))) ∨ (SqT K H1 a xs ∧ ∀ p, H1 p = none → Q (.ref p) (upd H1 p (.tup xs.reverse))))
theorem pe_revA {e : Expr} {te : TE} {k : Nat} {p1 p2 p3 pos : Pos} (he : PE X e te) : PE X (.Subscript e (.Slice none none (some (.UnaryOp .USub (.Constant (.int 1) k p1) p2)) p3) pos) (tRevA X.K te) := by
  refine ⟨fun pins s σ H Q I h => ?_⟩
  refine Subscript_ (thn (he.run pins s σ H _ I h) fun v s1 ⟨x, H1, I1, r1, q1⟩ => ?_)
  obtain ⟨a, xs, ex, q⟩ := q1
  subst ex
  cases r1
  have hst : PO X (some (.UnaryOp .USub (.Constant (.int 1) k p1) p2)) (tPart (tUn (rU fun i => .int (-i)) (tC (.int 1)))) := po_some (pe_un un_neg pe_int)
  refine wpAny_Slice (thn (po_none.run pins s1 σ H1 (fun o H2 => o = none ∧ H2 = H1) I1 ⟨rfl, rfl⟩) fun vl s2 ⟨l, H2, I2, pl, el, e2⟩ => ?_)
  subst el e2
  refine thn (po_none.run pins s2 σ H2 (fun o H3 => o = none ∧ H3 = H2) I2 ⟨rfl, rfl⟩) fun vu s3 ⟨u, H3, I3, pu, eu, e3⟩ => ?_
  subst eu e3
  refine thn (hst.run pins s3 σ H3 (fun o H4 => o = some (-1) ∧ H4 = H3) I3 ⟨1, rfl, -1, rfl, rfl, rfl⟩) fun vs s4 ⟨o, H4, I4, ps, eo, e4⟩ => ?_
  subst eo e4
  have I5 : Inv X pins σ H4 { s4 with heap := s4.heap.push { cls := .type "slice", data := .fields #[vl, vu, vs] } } := I4.kept (t' := s4.toks) fun b ob q => Heap.get?_push_of_some _ q
  show wpAny (model X.prog X.w) X.A (subscriptTail e (.Slice none none (some (.UnaryOp .USub (.Constant (.int 1) k p1) p2)) p3) (.ref a) (.ref s4.heap.objs.size)) (EP X pins σ Q) X.xe { s4 with heap := s4.heap.push { cls := .type "slice", data := .fields #[vl, vu, vs] } }
  rcases q with ⟨hx, q⟩ | ⟨hx, q⟩
  · obtain ⟨its, r, ht, hz⟩ := I5.list hx
    have hlen := r.length
    refine tail_any (ops := [.ref a, .ref s4.heap.objs.size]) ht.isList.typeIs (PySem.slot_list_getitem.lookup) ?_ (by with_unfolding_all rfl)
    refine wpAny_getItem_list_slice ht.isList (Heap.IsSliceOf.new _ vl vu vs) pl pu ps (by decide) ?_ (by rw [List.size_toArray]; omega)
    rw [PySem.W.krv_pick]
    refine ⟨.ref _, _, I5.laid (t' := s4.toks) (o := .lst xs.reverse) (fun b ob q => Heap.get?_push_of_some _ q) (Nat.le_refl _) ?_, rfl, q _ (I5.hok.fresh (Nat.le_refl _))⟩
    exact ⟨by rw [List.length_reverse]; exact hz, _, 0, r.reverse, Heap.get?_push_size _ rfl⟩
  · obtain ⟨its, r, ht, hz⟩ := I5.tuple hx
    have hlen := r.length
    refine tail_any (ops := [.ref a, .ref s4.heap.objs.size]) ht.typeIs (PyProof.Rows.slot_tuple_getitem.lookup) ?_ (by with_unfolding_all rfl)
    refine getItem_tuple_rev ht (Heap.IsSliceOf.new _ vl vu vs) pl pu ps ?_ (by rw [List.size_toArray]; omega)
    refine ⟨.ref _, _, I5.laid (t' := s4.toks) (o := .tup xs.reverse) (fun b ob q => Heap.get?_push_of_some _ q) (Nat.le_refl _) ?_, rfl, q _ (I5.hok.fresh (Nat.le_refl _))⟩
    exact ⟨by rw [List.length_reverse]; exact hz, _, r.reverse, IsTup.new _ _⟩
end
def revP : PyData → Option PyData
  | .list xs => some (.list xs.reverse)
  | .tuple xs => some (.tuple xs.reverse)
  | _ => none
def revE (a : CE) : CE := fun ρ S => (a ρ S).bind fun p => (rd p.2 p.1).bind fun x => (revP x).bind fun y => some (.d y, p.2)
theorem se_rev {X : Cx} {a : Expr} {ma : CE} {k : Nat} {p1 p2 p3 pos : Pos} (ha : SE X a ma) : SE X (.Subscript a (.Slice none none (some (.UnaryOp .USub (.Constant (.int 1) k p1) p2)) p3) pos) (revE ma) :=
  PE.imp (pe_fz (pe_revA ha)) fun σ H Q ⟨μ, S, ρ, w, S', ok, en, e, q⟩ => by
    unfold revE at e
    cases h1 : ma ρ S with
    | none => rw [h1] at e; cases e
    | some p =>
      obtain ⟨w1, S1⟩ := p
      rw [h1, Option.bind_some] at e
      cases h4 : rd S1 w1 with
      | none => rw [h4] at e; cases e
      | some x =>
        rw [h4, Option.bind_some] at e
        cases h5 : revP x with
        | none => rw [h5] at e; cases e
        | some y =>
          rw [h5, Option.bind_some] at e
          cases e
          refine ⟨μ, S, ρ, w1, S1, ok, en, h1, fun v H1 μ1 st1 r1 => ?_⟩
          have r3 := RdRep.of st1.sto r1 h4
          unfold revP at h5
          split at h5
          · cases h5
            obtain ⟨a, vs, rfl, ha, la⟩ := r3.list
            refine ⟨a, vs, rfl, .inl ⟨ha, fun p hp => .inl ⟨p, _, rfl, upd_same, fun o => ?_⟩⟩⟩
            rw [upd_upd]
            exact q _ _ μ1 (st1.trans ok (.new st1.sto hp)) (.d (.lst (.inl ⟨o, upd_same⟩) (la.reverse.mono fun a o e _ => same_new hp a o e)))
          · cases h5
            obtain ⟨a, vs, rfl, ha, la⟩ := r3.tuple
            refine ⟨a, vs, rfl, .inr ⟨ha.sq, fun p hp => .inr ?_⟩⟩
            exact q _ _ μ1 (st1.trans ok (.new st1.sto hp)) (.d (.tup (.inl upd_same) (la.reverse.mono fun a o e _ => same_new hp a o e)))
          · cases h5

/-! ### calls of built-ins -/
def pfN (g : List PyData → Option PyData) : List W → Sto → Option (W × Sto) := fun ws S => (ws.mapM (rd S)).bind fun xs => (g xs).bind fun c => some (.d c, S)
inductive RdRepL (K : PySem.W.Frag) (H : Hp) : List PyData → List V → Prop
  | nil : RdRepL K H [] []
  | cons {x : PyData} {v : V} {xs : List PyData} {vs : List V} : RdRep K H x v → RdRepL K H xs vs → RdRepL K H (x :: xs) (v :: vs)
theorem RdRepL.of {K : PySem.W.Frag} {H : Hp} {μ : List Addr} {S : Sto} (ok : StoOk K H μ S) : ∀ {ws : List W} {vs : List V} {xs : List PyData}, WRepL K H μ ws vs → ws.mapM (rd S) = some xs → RdRepL K H xs vs
  | _, _, _, .nil, h => by cases h; exact .nil
  | _, _, _, .cons (w := w) (ws := ws) r l, h => by
    rw [List.mapM_cons] at h
    cases e : rd S w with
    | none => rw [e] at h; cases h
    | some x =>
      cases e2 : ws.mapM (rd S) with
      | none => rw [e, e2] at h; cases h
      | some ys =>
        rw [e, e2] at h
        cases h
        exact .cons (RdRep.of ok r e) (RdRepL.of ok l e2)
theorem FN_pure {K : PySem.W.Frag} {g : List PyData → Option PyData} {xs : List V} {H : Hp} {Q : VK} (h : FN K (pfN g) xs H Q) :
    ∃ ds c, RdRepL K H ds xs ∧ g ds = some c ∧ ∀ v H', (∀ a o, H a = some o → H' a = some o) → Rep K H' c v → Q v H' := by
  obtain ⟨μ, S, ws, w, S', ok, r1, e, q⟩ := h
  unfold pfN at e
  cases h1 : ws.mapM (rd S) with
  | none => rw [h1] at e; cases e
  | some ds =>
    cases h3 : g ds with
    | none => rw [h1, Option.bind_some, h3] at e; cases e
    | some c =>
      rw [h1, Option.bind_some, h3, Option.bind_some] at e
      cases e
      exact ⟨ds, c, RdRepL.of ok r1 h1, h3, fun v H' k r => q v H' μ (Stp.same ok k) (.d r)⟩
theorem RdRepL.one {K : PySem.W.Frag} {H : Hp} {x : PyData} {vs : List V} (r : RdRepL K H [x] vs) : ∃ v, vs = [v] ∧ RdRep K H x v := by
  cases r with | cons a b => cases b; exact ⟨_, rfl, a⟩
theorem RdRepL.two {K : PySem.W.Frag} {H : Hp} {x y : PyData} {vs : List V} (r : RdRepL K H [x, y] vs) : ∃ v u, vs = [v, u] ∧ RdRep K H x v ∧ RdRep K H y u := by
  cases r with | cons a b => cases b with | cons b c => cases c; exact ⟨_, _, rfl, a, b⟩
def allInt : List PyData → Option (List Int)
  | [] => some []
  | .int i :: r => (allInt r).bind fun xs => some (i :: xs)
  | _ => none
theorem allInt_eq : ∀ {xs : List PyData} {ns : List Int}, allInt xs = some ns → xs = ns.map PyData.int
  | [], _, h => by cases h; rfl
  | .int i :: r, ns, h => by
    unfold allInt at h
    cases e : allInt r with
    | none => rw [e] at h; cases h
    | some ys => rw [e, Option.bind_some] at h; cases h; rw [List.map_cons, allInt_eq e]
  | .none :: _, _, h => by cases h
  | .bool _ :: _, _, h => by cases h
  | .str _ :: _, _, h => by cases h
  | .list _ :: _, _, h => by cases h
  | .tuple _ :: _, _, h => by cases h
  | .dict _ :: _, _, h => by cases h
def allBool : List PyData → Option (List Bool)
  | [] => some []
  | .bool i :: r => (allBool r).bind fun xs => some (i :: xs)
  | _ => none
theorem allBool_eq : ∀ {xs : List PyData} {ns : List Bool}, allBool xs = some ns → xs = ns.map PyData.bool
  | [], _, h => by cases h; rfl
  | .bool i :: r, ns, h => by
    unfold allBool at h
    cases e : allBool r with
    | none => rw [e] at h; cases h
    | some ys => rw [e, Option.bind_some] at h; cases h; rw [List.map_cons, allBool_eq e]
  | .none :: _, _, h => by cases h
  | .int _ :: _, _, h => by cases h
  | .str _ :: _, _, h => by cases h
  | .list _ :: _, _, h => by cases h
  | .tuple _ :: _, _, h => by cases h
  | .dict _ :: _, _, h => by cases h
theorem RepL.ints_eq {K : PySem.W.Frag} {H : Hp} : ∀ {ns : List Int} {vs : List V}, RepL K H (ns.map PyData.int) vs → vs = ns.map V.int
  | [], _, h => by cases h; rfl
  | n :: ns, _, h => by
    rw [List.map_cons] at h
    cases h with
    | cons r l => cases r; rw [List.map_cons, RepL.ints_eq l]
theorem RepL.bools_eq {K : PySem.W.Frag} {H : Hp} : ∀ {ns : List Bool} {vs : List V}, RepL K H (ns.map PyData.bool) vs → vs = ns.map V.bl
  | [], _, h => by cases h; rfl
  | n :: ns, _, h => by
    rw [List.map_cons] at h
    cases h with
    | cons r l => cases r; rw [List.map_cons, RepL.bools_eq l]

def lenP : List PyData → Option PyData
  | [.list xs] => some (.int xs.length)
  | [.tuple xs] => some (.int xs.length)
  | _ => none
def absP : List PyData → Option PyData
  | [.int i] => some (.int (if i < 0 then -i else i))
  | _ => none
def intP : List PyData → Option PyData
  | [.int i] => some (.int i)
  | [.bool b] => some (.int (if b then 1 else 0))
  | _ => none
def maxP : List PyData → Option PyData
  | [.int i, .int j] => some (.int (if j > i then j else i))
  | _ => none
def minP : List PyData → Option PyData
  | [.int i, .int j] => some (.int (if j < i then j else i))
  | _ => none
def divmodP : List PyData → Option PyData
  | [.int i, .int j] => if 0 < j ∧ j < 1073741824 then some (.tuple [.int (i / j), .int (i % j)]) else none
  | _ => none
def sumP : List PyData → Option PyData
  | [.list xs] => (allInt xs).bind fun ns => some (.int ns.sum)
  | _ => none
def allP : List PyData → Option PyData
  | [.list xs] => (allBool xs).bind fun bs => some (.bool (bs.all id))
  | _ => none
def tupleP : List PyData → Option PyData
  | [.list xs] => some (.tuple xs)
  | [.tuple xs] => some (.tuple xs)
  | _ => none
def listP : List PyData → Option PyData
  | [.list xs] => some (.list xs)
  | [.tuple xs] => some (.list xs)
  | _ => none
def gcdP : List PyData → Option PyData
  | [.int i, .int j] => some (.int ((Nat.gcd i.natAbs j.natAbs : Nat) : Int))
  | _ => none
def reprP : List PyData → Option PyData
  | [x] => if x.showable = true ∧ x.hasDict = false ∧ x.depth ≤ 64 ∧ x.shown.length ≤ lim then some (.str x.shown) else none
  | _ => none
section
variable {X : Cx}
theorem sc_len : CallR X (.builtin "len") (FN X.K (pfN lenP)) := by
  refine CallR.imp call_len_seq fun xs H Q h => ?_
  obtain ⟨ds, c, r, e, q⟩ := FN_pure h
  unfold lenP at e
  split at e
  · cases e
    obtain ⟨v, rfl, r1⟩ := r.one
    obtain ⟨a, vs, rfl, h1, l1⟩ := r1.list
    exact ⟨a, vs, rfl, .inl h1, q _ H keeps_all (by rw [← l1.length]; exact .int _)⟩
  · cases e
    obtain ⟨v, rfl, r1⟩ := r.one
    obtain ⟨a, vs, rfl, h1, l1⟩ := r1.tuple
    exact ⟨a, vs, rfl, .inr h1.sq, q _ H keeps_all (by rw [← l1.length]; exact .int _)⟩
  · cases e
theorem sc_abs : CallR X (.builtin "abs") (FN X.K (pfN absP)) := by
  refine CallR.imp call_abs fun xs H Q h => ?_
  obtain ⟨ds, c, r, e, q⟩ := FN_pure h
  unfold absP at e
  split at e
  · cases e
    obtain ⟨v, rfl, r1⟩ := r.one
    exact ⟨_, by rw [r1.int], q _ H keeps_all (.int _)⟩
  · cases e
theorem sc_int : CallR X (.type "int") (FN X.K (pfN intP)) := by
  refine CallR.imp call_int1 fun xs H Q h => ?_
  obtain ⟨ds, c, r, e, q⟩ := FN_pure h
  unfold intP at e
  split at e
  · cases e
    obtain ⟨v, rfl, r1⟩ := r.one
    exact .inl ⟨_, by rw [r1.int], q _ H keeps_all (.int _)⟩
  · cases e
    obtain ⟨v, rfl, r1⟩ := r.one
    exact .inr ⟨_, by rw [r1.bool], q _ H keeps_all (.int _)⟩
  · cases e
theorem sc_max (hc : X.calm = true) : CallR X (.builtin "max") (FN X.K (pfN maxP)) := by
  refine CallR.imp (call_max2 hc) fun xs H Q h => ?_
  obtain ⟨ds, c, r, e, q⟩ := FN_pure h
  unfold maxP at e
  split at e
  · cases e
    obtain ⟨v, u, rfl, r1, r2⟩ := r.two
    exact ⟨_, _, by rw [r1.int, r2.int], q _ H keeps_all (.int _)⟩
  · cases e
theorem sc_min (hc : X.calm = true) : CallR X (.builtin "min") (FN X.K (pfN minP)) := by
  refine CallR.imp (call_min2 hc) fun xs H Q h => ?_
  obtain ⟨ds, c, r, e, q⟩ := FN_pure h
  unfold minP at e
  split at e
  · cases e
    obtain ⟨v, u, rfl, r1, r2⟩ := r.two
    exact ⟨_, _, by rw [r1.int, r2.int], q _ H keeps_all (.int _)⟩
  · cases e
theorem sc_divmod : CallR X (.builtin "divmod") (FN X.K (pfN divmodP)) := by
  refine CallR.imp call_divmod fun xs H Q h => ?_
  obtain ⟨ds, c, r, e, q⟩ := FN_pure h
  unfold divmodP at e
  split at e
  · split at e
    · rename_i hz
      cases e
      obtain ⟨v, u, rfl, r1, r2⟩ := r.two
      exact ⟨_, _, by rw [r1.int, r2.int], hz, fun p hp => q _ _ (same_new hp) (.tup (.inl upd_same) (.cons (.int _) (.cons (.int _) .nil)))⟩
    · cases e
  · cases e
theorem sc_sum (hc : X.calm = true) : CallR X (.builtin "sum") (FN X.K (pfN sumP)) := by
  refine CallR.imp (cr_sum hc) fun xs H Q h => ?_
  obtain ⟨ds, c, r, e, q⟩ := FN_pure h
  unfold sumP at e
  split at e
  · rename_i xs
    cases h1 : allInt xs with
    | none => rw [h1] at e; cases e
    | some ns =>
      rw [h1, Option.bind_some] at e
      cases e
      obtain ⟨v, rfl, r1⟩ := r.one
      obtain ⟨a, vs, rfl, h2, l2⟩ := r1.list
      rw [allInt_eq h1] at l2
      have ev := l2.ints_eq
      subst ev
      exact ⟨a, ns, rfl, h2, q _ H keeps_all (.int _)⟩
  · cases e
theorem sc_all (hc : X.calm = true) : CallR X (.builtin "all") (FN X.K (pfN allP)) := by
  refine CallR.imp (cr_all hc) fun xs H Q h => ?_
  obtain ⟨ds, c, r, e, q⟩ := FN_pure h
  unfold allP at e
  split at e
  · rename_i xs
    cases h1 : allBool xs with
    | none => rw [h1] at e; cases e
    | some ns =>
      rw [h1, Option.bind_some] at e
      cases e
      obtain ⟨v, rfl, r1⟩ := r.one
      obtain ⟨a, vs, rfl, h2, l2⟩ := r1.list
      rw [allBool_eq h1] at l2
      have ev := l2.bools_eq
      subst ev
      exact ⟨a, ns, rfl, h2, q _ H keeps_all (.bl _)⟩
  · cases e
theorem sc_tuple : CallR X (.type "tuple") (FN X.K (pfN tupleP)) := by
  refine CallR.imp call_tuple_of fun xs H Q h => ?_
  obtain ⟨ds, c, r, e, q⟩ := FN_pure h
  unfold tupleP at e
  split at e
  · cases e
    obtain ⟨v, rfl, r1⟩ := r.one
    obtain ⟨a, vs, rfl, h1, l1⟩ := r1.list
    exact ⟨a, vs, rfl, .inl ⟨h1, fun p hp => q _ _ (same_new hp) (.tup (.inl upd_same) (l1.mono fun a o e _ => same_new hp a o e))⟩⟩
  · cases e
    obtain ⟨v, rfl, r1⟩ := r.one
    obtain ⟨a, vs, rfl, h1, l1⟩ := r1.tuple
    exact ⟨a, vs, rfl, .inr ⟨h1.sq, q _ _ keeps_all (.tup h1 l1)⟩⟩
  · cases e
theorem sc_list : CallR X (.type "list") (FN X.K (pfN listP)) := by
  refine CallR.imp (call_fz call_list_of) fun xs H Q h => ?_
  obtain ⟨ds, c, r, e, q⟩ := FN_pure h
  unfold listP at e
  split at e
  · cases e
    obtain ⟨v, rfl, r1⟩ := r.one
    obtain ⟨a, vs, rfl, h1, l1⟩ := r1.list
    refine ⟨a, vs, rfl, .inl h1, fun p hp => .inl ⟨p, _, rfl, upd_same, fun o => ?_⟩⟩
    rw [upd_upd]
    exact q _ _ (same_new hp) (.lst (.inl ⟨o, upd_same⟩) (l1.mono fun a o e _ => same_new hp a o e))
  · cases e
    obtain ⟨v, rfl, r1⟩ := r.one
    obtain ⟨a, vs, rfl, h1, l1⟩ := r1.tuple
    refine ⟨a, vs, rfl, .inr h1.sq, fun p hp => .inl ⟨p, _, rfl, upd_same, fun o => ?_⟩⟩
    rw [upd_upd]
    exact q _ _ (same_new hp) (.lst (.inl ⟨o, upd_same⟩) (l1.mono fun a o e _ => same_new hp a o e))
  · cases e
theorem sc_gcd : CallR X (.builtin "math.gcd") (FN X.K (pfN gcdP)) := by
  refine CallR.imp cr_gcd fun xs H Q h => ?_
  obtain ⟨ds, c, r, e, q⟩ := FN_pure h
  unfold gcdP at e
  split at e
  · cases e
    obtain ⟨v, u, rfl, r1, r2⟩ := r.two
    exact ⟨_, _, by rw [r1.int, r2.int], q _ H keeps_all (.int _)⟩
  · cases e
end

/-! ### isinstance -/
def tyOf : W → Option String
  | .m _ => some "list"
  | .d .none => some "NoneType"
  | .d (.bool _) => some "bool"
  | .d (.int _) => some "int"
  | .d (.str _) => some "str"
  | .d (.list _) => some "list"
  | .d (.tuple _) => some "tuple"
  | .d (.dict _) => none
/-- isinstance with a built-in type T -/
def isiF (T : String) : W → Sto → Option (W × Sto) := fun x S => (tyOf x).bind fun t => (kitB t T).bind fun b => some (.d (.bool b), S)
section
variable {X : Cx} {K : PySem.W.Frag} {H : Hp} {μ : List Addr} {S : Sto}
theorem tyX_of (ok : StoOk K H μ S) {w : W} {v : V} {T : String} (r : WRep K H μ w v) (hl : ∀ n, w = .m n → ∃ xs, S[n]? = some (some xs)) (h : tyOf w = some T) : TyX K H v (.type T) := by
  cases r with
  | m hm =>
    rename_i n a
    cases h
    obtain ⟨xs, hs⟩ := hl n rfl
    obtain ⟨b, vs, h1, h2, _⟩ := ok.cell n xs hs
    rw [hm] at h1; cases h1
    exact .base (.lst h2)
  | d r =>
    cases r with
    | non => cases h; exact .base .non
    | bl b => cases h; exact .base (.bl b)
    | int i => cases h; exact .base (.int i)
    | str x => cases h; exact .base (.str x)
    | tup ht _ =>
      cases h
      rcases ht with ht | ⟨o, its, n, hk, hc, _⟩
      · exact .base (.tup ht)
      · exact .kTuple hk hc
    | lst ht _ =>
      cases h
      rcases ht with ⟨o, ht⟩ | ⟨o, its, n, hk, hc, _⟩
      · exact .base (.frz ht)
      · exact .kList hk hc
end
/-- isinstance(x, T): x plain or a live cell -/
def isiE (T : String) (a : CE) : CE := fun ρ S => (a ρ S).bind fun p => (rd p.2 p.1).bind fun _ => isiF T p.1 p.2
section
variable {X : Cx} {a : Expr} {ma : CE} {pos p1 p2 : Pos}
theorem rd_live {S : Sto} {w : W} {x : PyData} (h : rd S w = some x) : ∀ n, w = .m n → ∃ xs, S[n]? = some (some xs) := by
  rintro n rfl
  have h' : (match S[n]? with
    | some (some xs) => some (PyData.list xs)
    | _ => none) = some x := h
  split at h'
  · rename_i xs hs; exact ⟨xs, hs⟩
  · cases h'
theorem se_isi {T : Str} {t : String} (ha : SE X a ma) (hg : Gl X "isinstance") (hm : X.mg "isinstance" = none) (hgT : Gl X T) (hmT : X.mg T = none) (hv : bootBuiltins T = some (.type t)) (hn : T ≠ "__name__") (hd : (T == ("__debug__" : Str)) = false)
    (h1 : starEach [a, .Name T p2] X.env = (false, eval a X.env) :: starEach [.Name T p2] X.env) :
    SE X (.Call (.Name "isinstance" p1) [a, .Name T p2] [] pos) (isiE t ma) := by
  have hT : PE X (.Name T p2) (tC (.ty t)) := pe_bltn hgT hmT hv rfl hn hd
  refine PE.imp (pe_callB call_isi hg hm (by decide +kernel) (pa_cons ha (pa_cons hT pa_nil rfl) h1) (he := h1)) fun σ H Q ⟨μ, S, ρ, w, S', ok, en, e, q⟩ => ?_
  unfold isiE at e
  cases hx : ma ρ S with
  | none => rw [hx] at e; cases e
  | some p =>
    obtain ⟨w1, S1⟩ := p
    rw [hx, Option.bind_some] at e
    cases hr : rd S1 w1 with
    | none => simp only [hr] at e; cases e
    | some x =>
      simp only [hr, Option.bind_some] at e
      unfold isiF at e
      cases ht : tyOf w1 with
      | none => rw [ht] at e; cases e
      | some ty =>
        rw [ht, Option.bind_some] at e
        cases hk : kitB ty t with
        | none => rw [hk] at e; cases e
        | some b =>
          rw [hk, Option.bind_some] at e
          cases e
          refine ⟨μ, S, ρ, w1, _, ok, en, hx, fun v H1 μ1 st r => ?_⟩
          exact ⟨v, .ty t, .type ty, .type t, b, rfl, .ty t, tyX_of st.sto r (rd_live hr) ht, kit_ty hk, q _ H1 μ1 st (.d (.bl _))⟩

/-! ### repr -/
theorem sc_repr (hg : X.A.guards = some []) (hu : X.A.units + 70 < cLine) : CallR X (.builtin "repr") (FN X.K (pfN reprP)) := by
  intro pins s σ H xs us Q I r h
  obtain ⟨ds, c, rd, e, q⟩ := FN_pure h
  unfold reprP at e
  split at e
  · rename_i x
    split at e
    · rename_i hz
      cases e
      obtain ⟨h1, h2, h3, h4⟩ := hz
      obtain ⟨v, rfl, r1⟩ := rd.one
      obtain ⟨u, rfl, ru⟩ := vals1 r
      have hsz : x.shown.length ≤ sizeLine := lim_le h4
      have fin : ∀ t s', Inv X pins σ H s' → EP X pins σ Q (.str x.shown t) s' := fun t s' I' => ⟨.str x.shown, H, I', ⟨t, rfl⟩, q _ H keeps_all (.str _)⟩
      have big : ∀ a, u = .ref a → wpAny (model X.prog X.w) X.A (call (.builtin "repr") [u]) (EP X pins σ Q) X.xe s := by
        rintro a rfl
        obtain ⟨as, rr⟩ := Dp.reads I x v _ r1.dp ru
        exact repr_of_reads' rr h1 (PyData.noDict_hsm h2) hg (by omega) (fun _ _ e => e) (fun h' t tk hk => fin t _ (I.kept hk)) hsz
      cases r1 with
      | imm r1 =>
        cases r1 with
        | non => cases ru; exact PySem.P.repr_of_none (fin _ _ (I.tok _))
        | bl b =>
          cases ru
          refine PySem.P.repr_of_bool ?_
          have := fin s.toks _ (I.tok (s.toks + 1))
          simpa [PyData.shown] using this
        | int i =>
          obtain ⟨t, rfl⟩ := ru
          exact PySem.P.repr_of_int (by simpa [PyData.showable] using h1) (fin _ _ (I.tok _))
        | str z =>
          obtain ⟨t, rfl⟩ := ru
          exact PySem.P.repr_of_str (fin _ _ (I.tok _)) hsz
        | tup ht hl => exact big _ ru
        | lst ht hl => exact big _ ru
      | cell h l => exact big _ ru
    · cases e
  · cases e
end
end PD

/-! PD, part 3e: enumerate of a tuple. -/
namespace PD
open PySem PySem.Spec PyProof.Rows L2 RZ RT

theorem meets_enum1 {v : Value} {o : Obj} {H : Heap → Prop} (B : Begins v o H) :
    Meets (Builtin.«enumerate.__new__» ⟨[.type "enumerate", v], []⟩) (fun _ R s => H s.heap ∧
      R (.ok (.ret (.ref (s.heap.push o).objs.size))) { s with heap := (s.heap.push o).push { cls := .type "enumerate", data := .fields #[.none, .bool false, .ref s.heap.objs.size, rawInt 0, .none, .none] } }) :=
  .of_wp fun prog w A R s h => by
    obtain ⟨hp, g, d, tk, os⟩ := s; obtain ⟨h1, h⟩ := h
    have hsub := sub_enumerate
    have q1 : ∀ {A' : Around} {E : Value → Shared → Prop} {Q : Value → Shared → Prop}, Q (.ref hp.objs.size) ⟨hp.push o, g, d, tk, os⟩ → wpAny (model prog w) A' (pyIter v) Q E ⟨hp, g, d, tk, os⟩ :=
      fun q => B.iter prog w _ _ ⟨hp, g, d, tk, os⟩ _ h1 q
    wp_walk using q1
    refine wpAny_stack_any fun st => wpAny_pure ?_
    split
    · rename_i c _ _ _ _ _
      cases (c == Value.type "enumerate")
      · wp_walk using q1
        exact ⟨_, rfl, h⟩
      · wp_walk using q1
        exact ⟨_, rfl, h⟩
    · wp_walk using q1
      exact ⟨_, rfl, h⟩
section
variable {prog : Program} {w : World} {A : Around} {E : Value → Shared → Prop} {s : Shared}
theorem call_enum1 {v : Value} {o : Obj} {H : Heap → Prop} {Q : Value → Shared → Prop} (B : Begins v o H) (h1 : H s.heap)
    (h : ∀ h', IsEnum h' (s.heap.objs.size + 1) s.heap.objs.size 0 .none → h'.get? s.heap.objs.size = some o → h'.objs.size = s.heap.objs.size + 2 →
      (∀ b o, s.heap.get? b = some o → h'.get? b = some o) → Q (.ref (s.heap.objs.size + 1)) { s with heap := h' }) :
    wpAny (model prog w) A (call (.type "enumerate") [v]) Q E s := by
  refine callType_new F.called_enumerate (by decide) (F.typeCall_enumerate_1 _) (F.newCall_enumerate_1 _) (fun obj => F.args_object_init_2 obj _) F.entry_enumerate_new
    (meets_enum1 B) ⟨h1, ?_⟩
  have hz : (s.heap.push o).objs.size = s.heap.objs.size + 1 := Heap.size_push ..
  show _ ∧ _
  rw [hz]
  have he : IsEnum ((s.heap.push o).push { cls := .type "enumerate", data := .fields #[.none, .bool false, .ref s.heap.objs.size, rawInt 0, .none, .none] }) (s.heap.objs.size + 1) s.heap.objs.size 0 .none := by
    have := Heap.get?_push_size (s.heap.push o) (o := { cls := .type "enumerate", data := .fields #[.none, .bool false, .ref s.heap.objs.size, rawInt 0, .none, .none] }) rfl
    rw [hz] at this; exact this
  refine ⟨⟨_, he, rfl⟩, h _ he (Heap.get?_push_of_some _ (Heap.get?_push_size _ B.free)) (by rw [Heap.size_push, hz]) fun b o x => Heap.get?_push_of_some _ (Heap.get?_push_of_some _ x)⟩
end

section
variable {prog : Program} {w : World} {A : Around} {E : Value → Shared → Prop} {s : Shared}
theorem enumT_end {e it a : Addr} {i : Nat} {c : Int} {items : Array Value} {old : Value} {Q : Option Value → Shared → Prop} (hh : A.in1.handled = none)
    (he : IsEnum s.heap e it c old) (hit : s.heap.IsTupleIter it a i) (hp : s.heap.IsTuple a items) (hn : items.size ≤ i)
    (hQ : ∀ h', Heap.ExtBut it s.heap h' → Q none { s with heap := h' }) : wpAny (model prog w) A (pyNext (.ref e)) Q E s := by
  have hT : s.TypeIs (.ref e) "enumerate" := ⟨_, he, rfl⟩
  unfold pyNext
  refine wpAny_bind (wpAny_attempt (wpAny_callSpecial?_slot (name := Str.ofString "__next__") hT F.slot_enumerate_next
    (wpAny_call_entry F.slot_enumerate_next hT F.entry_enumerate_next ?_ (F.args_enumerate_next_1 _))))
  show wpAny _ _ (field (.ref e) 2 >>= _) _ _ _
  refine wpAny_bind (wpAny_field he rfl (x := .ref it) rfl ?_)
  refine wpAny_bind (wpAny_nextOf_tuple_end hh hit hp (Array.getElem?_eq_none hn) fun h' x he' hx' => ?_)
  obtain ⟨o, ho, hc⟩ := hx'
  refine wpAny_bind (wpAny_isInstance (T := "StopIteration") (b := true) ⟨o, ho, hc⟩ isSubtype_stop ?_)
  exact wpAny_pure (hQ _ he')
end

/-- the tuple at a as it stands at each turn, each item in a new pair -/
def IteT (K : PySem.W.Frag) (a : Addr) : It :=
  ⟨fun i H => ∃ (xs : List V) (x : V), SqT K H a xs ∧ xs[i]? = some x, fun i H v H' => ∃ T x, v = .ref T ∧ H T = none ∧ H' = upd H T (.tup [.int (i : Nat), x]) ∧ ∀ xs, SqT K H a xs → xs[i]? = some x, fun i H => ∃ xs : List V, SqT K H a xs ∧ xs.length ≤ i⟩
theorem turn_enumT {P : Program} {w : World} {K : PySem.W.Frag} {elts : List Expr} {kk : Nat} {tpos : Pos} (a e it : Addr) (hae : a ≠ e) (hai : a ≠ it) :
    Turn P w K (.Tuple elts kk tpos) (IteT K a) [e, it] e (fun i h => (∃ old, IsEnum h e it ((i : Nat) : Int) old) ∧ h.IsTupleIter it a i ∧ e ≠ it) where
  mem := by simp
  obj := fun i h st b hb => by
    obtain ⟨⟨old, he⟩, ⟨o, ho, hc, hd⟩, _⟩ := st
    have e' : b = e ∨ b = it := by simpa using hb
    rcases e' with z | z
    · rw [z]; exact ⟨_, he, fun v q => nomatch q⟩
    · rw [z]; exact ⟨o, ho, fun v q => by rw [hd] at q; cases q⟩
  keep := fun i h h' st k => let ⟨⟨old, he⟩, hi, hne⟩ := st; ⟨⟨old, k e (by simp) _ he⟩, hi.at fun o q => k it (by simp) o q, hne⟩
  item := by
    intro X hP hw hK hc i pins s σ H E I hf st hg
    subst hP hw hK
    obtain ⟨⟨old, he⟩, hit, hne⟩ := st
    obtain ⟨xs, x, hq, hx⟩ := hg
    obtain ⟨its, rv, p, hz⟩ := I.tuple hq
    obtain ⟨u, hu, ru⟩ := rv.get hx
    have hel : e < s.heap.objs.size := Heap.lt_size he
    have hil : it < s.heap.objs.size := by obtain ⟨_, q, _⟩ := hit; exact Heap.lt_size q
    have hp : s.heap.IsTuple a its.toArray := p
    have hlt : i < its.toArray.size := by
      have := (List.getElem?_eq_some_iff.mp hu).1
      simpa using this
    refine wpAny_pyNext_enum_itemD (Draws.tuple (A := X.A.in1) (show X.A.in1.handled = none from I.ok.hd hc) it a hai its.toArray) he ⟨hit, hp⟩ hlt hne (by simp [hae.symm, hne]) fun y h' tk hy ho st' hT hsz hk => ?_
    obtain ⟨hit', hp'⟩ := st'
    have hyu : y = u := by
      have e1 : its.toArray[i]? = some u := by simpa using hu
      rw [e1] at hy; cases hy; rfl
    subst hyu
    refine ⟨_, rfl, wpAny_letOwnedTupleGo_enum (s := { s with heap := h', toks := tk + 1 }) ho fun h'' he' sb => ?_⟩
    have hT2 : h''.get? s.heap.objs.size = some { cls := .type "tuple", data := .seq #[.int i tk, y] } := (sb.2 _ (Nat.ne_of_gt hel)).trans hT
    have new : ObjOk X.prog X.w (upd H s.heap.objs.size (.tup [.int (i : Nat), x])) h'' s.heap.objs.size (.tup [.int (i : Nat), x]) :=
      ⟨by show 2 ≤ sizeLine; decide, [.int i tk, y], .cons ⟨_, rfl⟩ (.cons ru .nil), ⟨_, hT2, rfl, _, rfl⟩⟩
    have I1 : Inv X pins σ (upd H s.heap.objs.size (.tup [.int (i : Nat), x])) { s with heap := h'', toks := tk + 1 } :=
      I.turnedNew (t' := tk + 1) (ch := [e, it]) (fun b ob hb q => (sb.2 b (fun z => hb (by simp [z]))).trans (hk b ob (fun z => hb (by simp [z])) (fun z => hb (by simp [z])) q)) hf (Nat.le_refl _) new
    refine ⟨.ref s.heap.objs.size, _, I1, rfl, ⟨_, x, rfl, I.hok.fresh (Nat.le_refl _), rfl, fun ys hy => by rw [I.tuple_inj hy hq]; exact hx⟩, ⟨⟨y, ?_⟩, hit'.at fun o q => (sb.2 it (Ne.symm hne)).trans q, hne⟩, fun b hb => ?_⟩
    · have e1 : ((i + 1 : Nat) : Int) = (i : Int) + 1 := by omega
      rw [e1]; exact he'
    · have hb' : b < s.heap.objs.size := by
        have e' : b = e ∨ b = it := by simpa using hb
        rcases e' with z | z
        · rw [z]; exact hel
        · rw [z]; exact hil
      rw [upd_ne (Nat.ne_of_lt hb')]
      exact (hf b hb).1
  done := by
    intro X hP hw hK hc i pins s σ H E I hf st hg
    subst hP hw hK
    obtain ⟨⟨old, he⟩, hit, hne⟩ := st
    obtain ⟨xs, hq, hx⟩ := hg
    obtain ⟨its, rv, p, hz⟩ := I.tuple hq
    obtain ⟨f0, f1, f2, f3, f4, f5⟩ := hf it (by simp)
    have hl := rv.length
    have hp : s.heap.IsTuple a its.toArray := p
    have hn : its.toArray.size ≤ i := by simp; omega
    exact enumT_end (show X.A.in1.handled = none from I.ok.hd hc) he hit hp hn fun h' eb => ⟨rfl, I.turned (t' := s.toks) (fun b o hb q => eb b o hb q) f0 f1 f3 f4 f5⟩
  self := fun A i s Q E st h => let ⟨⟨_, he⟩, _⟩ := st; wpAny_pyIter_enum he h
def iEnumA (K : PySem.W.Frag) (ta : TA) : TI := fun σ H R => ta σ H fun vs H1 => ∃ a xs, vs = [.ref a] ∧ ((SqL K H1 a xs ∧ R (Ite K a) H1) ∨ (SqT K H1 a xs ∧ R (IteT K a) H1))
theorem pi_enumA {X : Cx} {e : Expr} {ta : TA} {p pos tpos : Pos} {elts : List Expr} {kk : Nat} (hg : Gl X "enumerate") (hm : X.mg "enumerate" = none) (ha : PA X [e] ta) (hs : starEach [e] X.env = [(false, eval e X.env)] := by rfl) :
    PI X (.Tuple elts kk tpos) (.Call (.Name "enumerate" p) [e] [] pos) (iEnumA X.K ta) := by
  refine ⟨fun pins s σ H R I h => ?_⟩
  refine Call_ (ld_blt I hg hm boot_enumerate (PyProof.Rows.callWith_type1 (thn (ha.run pos pins s σ H _ I h) fun us s1 ⟨vs, H1, I1, r1, q1⟩ => ?_) hs rfl))
  obtain ⟨a, xs, ex, q1⟩ := q1
  subst ex
  cases r1 with
  | cons r rr =>
    cases rr
    cases r
    have fresh2 : ∀ b, b ∈ [s1.heap.objs.size + 1, s1.heap.objs.size] → FpOk X pins H1 b := fun b hb => by
      have e' : b = s1.heap.objs.size + 1 ∨ b = s1.heap.objs.size := by simpa using hb
      have hle : s1.heap.objs.size ≤ b := by
        rcases e' with z | z
        · rw [z]; exact Nat.le_add_right _ _
        · rw [z]; exact Nat.le_refl _
      exact I1.fpOk hle (I1.hok.fresh hle)
    rcases q1 with ⟨hq, q⟩ | ⟨hq, q⟩
    · obtain ⟨its, rv, p', hz⟩ := I1.list hq
      refine call_enumerate_list p'.isList fun h' he hit hsz hk => wpAny_pyIter_enum he ?_
      have I2 : Inv X pins σ H1 { s1 with heap := h' } := I1.kept (t' := s1.toks) hk
      exact ⟨s1.heap.objs.size + 1, [s1.heap.objs.size + 1, s1.heap.objs.size], _, _, H1, rfl, I2, turn_enum a (s1.heap.objs.size + 1) s1.heap.objs.size, ⟨⟨.none, he⟩, hit, Nat.succ_ne_self _⟩, fresh2, q⟩
    · obtain ⟨its, rv, p', hz⟩ := I1.tuple hq
      have hp : s1.heap.IsTuple a its.toArray := p'
      obtain ⟨o1, ho1, _⟩ := id hp
      have hal : a < s1.heap.objs.size := Heap.lt_size ho1
      refine call_enum1 (begins_tuple a its.toArray) hp fun h' he hit hsz hk => wpAny_pyIter_enum he ?_
      have I2 : Inv X pins σ H1 { s1 with heap := h' } := I1.kept (t' := s1.toks) hk
      exact ⟨s1.heap.objs.size + 1, [s1.heap.objs.size + 1, s1.heap.objs.size], _, _, H1, rfl, I2, turn_enumT a (s1.heap.objs.size + 1) s1.heap.objs.size (Nat.ne_of_lt (Nat.lt_succ_of_lt hal)) (Nat.ne_of_lt hal), ⟨⟨.none, he⟩, ⟨_, hit, rfl, rfl⟩, Nat.succ_ne_self _⟩, fresh2, q⟩
end PD

/-! PD, part 3z: zip of a tuple, a tuple and a list. -/
namespace PD
open PySem PySem.Spec PyProof.Rows L2 RZ RT

section
variable {prog : Program} {w : World} {A : Around}
/-- an iterator that stands at i: it goes on, or it has come to its end -/
theorem draws_listAt (hh : A.handled = none) (it l : Addr) (hne : l ≠ it) (items : Array Value) (i : Nat) (h : Heap) (h1 : h.IsListIter it l i) (h2 : h.IsList l items) :
    ∃ (n : Nat) (P : Nat → Value → Prop) (St : Nat → Heap → Prop), Draws prog w A it [it, l] n P St ∧ St i h ∧ i ≤ n ∧ (items.size ≤ i → i = n) := by
  by_cases z : items.size ≤ i
  · refine ⟨i, fun _ _ => False, fun j h' => j = i ∧ h'.IsListIter it l i ∧ h'.IsList l items, ⟨fun j h' st => let ⟨o, ho, _⟩ := st.2.1; ⟨o, ho⟩, fun j h' h'' st hk => ⟨st.1, st.2.1.at fun o e => hk it (by simp) o e, st.2.2.at fun o e => hk l (by simp) o e⟩, fun j s Q E hj st hQ => absurd st.1 (by omega), fun s Q E st hE => wpAny_nextOf_list_end hh st.2.1 st.2.2 (Array.getElem?_eq_none z) hE⟩, ⟨rfl, h1, h2⟩, Nat.le_refl _, fun _ => rfl⟩
  · exact ⟨items.size, _, _, Draws.list hh it l hne items, ⟨h1, h2⟩, by omega, fun q => absurd q z⟩
theorem draws_tupAt (hh : A.handled = none) (it l : Addr) (hne : l ≠ it) (items : Array Value) (i : Nat) (h : Heap) (h1 : h.IsTupleIter it l i) (h2 : h.IsTuple l items) :
    ∃ (n : Nat) (P : Nat → Value → Prop) (St : Nat → Heap → Prop), Draws prog w A it [it, l] n P St ∧ St i h ∧ i ≤ n ∧ (items.size ≤ i → i = n) := by
  by_cases z : items.size ≤ i
  · refine ⟨i, fun _ _ => False, fun j h' => j = i ∧ h'.IsTupleIter it l i ∧ h'.IsTuple l items, ⟨fun j h' st => let ⟨o, ho, _⟩ := st.2.1; ⟨o, ho⟩, fun j h' h'' st hk => ⟨st.1, st.2.1.at fun o e => hk it (by simp) o e, st.2.2.at fun o e => hk l (by simp) o e⟩, fun j s Q E hj st hQ => absurd st.1 (by omega), fun s Q E st hE => wpAny_nextOf_tuple_end hh st.2.1 st.2.2 (Array.getElem?_eq_none z) hE⟩, ⟨rfl, h1, h2⟩, Nat.le_refl _, fun _ => rfl⟩
  · exact ⟨items.size, _, _, Draws.tuple hh it l hne items, ⟨h1, h2⟩, by omega, fun q => absurd q z⟩
end
/-- the tuples at a, b and the list at c as they stand at each turn, the items in new triples -/
def Itz3 (K : PySem.W.Frag) (a b c : Addr) : It :=
  ⟨fun i H => ∃ (xs ys zs : List V) (x y z : V), SqT K H a xs ∧ SqT K H b ys ∧ SqL K H c zs ∧ xs[i]? = some x ∧ ys[i]? = some y ∧ zs[i]? = some z,
    fun i H v H' => ∃ T x y z, v = .ref T ∧ H T = none ∧ H' = upd H T (.tup [x, y, z]) ∧ (∀ xs, SqT K H a xs → xs[i]? = some x) ∧ (∀ ys, SqT K H b ys → ys[i]? = some y) ∧ ∀ zs, SqL K H c zs → zs[i]? = some z,
    fun i H => ∃ xs ys zs : List V, SqT K H a xs ∧ SqT K H b ys ∧ SqL K H c zs ∧ (xs.length ≤ i ∨ ys.length ≤ i ∨ zs.length ≤ i)⟩
theorem turn_zip3 {P : Program} {w : World} {K : PySem.W.Frag} {elts : List Expr} {kk : Nat} {tpos : Pos} {a b c z TI TO i1 i2 i3 : Addr} (D : ZipSep3 z TI TO i1 i2 i3 [i1, a] [i2, b] [i3, c]) (ha : a ≠ i1) (hb : b ≠ i2) (hc' : c ≠ i3) :
    Turn P w K (.Tuple elts kk tpos) (Itz3 K a b c) [z, TI, TO, i1, i2, i3] z (fun i h => IsZip h z TI TO .none ∧ IsTupOf3 h TI (.ref i1) (.ref i2) (.ref i3) ∧ (∃ x y u, IsTupOf3 h TO x y u) ∧ h.IsTupleIter i1 a i ∧ h.IsTupleIter i2 b i ∧ h.IsListIter i3 c i) where
  mem := by simp
  obj := fun i h st b hb => by
    obtain ⟨hz, hTI, ⟨x, y, u, hTO⟩, ⟨o1, e1, _, d1⟩, ⟨o2, e2, _, d2⟩, ⟨o3, e3, _, d3⟩⟩ := st
    have e' : b = z ∨ b = TI ∨ b = TO ∨ b = i1 ∨ b = i2 ∨ b = i3 := by simpa using hb
    rcases e' with q | q | q | q | q | q
    · rw [q]; exact ⟨_, hz, fun v q => nomatch q⟩
    · rw [q]; exact ⟨_, hTI, fun v q => nomatch q⟩
    · rw [q]; exact ⟨_, hTO, fun v q => nomatch q⟩
    · rw [q]; exact ⟨o1, e1, fun v q => by rw [d1] at q; cases q⟩
    · rw [q]; exact ⟨o2, e2, fun v q => by rw [d2] at q; cases q⟩
    · rw [q]; exact ⟨o3, e3, fun v q => by rw [d3] at q; cases q⟩
  keep := fun i h h' st k => by
    obtain ⟨hz, hTI, ⟨x, y, u, hTO⟩, h1, h2, h3⟩ := st
    exact ⟨k z (by simp) _ hz, k TI (by simp) _ hTI, ⟨x, y, u, k TO (by simp) _ hTO⟩, h1.at fun o q => k i1 (by simp) o q, h2.at fun o q => k i2 (by simp) o q, h3.at fun o q => k i3 (by simp) o q⟩
  item := by
    intro X hP hw hK hc i pins s σ H E I hf st hg
    subst hP hw hK
    obtain ⟨hz, hTI, ⟨x0, y0, u0, hTO⟩, h1, h2, h3⟩ := st
    obtain ⟨xs, ys, zs, x, y, u, hqx, hqy, hqz, hx, hy, hu⟩ := hg
    obtain ⟨its, rv, p, _⟩ := I.tuple hqx
    obtain ⟨its2, rv2, p2, _⟩ := I.tuple hqy
    obtain ⟨its3, rv3, p3, _⟩ := I.list hqz
    obtain ⟨v1, hv1, ru⟩ := rv.get hx
    obtain ⟨v2, hv2, ru2⟩ := rv2.get hy
    obtain ⟨v3, hv3, ru3⟩ := rv3.get hu
    have hzl : z < s.heap.objs.size := Heap.lt_size hz
    have hh : X.A.in1.handled = none := I.ok.hd hc
    have lt1 : i < its.toArray.size := by simpa using (List.getElem?_eq_some_iff.mp hv1).1
    have lt2 : i < its2.toArray.size := by simpa using (List.getElem?_eq_some_iff.mp hv2).1
    have lt3 : i < its3.toArray.size := by simpa using (List.getElem?_eq_some_iff.mp hv3).1
    refine wpAny_pyNext_zipD3_item D (Draws.tuple (A := X.A.in1) hh i1 a ha its.toArray) (Draws.tuple (A := X.A.in1) hh i2 b hb its2.toArray) (Draws.list (A := X.A.in1) hh i3 c hc' its3.toArray) hz hTI hTO ⟨h1, p⟩ ⟨h2, p2⟩ ⟨h3, p3.isList⟩ lt1 lt2 lt3 fun y1 y2 y3 h' tk P1 P2 P3 z' TO' s1 s2 s3 hT hsz hk => ?_
    have q1 : y1 = v1 := by have e1 : its.toArray[i]? = some v1 := by simpa using hv1
                            rw [e1] at P1; cases P1; rfl
    have q2 : y2 = v2 := by have e1 : its2.toArray[i]? = some v2 := by simpa using hv2
                            rw [e1] at P2; cases P2; rfl
    have q3 : y3 = v3 := by have e1 : its3.toArray[i]? = some v3 := by simpa using hv3
                            rw [e1] at P3; cases P3; rfl
    subst q1 q2 q3
    refine ⟨_, rfl, wpAny_letOwnedTupleGo_zip (s := { s with heap := h', toks := tk }) z' fun h'' z'' sb => ?_⟩
    have hT2 : h''.get? s.heap.objs.size = some { cls := .type "tuple", data := .seq #[y1, y2, y3] } := (sb.2 _ (Nat.ne_of_gt hzl)).trans hT
    have new : ObjOk X.prog X.w (upd H s.heap.objs.size (.tup [x, y, u])) h'' s.heap.objs.size (.tup [x, y, u]) :=
      ⟨by show 3 ≤ sizeLine; decide, [y1, y2, y3], .cons ru (.cons ru2 (.cons ru3 .nil)), ⟨_, hT2, rfl, _, rfl⟩⟩
    have I1 : Inv X pins σ (upd H s.heap.objs.size (.tup [x, y, u])) { s with heap := h'', toks := tk } :=
      I.turnedNew (t' := tk) (ch := [z, TI, TO, i1, i2, i3]) (fun c o hb q => (sb.2 c (fun q' => hb (by simp [q']))).trans (hk c o (fun q' => hb (by simp [q'])) (fun q' => hb (by simp [q'])) (fun q' => hb (by simp [q'])) (fun q' => hb (by simp [q'])) (fun q' => hb (by simp [q'])) q)) hf (Nat.le_refl _) new
    have i1z : i1 ≠ z := fun q => D.zf1 (by simp [q])
    have i2z : i2 ≠ z := fun q => D.zf2 (by simp [q])
    have i3z : i3 ≠ z := fun q => D.zf3 (by simp [q])
    refine ⟨.ref s.heap.objs.size, _, I1, rfl, ⟨_, x, y, u, rfl, I.hok.fresh (Nat.le_refl _), rfl, fun l hl => by rw [I.tuple_inj hl hqx]; exact hx, fun l hl => by rw [I.tuple_inj hl hqy]; exact hy, fun l hl => by rw [I.list_inj hl hqz]; exact hu⟩, ⟨z'', ?_, ⟨y1, y2, y3, ?_⟩, ?_, ?_, ?_⟩, fun c hcm => ?_⟩
    · exact (sb.2 _ D.TIz).trans (hk _ _ D.TIz D.TITO D.TIi1 D.TIi2 D.TIi3 hTI)
    · exact (sb.2 _ D.TOz).trans TO'
    · exact s1.1.at fun o q => (sb.2 _ i1z).trans q
    · exact s2.1.at fun o q => (sb.2 _ i2z).trans q
    · exact s3.1.at fun o q => (sb.2 _ i3z).trans q
    · have hlt : c < s.heap.objs.size := by
        have e' : c = z ∨ c = TI ∨ c = TO ∨ c = i1 ∨ c = i2 ∨ c = i3 := by simpa using hcm
        rcases e' with q | q | q | q | q | q
        · rw [q]; exact hzl
        · rw [q]; exact Heap.lt_size hTI
        · rw [q]; exact Heap.lt_size hTO
        · rw [q]; obtain ⟨_, e1, _⟩ := h1; exact Heap.lt_size e1
        · rw [q]; obtain ⟨_, e2, _⟩ := h2; exact Heap.lt_size e2
        · rw [q]; obtain ⟨_, e3, _⟩ := h3; exact Heap.lt_size e3
      rw [upd_ne (Nat.ne_of_lt hlt)]
      exact (hf c hcm).1
  done := by
    intro X hP hw hK hc i pins s σ H E I hf st hg
    subst hP hw hK
    obtain ⟨hz, hTI, ⟨x0, y0, u0, hTO⟩, h1, h2, h3⟩ := st
    obtain ⟨xs, ys, zs, hqx, hqy, hqz, hend⟩ := hg
    obtain ⟨its, rv, p, _⟩ := I.tuple hqx
    obtain ⟨its2, rv2, p2, _⟩ := I.tuple hqy
    obtain ⟨its3, rv3, p3, _⟩ := I.list hqz
    have l1 := rv.length
    have l2 := rv2.length
    have l3 := rv3.length
    have hh : X.A.in1.handled = none := I.ok.hd hc
    obtain ⟨n1, P1, S1, D1, s1, b1, t1⟩ := draws_tupAt (prog := X.prog) (w := X.w) hh i1 a ha its.toArray i s.heap h1 p
    obtain ⟨n2, P2, S2, D2, s2, b2, t2⟩ := draws_tupAt (prog := X.prog) (w := X.w) hh i2 b hb its2.toArray i s.heap h2 p2
    obtain ⟨n3, P3, S3, D3, s3, b3, t3⟩ := draws_listAt (prog := X.prog) (w := X.w) hh i3 c hc' its3.toArray i s.heap h3 p3.isList
    have he : i = n1 ∨ i = n2 ∨ i = n3 := by
      rcases hend with q | q | q
      · exact .inl (t1 (by simp; omega))
      · exact .inr (.inl (t2 (by simp; omega)))
      · exact .inr (.inr (t3 (by simp; omega)))
    exact wpAny_pyNext_zipD3_end D D1 D2 D3 hz hTI hTO s1 s2 s3 b1 b2 b3 he fun h' tk hk => ⟨rfl, I.turnedL (t' := tk) (ch := [z, TI, TO, i1, i2, i3]) (fun c o hb q =>
      hk c o (fun q' => hb (by simp [q'])) (fun q' => hb (by simp [q'])) (fun q' => hb (by simp [q'])) (fun q' => hb (by simp [q'])) (fun q' => hb (by simp [q'])) q) hf⟩
  self := fun A i s Q E st h => wpAny_pyIter_zip st.1 h
def iZip3 (K : PySem.W.Frag) (ta : TA) : TI := fun σ H R => ta σ H fun vs H1 => ∃ a b c xs ys zs, vs = [.ref a, .ref b, .ref c] ∧ SqT K H1 a xs ∧ SqT K H1 b ys ∧ SqL K H1 c zs ∧ R (Itz3 K a b c) H1
theorem pi_zip3 {X : Cx} {e e2 e3 : Expr} {ta : TA} {p pos tpos : Pos} {elts : List Expr} {kk : Nat} (hg : Gl X "zip") (hm : X.mg "zip" = none) (ha : PA X [e, e2, e3] ta)
    (hs : starEach [e, e2, e3] X.env = (false, eval e X.env) :: starEach [e2, e3] X.env) (hpl : (backTo pos (starEach [e2, e3] X.env)).any (·.1) = false) :
    PI X (.Tuple elts kk tpos) (.Call (.Name "zip" p) [e, e2, e3] [] pos) (iZip3 X.K ta) := by
  refine ⟨fun pins s σ H R I h => ?_⟩
  refine Call_ (ld_blt I hg hm PyProof.Rows.boot_zip (PyProof.Rows.callWith_type1 (thn (ha.run pos pins s σ H _ I h) fun us s1 ⟨vs, H1, I1, r1, q1⟩ => ?_) hs hpl))
  obtain ⟨a, b, c, xs, ys, zs, ex, hqx, hqy, hqz, q⟩ := q1
  subst ex
  cases r1 with
  | cons r rr =>
    cases rr with
    | cons r' rr =>
      cases rr with
      | cons r'' rr =>
        cases rr
        cases r
        cases r'
        cases r''
        obtain ⟨its, rv, p1, _⟩ := I1.tuple hqx
        obtain ⟨its2, rv2, p2, _⟩ := I1.tuple hqy
        obtain ⟨its3, rv3, p3, _⟩ := I1.list hqz
        obtain ⟨o1, ho1, _⟩ := id p1
        obtain ⟨o2, ho2, _⟩ := id p2
        have l1 : a < s1.heap.objs.size := Heap.lt_size ho1
        have l2 : b < s1.heap.objs.size := Heap.lt_size ho2
        have l3 : c < s1.heap.objs.size := p3.lt
        have fresh6 : ∀ d, d ∈ [s1.heap.objs.size + 5, s1.heap.objs.size + 3, s1.heap.objs.size + 4, s1.heap.objs.size, s1.heap.objs.size + 1, s1.heap.objs.size + 2] → FpOk X pins H1 d := fun d hd => by
          have hle : s1.heap.objs.size ≤ d := by
            have e' : d = s1.heap.objs.size + 5 ∨ d = s1.heap.objs.size + 3 ∨ d = s1.heap.objs.size + 4 ∨ d = s1.heap.objs.size ∨ d = s1.heap.objs.size + 1 ∨ d = s1.heap.objs.size + 2 := by simpa using hd
            rcases e' with z | z | z | z | z | z
            · rw [z]; exact Nat.le_add_right _ _
            · rw [z]; exact Nat.le_add_right _ _
            · rw [z]; exact Nat.le_add_right _ _
            · rw [z]; exact Nat.le_refl _
            · rw [z]; exact Nat.le_add_right _ _
            · rw [z]; exact Nat.le_add_right _ _
          exact I1.fpOk hle (I1.hok.fresh hle)
        refine zip_begins3 (begins_tuple a its.toArray) (begins_tuple b its2.toArray) (begins_list c its3.toArray) p1 p2 p3.isList fun h' hz hTI hTO g1 g2 g3 hsz hk => wpAny_pyIter_zip hz ?_
        have I2 : Inv X pins σ H1 { s1 with heap := h' } := I1.kept (t' := s1.toks) hk
        exact ⟨s1.heap.objs.size + 5, [s1.heap.objs.size + 5, s1.heap.objs.size + 3, s1.heap.objs.size + 4, s1.heap.objs.size, s1.heap.objs.size + 1, s1.heap.objs.size + 2], _, _, H1, rfl, I2,
          turn_zip3 (zip_sep3 (fp1 := [a]) (fp2 := [b]) (fp3 := [c]) (fun d hd => by rw [List.mem_singleton.mp hd]; exact l1) (fun d hd => by rw [List.mem_singleton.mp hd]; exact l2) (fun d hd => by rw [List.mem_singleton.mp hd]; exact l3)) (Nat.ne_of_lt l1) (Nat.ne_of_lt (Nat.lt_succ_of_lt l2)) (Nat.ne_of_lt (Nat.lt_succ_of_lt (Nat.lt_succ_of_lt l3))),
          ⟨hz, hTI, ⟨_, _, _, hTO⟩, ⟨_, g1, rfl, rfl⟩, ⟨_, g2, rfl, rfl⟩, ⟨_, g3, rfl, rfl⟩⟩, fresh6, q⟩
end PD

/-! PD, part 4: what is walked, targets, statements, comprehensions. -/
namespace PD
open PySem PySem.Spec PyProof.Rows L2 RZ RT

/-! ### what is walked -/
abbrev CI := Rho → Sto → Option (List PyData × Sto)
/-- the iterator yields just these, as long as what is not live stays -/
def Yields (K : PySem.W.Frag) (μ : List Addr) (S : Sto) (H : Hp) (J : It) (xs : List PyData) : Prop :=
  ∀ H1, Ext μ S H H1 → ∀ i : Nat, (∀ x, xs[i]? = some x → J.go i H1 ∧ ∀ v H2, J.yld i H1 v H2 → (∀ a o, H1 a = some o → H2 a = some o) ∧ Rep K H2 x v) ∧ (xs[i]? = none → J.stop i H1)
def rdI (K : PySem.W.Frag) (m : CI) : TI := fun σ H R => ∃ μ S ρ xs S', StoOk K H μ S ∧ EnvOk K H μ ρ σ ∧ m ρ S = some (xs, S') ∧ ∀ J H' μ', Stp K μ S H μ' S' H' → Yields K μ' S' H' J xs → R J H'
abbrev SI (X : Cx) (tg iter : Expr) (m : CI) : Prop := PI X tg iter (rdI X.K m)
theorem PI.imp {X : Cx} {tg e : Expr} {t t' : TI} (h : PI X tg e t) (i : ∀ σ H Q, t' σ H Q → t σ H Q) : PI X tg e t' := ⟨fun pins s σ H Q I q => h.run pins s σ H Q I (i σ H Q q)⟩

section
variable {K : PySem.W.Frag} {μ : List Addr} {S : Sto} {H : Hp}
theorem fz_ext (ok : StoOk K H μ S) {H1 : Hp} (e : Ext μ S H H1) {a : Addr} {vs : List V} (h : FzL K H a vs) : FzL K H1 a vs := h.mono (ok.keeps e)
theorem tp_ext (ok : StoOk K H μ S) {H1 : Hp} (e : Ext μ S H H1) {a : Addr} {vs : List V} (h : TpT K H a vs) : TpT K H1 a vs := h.mono (ok.keeps e)
/-- two readings of one list object: known data alone -/
theorem yl_list (ok : StoOk K H μ S) {a : Addr} {vs : List V} {xs : List PyData} (h : FzL K H a vs) (l : RepL K H xs vs) : Yields K μ S H (Itl K a) xs := by
  intro H1 e i
  have h1 := (fz_ext ok e h).sq
  refine ⟨fun x hx => ?_, fun hx => ?_⟩
  · obtain ⟨v, hv, rv⟩ := l.get hx
    refine ⟨⟨vs, v, h1, hv⟩, fun u H2 y => ?_⟩
    obtain ⟨e2, y⟩ := y
    subst e2
    have hu := y vs h1
    rw [hv] at hu; cases hu
    exact ⟨fun _ _ e => e, rv.mono (ok.keeps e)⟩
  · exact ⟨vs, h1, by rw [← l.length]; exact List.getElem?_eq_none_iff.mp hx⟩
theorem yl_tup (ok : StoOk K H μ S) {a : Addr} {vs : List V} {xs : List PyData} (h : TpT K H a vs) (l : RepL K H xs vs) : Yields K μ S H (Itt K a) xs := by
  intro H1 e i
  have h1 := (tp_ext ok e h).sq
  refine ⟨fun x hx => ?_, fun hx => ?_⟩
  · obtain ⟨v, hv, rv⟩ := l.get hx
    refine ⟨⟨vs, v, h1, hv⟩, fun u H2 y => ?_⟩
    obtain ⟨e2, y⟩ := y
    subst e2
    have hu := y vs h1
    rw [hv] at hu; cases hu
    exact ⟨fun _ _ e => e, rv.mono (ok.keeps e)⟩
  · exact ⟨vs, h1, by rw [← l.length]; exact List.getElem?_eq_none_iff.mp hx⟩
/-- lo, lo + 1, .. -/
def rangeD (lo : Int) (n : Nat) : List PyData := (List.range n).map fun i => PyData.int (lo + (i : Nat))
theorem yl_range {lo : Int} {n : Nat} : Yields K μ S H (Itr lo n) (rangeD lo n) := by
  intro H1 e i
  have hl : (rangeD lo n)[i]? = if i < n then some (.int (lo + (i : Nat))) else none := by
    unfold rangeD
    rw [List.getElem?_map]
    split
    · rename_i h; rw [List.getElem?_range h]; rfl
    · rename_i h; rw [List.getElem?_eq_none (by simpa using h)]; rfl
  rw [hl]
  refine ⟨fun x hx => ?_, fun hx => ?_⟩
  · split at hx
    · rename_i hi
      cases hx
      refine ⟨hi, fun u H2 y => ?_⟩
      obtain ⟨e2, y⟩ := y
      subst e2 y
      exact ⟨fun _ _ e => e, .int _⟩
    · cases hx
  · split at hx
    · cases hx
    · rename_i hi; exact Nat.le_of_not_lt hi
def zipD : List PyData → List PyData → List PyData
  | x :: xs, y :: ys => .tuple [x, y] :: zipD xs ys
  | _, _ => []
theorem zipD_get : ∀ (xs ys : List PyData) (i : Nat), (zipD xs ys)[i]? = match xs[i]?, ys[i]? with
    | some x, some y => some (.tuple [x, y])
    | _, _ => none
  | [], _, _ => by simp [zipD]
  | x :: xs, [], i => by simp [zipD]
  | x :: xs, y :: ys, 0 => by simp [zipD]
  | x :: xs, y :: ys, i + 1 => by simpa [zipD] using zipD_get xs ys i
def zip3D : List PyData → List PyData → List PyData → List PyData
  | x :: xs, y :: ys, z :: zs => .tuple [x, y, z] :: zip3D xs ys zs
  | _, _, _ => []
theorem zip3D_get : ∀ (xs ys zs : List PyData) (i : Nat), (zip3D xs ys zs)[i]? = match xs[i]?, ys[i]?, zs[i]? with
    | some x, some y, some z => some (.tuple [x, y, z])
    | _, _, _ => none
  | [], _, _, _ => by simp [zip3D]
  | x :: xs, [], _, i => by simp [zip3D]
  | x :: xs, y :: ys, [], i => by simp [zip3D]
  | x :: xs, y :: ys, z :: zs, 0 => by simp [zip3D]
  | x :: xs, y :: ys, z :: zs, i + 1 => by simpa [zip3D] using zip3D_get xs ys zs i
theorem yl_zip3 (ok : StoOk K H μ S) {a b c : Addr} {vs us ws : List V} {xs ys zs : List PyData} (h : TpT K H a vs) (l : RepL K H xs vs) (g : TpT K H b us) (m : RepL K H ys us) (k : FzL K H c ws) (n : RepL K H zs ws) : Yields K μ S H (Itz3 K a b c) (zip3D xs ys zs) := by
  intro H1 e i
  have h1 := (tp_ext ok e h).sq
  have g1 := (tp_ext ok e g).sq
  have k1 := (fz_ext ok e k).sq
  rw [zip3D_get]
  refine ⟨fun z hz => ?_, fun hz => ?_⟩
  · split at hz
    · rename_i x y z hx hy hzz
      cases hz
      obtain ⟨v, hv, rv⟩ := l.get hx
      obtain ⟨u, hu, ru⟩ := m.get hy
      obtain ⟨t, ht, rt⟩ := n.get hzz
      refine ⟨⟨vs, us, ws, v, u, t, h1, g1, k1, hv, hu, ht⟩, fun w H2 y => ?_⟩
      obtain ⟨T, v', u', t', rfl, nT, rfl, f1, f2, f3⟩ := y
      have e1 := f1 vs h1
      have e2 := f2 us g1
      have e3 := f3 ws k1
      rw [hv] at e1; rw [hu] at e2; rw [ht] at e3
      cases e1; cases e2; cases e3
      have kp : Keeps H (upd H1 T (.tup [v, u, t])) := (ok.keeps e).trans fun a o e _ => same_new nT a o e
      exact ⟨same_new nT, .tup (.inl upd_same) (.cons (rv.mono kp) (.cons (ru.mono kp) (.cons (rt.mono kp) .nil)))⟩
    · cases hz
  · refine ⟨vs, us, ws, h1, g1, k1, ?_⟩
    rw [← l.length, ← m.length, ← n.length]
    cases hx : xs[i]? with
    | none => exact .inl (List.getElem?_eq_none_iff.mp hx)
    | some x =>
      cases hy : ys[i]? with
      | none => exact .inr (.inl (List.getElem?_eq_none_iff.mp hy))
      | some y =>
        cases hw : zs[i]? with
        | none => exact .inr (.inr (List.getElem?_eq_none_iff.mp hw))
        | some z => rw [hx, hy, hw] at hz; cases hz
theorem yl_zipT (ok : StoOk K H μ S) {a b : Addr} {vs us : List V} {xs ys : List PyData} (h : TpT K H a vs) (l : RepL K H xs vs) (g : TpT K H b us) (m : RepL K H ys us) : Yields K μ S H (ItzT K a b) (zipD xs ys) := by
  intro H1 e i
  have h1 := (tp_ext ok e h).sq
  have g1 := (tp_ext ok e g).sq
  rw [zipD_get]
  refine ⟨fun z hz => ?_, fun hz => ?_⟩
  · split at hz
    · rename_i x y hx hy
      cases hz
      obtain ⟨v, hv, rv⟩ := l.get hx
      obtain ⟨u, hu, ru⟩ := m.get hy
      refine ⟨⟨vs, us, v, u, h1, g1, hv, hu⟩, fun w H2 y => ?_⟩
      obtain ⟨T, v', u', rfl, nT, rfl, f1, f2⟩ := y
      have e1 := f1 vs h1
      have e2 := f2 us g1
      rw [hv] at e1; rw [hu] at e2
      cases e1; cases e2
      have kp : Keeps H (upd H1 T (.tup [v, u])) := (ok.keeps e).trans fun a o e _ => same_new nT a o e
      exact ⟨same_new nT, .tup (.inl upd_same) (.cons (rv.mono kp) (.cons (ru.mono kp) .nil))⟩
    · cases hz
  · refine ⟨vs, us, h1, g1, ?_⟩
    rw [← l.length, ← m.length]
    cases hx : xs[i]? with
    | none => exact .inl (List.getElem?_eq_none_iff.mp hx)
    | some x =>
      cases hy : ys[i]? with
      | none => exact .inr (List.getElem?_eq_none_iff.mp hy)
      | some y => rw [hx, hy] at hz; cases hz
theorem yl_zipL (ok : StoOk K H μ S) {a b : Addr} {vs us : List V} {xs ys : List PyData} (h : FzL K H a vs) (l : RepL K H xs vs) (g : FzL K H b us) (m : RepL K H ys us) : Yields K μ S H (Itz K a b) (zipD xs ys) := by
  intro H1 e i
  have h1 := (fz_ext ok e h).sq
  have g1 := (fz_ext ok e g).sq
  rw [zipD_get]
  refine ⟨fun z hz => ?_, fun hz => ?_⟩
  · split at hz
    · rename_i x y hx hy
      cases hz
      obtain ⟨v, hv, rv⟩ := l.get hx
      obtain ⟨u, hu, ru⟩ := m.get hy
      refine ⟨⟨vs, us, v, u, h1, g1, hv, hu⟩, fun w H2 y => ?_⟩
      obtain ⟨T, v', u', rfl, nT, rfl, f1, f2⟩ := y
      have e1 := f1 vs h1
      have e2 := f2 us g1
      rw [hv] at e1; rw [hu] at e2
      cases e1; cases e2
      have kp : Keeps H (upd H1 T (.tup [v, u])) := (ok.keeps e).trans fun a o e _ => same_new nT a o e
      exact ⟨same_new nT, .tup (.inl upd_same) (.cons (rv.mono kp) (.cons (ru.mono kp) .nil))⟩
    · cases hz
  · refine ⟨vs, us, h1, g1, ?_⟩
    rw [← l.length, ← m.length]
    cases hx : xs[i]? with
    | none => exact .inl (List.getElem?_eq_none_iff.mp hx)
    | some x =>
      cases hy : ys[i]? with
      | none => exact .inr (List.getElem?_eq_none_iff.mp hy)
      | some y => rw [hx, hy] at hz; cases hz
def enumD (n : Nat) : List PyData → List PyData
  | x :: xs => .tuple [.int (n : Nat), x] :: enumD (n + 1) xs
  | [] => []
theorem enumD_get : ∀ (xs : List PyData) (n i : Nat), (enumD n xs)[i]? = match xs[i]? with
    | some x => some (.tuple [.int ((n + i : Nat) : Nat), x])
    | _ => none
  | [], _, _ => by simp [enumD]
  | x :: xs, n, 0 => by simp [enumD]
  | x :: xs, n, i + 1 => by
    have := enumD_get xs (n + 1) i
    rw [show n + 1 + i = n + (i + 1) by omega] at this
    simpa [enumD] using this
theorem yl_enum (ok : StoOk K H μ S) {a : Addr} {vs : List V} {xs : List PyData} (h : FzL K H a vs) (l : RepL K H xs vs) : Yields K μ S H (Ite K a) (enumD 0 xs) := by
  intro H1 e i
  have h1 := (fz_ext ok e h).sq
  rw [enumD_get]
  refine ⟨fun z hz => ?_, fun hz => ?_⟩
  · split at hz
    · rename_i x hx
      cases hz
      obtain ⟨v, hv, rv⟩ := l.get hx
      refine ⟨⟨vs, v, h1, hv⟩, fun w H2 y => ?_⟩
      obtain ⟨T, v', rfl, nT, rfl, f1⟩ := y
      have e1 := f1 vs h1
      rw [hv] at e1
      cases e1
      have kp : Keeps H (upd H1 T (.tup [.int (i : Nat), v])) := (ok.keeps e).trans fun a o e _ => same_new nT a o e
      refine ⟨same_new nT, .tup (.inl upd_same) (.cons ?_ (.cons (rv.mono kp) .nil))⟩
      rw [Nat.zero_add]; exact .int _
    · cases hz
  · refine ⟨vs, h1, ?_⟩
    rw [← l.length]
    cases hx : xs[i]? with
    | none => exact List.getElem?_eq_none_iff.mp hx
    | some x => rw [hx] at hz; cases hz
theorem yl_enumT (ok : StoOk K H μ S) {a : Addr} {vs : List V} {xs : List PyData} (h : TpT K H a vs) (l : RepL K H xs vs) : Yields K μ S H (IteT K a) (enumD 0 xs) := by
  intro H1 e i
  have h1 := (tp_ext ok e h).sq
  rw [enumD_get]
  refine ⟨fun z hz => ?_, fun hz => ?_⟩
  · split at hz
    · rename_i x hx
      cases hz
      obtain ⟨v, hv, rv⟩ := l.get hx
      refine ⟨⟨vs, v, h1, hv⟩, fun w H2 y => ?_⟩
      obtain ⟨T, v', rfl, nT, rfl, f1⟩ := y
      have e1 := f1 vs h1
      rw [hv] at e1
      cases e1
      have kp : Keeps H (upd H1 T (.tup [.int (i : Nat), v])) := (ok.keeps e).trans fun a o e _ => same_new nT a o e
      refine ⟨same_new nT, .tup (.inl upd_same) (.cons ?_ (.cons (rv.mono kp) .nil))⟩
      rw [Nat.zero_add]; exact .int _
    · cases hz
  · refine ⟨vs, h1, ?_⟩
    rw [← l.length]
    cases hx : xs[i]? with
    | none => exact List.getElem?_eq_none_iff.mp hx
    | some x => rw [hx] at hz; cases hz
end

section
variable {X : Cx} {tg a b : Expr} {ma mb : CE} {pos p : Pos}
/-- a list or a tuple, walked -/
theorem pi_seq {t : TE} (h : PE X a t) : PI X tg a (fun σ H R => t σ H fun x H1 => ∃ c, x = .ref c ∧ (((∃ xs, SqL X.K H1 c xs) ∧ R (Itl X.K c) H1) ∨ ((∃ xs, SqT X.K H1 c xs) ∧ R (Itt X.K c) H1))) := by
  constructor
  intro pins s0 σ H R I0 hw
  apply thn (h.run pins s0 σ H _ I0 hw)
  rintro v s ⟨x, H1, I, r, c, rfl, q⟩
  cases r
  have new : ∀ o : Obj, FpOk X pins H1 s.heap.objs.size ∧ Inv X pins σ H1 { s with heap := s.heap.push o } := fun o =>
    ⟨I.fpOk (Nat.le_refl _) (I.hok.fresh (Nat.le_refl _)), I.kept (t' := s.toks) fun b ob z => Heap.get?_push_of_some _ z⟩
  have one : ∀ b ∈ [s.heap.objs.size], FpOk X pins H1 b := fun b z => by
    rw [List.mem_singleton.mp z]; exact (new default).1
  rcases q with ⟨⟨xs, hx⟩, q⟩ | ⟨⟨xs, hx⟩, q⟩
  · obtain ⟨its, _, pl, _⟩ := I.list hx
    exact wpAny_pyIter_list pl.isList ⟨_, [s.heap.objs.size], _, _, H1, rfl, (new _).2, turn_list c _, ⟨_, Heap.get?_push_size _ rfl, rfl, rfl⟩, one, q⟩
  · obtain ⟨its, _, pl, _⟩ := I.tuple hx
    exact wpAny_pyIter_tuple (show s.heap.IsTuple c its.toArray from pl) ⟨_, [s.heap.objs.size], _, _, H1, rfl, (new _).2, turn_tuple c _, ⟨_, Heap.get?_push_size _ rfl, rfl, rfl⟩, one, q⟩
def seqI (a : CE) : CI := fun ρ S => (a ρ S).bind fun p => match p.1 with
  | .d (.list xs) => some (xs, p.2)
  | .d (.tuple xs) => some (xs, p.2)
  | _ => none
theorem si_seq (h : SE X a ma) : SI X tg a (seqI ma) := PI.imp (pi_seq h) fun σ H R ⟨μ, S, ρ, xs, S', ok, en, e, q⟩ => by
  unfold seqI at e
  cases hx : ma ρ S with
  | none => rw [hx] at e; cases e
  | some p =>
    obtain ⟨w1, S1⟩ := p
    rw [hx, Option.bind_some] at e
    refine ⟨μ, S, ρ, w1, S1, ok, en, hx, fun v H1 μ1 st r => ?_⟩
    simp only at e
    split at e
    · cases e
      cases r with | d r =>
      cases r with | lst h1 l1 => exact ⟨_, rfl, .inl ⟨⟨_, h1.sq⟩, q _ H1 μ1 st (yl_list st.sto h1 l1)⟩⟩
    · cases e
      cases r with | d r =>
      cases r with | tup h1 l1 => exact ⟨_, rfl, .inr ⟨⟨_, h1.sq⟩, q _ H1 μ1 st (yl_tup st.sto h1 l1)⟩⟩
    · cases e
/-- an end of a range; told by a short number, for a kernel that would count down from a great one -/
def okR (j : Int) : Bool := decide (j.natAbs.log2 < 62)
theorem okR_lt {j : Int} (h : okR j = true) : -(2 ^ 62) ≤ j ∧ j < 2 ^ 62 := by
  unfold okR at h
  have h1 := of_decide_eq_true h
  have h2 : j.natAbs < 2 ^ 62 := by
    by_cases h0 : j.natAbs = 0
    · rw [h0]; decide
    · exact (Nat.log2_lt h0).mp h1
  omega
theorem okR_nat {n : Nat} (h : n < 1000000) : okR n = true := by
  unfold okR
  rw [Int.natAbs_natCast]
  refine decide_eq_true ?_
  by_cases h0 : n = 0
  · subst h0; decide
  · exact (Nat.log2_lt h0).mpr (by omega)
def range1I (a : CE) : CI := fun ρ S => (a ρ S).bind fun p => (asInt p.1).bind fun j => if okR j = true then some (rangeD 0 j.toNat, p.2) else none
def range2I (a b : CE) : CI := fun ρ S => (a ρ S).bind fun p => (b ρ p.2).bind fun z => (asInt p.1).bind fun i => (asInt z.1).bind fun j =>
  if (okR i && okR j) = true then some (rangeD i (j - i).toNat, z.2) else none
theorem asInt_of {K : PySem.W.Frag} {H : Hp} {μ : List Addr} {w : W} {v : V} {i : Int} (r : WRep K H μ w v) (h : asInt w = some i) : v = .int i := by
  unfold asInt at h
  split at h
  · cases h
    cases r with | d r => cases r; rfl
  · cases h
theorem si_range1 (h : SE X a ma) (hg : Gl X "range") (hm : X.mg "range" = none) (hs : starEach [a] X.env = [(false, eval a X.env)]) : SI X tg (.Call (.Name "range" p) [a] [] pos) (range1I ma) :=
  PI.imp (pi_range1 hg hm (pa_cons h pa_nil hs) hs) fun σ H R ⟨μ, S, ρ, xs, S', ok, en, e, q⟩ => by
    unfold range1I at e
    cases hx : ma ρ S with
    | none => rw [hx] at e; cases e
    | some p =>
      obtain ⟨w1, S1⟩ := p
      rw [hx, Option.bind_some] at e
      cases hi : asInt w1 with
      | none => simp only [hi] at e; cases e
      | some j =>
        simp only [hi, Option.bind_some] at e
        split at e
        · rename_i hz
          have hz := okR_lt hz
          cases e
          exact ⟨μ, S, ρ, w1, _, ok, en, hx, fun v H1 μ1 st r => ⟨j, by rw [asInt_of r hi], hz.1, hz.2, q _ H1 μ1 st yl_range⟩⟩
        · cases e
theorem si_range2 (h : SE X a ma) (h2 : SE X b mb) (hg : Gl X "range") (hm : X.mg "range" = none) (hs : starEach [a, b] X.env = [(false, eval a X.env), (false, eval b X.env)]) (hs2 : starEach [b] X.env = [(false, eval b X.env)]) :
    SI X tg (.Call (.Name "range" p) [a, b] [] pos) (range2I ma mb) :=
  PI.imp (pi_range2 hg hm (pa_cons h (pa_cons h2 pa_nil hs2) (by rw [hs, hs2])) hs hs2) fun σ H R ⟨μ, S, ρ, xs, S', ok, en, e, q⟩ => by
    unfold range2I at e
    cases hx : ma ρ S with
    | none => rw [hx] at e; cases e
    | some p =>
      obtain ⟨w1, S1⟩ := p
      rw [hx, Option.bind_some] at e
      cases hy : mb ρ S1 with
      | none => simp only [hy] at e; cases e
      | some p2 =>
        obtain ⟨w2, S2⟩ := p2
        simp only [hy, Option.bind_some] at e
        cases hi : asInt w1 with
        | none => simp only [hi] at e; cases e
        | some i =>
          cases hj : asInt w2 with
          | none => simp only [hi, hj, Option.bind_some] at e; cases e
          | some j =>
            simp only [hi, hj, Option.bind_some] at e
            split at e
            · rename_i hz
              have hz : (-(2 ^ 62) ≤ i ∧ i < 2 ^ 62 ∧ -(2 ^ 62) ≤ j ∧ j < 2 ^ 62) := by
                rw [Bool.and_eq_true] at hz
                exact ⟨(okR_lt hz.1).1, (okR_lt hz.1).2, (okR_lt hz.2).1, (okR_lt hz.2).2⟩
              cases e
              exact ⟨μ, S, ρ, w1, _, ok, en, hx, fun v H1 μ1 st r => ⟨μ1, S1, ρ, w2, _, st.sto, en.step ok st, hy, fun u H2 μ2 st2 r2 => ⟨i, j, by rw [asInt_of r hi, asInt_of r2 hj], hz, q _ H2 μ2 (st.trans ok st2) yl_range⟩⟩⟩
            · cases e
def zipI (a b : CE) : CI := fun ρ S => (a ρ S).bind fun p => (b ρ p.2).bind fun z => match p.1, z.1 with
  | .d (.list xs), .d (.list ys) => some (zipD xs ys, z.2)
  | .d (.tuple xs), .d (.tuple ys) => some (zipD xs ys, z.2)
  | _, _ => none
theorem si_zip {elts : List Expr} {kk : Nat} {tpos : Pos} (h : SE X a ma) (h2 : SE X b mb) (hg : Gl X "zip") (hm : X.mg "zip" = none) (hs : starEach [a, b] X.env = (false, eval a X.env) :: starEach [b] X.env) (hs2 : starEach [b] X.env = [(false, eval b X.env)]) :
    SI X (.Tuple elts kk tpos) (.Call (.Name "zip" p) [a, b] [] pos) (zipI ma mb) :=
  PI.imp (pi_zipA hg hm (pa_cons h (pa_cons h2 pa_nil hs2) hs) hs (by rw [hs2]; rfl)) fun σ H R ⟨μ, S, ρ, xs, S', ok, en, e, q⟩ => by
    unfold zipI at e
    cases hx : ma ρ S with
    | none => rw [hx] at e; cases e
    | some p =>
      obtain ⟨w1, S1⟩ := p
      rw [hx, Option.bind_some] at e
      cases hy : mb ρ S1 with
      | none => simp only [hy] at e; cases e
      | some p2 =>
        obtain ⟨w2, S2⟩ := p2
        simp only [hy, Option.bind_some] at e
        refine ⟨μ, S, ρ, w1, _, ok, en, hx, fun v H1 μ1 st r => ⟨μ1, S1, ρ, w2, _, st.sto, en.step ok st, hy, fun u H2 μ2 st2 r2 => ?_⟩⟩
        have k2 := st2.keeps st.sto
        split at e
        · cases e
          cases r with | d r =>
          cases r with | lst ha la =>
          cases r2 with | d r2 =>
          cases r2 with | lst hb lb =>
          exact ⟨_, _, _, _, rfl, .inl ⟨(ha.mono k2).sq, hb.sq, q _ H2 μ2 (st.trans ok st2) (yl_zipL st2.sto (ha.mono k2) (la.mono k2) hb lb)⟩⟩
        · cases e
          cases r with | d r =>
          cases r with | tup ha la =>
          cases r2 with | d r2 =>
          cases r2 with | tup hb lb =>
          exact ⟨_, _, _, _, rfl, .inr ⟨(ha.mono k2).sq, hb.sq, q _ H2 μ2 (st.trans ok st2) (yl_zipT st2.sto (ha.mono k2) (la.mono k2) hb lb)⟩⟩
        · cases e
def zip3I (a b c : CE) : CI := fun ρ S => (a ρ S).bind fun p => (b ρ p.2).bind fun z => (c ρ z.2).bind fun y => match p.1, z.1, y.1 with
  | .d (.tuple xs), .d (.tuple ys), .d (.list zs) => some (zip3D xs ys zs, y.2)
  | _, _, _ => none
theorem si_zip3 {elts : List Expr} {kk : Nat} {tpos : Pos} {c : Expr} {mc : CE} (h : SE X a ma) (h2 : SE X b mb) (h3 : SE X c mc) (hg : Gl X "zip") (hm : X.mg "zip" = none) (hs : starEach [a, b, c] X.env = (false, eval a X.env) :: starEach [b, c] X.env) (hs2 : starEach [b, c] X.env = (false, eval b X.env) :: starEach [c] X.env) (hs3 : starEach [c] X.env = [(false, eval c X.env)]) :
    SI X (.Tuple elts kk tpos) (.Call (.Name "zip" p) [a, b, c] [] pos) (zip3I ma mb mc) :=
  PI.imp (pi_zip3 hg hm (pa_cons h (pa_cons h2 (pa_cons h3 pa_nil hs3) hs2) hs) hs (by rw [hs2, hs3]; rfl)) fun σ H R ⟨μ, S, ρ, xs, S', ok, en, e, q⟩ => by
    unfold zip3I at e
    cases hx : ma ρ S with
    | none => rw [hx] at e; cases e
    | some p =>
      obtain ⟨w1, S1⟩ := p
      rw [hx, Option.bind_some] at e
      cases hy : mb ρ S1 with
      | none => simp only [hy] at e; cases e
      | some p2 =>
        obtain ⟨w2, S2⟩ := p2
        simp only [hy, Option.bind_some] at e
        cases hz : mc ρ S2 with
        | none => simp only [hz] at e; cases e
        | some p3 =>
          obtain ⟨w3, S3⟩ := p3
          simp only [hz, Option.bind_some] at e
          refine ⟨μ, S, ρ, w1, _, ok, en, hx, fun v H1 μ1 st r => ⟨μ1, S1, ρ, w2, _, st.sto, en.step ok st, hy, fun u H2 μ2 st2 r2 => ⟨μ2, S2, ρ, w3, _, st2.sto, (en.step ok st).step st.sto st2, hz, fun t H3 μ3 st3 r3 => ?_⟩⟩⟩
          have k2 := st2.keeps st.sto
          have k3 := st3.keeps st2.sto
          split at e
          · cases e
            cases r with | d r =>
            cases r with | tup ha la =>
            cases r2 with | d r2 =>
            cases r2 with | tup hb lb =>
            cases r3 with | d r3 =>
            cases r3 with | lst hc lc =>
            have ha' := (ha.mono k2).mono k3
            have la' := (la.mono k2).mono k3
            have hb' := hb.mono k3
            have lb' := lb.mono k3
            exact ⟨_, _, _, _, _, _, rfl, ha'.sq, hb'.sq, hc.sq, q _ H3 μ3 ((st.trans ok st2).trans ok st3) (yl_zip3 st3.sto ha' la' hb' lb' hc lc)⟩
          · cases e
def enumI (a : CE) : CI := fun ρ S => (a ρ S).bind fun p => match p.1 with
  | .d (.list xs) => some (enumD 0 xs, p.2)
  | .d (.tuple xs) => some (enumD 0 xs, p.2)
  | _ => none
theorem si_enum {elts : List Expr} {kk : Nat} {tpos : Pos} (h : SE X a ma) (hg : Gl X "enumerate") (hm : X.mg "enumerate" = none) (hs : starEach [a] X.env = [(false, eval a X.env)]) :
    SI X (.Tuple elts kk tpos) (.Call (.Name "enumerate" p) [a] [] pos) (enumI ma) :=
  PI.imp (pi_enumA hg hm (pa_cons h pa_nil hs) hs) fun σ H R ⟨μ, S, ρ, xs, S', ok, en, e, q⟩ => by
    unfold enumI at e
    cases hx : ma ρ S with
    | none => rw [hx] at e; cases e
    | some p =>
      obtain ⟨w1, S1⟩ := p
      rw [hx, Option.bind_some] at e
      refine ⟨μ, S, ρ, w1, S1, ok, en, hx, fun v H1 μ1 st r => ?_⟩
      simp only at e
      split at e
      · cases e
        cases r with | d r =>
        cases r with | lst h1 l1 => exact ⟨_, _, rfl, .inl ⟨h1.sq, q _ H1 μ1 st (yl_enum st.sto h1 l1)⟩⟩
      · cases e
        cases r with | d r =>
        cases r with | tup h1 l1 => exact ⟨_, _, rfl, .inr ⟨h1.sq, q _ H1 μ1 st (yl_enumT st.sto h1 l1)⟩⟩
      · cases e
end

/-! ### targets -/
abbrev CG := W → Rho → Sto → Option (Rho × Sto)
abbrev CGs := List PyData → Rho → Sto → Option (Rho × Sto)
/-- nothing but these slots is another -/
def Only (vs : List Nat) (σ σ' : L2.St) : Prop := σ'.length = σ.length ∧ ∀ i, i ∉ vs → σ'[i]? = σ[i]?
theorem Only.refl {vs : List Nat} {σ : L2.St} : Only vs σ σ := ⟨rfl, fun _ _ => rfl⟩
theorem Only.trans {vs ws : List Nat} {σ σ1 σ2 : L2.St} (h : Only vs σ σ1) (g : Only ws σ1 σ2) : Only (vs ++ ws) σ σ2 := ⟨g.1.trans h.1, fun i n => by
  rw [List.mem_append, not_or] at n
  exact (g.2 i n.2).trans (h.2 i n.1)⟩
theorem wipe_at {σ : L2.St} {i : Nat} : ∀ {vs : List Nat}, i ∈ vs → i < σ.length → (L2.wipe σ vs)[i]? = some none
  | v :: vs, h, hi => by
    unfold L2.wipe
    by_cases hv : v = i
    · subst hv
      rw [List.getElem?_set_self (by rw [L2.wipe_length]; exact hi)]
    · rw [List.getElem?_set_ne hv]
      exact wipe_at ((List.mem_cons.mp h).resolve_left fun z => hv z.symm) hi
theorem Only.wipe {vs own : List Nat} {σ σ' : L2.St} (h : Only vs (L2.wipe σ own) σ') (hs : ∀ i ∈ vs, i ∈ own) : L2.wipe σ' own = L2.wipe σ own := by
  have hl : σ'.length = σ.length := h.1.trans (L2.wipe_length _ _)
  refine List.ext_getElem? fun i => ?_
  by_cases hi : i < σ.length
  · by_cases ho : i ∈ own
    · rw [wipe_at ho (by rw [hl]; exact hi), wipe_at ho hi]
    · rw [L2.wipe_out ho]
      exact h.2 i fun z => ho (hs i z)
  · rw [List.getElem?_eq_none (by rw [L2.wipe_length, hl]; omega), List.getElem?_eq_none (by rw [L2.wipe_length]; omega)]
def rdG (K : PySem.W.Frag) (g : CG) (vs : List Nat) : TG := fun v σ H Q => ∃ μ S ρ w ρ' S', StoOk K H μ S ∧ EnvOk K H μ ρ σ ∧ WRep K H μ w v ∧ g w ρ S = some (ρ', S') ∧ ∀ σ' H' μ', Stp K μ S H μ' S' H' → EnvOk K H' μ' ρ' σ' → Only vs σ σ' → Q σ' H'
def rdGs (K : PySem.W.Frag) (g : CGs) (vs : List Nat) : TGs := fun us σ H Q => ∃ μ S ρ xs ρ' S', StoOk K H μ S ∧ EnvOk K H μ ρ σ ∧ RepL K H xs us ∧ g xs ρ S = some (ρ', S') ∧ ∀ σ' H' μ', Stp K μ S H μ' S' H' → EnvOk K H' μ' ρ' σ' → Only vs σ σ' → Q σ' H'
abbrev SG (X : Cx) (tg : Expr) (g : CG) (vs : List Nat) : Prop := PG X tg (rdG X.K g vs)
abbrev SGs (X : Cx) (tg : List Expr) (g : CGs) (vs : List Nat) : Prop := PGs X tg (rdGs X.K g vs)
theorem PG.imp {X : Cx} {tg : Expr} {t t' : TG} (h : PG X tg t) (i : ∀ v σ H Q, t' v σ H Q → t v σ H Q) : PG X tg t' := ⟨fun pins s σ H v u Q I r q => h.run pins s σ H v u Q I r (i v σ H Q q)⟩
theorem PGs.imp {X : Cx} {tg : List Expr} {t t' : TGs} (h : PGs X tg t) (i : ∀ v σ H Q, t' v σ H Q → t v σ H Q) : PGs X tg t' := ⟨fun pins s σ H v u Q I r q => h.run pins s σ H v u Q I r (i v σ H Q q)⟩
def nameG (i : Nat) : CG := fun w ρ S => some (ρ.set i (some w), S)
def nilG : CGs := fun xs ρ S => match xs with
  | [] => some (ρ, S)
  | _ => none
def consG (g : CG) (r : CGs) : CGs := fun xs ρ S => match xs with
  | [] => none
  | x :: xs => (g (.d x) ρ S).bind fun p => r xs p.1 p.2
def tupG (n : Nat) (g : CGs) : CG := fun w ρ S => match w with
  | .d (.tuple xs) => if xs.length = n then g xs ρ S else none
  | _ => none
/-- a[i] = .., a list in a cell -/
def subG (a i : CE) : CG := fun w ρ S => (a ρ S).bind fun p => (i ρ p.2).bind fun q => match w, p.1, asInt q.1 with
  | .d x, .m n, some k => match q.2[n]? with
    | some (some xs) => (ixN xs.length k).bind fun j => some (ρ, q.2.set n (some (xs.set j x)))
    | _ => none
  | _, _, _ => none
section
variable {X : Cx} {e a b : Expr} {es : List Expr} {ma mb : CE} {pos : Pos} {g : CG} {r : CGs} {vs ws : List Nat}
theorem sg_name {i : Nat} {x : Str} (hN : X.N.Nodup) (hi : X.N[i]? = some x) (hx : Loc X.env.scope x) (hf : X.fn x = true ∨ X.env.scope.names.lookup x = some .local) : SG X (.Name x pos) (nameG i) [i] :=
  PG.imp (pg_name hN hi hx hf) fun v σ H Q ⟨μ, S, ρ, w, ρ', S', ok, en, rw, e, q⟩ => by
    cases e
    refine q _ H μ (.refl ok) (en.set i rw) ⟨by simp, fun j hj => ?_⟩
    rw [List.getElem?_set_ne]
    exact fun z => hj (by simp [z])
theorem sgs_nil : SGs X [] nilG [] := PGs.imp pgs_nil fun v σ H Q ⟨μ, S, ρ, xs, ρ', S', ok, en, l, e, q⟩ => by
  unfold nilG at e
  split at e
  · cases e; cases l; exact ⟨rfl, q σ H μ (.refl ok) en .refl⟩
  · cases e
theorem sgs_cons (h1 : SG X e g vs) (h2 : SGs X es r ws) (hs : (assignEach (e :: es) X.env).map (·.2) = assign e X.env :: (assignEach es X.env).map (·.2)) : SGs X (e :: es) (consG g r) (vs ++ ws) :=
  PGs.imp (pgs_cons h1 h2 hs) fun v σ H Q ⟨μ, S, ρ, xs, ρ', S', ok, en, l, e, q⟩ => by
    unfold consG at e
    split at e
    · cases e
    · rename_i x xs
      cases l with | cons r1 l1 =>
      cases hg : g (.d x) ρ S with
      | none => rw [hg] at e; cases e
      | some p =>
        obtain ⟨ρ1, S1⟩ := p
        rw [hg, Option.bind_some] at e
        refine ⟨_, _, rfl, μ, S, ρ, _, ρ1, S1, ok, en, .d r1, hg, fun σ1 H1 μ1 st1 en1 o1 => ?_⟩
        exact ⟨μ1, S1, ρ1, xs, ρ', S', st1.sto, en1, l1.mono (st1.keeps ok), e, fun σ' H' μ' st2 en2 o2 => q σ' H' μ' (st1.trans ok st2) en2 (o1.trans o2)⟩
theorem sg_tup {n k : Nat} (hc : X.calm = true) (h : SGs X es r vs) (hn : (assignEach es X.env).length = n) (hst : (assignEach es X.env).findIdx? (·.1) = none) : SG X (.Tuple es k pos) (tupG n r) vs :=
  PG.imp (pg_tup hc h hn hst) fun v σ H Q ⟨μ, S, ρ, w, ρ', S', ok, en, rw, e, q⟩ => by
    unfold tupG at e
    split at e
    · rename_i xs
      split at e
      · rename_i hl
        cases rw with | d rw =>
        cases rw with | tup h1 l1 =>
        exact ⟨_, _, rfl, h1.sq, by rw [← l1.length]; exact hl, μ, S, ρ, xs, ρ', S', ok, en, l1, e, q⟩
      · cases e
    · cases e
theorem sg_sub (ha : SE X a ma) (hb : SE X b mb) (hs : isSlice b = false) : SG X (.Subscript a b pos) (subG ma mb) [] := by
  refine PG.imp (pg_sub ha hb set_list ?_) fun v σ H Q ⟨μ, S, ρ, w, ρ', S', ok, en, rw, e, q⟩ => ?_
  · intro v
    cases b <;> first | rfl | cases hs
  · unfold subG at e
    cases h1 : ma ρ S with
    | none => rw [h1] at e; cases e
    | some p =>
      obtain ⟨w1, S1⟩ := p
      rw [h1, Option.bind_some] at e
      cases h2 : mb ρ S1 with
      | none => simp only [h2] at e; cases e
      | some p2 =>
        obtain ⟨w2, S2⟩ := p2
        simp only [h2, Option.bind_some] at e
        refine ⟨μ, S, ρ, w1, S1, ok, en, h1, fun v1 H1 μ1 st1 r1 => ⟨μ1, S1, ρ, w2, S2, st1.sto, en.step ok st1, h2, fun v2 H2 μ2 st2 r2 => ?_⟩⟩
        have st12 := st1.trans ok st2
        have k12 := st12.keeps ok
        split at e
        · rename_i x n k hk
          split at e
          · rename_i xs hxs
            cases hj : ixN xs.length k with
            | none => rw [hj] at e; cases e
            | some j =>
              rw [hj, Option.bind_some] at e
              cases e
              cases r1 with | @m _ c1 hm =>
              obtain ⟨c, vs, hc, hH, hl⟩ := st2.sto.cell n xs hxs
              have hm2 : μ2[n]? = some c1 := by
                obtain ⟨r, hr⟩ := st2.pre
                rw [← hr, List.getElem?_append_left (List.getElem?_eq_some_iff.mp hm).1]; exact hm
              rw [hm2] at hc; cases hc
              have rx : Rep X.K H2 x v := by cases rw with | d rw => exact rw.mono k12
              refine ⟨_, vs, k, j, rfl, asInt_of r2 hk, hH, by rw [← hl.length]; exact hj, ?_⟩
              have st3 := Stp.put st2.sto hxs hm2 hH (hl.set j rx)
              exact q σ _ μ2 (st12.trans ok st3) (en.step ok (st12.trans ok st3)) .refl
          · cases e
        · cases e
end

/-! ### statements -/
inductive Fl where
  | nx | bk | ct
  | rt (w : W)
  /-- an exception of a class of the program leaves: its class's name, its fields -/
  | ex (n : Str) (as : List (Str × PyData))
abbrev CS := Rho → Sto → Option (Fl × Rho × Sto)
/-- the fields of an exception, in its own dict -/
inductive Flds (K : PySem.W.Frag) (H : Hp) : List (Str × PyData) → List (Str × V) → Prop
  | nil : Flds K H [] []
  | cons {f : Str} {x : PyData} {v : V} {as : List (Str × PyData)} {fs : List (Str × V)} : Rep K H x v → Flds K H as fs → Flds K H ((f, x) :: as) ((f, v) :: fs)
/-- an exception: its class, its own dict (none: it has none) -/
def ExRep (K : PySem.W.Frag) (mg : Str → Option Value) (H : Hp) (n : Str) (as : List (Str × PyData)) (cls : Value) (d : Option Addr) : Prop :=
  ∃ C, mg n = some (.ref C) ∧ cls = .ref C ∧ ((as = [] ∧ d = none) ∨ ∃ dd fs, d = some dd ∧ H dd = some (.xd fs) ∧ Flds K H as fs)
/-- what X wants of an exception, told by its class, its dict, the slots and the heap -/
def WOf (X : Cx) : WX := fun cls d σ H => ∀ u s', XE X (fun c' d' σ' H' => c' = cls ∧ d' = d ∧ σ' = σ ∧ H' = H) u s' → X.xe u s'
theorem takes_WOf (X : Cx) : Takes X (WOf X) := fun u s' ⟨a, B, sI, pins, σ, H, cls, d, e, I, nb, up, sky, na, os, ag, w⟩ =>
  w u s' ⟨a, B, sI, pins, σ, H, cls, d, e, I, nb, up, sky, na, os, ag, rfl, rfl, rfl, rfl⟩
theorem WOf_of {X : Cx} {W : WX} (tk : Takes X W) {cls : Value} {d : Option Addr} {σ : L2.St} {H : Hp} (h : W cls d σ H) : WOf X cls d σ H := fun u s' x =>
  tk u s' (let ⟨a, B, sI, pins, σ1, H1, c1, d1, e, I, nb, up, sky, na, os, ag, e1, e2, e3, e4⟩ := x
    ⟨a, B, sI, pins, σ1, H1, c1, d1, e, I, nb, up, sky, na, os, ag, by rw [e1, e2, e3, e4]; exact h⟩)
def Goes (X : Cx) (D : Ends) (μ : List Addr) (σ : L2.St) (H : Hp) : Fl → Prop
  | .nx => D.nx σ H
  | .bk => D.bk σ H
  | .ct => D.ct σ H
  | .rt w => ∀ v, WRep X.K H μ w v → D.rt v H
  | .ex n as => ∀ cls d, ExRep X.K X.mg H n as cls d → WOf X cls d σ H
def rdS (X : Cx) (m : CS) : TS := fun D σ H => ∃ μ S ρ fl ρ' S', StoOk X.K H μ S ∧ EnvOk X.K H μ ρ σ ∧ m ρ S = some (fl, ρ', S') ∧ ∀ σ' H' μ', Stp X.K μ S H μ' S' H' → EnvOk X.K H' μ' ρ' σ' → Goes X D μ' σ' H' fl
abbrev SS (X : Cx) (st : Stmt) (m : CS) : Prop := PS X st (rdS X m)
abbrev SSs (X : Cx) (st : List Stmt) (m : CS) : Prop := PSs X st (rdS X m)
def nilS : CS := fun ρ S => some (.nx, ρ, S)
def seqS (a b : CS) : CS := fun ρ S => (a ρ S).bind fun p => match p.1 with
  | .nx => b p.2.1 p.2.2
  | f => some (f, p.2.1, p.2.2)
def brkS : CS := fun ρ S => some (.bk, ρ, S)
def cntS : CS := fun ρ S => some (.ct, ρ, S)
def stuckS : CS := fun _ _ => none
def exprS (a : CE) : CS := fun ρ S => (a ρ S).bind fun p => some (.nx, ρ, p.2)
def ifS (t : CB) (a b : CS) : CS := fun ρ S => (t ρ S).bind fun p => if p.1 = true then a ρ p.2 else b ρ p.2
def asgS (a : CE) (g : CG) : CS := fun ρ S => (a ρ S).bind fun p => (g p.1 ρ p.2).bind fun q => some (.nx, q.1, q.2)
/-- a list in a cell that is handed back becomes plain data -/
def thaw (keep : Bool) : W → Sto → Option (W × Sto)
  | .d x, S => some (.d x, S)
  | .m n, S => if keep = true then some (.m n, S) else match S[n]? with
    | some (some xs) => some (.d (.list xs), S.set n none)
    | _ => none
/-- a list in a cell that goes into a display becomes plain data -/
def frzE (a : CE) : CE := fun ρ S => (a ρ S).bind fun p => thaw false p.1 p.2
def retS (keep : Bool) (a : CE) : CS := fun ρ S => (a ρ S).bind fun p => (thaw keep p.1 p.2).bind fun q => some (.rt q.1, ρ, q.2)
def retNS : CS := fun ρ S => some (.rt (.d .none), ρ, S)
def parS (i j : Nat) (l : CL) : CS := fun ρ S => (l ρ S).bind fun p => match p.1 with
  | [v, w] => some (.nx, (ρ.set i (some v)).set j (some w), p.2)
  | _ => none
def par3S (i j k : Nat) (l : CL) : CS := fun ρ S => (l ρ S).bind fun p => match p.1 with
  | [u, v, w] => some (.nx, ((ρ.set i (some u)).set j (some v)).set k (some w), p.2)
  | _ => none
def forN (g : CG) (b : CS) : List PyData → CS
  | [], ρ, S => some (.nx, ρ, S)
  | x :: xs, ρ, S => (g (.d x) ρ S).bind fun p => (b p.1 p.2).bind fun q => match q.1 with
    | .nx => forN g b xs q.2.1 q.2.2
    | .ct => forN g b xs q.2.1 q.2.2
    | .bk => some (.nx, q.2.1, q.2.2)
    | .rt w => some (.rt w, q.2.1, q.2.2)
    | .ex n as => some (.ex n as, q.2.1, q.2.2)
def forS (it : CI) (g : CG) (b : CS) : CS := fun ρ S => (it ρ S).bind fun p => forN g b p.1 ρ p.2
def whileN (t : CB) (b : CS) : Nat → CS
  | 0, _, _ => none
  | n + 1, ρ, S => (t ρ S).bind fun p => if p.1 = true then (b ρ p.2).bind fun q => match q.1 with
    | .nx => whileN t b n q.2.1 q.2.2
    | .ct => whileN t b n q.2.1 q.2.2
    | .bk => some (.nx, q.2.1, q.2.2)
    | .rt w => some (.rt w, q.2.1, q.2.2)
    | .ex n as => some (.ex n as, q.2.1, q.2.2)
    else some (.nx, ρ, p.2)
def fuel : Nat := 2 ^ 20000
def whileS (t : CB) (b : CS) : CS := whileN t b fuel
section
variable {X : Cx} {st : Stmt} {sts b1 b2 : List Stmt} {e c iter tg : Expr} {es : List Expr} {m n : CS} {me : CE} {mt : CB} {ml : CL} {pos : Pos} {g : CG} {vs : List Nat} {ci : CI}
theorem ss_nil : SSs X [] nilS := PSs.imp pss_nil fun D σ H ⟨μ, S, ρ, fl, ρ', S', ok, en, e, q⟩ => by cases e; exact q σ H μ (.refl ok) en
theorem ss_pass : SS X (.Pass pos) nilS := PS.imp ps_pass fun D σ H ⟨μ, S, ρ, fl, ρ', S', ok, en, e, q⟩ => by cases e; exact q σ H μ (.refl ok) en
theorem ss_break : SS X (.Break pos) brkS := PS.imp ps_break fun D σ H ⟨μ, S, ρ, fl, ρ', S', ok, en, e, q⟩ => by cases e; exact q σ H μ (.refl ok) en
theorem ss_continue : SS X (.Continue pos) cntS := PS.imp ps_continue fun D σ H ⟨μ, S, ρ, fl, ρ', S', ok, en, e, q⟩ => by cases e; exact q σ H μ (.refl ok) en
theorem ss_stuck : SS X st stuckS := PS.imp ps_never fun D σ H ⟨μ, S, ρ, fl, ρ', S', ok, en, e, q⟩ => by cases e
theorem ss_cons (h1 : SS X st m) (h2 : SSs X sts n) : SSs X (st :: sts) (seqS m n) := PSs.imp (pss_cons h1 h2) fun D σ H ⟨μ, S, ρ, fl, ρ', S', ok, en, e, q⟩ => by
  unfold seqS at e
  cases hx : m ρ S with
  | none => rw [hx] at e; cases e
  | some p =>
    obtain ⟨f, ρ1, S1⟩ := p
    rw [hx, Option.bind_some] at e
    refine ⟨μ, S, ρ, f, ρ1, S1, ok, en, hx, fun σ1 H1 μ1 st1 en1 => ?_⟩
    cases f with
    | nx => exact ⟨μ1, S1, ρ1, fl, ρ', S', st1.sto, en1, e, fun σ2 H2 μ2 st2 en2 => q σ2 H2 μ2 (st1.trans ok st2) en2⟩
    | bk => cases e; exact q σ1 H1 μ1 st1 en1
    | ct => cases e; exact q σ1 H1 μ1 st1 en1
    | rt w => cases e; exact q σ1 H1 μ1 st1 en1
    | ex n as => cases e; exact q σ1 H1 μ1 st1 en1
theorem ss_expr (h : SE X e me) (hs : swapsWith e none pos.line X.env = pure false) : SS X (.Expr e pos) (exprS me) := PS.imp (ps_expr h hs) fun D σ H ⟨μ, S, ρ, fl, ρ', S', ok, en, e, q⟩ => by
  unfold exprS at e
  cases hx : me ρ S with
  | none => rw [hx] at e; cases e
  | some p =>
    rw [hx, Option.bind_some] at e
    cases e
    exact ⟨μ, S, ρ, p.1, p.2, ok, en, hx, fun v H1 μ1 st1 r1 => q σ H1 μ1 st1 (en.step ok st1)⟩
theorem ss_if (h : SB X c mt) (h1 : SSs X b1 m) (h2 : SSs X b2 n) : SS X (.If c b1 b2 pos) (ifS mt m n) := PS.imp (ps_if h h1 h2) fun D σ H ⟨μ, S, ρ, fl, ρ', S', ok, en, e, q⟩ => by
  unfold ifS at e
  cases hx : mt ρ S with
  | none => rw [hx] at e; cases e
  | some p =>
    obtain ⟨k, S1⟩ := p
    rw [hx, Option.bind_some] at e
    refine ⟨μ, S, ρ, k, S1, ok, en, hx, fun H1 μ1 st1 => ?_⟩
    cases k with
    | true => exact ⟨μ1, S1, ρ, fl, ρ', S', st1.sto, en.step ok st1, e, fun σ2 H2 μ2 st2 en2 => q σ2 H2 μ2 (st1.trans ok st2) en2⟩
    | false => exact ⟨μ1, S1, ρ, fl, ρ', S', st1.sto, en.step ok st1, e, fun σ2 H2 μ2 st2 en2 => q σ2 H2 μ2 (st1.trans ok st2) en2⟩
theorem rd_asg {D : Ends} {σ : L2.St} {H : Hp} (h : rdS X (asgS me g) D σ H) : rdE X.K me σ H fun x H1 => rdG X.K g vs x σ H1 D.nx := by
  obtain ⟨μ, S, ρ, fl, ρ', S', ok, en, e, q⟩ := h
  unfold asgS at e
  cases hx : me ρ S with
  | none => rw [hx] at e; cases e
  | some p =>
    obtain ⟨w, S1⟩ := p
    rw [hx, Option.bind_some] at e
    cases hy : g w ρ S1 with
    | none => simp only [hy] at e; cases e
    | some p2 =>
      obtain ⟨ρ2, S2⟩ := p2
      simp only [hy, Option.bind_some] at e
      cases e
      exact ⟨μ, S, ρ, w, S1, ok, en, hx, fun v H1 μ1 st1 r1 => ⟨μ1, S1, ρ, w, _, _, st1.sto, en.step ok st1, r1, hy, fun σ2 H2 μ2 st2 en2 _ => q σ2 H2 μ2 (st1.trans ok st2) en2⟩⟩
theorem ss_asg (h : SE X e me) (hg : SG X tg g vs) (hs : swapsWithSole [tg] e pos.line X.env = pure false) (hw : swappedStores [tg] e X.env = pure none) (h1 : (assignEach [tg] X.env).map (·.2) = [assign tg X.env]) : SS X (.Assign [tg] e pos) (asgS me g) :=
  PS.imp (ps_asg h hg hs hw h1) fun D σ H q => rd_asg q
theorem ss_ret {keep : Bool} (h : SE X e me) : SS X (.Return (some e) pos) (retS keep me) := PS.imp (ps_ret (pe_fz h)) fun D σ H ⟨μ, S, ρ, fl, ρ', S', ok, en, e, q⟩ => by
  unfold retS at e
  cases hx : me ρ S with
  | none => rw [hx] at e; cases e
  | some p =>
    obtain ⟨w, S1⟩ := p
    rw [hx, Option.bind_some] at e
    cases ht : thaw keep w S1 with
    | none => simp only [ht] at e; cases e
    | some p2 =>
      obtain ⟨w2, S2⟩ := p2
      simp only [ht, Option.bind_some] at e
      cases e
      refine ⟨μ, S, ρ, w, S1, ok, en, hx, fun v H1 μ1 st1 r1 => ?_⟩
      cases w with
      | d x =>
        have ht' : some (W.d x, S1) = some (w2, S') := ht
        cases ht'
        exact .inr (q σ H1 μ1 st1 (en.step ok st1) v r1)
      | m n =>
        have ht' : (if keep = true then some (W.m n, S1) else match S1[n]? with
          | some (some xs) => some (.d (.list xs), S1.set n none)
          | _ => none) = some (w2, S') := ht
        split at ht'
        · cases ht'
          exact .inr (q σ H1 μ1 st1 (en.step ok st1) v r1)
        · cases hxs : S1[n]? with
          | none => rw [hxs] at ht'; cases ht'
          | some z =>
            cases z with
            | none => rw [hxs] at ht'; cases ht'
            | some xs =>
              rw [hxs] at ht'
              cases ht'
              cases r1 with | m hm =>
              obtain ⟨c, us, hc, hH, hl⟩ := st1.sto.cell n xs hxs
              rw [hm] at hc; cases hc
              refine .inl ⟨_, us, rfl, hH, fun o => ?_⟩
              have st2 := Stp.freeze st1.sto hxs hm hH o
              have st12 := st1.trans ok st2
              refine q σ _ μ1 st12 (en.step ok st12) _ (.d (.lst (.inl ⟨o, upd_same⟩) (hl.mono (st2.keeps st1.sto))))
theorem se_frz (h : SE X e me) : SE X e (frzE me) := PE.imp (pe_fz h) fun σ H Q ⟨μ, S, ρ, w2, S2, ok, en, e, q⟩ => by
  unfold frzE at e
  cases hx : me ρ S with
  | none => rw [hx] at e; cases e
  | some p =>
    obtain ⟨w, S1⟩ := p
    rw [hx, Option.bind_some] at e
    refine ⟨μ, S, ρ, w, S1, ok, en, hx, fun v H1 μ1 st1 r1 => ?_⟩
    cases w with
    | d x =>
      have e' : some (W.d x, S1) = some (w2, S2) := e
      cases e'
      exact .inr (q v H1 μ1 st1 r1)
    | m n =>
      have e' : (match S1[n]? with
        | some (some xs) => some (.d (.list xs), S1.set n none)
        | _ => none) = some (w2, S2) := e
      cases hxs : S1[n]? with
      | none => rw [hxs] at e'; cases e'
      | some z =>
        cases z with
        | none => rw [hxs] at e'; cases e'
        | some xs =>
          rw [hxs] at e'
          cases e'
          cases r1 with | m hm =>
          obtain ⟨c, us, hc, hH, hl⟩ := st1.sto.cell n xs hxs
          rw [hm] at hc; cases hc
          refine .inl ⟨_, us, rfl, hH, fun o => ?_⟩
          have st2 := Stp.freeze st1.sto hxs hm hH o
          exact q _ _ μ1 (st1.trans ok st2) (.d (.lst (.inl ⟨o, upd_same⟩) (hl.mono (st2.keeps st1.sto))))
theorem ss_retN : SS X (.Return none pos) retNS := PS.imp ps_retN fun D σ H ⟨μ, S, ρ, fl, ρ', S', ok, en, e, q⟩ => by
  cases e
  exact q σ H μ (.refl ok) en _ (.d .non)
theorem ss_par {i j : Nat} {x y : Str} {a b : Expr} {px py pt : Pos} {kt k2 : Nat} {pt2 : Pos} (hc : X.calm = true) (hN : X.N.Nodup) (hi : X.N[i]? = some x) (hj : X.N[j]? = some y) (hij : i ≠ j)
    (hx : X.env.scope.names.lookup x = some .local) (hy : X.env.scope.names.lookup y = some .local) (ha : SL X [a, b] ml)
    (hw : swappedStores [.Tuple [.Name x px, .Name y py] kt pt] (.Tuple [a, b] k2 pt2) X.env = pure (some [x, y])) :
    SS X (.Assign [.Tuple [.Name x px, .Name y py] kt pt] (.Tuple [a, b] k2 pt2) pos) (parS i j ml) :=
  PS.imp (ps_par hc hN hi hj hij hx hy ha hw) fun D σ H ⟨μ, S, ρ, fl, ρ', S', ok, en, e, q⟩ => by
    unfold parS at e
    cases hx : ml ρ S with
    | none => rw [hx] at e; cases e
    | some p =>
      obtain ⟨ws, S1⟩ := p
      rw [hx, Option.bind_some] at e
      refine ⟨μ, S, ρ, ws, S1, ok, en, hx, fun vs H1 μ1 st1 r1 => ?_⟩
      simp only at e
      split at e
      · cases e
        cases r1 with | cons r1 l1 =>
        cases l1 with | cons r2 l2 =>
        cases l2
        exact ⟨_, _, rfl, q _ H1 μ1 st1 (((en.step ok st1).set i r1).set j r2)⟩
      · cases e
/-- two names, of which one may be kept in a cell of its own (a function's variable that an inner one reads): by a pair -/
theorem ss_parC {i j : Nat} {x y : Str} {a b : Expr} {px py pt : Pos} {kt k2 : Nat} {pt2 : Pos} (hc : X.calm = true) (hN : X.N.Nodup) (hi : X.N[i]? = some x) (hj : X.N[j]? = some y)
    (hx : Loc X.env.scope x) (hfx : X.fn x = true ∨ X.env.scope.names.lookup x = some .local) (hy : Loc X.env.scope y) (hfy : X.fn y = true ∨ X.env.scope.names.lookup y = some .local) (ha : SL X [a, b] ml)
    (hs : swapsWithSole [.Tuple [.Name x px, .Name y py] kt pt] (.Tuple [a, b] k2 pt2) pos.line X.env = pure false)
    (hw : swappedStores [.Tuple [.Name x px, .Name y py] kt pt] (.Tuple [a, b] k2 pt2) X.env = pure none) :
    SS X (.Assign [.Tuple [.Name x px, .Name y py] kt pt] (.Tuple [a, b] k2 pt2) pos) (parS i j ml) :=
  PS.imp (ps_asg (pe_tup ha) (pg_tup (n := 2) hc (pgs_cons (pg_name hN hi hx hfx) (pgs_cons (pg_name hN hj hy hfy) pgs_nil)) rfl rfl) hs hw rfl) fun D σ H ⟨μ, S, ρ, fl, ρ', S', ok, en, e, q⟩ => by
    unfold parS at e
    cases hx : ml ρ S with
    | none => rw [hx] at e; cases e
    | some p =>
      obtain ⟨ws, S1⟩ := p
      rw [hx, Option.bind_some] at e
      refine ⟨μ, S, ρ, ws, S1, ok, en, hx, fun vs H1 μ1 st1 r1 => ?_⟩
      simp only at e
      split at e
      · cases e
        cases r1 with | cons r1 l1 =>
        cases l1 with | cons r2 l2 =>
        cases l2
        refine ⟨by show 2 ≤ sizeLine; decide, fun p hp => ⟨p, _, rfl, (show TpT X.K _ p _ from .inl upd_same).sq, rfl, _, _, rfl, _, _, rfl, rfl, ?_⟩⟩
        have en1 := ((en.step ok st1).set i r1).set j r2
        exact q _ _ μ1 (st1.trans ok (.new st1.sto hp)) (en1.step st1.sto (.new st1.sto hp))
      · cases e
theorem ss_par3 {i j k : Nat} {x y z : Str} {a b c : Expr} {px py pz pt : Pos} {kt k2 : Nat} {pt2 : Pos} (hc : X.calm = true) (hN : X.N.Nodup) (hi : X.N[i]? = some x) (hj : X.N[j]? = some y) (hk : X.N[k]? = some z) (hij : i ≠ j) (hik : i ≠ k) (hjk : j ≠ k)
    (hx : X.env.scope.names.lookup x = some .local) (hy : X.env.scope.names.lookup y = some .local) (hz : X.env.scope.names.lookup z = some .local) (ha : SL X [a, b, c] ml)
    (hw : swappedStores [.Tuple [.Name x px, .Name y py, .Name z pz] kt pt] (.Tuple [a, b, c] k2 pt2) X.env = pure (some [x, y, z])) :
    SS X (.Assign [.Tuple [.Name x px, .Name y py, .Name z pz] kt pt] (.Tuple [a, b, c] k2 pt2) pos) (par3S i j k ml) :=
  PS.imp (ps_par3 hc hN hi hj hk hij hik hjk hx hy hz ha hw) fun D σ H ⟨μ, S, ρ, fl, ρ', S', ok, en, e, q⟩ => by
    unfold par3S at e
    cases hx : ml ρ S with
    | none => rw [hx] at e; cases e
    | some p =>
      obtain ⟨ws, S1⟩ := p
      rw [hx, Option.bind_some] at e
      refine ⟨μ, S, ρ, ws, S1, ok, en, hx, fun vs H1 μ1 st1 r1 => ?_⟩
      simp only at e
      split at e
      · cases e
        cases r1 with | cons r1 l1 =>
        cases l1 with | cons r2 l2 =>
        cases l2 with | cons r3 l3 =>
        cases l3
        exact ⟨_, _, _, rfl, q _ H1 μ1 st1 ((((en.step ok st1).set i r1).set j r2).set k r3)⟩
      · cases e
theorem ss_for (hp : PassesOwn (model X.prog X.w) X.A X.env X.xe) (hc : X.calm = true) (hi : SI X tg iter ci) (hg : SG X tg g vs) (hb : SSs X b1 m) (hs : ∀ x, foldedSetIterable iter X.env x = pure x) : SS X (.For tg iter b1 [] pos) (forS ci g m) :=
  PS.imp (ps_for hp hc hi hg hb hs) fun D σ H ⟨μ, S, ρ, fl, ρ', S', ok, en, e, q⟩ => by
    unfold forS at e
    cases hx : ci ρ S with
    | none => rw [hx] at e; cases e
    | some p =>
      obtain ⟨xs, S1⟩ := p
      rw [hx, Option.bind_some] at e
      refine ⟨μ, S, ρ, xs, S1, ok, en, hx, fun J H1 μ1 st1 yl => ?_⟩
      refine ⟨fun i mm σi Hi => mm + i = xs.length ∧ ∃ μi Si ρi, Stp X.K μ1 S1 H1 μi Si Hi ∧ EnvOk X.K Hi μi ρi σi ∧ forN g m (xs.drop i) ρi Si = some (fl, ρ', S'), ⟨xs.length, by omega, μ1, S1, ρ, .refl st1.sto, en.step ok st1, by simpa using e⟩, ?_⟩
      rintro i mm σi Hi ⟨hm, μi, Si, ρi, sti, eni, ei⟩
      have y := yl Hi sti.ext i
      cases hget : xs[i]? with
      | none =>
        refine .inl ⟨y.2 hget, ?_⟩
        have hl : xs.length ≤ i := List.getElem?_eq_none_iff.mp hget
        rw [List.drop_eq_nil_of_le hl] at ei
        unfold forN at ei
        cases ei
        exact q σi Hi μi (st1.trans ok sti) eni
      | some x =>
        have hl : i < xs.length := (List.getElem?_eq_some_iff.mp hget).1
        obtain ⟨go, yd⟩ := y.1 x hget
        rw [List.drop_eq_getElem_cons hl] at ei
        have ex : xs[i] = x := (List.getElem?_eq_some_iff.mp hget).2
        rw [ex] at ei
        unfold forN at ei
        cases hgx : g (.d x) ρi Si with
        | none => rw [hgx] at ei; cases ei
        | some pg =>
          obtain ⟨ρg, Sg⟩ := pg
          rw [hgx, Option.bind_some] at ei
          cases hbx : m ρg Sg with
          | none => simp only [hbx] at ei; cases ei
          | some pb =>
            obtain ⟨fb, ρb, Sb⟩ := pb
            simp only [hbx, Option.bind_some] at ei
            refine .inr ⟨go, fun σn Hn => ∃ μn Sn ρn, Stp X.K μ1 S1 H1 μn Sn Hn ∧ EnvOk X.K Hn μn ρn σn ∧ forN g m (xs.drop (i + 1)) ρn Sn = some (fl, ρ', S'), fun σn Hn z => ⟨mm - 1, by omega, by omega, z⟩, fun v Hv yv => ?_⟩
            obtain ⟨kv, rv⟩ := yd v Hv yv
            have stv := sti.trans st1.sto (Stp.same sti.sto kv)
            refine ⟨μi, Si, ρi, .d x, ρg, Sg, stv.sto, eni.step sti.sto (Stp.same sti.sto kv), .d rv, hgx, fun σ2 H2 μ2 st2 en2 _ => ?_⟩
            refine ⟨μ2, Sg, ρg, fb, ρb, Sb, st2.sto, en2, hbx, fun σ3 H3 μ3 st3 en3 => ?_⟩
            have stt := stv.trans st1.sto (st2.trans stv.sto st3)
            cases fb with
            | nx => exact ⟨μ3, Sb, ρb, stt, en3, ei⟩
            | ct => exact ⟨μ3, Sb, ρb, stt, en3, ei⟩
            | bk => cases ei; exact q σ3 H3 μ3 (st1.trans ok stt) en3
            | rt w => cases ei; exact q σ3 H3 μ3 (st1.trans ok stt) en3
            | ex n as => cases ei; exact q σ3 H3 μ3 (st1.trans ok stt) en3
theorem ss_while (hp : PassesOwn (model X.prog X.w) X.A X.env X.xe) (hc : SB X c mt) (hb : SSs X b1 m) : SS X (.While c b1 [] pos) (whileS mt m) :=
  PS.imp (ps_while hp hc hb) fun D σ H ⟨μ, S, ρ, fl, ρ', S', ok, en, e, q⟩ => by
    unfold whileS at e
    refine ⟨fun k σi Hi => ∃ μi Si ρi, Stp X.K μ S H μi Si Hi ∧ EnvOk X.K Hi μi ρi σi ∧ whileN mt m k ρi Si = some (fl, ρ', S'), ⟨fuel, μ, S, ρ, .refl ok, en, e⟩, ?_⟩
    rintro k σi Hi ⟨μi, Si, ρi, sti, eni, ei⟩
    cases k with
    | zero => unfold whileN at ei; cases ei
    | succ k =>
      unfold whileN at ei
      cases hx : mt ρi Si with
      | none => rw [hx] at ei; cases ei
      | some p =>
        obtain ⟨b, S1⟩ := p
        rw [hx, Option.bind_some] at ei
        refine ⟨μi, Si, ρi, b, S1, sti.sto, eni, hx, fun H1 μ1 st1 => ?_⟩
        have st01 := sti.trans ok st1
        cases b with
        | false =>
          simp only [Bool.false_eq_true, if_false] at ei ⊢
          cases ei
          exact q σi H1 μ1 st01 (eni.step sti.sto st1)
        | true =>
          simp only [if_true] at ei ⊢
          cases hbx : m ρi S1 with
          | none => simp only [hbx] at ei; cases ei
          | some pb =>
            obtain ⟨fb, ρb, Sb⟩ := pb
            simp only [hbx, Option.bind_some] at ei
            refine ⟨fun σn Hn => ∃ μn Sn ρn, Stp X.K μ S H μn Sn Hn ∧ EnvOk X.K Hn μn ρn σn ∧ whileN mt m k ρn Sn = some (fl, ρ', S'), fun σn Hn z => ⟨k, Nat.lt_succ_self _, z⟩, ?_⟩
            refine ⟨μ1, S1, ρi, fb, ρb, Sb, st1.sto, eni.step sti.sto st1, hbx, fun σ3 H3 μ3 st3 en3 => ?_⟩
            have stt := st01.trans ok st3
            cases fb with
            | nx => exact ⟨μ3, Sb, ρb, stt, en3, ei⟩
            | ct => exact ⟨μ3, Sb, ρb, stt, en3, ei⟩
            | bk => cases ei; exact q σ3 H3 μ3 stt en3
            | rt w => cases ei; exact q σ3 H3 μ3 stt en3
            | ex n as => cases ei; exact q σ3 H3 μ3 stt en3
end
end PD

/-! PD, part 5: comprehensions, methods of lists, calls of defs, a def by its body. -/
namespace PD
open PySem PySem.Spec PyProof.Rows L2 RZ RT

/-! ### comprehensions -/
section
variable {K : PySem.W.Frag} {H H' : Hp} {μ μ' : List Addr} {S S' : Sto}
/-- something that is not the store's changes -/
theorem Stp.other (s : Stp K μ S H μ' S' H') {D : Addr} {vs : List V} (o : HO) (h : H D = none) (n : D ∉ μ') (g : H' D = some (.lst vs)) : Stp K μ S H μ' S' (upd H' D o) where
  pre := s.pre
  sto := by
    have kp : Keeps H' (upd H' D o) := fun b u e i => by
      rw [upd_ne (fun z => by subst z; rw [g] at e; cases e; exact i)]; exact e
    have ne : ∀ a ∈ μ', a ≠ D := fun a m z => n (z ▸ m)
    refine ⟨s.sto.len, s.sto.nd, fun a m => ?_, fun k xs e => ?_⟩
    · obtain ⟨u, e⟩ := s.sto.there a m
      exact ⟨u, by rw [upd_ne (ne a m)]; exact e⟩
    · obtain ⟨a, ws, h1, h2, h3⟩ := s.sto.cell k xs e
      exact ⟨a, ws, h1, by rw [upd_ne (ne a (List.mem_of_getElem? h1))]; exact h2, h3.mono kp⟩
  ext := fun a u e nl => by
    rw [upd_ne (ne_of_none e h)]
    exact s.ext a u e nl
  fresh := s.fresh
  dead := s.dead
end
def lcN (g : CG) (t : CB) (elt : CE) (ρ : Rho) : List PyData → Sto → Option (List PyData × Sto)
  | [], S => some ([], S)
  | x :: xs, S => (g (.d x) ρ S).bind fun p => (t p.1 p.2).bind fun b => if b.1 = true then (elt p.1 b.2).bind fun y => match y.1 with
      | .d d => (lcN g t elt ρ xs y.2).bind fun r => some (d :: r.1, r.2)
      | .m _ => none
    else lcN g t elt ρ xs b.2
def lcE (own : List Nat) (mu : Bool) (ci : CI) (g : CG) (t : CB) (elt : CE) : CE := fun ρ S => (ci ρ S).bind fun p => if p.1.length ≤ lim then (lcN g t elt (wipeR ρ own) p.1 p.2).bind fun q =>
  if mu = true then some (.m q.2.length, q.2 ++ [some q.1]) else some (.d (.list q.1), q.2) else none
def yesB : CB := fun _ S => some (true, S)
theorem lcN_len {g : CG} {t : CB} {elt : CE} {ρ : Rho} : ∀ {xs : List PyData} {S : Sto} {q : List PyData × Sto}, lcN g t elt ρ xs S = some q → q.1.length ≤ xs.length
  | [], S, q, h => by cases h; exact Nat.le_refl _
  | x :: xs, S, q, h => by
    unfold lcN at h
    cases h1 : g (.d x) ρ S with
    | none => rw [h1] at h; cases h
    | some p =>
      rw [h1, Option.bind_some] at h
      cases h2 : t p.1 p.2 with
      | none => rw [h2] at h; cases h
      | some b =>
        rw [h2, Option.bind_some] at h
        split at h
        · cases h3 : elt p.1 b.2 with
          | none => rw [h3] at h; cases h
          | some y =>
            rw [h3, Option.bind_some] at h
            split at h
            · cases h4 : lcN g t elt ρ xs y.2 with
              | none => rw [h4] at h; cases h
              | some r =>
                rw [h4, Option.bind_some] at h
                cases h
                exact Nat.succ_le_succ (lcN_len h4)
            · cases h
        · exact Nat.le_succ_of_le (lcN_len h)
theorem rd_lc {K : PySem.W.Frag} {own vs : List Nat} {mu : Bool} {ci : CI} {g : CG} {t : CB} {elt : CE} {σ : L2.St} {H : Hp} {Q : VK} (hv : ∀ i ∈ vs, i ∈ own) (h : rdE K (lcE own mu ci g t elt) σ H Q) :
    tLc (rdI K ci) (rdG K g vs) (rdB K t) (rdE K elt) own σ H (QFz Q) := by
  obtain ⟨μ, S, ρ, w, S', ok, en, e, q⟩ := h
  unfold lcE at e
  cases hx : ci ρ S with
  | none => rw [hx] at e; cases e
  | some p =>
    obtain ⟨xs, S1⟩ := p
    rw [hx, Option.bind_some] at e
    split at e
    rotate_left
    · cases e
    · rename_i hz
      have hzx : xs.length ≤ lim := hz
      cases hl : lcN g t elt (wipeR ρ own) xs S1 with
      | none => simp only at e; rw [hl] at e; cases e
      | some r =>
        obtain ⟨ys, S2⟩ := r
        simp only at e
        rw [hl, Option.bind_some] at e
        refine ⟨μ, S, ρ, xs, S1, ok, en, hx, fun J H1 μ1 st1 yl D hD => ?_⟩
        refine ⟨fun i mm Hi => mm + i = xs.length ∧ ∃ μi Si acc av zs, Stp K μ1 S1 H1 μi Si Hi ∧ D ∉ μi ∧ Hi D = some (.lst av) ∧ RepL K Hi acc av ∧ acc.length ≤ i ∧ lcN g t elt (wipeR ρ own) (xs.drop i) Si = some (zs, S2) ∧ acc ++ zs = ys,
          ⟨xs.length, by omega, μ1, S1, [], [], ys, Stp.new st1.sto hD, fun m => ?_, upd_same, .nil, Nat.zero_le _, by simpa using hl, rfl⟩, ?_⟩
        · obtain ⟨o, z⟩ := st1.sto.there D m; rw [hD] at z; cases z
        rintro i mm Hi ⟨hm, μi, Si, acc, av, zs, sti, nD, hDi, ra, hlen, ei, eq⟩
        have y := yl Hi sti.ext i
        have st1i := st1.trans ok sti
        cases hget : xs[i]? with
        | none =>
          have hli : xs.length ≤ i := List.getElem?_eq_none_iff.mp hget
          rw [List.drop_eq_nil_of_le hli] at ei
          unfold lcN at ei
          cases ei
          rw [List.append_nil] at eq
          subst eq
          refine .inl ⟨y.2 hget, ?_⟩
          split at e
          · cases e
            -- a cell
            have hp : H D = none := by
              cases z : H D with
              | none => rfl
              | some o =>
                by_cases lv : Live μ S D
                · obtain ⟨k, us, h1, h2⟩ := lv
                  have hm1 : D ∈ μ1 := st1.pre.subset (List.mem_of_getElem? h1)
                  obtain ⟨o', z'⟩ := st1.sto.there D hm1
                  rw [hD] at z'; cases z'
                · rw [st1.ext D o z lv] at hD; cases hD
            refine .inr (q _ Hi (μi ++ [D]) ⟨st1i.pre.trans ⟨[D], rfl⟩, ?_, st1i.ext, fun a m => ?_, fun k z => ?_⟩ (.m ?_))
            · refine ⟨by simp [sti.sto.len], ?_, fun a m => ?_, fun k us z => ?_⟩
              · rw [List.nodup_append]
                exact ⟨sti.sto.nd, by simp, fun a ha b hb e => by simp at hb; subst hb; subst e; exact nD ha⟩
              · rcases List.mem_append.mp m with m | m
                · exact sti.sto.there a m
                · simp at m; subst m; exact ⟨_, hDi⟩
              · by_cases hk : k < S2.length
                · rw [List.getElem?_append_left hk] at z
                  obtain ⟨a, ws, h1, h2, h3⟩ := sti.sto.cell k us z
                  exact ⟨a, ws, by rw [List.getElem?_append_left (by rw [sti.sto.len]; exact hk)]; exact h1, h2, h3⟩
                · rw [List.getElem?_append_right (Nat.le_of_not_lt hk)] at z
                  have e0 : k - S2.length = 0 := by
                    have := (List.getElem?_eq_some_iff.mp z).1
                    simp at this; omega
                  rw [e0] at z
                  simp at z; subst z
                  exact ⟨D, av, by rw [List.getElem?_append_right (by rw [sti.sto.len]; omega), sti.sto.len, e0]; rfl, hDi, ra⟩
            · rcases List.mem_append.mp m with m | m
              · exact st1i.fresh a m
              · simp at m; subst m; exact .inr hp
            · have := st1i.dead k z
              rw [List.getElem?_append_left (List.getElem?_eq_some_iff.mp this).1]; exact this
            · rw [← sti.sto.len, List.getElem?_append_right (Nat.le_refl _), Nat.sub_self]; rfl
          · cases e
            refine .inl ⟨D, av, rfl, hDi, fun o => ?_⟩
            have st2 := Stp.other sti (.frz o (.lst av)) hD nD hDi
            have kp : Keeps Hi (upd Hi D (.frz o (.lst av))) := fun b u e i => by
              rw [upd_ne (fun z => by subst z; rw [hDi] at e; cases e; exact i)]; exact e
            exact q _ _ μi (st1.trans ok st2) (.d (.lst (.inl ⟨o, upd_same⟩) (ra.mono kp)))
        | some x =>
          have hli : i < xs.length := (List.getElem?_eq_some_iff.mp hget).1
          obtain ⟨go, yd⟩ := y.1 x hget
          rw [List.drop_eq_getElem_cons hli] at ei
          have ex : xs[i] = x := (List.getElem?_eq_some_iff.mp hget).2
          rw [ex] at ei
          unfold lcN at ei
          cases hg : g (.d x) (wipeR ρ own) Si with
          | none => rw [hg] at ei; cases ei
          | some pg =>
            obtain ⟨ρg, Sg⟩ := pg
            rw [hg, Option.bind_some] at ei
            cases ht : t ρg Sg with
            | none => simp only [ht] at ei; cases ei
            | some pb =>
              obtain ⟨b, Sb⟩ := pb
              simp only [ht, Option.bind_some] at ei
              refine .inr ⟨go, fun Hn => ∃ μn Sn acc av zs, Stp K μ1 S1 H1 μn Sn Hn ∧ D ∉ μn ∧ Hn D = some (.lst av) ∧ RepL K Hn acc av ∧ acc.length ≤ i + 1 ∧ lcN g t elt (wipeR ρ own) (xs.drop (i + 1)) Sn = some (zs, S2) ∧ acc ++ zs = ys,
                fun Hn z => ⟨mm - 1, by omega, by omega, z⟩, fun v Hv yv => ?_⟩
              obtain ⟨kv, rv⟩ := yd v Hv yv
              have stv := Stp.same sti.sto kv
              have enw := ((en.step ok st1i).step sti.sto stv).wipe own
              refine ⟨μi, Si, wipeR ρ own, .d x, ρg, Sg, stv.sto, enw, .d rv, hg, fun σ2 H2 μ2 st2 en2 on2 => ⟨on2.wipe hv, ?_⟩⟩
              refine ⟨μ2, Sg, ρg, b, Sb, st2.sto, en2, ht, fun H3 μ3 st3 => ?_⟩
              have s23 := st2.trans stv.sto st3
              have si3 := stv.trans sti.sto s23
              have nD3 : D ∉ μ3 := fun m => by
                rcases si3.fresh D m with z | z
                · exact nD z
                · rw [hDi] at z; cases z
              have hD3 : H3 D = some (.lst av) := si3.ext D _ hDi fun ⟨k, us, h1, _⟩ => nD (List.mem_of_getElem? h1)
              have ra3 := ra.mono (si3.keeps sti.sto)
              cases b with
              | false =>
                simp only [Bool.false_eq_true, if_false] at ei ⊢
                exact ⟨μ3, Sb, acc, av, zs, sti.trans st1.sto si3, nD3, hD3, ra3, by omega, ei, eq⟩
              | true =>
                simp only [if_true] at ei ⊢
                cases he : elt ρg Sb with
                | none => rw [he] at ei; cases ei
                | some py =>
                  obtain ⟨wy, Sy⟩ := py
                  rw [he, Option.bind_some] at ei
                  cases wy with
                  | m k => cases ei
                  | d d =>
                    simp only at ei
                    cases hr : lcN g t elt (wipeR ρ own) (xs.drop (i + 1)) Sy with
                    | none => rw [hr] at ei; cases ei
                    | some r =>
                      obtain ⟨zs2, S2'⟩ := r
                      rw [hr, Option.bind_some] at ei
                      cases ei
                      refine ⟨μ3, Sb, ρg, .d d, Sy, st3.sto, en2.step st2.sto st3, he, fun yv' H4 μ4 st4 r4 => ?_⟩
                      have si4 := si3.trans sti.sto st4
                      have nD4 : D ∉ μ4 := fun m => by
                        rcases si4.fresh D m with z | z
                        · exact nD z
                        · rw [hDi] at z; cases z
                      have hD4 : H4 D = some (.lst av) := si4.ext D _ hDi fun ⟨k, us, h1, _⟩ => nD (List.mem_of_getElem? h1)
                      have s4 := sti.trans st1.sto si4
                      have kp : Keeps H4 (upd H4 D (.lst (av ++ [yv']))) := fun b u e i => by
                        rw [upd_ne (fun z => by subst z; rw [hD4] at e; cases e; exact i)]; exact e
                      have la : av.length ≤ i := by rw [← ra.length]; exact hlen
                      refine ⟨av, hD4, Nat.lt_of_lt_of_le (show av.length < lim by omega) (lim_le (Nat.le_refl _)), μ4, Sy, acc ++ [d], av ++ [yv'], zs2, Stp.other s4 _ hD nD4 hD4, nD4, upd_same, ?_, by simp; omega, hr, by simpa using eq⟩
                      cases r4 with | d r4 =>
                      exact ((ra.mono (si4.keeps sti.sto)).mono kp).append (.cons (r4.mono kp) .nil)
section
variable {X : Cx} {elt tg iter e : Expr} {ifs : List Expr} {scope : Scope} {own : List (Str × Nat)} {pos : Pos} {ci : CI} {g : CG} {t : CB} {me : CE} {vs : List Nat}
abbrev STs (X : Cx) (ifs : List Expr) (t : CB) : Prop := PTs X ifs (rdB X.K t)
theorem st_nil : STs X [] yesB := ⟨fun pins s σ H Q I ⟨μ, S, ρ, w, S', ok, en, e, q⟩ => by
  cases e
  exact (pts_nil (X := X)).run pins s σ H Q I (q H μ (.refl ok))⟩
theorem st_one {c : Expr} (h : SB X c t) : STs X [c] t := pts_one h
theorem se_lc {mu : Bool} (hc : X.calm = true) (hN : X.N.Nodup) (hi : SI X tg iter ci) (ok : BlkOk X.N X.env.scope scope own)
    (hg : ∀ (s : Shared) (H : Hp) (C : Addr) (cl : List (Str × Addr)) (fp : List Addr), SG (X.blk s H scope (compEnvC scope cl C X.env) fp) tg g vs) (ht : ∀ (s : Shared) (H : Hp) (C : Addr) (cl : List (Str × Addr)) (fp : List Addr), STs (X.blk s H scope (compEnvC scope cl C X.env) fp) ifs t)
    (he : ∀ (s : Shared) (H : Hp) (C : Addr) (cl : List (Str × Addr)) (fp : List Addr), SE (X.blk s H scope (compEnvC scope cl C X.env) fp) elt me) (hv : ∀ i ∈ vs, i ∈ own.map (·.2)) (hs : ∀ x, foldedSetIterable iter X.env x = pure x) :
    SE X (.ListComp elt [⟨tg, iter, ifs, 0⟩] scope pos) (lcE (own.map (·.2)) mu ci g t me) :=
  PE.imp (pe_fz (pe_lc hc hN hi ok hg ht he hs)) fun σ H Q h => rd_lc hv h
/-- freezing behind a statement -/
def NFz (Q : L2.St → Hp → Prop) : L2.St → Hp → Prop := fun σ H => (∃ p xs, H p = some (.lst xs) ∧ ∀ o, Q σ (upd H p (.frz o (.lst xs)))) ∨ Q σ H
theorem ps_fz {st : Stmt} {t : TS} (h : PS X st t) : PS X st (fun D σ H => t { D with nx := NFz D.nx } σ H) := by
  refine ⟨fun pins s σ H D I q => thn (h.run pins s σ H _ I q) fun f s1 z => ?_⟩
  cases f with
  | next =>
    obtain ⟨σ1, H1, I1, q1⟩ := z
    rcases q1 with ⟨p, xs, hp, q1⟩ | q1
    · obtain ⟨_, its, n, rv, e⟩ := (show ObjOk X.prog X.w H1 s1.heap p (.lst xs) from I1.hok p _ hp)
      exact ⟨σ1, _, Inv.frozen I1 hp e, q1 _⟩
    · exact ⟨σ1, H1, I1, q1⟩
  | brk => exact z
  | cont => exact z
  | ret v => exact z
theorem ss_setLc {mu : Bool} {i : Nat} {y : Str} {py spos : Pos} (hc : X.calm = true) (hN : X.N.Nodup) (hy : X.N[i]? = some y) (hyl : X.env.scope.names.lookup y = some .local)
    (hsw : swapsWith (.ListComp elt [⟨tg, iter, ifs, 0⟩] scope pos) (some (.Name y py)) spos.line X.env = pure true) (hi : SI X tg iter ci) (ok : BlkOk X.N X.env.scope scope own)
    (hg : ∀ (s : Shared) (H : Hp) (C : Addr) (cl : List (Str × Addr)) (fp : List Addr), SG (X.blk s H scope (compEnvC scope cl C X.env) fp) tg g vs) (ht : ∀ (s : Shared) (H : Hp) (C : Addr) (cl : List (Str × Addr)) (fp : List Addr), STs (X.blk s H scope (compEnvC scope cl C X.env) fp) ifs t)
    (he : ∀ (s : Shared) (H : Hp) (C : Addr) (cl : List (Str × Addr)) (fp : List Addr), SE (X.blk s H scope (compEnvC scope cl C X.env) fp) elt me) (hv : ∀ i ∈ vs, i ∈ own.map (·.2)) (hs : ∀ x, foldedSetIterable iter X.env x = pure x) :
    SS X (.Assign [.Name y py] (.ListComp elt [⟨tg, iter, ifs, 0⟩] scope pos) spos) (asgS (lcE (own.map (·.2)) mu ci g t me) (nameG i)) :=
  PS.imp (ps_fz (ps_setLc hc hN hy hyl hsw hi ok hg ht he hs)) fun D σ H h => by
    have h1 : rdE X.K (lcE (own.map (·.2)) mu ci g t me) σ H fun x H1 => D.nx (σ.set i (some x)) H1 := by
      obtain ⟨μ, S, ρ, fl, ρ', S', ok, en, e, q⟩ := h
      unfold asgS at e
      cases hx : lcE (own.map (·.2)) mu ci g t me ρ S with
      | none => rw [hx] at e; cases e
      | some p =>
        obtain ⟨w, S1⟩ := p
        rw [hx, Option.bind_some] at e
        cases e
        exact ⟨μ, S, ρ, w, _, ok, en, hx, fun v H1 μ1 st1 r1 => q _ H1 μ1 st1 ((en.step ok st1).set i r1)⟩
    have h2 := rd_lc hv h1
    have m : ∀ x H1, QFz (fun x H1 => D.nx (σ.set i (some x)) H1) x H1 → NFz D.nx (σ.set i (some x)) H1 := fun x H1 z => by
      rcases z with ⟨p, xs, rfl, hp, z⟩ | z
      · exact .inl ⟨p, xs, hp, z⟩
      · exact .inr z
    -- the reading is monotone in what is wanted at its end
    obtain ⟨μ, S, ρ, xs, S1, ok', en, hx, k⟩ := h2
    refine ⟨μ, S, ρ, xs, S1, ok', en, hx, fun J H1 μ1 st1 yl Dn hD => ?_⟩
    obtain ⟨W, w0, step⟩ := k J H1 μ1 st1 yl Dn hD
    refine ⟨W, w0, fun i' m' H' w' => ?_⟩
    rcases step i' m' H' w' with ⟨z1, z2⟩ | z
    · exact .inl ⟨z1, m _ _ z2⟩
    · exact .inr z
end

/-! ### methods of lists -/
def cellOf : W → Option Nat
  | .m n => some n
  | _ => none
def asD : W → Option PyData
  | .d x => some x
  | _ => none
def liveAt (S : Sto) (n : Nat) : Option (List PyData) := match S[n]? with
  | some (some xs) => some xs
  | _ => none
theorem liveAt_eq {S : Sto} {n : Nat} {xs : List PyData} (h : liveAt S n = some xs) : S[n]? = some (some xs) := by
  unfold liveAt at h
  split at h
  · rename_i ys hs; cases h; exact hs
  · cases h
def appendE (a b : CE) : CE := fun ρ S => (a ρ S).bind fun p => (cellOf p.1).bind fun n => (liveAt p.2 n).bind fun _ => (b ρ p.2).bind fun q => (asD q.1).bind fun x => (liveAt q.2 n).bind fun xs =>
  if xs.length < lim then some (.d .none, q.2.set n (some (xs ++ [x]))) else none
def popAtE (a b : CE) : CE := fun ρ S => (a ρ S).bind fun p => (cellOf p.1).bind fun n => (liveAt p.2 n).bind fun _ => (b ρ p.2).bind fun q => (asInt q.1).bind fun i => (liveAt q.2 n).bind fun xs =>
  if 0 ≤ i ∧ i < 2 ^ 63 then (xs[i.toNat]?).bind fun x => some (.d x, q.2.set n (some (xs.eraseIdx i.toNat))) else none
def popE (a : CE) : CE := fun ρ S => (a ρ S).bind fun p => (cellOf p.1).bind fun n => (liveAt p.2 n).bind fun xs => (xs[xs.length - 1]?).bind fun x => some (.d x, p.2.set n (some xs.dropLast))
def insertE (a b c : CE) : CE := fun ρ S => (a ρ S).bind fun p => (cellOf p.1).bind fun n => (liveAt p.2 n).bind fun _ => (b ρ p.2).bind fun q => (c ρ q.2).bind fun z => (asInt q.1).bind fun i => (asD z.1).bind fun x => (liveAt z.2 n).bind fun xs =>
  if xs.length < lim ∧ 0 ≤ i ∧ i < 2 ^ 63 then some (.d .none, z.2.set n (some (xs.take i.toNat ++ [x] ++ xs.drop i.toNat))) else none
section
variable {X : Cx} {o a b : Expr} {mo ma mb : CE} {apos cpos : Pos}
theorem cellOf_eq {w : W} {n : Nat} (h : cellOf w = some n) : w = .m n := by
  unfold cellOf at h
  split at h
  · cases h; rfl
  · cases h
theorem asD_eq {w : W} {x : PyData} (h : asD w = some x) : w = .d x := by
  unfold asD at h
  split at h
  · cases h; rfl
  · cases h
theorem tyV_cell {K : PySem.W.Frag} {H : Hp} {c : Addr} {vs : List V} (h : H c = some (.lst vs)) : tyV K "list" (.ref c) H := .inl ⟨rfl, _, SqL.of h⟩
theorem mt_up {μ μ' : List Addr} {n : Nat} {c : Addr} (p : μ <+: μ') (h : μ[n]? = some c) : μ'[n]? = some c := by
  obtain ⟨r, rfl⟩ := p
  rw [List.getElem?_append_left (List.getElem?_eq_some_iff.mp h).1]; exact h
theorem se_append (ho : SE X o mo) (ha : SE X a ma) (hbase : attributeBase o "append" X.env (eval o X.env) = eval o X.env) (hl : (apos.endLine == cpos.line) = true) (hs : starEach [a] X.env = [(false, eval a X.env)]) :
    SE X (.Call (.Attribute o "append" apos) [a] [] cpos) (appendE mo ma) :=
  PE.imp (pe_bm PySem.F.plainAttrs_list PySem.F.slot_list_append PySem.F.type_list_append mt_append ho (pa_cons ha pa_nil hs) hbase (by rw [hs]; rfl) hl hs rfl) fun σ H Q ⟨μ, S, ρ, w, S', ok, en, e, q⟩ => by
    unfold appendE at e
    cases h1 : mo ρ S with
    | none => rw [h1] at e; cases e
    | some p =>
      obtain ⟨w1, S1⟩ := p
      rw [h1, Option.bind_some] at e
      cases h2 : cellOf w1 with
      | none => simp only [h2] at e; cases e
      | some n =>
        simp only [h2, Option.bind_some] at e
        cases h3 : liveAt S1 n with
        | none => rw [h3] at e; cases e
        | some xs0 =>
          rw [h3, Option.bind_some] at e
          cases h4 : ma ρ S1 with
          | none => rw [h4] at e; cases e
          | some p2 =>
            obtain ⟨w2, S2⟩ := p2
            rw [h4, Option.bind_some] at e
            cases h5 : asD w2 with
            | none => simp only [h5] at e; cases e
            | some x =>
              simp only [h5, Option.bind_some] at e
              cases h6 : liveAt S2 n with
              | none => rw [h6] at e; cases e
              | some xs =>
                rw [h6, Option.bind_some] at e
                split at e
                · rename_i hz
                  cases e
                  rw [cellOf_eq h2] at h1
                  rw [asD_eq h5] at h4
                  refine ⟨μ, S, ρ, _, S1, ok, en, h1, fun v H1 μ1 st1 r1 => ?_⟩
                  cases r1 with | @m _ c1 hm =>
                  obtain ⟨c, us, hc, hH, _⟩ := st1.sto.cell n xs0 (liveAt_eq h3)
                  rw [hm] at hc; cases hc
                  refine ⟨tyV_cell hH, μ1, S1, ρ, _, S2, st1.sto, en.step ok st1, h4, fun y H2 μ2 st2 r2 => ?_⟩
                  have st12 := st1.trans ok st2
                  have hm2 := mt_up st2.pre hm
                  obtain ⟨c', us', hc', hH2, hl2⟩ := st2.sto.cell n xs (liveAt_eq h6)
                  rw [hm2] at hc'; cases hc'
                  cases r2 with | d r2 =>
                  refine ⟨_, us', y, rfl, rfl, hH2, Nat.lt_of_lt_of_le (by rw [← hl2.length]; exact hz) (lim_le (Nat.le_refl _)), ?_⟩
                  exact q _ _ μ2 (st12.trans ok (Stp.put st2.sto (liveAt_eq h6) hm2 hH2 (hl2.append (.cons r2 .nil)))) (.d .non)
                · cases e
theorem se_popAt (ho : SE X o mo) (ha : SE X a ma) (hbase : attributeBase o "pop" X.env (eval o X.env) = eval o X.env) (hl : (apos.endLine == cpos.line) = true) (hs : starEach [a] X.env = [(false, eval a X.env)]) :
    SE X (.Call (.Attribute o "pop" apos) [a] [] cpos) (popAtE mo ma) :=
  PE.imp (pe_bm PySem.F.plainAttrs_list PySem.F.slot_list_pop PySem.F.type_list_pop mt_popAt ho (pa_cons ha pa_nil hs) hbase (by rw [hs]; rfl) hl hs rfl) fun σ H Q ⟨μ, S, ρ, w, S', ok, en, e, q⟩ => by
    unfold popAtE at e
    cases h1 : mo ρ S with
    | none => rw [h1] at e; cases e
    | some p =>
      obtain ⟨w1, S1⟩ := p
      rw [h1, Option.bind_some] at e
      cases h2 : cellOf w1 with
      | none => simp only [h2] at e; cases e
      | some n =>
        simp only [h2, Option.bind_some] at e
        cases h3 : liveAt S1 n with
        | none => rw [h3] at e; cases e
        | some xs0 =>
          rw [h3, Option.bind_some] at e
          cases h4 : ma ρ S1 with
          | none => rw [h4] at e; cases e
          | some p2 =>
            obtain ⟨w2, S2⟩ := p2
            rw [h4, Option.bind_some] at e
            cases h5 : asInt w2 with
            | none => simp only [h5] at e; cases e
            | some i =>
              simp only [h5, Option.bind_some] at e
              cases h6 : liveAt S2 n with
              | none => rw [h6] at e; cases e
              | some xs =>
                rw [h6, Option.bind_some] at e
                split at e
                · rename_i hz
                  cases hx : xs[i.toNat]? with
                  | none => rw [hx] at e; cases e
                  | some x =>
                    rw [hx, Option.bind_some] at e
                    cases e
                    rw [cellOf_eq h2] at h1
                    refine ⟨μ, S, ρ, _, S1, ok, en, h1, fun v H1 μ1 st1 r1 => ?_⟩
                    cases r1 with | @m _ c1 hm =>
                    obtain ⟨c, us, hc, hH, _⟩ := st1.sto.cell n xs0 (liveAt_eq h3)
                    rw [hm] at hc; cases hc
                    refine ⟨tyV_cell hH, μ1, S1, ρ, _, S2, st1.sto, en.step ok st1, h4, fun y H2 μ2 st2 r2 => ?_⟩
                    have st12 := st1.trans ok st2
                    have hm2 := mt_up st2.pre hm
                    obtain ⟨c', us', hc', hH2, hl2⟩ := st2.sto.cell n xs (liveAt_eq h6)
                    rw [hm2] at hc'; cases hc'
                    obtain ⟨z, hz2, rz⟩ := hl2.get hx
                    have hlt := (List.getElem?_eq_some_iff.mp hz2).1
                    refine ⟨_, us', i, i.toNat, z, rfl, by rw [asInt_of r2 h5], hH2, by omega, hz.2, seqIndex_of hz.1 (by omega), hz2, ?_⟩
                    have st3 := Stp.put st2.sto (liveAt_eq h6) hm2 hH2 (hl2.eraseIdx i.toNat)
                    exact q _ _ μ2 (st12.trans ok st3) (.d (rz.mono (st3.keeps st2.sto)))
                · cases e
theorem se_insert (ho : SE X o mo) (ha : SE X a ma) (hb : SE X b mb) (hbase : attributeBase o "insert" X.env (eval o X.env) = eval o X.env) (hl : (apos.endLine == cpos.line) = true) (hs : starEach [a, b] X.env = [(false, eval a X.env), (false, eval b X.env)]) (hs2 : starEach [b] X.env = [(false, eval b X.env)]) :
    SE X (.Call (.Attribute o "insert" apos) [a, b] [] cpos) (insertE mo ma mb) :=
  PE.imp (pe_bm PySem.F.plainAttrs_list PySem.F.slot_list_insert PySem.F.type_list_insert mt_insert ho (pa_cons ha (pa_cons hb pa_nil hs2) (by rw [hs, hs2])) hbase (by rw [hs]; rfl) hl (by rw [hs, hs2]) (by rw [hs2]; rfl)) fun σ H Q ⟨μ, S, ρ, w, S', ok, en, e, q⟩ => by
    unfold insertE at e
    cases h1 : mo ρ S with
    | none => rw [h1] at e; cases e
    | some p =>
      obtain ⟨w1, S1⟩ := p
      rw [h1, Option.bind_some] at e
      cases h2 : cellOf w1 with
      | none => simp only [h2] at e; cases e
      | some n =>
        simp only [h2, Option.bind_some] at e
        cases h3 : liveAt S1 n with
        | none => rw [h3] at e; cases e
        | some xs0 =>
          rw [h3, Option.bind_some] at e
          cases h4 : ma ρ S1 with
          | none => rw [h4] at e; cases e
          | some p2 =>
            obtain ⟨w2, S2⟩ := p2
            rw [h4, Option.bind_some] at e
            cases h7 : mb ρ S2 with
            | none => rw [h7] at e; cases e
            | some p3 =>
              obtain ⟨w3, S3⟩ := p3
              rw [h7, Option.bind_some] at e
              cases h5 : asInt w2 with
              | none => simp only [h5] at e; cases e
              | some i =>
                simp only [h5, Option.bind_some] at e
                cases h8 : asD w3 with
                | none => simp only [h8] at e; cases e
                | some x =>
                  simp only [h8, Option.bind_some] at e
                  cases h6 : liveAt S3 n with
                  | none => rw [h6] at e; cases e
                  | some xs =>
                    rw [h6, Option.bind_some] at e
                    split at e
                    · rename_i hz
                      cases e
                      rw [cellOf_eq h2] at h1
                      rw [asD_eq h8] at h7
                      refine ⟨μ, S, ρ, _, S1, ok, en, h1, fun v H1 μ1 st1 r1 => ?_⟩
                      cases r1 with | @m _ c1 hm =>
                      obtain ⟨c, us, hc, hH, _⟩ := st1.sto.cell n xs0 (liveAt_eq h3)
                      rw [hm] at hc; cases hc
                      refine ⟨tyV_cell hH, μ1, S1, ρ, _, S2, st1.sto, en.step ok st1, h4, fun y H2 μ2 st2 r2 => ?_⟩
                      have st12 := st1.trans ok st2
                      refine ⟨μ2, S2, ρ, _, S3, st2.sto, en.step ok st12, h7, fun y3 H3 μ3 st3 r3 => ?_⟩
                      have st13 := st12.trans ok st3
                      have hm3 := mt_up st3.pre (mt_up st2.pre hm)
                      obtain ⟨c', us', hc', hH3, hl3⟩ := st3.sto.cell n xs (liveAt_eq h6)
                      rw [hm3] at hc'; cases hc'
                      cases r3 with | d r3 =>
                      have ey : y = .int i := by
                        have := asInt_of r2 h5
                        exact this
                      refine ⟨_, us', i, y3, rfl, by rw [ey], hH3, Nat.lt_of_lt_of_le (by rw [← hl3.length]; exact hz.1) (lim_le (Nat.le_refl _)), hz.2.1, hz.2.2, ?_⟩
                      exact q _ _ μ3 (st13.trans ok (Stp.put st3.sto (liveAt_eq h6) hm3 hH3 (((hl3.take i.toNat).append (.cons r3 .nil)).append (hl3.drop i.toNat)))) (.d .non)
                    · cases e
theorem se_pop (ho : SE X o mo) (hbase : attributeBase o "pop" X.env (eval o X.env) = eval o X.env) (hl : (apos.endLine == cpos.line) = true) : SE X (.Call (.Attribute o "pop" apos) [] [] cpos) (popE mo) :=
  PE.imp (pe_bm0 PySem.F.plainAttrs_list PySem.F.slot_list_pop PySem.F.type_list_pop mt_pop ho hbase hl) fun σ H Q ⟨μ, S, ρ, w, S', ok, en, e, q⟩ => by
    unfold popE at e
    cases h1 : mo ρ S with
    | none => rw [h1] at e; cases e
    | some p =>
      obtain ⟨w1, S1⟩ := p
      rw [h1, Option.bind_some] at e
      cases h2 : cellOf w1 with
      | none => simp only [h2] at e; cases e
      | some n =>
        simp only [h2, Option.bind_some] at e
        cases h3 : liveAt S1 n with
        | none => rw [h3] at e; cases e
        | some xs =>
          rw [h3, Option.bind_some] at e
          cases hx : xs[xs.length - 1]? with
          | none => rw [hx] at e; cases e
          | some x =>
            rw [hx, Option.bind_some] at e
            cases e
            rw [cellOf_eq h2] at h1
            refine ⟨μ, S, ρ, _, S1, ok, en, h1, fun v H1 μ1 st1 r1 => ?_⟩
            cases r1 with | @m _ c1 hm =>
            obtain ⟨c, us, hc, hH, hl2⟩ := st1.sto.cell n xs (liveAt_eq h3)
            rw [hm] at hc; cases hc
            obtain ⟨z, hz2, rz⟩ := hl2.get hx
            refine ⟨tyV_cell hH, _, us, z, rfl, rfl, hH, by rw [← hl2.length]; exact hz2, ?_⟩
            have st3 := Stp.put st1.sto (liveAt_eq h3) hm hH hl2.dropLast
            exact q _ _ μ1 (st1.trans ok st3) (.d (rz.mono (st3.keeps st1.sto)))
end

/-! ### list(range(a, b)) -/
def rangeLE (a b : CE) : CE := fun ρ S => (a ρ S).bind fun p => (b ρ p.2).bind fun z => (asInt p.1).bind fun i => (asInt z.1).bind fun j =>
  if (okR i && okR j && decide ((j - i).toNat ≤ lim)) = true then some (.d (.list (rangeD i (j - i).toNat)), z.2) else none
theorem rep_range {K : PySem.W.Frag} {H : Hp} (i : Int) : ∀ l : List Nat, RepL K H (l.map fun n => PyData.int (i + (n : Nat))) (l.map fun n => V.int (i + (n : Nat)))
  | [] => .nil
  | _ :: r => .cons (.int _) (rep_range i r)
theorem se_rangeL {X : Cx} {a b : Expr} {ma mb : CE} {p p2 p3 pos : Pos} (hc : X.calm = true) (h : SE X a ma) (h2 : SE X b mb) (hl : Gl X "list") (hlm : X.mg "list" = none) (hg : Gl X "range") (hm : X.mg "range" = none)
    (na : starEach [a, b] X.env = (false, eval a X.env) :: starEach [b] X.env) (nb : starEach [b] X.env = (false, eval b X.env) :: starEach [] X.env) (hp : (backTo p3 (starEach [b] X.env)).any (·.1) = false) :
    SE X (.Call (.Name "list" p) [.Call (.Name "range" p2) [a, b] [] p3] [] pos) (rangeLE ma mb) := PE.imp (pe_fz (pe_listRg hc hl hlm (prg_2 hg hm h h2 na nb hp) rfl)) fun σ H Q ⟨μ, S, ρ, w, S', ok, en, e, q⟩ => by
  unfold rangeLE at e
  cases h1 : ma ρ S with
  | none => rw [h1] at e; cases e
  | some p =>
    obtain ⟨w1, S1⟩ := p
    rw [h1, Option.bind_some] at e
    cases h2 : mb ρ S1 with
    | none => simp only [h2] at e; cases e
    | some p2 =>
      obtain ⟨w2, S2⟩ := p2
      simp only [h2, Option.bind_some] at e
      cases hi : asInt w1 with
      | none => rw [hi] at e; cases e
      | some i =>
        rw [hi, Option.bind_some] at e
        cases hj : asInt w2 with
        | none => rw [hj] at e; cases e
        | some j =>
          rw [hj, Option.bind_some] at e
          split at e
          · rename_i hz
            simp only [Bool.and_eq_true, decide_eq_true_eq] at hz
            obtain ⟨⟨z1, z2⟩, z3⟩ := hz
            cases e
            refine ⟨μ, S, ρ, w1, S1, ok, en, h1, fun v H1 μ1 st1 r1 => ⟨μ1, S1, ρ, w2, _, st1.sto, en.step ok st1, h2, fun u H2 μ2 st2 r2 => ?_⟩⟩
            have b1 := okR_lt z1
            have b2 := okR_lt z2
            refine ⟨i, j, asInt_of r1 hi, asInt_of r2 hj, ⟨b1.1, b1.2, b2.1, b2.2, Nat.le_trans z3 (by decide)⟩, fun q1 hq => .inl ⟨q1, _, rfl, upd_same, fun o => ?_⟩⟩
            rw [upd_upd]
            exact q _ _ μ2 ((st1.trans ok st2).trans ok (.new st2.sto hq)) (.d (.lst (.inl ⟨o, upd_same⟩) (rep_range i _)))
          · cases e

/-! ### what a def promises -/
/-- an exception that leaves a def: its class's name, its fields -/
abbrev Exn := Str × List (Str × PyData)
def FX (K : PySem.W.Frag) (mg : Str → Option Value) (exn : List W → Sto → Option (Exn × Sto)) : List V → Hp → XK → Prop := fun xs H E => ∃ μ S ws e S', StoOk K H μ S ∧ WRepL K H μ ws xs ∧ exn ws S = some (e, S') ∧ ∀ cls d H' μ', Stp K μ S H μ' S' H' → ExRep K mg H' e.1 e.2 cls d → E cls d H'
structure FnG (P : Program) (w : World) (K : PySem.W.Frag) (mg : Str → Option Value) (base : Heap) (k : Nat) (f : Addr) (fd : FuncData) (ps : List Str) (run : List W → Sto → Option (W × Sto)) (exn : List W → Sto → Option (Exn × Sto)) : Prop where
  runx : ∀ (A : Around) (outer : List Env) (s : Shared) (H : Hp) (args : Args) (us : List Value) (vs : List V) (E : XK), Room k A → A.guards = some [] → Env0 P w K mg base A outer s H → BindsTo s fd args (ps.zip us) → Vals vs us → vs.length = ps.length → FX K mg exn vs H E →
    codeAny (model P w) A (.call (.ref f) args) (CR (L2.CX P w) outer P w H s (fun _ _ => False) E) s
  run : ∀ (A : Around) (outer : List Env) (s : Shared) (H : Hp) (args : Args) (us : List Value) (vs : List V) (Q : VK), Room k A → A.guards = some [] → Env0 P w K mg base A outer s H → BindsTo s fd args (ps.zip us) → Vals vs us → vs.length = ps.length → FN K run vs H Q →
    codeAny (model P w) A (.call (.ref f) args) (CR CX0 outer P w H s Q E0) s
/-- a def that is called: its parameters, what it does, how keywords are put in order -/
structure Callee where
  ps : List Str
  run : List W → Sto → Option (W × Sto)
  exn : List W → Sto → Option (Exn × Sto)
  arr : List (Nat × List Str × List Nat)
def atV (perm : List Nat) (vs : List V) : List V := perm.map fun i => vs.getD i .non
def atU (perm : List Nat) (us : List Value) : List Value := perm.map fun i => us.getD i .none
def atW (perm : List Nat) (ws : List W) : List W := perm.map fun i => ws.getD i (.d .none)
theorem vals_at {vs : List V} {us : List Value} (h : Vals vs us) : ∀ perm : List Nat, Vals (atV perm vs) (atU perm us)
  | [] => .nil
  | i :: r => by
    refine .cons ?_ (vals_at h r)
    show RelV (vs.getD i .non) (us.getD i .none)
    rw [List.getD_eq_getElem?_getD, List.getD_eq_getElem?_getD]
    cases e : vs[i]? with
    | none => rw [h.none_of e]; rfl
    | some v =>
      obtain ⟨u, hu, r⟩ := h.get e
      rw [hu]; exact r
theorem wrep_get {K : PySem.W.Frag} {H : Hp} {μ : List Addr} : ∀ {ws : List W} {vs : List V} (i : Nat), WRepL K H μ ws vs → WRep K H μ (ws.getD i (.d .none)) (vs.getD i .non)
  | _, _, i, .nil => by simpa using WRep.d .non
  | _, _, 0, .cons r _ => r
  | _, _, i + 1, .cons _ l => wrep_get i l
theorem wrep_at {K : PySem.W.Frag} {H : Hp} {μ : List Addr} {ws : List W} {vs : List V} (h : WRepL K H μ ws vs) : ∀ perm : List Nat, WRepL K H μ (atW perm ws) (atV perm vs)
  | [] => .nil
  | i :: r => .cons (wrep_get i h) (wrep_at h r)
theorem WRepL.append {K : PySem.W.Frag} {H : Hp} {μ : List Addr} : ∀ {ws zs : List W} {vs us : List V}, WRepL K H μ ws vs → WRepL K H μ zs us → WRepL K H μ (ws ++ zs) (vs ++ us)
  | _, _, _, _, .nil, h => h
  | _, _, _, _, .cons r l, h => .cons r (WRepL.append l h)
structure CalleeOk (X : Cx) (x : Str) (c : Callee) : Prop where
  ex : ∃ (f : Addr) (fd : FuncData) (k : Nat), X.mg x = some (.ref f) ∧ PySem.W.keepIn X.K (.ref f) = true ∧ Room k X.A ∧ FnG X.prog X.w X.K X.mg X.base k f fd c.ps c.run c.exn ∧
    (∀ (s : Shared) (us : List Value), us.length = c.ps.length → BindsTo s fd ⟨us, []⟩ (c.ps.zip us)) ∧
    (∀ a ∈ c.arr, ∀ (s : Shared) (us ws : List Value), us.length = a.1 → ws.length = a.2.1.length → BindsTo s fd ⟨us, a.2.1.zip ws⟩ (c.ps.zip (atU a.2.2 (us ++ ws)))) ∧ ∀ a ∈ c.arr, a.2.2.length = c.ps.length
  guards : X.A.guards = some []
def callF (c : Callee) : List W → Sto → Option (W × Sto) := fun ws S => if ws.length = c.ps.length then c.run ws S else none
section
variable {X : Cx} {x : Str} {p pos : Pos} {e : Expr} {es : List Expr} {c : Callee} {ml mk : CL} {kws : List Keyword}
theorem FN_len {K : PySem.W.Frag} {xs : List V} {H : Hp} {Q : VK} (h : FN K (callF c) xs H Q) : xs.length = c.ps.length ∧ FN K c.run xs H Q := by
  obtain ⟨μ, S, ws, w, S', ok, r, e, q⟩ := h
  unfold callF at e
  split at e
  · rename_i hl
    exact ⟨by rw [← r.length]; exact hl, μ, S, ws, w, S', ok, r, e, q⟩
  · cases e
theorem runs_to {pins : List (Addr × Obj)} {σ : L2.St} {H : Hp} {s : Shared} {Q : VK} {f : Addr} {fd : FuncData} {k : Nat} {ps : List Str} {run : List W → Sto → Option (W × Sto)} {exn : List W → Sto → Option (Exn × Sto)} {args : Args} {us : List Value} {vs : List V} (F : FnG X.prog X.w X.K X.mg X.base k f fd ps run exn) (hr : Room k X.A) (hg : X.A.guards = some [])
    (I : Inv X pins σ H s) (hb : BindsTo s fd args (ps.zip us)) (r : Vals vs us) (hl : vs.length = ps.length) (h : FN X.K run vs H Q) : codeAny (model X.prog X.w) X.A (.call (.ref f) args) (fun r s' => match r with
      | .ok (.ret u) => EP X pins σ Q u s'
      | _ => False) s :=
  codeAny_mono (F.run X.A X.stack s H args us vs Q hr hg I.env0 hb r hl h) fun r s' q => by
    cases r with
    | error _ => exact q
    | ok fl =>
      cases fl with
      | ret u => exact I.after q
      | next => exact q
      | brk => exact q
      | cont => exact q
theorem se_call (C : CalleeOk X x c) (hg : Gl X x) (ha : SL X (e :: es) ml) (hdb : (x == ("__debug__" : Str)) = false) (he : starEach (e :: es) X.env = (false, eval e X.env) :: starEach es X.env) (hpl : (backTo pos (starEach es X.env)).any (·.1) = false) :
    SE X (.Call (.Name x p) (e :: es) [] pos) (appE (callF c) ml) := by
  obtain ⟨f, fd, k, hm, hk, hr, F, hb, _⟩ := C.ex
  refine ⟨fun pins s σ H Q I h => wpAny_Call_Name_kw (ld_glob I hg hm ?_ hdb)⟩
  refine PySem.W.callWith_K (h₀ := X.base) I.ok.mod.kin hk (thn (ha.run pos pins s σ H _ I (rd_app h)) fun us s1 ⟨vs, H1, I1, r, q⟩ => ⟨I1.kIn, ?_⟩) he hpl
  obtain ⟨hl, q⟩ := FN_len q
  refine wpAny_call (codeAny_mono (runs_to F hr C.guards I1 (hb s1 us (by rw [← r.length]; exact hl)) r hl q) fun r s' z => ?_)
  cases r with
  | error _ => exact z.elim
  | ok fl => cases fl <;> exact z
/-- with keywords -/
def kwE (c : Callee) (perm : List Nat) (l k : CL) : CE := fun ρ S => (l ρ S).bind fun p => (k ρ p.2).bind fun q => c.run (atW perm (p.1 ++ q.1)) q.2
abbrev SK (X : Cx) (kws : List Keyword) (m : CL) : Prop := PK X kws (rdL X.K m)
theorem PK.imp {X : Cx} {es : List Keyword} {t t' : TA} (h : PK X es t) (i : ∀ σ H Q, t' σ H Q → t σ H Q) : PK X es t' := ⟨fun pos pins s σ H Q I q => h.run pos pins s σ H Q I (i σ H Q q)⟩
theorem sk_nil : SK X [] nilL := PK.imp pk_nil fun σ H Q ⟨μ, S, ρ, w, S', ok, en, e, q⟩ => by
  cases e
  exact q _ H μ (.refl ok) .nil
theorem sk_cons {nm : Option Str} {kpos : Pos} {ma : CE} (ha : SE X e ma) (hr : SK X kws mk) : SK X (⟨nm, e, kpos⟩ :: kws) (consL ma mk) :=
  PK.imp (pk_cons ha hr) fun _ _ _ h => rd_cons h
theorem rd_kw {K : PySem.W.Frag} {σ : L2.St} {H : Hp} {Q : VK} {perm : List Nat} (h : rdE K (kwE c perm ml mk) σ H Q) : rdL K ml σ H fun vs H1 => rdL K mk σ H1 fun zs H2 => FN K c.run (atV perm (vs ++ zs)) H2 Q := by
  obtain ⟨μ, S, ρ, w, S', ok, en, e, q⟩ := h
  unfold kwE at e
  cases h1 : ml ρ S with
  | none => rw [h1] at e; cases e
  | some p =>
    obtain ⟨ws, S1⟩ := p
    rw [h1, Option.bind_some] at e
    cases h2 : mk ρ S1 with
    | none => rw [h2] at e; cases e
    | some p2 =>
      obtain ⟨zs, S2⟩ := p2
      rw [h2, Option.bind_some] at e
      refine ⟨μ, S, ρ, ws, S1, ok, en, h1, fun vs H1 μ1 st1 r1 => ⟨μ1, S1, ρ, zs, S2, st1.sto, en.step ok st1, h2, fun us H2 μ2 st2 r2 => ?_⟩⟩
      have r12 := (r1.mono (st2.keeps st1.sto) st2.pre).append r2
      exact ⟨μ2, S2, _, w, S', st2.sto, wrep_at r12 perm, e, fun v H' μ' st3 r3 => q v H' μ' ((st1.trans ok st2).trans ok st3) r3⟩
theorem rdL_len {K : PySem.W.Frag} {σ : L2.St} {H : Hp} {Q : List V → Hp → Prop} (n : Nat) (hn : ∀ ρ S r, ml ρ S = some r → r.1.length = n) (h : rdL K ml σ H Q) : rdL K ml σ H fun vs H1 => vs.length = n ∧ Q vs H1 := by
  obtain ⟨μ, S, ρ, ws, S', ok, en, e, q⟩ := h
  exact ⟨μ, S, ρ, ws, S', ok, en, e, fun vs H1 μ1 st r => ⟨by rw [← r.length]; exact hn _ _ _ e, q vs H1 μ1 st r⟩⟩
theorem se_callK {perm : List Nat} {ks : List Str} (C : CalleeOk X x c) (hg : Gl X x) (ha : SL X (e :: es) ml) (hkw : SK X kws mk) (n1 : ∀ ρ S r, ml ρ S = some r → r.1.length = (e :: es).length) (n2 : ∀ ρ S r, mk ρ S = some r → r.1.length = ks.length)
    (ho : ((e :: es).length, ks, perm) ∈ c.arr) (hall : (backToKw pos (keywordEach kws X.env)).all (·.1.isSome) = true) (hks : (backToKw pos (keywordEach kws X.env)).filterMap (·.1) = ks)
    (hdb : (x == ("__debug__" : Str)) = false) (he : starEach (e :: es) X.env = (false, eval e X.env) :: starEach es X.env)
    (hpl : ((backTo pos (starEach (e :: es) X.env)).any (·.1) || (backToKw pos (keywordEach kws X.env)).any (·.1.isNone)) = false) :
    SE X (.Call (.Name x p) (e :: es) kws pos) (kwE c perm ml mk) := by
  obtain ⟨f, fd, k, hm, hk, hr, F, _, hb, hpl2⟩ := C.ex
  refine ⟨fun pins s σ H Q I h => wpAny_Call_Name_kw (ld_glob I hg hm ?_ hdb)⟩
  refine PySem.W.callWith_KW (h₀ := X.base) I.ok.mod.kin hk hall (thn (ha.run pos pins s σ H _ I (rdL_len _ n1 (rd_kw h))) fun us s1 ⟨vs, H1, I1, r, l1, q⟩ => ?_) hpl he
  refine thn (hkw.run pos pins s1 σ H1 _ I1 (rdL_len _ n2 q)) fun ws s2 ⟨zs, H2, I2, rz, l2, q2⟩ => ⟨I2.kIn, ?_⟩
  rw [hks]
  have rr := vals_at (r.append rz) perm
  have hl : (atV perm (vs ++ zs)).length = c.ps.length := by unfold atV; rw [List.length_map]; exact hpl2 _ ho
  refine wpAny_call (codeAny_mono (runs_to F hr C.guards I2 (hb _ ho s2 us ws (by rw [← r.length]; exact l1) (by rw [← rz.length]; exact l2)) rr hl q2) fun r s' z => ?_)
  cases r with
  | error _ => exact z.elim
  | ok fl => cases fl <;> exact z
theorem se_callK0 {perm : List Nat} {ks : List Str} (C : CalleeOk X x c) (hg : Gl X x) (hkw : SK X kws mk) (n2 : ∀ ρ S r, mk ρ S = some r → r.1.length = ks.length)
    (ho : (0, ks, perm) ∈ c.arr) (hall : (backToKw pos (keywordEach kws X.env)).all (·.1.isSome) = true) (hks : (backToKw pos (keywordEach kws X.env)).filterMap (·.1) = ks)
    (hdb : (x == ("__debug__" : Str)) = false)
    (hpl : ((backTo pos (starEach [] X.env)).any (·.1) || (backToKw pos (keywordEach kws X.env)).any (·.1.isNone)) = false) :
    SE X (.Call (.Name x p) [] kws pos) (kwE c perm nilL mk) := by
  obtain ⟨f, fd, k, hm, hk, hr, F, _, hb, hpl2⟩ := C.ex
  refine ⟨fun pins s σ H Q I h => wpAny_Call_Name_kw (ld_glob I hg hm ?_ hdb)⟩
  have h1 : rdL X.K mk σ H fun zs H2 => FN X.K c.run (atV perm ([] ++ zs)) H2 Q := by
    obtain ⟨μ, S, ρ, ws, S', ok, en, e, q⟩ := rd_kw h
    cases e
    exact q [] H μ (.refl ok) .nil
  refine PySem.W.callWith_KW0 (h₀ := X.base) I.ok.mod.kin hk hall (thn (hkw.run pos pins s σ H _ I (rdL_len _ n2 h1)) fun ws s2 ⟨zs, H2, I2, rz, l2, q2⟩ => ⟨I2.kIn, ?_⟩) hpl
  rw [hks]
  have rr := vals_at rz perm
  have hl : (atV perm zs).length = c.ps.length := by unfold atV; rw [List.length_map]; exact hpl2 _ ho
  refine wpAny_call (codeAny_mono (runs_to F hr C.guards I2 (hb _ ho s2 [] ws rfl (by rw [← rz.length]; exact l2)) rr hl q2) fun r s' z => ?_)
  cases r with
  | error _ => exact z.elim
  | ok fl => cases fl <;> exact z
end

/-! ### a def by its body -/
def startR (n : Nat) (ws : List W) : Rho := ws.map some ++ List.replicate (n - ws.length) none
/-- at a def's end the cells that it made are let go; one that is handed back is the caller's -/
def leave (L : Nat) : W → Sto → Option (W × Sto)
  | .d x, S => some (.d x, S.take L)
  | .m n, S => if n < L then some (.m n, S.take L) else match S[n]? with
    | some (some xs) => some (.m L, S.take L ++ [some xs])
    | _ => none
def runD (n : Nat) (m : CS) : List W → Sto → Option (W × Sto) := fun ws S => (m (startR n ws) S).bind fun p => match p.1 with
  | .rt w => leave S.length w p.2.2
  | .nx => leave S.length (.d .none) p.2.2
  | _ => none
section
variable {K : PySem.W.Frag} {H H' : Hp} {μ μ' : List Addr} {S S' : Sto}
theorem env_start {ws : List W} {vs : List V} (N : List Str) (r : WRepL K H μ ws vs) : EnvOk K H μ (startR N.length ws) (L2.start N vs) := by
  have hl := r.length
  refine ⟨by unfold startR L2.start; simp [hl], fun i w h => ?_⟩
  unfold startR at h
  unfold L2.start
  by_cases hi : i < ws.length
  · rw [List.getElem?_append_left (by simpa using hi), List.getElem?_map] at h
    rw [List.getElem?_append_left (by simpa [← hl] using hi), List.getElem?_map]
    cases e : ws[i]? with
    | none => rw [e] at h; cases h
    | some z =>
      rw [e] at h; cases h
      have hv : i < vs.length := by rw [← hl]; exact hi
      have := wrep_get i r
      rw [List.getD_eq_getElem?_getD, List.getD_eq_getElem?_getD, e, List.getElem?_eq_getElem hv] at this
      exact ⟨vs[i], by rw [List.getElem?_eq_getElem hv]; rfl, this⟩
  · rw [List.getElem?_append_right (by simpa using hi), List.getElem?_replicate] at h
    split at h <;> cases h
theorem cut_step (ok : StoOk K H μ S) (s : Stp K μ S H μ' S' H') : Stp K μ S H μ (S'.take S.length) H' := by
  have hm : μ'.take S.length = μ := by
    obtain ⟨r, rfl⟩ := s.pre
    rw [← ok.len]; simp
  have sto := s.sto.cut S.length
  rw [hm] at sto
  refine ⟨List.prefix_rfl, sto, s.ext, fun _ h => .inl h, fun n e => ?_⟩
  rw [List.getElem?_take_of_lt (List.getElem?_eq_some_iff.mp e).1]
  exact s.dead n e
theorem leave_ok (ok : StoOk K H μ S) (s : Stp K μ S H μ' S' H') {w w' : W} {S2 : Sto} {v : V} (e : leave S.length w S' = some (w', S2)) (r : WRep K H' μ' w v) : ∃ μ2, Stp K μ S H μ2 S2 H' ∧ WRep K H' μ2 w' v := by
  have hm : μ'.take S.length = μ := by
    obtain ⟨r, rfl⟩ := s.pre
    rw [← ok.len]; simp
  have st := cut_step ok s
  cases w with
  | d x =>
    have e' : some (W.d x, S'.take S.length) = some (w', S2) := e
    cases e'
    cases r with | d r => exact ⟨μ, st, .d r⟩
  | m n =>
    have e' : (if n < S.length then some (W.m n, S'.take S.length) else match S'[n]? with
      | some (some xs) => some (.m S.length, S'.take S.length ++ [some xs])
      | _ => none) = some (w', S2) := e
    cases r with | @m _ c hc =>
    split at e'
    · rename_i hn
      cases e'
      refine ⟨μ, st, .m ?_⟩
      rw [← hm, List.getElem?_take_of_lt hn]; exact hc
    · rename_i hn
      cases hx : S'[n]? with
      | none => rw [hx] at e'; cases e'
      | some z =>
        cases z with
        | none => rw [hx] at e'; cases e'
        | some xs =>
          rw [hx] at e'
          cases e'
          obtain ⟨a, vs, h1, h2, h3⟩ := s.sto.cell n xs hx
          rw [hc] at h1; cases h1
          have nc : c ∉ μ := fun m => by
            obtain ⟨i, hi⟩ := List.getElem?_of_mem m
            have hi' := mt_up s.pre hi
            have := nd_inj s.sto.nd hi' hc
            subst this
            have := (List.getElem?_eq_some_iff.mp hi).1
            rw [ok.len] at this; omega
          have hH : H c = none := (s.fresh c (List.mem_of_getElem? hc)).resolve_left nc
          have hlt : (S'.take S.length).length = S.length := by
            rw [List.length_take]; have := s.len ok; omega
          refine ⟨μ ++ [c], ⟨⟨[c], rfl⟩, ⟨by simp [ok.len]; exact (Nat.min_eq_left (s.len ok)).symm, ?_, fun b m => ?_, fun k ys e => ?_⟩, s.ext, fun b m => ?_, fun k e => ?_⟩, .m ?_⟩
          · rw [List.nodup_append]
            exact ⟨ok.nd, by simp, fun a ha b hb e => by simp at hb; subst hb; subst e; exact nc ha⟩
          · rcases List.mem_append.mp m with m | m
            · exact st.sto.there b m
            · simp at m; subst m; exact ⟨_, h2⟩
          · by_cases hk : k < (S'.take S.length).length
            · rw [List.getElem?_append_left hk] at e
              obtain ⟨a, ws, g1, g2, g3⟩ := st.sto.cell k ys e
              exact ⟨a, ws, by rw [List.getElem?_append_left (List.getElem?_eq_some_iff.mp g1).1]; exact g1, g2, g3⟩
            · rw [List.getElem?_append_right (by omega)] at e
              have e0 : k - (S'.take S.length).length = 0 := by
                have := (List.getElem?_eq_some_iff.mp e).1
                simp only [List.length_singleton] at this
                exact Nat.lt_one_iff.mp this
              rw [e0] at e
              simp at e; subst e
              have ek : k = μ.length := by rw [ok.len, ← hlt]; omega
              exact ⟨c, vs, by rw [ek, List.getElem?_append_right (Nat.le_refl _), Nat.sub_self]; rfl, h2, h3⟩
          · rcases List.mem_append.mp m with m | m
            · exact .inl m
            · simp at m; subst m; exact .inr hH
          · rw [List.getElem?_append_left (by rw [hlt]; exact (List.getElem?_eq_some_iff.mp e).1), List.getElem?_take_of_lt (List.getElem?_eq_some_iff.mp e).1]
            exact s.dead k e
          · rw [← ok.len, List.getElem?_append_right (Nat.le_refl _), Nat.sub_self]; rfl
end
section
variable {P : Program} {w : World} {K : PySem.W.Frag} {mg : Str → Option Value} {base : Heap}
def runX (n : Nat) (m : CS) : List W → Sto → Option (Exn × Sto) := fun ws S => (m (startR n ws) S).bind fun p => match p.1 with
  | .ex x as => some ((x, as), p.2.2.take S.length)
  | _ => none
theorem fnG_of {x qual : Str} {st : Stmt} {f : Addr} {fd : FuncData} {N ps : List Str} {k : Nat} {m : CS} (F : Fun K x qual st f fd) (Sc : FnScope N ps (defScope st))
    (hb : ∀ (cdv : Value) (A : Around) (outer : List Env) (s : Shared) (H : Hp), Room k (A.deeper (envOfC qual (defScope st) s.heap.objs.size f cdv)) → A.guards = some [] →
      SSs (cxOf CX0 P w K mg base N qual (defScope st) f cdv A outer s H E0).nox (defBody st) m)
    (hx : ∀ (cdv : Value) (A : Around) (outer : List Env) (s : Shared) (H : Hp) (E : XK), Room k (A.deeper (envOfC qual (defScope st) s.heap.objs.size f cdv)) → A.guards = some [] →
      SSs (cxOf (L2.CX P w) P w K mg base N qual (defScope st) f cdv A outer s H E) (defBody st) m) : FnG P w K mg base (k + 1) f fd ps (runD N.length m) (runX N.length m) := by
  constructor
  · intro A outer s H args us vs E hr hg e0 hbi r hl ⟨μ, S, ws, ee, S', ok, rw0, e, q⟩
    obtain ⟨oc, od, kV, doc, pm, an, cdv, ct, osl, rfl, lk, hcd⟩ := F.ex
    have kp : ∀ b o, base.get? b = some o → s.heap.get? b = some o := fun b o z => (e0.bs b o z).1
    have hps : ps.length = us.length := by rw [← r.length]; exact hl.symm
    refine Att.call_fn (e0.mod.kin.keeps kp) (e0.mod.nolimit.keeps kp) lk hcd hr.depth hbi ?_ (fun s1 x => ?_) Sc.co Sc.gen Sc.kind
    · rw [List.all_eq_true]
      rintro ⟨n, v⟩ hy
      rcases Sc.par n (List.of_mem_zip hy).1 with z | z <;> simp [z]
    have I := inv_start (CX := L2.CX P w) (N := N) (qual := qual) (f := f) (cd := cdv) (E := E) Sc hr.hd e0 hl r x
    unfold runX at e
    cases hx2 : m (startR N.length ws) S with
    | none => rw [hx2] at e; cases e
    | some p =>
      obtain ⟨fl, ρ1, S1⟩ := p
      rw [hx2, Option.bind_some] at e
      have en := env_start N rw0
      cases fl with
      | nx => cases e
      | bk => cases e
      | ct => cases e
      | rt w => cases e
      | ex n as =>
        cases e
        have run := (hx cdv A outer s H E (hr.deeper _) hg).run [] s1 (L2.start N vs) H { nx := fun _ _ => False, rt := fun _ _ => False } I ⟨μ, S, _, .ex n as, ρ1, S1, ok, en, hx2, fun σ1 H1 μ1 st1 en1 => ?_⟩
        · refine wpAny_mono run (fun fl' s' z => ?_) fun _ _ z => z
          cases fl' with
          | next => obtain ⟨σ2, H2, J, q2⟩ := z; exact q2.elim
          | brk => obtain ⟨σ2, H2, J, q2⟩ := z; exact q2.elim
          | cont => obtain ⟨σ2, H2, J, q2⟩ := z; exact q2.elim
          | ret u => obtain ⟨v, σ2, H2, J, rv, q2⟩ := z; exact q2.elim
        · intro cls d xr
          exact WOf_of (takes_of (X := cxOf (L2.CX P w) P w K mg base N qual (defScope st) f cdv A outer s H E) (E := E) rfl rfl rfl rfl) (q cls d H1 μ (cut_step ok st1) xr)
  intro A outer s H args us vs Q hr hg e0 hbi r hl ⟨μ, S, ws, w0, S', ok, rw0, e, q⟩
  obtain ⟨oc, od, kV, doc, pm, an, cdv, ct, osl, rfl, lk, hcd⟩ := F.ex
  have kp : ∀ b o, base.get? b = some o → s.heap.get? b = some o := fun b o z => (e0.bs b o z).1
  have hps : ps.length = us.length := by rw [← r.length]; exact hl.symm
  refine Att.call_fn (e0.mod.kin.keeps kp) (e0.mod.nolimit.keeps kp) lk hcd hr.depth hbi ?_ (fun s1 x => ?_) Sc.co Sc.gen Sc.kind
  · rw [List.all_eq_true]
    rintro ⟨n, v⟩ hy
    rcases Sc.par n (List.of_mem_zip hy).1 with z | z <;> simp [z]
  have I := (inv_start (CX := CX0) (N := N) (qual := qual) (f := f) (cd := cdv) (E := E0) Sc hr.hd e0 hl r x).wish (fun _ _ => False)
  unfold runD at e
  cases hx : m (startR N.length ws) S with
  | none => rw [hx] at e; cases e
  | some p =>
    obtain ⟨fl, ρ1, S1⟩ := p
    rw [hx, Option.bind_some] at e
    have en := env_start N rw0
    -- what is wanted behind the body
    have run := (hb cdv A outer s H (hr.deeper _) hg).run [] s1 (L2.start N vs) H { nx := fun _ H' => Q .non H', rt := Q } I ⟨μ, S, _, fl, ρ1, S1, ok, en, hx, fun σ1 H1 μ1 st1 en1 => ?_⟩
    · refine wpAny_mono run (fun fl' s' z => ?_) fun _ _ z => z.elim
      have fin : ∀ {σ' : L2.St} {H' : Hp} {v : V} {u : Value}, Inv (cxOf CX0 P w K mg base N qual (defScope st) f cdv A outer s H E0).nox [] σ' H' s' → RelV v u → Q v H' → L2.CE outer P w H s Q u s' :=
        fun {σ' H' v u} J rv q' => ⟨v, H', J.os, J.bare, J.base, J.hok, rv, q'⟩
      cases fl' with
      | next => obtain ⟨σ2, H2, J, q2⟩ := z; exact fin (v := .non) J rfl q2
      | brk => obtain ⟨σ2, H2, J, q2⟩ := z; exact q2.elim
      | cont => obtain ⟨σ2, H2, J, q2⟩ := z; exact q2.elim
      | ret u => obtain ⟨v, σ2, H2, J, rv, q2⟩ := z; exact fin J rv q2
    · cases fl with
      | nx =>
        obtain ⟨μ2, st2, r2⟩ := leave_ok ok st1 e (.d .non)
        exact q _ H1 μ2 st2 r2
      | bk => cases e
      | ct => cases e
      | ex n as => cases e
      | rt wv =>
        intro v rv
        obtain ⟨μ2, st2, r2⟩ := leave_ok ok st1 e rv
        exact q _ H1 μ2 st2 r2
end
end PD

/-! PD, part 6: from the text to the functions, and that it is so. -/
namespace PD
open PySem PySem.Spec PyProof.Rows L2 RZ RT

structure Ctx where
  N : List Str
  fns : List (Str × Callee)
  cst : List (Str × PyData)
  bfn : List (Str × String)
  blts : List Str
  keep : Bool
  mu : List Pos
  /-- callees that may raise here -/
  xs : List Str
  /-- whether raise is told -/
  rz : Bool
  /-- own classes of exceptions, with their fields -/
  cls : List (Str × List Str)
  /-- the names of classes that except clauses and isinstance ask for -/
  nms : List Str
  /-- which class stands under which -/
  sub : List (Str × Str × Bool)
def vis (sc : Scope) (x : Str) : Bool := match sc.names.lookup x with
  | some .local => true
  | some .cell => true
  | some .free => true
  | _ => false
def gl (sc : Scope) (x : Str) : Bool := match sc.names.lookup x with
  | some .globalImplicit => true
  | _ => false
def lcl (sc : Scope) (x : Str) : Bool := match sc.names.lookup x with
  | some .local => true
  | _ => false
def cel (sc : Scope) (x : Str) : Bool := match sc.names.lookup x with
  | some .cell => true
  | _ => false
def okName (x : Str) : Bool := !(x == ("__debug__" : Str)) && !(x == ("__classdict__" : Str)) && !(x == ("__name__" : Str))
def slot : List Str → Str → Option Nat
  | [], _ => none
  | y :: r, x => if y == x then some 0 else (slot r x).bind fun i => some (i + 1)
def notStar : Expr → Bool
  | .Starred _ _ => false
  | _ => true
def notSet : Expr → Bool
  | .Set _ _ _ => false
  | _ => true
def notComp : Expr → Bool
  | .ListComp _ _ _ _ => false
  | .SetComp _ _ _ _ => false
  | .DictComp _ _ _ _ _ => false
  | _ => true

def binG (mu : Bool) (op : Operator) : Option (W → W → Sto → Option (W × Sto)) := if mu = true then (match op with
  | .Add => some addM
  | _ => none) else binF op
theorem so_binG {X : Cx} {mu : Bool} {op : Operator} {f : W → W → Sto → Option (W × Sto)} (h : binG mu op = some f) : OpR X (binaryOp op) (F2 X.K f) := by
  unfold binG at h
  split at h
  · cases op <;> cases h <;> exact so_addM
  · exact so_bin h
/-- a name in a display: what it holds is frozen -/
def frzO (f : Expr → Option CE) (e : Expr) : Option CE := match e with
  | .Name _ _ => (f e).bind fun m => some (frzE m)
  | _ => f e
def cArgs (f : Expr → Option CE) : List Expr → Option CL
  | [] => some nilL
  | e :: r => if notStar e = true then (f e).bind fun m => (cArgs f r).bind fun l => some (consL m l) else none
def cKws (f : Expr → Option CE) : List Keyword → Option CL
  | [] => some nilL
  | ⟨nm, e, _⟩ :: r => if nm.isSome = true then (f e).bind fun m => (cKws f r).bind fun l => some (consL m l) else none
def cAndE (f : Expr → Option CE) : List Expr → Option CE
  | [] => none
  | [a] => f a
  | a :: r => (f a).bind fun m => (cAndE f r).bind fun n => some (andE m n)
def cOrE (f : Expr → Option CE) : List Expr → Option CE
  | [] => none
  | [a] => f a
  | a :: r => (f a).bind fun m => (cOrE f r).bind fun n => some (orE m n)
def cAndB (f : Expr → Option CB) : List Expr → Option CB
  | [] => none
  | [a] => f a
  | a :: r => (f a).bind fun m => (cAndB f r).bind fun n => some (andB m n)
def cOrB (f : Expr → Option CB) : List Expr → Option CB
  | [] => none
  | [a] => f a
  | a :: r => (f a).bind fun m => (cOrB f r).bind fun n => some (orB m n)
def cOpt (f : Expr → Option CE) : Option Expr → Option CO
  | none => some noO
  | some e => (f e).bind fun m => some (someO m)
/-- a built-in: whether it is a type, its name, what it does -/
structure BSpec where
  ty : Bool
  id : String
  f : List W → Sto → Option (W × Sto)
def bOf (x : Str) : Option BSpec :=
  if x = "len" then some ⟨false, "len", pfN lenP⟩ else
  if x = "int" then some ⟨true, "int", pfN intP⟩ else
  if x = "tuple" then some ⟨true, "tuple", pfN tupleP⟩ else
  if x = "abs" then some ⟨false, "abs", pfN absP⟩ else
  if x = "repr" then some ⟨false, "repr", pfN reprP⟩ else
  if x = "max" then some ⟨false, "max", pfN maxP⟩ else
  if x = "min" then some ⟨false, "min", pfN minP⟩ else
  if x = "sum" then some ⟨false, "sum", pfN sumP⟩ else
  if x = "all" then some ⟨false, "all", pfN allP⟩ else
  if x = "list" then some ⟨true, "list", pfN listP⟩ else
  if x = "divmod" then some ⟨false, "divmod", pfN divmodP⟩ else none
def tyName (x : Str) : Option String :=
  if x = "tuple" then some "tuple" else
  if x = "int" then some "int" else
  if x = "bool" then some "bool" else
  if x = "list" then some "list" else
  if x = "str" then some "str" else none
def rgArgs (x : Str) : List Expr → Option (Expr × Expr)
  | [.Call (.Name r _) [a, b] [] _] => if (x == ("list" : Str) && r == ("range" : Str)) = true then some (a, b) else none
  | _ => none
def cCall (c : Ctx) (f : Expr → Option CE) (sc : Scope) (x : Str) (args : List Expr) (kws : List Keyword) : Option CE :=
  if (gl sc x && okName x) = true then
    match c.fns.lookup x with
    | some cal => (match kws with
      | [] => (match args with
        | [] => none
        | e :: r => (cArgs f (e :: r)).bind fun l => some (appE (callF cal) l))
      | k :: ks => (match cal.arr.find? (fun a => a.1 == args.length && a.2.1 == (k :: ks).filterMap (·.arg)) with
        | some a => (cArgs f args).bind fun l => (cKws f (k :: ks)).bind fun m => some (kwE cal a.2.2 l m)
        | none => none))
    | none => (match kws with
      | [] => (match c.bfn.lookup x with
        | some id => if id = "math.gcd" then (match args with
            | [] => none
            | e :: r => (cArgs f (e :: r)).bind fun l => some (appE (pfN gcdP) l)) else none
        | none => if c.blts.contains x = true then (
            if x = "isinstance" then (match args with
              | [a, .Name T _] => if (gl sc T && c.blts.contains T && okName T && notStar a) = true then (tyName T).bind fun t => (f a).bind fun m => some (isiE t m) else none
              | _ => none)
            else (match rgArgs x args with
              | some (a, b) => if (gl sc "range" && c.blts.contains "range" && notStar a && notStar b) = true then (f a).bind fun m => (f b).bind fun k => some (rangeLE m k) else none
              | none => (match args with
                | [] => none
                | e :: r => (bOf x).bind fun b => (cArgs f (e :: r)).bind fun l => some (appE b.f l)))) else none)
      | _ => none)
  else none
def cMeth (f : Expr → Option CE) (o : Expr) (name : Str) (apos cpos : Pos) (args : List Expr) : Option CE :=
  match o with
  | .Name _ _ => if (apos.endLine == cpos.line) = true then
      (if name = "append" then (match args with
        | [a] => if notStar a = true then (f o).bind fun m => (f a).bind fun n => some (appendE m n) else none
        | _ => none)
      else if name = "pop" then (match args with
        | [a] => if notStar a = true then (f o).bind fun m => (f a).bind fun n => some (popAtE m n) else none
        | [] => (f o).bind fun m => some (popE m)
        | _ => none)
      else if name = "insert" then (match args with
        | [a, b] => if (notStar a && notStar b) = true then (f o).bind fun m => (f a).bind fun n => (f b).bind fun k => some (insertE m n k) else none
        | _ => none) else none) else none
  | _ => none
def cIter (c : Ctx) (f : Expr → Option CE) (sc : Scope) (tg it : Expr) : Option CI :=
  match it with
  | .Call (.Name x _) args [] _ => if (gl sc x && (c.fns.lookup x).isNone && c.blts.contains x) = true then (
      if x = "range" then (match args with
        | [a] => if notStar a = true then (f a).bind fun m => some (range1I m) else none
        | [a, b] => if (notStar a && notStar b) = true then (f a).bind fun m => (f b).bind fun n => some (range2I m n) else none
        | _ => none)
      else if x = "zip" then (match tg, args with
        | .Tuple _ _ _, [a, b] => if (notStar a && notStar b) = true then (f a).bind fun m => (f b).bind fun n => some (zipI m n) else none
        | .Tuple _ _ _, [a, b, d] => if (notStar a && notStar b && notStar d) = true then (f a).bind fun m => (f b).bind fun n => (f d).bind fun o => some (zip3I m n o) else none
        | _, _ => none)
      else if x = "enumerate" then (match tg, args with
        | .Tuple _ _ _, [a] => if notStar a = true then (f a).bind fun m => some (enumI m) else none
        | _, _ => none)
      else (f it).bind fun m => some (seqI m))
      else (f it).bind fun m => some (seqI m)
  | .Name _ _ => (f it).bind fun m => some (seqI (frzE m))
  | _ => (f it).bind fun m => some (seqI m)
def cTgts (g : Expr → Option (CG × List Nat)) : List Expr → Option (CGs × List Nat)
  | [] => some (nilG, [])
  | e :: r => if notStar e = true then (g e).bind fun (p : CG × List Nat) => (cTgts g r).bind fun (q : CGs × List Nat) => some (consG p.1 q.1, p.2 ++ q.2) else none
def cTgt (c : Ctx) (f : Expr → Option CE) (df : Bool) (sc : Scope) : Nat → Expr → Option (CG × List Nat)
  | 0, _ => none
  | n + 1, .Name x _ => if (lcl sc x || (df && cel sc x)) = true then (slot c.N x).bind fun i => some (nameG i, [i]) else none
  | n + 1, .Tuple es _ _ => (cTgts (cTgt c f df sc n) es).bind fun (p : CGs × List Nat) => some (tupG es.length p.1, p.2)
  | n + 1, .Subscript a b _ => if isSlice b = false then (f a).bind fun m => (f b).bind fun k => some (subG m k, []) else none
  | _, _ => none
def ownOf (N : List Str) (scope : Scope) : List (Str × Nat) := scope.names.filterMap fun y => match y.2 with
  | .local => (slot N y.1).bind fun i => some (y.1, i)
  | .cell => (slot N y.1).bind fun i => some (y.1, i)
  | _ => none
def cIfs (t : Expr → Option CB) : List Expr → Option CB
  | [] => some yesB
  | [x] => t x
  | _ => none
def cComp (c : Ctx) (f : Scope → Expr → Option CE) (t : Scope → Expr → Option CB) (sc : Scope) (mu : Bool) (elt : Expr) (gens : List Comprehension) (scope : Scope) : Option CE :=
  match gens with
  | [⟨tg, iter, ifs, a⟩] =>
    if (decide (a = 0) && blkC c.N sc scope (ownOf c.N scope) && notSet iter) = true then
      (cIter c (f sc) sc tg iter).bind fun ci => (cTgt c (f (relS scope sc)) false (relS scope sc) 4 tg).bind fun (g : CG × List Nat) =>
        if (g.2.all fun i => ((ownOf c.N scope).map Prod.snd).contains i) = true then
          (cIfs (t (relS scope sc)) ifs).bind fun tt => (f (relS scope sc) elt).bind fun m => some (lcE ((ownOf c.N scope).map Prod.snd) mu ci g.1 tt m)
        else none
    else none
  | _ => none
def cCmp (f : Expr → Option CE) (a : Expr) (ops : List CmpOp) (bs : List Expr) : Option CE :=
  match ops, bs with
  | [op], [b] => (cmpF op).bind fun g => (f a).bind fun m => (f b).bind fun n => some (binE g m n)
  | [op, op'], [b, d] => (cmpF op).bind fun g => (cmpF op').bind fun g' => (f a).bind fun m => (f b).bind fun n => (f d).bind fun k => some (chE g g' m n k)
  | _, _ => none
def cE1 (c : Ctx) (f : Scope → Expr → Option CE) (t : Scope → Expr → Option CB) (sc : Scope) (e : Expr) : Option CE :=
  match e with
  | .Constant (.int i) _ _ => some (constE (.int i))
  | .Constant (.bool b) _ _ => some (constE (.bool b))
  | .Constant .none _ _ => some (constE .none)
  | .Constant (.str x) _ _ => some (constE (.str x))
  | .Name x _ => if okName x = true then (if vis sc x = true then (slot c.N x).bind fun i => some (varE i) else if gl sc x = true then (c.cst.lookup x).bind fun d => some (constE d) else none) else none
  | .BinOp a op b pos => (binG (c.mu.contains pos) op).bind fun g => (f sc a).bind fun m => (f sc b).bind fun n => some (binE g m n)
  | .UnaryOp .USub a _ => (f sc a).bind fun m => some (unE (pf1 negP) m)
  | .UnaryOp .Not a _ => (f sc a).bind fun m => some (notE m)
  | .BoolOp .And es _ => cAndE (f sc) es
  | .BoolOp .Or es _ => cOrE (f sc) es
  | .IfExp q a b _ => (t sc q).bind fun k => (f sc a).bind fun m => (f sc b).bind fun n => some (ifE k m n)
  | .Compare a ops bs _ => cCmp (f sc) a ops bs
  | .Call (.Name x _) args kws _ => cCall c (f sc) sc x args kws
  | .Call (.Attribute o name apos) args [] cpos => cMeth (f sc) o name apos cpos args
  | .Subscript a (.Slice lo hi none _) _ => (f sc a).bind fun m => (cOpt (f sc) lo).bind fun l => (cOpt (f sc) hi).bind fun h => some (sliceE m l h)
  | .Subscript a (.Slice none none (some (.UnaryOp .USub (.Constant (.int 1) _ _) _)) _) _ => (f sc a).bind fun m => some (revE m)
  | .Subscript a b _ => if isSlice b = false then (f sc a).bind fun m => (f sc b).bind fun n => some (binE (pf2 ixP) m n) else none
  | .List es pos => if c.mu.contains pos = true then (cArgs (f sc) es).bind fun l => some (appE lstM l) else (cArgs (frzO (f sc)) es).bind fun l => some (appE lstF l)
  | .Tuple es _ _ => (cArgs (frzO (f sc)) es).bind fun l => some (appE tupF l)
  | .ListComp elt gens scope pos => cComp c f t sc (c.mu.contains pos) elt gens scope
  | _ => none
def plainT : Expr → Bool
  | .UnaryOp _ _ _ => false
  | .BoolOp _ _ _ => false
  | .Compare _ _ _ _ => false
  | .IfExp _ _ _ _ => false
  | _ => true
def cT1 (f : Expr → Option CE) (t : Expr → Option CB) (e : Expr) : Option CB :=
  match e with
  | .UnaryOp .Not a _ => (t a).bind fun m => some (notB m)
  | .BoolOp .And es _ => cAndB t es
  | .BoolOp .Or es _ => cOrB t es
  | .Compare a ops bs _ => (cCmp f a ops bs).bind fun m => some (valB m)
  | e => if plainT e = true then (f e).bind fun m => some (valB m) else none
def cet (c : Ctx) : Nat → (Scope → Expr → Option CE) × (Scope → Expr → Option CB)
  | 0 => (fun _ _ => none, fun _ _ => none)
  | n + 1 => (cE1 c (cet c n).1 (cet c n).2, fun sc => cT1 ((cet c n).1 sc) ((cet c n).2 sc))

/-! ### that it is so -/
structure Agree (c : Ctx) (X : Cx) (sc : Scope) : Prop where
  N : X.N = c.N
  nd : X.N.Nodup
  sc : X.env.scope = sc
  calm : X.calm = true
  guards : X.A.guards = some []
  units : X.A.units + 70 < cLine
  fns : ∀ x cal, c.fns.lookup x = some cal → CalleeOk X x cal
  cst : ∀ x d, c.cst.lookup x = some d → ∃ u v, X.mg x = some u ∧ RelV v u ∧ ∀ H, Rep X.K H d v
  bfn : ∀ x id, c.bfn.lookup x = some id → X.mg x = some (.builtin id)
  blts : ∀ x ∈ c.blts, X.mg x = none
theorem slot_get : ∀ {N : List Str} {x : Str} {i : Nat}, slot N x = some i → N[i]? = some x
  | [], _, _, h => by cases h
  | y :: r, x, i, h => by
    unfold slot at h
    split at h
    · rename_i e
      cases h
      rw [eq_of_beq e]; rfl
    · cases e : slot r x with
      | none => rw [e] at h; cases h
      | some j =>
        rw [e, Option.bind_some] at h
        cases h
        simpa using slot_get e
theorem vis_ok {sc : Scope} {x : Str} (h : vis sc x = true) : Vis sc x := by
  unfold vis at h
  split at h
  · exact .inl (by assumption)
  · exact .inr (.inl (by assumption))
  · exact .inr (.inr (by assumption))
  · cases h
theorem lcl_ok {sc : Scope} {x : Str} (h : lcl sc x = true) : sc.names.lookup x = some .local := by
  unfold lcl at h
  split at h
  · assumption
  · cases h
theorem cel_ok {sc : Scope} {x : Str} (h : cel sc x = true) : sc.names.lookup x = some .cell := by
  unfold cel at h
  split at h
  · assumption
  · cases h
theorem gl_ok {c : Ctx} {X : Cx} {sc : Scope} (A : Agree c X sc) {x : Str} (h : gl sc x = true) : Gl X x := by
  unfold gl at h
  split at h
  · show X.env.scope.names.lookup x = _
    rw [A.sc]; assumption
  · cases h
theorem okName_ok {x : Str} (h : okName x = true) : (x == ("__debug__" : Str)) = false ∧ (x == ("__classdict__" : Str)) = false ∧ x ≠ "__name__" := by
  unfold okName at h
  simp only [Bool.and_eq_true, Bool.not_eq_true'] at h
  exact ⟨h.1.1, h.1.2, fun e => by rw [e] at h; simp at h⟩
theorem star_cons {e : Expr} (h : notStar e = true) (es : List Expr) (env : Env) : starEach (e :: es) env = (false, eval e env) :: starEach es env := by
  cases e <;> first | rfl | cases h
theorem star_one {e : Expr} (h : notStar e = true) (env : Env) : starEach [e] env = [(false, eval e env)] := star_cons h [] env
theorem cArgs_star {f : Expr → Option CE} : ∀ {es : List Expr} {l : CL}, cArgs f es = some l → ∀ (env : Env) (pos : Pos), (backTo pos (starEach es env)).any (·.1) = false
  | [], _, _, _, _ => rfl
  | e :: r, l, h, env, pos => by
    unfold cArgs at h
    split at h
    · rename_i hs
      cases h1 : f e with
      | none => rw [h1] at h; cases h
      | some m =>
        rw [h1, Option.bind_some] at h
        cases h2 : cArgs f r with
        | none => rw [h2] at h; cases h
        | some l2 =>
          rw [star_cons hs]
          show (false || (backTo pos (starEach r env)).any (·.1)) = false
          rw [cArgs_star h2, Bool.false_or]
    · cases h
theorem cArgs_head {f : Expr → Option CE} {e : Expr} {r : List Expr} {l : CL} (h : cArgs f (e :: r) = some l) : notStar e = true := by
  unfold cArgs at h
  split at h
  · assumption
  · cases h
theorem cArgs_tail {f : Expr → Option CE} {e : Expr} {r : List Expr} {l : CL} (h : cArgs f (e :: r) = some l) : ∃ l2, cArgs f r = some l2 := by
  unfold cArgs at h
  split at h
  · cases h1 : f e with
    | none => rw [h1] at h; cases h
    | some m =>
      rw [h1, Option.bind_some] at h
      cases h2 : cArgs f r with
      | none => rw [h2] at h; cases h
      | some l2 => exact ⟨l2, rfl⟩
  · cases h
theorem consL_len {m : CE} {l : CL} {n : Nat} (hl : ∀ ρ S r, l ρ S = some r → r.1.length = n) : ∀ ρ S r, consL m l ρ S = some r → r.1.length = n + 1 := by
  intro ρ S r h
  unfold consL at h
  cases h1 : m ρ S with
  | none => rw [h1] at h; cases h
  | some p =>
    rw [h1, Option.bind_some] at h
    cases h2 : l ρ p.2 with
    | none => rw [h2] at h; cases h
    | some q =>
      rw [h2, Option.bind_some] at h
      cases h
      simp [hl _ _ _ h2]
theorem cArgs_len {f : Expr → Option CE} : ∀ {es : List Expr} {l : CL}, cArgs f es = some l → ∀ ρ S r, l ρ S = some r → r.1.length = es.length
  | [], l, h, ρ, S, r, e => by cases h; cases e; rfl
  | e :: r, l, h, ρ, S, q, z => by
    unfold cArgs at h
    split at h
    · cases h1 : f e with
      | none => rw [h1] at h; cases h
      | some m =>
        rw [h1, Option.bind_some] at h
        cases h2 : cArgs f r with
        | none => rw [h2] at h; cases h
        | some l2 =>
          rw [h2, Option.bind_some] at h
          cases h
          exact consL_len (cArgs_len h2) ρ S q z
    · cases h
theorem cKws_len {f : Expr → Option CE} : ∀ {es : List Keyword} {l : CL}, cKws f es = some l → ∀ ρ S r, l ρ S = some r → r.1.length = (es.filterMap (·.arg)).length
  | [], l, h, ρ, S, r, e => by cases h; cases e; rfl
  | ⟨nm, e, _⟩ :: r, l, h, ρ, S, q, z => by
    unfold cKws at h
    split at h
    · rename_i hn
      cases h1 : f e with
      | none => rw [h1] at h; cases h
      | some m =>
        rw [h1, Option.bind_some] at h
        cases h2 : cKws f r with
        | none => rw [h2] at h; cases h
        | some l2 =>
          rw [h2, Option.bind_some] at h
          cases h
          have := consL_len (cKws_len h2) ρ S q z
          obtain ⟨k, rfl⟩ := Option.isSome_iff_exists.mp hn
          simpa using this
    · cases h
theorem kws_all {f : Expr → Option CE} : ∀ {es : List Keyword} {l : CL}, cKws f es = some l → ∀ (env : Env) (pos : Pos), (backToKw pos (keywordEach es env)).all (·.1.isSome) = true ∧ (backToKw pos (keywordEach es env)).filterMap (·.1) = es.filterMap (·.arg) ∧ (backToKw pos (keywordEach es env)).any (·.1.isNone) = false
  | [], _, _, _, _ => ⟨rfl, rfl, rfl⟩
  | ⟨nm, e, p⟩ :: r, l, h, env, pos => by
    unfold cKws at h
    split at h
    · rename_i hn
      cases h1 : f e with
      | none => rw [h1] at h; cases h
      | some m =>
        rw [h1, Option.bind_some] at h
        cases h2 : cKws f r with
        | none => rw [h2] at h; cases h
        | some l2 =>
          obtain ⟨k, rfl⟩ := Option.isSome_iff_exists.mp hn
          obtain ⟨a, b, d⟩ := kws_all h2 env pos
          refine ⟨?_, ?_, ?_⟩
          · show (true && (backToKw pos (keywordEach r env)).all (·.1.isSome)) = true
            rw [a]; rfl
          · show k :: (backToKw pos (keywordEach r env)).filterMap (·.1) = k :: r.filterMap (·.arg)
            rw [b]
          · show (false || (backToKw pos (keywordEach r env)).any (·.1.isNone)) = false
            rw [d]; rfl
    · cases h
section
variable {X : Cx} {f : Expr → Option CE} {t : Expr → Option CB}
theorem frzO_ok {f : Expr → Option CE} (hf : ∀ e m, f e = some m → SE X e m) : ∀ e m, frzO f e = some m → SE X e m := by
  intro e m h
  unfold frzO at h
  split at h
  · cases h1 : f _ with
    | none => rw [h1] at h; cases h
    | some k => rw [h1, Option.bind_some] at h; cases h; exact se_frz (hf _ _ h1)
  · exact hf _ _ h
theorem cArgs_ok (hf : ∀ e m, f e = some m → SE X e m) : ∀ {es : List Expr} {l : CL}, cArgs f es = some l → SL X es l
  | [], _, h => by cases h; exact sl_nil
  | e :: r, l, h => by
    unfold cArgs at h
    split at h
    · rename_i hs
      cases h1 : f e with
      | none => rw [h1] at h; cases h
      | some m =>
        rw [h1, Option.bind_some] at h
        cases h2 : cArgs f r with
        | none => rw [h2] at h; cases h
        | some l2 =>
          rw [h2, Option.bind_some] at h
          cases h
          exact sl_cons (hf _ _ h1) (cArgs_ok hf h2) (star_cons hs _ _)
    · cases h
theorem cKws_ok (hf : ∀ e m, f e = some m → SE X e m) : ∀ {es : List Keyword} {l : CL}, cKws f es = some l → SK X es l
  | [], _, h => by cases h; exact sk_nil
  | ⟨nm, e, p⟩ :: r, l, h => by
    unfold cKws at h
    split at h
    · cases h1 : f e with
      | none => rw [h1] at h; cases h
      | some m =>
        rw [h1, Option.bind_some] at h
        cases h2 : cKws f r with
        | none => rw [h2] at h; cases h
        | some l2 =>
          rw [h2, Option.bind_some] at h
          cases h
          exact sk_cons (hf _ _ h1) (cKws_ok hf h2)
    · cases h
theorem cAndE_ok (hf : ∀ e m, f e = some m → SE X e m) {pos : Pos} : ∀ {es : List Expr} {m : CE}, cAndE f es = some m → SE X (.BoolOp .And es pos) m
  | [], _, h => by cases h
  | [a], _, h => pe_one (hf _ _ h)
  | a :: b :: r, m, h => by
    unfold cAndE at h
    cases h1 : f a with
    | none => rw [h1] at h; cases h
    | some k =>
      rw [h1, Option.bind_some] at h
      cases h2 : cAndE f (b :: r) with
      | none => rw [h2] at h; cases h
      | some n =>
        rw [h2, Option.bind_some] at h
        cases h
        exact PE.imp (pe_and (hf _ _ h1) (cAndE_ok hf h2)) fun _ _ _ q => rd_andE q
theorem cOrE_ok (hf : ∀ e m, f e = some m → SE X e m) {pos : Pos} : ∀ {es : List Expr} {m : CE}, cOrE f es = some m → SE X (.BoolOp .Or es pos) m
  | [], _, h => by cases h
  | [a], _, h => pe_one (hf _ _ h)
  | a :: b :: r, m, h => by
    unfold cOrE at h
    cases h1 : f a with
    | none => rw [h1] at h; cases h
    | some k =>
      rw [h1, Option.bind_some] at h
      cases h2 : cOrE f (b :: r) with
      | none => rw [h2] at h; cases h
      | some n =>
        rw [h2, Option.bind_some] at h
        cases h
        exact PE.imp (pe_or (hf _ _ h1) (cOrE_ok hf h2)) fun _ _ _ q => rd_orE q
theorem cAndB_ok (ht : ∀ e m, t e = some m → SB X e m) {pos : Pos} : ∀ {es : List Expr} {m : CB}, cAndB t es = some m → PW X (.BoolOp .And es pos) (rdB X.K m)
  | [], _, h => by cases h
  | [a], _, h => pw_and1 (ht _ _ h)
  | a :: b :: r, m, h => by
    unfold cAndB at h
    cases h1 : t a with
    | none => rw [h1] at h; cases h
    | some k =>
      rw [h1, Option.bind_some] at h
      cases h2 : cAndB t (b :: r) with
      | none => rw [h2] at h; cases h
      | some n =>
        rw [h2, Option.bind_some] at h
        cases h
        exact PW.imp (pw_and (ht _ _ h1) (cAndB_ok ht h2)) fun _ _ _ q => rd_andB q
theorem cOrB_ok (ht : ∀ e m, t e = some m → SB X e m) {pos : Pos} : ∀ {es : List Expr} {m : CB}, cOrB t es = some m → PW X (.BoolOp .Or es pos) (rdB X.K m)
  | [], _, h => by cases h
  | [a], _, h => pw_or1 (ht _ _ h)
  | a :: b :: r, m, h => by
    unfold cOrB at h
    cases h1 : t a with
    | none => rw [h1] at h; cases h
    | some k =>
      rw [h1, Option.bind_some] at h
      cases h2 : cOrB t (b :: r) with
      | none => rw [h2] at h; cases h
      | some n =>
        rw [h2, Option.bind_some] at h
        cases h
        exact PW.imp (pw_or (ht _ _ h1) (cOrB_ok ht h2)) fun _ _ _ q => rd_orB q
theorem cOpt_ok (hf : ∀ e m, f e = some m → SE X e m) {o : Option Expr} {m : CO} (h : cOpt f o = some m) : SO X o m := by
  unfold cOpt at h
  split at h
  · cases h; exact so_none
  · rename_i e
    cases h1 : f e with
    | none => rw [h1] at h; cases h
    | some k => rw [h1, Option.bind_some] at h; cases h; exact so_some (hf _ _ h1)
theorem cCmp_cases {a : Expr} {ops : List CmpOp} {bs : List Expr} {m : CE} (hu : X.A.units + 64 < cLine) (hf : ∀ e m, f e = some m → SE X e m) (h : cCmp f a ops bs = some m) (pos : Pos) : SE X (.Compare a ops bs pos) m ∧ SB X (.Compare a ops bs pos) (valB m) := by
  unfold cCmp at h
  split at h
  · rename_i op b
    cases h0 : cmpF op with
    | none => rw [h0] at h; cases h
    | some g =>
      cases h1 : f a with
      | none => rw [h0, Option.bind_some, h1] at h; cases h
      | some k =>
        cases h2 : f b with
        | none => rw [h0, Option.bind_some, h1, Option.bind_some, h2] at h; cases h
        | some n =>
          rw [h0, Option.bind_some, h1, Option.bind_some, h2, Option.bind_some] at h
          cases h
          exact ⟨se_cmp (so_cmp hu h0) (hf _ _ h1) (hf _ _ h2) (cmp_mark h0 b), sb_cmp (so_cmp hu h0) (hf _ _ h1) (hf _ _ h2) (cmp_mark h0 b)⟩
  · rename_i op op' b d
    cases h0 : cmpF op with
    | none => rw [h0] at h; cases h
    | some g =>
      cases h0' : cmpF op' with
      | none => rw [h0, Option.bind_some, h0'] at h; cases h
      | some g' =>
        cases h1 : f a with
        | none => rw [h0, Option.bind_some, h0', Option.bind_some, h1] at h; cases h
        | some k =>
          cases h2 : f b with
          | none => rw [h0, Option.bind_some, h0', Option.bind_some, h1, Option.bind_some, h2] at h; cases h
          | some n =>
            cases h3 : f d with
            | none => rw [h0, Option.bind_some, h0', Option.bind_some, h1, Option.bind_some, h2, Option.bind_some, h3] at h; cases h
            | some j =>
              rw [h0, Option.bind_some, h0', Option.bind_some, h1, Option.bind_some, h2, Option.bind_some, h3, Option.bind_some] at h
              cases h
              exact ⟨se_chain (so_cmp hu h0) (so_cmp hu h0') (hf _ _ h1) (hf _ _ h2) (hf _ _ h3) (cmp_mark h0' d), sb_chain (so_cmp hu h0) (so_cmp hu h0') (hf _ _ h1) (hf _ _ h2) (hf _ _ h3) (cmp_mark h0' d)⟩
  · cases h
end
theorem mem_of_contains {α : Type} [BEq α] [LawfulBEq α] {l : List α} {x : α} (h : l.contains x = true) : x ∈ l := by simpa using h
theorem tyName_ok {T : Str} {t : String} (h : tyName T = some t) : bootBuiltins T = some (.type t) := by
  unfold tyName at h
  split at h
  · cases h; rename_i e; rw [e]; decide +kernel
  · split at h
    · cases h; rename_i e; rw [e]; decide +kernel
    · split at h
      · cases h; rename_i e; rw [e]; decide +kernel
      · split at h
        · cases h; rename_i e; rw [e]; decide +kernel
        · split at h
          · cases h; rename_i e; rw [e]; decide +kernel
          · cases h
section
variable {c : Ctx} {X : Cx} {sc : Scope} {f : Expr → Option CE}
theorem bOf_ok (A : Agree c X sc) {x : Str} {b : BSpec} (h : bOf x = some b) {e : Expr} {es : List Expr} {ml : CL} {p pos : Pos} (hg : Gl X x) (hm : X.mg x = none) (ha : SL X (e :: es) ml) (hn : x ≠ "__name__") (hdb : (x == ("__debug__" : Str)) = false)
    (he : starEach (e :: es) X.env = (false, eval e X.env) :: starEach es X.env) (hpl : (backTo pos (starEach es X.env)).any (·.1) = false) : SE X (.Call (.Name x p) (e :: es) [] pos) (appE b.f ml) := by
  have B : ∀ {id : String} {g : List W → Sto → Option (W × Sto)}, CallR X (.builtin id) (FN X.K g) → bootBuiltins x = some (.builtin id) → SE X (.Call (.Name x p) (e :: es) [] pos) (appE g ml) := fun hc hv =>
    PE.imp (pe_callB hc hg hm hv ha hn hdb he hpl) fun _ _ _ h => rd_app h
  have T : ∀ {id : String} {g : List W → Sto → Option (W × Sto)}, CallR X (.type id) (FN X.K g) → bootBuiltins x = some (.type id) → SE X (.Call (.Name x p) (e :: es) [] pos) (appE g ml) := fun hc hv =>
    PE.imp (pe_callTy hc hg hm hv ha hn hdb he hpl) fun _ _ _ h => rd_app h
  unfold bOf at h
  split at h
  · cases h; rename_i z; exact B sc_len (by rw [z]; decide +kernel)
  · split at h
    · cases h; rename_i z; exact T sc_int (by rw [z]; decide +kernel)
    · split at h
      · cases h; rename_i z; exact T sc_tuple (by rw [z]; decide +kernel)
      · split at h
        · cases h; rename_i z; exact B sc_abs (by rw [z]; decide +kernel)
        · split at h
          · cases h; rename_i z; exact B (sc_repr A.guards A.units) (by rw [z]; decide +kernel)
          · split at h
            · cases h; rename_i z; exact B (sc_max A.calm) (by rw [z]; decide +kernel)
            · split at h
              · cases h; rename_i z; exact B (sc_min A.calm) (by rw [z]; decide +kernel)
              · split at h
                · cases h; rename_i z; exact B (sc_sum A.calm) (by rw [z]; decide +kernel)
                · split at h
                  · cases h; rename_i z; exact B (sc_all A.calm) (by rw [z]; decide +kernel)
                  · split at h
                    · cases h; rename_i z; exact T sc_list (by rw [z]; decide +kernel)
                    · split at h
                      · cases h; rename_i z; exact B sc_divmod (by rw [z]; decide +kernel)
                      · cases h
theorem cCall_ok (A : Agree c X sc) (hf : ∀ e m, f e = some m → SE X e m) {x : Str} {args : List Expr} {kws : List Keyword} {m : CE} {p pos : Pos} (h : cCall c f sc x args kws = some m) : SE X (.Call (.Name x p) args kws pos) m := by
  unfold cCall at h
  split at h
  rotate_left
  · cases h
  rename_i hx
  simp only [Bool.and_eq_true] at hx
  have hg := gl_ok A hx.1
  obtain ⟨n1, n2, n3⟩ := okName_ok hx.2
  split at h
  · rename_i cal hc
    have C := A.fns _ _ hc
    split at h
    · split at h
      · cases h
      · rename_i e r
        cases h1 : cArgs f (e :: r) with
        | none => rw [h1] at h; cases h
        | some l =>
          rw [h1, Option.bind_some] at h
          cases h
          obtain ⟨l2, h2⟩ := cArgs_tail h1
          exact se_call C hg (cArgs_ok hf h1) n1 (star_cons (cArgs_head h1) _ _) (cArgs_star h2 _ _)
    · rename_i k ks
      split at h
      · rename_i a ha
        cases h1 : cArgs f args with
        | none => rw [h1] at h; cases h
        | some l =>
          rw [h1, Option.bind_some] at h
          cases h2 : cKws f (k :: ks) with
          | none => rw [h2] at h; cases h
          | some mk =>
            rw [h2, Option.bind_some] at h
            cases h
            have hin := List.mem_of_find?_eq_some ha
            have hp := List.find?_some ha
            simp only [Bool.and_eq_true, beq_iff_eq] at hp
            obtain ⟨a1, a2, a3⟩ := a
            simp only at hp hin ⊢
            obtain ⟨q1, q2, q3⟩ := kws_all h2 X.env pos
            cases args with
            | nil =>
              cases h1
              refine se_callK0 (ks := a2) C hg (cKws_ok hf h2) (fun ρ S r z => by rw [cKws_len h2 ρ S r z, ← hp.2]) (by rw [hp.1] at hin; exact hin) q1 (by rw [q2, hp.2]) n1 (by rw [q3]; rfl)
            | cons e r =>
              obtain ⟨l2, h3⟩ := cArgs_tail h1
              refine se_callK (ks := a2) C hg (cArgs_ok hf h1) (cKws_ok hf h2) (cArgs_len h1) (fun ρ S r z => by rw [cKws_len h2 ρ S r z, ← hp.2]) (by rw [hp.1] at hin; exact hin) q1 (by rw [q2, hp.2]) n1 (star_cons (cArgs_head h1) _ _) (by rw [q3, cArgs_star h1]; rfl)
      · cases h
  · split at h
    rotate_left
    · cases h
    split at h
    · rename_i id hb
      split at h
      rotate_left
      · cases h
      rename_i hid
      subst hid
      split at h
      · cases h
      · rename_i e r
        cases h1 : cArgs f (e :: r) with
        | none => rw [h1] at h; cases h
        | some l =>
          rw [h1, Option.bind_some] at h
          cases h
          obtain ⟨l2, h2⟩ := cArgs_tail h1
          exact PE.imp (pe_callBfun sc_gcd hg (A.bfn _ _ hb) (cArgs_ok hf h1) n1 (star_cons (cArgs_head h1) _ _) (cArgs_star h2 _ _)) fun _ _ _ h => rd_app h
    · split at h
      rotate_left
      · cases h
      rename_i hbl
      have hm := A.blts x (mem_of_contains hbl)
      split at h
      · rename_i hx2
        subst hx2
        split at h
        · rename_i a T pT
          split at h
          rotate_left
          · cases h
          rename_i hT
          simp only [Bool.and_eq_true] at hT
          obtain ⟨⟨⟨t1, t2⟩, t3⟩, t4⟩ := hT
          cases h1 : tyName T with
          | none => rw [h1] at h; cases h
          | some t =>
            rw [h1, Option.bind_some] at h
            cases h2 : f a with
            | none => rw [h2] at h; cases h
            | some ma =>
              rw [h2, Option.bind_some] at h
              cases h
              obtain ⟨o1, o2, o3⟩ := okName_ok t3
              exact se_isi (hf _ _ h2) hg hm (gl_ok A t1) (A.blts T (mem_of_contains t2)) (tyName_ok h1) o3 o1 (star_cons t4 _ _)
        · cases h
      · split at h
        · rename_i a b hr
          split at h
          rotate_left
          · cases h
          rename_i hT
          simp only [Bool.and_eq_true] at hT
          obtain ⟨⟨⟨t1, t2⟩, t3⟩, t4⟩ := hT
          unfold rgArgs at hr
          split at hr
          rotate_left
          · cases hr
          rename_i r p1 a' b' p2
          split at hr
          rotate_left
          · cases hr
          rename_i hxr
          simp only [Bool.and_eq_true] at hxr
          cases hr
          have e1 := eq_of_beq hxr.1
          have e2 := eq_of_beq hxr.2
          subst e1 e2
          cases h1 : f a with
          | none => rw [h1] at h; cases h
          | some ma =>
            rw [h1, Option.bind_some] at h
            cases h2 : f b with
            | none => rw [h2] at h; cases h
            | some mb =>
              rw [h2, Option.bind_some] at h
              cases h
              refine se_rangeL A.calm (hf _ _ h1) (hf _ _ h2) hg hm (gl_ok A t1) (A.blts _ (mem_of_contains t2)) (star_cons t3 _ _) (star_cons t4 _ _) ?_
              rw [star_one t4]; rfl
        rename_i hrn
        clear hrn
        split at h
        · cases h
        · rename_i e r
          cases h0 : bOf x with
          | none => rw [h0] at h; cases h
          | some b =>
            rw [h0, Option.bind_some] at h
            cases h1 : cArgs f (e :: r) with
            | none => rw [h1] at h; cases h
            | some l =>
              rw [h1, Option.bind_some] at h
              cases h
              obtain ⟨l2, h2⟩ := cArgs_tail h1
              exact bOf_ok A h0 hg hm (cArgs_ok hf h1) n3 n1 (star_cons (cArgs_head h1) _ _) (cArgs_star h2 _ _)
theorem cMeth_ok (hf : ∀ e m, f e = some m → SE X e m) {o : Expr} {name : Str} {apos cpos : Pos} {args : List Expr} {m : CE} (h : cMeth f o name apos cpos args = some m) : SE X (.Call (.Attribute o name apos) args [] cpos) m := by
  unfold cMeth at h
  split at h
  rotate_left
  · cases h
  rename_i x px
  split at h
  rotate_left
  · cases h
  rename_i hl
  split at h
  · rename_i hn
    subst hn
    split at h
    · rename_i a
      split at h
      · rename_i hs
        cases h1 : f (.Name x px) with
        | none => rw [h1] at h; cases h
        | some mo =>
          rw [h1, Option.bind_some] at h
          cases h2 : f a with
          | none => rw [h2] at h; cases h
          | some ma =>
            rw [h2, Option.bind_some] at h
            cases h
            exact se_append (hf _ _ h1) (hf _ _ h2) rfl hl (star_one hs _)
      · cases h
    · cases h
  · split at h
    · rename_i hn
      subst hn
      split at h
      · rename_i a
        split at h
        · rename_i hs
          cases h1 : f (.Name x px) with
          | none => rw [h1] at h; cases h
          | some mo =>
            rw [h1, Option.bind_some] at h
            cases h2 : f a with
            | none => rw [h2] at h; cases h
            | some ma =>
              rw [h2, Option.bind_some] at h
              cases h
              exact se_popAt (hf _ _ h1) (hf _ _ h2) rfl hl (star_one hs _)
        · cases h
      · cases h1 : f (.Name x px) with
        | none => rw [h1] at h; cases h
        | some mo =>
          rw [h1, Option.bind_some] at h
          cases h
          exact se_pop (hf _ _ h1) rfl hl
      · cases h
    · split at h
      · rename_i hn
        subst hn
        split at h
        · rename_i a b
          split at h
          · rename_i hs
            simp only [Bool.and_eq_true] at hs
            cases h1 : f (.Name x px) with
            | none => rw [h1] at h; cases h
            | some mo =>
              rw [h1, Option.bind_some] at h
              cases h2 : f a with
              | none => rw [h2] at h; cases h
              | some ma =>
                rw [h2, Option.bind_some] at h
                cases h3 : f b with
                | none => rw [h3] at h; cases h
                | some mb =>
                  rw [h3, Option.bind_some] at h
                  cases h
                  exact se_insert (hf _ _ h1) (hf _ _ h2) (hf _ _ h3) rfl hl (by rw [star_cons hs.1, star_one hs.2]) (star_one hs.2 _)
          · cases h
        · cases h
      · cases h
theorem rev_ok (hf : ∀ e m, f e = some m → SE X e m) {a : Expr} {k : Nat} {p1 p2 p3 pos : Pos} {m : CE} (h : ((f a).bind fun m => some (revE m)) = some m) : SE X (.Subscript a (.Slice none none (some (.UnaryOp .USub (.Constant (.int 1) k p1) p2)) p3) pos) m := by
  cases h1 : f a with
  | none => rw [h1] at h; cases h
  | some k => rw [h1, Option.bind_some] at h; cases h; exact se_rev (hf _ _ h1)
theorem seq_of (hf : ∀ e m, f e = some m → SE X e m) {tg it : Expr} {ci : CI} (h : ((f it).bind fun m => some (seqI m)) = some ci) : SI X tg it ci := by
  cases h1 : f it with
  | none => rw [h1] at h; cases h
  | some m => rw [h1, Option.bind_some] at h; cases h; exact si_seq (hf _ _ h1)
theorem cIter_ok (A : Agree c X sc) (hf : ∀ e m, f e = some m → SE X e m) {tg it : Expr} {ci : CI} (h : cIter c f sc tg it = some ci) : SI X tg it ci := by
  unfold cIter at h
  split at h
  rotate_left
  · cases h1 : f _ with
    | none => rw [h1] at h; cases h
    | some m => rw [h1, Option.bind_some] at h; cases h; exact si_seq (se_frz (hf _ _ h1))
  · exact seq_of hf h
  rename_i x px args pos
  split at h
  rotate_left
  · exact seq_of hf h
  rename_i hx
  simp only [Bool.and_eq_true] at hx
  have hg := gl_ok A hx.1.1
  have hm := A.blts x (mem_of_contains hx.2)
  split at h
  · rename_i hn
    subst hn
    split at h
    · rename_i a
      split at h
      · rename_i hs
        cases h1 : f a with
        | none => rw [h1] at h; cases h
        | some m => rw [h1, Option.bind_some] at h; cases h; exact si_range1 (hf _ _ h1) hg hm (star_one hs _)
      · cases h
    · rename_i a b
      split at h
      · rename_i hs
        simp only [Bool.and_eq_true] at hs
        cases h1 : f a with
        | none => rw [h1] at h; cases h
        | some m =>
          rw [h1, Option.bind_some] at h
          cases h2 : f b with
          | none => rw [h2] at h; cases h
          | some n => rw [h2, Option.bind_some] at h; cases h; exact si_range2 (hf _ _ h1) (hf _ _ h2) hg hm (by rw [star_cons hs.1, star_one hs.2]) (star_one hs.2 _)
      · cases h
    · cases h
  · split at h
    · rename_i hn
      subst hn
      split at h
      · rename_i a b
        split at h
        · rename_i hs
          simp only [Bool.and_eq_true] at hs
          cases h1 : f a with
          | none => rw [h1] at h; cases h
          | some m =>
            rw [h1, Option.bind_some] at h
            cases h2 : f b with
            | none => rw [h2] at h; cases h
            | some n => rw [h2, Option.bind_some] at h; cases h; exact si_zip (hf _ _ h1) (hf _ _ h2) hg hm (star_cons hs.1 _ _) (star_one hs.2 _)
        · cases h
      · rename_i a b d
        split at h
        · rename_i hs
          simp only [Bool.and_eq_true] at hs
          cases h1 : f a with
          | none => rw [h1] at h; cases h
          | some m =>
            rw [h1, Option.bind_some] at h
            cases h2 : f b with
            | none => rw [h2] at h; cases h
            | some n =>
              rw [h2, Option.bind_some] at h
              cases h3 : f d with
              | none => rw [h3] at h; cases h
              | some o => rw [h3, Option.bind_some] at h; cases h; exact si_zip3 (hf _ _ h1) (hf _ _ h2) (hf _ _ h3) hg hm (star_cons hs.1.1 _ _) (star_cons hs.1.2 _ _) (star_one hs.2 _)
        · cases h
      · cases h
    · split at h
      · rename_i hn
        subst hn
        split at h
        · rename_i a
          split at h
          · rename_i hs
            cases h1 : f a with
            | none => rw [h1] at h; cases h
            | some m => rw [h1, Option.bind_some] at h; cases h; exact si_enum (hf _ _ h1) hg hm (star_one hs _)
          · cases h
        · cases h
      · exact seq_of hf h
theorem asg_each {g : Expr → Option (CG × List Nat)} : ∀ {es : List Expr} {p : CGs × List Nat}, cTgts g es = some p → ∀ env : Env, (assignEach es env).length = es.length ∧ (assignEach es env).findIdx? (·.1) = none
  | [], _, _, _ => ⟨rfl, rfl⟩
  | e :: r, p, h, env => by
    unfold cTgts at h
    split at h
    · rename_i hs
      cases h1 : g e with
      | none => rw [h1] at h; cases h
      | some q =>
        rw [h1, Option.bind_some] at h
        cases h2 : cTgts g r with
        | none => rw [h2] at h; cases h
        | some q2 =>
          obtain ⟨a, b⟩ := asg_each h2 env
          have e1 : assignEach (e :: r) env = (false, assign e env) :: assignEach r env := by cases e <;> first | rfl | cases hs
          rw [e1]
          refine ⟨by simp [a], ?_⟩
          rw [List.findIdx?_cons]
          simp [b]
    · cases h
theorem asg_one {e : Expr} (hs : notStar e = true) (es : List Expr) (env : Env) : (assignEach (e :: es) env).map (·.2) = assign e env :: (assignEach es env).map (·.2) := by
  cases e <;> first | rfl | cases hs
theorem cTgts_ok {g : Expr → Option (CG × List Nat)} (hgg : ∀ e p, g e = some p → SG X e p.1 p.2) : ∀ {es : List Expr} {p : CGs × List Nat}, cTgts g es = some p → SGs X es p.1 p.2
  | [], _, h => by cases h; exact sgs_nil
  | e :: r, p, h => by
    unfold cTgts at h
    split at h
    · rename_i hs
      cases h1 : g e with
      | none => rw [h1] at h; cases h
      | some q =>
        rw [h1, Option.bind_some] at h
        cases h2 : cTgts g r with
        | none => rw [h2] at h; cases h
        | some q2 =>
          rw [h2, Option.bind_some] at h
          cases h
          exact sgs_cons (hgg _ _ h1) (cTgts_ok hgg h2) (asg_one hs _ _)
    · cases h
theorem cTgt_ok (A : Agree c X sc) (hf : ∀ e m, f e = some m → SE X e m) {df : Bool} (hd : df = true → ∀ x, X.fn x = true) : ∀ (n : Nat) {e : Expr} {p : CG × List Nat}, cTgt c f df sc n e = some p → SG X e p.1 p.2
  | 0, _, _, h => by simp [cTgt] at h
  | n + 1, e, p, h => by
    unfold cTgt at h
    split at h
    · cases h
    · rename_i heq
      cases heq
      split at h
      · rename_i x px hx
        cases h1 : slot c.N x with
        | none => rw [h1] at h; cases h
        | some i =>
          rw [h1, Option.bind_some] at h
          cases h
          have hN : X.N[i]? = some x := by rw [A.N]; exact slot_get h1
          rcases Bool.or_eq_true_iff.mp hx with z | z
          · have e := lcl_ok z
            rw [← A.sc] at e
            exact sg_name A.nd hN (.inl e) (.inr e)
          · rw [Bool.and_eq_true] at z
            have e := cel_ok z.2
            rw [← A.sc] at e
            exact sg_name A.nd hN (.inr e) (.inl (hd z.1 x))
      · cases h
    · rename_i heq
      cases heq
      rename_i es k pos
      cases h1 : cTgts (cTgt c f df sc n) es with
      | none => rw [h1] at h; cases h
      | some q =>
        rw [h1, Option.bind_some] at h
        cases h
        obtain ⟨a, b⟩ := asg_each h1 X.env
        exact sg_tup A.calm (cTgts_ok (fun e p z => cTgt_ok A hf hd n z) h1) a b
    · rename_i heq
      cases heq
      rename_i a b pos
      split at h
      · rename_i hs
        cases h1 : f a with
        | none => rw [h1] at h; cases h
        | some m =>
          rw [h1, Option.bind_some] at h
          cases h2 : f b with
          | none => rw [h2] at h; cases h
          | some k =>
            rw [h2, Option.bind_some] at h
            cases h
            exact sg_sub (hf _ _ h1) (hf _ _ h2) hs
      · cases h
    · cases h
theorem set_fold {e : Expr} (h : notSet e = true) (env : Env) : ∀ x, foldedSetIterable e env x = pure x := by
  intro x
  cases e <;> first | rfl | cases h
end
theorem Agree.blk {c : Ctx} {X : Cx} {sc : Scope} (A : Agree c X sc) (scope : Scope) (s : Shared) (H : Hp) (C : Addr) (cl : List (Str × Addr)) (fp : List Addr) : Agree c (X.blk s H scope (compEnvC scope cl C X.env) fp) (relS scope sc) where
  N := A.N
  nd := A.nd
  sc := by rw [← A.sc]; rfl
  calm := A.calm
  guards := A.guards
  units := A.units
  fns := fun x cal h => let q := A.fns x cal h; ⟨q.ex, q.guards⟩
  cst := A.cst
  bfn := A.bfn
  blts := A.blts
theorem cComp_parts {c : Ctx} {f : Scope → Expr → Option CE} {t : Scope → Expr → Option CB} {sc : Scope} {mu : Bool} {elt : Expr} {gens : List Comprehension} {scope : Scope} {m : CE} (h : cComp c f t sc mu elt gens scope = some m) :
    ∃ tg iter ifs ci g tt me, gens = [⟨tg, iter, ifs, 0⟩] ∧ blkC c.N sc scope (ownOf c.N scope) = true ∧ notSet iter = true ∧ cIter c (f sc) sc tg iter = some ci ∧ cTgt c (f (relS scope sc)) false (relS scope sc) 4 tg = some g ∧
      (∀ i ∈ g.2, i ∈ (ownOf c.N scope).map (·.2)) ∧ ((ifs = [] ∧ tt = yesB) ∨ ∃ x, ifs = [x] ∧ t (relS scope sc) x = some tt) ∧ f (relS scope sc) elt = some me ∧ m = lcE ((ownOf c.N scope).map (·.2)) mu ci g.1 tt me := by
  unfold cComp at h
  split at h
  rotate_left
  · cases h
  rename_i tg iter ifs a
  split at h
  rotate_left
  · cases h
  rename_i hx
  simp only [Bool.and_eq_true, decide_eq_true_eq] at hx
  obtain ⟨⟨ha, hb⟩, hs⟩ := hx
  subst ha
  cases h1 : cIter c (f sc) sc tg iter with
  | none => rw [h1] at h; cases h
  | some ci =>
    rw [h1, Option.bind_some] at h
    cases h2 : cTgt c (f (relS scope sc)) false (relS scope sc) 4 tg with
    | none => rw [h2] at h; cases h
    | some g =>
      rw [h2, Option.bind_some] at h
      split at h
      rotate_left
      · cases h
      rename_i hv
      have hv' : ∀ i ∈ g.2, i ∈ (ownOf c.N scope).map (·.2) := fun i hi => mem_of_contains (List.all_eq_true.mp hv i hi)
      cases h4 : f (relS scope sc) elt with
      | none =>
        cases hq : cIfs (t (relS scope sc)) ifs with
        | none => rw [hq] at h; cases h
        | some tt => rw [hq, Option.bind_some, h4] at h; cases h
      | some me =>
        cases hq : cIfs (t (relS scope sc)) ifs with
        | none => rw [hq] at h; cases h
        | some tt =>
          rw [hq, Option.bind_some, h4, Option.bind_some] at h
          cases h
          refine ⟨tg, iter, ifs, ci, g, tt, me, rfl, hb, hs, h1, h2, hv', ?_, rfl, rfl⟩
          unfold cIfs at hq
          split at hq
          · cases hq; exact .inl ⟨rfl, rfl⟩
          · exact .inr ⟨_, rfl, hq⟩
          · cases hq
theorem plain_test {e : Expr} (env : Env) (h : plainT e = true) : ∀ whole, isTrue e env whole = (do let v ← whole; standAt e.pos; holding [v] (truthy v)) := by
  intro whole
  cases e <;> first | rfl | cases h
/-- what a compiler of parts is worth -/
structure Good (c : Ctx) (f : Scope → Expr → Option CE) (t : Scope → Expr → Option CB) : Prop where
  e : ∀ X sc, Agree c X sc → ∀ e m, f sc e = some m → SE X e m
  t : ∀ X sc, Agree c X sc → ∀ e m, t sc e = some m → SB X e m
theorem comp_parts_ok {c : Ctx} {f : Scope → Expr → Option CE} {t : Scope → Expr → Option CB} (G : Good c f t) {X : Cx} {sc : Scope} (A : Agree c X sc) {scope : Scope} {tg elt : Expr} {ifs : List Expr} {g : CG × List Nat} {tt : CB} {me : CE}
    (h2 : cTgt c (f (relS scope sc)) false (relS scope sc) 4 tg = some g) (h3 : (ifs = [] ∧ tt = yesB) ∨ ∃ x, ifs = [x] ∧ t (relS scope sc) x = some tt) (h4 : f (relS scope sc) elt = some me) (s : Shared) (H : Hp) (C : Addr) (cl : List (Str × Addr)) (fp : List Addr) :
    SG (X.blk s H scope (compEnvC scope cl C X.env) fp) tg g.1 g.2 ∧ STs (X.blk s H scope (compEnvC scope cl C X.env) fp) ifs tt ∧ SE (X.blk s H scope (compEnvC scope cl C X.env) fp) elt me := by
  have B := A.blk scope s H C cl fp
  refine ⟨cTgt_ok (df := false) B (G.e _ _ B) (fun z => Bool.noConfusion z) 4 h2, ?_, G.e _ _ B _ _ h4⟩
  rcases h3 with ⟨rfl, rfl⟩ | ⟨x, rfl, h3⟩
  · exact st_nil
  · exact st_one (G.t _ _ B _ _ h3)
theorem cE1_ok {c : Ctx} {f : Scope → Expr → Option CE} {t : Scope → Expr → Option CB} (G : Good c f t) {X : Cx} {sc : Scope} (A : Agree c X sc) {e : Expr} {m : CE} (h : cE1 c f t sc e = some m) : SE X e m := by
  have hf := G.e X sc A
  have hu : X.A.units + 64 < cLine := by have := A.units; omega
  unfold cE1 at h
  split at h
  · cases h; exact se_int
  · cases h; exact se_bool
  · cases h; exact se_none
  · cases h; exact se_str
  · rename_i x px
    split at h
    rotate_left
    · cases h
    rename_i hn
    obtain ⟨n1, n2, n3⟩ := okName_ok hn
    split at h
    · rename_i hv
      cases h1 : slot c.N x with
      | none => rw [h1] at h; cases h
      | some i =>
        rw [h1, Option.bind_some] at h
        cases h
        exact se_var (by rw [A.N]; exact slot_get h1) (by rw [A.sc]; exact vis_ok hv) n1 n2
    · split at h
      · rename_i hg
        cases h1 : c.cst.lookup x with
        | none => rw [h1] at h; cases h
        | some d =>
          rw [h1, Option.bind_some] at h
          cases h
          obtain ⟨u, v, q1, q2, q3⟩ := A.cst _ _ h1
          exact se_glob (gl_ok A hg) q1 q2 q3 n1
      · cases h
  · rename_i a op b px
    cases h0 : binG (c.mu.contains px) op with
    | none => rw [h0] at h; cases h
    | some g =>
      rw [h0, Option.bind_some] at h
      cases h1 : f sc a with
      | none => rw [h1] at h; cases h
      | some k =>
        rw [h1, Option.bind_some] at h
        cases h2 : f sc b with
        | none => rw [h2] at h; cases h
        | some n =>
          rw [h2, Option.bind_some] at h
          cases h
          exact se_bin (so_binG h0) (hf _ _ h1) (hf _ _ h2)
  · rename_i a px
    cases h1 : f sc a with
    | none => rw [h1] at h; cases h
    | some k => rw [h1, Option.bind_some] at h; cases h; exact se_un so_neg (hf _ _ h1)
  · rename_i a px
    cases h1 : f sc a with
    | none => rw [h1] at h; cases h
    | some k => rw [h1, Option.bind_some] at h; cases h; exact se_not (hf _ _ h1)
  · exact cAndE_ok hf h
  · exact cOrE_ok hf h
  · rename_i q a b px
    cases h0 : t sc q with
    | none => rw [h0] at h; cases h
    | some k0 =>
      rw [h0, Option.bind_some] at h
      cases h1 : f sc a with
      | none => rw [h1] at h; cases h
      | some k =>
        rw [h1, Option.bind_some] at h
        cases h2 : f sc b with
        | none => rw [h2] at h; cases h
        | some n =>
          rw [h2, Option.bind_some] at h
          cases h
          exact se_if (G.t X sc A _ _ h0) (hf _ _ h1) (hf _ _ h2)
  · exact (cCmp_cases hu hf h _).1
  · exact cCall_ok A hf h
  · exact cMeth_ok hf h
  · rename_i a lo hi p2 px
    cases h1 : f sc a with
    | none => rw [h1] at h; cases h
    | some k =>
      rw [h1, Option.bind_some] at h
      cases h2 : cOpt (f sc) lo with
      | none => rw [h2] at h; cases h
      | some l =>
        rw [h2, Option.bind_some] at h
        cases h3 : cOpt (f sc) hi with
        | none => rw [h3] at h; cases h
        | some u =>
          rw [h3, Option.bind_some] at h
          cases h
          exact se_slice (hf _ _ h1) (cOpt_ok hf h2) (cOpt_ok hf h3)
  · exact rev_ok hf h
  · rename_i a b px _ _
    split at h
    · rename_i hs
      cases h1 : f sc a with
      | none => rw [h1] at h; cases h
      | some k =>
        rw [h1, Option.bind_some] at h
        cases h2 : f sc b with
        | none => rw [h2] at h; cases h
        | some n =>
          rw [h2, Option.bind_some] at h
          cases h
          exact se_ix (hf _ _ h1) (hf _ _ h2) hs
    · cases h
  · rename_i es px
    split at h
    · cases h1 : cArgs (f sc) es with
      | none => rw [h1] at h; cases h
      | some l => rw [h1, Option.bind_some] at h; cases h; exact se_lstM (cArgs_ok hf h1)
    · cases h1 : cArgs (frzO (f sc)) es with
      | none => rw [h1] at h; cases h
      | some l => rw [h1, Option.bind_some] at h; cases h; exact se_lst (cArgs_ok (frzO_ok hf) h1)
  · rename_i es k px
    cases h1 : cArgs (frzO (f sc)) es with
    | none => rw [h1] at h; cases h
    | some l =>
      rw [h1, Option.bind_some] at h
      cases h; exact se_tup (cArgs_ok (frzO_ok hf) h1)
  · obtain ⟨tg, iter, ifs, ci, g, tt, me, rfl, hb, hs, h1, h2, hv, h3, h4, rfl⟩ := cComp_parts h
    have P := comp_parts_ok G A h2 h3 h4
    exact se_lc A.calm A.nd (cIter_ok A hf h1) (by rw [A.N, A.sc]; exact blkOk_by hb) (fun s H C cl fp => (P s H C cl fp).1) (fun s H C cl fp => (P s H C cl fp).2.1) (fun s H C cl fp => (P s H C cl fp).2.2) hv (set_fold hs _)
  · cases h
theorem cT1_ok {c : Ctx} {f : Scope → Expr → Option CE} {t : Scope → Expr → Option CB} (G : Good c f t) {X : Cx} {sc : Scope} (A : Agree c X sc) {e : Expr} {m : CB} (h : cT1 (f sc) (t sc) e = some m) : SB X e m := by
  have hf := G.e X sc A
  have ht := G.t X sc A
  have hu : X.A.units + 64 < cLine := by have := A.units; omega
  unfold cT1 at h
  split at h
  · rename_i a px
    cases h1 : t sc a with
    | none => rw [h1] at h; cases h
    | some k => rw [h1, Option.bind_some] at h; cases h; exact sb_not (ht _ _ h1)
  · exact (cAndB_ok ht h).pt
  · exact (cOrB_ok ht h).pt
  · rename_i a ops bs px
    cases h1 : cCmp (f sc) a ops bs with
    | none => rw [h1] at h; cases h
    | some k => rw [h1, Option.bind_some] at h; cases h; exact (cCmp_cases hu hf h1 _).2
  · split at h
    · rename_i hp
      cases h1 : f sc e with
      | none => rw [h1] at h; cases h
      | some k =>
        rw [h1, Option.bind_some] at h
        cases h
        exact sb_val (hf _ _ h1) (plain_test _ hp)
    · cases h
theorem cet_ok (c : Ctx) : ∀ n, Good c (cet c n).1 (cet c n).2
  | 0 => ⟨fun _ _ _ _ _ h => (by cases h), fun _ _ _ _ _ h => (by cases h)⟩
  | n + 1 => ⟨fun X sc A e m h => cE1_ok (cet_ok c n) A h, fun X sc A e m h => cT1_ok (cet_ok c n) A h⟩
end PD

/-! PD6a: exceptions of own classes with one field (an own error's worked proof turned to any class). -/

namespace PD.XG
open PySem PySem.W PySem.Calls PyProof.Rows PySem.HandSPX PySem.Spec
/-! ### the text of __init__ -/
def iA (p1 p2 : Pos) : Arguments := { posonlyargs := [], args := [{ arg := "self", annotation := none, pos := p1 }, { arg := "given", annotation := none, pos := p2 }], vararg := none, kwonlyargs := [], kw_defaults := [], kwarg := none, defaults := [] }
def iB (q1 q2 q3 q4 : Pos) : List Stmt := [.Assign [.Attribute (.Name "self" q1) "given" q2] (.Name "given" q3) q4]
def iS : Scope := { kind := .function, names := [(PySem.Str.ofString "self", .local), (PySem.Str.ofString "given", .local)], isGenerator := false, isCoroutine := false, more := [] }
/-- what the written part says of Low, at C, and of its __init__, at fI -/
structure XTxt (xn q0 : Str) (K : Frag) (mg : Str → Option Value) (C fI : Addr) : Prop where
  gC : mg xn = some (.ref C)
  cls : ∃ nm q N bs bm sn sub ab col dd k0 k1 k2 k3 k5, K.lookup C = some (excClassObj nm q C N bs bm true sn sub ab col dd k0 k1 k2 k3 k5 "ValueError.__new__") ∧ refsVE bm = true
  sa : findIn K (.ref C) "__setattr__" = some (some (.builtin "object.__setattr__"))
  ga : findIn K (.ref C) "__getattribute__" = some (some (.builtin "BaseException.__getattribute__"))
  gg : findIn K (.ref C) "__getattr__" = some none
  noN : findIn K (.ref C) "given" = some none
  iC : findIn K (.ref C) "__init__" = some (some (.ref fI))
  tC : typeIn K (.ref fI) = some (.type "function")
  kC : keepIn K (.ref C) = true
  exC : subIn K (.ref C) (.type "BaseException") = some true
  tyC : typeIn K (.ref C) = some (.type "type")
  hdC : hasDictIn K C = true
  te : exmOne K (.ref C) (.ref C) = some true
  fn : ∃ (oc : Value) (od : Option Addr) (doc pm : Value) (an : Option Addr) (cdv ct : Value) (osl : Array (Option Value)) (p1 p2 q1 q2 q3 q4 : Pos),
    K.lookup fI = some ⟨oc, od, .func (fnOf "__init__" q0 (iA p1 p2) (iB q1 q2 q3 q4) iS .none .none doc pm an cdv ct), osl⟩ ∧ codeIn K cdv q0 = true
theorem one_size (v : Value) : [v].length ≤ sizeLine := by
  rw [sizeLine_eq]
  exact (by decide : 1 ≤ 16777216)
theorem kept_but {K : Frag} {h h' : Heap} {x : Addr} (X : K.In h) (hx : K.lookup x = none) (k : ∀ b o, b ≠ x → h.get? b = some o → h'.get? b = some o) : K.In h' := fun a o e =>
  k a o (fun z => by rw [z, hx] at e; cases e) (X a o e)
theorem ldC {M : Model} {s : Shared} {name : Str} {scope : Scope} {L a : Addr} {cd : Value} {m : Str → Option Value} {x : Str} {pos : Pos} {v : Value} {Q : Value → Shared → Prop} {A : Around} {E : Value → Shared → Prop} (hn : s.heap.Ns L m) (hv : m x = some v) (h : Q v s)
    (hk : scope.kind = .function := by rfl) (hl : (envOfC name scope L a cd).kindOf x = some .local := by rfl) (hd : (x == ("__debug__" : Str)) = false := by decide) :
    wpAny M A (eval (.Name x pos) (envOfC name scope L a cd)) Q E s := wpAny_Name (wpAny_loadName_local hk hl hn hv h) hd
/-- what __init__ leaves of a fresh exception at x -/
structure InitEnd (h h' : Heap) (x C dx t1 : Addr) (v : Value) : Prop where
  keep : ∀ b o, b ≠ x → h.get? b = some o → h'.get? b = some o
  obj : h'.get? x = some { cls := .ref C, dict := some dx, data := .fields #[.ref t1, .none, .none, .none, .bool false, .none] }
  dbig : h.objs.size ≤ dx
  dne : dx ≠ x
  ns : h'.Ns1 dx (fun y => if y = "given" then some v else none)
/-- a made Low -/
structure OwnMade (h h' : Heap) (e C d : Addr) (v : Value) : Prop where
  keep : ∀ b o, h.get? b = some o → h'.get? b = some o
  new : h.objs.size ≤ e
  obj : ∃ oe vs, h'.get? e = some oe ∧ oe.cls = .ref C ∧ oe.dict = some d ∧ oe.data = .fields vs ∧ vs[1]? = some .none
  dbig : h.objs.size ≤ d
  dne : d ≠ e
  ns : h'.Ns1 d (fun y => if y = "given" then some v else none)
section
variable {xn q0 : Str} {prog : Program} {w : World} {A : Around} {E : Value → Shared → Prop} {R : Result → Shared → Prop} {s : Shared} {K : Frag} {mg : Str → Option Value} {C fI : Addr}
theorem low_init (T : XTxt xn q0 K mg C fI) {x t0 : Addr} {v : Value} (X : K.In s.heap) (hlim : s.heap.NoLimit) (hx : s.heap.get? x = some (excO C t0)) (hnx : K.lookup x = none) (hroom : A.depth < recursionLimit)
    (hq : ∀ h' tk dx, InitEnd s.heap h' x C dx t0 v → R (.ok (.ret .none)) { s with heap := h', toks := tk }) :
    codeAny (model prog w) A (.call (.ref fI) ⟨[.ref x, v], []⟩) R s := by
  obtain ⟨oc, od, doc, pm, an, cdv, ct, osl, p1, p2, q1, q2, q3, q4, ho, hcd⟩ := T.fn
  obtain ⟨nm, q, N, bs, bm, sn, sub, ab, col, dd, k0, k1, k2, k3, k5, hC, hbm⟩ := T.cls
  have hcl : clsIn K C = some { name := nm, bases := bs, mro := .ref C :: bm, ns := N, qualname := q, hasDict := true, slotNames := sn, subclasses := sub, abstract := ab, collection := col, hasDel := false } := by unfold clsIn; rw [hC] <;> rfl
  refine Att.call_fn (binds := [("self", .ref x), ("given", v)]) X hlim ho hcd hroom (BindsTo.of_eq (by first | rfl | with_unfolding_all rfl)) (by first | rfl | decide | with_unfolding_all rfl) (fun s₁ IC => ?_) rfl rfl rfl
  obtain ⟨h₁, tk₁, rfl⟩ := IC.toInCall.same
  have k : ∀ b o, s.heap.get? b = some o → h₁.get? b = some o := IC.toInCall.keep
  have hn := IC.toInCall.ns
  have hxL : s.heap.objs.size ≠ x := Nat.ne_of_gt (Heap.lt_size hx)
  have X₁ : K.In h₁ := X.keeps k
  have hx₁ := k _ _ hx
  -- self.by = by
  show wpAny _ _ (execs _ _) _ _ _
  refine wpAny_execs_cons (plainObj_wpAny_Assign_Attribute ?_)
  refine ldC (v := v) hn (by first | rfl | with_unfolding_all rfl | kernel_rfl) (ldC (v := .ref x) hn (by first | rfl | with_unfolding_all rfl | kernel_rfl) ?_)
  refine set_plain X₁ (ox := excO C t0) (od := none) ⟨hx₁, rfl, rfl, trivial⟩ T.sa ?_
  refine exc_osa X₁ hx₁ hcl (show refsVE (.ref C :: bm) = true from hbm) rfl T.noN (fun h₃ tk₃ dx k₃ dn dne hx₃ hn₃ => ?_)
  show wpAny _ _ (execs _ _) _ _ _
  have z : s.heap.objs.size < h₁.objs.size := hn.lt
  exact wpAny_execs_nil (hq h₃ tk₃ dx ⟨fun b o hb e => k₃ b o hb (k b o e), hx₃, Nat.le_of_lt (Nat.lt_of_lt_of_le z dn), dne, hn₃⟩)
theorem low_made (T : XTxt xn q0 K mg C fI) {v : Value} (X : K.In s.heap) (hlim : s.heap.NoLimit) (hroom : A.depth + 1 < recursionLimit)
    (hq : ∀ h' tk e d, OwnMade s.heap h' e C d v → R (.ok (.ret (.ref e))) { s with heap := h', toks := tk }) :
    codeAny (model prog w) A (.call (.ref C) ⟨[v], []⟩) R s := by
  obtain ⟨nm, q, N, bs, bm, sn, sub, ab, col, dd, k0, k1, k2, k3, k5, hC, hbm⟩ := T.cls
  obtain ⟨hp, g, dr, tk, os⟩ := s
  have k : ∀ b o, hp.get? b = some o → ((hp.push (kdv_tup [v])).push (excO C hp.objs.size)).get? b = some o := fun b o e => Heap.get?_push_of_some _ (Heap.get?_push_of_some _ e)
  have hget : ((hp.push (kdv_tup [v])).push (excO C hp.objs.size)).get? (hp.objs.size + 1) = some (excO C hp.objs.size) := by heap_get
  have hnx : K.lookup (hp.objs.size + 1) = none := by
    cases e : K.lookup (hp.objs.size + 1) with
    | none => rfl
    | some o =>
      have z : hp.get? (hp.objs.size + 1) = some o := X _ _ e
      exact absurd (Nat.lt_of_succ_lt (Heap.lt_size z)) (Nat.lt_irrefl _)
  refine call_own F.excBase_ValueError (fun X => refsVE_contains X bm hbm) (X _ _ hC) (looks_findIn X T.iC) (fun self => bind_fn X self T.tC) (one_size v) ?_
  refine low_init (s := ⟨(hp.push (kdv_tup [v])).push (excO C hp.objs.size), g, dr, tk, os⟩) T (X.keeps k) (hlim.keeps k) hget hnx ?_ fun h' tk' dx ⟨k', hx, dn, dne, hns⟩ => ?_
  · show A.depth + 1 < recursionLimit
    exact hroom
  · have old : ∀ b o, hp.get? b = some o → h'.get? b = some o := fun b o e => k' b o (Nat.ne_of_lt (Nat.lt_succ_of_lt (Heap.lt_size e))) (k b o e)
    have z : hp.objs.size + 1 + 1 ≤ dx := by
      first
        | (simpa only [Heap.size_push] using dn)
        | exact dn
        | (have q := dn; rw [Heap.size_push, Heap.size_push] at q; exact q)
    exact ⟨rfl, hq h' tk' (hp.objs.size + 1) dx ⟨old, Nat.le_succ _, ⟨_, _, hx, rfl, rfl, rfl, rfl⟩, Nat.le_trans (Nat.le_trans (Nat.le_succ _) (Nat.le_succ _)) z, dne, hns⟩⟩
end
end PD.XG

namespace PD.XG
open PySem PySem.Spec PyProof.Rows L2
theorem relO_low {v : V} {v' : Value} (r : RelV v v') (f : Str) : RelO (List.lookup f [(("given" : Str), v)]) (if f = "given" then some v' else none) := by
  by_cases hw : f = "given"
  · subst hw
    rw [if_pos rfl]
    have q : List.lookup ("given" : Str) [(("given" : Str), v)] = some v := by simp [List.lookup]
    rw [q]
    exact r
  · rw [if_neg hw]
    have qw : (f == ("given" : Str)) = false := by simpa using hw
    have q2 : List.lookup f [(("given" : Str), v)] = none := by simp [List.lookup, qw]
    rw [q2]
    trivial
section
variable {xn q0 : Str} {X : Cx} {C fI : Addr}
/-- Low(e) -/
def tMkLow (C : Addr) (ta : TA) : L2.St → Hp → XK → Prop := fun σ H Q => ta σ H fun vs H1 => ∃ v, vs = [v] ∧ ∀ d, H1 d = none → Q (.ref C) (some d) (upd H1 d (.xd [(("given" : Str), v)]))
theorem pmk_low {a : Expr} {ta : TA} {p pos : Pos} {k : Nat} (T : XTxt xn q0 X.K X.mg C fI) (hr : Room k X.A) (ha : PA X [a] ta) (hg : Gl X xn) (hdb : (xn == ("__debug__" : Str)) = false)
    (he : starEach (a :: []) X.env = (false, eval a X.env) :: starEach [] X.env := by rfl) (hpl : (backTo pos (starEach [] X.env)).any (·.1) = false := by rfl) :
    PMk X (.Call (.Name xn p) [a] [] pos) (tMkLow C ta) := by
  intro pins s σ H Q I h
  refine wpAny_Call_Name_kw (ld_glob I hg T.gC ?_ hdb)
  refine PySem.W.callWith_K (h₀ := X.base) I.ok.mod.kin T.kC (thn (ha.run pos pins s σ H _ I h) fun us s1 hh => ?_) he hpl
  obtain ⟨vs, H1, I1, r1, v, ev, q1⟩ := hh
  subst ev
  refine ⟨I1.kIn, ?_⟩
  cases r1 with
  | cons rv rn =>
    rename_i v' us'
    cases rn
    show wpAny _ _ (call (.ref C) [v']) _ _ _
    have hlim := I1.nolimit
    obtain ⟨hp, g, dr, tk, os⟩ := s1
    refine wpAny_call (low_made T I1.kIn hlim (by have := hr.dp; omega) fun h' tk' e d M => ?_)
    show MkP X pins σ Q (.ref e) ⟨h', g, dr, tk', os⟩
    obtain ⟨oe, fv, hoe, hc, hd, hdat, h1⟩ := M.obj
    have hns := M.ns
    obtain ⟨G', g1, g2⟩ := restrict h' fun b => decide (b ≠ e)
    have gk : ∀ b, b ≠ e → G'.get? b = h'.get? b := fun b hb => g1 b (decide_eq_true hb)
    have ge : G'.get? e = none := g2 e (by simp)
    have old : ∀ b o, hp.get? b = some o → G'.get? b = some o := fun b o q => (gk b (Nat.ne_of_lt (Nat.lt_of_lt_of_le (Heap.lt_size q) M.new))).trans (M.keep b o q)
    have ob : ObjOk X.prog X.w (upd H1 d (.xd [(("given" : Str), v)])) G' d (.xd [(("given" : Str), v)]) :=
      ⟨_, hns.at (fun o q => (gk d M.dne).trans q), fun f => relO_low rv f⟩
    have J : Inv X pins σ (upd H1 d (.xd [(("given" : Str), v)])) ⟨G', g, dr, tk', os⟩ := I1.laid (t' := tk') old M.dbig ob
    refine ⟨e, oe, fv, ⟨G', g, dr, tk', os⟩, _, .ref C, some d, rfl, J, fun b o q => ?_, ge, hoe, ⟨hc, hd⟩, hdat, h1, ?_, rfl, I1.bare, raises_own T.exC T.tyC, q1 d (I1.hok.fresh M.dbig)⟩
    · by_cases hb : b = e
      · have q' : G'.get? b = some o := q
        rw [hb, ge] at q'; cases q'
      · exact (gk b hb).symm.trans q
    · rw [upd_ne (Ne.symm M.dne)]
      exact I1.hok.fresh M.new
/-- raise Low(e) -/
def tRaiseLow (C : Addr) (W : WX) (ta : TA) : TS := fun _ σ H => tMkLow C ta σ H fun cls d H' => W cls d σ H'
theorem ps_raiseLow {a : Expr} {ta : TA} {W : WX} {p pos pos2 : Pos} {k : Nat} (hc : X.calm = true) (T : XTxt xn q0 X.K X.mg C fI) (hr : Room k X.A) (tk : Takes X W) (ha : PA X [a] ta) (hg : Gl X xn) (hdb : (xn == ("__debug__" : Str)) = false)
    (he : starEach (a :: []) X.env = (false, eval a X.env) :: starEach [] X.env := by rfl) (hpl : (backTo pos (starEach [] X.env)).any (·.1) = false := by rfl) :
    PS X (.Raise (some (.Call (.Name xn p) [a] [] pos)) none pos2) (tRaiseLow C W ta) := ps_raise hc tk (pmk_low T hr ha hg hdb he hpl)
/-- low.by, low the exception that the suite holds (at a; its class cls, its dict d) -/
def tByLow (C : Addr) (a : Addr) (cls : Value) (d : Option Addr) (te : TE) : TE := fun σ H Q => te σ H fun x H1 => x = .ref a ∧ cls = .ref C ∧ ∃ (dd : Addr) (v : V), d = some dd ∧ H1 dd = some (.xd [(("given" : Str), v)]) ∧ Q v H1
theorem pe_byLow {a : Addr} {oe : Obj} {cls : Value} {d : Option Addr} {pn : List (Addr × Obj)} {e : Expr} {te : TE} {pos : Pos} (T : XTxt xn q0 X.K X.mg C fI) (hz : Zc cls d oe) (hf : ∃ vs, oe.data = .fields vs) (he : PE (X.suite a ((a, oe) :: pn)) e te)
    (hb : attributeBase e "given" X.env (eval e X.env) = eval e X.env := by rfl) :
    PE (X.suite a ((a, oe) :: pn)) (.Attribute e "given" pos) (tByLow C a cls d te) := by
  refine ⟨fun pins s σ H Q I h => ?_⟩
  refine attr_of hb (thn (he.run pins s σ H _ I h) fun u s1 hh => ?_)
  obtain ⟨x, H1, I1, rx, ex, ec, dd, v, ed, ea, q⟩ := hh
  subst ex
  obtain rfl : u = Value.ref a := rx
  subst ec
  subst ed
  obtain ⟨ha, _⟩ := I1.pin (a, oe) (List.mem_append_left _ List.mem_cons_self)
  obtain ⟨vs, hd⟩ := hf
  have hx : ObjOk X.prog X.w H1 s1.heap dd (.xd [(("given" : Str), v)]) := I1.hok dd _ ea
  obtain ⟨mA, hns, hr⟩ := hx
  obtain ⟨od, ho, hl⟩ := lookIn_ns hns
  have l : List.lookup ("given" : Str) [(("given" : Str), v)] = some v := by simp [List.lookup]
  obtain ⟨u, hu, ru⟩ := RelO.some_of (v := v) (o := mA "given") (by rw [← l]; exact hr "given")
  have J : PySem.W.InstAt s1.heap a oe C (some od) := ⟨ha, hz.1, by unfold PySem.W.notCls; rw [hd] <;> rfl, by rw [hz.2]; exact ho⟩
  exact HandSPX.exc_get I1.kIn J T.ga T.gg T.exC (PySem.W.findObj_own T.hdC T.noN rfl (by rw [hl, hu])) (handed_of ru) ⟨v, H1, I1.tok _, ru, q⟩
end
end PD.XG

namespace PD.XI
open PySem PySem.W PySem.Calls PyProof.Rows PySem.HandSPX PySem.Spec
/-! ### the text of __init__ -/
def iA (p1 p2 : Pos) : Arguments := { posonlyargs := [], args := [{ arg := "self", annotation := none, pos := p1 }, { arg := "index", annotation := none, pos := p2 }], vararg := none, kwonlyargs := [], kw_defaults := [], kwarg := none, defaults := [] }
def iB (q1 q2 q3 q4 : Pos) : List Stmt := [.Assign [.Attribute (.Name "self" q1) "index" q2] (.Name "index" q3) q4]
def iS : Scope := { kind := .function, names := [(PySem.Str.ofString "self", .local), (PySem.Str.ofString "index", .local)], isGenerator := false, isCoroutine := false, more := [] }
/-- what the written part says of Low, at C, and of its __init__, at fI -/
structure XTxt (xn q0 : Str) (K : Frag) (mg : Str → Option Value) (C fI : Addr) : Prop where
  gC : mg xn = some (.ref C)
  cls : ∃ nm q N bs bm sn sub ab col dd k0 k1 k2 k3 k5, K.lookup C = some (excClassObj nm q C N bs bm true sn sub ab col dd k0 k1 k2 k3 k5 "ValueError.__new__") ∧ refsVE bm = true
  sa : findIn K (.ref C) "__setattr__" = some (some (.builtin "object.__setattr__"))
  ga : findIn K (.ref C) "__getattribute__" = some (some (.builtin "BaseException.__getattribute__"))
  gg : findIn K (.ref C) "__getattr__" = some none
  noN : findIn K (.ref C) "index" = some none
  iC : findIn K (.ref C) "__init__" = some (some (.ref fI))
  tC : typeIn K (.ref fI) = some (.type "function")
  kC : keepIn K (.ref C) = true
  exC : subIn K (.ref C) (.type "BaseException") = some true
  tyC : typeIn K (.ref C) = some (.type "type")
  hdC : hasDictIn K C = true
  te : exmOne K (.ref C) (.ref C) = some true
  fn : ∃ (oc : Value) (od : Option Addr) (doc pm : Value) (an : Option Addr) (cdv ct : Value) (osl : Array (Option Value)) (p1 p2 q1 q2 q3 q4 : Pos),
    K.lookup fI = some ⟨oc, od, .func (fnOf "__init__" q0 (iA p1 p2) (iB q1 q2 q3 q4) iS .none .none doc pm an cdv ct), osl⟩ ∧ codeIn K cdv q0 = true
theorem one_size (v : Value) : [v].length ≤ sizeLine := by
  rw [sizeLine_eq]
  exact (by decide : 1 ≤ 16777216)
theorem kept_but {K : Frag} {h h' : Heap} {x : Addr} (X : K.In h) (hx : K.lookup x = none) (k : ∀ b o, b ≠ x → h.get? b = some o → h'.get? b = some o) : K.In h' := fun a o e =>
  k a o (fun z => by rw [z, hx] at e; cases e) (X a o e)
theorem ldC {M : Model} {s : Shared} {name : Str} {scope : Scope} {L a : Addr} {cd : Value} {m : Str → Option Value} {x : Str} {pos : Pos} {v : Value} {Q : Value → Shared → Prop} {A : Around} {E : Value → Shared → Prop} (hn : s.heap.Ns L m) (hv : m x = some v) (h : Q v s)
    (hk : scope.kind = .function := by rfl) (hl : (envOfC name scope L a cd).kindOf x = some .local := by rfl) (hd : (x == ("__debug__" : Str)) = false := by decide) :
    wpAny M A (eval (.Name x pos) (envOfC name scope L a cd)) Q E s := wpAny_Name (wpAny_loadName_local hk hl hn hv h) hd
/-- what __init__ leaves of a fresh exception at x -/
structure InitEnd (h h' : Heap) (x C dx t1 : Addr) (v : Value) : Prop where
  keep : ∀ b o, b ≠ x → h.get? b = some o → h'.get? b = some o
  obj : h'.get? x = some { cls := .ref C, dict := some dx, data := .fields #[.ref t1, .none, .none, .none, .bool false, .none] }
  dbig : h.objs.size ≤ dx
  dne : dx ≠ x
  ns : h'.Ns1 dx (fun y => if y = "index" then some v else none)
/-- a made Low -/
structure OwnMade (h h' : Heap) (e C d : Addr) (v : Value) : Prop where
  keep : ∀ b o, h.get? b = some o → h'.get? b = some o
  new : h.objs.size ≤ e
  obj : ∃ oe vs, h'.get? e = some oe ∧ oe.cls = .ref C ∧ oe.dict = some d ∧ oe.data = .fields vs ∧ vs[1]? = some .none
  dbig : h.objs.size ≤ d
  dne : d ≠ e
  ns : h'.Ns1 d (fun y => if y = "index" then some v else none)
section
variable {xn q0 : Str} {prog : Program} {w : World} {A : Around} {E : Value → Shared → Prop} {R : Result → Shared → Prop} {s : Shared} {K : Frag} {mg : Str → Option Value} {C fI : Addr}
theorem low_init (T : XTxt xn q0 K mg C fI) {x t0 : Addr} {v : Value} (X : K.In s.heap) (hlim : s.heap.NoLimit) (hx : s.heap.get? x = some (excO C t0)) (hnx : K.lookup x = none) (hroom : A.depth < recursionLimit)
    (hq : ∀ h' tk dx, InitEnd s.heap h' x C dx t0 v → R (.ok (.ret .none)) { s with heap := h', toks := tk }) :
    codeAny (model prog w) A (.call (.ref fI) ⟨[.ref x, v], []⟩) R s := by
  obtain ⟨oc, od, doc, pm, an, cdv, ct, osl, p1, p2, q1, q2, q3, q4, ho, hcd⟩ := T.fn
  obtain ⟨nm, q, N, bs, bm, sn, sub, ab, col, dd, k0, k1, k2, k3, k5, hC, hbm⟩ := T.cls
  have hcl : clsIn K C = some { name := nm, bases := bs, mro := .ref C :: bm, ns := N, qualname := q, hasDict := true, slotNames := sn, subclasses := sub, abstract := ab, collection := col, hasDel := false } := by unfold clsIn; rw [hC] <;> rfl
  refine Att.call_fn (binds := [("self", .ref x), ("index", v)]) X hlim ho hcd hroom (BindsTo.of_eq (by first | rfl | with_unfolding_all rfl)) (by first | rfl | decide | with_unfolding_all rfl) (fun s₁ IC => ?_) rfl rfl rfl
  obtain ⟨h₁, tk₁, rfl⟩ := IC.toInCall.same
  have k : ∀ b o, s.heap.get? b = some o → h₁.get? b = some o := IC.toInCall.keep
  have hn := IC.toInCall.ns
  have hxL : s.heap.objs.size ≠ x := Nat.ne_of_gt (Heap.lt_size hx)
  have X₁ : K.In h₁ := X.keeps k
  have hx₁ := k _ _ hx
  -- self.by = by
  show wpAny _ _ (execs _ _) _ _ _
  refine wpAny_execs_cons (plainObj_wpAny_Assign_Attribute ?_)
  refine ldC (v := v) hn (by first | rfl | with_unfolding_all rfl | kernel_rfl) (ldC (v := .ref x) hn (by first | rfl | with_unfolding_all rfl | kernel_rfl) ?_)
  refine set_plain X₁ (ox := excO C t0) (od := none) ⟨hx₁, rfl, rfl, trivial⟩ T.sa ?_
  refine exc_osa X₁ hx₁ hcl (show refsVE (.ref C :: bm) = true from hbm) rfl T.noN (fun h₃ tk₃ dx k₃ dn dne hx₃ hn₃ => ?_)
  show wpAny _ _ (execs _ _) _ _ _
  have z : s.heap.objs.size < h₁.objs.size := hn.lt
  exact wpAny_execs_nil (hq h₃ tk₃ dx ⟨fun b o hb e => k₃ b o hb (k b o e), hx₃, Nat.le_of_lt (Nat.lt_of_lt_of_le z dn), dne, hn₃⟩)
theorem low_made (T : XTxt xn q0 K mg C fI) {v : Value} (X : K.In s.heap) (hlim : s.heap.NoLimit) (hroom : A.depth + 1 < recursionLimit)
    (hq : ∀ h' tk e d, OwnMade s.heap h' e C d v → R (.ok (.ret (.ref e))) { s with heap := h', toks := tk }) :
    codeAny (model prog w) A (.call (.ref C) ⟨[v], []⟩) R s := by
  obtain ⟨nm, q, N, bs, bm, sn, sub, ab, col, dd, k0, k1, k2, k3, k5, hC, hbm⟩ := T.cls
  obtain ⟨hp, g, dr, tk, os⟩ := s
  have k : ∀ b o, hp.get? b = some o → ((hp.push (kdv_tup [v])).push (excO C hp.objs.size)).get? b = some o := fun b o e => Heap.get?_push_of_some _ (Heap.get?_push_of_some _ e)
  have hget : ((hp.push (kdv_tup [v])).push (excO C hp.objs.size)).get? (hp.objs.size + 1) = some (excO C hp.objs.size) := by heap_get
  have hnx : K.lookup (hp.objs.size + 1) = none := by
    cases e : K.lookup (hp.objs.size + 1) with
    | none => rfl
    | some o =>
      have z : hp.get? (hp.objs.size + 1) = some o := X _ _ e
      exact absurd (Nat.lt_of_succ_lt (Heap.lt_size z)) (Nat.lt_irrefl _)
  refine call_own F.excBase_ValueError (fun X => refsVE_contains X bm hbm) (X _ _ hC) (looks_findIn X T.iC) (fun self => bind_fn X self T.tC) (one_size v) ?_
  refine low_init (s := ⟨(hp.push (kdv_tup [v])).push (excO C hp.objs.size), g, dr, tk, os⟩) T (X.keeps k) (hlim.keeps k) hget hnx ?_ fun h' tk' dx ⟨k', hx, dn, dne, hns⟩ => ?_
  · show A.depth + 1 < recursionLimit
    exact hroom
  · have old : ∀ b o, hp.get? b = some o → h'.get? b = some o := fun b o e => k' b o (Nat.ne_of_lt (Nat.lt_succ_of_lt (Heap.lt_size e))) (k b o e)
    have z : hp.objs.size + 1 + 1 ≤ dx := by
      first
        | (simpa only [Heap.size_push] using dn)
        | exact dn
        | (have q := dn; rw [Heap.size_push, Heap.size_push] at q; exact q)
    exact ⟨rfl, hq h' tk' (hp.objs.size + 1) dx ⟨old, Nat.le_succ _, ⟨_, _, hx, rfl, rfl, rfl, rfl⟩, Nat.le_trans (Nat.le_trans (Nat.le_succ _) (Nat.le_succ _)) z, dne, hns⟩⟩
end
end PD.XI

namespace PD.XI
open PySem PySem.Spec PyProof.Rows L2
theorem relO_low {v : V} {v' : Value} (r : RelV v v') (f : Str) : RelO (List.lookup f [(("index" : Str), v)]) (if f = "index" then some v' else none) := by
  by_cases hw : f = "index"
  · subst hw
    rw [if_pos rfl]
    have q : List.lookup ("index" : Str) [(("index" : Str), v)] = some v := by simp [List.lookup]
    rw [q]
    exact r
  · rw [if_neg hw]
    have qw : (f == ("index" : Str)) = false := by simpa using hw
    have q2 : List.lookup f [(("index" : Str), v)] = none := by simp [List.lookup, qw]
    rw [q2]
    trivial
section
variable {xn q0 : Str} {X : Cx} {C fI : Addr}
/-- Low(e) -/
def tMkLow (C : Addr) (ta : TA) : L2.St → Hp → XK → Prop := fun σ H Q => ta σ H fun vs H1 => ∃ v, vs = [v] ∧ ∀ d, H1 d = none → Q (.ref C) (some d) (upd H1 d (.xd [(("index" : Str), v)]))
theorem pmk_low {a : Expr} {ta : TA} {p pos : Pos} {k : Nat} (T : XTxt xn q0 X.K X.mg C fI) (hr : Room k X.A) (ha : PA X [a] ta) (hg : Gl X xn) (hdb : (xn == ("__debug__" : Str)) = false)
    (he : starEach (a :: []) X.env = (false, eval a X.env) :: starEach [] X.env := by rfl) (hpl : (backTo pos (starEach [] X.env)).any (·.1) = false := by rfl) :
    PMk X (.Call (.Name xn p) [a] [] pos) (tMkLow C ta) := by
  intro pins s σ H Q I h
  refine wpAny_Call_Name_kw (ld_glob I hg T.gC ?_ hdb)
  refine PySem.W.callWith_K (h₀ := X.base) I.ok.mod.kin T.kC (thn (ha.run pos pins s σ H _ I h) fun us s1 hh => ?_) he hpl
  obtain ⟨vs, H1, I1, r1, v, ev, q1⟩ := hh
  subst ev
  refine ⟨I1.kIn, ?_⟩
  cases r1 with
  | cons rv rn =>
    rename_i v' us'
    cases rn
    show wpAny _ _ (call (.ref C) [v']) _ _ _
    have hlim := I1.nolimit
    obtain ⟨hp, g, dr, tk, os⟩ := s1
    refine wpAny_call (low_made T I1.kIn hlim (by have := hr.dp; omega) fun h' tk' e d M => ?_)
    show MkP X pins σ Q (.ref e) ⟨h', g, dr, tk', os⟩
    obtain ⟨oe, fv, hoe, hc, hd, hdat, h1⟩ := M.obj
    have hns := M.ns
    obtain ⟨G', g1, g2⟩ := restrict h' fun b => decide (b ≠ e)
    have gk : ∀ b, b ≠ e → G'.get? b = h'.get? b := fun b hb => g1 b (decide_eq_true hb)
    have ge : G'.get? e = none := g2 e (by simp)
    have old : ∀ b o, hp.get? b = some o → G'.get? b = some o := fun b o q => (gk b (Nat.ne_of_lt (Nat.lt_of_lt_of_le (Heap.lt_size q) M.new))).trans (M.keep b o q)
    have ob : ObjOk X.prog X.w (upd H1 d (.xd [(("index" : Str), v)])) G' d (.xd [(("index" : Str), v)]) :=
      ⟨_, hns.at (fun o q => (gk d M.dne).trans q), fun f => relO_low rv f⟩
    have J : Inv X pins σ (upd H1 d (.xd [(("index" : Str), v)])) ⟨G', g, dr, tk', os⟩ := I1.laid (t' := tk') old M.dbig ob
    refine ⟨e, oe, fv, ⟨G', g, dr, tk', os⟩, _, .ref C, some d, rfl, J, fun b o q => ?_, ge, hoe, ⟨hc, hd⟩, hdat, h1, ?_, rfl, I1.bare, raises_own T.exC T.tyC, q1 d (I1.hok.fresh M.dbig)⟩
    · by_cases hb : b = e
      · have q' : G'.get? b = some o := q
        rw [hb, ge] at q'; cases q'
      · exact (gk b hb).symm.trans q
    · rw [upd_ne (Ne.symm M.dne)]
      exact I1.hok.fresh M.new
/-- raise Low(e) -/
def tRaiseLow (C : Addr) (W : WX) (ta : TA) : TS := fun _ σ H => tMkLow C ta σ H fun cls d H' => W cls d σ H'
theorem ps_raiseLow {a : Expr} {ta : TA} {W : WX} {p pos pos2 : Pos} {k : Nat} (hc : X.calm = true) (T : XTxt xn q0 X.K X.mg C fI) (hr : Room k X.A) (tk : Takes X W) (ha : PA X [a] ta) (hg : Gl X xn) (hdb : (xn == ("__debug__" : Str)) = false)
    (he : starEach (a :: []) X.env = (false, eval a X.env) :: starEach [] X.env := by rfl) (hpl : (backTo pos (starEach [] X.env)).any (·.1) = false := by rfl) :
    PS X (.Raise (some (.Call (.Name xn p) [a] [] pos)) none pos2) (tRaiseLow C W ta) := ps_raise hc tk (pmk_low T hr ha hg hdb he hpl)
/-- low.by, low the exception that the suite holds (at a; its class cls, its dict d) -/
def tByLow (C : Addr) (a : Addr) (cls : Value) (d : Option Addr) (te : TE) : TE := fun σ H Q => te σ H fun x H1 => x = .ref a ∧ cls = .ref C ∧ ∃ (dd : Addr) (v : V), d = some dd ∧ H1 dd = some (.xd [(("index" : Str), v)]) ∧ Q v H1
theorem pe_byLow {a : Addr} {oe : Obj} {cls : Value} {d : Option Addr} {pn : List (Addr × Obj)} {e : Expr} {te : TE} {pos : Pos} (T : XTxt xn q0 X.K X.mg C fI) (hz : Zc cls d oe) (hf : ∃ vs, oe.data = .fields vs) (he : PE (X.suite a ((a, oe) :: pn)) e te)
    (hb : attributeBase e "index" X.env (eval e X.env) = eval e X.env := by rfl) :
    PE (X.suite a ((a, oe) :: pn)) (.Attribute e "index" pos) (tByLow C a cls d te) := by
  refine ⟨fun pins s σ H Q I h => ?_⟩
  refine attr_of hb (thn (he.run pins s σ H _ I h) fun u s1 hh => ?_)
  obtain ⟨x, H1, I1, rx, ex, ec, dd, v, ed, ea, q⟩ := hh
  subst ex
  obtain rfl : u = Value.ref a := rx
  subst ec
  subst ed
  obtain ⟨ha, _⟩ := I1.pin (a, oe) (List.mem_append_left _ List.mem_cons_self)
  obtain ⟨vs, hd⟩ := hf
  have hx : ObjOk X.prog X.w H1 s1.heap dd (.xd [(("index" : Str), v)]) := I1.hok dd _ ea
  obtain ⟨mA, hns, hr⟩ := hx
  obtain ⟨od, ho, hl⟩ := lookIn_ns hns
  have l : List.lookup ("index" : Str) [(("index" : Str), v)] = some v := by simp [List.lookup]
  obtain ⟨u, hu, ru⟩ := RelO.some_of (v := v) (o := mA "index") (by rw [← l]; exact hr "index")
  have J : PySem.W.InstAt s1.heap a oe C (some od) := ⟨ha, hz.1, by unfold PySem.W.notCls; rw [hd] <;> rfl, by rw [hz.2]; exact ho⟩
  exact HandSPX.exc_get I1.kIn J T.ga T.gg T.exC (PySem.W.findObj_own T.hdC T.noN rfl (by rw [hl, hu])) (handed_of ru) ⟨v, H1, I1.tok _, ru, q⟩
end
end PD.XI

/-! PD6b: calls that may raise, raise, try. -/
namespace PD
open PySem PySem.Spec PyProof.Rows L2 RZ RT

/-! ### calls that may raise -/
abbrev CEX := Rho → Sto → Option ((W ⊕ Exn) × Sto)
def rdEX (X : Cx) (m : CEX) : TE := fun σ H Q => ∃ μ S ρ r S', StoOk X.K H μ S ∧ EnvOk X.K H μ ρ σ ∧ m ρ S = some (r, S') ∧
  (∀ w, r = .inl w → ∀ v H' μ', Stp X.K μ S H μ' S' H' → WRep X.K H' μ' w v → Q v H') ∧
  (∀ e, r = .inr e → ∀ cls d H' μ', Stp X.K μ S H μ' S' H' → ExRep X.K X.mg H' e.1 e.2 cls d → WOf X cls d σ H')
abbrev SEX (X : Cx) (e : Expr) (m : CEX) : Prop := PE X e (rdEX X m)
/-- what a callee does: hands back, or lets an exception out -/
def resX (c : Callee) (ws : List W) (S : Sto) : Option ((W ⊕ Exn) × Sto) := match c.run ws S with
  | some p => some (.inl p.1, p.2)
  | none => (c.exn ws S).bind fun z => some (.inr z.1, z.2)
def callX (c : Callee) (l : CL) : CEX := fun ρ S => (l ρ S).bind fun p => if p.1.length = c.ps.length then resX c p.1 p.2 else none
def kwX (c : Callee) (perm : List Nat) (l k : CL) : CEX := fun ρ S => (l ρ S).bind fun p => (k ρ p.2).bind fun q => resX c (atW perm (p.1 ++ q.1)) q.2
/-- a if t else b, each of which may let an exception out -/
def ifX (t : CB) (a b : CEX) : CEX := fun ρ S => (t ρ S).bind fun p => if p.1 = true then a ρ p.2 else b ρ p.2
def exprX (m : CEX) : CS := fun ρ S => (m ρ S).bind fun p => match p.1 with
  | .inl _ => some (.nx, ρ, p.2)
  | .inr e => some (.ex e.1 e.2, ρ, p.2)
def asgX (m : CEX) (g : CG) : CS := fun ρ S => (m ρ S).bind fun p => match p.1 with
  | .inl w => (g w ρ p.2).bind fun q => some (.nx, q.1, q.2)
  | .inr e => some (.ex e.1 e.2, ρ, p.2)
def retX (m : CEX) : CS := fun ρ S => (m ρ S).bind fun p => match p.1 with
  | .inl (.d x) => some (.rt (.d x), ρ, p.2)
  | .inl (.m _) => none
  | .inr e => some (.ex e.1 e.2, ρ, p.2)
section
variable {X : Cx} {x : Str} {p pos : Pos} {e : Expr} {es : List Expr} {c : Callee} {ml mk : CL} {kws : List Keyword} {σ : L2.St} {H : Hp} {Q : VK}
/-- what is wanted of a callee that may raise -/
def RX (X : Cx) (c : Callee) (σ : L2.St) (vs : List V) (H : Hp) (Q : VK) : Prop := FN X.K c.run vs H Q ∨ FX X.K X.mg c.exn vs H (fun cls d H' => WOf X cls d σ H')
theorem rx_of {μ μ1 : List Addr} {S S1 S' : Sto} {H1 : Hp} {ws : List W} {vs : List V} {r : W ⊕ Exn} (ok : StoOk X.K H μ S) (st1 : Stp X.K μ S H μ1 S1 H1) (r1 : WRepL X.K H1 μ1 ws vs) (e : resX c ws S1 = some (r, S'))
    (q1 : ∀ w, r = .inl w → ∀ v H' μ', Stp X.K μ S H μ' S' H' → WRep X.K H' μ' w v → Q v H') (q2 : ∀ e, r = .inr e → ∀ cls d H' μ', Stp X.K μ S H μ' S' H' → ExRep X.K X.mg H' e.1 e.2 cls d → WOf X cls d σ H') : RX X c σ vs H1 Q := by
  unfold resX at e
  cases hr : c.run ws S1 with
  | some p =>
    rw [hr] at e
    cases e
    exact .inl ⟨μ1, S1, ws, p.1, p.2, st1.sto, r1, hr, fun v H' μ' st2 r2 => q1 _ rfl v H' μ' (st1.trans ok st2) r2⟩
  | none =>
    rw [hr] at e
    cases hx : c.exn ws S1 with
    | none => simp only [hx] at e; cases e
    | some z =>
      simp only [hx, Option.bind_some] at e
      cases e
      exact .inr ⟨μ1, S1, ws, z.1, z.2, st1.sto, r1, hx, fun cls d H' μ' st2 r2 => q2 _ rfl cls d H' μ' (st1.trans ok st2) r2⟩
theorem rdx_call (h : rdEX X (callX c ml) σ H Q) : rdL X.K ml σ H fun vs H1 => vs.length = c.ps.length ∧ RX X c σ vs H1 Q := by
  obtain ⟨μ, S, ρ, r, S', ok, en, e, q1, q2⟩ := h
  unfold callX at e
  cases h1 : ml ρ S with
  | none => rw [h1] at e; cases e
  | some p =>
    obtain ⟨ws, S1⟩ := p
    rw [h1, Option.bind_some] at e
    split at e
    · rename_i hl
      exact ⟨μ, S, ρ, ws, S1, ok, en, h1, fun vs H1 μ1 st1 r1 => ⟨by rw [← r1.length]; exact hl, rx_of ok st1 r1 e q1 q2⟩⟩
    · cases e
theorem rdx_kw {perm : List Nat} (h : rdEX X (kwX c perm ml mk) σ H Q) : rdL X.K ml σ H fun vs H1 => rdL X.K mk σ H1 fun zs H2 => RX X c σ (atV perm (vs ++ zs)) H2 Q := by
  obtain ⟨μ, S, ρ, r, S', ok, en, e, q1, q2⟩ := h
  unfold kwX at e
  cases h1 : ml ρ S with
  | none => rw [h1] at e; cases e
  | some p =>
    obtain ⟨ws, S1⟩ := p
    rw [h1, Option.bind_some] at e
    cases h2 : mk ρ S1 with
    | none => rw [h2] at e; cases e
    | some p2 =>
      obtain ⟨zs, S2⟩ := p2
      rw [h2, Option.bind_some] at e
      refine ⟨μ, S, ρ, ws, S1, ok, en, h1, fun vs H1 μ1 st1 r1 => ⟨μ1, S1, ρ, zs, S2, st1.sto, en.step ok st1, h2, fun us H2 μ2 st2 r2 => ?_⟩⟩
      have r12 := (r1.mono (st2.keeps st1.sto) st2.pre).append r2
      exact rx_of ok (st1.trans ok st2) (wrep_at r12 perm) e q1 q2
theorem runs_tox {pins : List (Addr × Obj)} {s : Shared} {f : Addr} {fd : FuncData} {k : Nat} {args : Args} {us : List Value} {vs : List V} (F : FnG X.prog X.w X.K X.mg X.base k f fd c.ps c.run c.exn) (hr : Room k X.A) (hg : X.A.guards = some [])
    (I : Inv X pins σ H s) (hb : BindsTo s fd args (c.ps.zip us)) (r : Vals vs us) (hl : vs.length = c.ps.length) (h : RX X c σ vs H Q) : codeAny (model X.prog X.w) X.A (.call (.ref f) args) (fun r s' => match r with
      | .ok (.ret u) => EP X pins σ Q u s'
      | .ok _ => False
      | .error e => X.xe e s') s := by
  rcases h with h | h
  · refine codeAny_mono (runs_to F hr hg I hb r hl h) fun r s' q => ?_
    cases r with
    | error _ => exact q.elim
    | ok fl => cases fl <;> exact q
  · refine codeAny_mono (F.runx X.A X.stack s H args us vs _ hr hg I.env0 hb r hl h) fun r s' q => ?_
    cases r with
    | error e => exact passAt (takes_WOf X) σ pins H s e s' I q
    | ok fl =>
      cases fl with
      | ret u => obtain ⟨v, H', _, _, _, _, _, z⟩ := q; exact z.elim
      | next => exact q
      | brk => exact q
      | cont => exact q
theorem sx_call (C : CalleeOk X x c) (hg : Gl X x) (ha : SL X (e :: es) ml) (hdb : (x == ("__debug__" : Str)) = false) (he : starEach (e :: es) X.env = (false, eval e X.env) :: starEach es X.env) (hpl : (backTo pos (starEach es X.env)).any (·.1) = false) :
    SEX X (.Call (.Name x p) (e :: es) [] pos) (callX c ml) := by
  obtain ⟨f, fd, k, hm, hk, hr, F, hb, _⟩ := C.ex
  refine ⟨fun pins s σ H Q I h => wpAny_Call_Name_kw (ld_glob I hg hm ?_ hdb)⟩
  refine PySem.W.callWith_K (h₀ := X.base) I.ok.mod.kin hk (thn (ha.run pos pins s σ H _ I (rdx_call h)) fun us s1 ⟨vs, H1, I1, r, hl, q⟩ => ⟨I1.kIn, ?_⟩) he hpl
  refine wpAny_call (codeAny_mono (runs_tox F hr C.guards I1 (hb s1 us (by rw [← r.length]; exact hl)) r hl q) fun r s' z => ?_)
  cases r with
  | error _ => exact z
  | ok fl => cases fl <;> exact z
theorem sx_callK {perm : List Nat} {ks : List Str} (C : CalleeOk X x c) (hg : Gl X x) (ha : SL X (e :: es) ml) (hkw : SK X kws mk) (n1 : ∀ ρ S r, ml ρ S = some r → r.1.length = (e :: es).length) (n2 : ∀ ρ S r, mk ρ S = some r → r.1.length = ks.length)
    (ho : ((e :: es).length, ks, perm) ∈ c.arr) (hall : (backToKw pos (keywordEach kws X.env)).all (·.1.isSome) = true) (hks : (backToKw pos (keywordEach kws X.env)).filterMap (·.1) = ks)
    (hdb : (x == ("__debug__" : Str)) = false) (he : starEach (e :: es) X.env = (false, eval e X.env) :: starEach es X.env)
    (hpl : ((backTo pos (starEach (e :: es) X.env)).any (·.1) || (backToKw pos (keywordEach kws X.env)).any (·.1.isNone)) = false) :
    SEX X (.Call (.Name x p) (e :: es) kws pos) (kwX c perm ml mk) := by
  obtain ⟨f, fd, k, hm, hk, hr, F, _, hb, hpl2⟩ := C.ex
  refine ⟨fun pins s σ H Q I h => wpAny_Call_Name_kw (ld_glob I hg hm ?_ hdb)⟩
  refine PySem.W.callWith_KW (h₀ := X.base) I.ok.mod.kin hk hall (thn (ha.run pos pins s σ H _ I (rdL_len _ n1 (rdx_kw h))) fun us s1 ⟨vs, H1, I1, r, l1, q⟩ => ?_) hpl he
  refine thn (hkw.run pos pins s1 σ H1 _ I1 (rdL_len _ n2 q)) fun ws s2 ⟨zs, H2, I2, rz, l2, q2⟩ => ⟨I2.kIn, ?_⟩
  rw [hks]
  have rr := vals_at (r.append rz) perm
  have hl : (atV perm (vs ++ zs)).length = c.ps.length := by unfold atV; rw [List.length_map]; exact hpl2 _ ho
  refine wpAny_call (codeAny_mono (runs_tox F hr C.guards I2 (hb _ ho s2 us ws (by rw [← r.length]; exact l1) (by rw [← rz.length]; exact l2)) rr hl q2) fun r s' z => ?_)
  cases r with
  | error _ => exact z
  | ok fl => cases fl <;> exact z
theorem sx_callK0 {perm : List Nat} {ks : List Str} (C : CalleeOk X x c) (hg : Gl X x) (hkw : SK X kws mk) (n2 : ∀ ρ S r, mk ρ S = some r → r.1.length = ks.length)
    (ho : (0, ks, perm) ∈ c.arr) (hall : (backToKw pos (keywordEach kws X.env)).all (·.1.isSome) = true) (hks : (backToKw pos (keywordEach kws X.env)).filterMap (·.1) = ks)
    (hdb : (x == ("__debug__" : Str)) = false)
    (hpl : ((backTo pos (starEach [] X.env)).any (·.1) || (backToKw pos (keywordEach kws X.env)).any (·.1.isNone)) = false) :
    SEX X (.Call (.Name x p) [] kws pos) (kwX c perm nilL mk) := by
  obtain ⟨f, fd, k, hm, hk, hr, F, _, hb, hpl2⟩ := C.ex
  refine ⟨fun pins s σ H Q I h => wpAny_Call_Name_kw (ld_glob I hg hm ?_ hdb)⟩
  have h1 : rdL X.K mk σ H fun zs H2 => RX X c σ (atV perm ([] ++ zs)) H2 Q := by
    obtain ⟨μ, S, ρ, ws, S', ok, en, e, q⟩ := rdx_kw h
    cases e
    exact q [] H μ (.refl ok) .nil
  refine PySem.W.callWith_KW0 (h₀ := X.base) I.ok.mod.kin hk hall (thn (hkw.run pos pins s σ H _ I (rdL_len _ n2 h1)) fun ws s2 ⟨zs, H2, I2, rz, l2, q2⟩ => ⟨I2.kIn, ?_⟩) hpl
  rw [hks]
  have rr := vals_at rz perm
  have hl : (atV perm zs).length = c.ps.length := by unfold atV; rw [List.length_map]; exact hpl2 _ ho
  refine wpAny_call (codeAny_mono (runs_tox F hr C.guards I2 (hb _ ho s2 [] ws rfl (by rw [← rz.length]; exact l2)) rr hl q2) fun r s' z => ?_)
  cases r with
  | error _ => exact z
  | ok fl => cases fl <;> exact z
end
section
variable {X : Cx} {e : Expr} {m : CEX} {pos : Pos}
theorem sx_if {ec ea eb : Expr} {tc : CB} {ma mb : CEX} {pos : Pos} (hc : SB X ec tc) (ha : SEX X ea ma) (hb : SEX X eb mb) : SEX X (.IfExp ec ea eb pos) (ifX tc ma mb) :=
  PE.imp (pe_ifExp hc ha hb) fun σ H Q ⟨μ, S, ρ, r, S', ok, en, e, q1, q2⟩ => by
    unfold ifX at e
    cases hx : tc ρ S with
    | none => rw [hx] at e; cases e
    | some p =>
      obtain ⟨k, S1⟩ := p
      rw [hx, Option.bind_some] at e
      refine ⟨μ, S, ρ, k, S1, ok, en, hx, fun H1 μ1 st1 => ?_⟩
      cases k with
      | true => exact ⟨μ1, S1, ρ, r, S', st1.sto, en.step ok st1, e, fun w hw v H2 μ2 st2 => q1 w hw v H2 μ2 (st1.trans ok st2), fun x hx cls d H2 μ2 st2 => q2 x hx cls d H2 μ2 (st1.trans ok st2)⟩
      | false => exact ⟨μ1, S1, ρ, r, S', st1.sto, en.step ok st1, e, fun w hw v H2 μ2 st2 => q1 w hw v H2 μ2 (st1.trans ok st2), fun x hx cls d H2 μ2 st2 => q2 x hx cls d H2 μ2 (st1.trans ok st2)⟩
theorem ss_exprX (h : SEX X e m) (hs : swapsWith e none pos.line X.env = pure false) : SS X (.Expr e pos) (exprX m) := PS.imp (ps_expr h hs) fun D σ H ⟨μ, S, ρ, fl, ρ', S', ok, en, e, q⟩ => by
  unfold exprX at e
  cases hx : m ρ S with
  | none => rw [hx] at e; cases e
  | some p =>
    obtain ⟨r, S1⟩ := p
    rw [hx, Option.bind_some] at e
    cases r with
    | inl w =>
      cases e
      exact ⟨μ, S, ρ, _, _, ok, en, hx, fun w _ v H1 μ1 st1 r1 => q σ H1 μ1 st1 (en.step ok st1), fun e z => nomatch z⟩
    | inr ex =>
      cases e
      refine ⟨μ, S, ρ, _, _, ok, en, hx, fun w z => (nomatch z), fun e z cls d H1 μ1 st1 xr => ?_⟩
      cases z
      exact q σ H1 μ1 st1 (en.step ok st1) cls d xr
theorem ss_asgX {tg : Expr} {g : CG} {vs : List Nat} (h : SEX X e m) (hg : SG X tg g vs) (hs : swapsWithSole [tg] e pos.line X.env = pure false) (hw : swappedStores [tg] e X.env = pure none) (h1 : (assignEach [tg] X.env).map (·.2) = [assign tg X.env]) : SS X (.Assign [tg] e pos) (asgX m g) :=
  PS.imp (ps_asg h hg hs hw h1) fun D σ H ⟨μ, S, ρ, fl, ρ', S', ok, en, e, q⟩ => by
    unfold asgX at e
    cases hx : m ρ S with
    | none => rw [hx] at e; cases e
    | some p =>
      obtain ⟨r, S1⟩ := p
      rw [hx, Option.bind_some] at e
      cases r with
      | inl w =>
        simp only at e
        cases hy : g w ρ S1 with
        | none => rw [hy] at e; cases e
        | some p2 =>
          obtain ⟨ρ2, S2⟩ := p2
          rw [hy, Option.bind_some] at e
          cases e
          refine ⟨μ, S, ρ, _, _, ok, en, hx, fun w z v H1 μ1 st1 r1 => ?_, fun e z => nomatch z⟩
          cases z
          exact ⟨μ1, S1, ρ, _, _, _, st1.sto, en.step ok st1, r1, hy, fun σ2 H2 μ2 st2 en2 _ => q σ2 H2 μ2 (st1.trans ok st2) en2⟩
      | inr ex =>
        cases e
        refine ⟨μ, S, ρ, _, _, ok, en, hx, fun w z => (nomatch z), fun e z cls d H1 μ1 st1 xr => ?_⟩
        cases z
        exact q σ H1 μ1 st1 (en.step ok st1) cls d xr
theorem ss_retX (h : SEX X e m) : SS X (.Return (some e) pos) (retX m) := PS.imp (ps_ret h) fun D σ H ⟨μ, S, ρ, fl, ρ', S', ok, en, e, q⟩ => by
  unfold retX at e
  cases hx : m ρ S with
  | none => rw [hx] at e; cases e
  | some p =>
    obtain ⟨r, S1⟩ := p
    rw [hx, Option.bind_some] at e
    cases r with
    | inl w =>
      cases w with
      | d y =>
        cases e
        refine ⟨μ, S, ρ, _, _, ok, en, hx, fun w z v H1 μ1 st1 r1 => ?_, fun e z => nomatch z⟩
        cases z
        exact q σ H1 μ1 st1 (en.step ok st1) v r1
      | m n => cases e
    | inr ex =>
      cases e
      refine ⟨μ, S, ρ, _, _, ok, en, hx, fun w z => (nomatch z), fun e z cls d H1 μ1 st1 xr => ?_⟩
      cases z
      exact q σ H1 μ1 st1 (en.step ok st1) cls d xr
end

/-! ### raise -/
/-- what is known of an own class of exceptions: its fields -/
inductive ClsOk (K : PySem.W.Frag) (mg : Str → Option Value) : Str → List Str → Prop
  | none {n : Str} {C : Addr} : mg n = some (.ref C) → PySem.W.excIn K C [.type "ValueError", .type "Exception", .type "BaseException", .type "object"] "ValueError.__new__" = true → PySem.W.keepIn K (.ref C) = true → PySem.W.subIn K (.ref C) (.type "BaseException") = some true → PySem.W.typeIn K (.ref C) = some (.type "type") → ClsOk K mg n []
  | given {n q0 : Str} {C fI : Addr} : XG.XTxt n q0 K mg C fI → ClsOk K mg n ["given"]
  | index {n q0 : Str} {C fI : Addr} : XI.XTxt n q0 K mg C fI → ClsOk K mg n ["index"]
def raiseS (n : Str) (fs : List Str) (l : CL) : CS := fun ρ S => (l ρ S).bind fun p => (allD p.1).bind fun xs => if xs.length = fs.length then some (.ex n (fs.zip xs), ρ, p.2) else none
section
variable {X : Cx} {n : Str} {p pos pos2 : Pos} {e : Expr} {ml : CL}
theorem pmk_own0 {C : Addr} {bmB : List Value} {B newId initId : String} (F : ExcBaseFacts B newId initId bmB) (q : PySem.W.excIn X.K C bmB newId = true) (gC : X.mg n = some (.ref C))
    (kC : PySem.W.keepIn X.K (.ref C) = true) (r : Raises X (.ref C)) (hg : Gl X n) (hdb : (n == ("__debug__" : Str)) = false) :
    PMk X (.Call (.Name n p) [] [] pos) (fun σ H Q => Q (.ref C) none H) := by
  intro pins s σ H Q I h
  refine wpAny_Call_Name_kw (ld_glob I hg gC ?_ hdb)
  refine PySem.W.callWith_K0 I.kIn kC ?_
  show wpAny _ _ (call (.ref C) []) _ _ _
  obtain ⟨bm, N, nm, qn, bs, hdct, sn, sub, ab, col, dd, k0, k1, k2, k3, k5, mN, hC, hN, hni, T⟩ := exc_obj I.kIn q
  refine wpAny_call_exc_subT F T hC hN hni (fun h' e hm => ?_) (Nat.zero_le _)
  exact mk_of I hm r h (I.hok.gone hm.new)
theorem ss_raise0 (hc : X.calm = true) (T : ClsOk X.K X.mg n []) (hg : Gl X n) (hdb : (n == ("__debug__" : Str)) = false) : SS X (.Raise (some (.Call (.Name n p) [] [] pos)) none pos2) (raiseS n [] nilL) := by
  cases T with
  | none gC q kC sC tC =>
    refine PS.imp (ps_raise hc (takes_WOf X) (pmk_own0 PySem.F.excBase_ValueError q gC kC (raises_own sC tC) hg hdb)) fun D σ H ⟨μ, S, ρ, fl, ρ', S', ok, en, e, q⟩ => ?_
    cases e
    exact q σ H μ (.refl ok) en _ _ ⟨_, gC, rfl, .inl ⟨rfl, rfl⟩⟩
theorem allD1 {ws : List W} {xs : List PyData} (h : allD ws = some xs) (hl : xs.length = 1) : ∃ x, ws = [.d x] ∧ xs = [x] := by
  match ws, h with
  | [], h => cases h; cases hl
  | .d x :: r, h =>
    unfold allD at h
    cases e : allD r with
    | none => rw [e] at h; cases h
    | some ys =>
      rw [e, Option.bind_some] at h
      cases h
      cases r with
      | nil => cases e; exact ⟨x, rfl, rfl⟩
      | cons w r =>
        exfalso
        cases w with
        | d y =>
          unfold allD at e
          cases e2 : allD r with
          | none => rw [e2] at e; cases e
          | some zs => rw [e2] at e; cases e; simp at hl
        | m j => cases e
  | .m j :: r, h => cases h
theorem ss_raise1 {f : Str} (hc : X.calm = true) (hr : Room 0 X.A) (T : ClsOk X.K X.mg n [f]) (hg : Gl X n) (hdb : (n == ("__debug__" : Str)) = false) (ha : SL X [e] ml)
    (he : starEach [e] X.env = (false, eval e X.env) :: starEach [] X.env) (hpl : (backTo pos (starEach [] X.env)).any (·.1) = false) : SS X (.Raise (some (.Call (.Name n p) [e] [] pos)) none pos2) (raiseS n [f] ml) := by
  have key : ∀ {C : Addr} {σ : L2.St} {H : Hp} {D : Ends}, X.mg n = some (.ref C) → rdS X (raiseS n [f] ml) D σ H → rdL X.K ml σ H fun vs H1 => ∃ v, vs = [v] ∧ ∀ d, H1 d = none → WOf X (.ref C) (some d) σ (upd H1 d (.xd [(f, v)])) := by
    rintro C σ H D gC ⟨μ, S, ρ, fl, ρ', S', ok, en, e, q⟩
    unfold raiseS at e
    cases hx : ml ρ S with
    | none => rw [hx] at e; cases e
    | some pp =>
      obtain ⟨ws, S1⟩ := pp
      rw [hx, Option.bind_some] at e
      cases hd : allD ws with
      | none => simp only [hd] at e; cases e
      | some xs =>
        simp only [hd, Option.bind_some] at e
        split at e
        · rename_i hl
          obtain ⟨x, rfl, rfl⟩ := allD1 hd hl
          cases e
          refine ⟨μ, S, ρ, _, _, ok, en, hx, fun vs H1 μ1 st1 r1 => ?_⟩
          cases r1 with | @cons _ v _ _ r1 l1 =>
          cases l1
          cases r1 with | d r1 =>
          refine ⟨v, rfl, fun d hd => ?_⟩
          have st2 := Stp.new st1.sto (o := .xd [(f, v)]) hd
          have st12 := st1.trans ok st2
          exact q σ _ μ1 st12 (en.step ok st12) _ _ ⟨C, gC, rfl, .inr ⟨d, _, rfl, upd_same, .cons (r1.mono (st2.keeps st1.sto)) .nil⟩⟩
        · cases e
  cases T with
  | given T => exact PS.imp (ps_raise hc (takes_WOf X) (XG.pmk_low T hr ha hg hdb he hpl)) fun D σ H h => key T.gC h
  | index T => exact PS.imp (ps_raise hc (takes_WOf X) (XI.pmk_low T hr ha hg hdb he hpl)) fun D σ H h => key T.gC h
end
end PD

/-! PD6d: suites of except clauses by functions; try. -/
namespace PD
open PySem PySem.Spec PyProof.Rows L2 RZ RT

section
variable {K : PySem.W.Frag} {mg : Str → Option Value} {H H' : Hp} {μ μ' : List Addr} {S S' : Sto}
theorem Flds.mono (k : Keeps H H') : ∀ {as : List (Str × PyData)} {fs : List (Str × V)}, Flds K H as fs → Flds K H' as fs
  | _, _, .nil => .nil
  | _, _, .cons r l => .cons (r.mono k) (Flds.mono k l)
theorem ExRep.step (ok : StoOk K H μ S) (st : Stp K μ S H μ' S' H') {n : Str} {as : List (Str × PyData)} {cls : Value} {d : Option Addr} (x : ExRep K mg H n as cls d) : ExRep K mg H' n as cls d := by
  obtain ⟨C, h1, h2, h3 | ⟨dd, fs, h4, h5, h6⟩⟩ := x
  · exact ⟨C, h1, h2, .inl h3⟩
  · refine ⟨C, h1, h2, .inr ⟨dd, fs, h4, st.ext dd _ h5 fun l => ?_, h6.mono (st.keeps ok)⟩⟩
    obtain ⟨vs, z⟩ := ok.live_lst l
    rw [h5] at z; cases z
end
/-- a suite, of the exception that it handles -/
abbrev SM := Str → List (Str × PyData) → CS
abbrev EM := Str → List (Str × PyData) → CE
abbrev LM := Str → List (Str × PyData) → CL
def GoesU (K : PySem.W.Frag) (D : Ends) (μ : List Addr) (σ : L2.St) (H : Hp) : Fl → Prop
  | .nx => D.nx σ H
  | .rt w => ∀ v, WRep K H μ w v → D.rt v H
  | _ => False
def Slot (o : Option Nat) (a : Addr) (σ : L2.St) : Prop := ∀ i, o = some i → σ[i]? = some (some (.ref a))
def rdU (X : Cx) (o : Option Nat) (a : Addr) (cls : Value) (d : Option Addr) (s : SM) : TS := fun D σ H => Slot o a σ ∧ ∃ n as, ExRep X.K X.mg H n as cls d ∧ ∃ μ S ρ fl ρ' S', StoOk X.K H μ S ∧ EnvOk X.K H μ ρ σ ∧ s n as ρ S = some (fl, ρ', S') ∧
  ∀ σ' H' μ', Stp X.K μ S H μ' S' H' → EnvOk X.K H' μ' ρ' σ' → GoesU X.K D μ' σ' H' fl
def rdUE (X : Cx) (o : Option Nat) (a : Addr) (cls : Value) (d : Option Addr) (m : EM) : TE := fun σ H Q => Slot o a σ ∧ ∃ n as, ExRep X.K X.mg H n as cls d ∧ rdE X.K (m n as) σ H Q
def rdUL (X : Cx) (o : Option Nat) (a : Addr) (cls : Value) (d : Option Addr) (m : LM) : TA := fun σ H Q => Slot o a σ ∧ ∃ n as, ExRep X.K X.mg H n as cls d ∧ rdL X.K (m n as) σ H Q
theorem rdE_keep {K : PySem.W.Frag} {mg : Str → Option Value} {m : CE} {σ : L2.St} {H : Hp} {Q : VK} (h : rdE K m σ H Q) : rdE K m σ H fun v H1 => (∀ n as cls d, ExRep K mg H n as cls d → ExRep K mg H1 n as cls d) ∧ Q v H1 := by
  obtain ⟨μ, S, ρ, w, S', ok, en, e, q⟩ := h
  exact ⟨μ, S, ρ, w, S', ok, en, e, fun v H' μ' st r => ⟨fun n as cls d x => x.step ok st, q v H' μ' st r⟩⟩
section
variable {X : Cx} {o : Option Nat} {a : Addr} {oe : Obj} {cls : Value} {d : Option Addr} {pn : List (Addr × Obj)} {e b : Expr} {es : List Expr} {pos : Pos}
theorem ue_plain {m : CE} (h : SE (X.suite a ((a, oe) :: pn)) e m) : PE (X.suite a ((a, oe) :: pn)) e (rdUE X o a cls d fun _ _ => m) := PE.imp h fun σ H Q ⟨_, n, as, _, r⟩ => r
theorem ul_nil : PA (X.suite a ((a, oe) :: pn)) [] (rdUL X o a cls d fun _ _ => nilL) := PA.imp pa_nil fun σ H Q ⟨_, n, as, _, μ, S, ρ, w, S', ok, en, e, q⟩ => by
  cases e
  exact q _ H μ (.refl ok) .nil
theorem ul_cons {m : EM} {l : LM} (ha : PE (X.suite a ((a, oe) :: pn)) e (rdUE X o a cls d m)) (hl : PA (X.suite a ((a, oe) :: pn)) es (rdUL X o a cls d l)) (hs : starEach (e :: es) X.env = (false, eval e X.env) :: starEach es X.env) :
    PA (X.suite a ((a, oe) :: pn)) (e :: es) (rdUL X o a cls d fun n as => consL (m n as) (l n as)) := PA.imp (pa_cons ha hl hs) fun σ H Q ⟨s, n, as, x, r⟩ =>
  ⟨s, n, as, x, by
    have := rdE_keep (mg := X.mg) (rd_cons r)
    obtain ⟨μ, S, ρ, w, S', ok, en, e, q⟩ := this
    exact ⟨μ, S, ρ, w, S', ok, en, e, fun v H' μ' st r => ⟨s, n, as, (q v H' μ' st r).1 _ _ _ _ x, (q v H' μ' st r).2⟩⟩⟩
theorem ue_tup {l : LM} {k : Nat} (h : PA (X.suite a ((a, oe) :: pn)) es (rdUL X o a cls d l)) : PE (X.suite a ((a, oe) :: pn)) (.Tuple es k pos) (rdUE X o a cls d fun n as => appE tupF (l n as)) := PE.imp (pe_tup h) fun σ H Q ⟨s, n, as, x, h⟩ => by
  obtain ⟨μ, S, ρ, ws, S1, ok, en, e, q⟩ := rd_app h
  refine ⟨s, n, as, x, μ, S, ρ, ws, S1, ok, en, e, fun vs H1 μ1 st r => ?_⟩
  obtain ⟨μ2, S2, ws2, w, S3, ok2, r2, e2, q2⟩ := q vs H1 μ1 st r
  unfold tupF at e2
  cases ea : allD ws2 with
  | none => rw [ea] at e2; cases e2
  | some xs =>
    rw [ea, Option.bind_some] at e2
    split at e2
    · rename_i hz
      cases e2
      have rl := allD_rep r2 ea
      exact ⟨by rw [← rl.length]; exact lim_le hz, fun p hp => q2 _ _ μ2 (.new ok2 hp) (.d (.tup (.inl upd_same) (rl.mono fun a o e _ => same_new hp a o e)))⟩
    · cases e2
theorem ue_lst {l : LM} (h : PA (X.suite a ((a, oe) :: pn)) es (rdUL X o a cls d l)) : PE (X.suite a ((a, oe) :: pn)) (.List es pos) (rdUE X o a cls d fun n as => appE lstF (l n as)) := PE.imp (pe_fz (pe_lst h)) fun σ H Q ⟨s, n, as, x, h⟩ => by
  obtain ⟨μ, S, ρ, ws, S1, ok, en, e, q⟩ := rd_app h
  refine ⟨s, n, as, x, μ, S, ρ, ws, S1, ok, en, e, fun vs H1 μ1 st r => ?_⟩
  obtain ⟨μ2, S2, ws2, w, S3, ok2, r2, e2, q2⟩ := q vs H1 μ1 st r
  unfold lstF at e2
  cases ea : allD ws2 with
  | none => rw [ea] at e2; cases e2
  | some xs =>
    rw [ea, Option.bind_some] at e2
    split at e2
    · rename_i hz
      cases e2
      have rl := allD_rep r2 ea
      refine ⟨by rw [← rl.length]; exact lim_le hz, fun p hp => .inl ⟨p, _, rfl, upd_same, fun o => ?_⟩⟩
      rw [upd_upd]
      exact q2 _ _ μ2 (.new ok2 hp) (.d (.lst (.inl ⟨o, upd_same⟩) (rl.mono fun a o e _ => same_new hp a o e)))
    · cases e2
theorem ue_and {m k : EM} {rest : List Expr} (ha : PE (X.suite a ((a, oe) :: pn)) e (rdUE X o a cls d m)) (hb : PE (X.suite a ((a, oe) :: pn)) (.BoolOp .And (b :: rest) pos) (rdUE X o a cls d k)) :
    PE (X.suite a ((a, oe) :: pn)) (.BoolOp .And (e :: b :: rest) pos) (rdUE X o a cls d fun n as => andE (m n as) (k n as)) := PE.imp (pe_and ha hb) fun σ H Q ⟨s, n, as, x, r⟩ =>
  ⟨s, n, as, x, by
    obtain ⟨μ, S, ρ, w, S', ok, en, e, q⟩ := rdE_keep (mg := X.mg) (rd_andE r)
    refine ⟨μ, S, ρ, w, S', ok, en, e, fun v H' μ' st r => ?_⟩
    obtain ⟨kp, c, ec, z⟩ := q v H' μ' st r
    refine ⟨c, ec, ?_⟩
    cases c with
    | true => exact ⟨s, n, as, kp _ _ _ _ x, z⟩
    | false => exact z⟩
/-! ### the exception's fields, its class -/
/-- e.f -/
def attrU (cl : Str → Option (List Str)) (f : Str) : EM := fun n as => match as with
  | [(g, x)] => if g = f ∧ cl n = some [f] then constE x else fun _ _ => none
  | _ => fun _ _ => none
theorem ue_attr {cl : Str → Option (List Str)} {i : Nat} {x f : Str} {p pos : Pos} (hcl : ∀ n fs, cl n = some fs → ClsOk X.K X.mg n fs) (hz : Zc cls d oe) (hf : ∃ vs, oe.data = .fields vs) (hN : X.N[i]? = some x) (hv : Vis X.env.scope x) (hd : (x == ("__debug__" : Str)) = false) (hcd : (x == ("__classdict__" : Str)) = false)
    (hb : ∀ f : Str, attributeBase (.Name x p) f X.env (eval (.Name x p) X.env) = eval (.Name x p) X.env) : PE (X.suite a ((a, oe) :: pn)) (.Attribute (.Name x p) f pos) (rdUE X (some i) a cls d (attrU cl f)) := by
  have key : ∀ {g : Str} {σ : L2.St} {H : Hp} {Q : VK} {n : Str} {as : List (Str × PyData)}, Slot (some i) a σ → ExRep X.K X.mg H n as cls d → rdE X.K (attrU cl f n as) σ H Q →
      ∃ C y v, cl n = some [f] ∧ X.mg n = some (.ref C) ∧ cls = .ref C ∧ (∃ dd, d = some dd ∧ H dd = some (.xd [(f, v)])) ∧ Rep X.K H y v ∧ Q v H := by
    intro g σ H Q n as s xr h
    obtain ⟨μ, S, ρ, w, S', ok, en, e, q⟩ := h
    unfold attrU at e
    split at e
    · rename_i g y
      split at e
      · rename_i hg
        obtain ⟨rfl, hc⟩ := hg
        cases e
        obtain ⟨C, h1, h2, ⟨h3, _⟩ | ⟨dd, fs, h4, h5, h6⟩⟩ := xr
        · cases h3
        · cases h6 with | cons r l =>
          cases l
          exact ⟨C, y, _, hc, h1, h2, ⟨dd, h4, h5⟩, r, q _ H μ (.refl ok) (.d r)⟩
      · cases e
    · cases e
  refine ⟨fun pins s σ H Q I ⟨sl, n, as, xr, h⟩ => ?_⟩
  obtain ⟨C, y, v, hc, h1, h2, ⟨dd, h4, h5⟩, r, q⟩ := key (g := f) sl xr h
  have T := hcl n [f] hc
  have hn : PE (X.suite a ((a, oe) :: pn)) (.Name x p) (tVar i) := pe_var hN hv hd hcd
  cases T with
  | given T =>
    have eC : X.mg n = some (.ref _) := T.gC
    rw [h1] at eC; cases eC
    exact (XG.pe_byLow T hz hf hn (hb _)).run pins s σ H Q I ⟨_, sl i rfl, rfl, h2, dd, v, h4, h5, q⟩
  | index T =>
    have eC : X.mg n = some (.ref _) := T.gC
    rw [h1] at eC; cases eC
    exact (XI.pe_byLow T hz hf hn (hb _)).run pins s σ H Q I ⟨_, sl i rfl, rfl, h2, dd, v, h4, h5, q⟩
end
/-- isinstance(e, c), e the exception that the suite holds, with or without a dict -/
theorem call_isX {X : Cx} {a D : Addr} {oe : Obj} {pn : List (Addr × Obj)} {d : Option Addr} (C : ExcC X.K D) (hz : Zc (.ref D) d oe) (hf : ∃ vs, oe.data = .fields vs) :
    CallR (X.suite a ((a, oe) :: pn)) (.builtin "isinstance") (fun xs H Q => (d = none ∨ ∃ dd fs, d = some dd ∧ H dd = some (.xd fs)) ∧ rIsE X.K D a xs H Q) := by
  intro pins s σ H xs us Q I r h
  obtain ⟨hd, c, cv, b, rfl, hcv, e, q⟩ := h
  cases r with
  | cons rx rr =>
    cases rr with
    | cons rt rr =>
      cases rr
      cases rx
      have ec := hcv _ rt
      subst ec
      obtain ⟨hget, _⟩ := I.pin (a, oe) (List.mem_append.mpr (.inl List.mem_cons_self))
      obtain ⟨vs, hv⟩ := hf
      obtain ⟨od, J⟩ : ∃ od, PySem.W.InstAt s.heap a oe D od := by
        rcases hd with rfl | ⟨dd, fs, rfl, ea⟩
        · exact ⟨none, hget, hz.1, by unfold PySem.W.notCls; rw [hv] <;> rfl, by rw [hz.2]; trivial⟩
        · have hx : ObjOk X.prog X.w H s.heap dd (.xd fs) := I.hok dd _ ea
          obtain ⟨mA, hns, hr⟩ := hx
          obtain ⟨od, ho, hl⟩ := lookIn_ns hns
          exact ⟨some od, hget, hz.1, by unfold PySem.W.notCls; rw [hv] <;> rfl, by rw [hz.2]; exact ho⟩
      have hcl : (PySem.W.clsIn X.K D).isSome = true := by
        obtain ⟨cd, hc, _⟩ := PySem.W.any_some C.hd
        rw [hc]; rfl
      exact PySem.W.kia_one (PySem.W.kitx_exc (od := od) (ox := oe) hcl C.hg C.hk C.hs C.ha C.hn C.ht C.hm) I.kIn J e (fun z => nomatch z) fun tk => ⟨.bl b, H, I.kept (t' := tk) fun _ _ z => z, rfl, q⟩
section
variable {X : Cx} {o : Option Nat} {a : Addr} {oe : Obj} {cls : Value} {d : Option Addr} {pn : List (Addr × Obj)} {e b : Expr} {es : List Expr} {pos : Pos}
/-- isinstance(e, C) -/
def isiU (sub : Str → Str → Option Bool) (c : Str) : EM := fun n _ => match sub n c with
  | some b => constE (.bool b)
  | none => fun _ _ => none
theorem ue_isi {sub : Str → Str → Option Bool} {i : Nat} {x c : Str} {cv : Value} {p p1 p2 pos : Pos} (hsub : ∀ n b, sub n c = some b → ∀ C, X.mg n = some (.ref C) → ExcC X.K C ∧ PySem.W.kitOne X.K (.ref C) cv = some b)
    (hz : Zc cls d oe) (hf : ∃ vs, oe.data = .fields vs) (hN : X.N[i]? = some x) (hv : Vis X.env.scope x) (hd : (x == ("__debug__" : Str)) = false) (hcd : (x == ("__classdict__" : Str)) = false)
    (hg : Gl X "isinstance") (hm : X.mg "isinstance" = none) {v : V} (rv : ∀ u, RelV v u → u = cv) (hnc : PE (X.suite a ((a, oe) :: pn)) (.Name c p2) (tC v))
    (h1 : starEach [.Name x p, .Name c p2] X.env = (false, eval (.Name x p) X.env) :: starEach [.Name c p2] X.env) (h2 : starEach [.Name c p2] X.env = (false, eval (.Name c p2) X.env) :: starEach [] X.env) (h3 : (backTo pos (starEach [.Name c p2] X.env)).any (·.1) = false) :
    PE (X.suite a ((a, oe) :: pn)) (.Call (.Name "isinstance" p1) [.Name x p, .Name c p2] [] pos) (rdUE X (some i) a cls d (isiU sub c)) := by
  refine ⟨fun pins s σ H Q I ⟨sl, n, as, xr, h⟩ => ?_⟩
  obtain ⟨μ, S, ρ, w, S', ok, en, e, q⟩ := h
  have hn : PE (X.suite a ((a, oe) :: pn)) (.Name x p) (tVar i) := pe_var hN hv hd hcd
  unfold isiU at e
  cases hb : sub n c with
  | none => rw [hb] at e; cases e
  | some b =>
    rw [hb] at e
    cases e
    obtain ⟨C, g1, rfl, h6⟩ := xr
    obtain ⟨E, kt⟩ := hsub n b hb C g1
    refine (pe_callB (call_isX E hz hf) hg hm (by decide +kernel) (pa_cons hn (pa_cons hnc pa_nil h2) h1) (he := h1) (hpl := h3)).run pins s σ H Q I ⟨_, sl i rfl, ?_⟩
    refine ⟨?_, v, cv, b, rfl, rv, kt, q _ H μ (.refl ok) (.d (.bl _))⟩
    rcases h6 with ⟨_, h⟩ | ⟨dd, fs, h4, h5, _⟩
    · exact .inl h
    · exact .inr ⟨dd, fs, h4, h5⟩
/-! ### a suite of one statement -/
def setU (j : Nat) (m : EM) : SM := fun n as ρ S => (m n as ρ S).bind fun p => some (.nx, ρ.set j (some p.1), p.2)
def retU (m : EM) : SM := fun n as ρ S => (m n as ρ S).bind fun p => match p.1 with
  | .d x => some (.rt (.d x), ρ, p.2)
  | .m _ => none
theorem su_set {j : Nat} {y : Str} {py : Pos} {m : EM} (h : PE (X.suite a ((a, oe) :: pn)) e (rdUE X o a cls d m)) (hN : X.N.Nodup) (hi : X.N[j]? = some y) (hy : Loc X.env.scope y) (hs : swapsWith e (some (.Name y py)) pos.line X.env = pure false) (hf : X.fn y = true ∨ X.env.scope.names.lookup y = some .local) :
    PSs (X.suite a ((a, oe) :: pn)) [.Assign [.Name y py] e pos] (rdU X o a cls d (setU j m)) := PSs.imp (pss_one (ps_set (X := X.suite a ((a, oe) :: pn)) hN hi hy h hs hf)) fun D σ H ⟨s, n, as, x, μ, S, ρ, fl, ρ', S', ok, en, e, q⟩ => by
  unfold setU at e
  cases hx : m n as ρ S with
  | none => rw [hx] at e; cases e
  | some p =>
    rw [hx, Option.bind_some] at e
    cases e
    exact ⟨s, n, as, x, μ, S, ρ, _, _, ok, en, hx, fun v H1 μ1 st r => q _ H1 μ1 st ((en.step ok st).set j r)⟩
theorem su_ret {m : EM} (h : PE (X.suite a ((a, oe) :: pn)) e (rdUE X o a cls d m)) : PSs (X.suite a ((a, oe) :: pn)) [.Return (some e) pos] (rdU X o a cls d (retU m)) := PSs.imp (pss_one (ps_ret h)) fun D σ H ⟨s, n, as, x, μ, S, ρ, fl, ρ', S', ok, en, e, q⟩ => by
  unfold retU at e
  cases hx : m n as ρ S with
  | none => rw [hx] at e; cases e
  | some p =>
    obtain ⟨w, S1⟩ := p
    rw [hx, Option.bind_some] at e
    cases w with
    | d y =>
      cases e
      exact ⟨s, n, as, x, μ, S, ρ, _, _, ok, en, hx, fun v H1 μ1 st r => q _ H1 μ1 st (en.step ok st) v r⟩
    | m k => cases e
end

/-! ### try -/
/-- a clause: the class that it names, the slot of its name, its suite -/
abbrev Clz := Str × Option Nat × SM
def suiteS (s : CS) : CS := fun ρ S => (s ρ S).bind fun p => match p.1 with
  | .nx => some (.nx, p.2)
  | .rt w => some (.rt w, p.2)
  | _ => none
def handle (sub : Str → Str → Option Bool) (n : Str) (as : List (Str × PyData)) : List Clz → CS
  | [] => fun ρ S => some (.ex n as, ρ, S)
  | (c, o, s) :: r => fun ρ S => match sub n c with
    | none => none
    | some false => handle sub n as r ρ S
    | some true => match o with
      | none => suiteS (s n as) ρ S
      | some i => if i < ρ.length then (suiteS (s n as) (ρ.set i none) S).bind fun p => some (p.1, p.2.1.set i none, p.2.2) else none
def tryS (sub : Str → Str → Option Bool) (b : CS) (hs : List Clz) : CS := fun ρ S => (b ρ S).bind fun p => match p.1 with
  | .ex n as => handle sub n as hs p.2.1 p.2.2
  | f => some (f, p.2.1, p.2.2)
section
variable {X : Cx} {sub : Str → Str → Option Bool} {pos : Pos}
def GoesW (K : PySem.W.Frag) (mg : Str → Option Value) (W : WX) (D : Ends) (μ : List Addr) (σ : L2.St) (H : Hp) : Fl → Prop
  | .nx => D.nx σ H
  | .bk => D.bk σ H
  | .ct => D.ct σ H
  | .rt w => ∀ v, WRep K H μ w v → D.rt v H
  | .ex n as => ∀ cls d, ExRep K mg H n as cls d → W cls d σ H
/-- what one clause wishes -/
theorem clause_wish {x : Str} {cv : Value} {i : Nat} {s : SM} (hsub : ∀ n b, sub n x = some b → ∀ C, X.mg n = some (.ref C) → PySem.W.exmOne X.K (.ref C) cv = some b)
    {D : Ends} {n : Str} {as : List (Str × PyData)} {μ : List Addr} {S : Sto} {ρ : Rho} {fl : Fl} {ρ' : Rho} {S' : Sto} {σ : L2.St} {H : Hp} (ok : StoOk X.K H μ S) (en : EnvOk X.K H μ ρ σ) (e : handle sub n as [(x, some i, s)] ρ S = some (fl, ρ', S'))
    (q : ∀ σ' H' μ', Stp X.K μ S H μ' S' H' → EnvOk X.K H' μ' ρ' σ' → Goes X D μ' σ' H' fl) {cls : Value} {d : Option Addr} (xr : ExRep X.K X.mg H n as cls d) : wAs X.K cv i (fun a cls d => rdU X (some i) a cls d s) (WOf X) D cls d σ H := by
  unfold handle at e
  cases hb : sub n x with
  | none => rw [hb] at e; cases e
  | some b =>
    rw [hb] at e
    obtain ⟨C, g1, g2, g3⟩ := id xr
    refine ⟨b, by rw [g2]; exact hsub n b hb C g1, fun hb1 a ha => ?_, fun hb0 => ?_⟩
    · subst hb1
      have e : (if i < ρ.length then (suiteS (s n as) (ρ.set i none) S).bind fun p => some (p.1, p.2.1.set i none, p.2.2) else none) = some (fl, ρ', S') := e
      split at e
      rotate_left
      · cases e
      rename_i hil
      unfold suiteS at e
      have en0 : EnvOk X.K H μ (ρ.set i none) (σ.set i (some (.ref a))) := by
        refine ⟨by have := en.len; simp only [List.length_set]; exact this, fun j w hj => ?_⟩
        by_cases hji : j = i
        · subst hji
          rw [List.getElem?_set_self hil] at hj; cases hj
        · rw [List.getElem?_set_ne (Ne.symm hji)] at hj
          obtain ⟨v, h1, h2⟩ := en.get j w hj
          exact ⟨v, by rw [List.getElem?_set_ne (Ne.symm hji)]; exact h1, h2⟩
      have un : ∀ {ρ1 : Rho} {σ1 : L2.St} {H1 : Hp} {μ1 : List Addr}, EnvOk X.K H1 μ1 ρ1 σ1 → EnvOk X.K H1 μ1 (ρ1.set i none) (σ1.set i none) := fun {ρ1 σ1 H1 μ1} z => by
        refine ⟨by have := z.len; simp only [List.length_set]; exact this, fun j w hj => ?_⟩
        by_cases hji : j = i
        · subst hji
          by_cases hl : j < ρ1.length
          · rw [List.getElem?_set_self hl] at hj; cases hj
          · rw [List.getElem?_eq_none (by simpa using hl)] at hj; cases hj
        · rw [List.getElem?_set_ne (Ne.symm hji)] at hj
          obtain ⟨v, h1, h2⟩ := z.get j w hj
          exact ⟨v, by rw [List.getElem?_set_ne (Ne.symm hji)]; exact h1, h2⟩
      cases hs : s n as (ρ.set i none) S with
      | none => rw [hs] at e; cases e
      | some p =>
        obtain ⟨f, ρ1, S1⟩ := p
        rw [hs, Option.bind_some] at e
        have hσ : i < σ.length := by have := en.len; omega
        refine ⟨fun k z => by cases z; exact List.getElem?_set_self hσ, n, as, xr, μ, S, ρ.set i none, f, ρ1, S1, ok, en0, hs, fun σ1 H1 μ1 st1 en1 => ?_⟩
        cases f with
        | nx => cases e; exact q _ H1 μ1 st1 (un en1)
        | rt w => cases e; exact q _ H1 μ1 st1 (un en1)
        | bk => cases e
        | ct => cases e
        | ex _ _ => cases e
    · subst hb0
      have e : handle sub n as [] ρ S = some (fl, ρ', S') := e
      cases e
      exact q σ H μ (.refl ok) en cls d xr
theorem ss_try {body : List Stmt} {x nm : Str} {cv : Value} {i : Nat} {s : SM} {b₀ : Stmt} {suite : List Stmt} {np pos' : Pos} {m : CS} (hs : X.stack = X.env :: X.outer) (hf : X.env.frame = some X.env.locals) (hN : X.N.Nodup)
    (hb : ∀ (pn : List (Addr × Obj)) (xe : Value → Shared → Prop), PassesOwn (model X.prog X.w) X.A X.env xe → SSs (X.tr pn xe) body m) (hc : Names X x cv) (hsub : ∀ n b, sub n x = some b → ∀ C, X.mg n = some (.ref C) → PySem.W.exmOne X.K (.ref C) cv = some b)
    (hi : X.N[i]? = some nm) (hln : X.env.kindOf nm = some .local)
    (hsu : ∀ (a : Addr) (oe : Obj) (cls : Value) (d : Option Addr) (pn : List (Addr × Obj)), Zc cls d oe → (∃ vs, oe.data = .fields vs) → PSs (X.suite a ((a, oe) :: pn)) (b₀ :: suite) (rdU X (some i) a cls d s)) :
    SS X (.Try body [.ExceptHandler (some (.Name x np)) (some nm) (b₀ :: suite) pos'] [] [] pos) (tryS sub m [(x, some i, s)]) := by
  refine PS.imp (ps_try_as (tb := fun W D σ H => ∃ μ S ρ fl ρ' S', StoOk X.K H μ S ∧ EnvOk X.K H μ ρ σ ∧ m ρ S = some (fl, ρ', S') ∧ ∀ σ' H' μ', Stp X.K μ S H μ' S' H' → EnvOk X.K H' μ' ρ' σ' → GoesW X.K X.mg W D μ' σ' H' fl)
    hs hf hN hi hln hc (takes_WOf X) (fun W pn xe tk po => PSs.imp (hb pn xe po) fun D σ H ⟨μ, S, ρ, fl, ρ', S', ok, en, e, q⟩ => ⟨μ, S, ρ, fl, ρ', S', ok, en, e, fun σ' H' μ' st en' => ?_⟩) hsu) fun D σ H ⟨μ, S, ρ, fl, ρ', S', ok, en, e, q⟩ => ?_
  · have z := q σ' H' μ' st en'
    cases fl with
    | nx => exact z
    | bk => exact z
    | ct => exact z
    | rt w => exact z
    | ex n as => exact fun cls d xr => WOf_of tk (z cls d xr)
  · unfold tryS at e
    cases hm : m ρ S with
    | none => rw [hm] at e; cases e
    | some p =>
      obtain ⟨f, ρ1, S1⟩ := p
      rw [hm, Option.bind_some] at e
      refine ⟨μ, S, ρ, f, ρ1, S1, ok, en, hm, fun σ1 H1 μ1 st1 en1 => ?_⟩
      cases f with
      | nx => cases e; exact q σ1 H1 μ1 st1 en1
      | bk => cases e; exact q σ1 H1 μ1 st1 en1
      | ct => cases e; exact q σ1 H1 μ1 st1 en1
      | rt w => cases e; exact q σ1 H1 μ1 st1 en1
      | ex n as => exact fun cls d xr => clause_wish hsub st1.sto en1 e (fun σ2 H2 μ2 st2 en2 => q σ2 H2 μ2 (st1.trans ok st2) en2) xr
end
end PD

/-! PD, part 7: statements from the text, the table of defs, the law's end. -/
namespace PD
open PySem PySem.Spec PyProof.Rows L2 RZ RT

def isStarE : Expr → Bool
  | .Starred _ _ => true
  | _ => false
/-- whether the stores of a, b = x, y are exchanged -/
def swp (sc : Scope) (ts vs : List Expr) : Option (Option (List Str)) :=
  if (!(ts.length == 2 || ts.length == 3) || vs.length != ts.length) = true then some none
  else if (vs.any isStarE) = true then some none
  else
    let names := ts.filterMap fun
      | .Name id pos => if (sc.names.lookup id == some .local && pos.line == (ts.head?.map (·.pos.line)).getD 0) = true then some id else none
      | _ => none
    if (names.length != ts.length || names.eraseDups.length != names.length) = true then some none
    else if (vs.all (foldedForSure 8)) = true then some none
    else if (vs.all (constantsAlone 8)) = true then none
    else some (some names)
theorem swp_ok {env : Env} {sc : Scope} (hs : env.scope = sc) (hk : sc.kind = .function) {ts vs : List Expr} {r : Option (List Str)} (h : swp sc ts vs = some r) (k k2 : Nat) (p p2 : Pos) : swappedStores [.Tuple ts k p] (.Tuple vs k2 p2) env = pure r := by
  have hb : env.blockKind = .function := by unfold Env.blockKind; rw [hs, hk]; rfl
  have hkk : ∀ id, env.kindOf id = sc.names.lookup id := fun id => by unfold Env.kindOf; rw [hs]
  unfold swp at h
  unfold swappedStores
  simp only [hb, hkk]
  by_cases h1 : (!(ts.length == 2 || ts.length == 3) || vs.length != ts.length) = true
  · rw [if_pos h1] at h; cases h
    have h1' : (!(ts.length == 2 || ts.length == 3) || vs.length != ts.length || ScopeKind.function != ScopeKind.function) = true := by rw [h1]; rfl
    exact (if_pos h1').trans rfl
  · rw [if_neg h1] at h
    have h1' : ¬ (!(ts.length == 2 || ts.length == 3) || vs.length != ts.length || ScopeKind.function != ScopeKind.function) = true := by
      intro z; apply h1; revert z; simp
    rw [if_neg h1']
    by_cases h2 : (vs.any isStarE) = true
    · rw [if_pos h2] at h; cases h
      refine (if_pos ?_).trans rfl
      refine Eq.trans (congrArg (List.any vs) (funext fun e => ?_)) h2
      cases e <;> rfl
    · rw [if_neg h2] at h
      have hq : ∀ q : Expr → Bool, (∀ e, q e = isStarE e) → ¬ (vs.any q = true) := fun q hq z => h2 (by rw [← funext hq]; exact z)
      refine (if_neg (hq _ fun e => ?_)).trans ?_
      · cases e <;> rfl
      · simp only at h ⊢
        split at h
        · rename_i h3; cases h; exact (if_pos h3).trans rfl
        · rename_i h3
          refine (if_neg h3).trans ?_
          split at h
          · rename_i h4; cases h; exact (if_pos h4).trans rfl
          · rename_i h4
            refine (if_neg h4).trans ?_
            split at h
            · cases h
            · rename_i h5
              cases h
              exact (if_neg h5).trans rfl
theorem swapsNo {e : Expr} (h : notComp e = true) (t : Option Expr) (l : Nat) (env : Env) : swapsWith e t l env = pure false := by
  cases e <;> first | rfl | cases h
def isTupE : Expr → Bool
  | .Tuple _ _ _ => true
  | _ => false
def isLstE : Expr → Bool
  | .List _ _ => true
  | _ => false
def notTupTup (tg e : Expr) : Bool := !isLstE tg && (!isTupE tg || !isTupE e)
theorem storesNo {tg e : Expr} (h : notTupTup tg e = true) (env : Env) : swappedStores [tg] e env = pure none := by
  unfold notTupTup at h
  cases tg with
  | List a b => simp [isLstE] at h
  | Tuple a b d =>
    cases e with
    | Tuple a b d => simp [isLstE, isTupE] at h
    | _ => rfl
  | _ => rfl

def cBlk (g : Stmt → Option CS) : List Stmt → Option CS
  | [] => some nilS
  | st :: r => (g st).bind fun a => (cBlk g r).bind fun b => some (seqS a b)
def cGen (c : Ctx) (f : Expr → Option CE) (sc : Scope) (tg e : Expr) : Option CS :=
  if notStar tg = true then (f e).bind fun m => (cTgt c f true sc 4 tg).bind fun (g : CG × List Nat) => some (asgS m g.1) else none
def cPar (c : Ctx) (f : Expr → Option CE) (sc : Scope) (names : List Str) (ts vs : List Expr) : Option CS :=
  match ts, vs with
  | [.Name x _, .Name y _], [a, b] => if (names == [x, y] && lcl sc x && lcl sc y) = true then (slot c.N x).bind fun i => (slot c.N y).bind fun j => if i = j then none else (cArgs f [a, b]).bind fun l => some (parS i j l) else none
  | [.Name x _, .Name y _, .Name z _], [a, b, d] => if (names == [x, y, z] && lcl sc x && lcl sc y && lcl sc z) = true then (slot c.N x).bind fun i => (slot c.N y).bind fun j => (slot c.N z).bind fun k => if i = j ∨ i = k ∨ j = k then none else (cArgs f [a, b, d]).bind fun l => some (par3S i j k l) else none
  | _, _ => none
def cParC (c : Ctx) (f : Expr → Option CE) (sc : Scope) (ts vs : List Expr) : Option CS :=
  match ts, vs with
  | [.Name x _, .Name y _], [a, b] => if ((isLstE a || isLstE b) && (lcl sc x || cel sc x) && (lcl sc y || cel sc y)) = true then (slot c.N x).bind fun i => (slot c.N y).bind fun j => (cArgs f [a, b]).bind fun l => some (parS i j l) else none
  | _, _ => none
def cAsg (c : Ctx) (f : Expr → Option CE) (sc : Scope) (tg e : Expr) : Option CS :=
  match tg, e with
  | .Name y py, .ListComp elt gens scope p =>
    if cel sc y = true then cGen c f sc tg e
    else if (lcl sc y && (py.line == p.line) && !(scope.names.any fun (n, k) => n == y && (k == .local || k == .cell))) = true then (f e).bind fun m => (slot c.N y).bind fun i => some (asgS m (nameG i)) else none
  | .Tuple ts _ _, .Tuple vs _ _ => (match swp sc ts vs with
    | some none => (match cParC c f sc ts vs with
      | some m => some m
      | none => cGen c f sc tg e)
    | some (some names) => cPar c f sc names ts vs
    | none => none)
  | _, _ => if (notComp e && notTupTup tg e) = true then cGen c f sc tg e else none
/-! ### exceptions -/
def NameV (mg : Str → Option Value) (x : Str) (cv : Value) : Prop := (mg x = some cv ∧ ∃ C, cv = .ref C) ∨ (mg x = none ∧ bootBuiltins x = some cv ∧ x ≠ "__name__" ∧ ∃ T, cv = .type T)
def subF (l : List (Str × Str × Bool)) (n x : Str) : Option Bool := (l.find? fun t => t.1 == n && t.2.1 == x).map (·.2.2)
structure XOk (c : Ctx) (X : Cx) : Prop where
  hs : X.stack = X.env :: X.outer
  hf : X.env.frame = some X.env.locals
  room : Room 0 X.A
  cls : ∀ n fs, c.cls.lookup n = some fs → ClsOk X.K X.mg n fs
  nms : ∀ x ∈ c.nms, ∃ cv, NameV X.mg x cv
  sub : ∀ n x b, subF c.sub n x = some b → ∀ C cv, X.mg n = some (.ref C) → NameV X.mg x cv → ExcC X.K C ∧ PySem.W.kitOne X.K (.ref C) cv = some b ∧ PySem.W.exmOne X.K (.ref C) cv = some b
def cX (c : Ctx) (f : Expr → Option CE) (sc : Scope) (e : Expr) : Option CEX := match e with
  | .Call (.Name x _) args kws _ => if (c.xs.contains x && gl sc x && okName x) = true then
      match c.fns.lookup x with
      | some cal => (match kws with
        | [] => (match args with
          | [] => none
          | e :: r => (cArgs f (e :: r)).bind fun l => some (callX cal l))
        | k :: ks => (match cal.arr.find? (fun a => a.1 == args.length && a.2.1 == (k :: ks).filterMap (·.arg)) with
          | some a => (cArgs f args).bind fun l => (cKws f (k :: ks)).bind fun m => some (kwX cal a.2.2 l m)
          | none => none))
      | none => none
    else none
  | _ => none
def cX2 (c : Ctx) (f : Expr → Option CE) (t : Expr → Option CB) (sc : Scope) (e : Expr) : Option CEX := match e with
  | .IfExp q a b _ => (t q).bind fun k => (cX c f sc a).bind fun m => (cX c f sc b).bind fun n => some (ifX k m n)
  | _ => cX c f sc e
def cRaise (c : Ctx) (f : Expr → Option CE) (sc : Scope) (e : Expr) : Option CS := match e with
  | .Call (.Name n _) [] [] _ => if (gl sc n && okName n) = true then (match c.cls.lookup n with
    | some [] => some (raiseS n [] nilL)
    | _ => none) else none
  | .Call (.Name n _) [a] [] _ => if (gl sc n && okName n) = true then (match c.cls.lookup n with
    | some [fl] => (cArgs f [a]).bind fun l => some (raiseS n [fl] l)
    | _ => none) else none
  | _ => none
/-- an expression of a suite; x: the exception's name, i its slot -/
def cSuE (c : Ctx) (sc : Scope) (x : Str) (i : Nat) : Nat → Expr → Option EM
  | 0, _ => none
  | n + 1, e => match e with
    | .Constant (.int k) _ _ => some fun _ _ => constE (.int k)
    | .Constant (.bool k) _ _ => some fun _ _ => constE (.bool k)
    | .Constant (.str k) _ _ => some fun _ _ => constE (.str k)
    | .Constant .none _ _ => some fun _ _ => constE .none
    | .List [a, b] _ => (cSuE c sc x i n a).bind fun m => (cSuE c sc x i n b).bind fun k => if (notStar a && notStar b) = true then some fun n as => appE lstF (consL (m n as) (consL (k n as) nilL)) else none
    | .Tuple [a, b] _ _ => (cSuE c sc x i n a).bind fun m => (cSuE c sc x i n b).bind fun k => if (notStar a && notStar b) = true then some fun n as => appE tupF (consL (m n as) (consL (k n as) nilL)) else none
    | .BoolOp .And [a, b] _ => (cSuE c sc x i n a).bind fun m => (cSuE c sc x i n b).bind fun k => some fun n as => andE (m n as) (k n as)
    | .Attribute (.Name y _) f _ => if (y == x) = true then some (attrU (fun n => c.cls.lookup n) f) else none
    | .Call (.Name q _) [.Name y _, .Name t _] [] _ => if (q == ("isinstance" : Str) && gl sc "isinstance" && c.blts.contains "isinstance" && y == x && gl sc t && okName t && c.nms.contains t) = true then some (isiU (subF c.sub) t) else none
    | _ => none
def cSuite (c : Ctx) (sc : Scope) (x : Str) (i : Nat) : List Stmt → Option SM
  | [.Assign [.Name y _] e _] => if (lcl sc y && notComp e) = true then (slot c.N y).bind fun j => (cSuE c sc x i 6 e).bind fun m => some (setU j m) else none
  | [.Return (some e) _] => (cSuE c sc x i 6 e).bind fun m => some (retU m)
  | _ => none
def cHds (c : Ctx) (sc : Scope) : List ExceptHandler → Option (List Clz)
  | [.ExceptHandler (some (.Name t _)) (some x) b _] => if (gl sc t && okName t && c.nms.contains t && lcl sc x && okName x) = true then (slot c.N x).bind fun i => (cSuite c sc x i b).bind fun s => some [(t, some i, s)] else none
  | _ => none
section
variable {c : Ctx} {X : Cx} {sc : Scope}
theorem cX_ok (A : Agree c X sc) {f : Expr → Option CE} (hf : ∀ e m, f e = some m → SE X e m) {e : Expr} {m : CEX} (h : cX c f sc e = some m) : SEX X e m ∧ (∀ t l env, swapsWith e t l env = pure false) ∧ isTupE e = false := by
  unfold cX at h
  split at h
  rotate_left
  · cases h
  rename_i x p args kws pos
  refine ⟨?_, fun _ _ _ => rfl, rfl⟩
  split at h
  rotate_left
  · cases h
  rename_i hx
  simp only [Bool.and_eq_true] at hx
  have hg := gl_ok A hx.1.2
  obtain ⟨n1, n2, n3⟩ := okName_ok hx.2
  split at h
  · rename_i cal hc
    have C := A.fns _ _ hc
    split at h
    · split at h
      · cases h
      · rename_i e r
        cases h1 : cArgs f (e :: r) with
        | none => rw [h1] at h; cases h
        | some l =>
          rw [h1, Option.bind_some] at h
          cases h
          obtain ⟨l2, h2⟩ := cArgs_tail h1
          exact sx_call C hg (cArgs_ok hf h1) n1 (star_cons (cArgs_head h1) _ _) (cArgs_star h2 _ _)
    · rename_i k ks
      split at h
      · rename_i a ha
        cases h1 : cArgs f args with
        | none => rw [h1] at h; cases h
        | some l =>
          rw [h1, Option.bind_some] at h
          cases h2 : cKws f (k :: ks) with
          | none => rw [h2] at h; cases h
          | some mk =>
            rw [h2, Option.bind_some] at h
            cases h
            have hin := List.mem_of_find?_eq_some ha
            have hp := List.find?_some ha
            simp only [Bool.and_eq_true, beq_iff_eq] at hp
            obtain ⟨a1, a2, a3⟩ := a
            simp only at hp hin ⊢
            obtain ⟨q1, q2, q3⟩ := kws_all h2 X.env pos
            cases args with
            | nil =>
              cases h1
              refine sx_callK0 (ks := a2) C hg (cKws_ok hf h2) (fun ρ S r z => by rw [cKws_len h2 ρ S r z, ← hp.2]) (by rw [hp.1] at hin; exact hin) q1 (by rw [q2, hp.2]) n1 (by rw [q3]; rfl)
            | cons e r =>
              obtain ⟨l2, h3⟩ := cArgs_tail h1
              refine sx_callK (ks := a2) C hg (cArgs_ok hf h1) (cKws_ok hf h2) (cArgs_len h1) (fun ρ S r z => by rw [cKws_len h2 ρ S r z, ← hp.2]) (by rw [hp.1] at hin; exact hin) q1 (by rw [q2, hp.2]) n1 (star_cons (cArgs_head h1) _ _) (by rw [q3, cArgs_star h1]; rfl)
      · cases h
  · cases h
theorem cX2_ok (A : Agree c X sc) {f : Expr → Option CE} {t : Expr → Option CB} (hf : ∀ e m, f e = some m → SE X e m) (ht : ∀ e m, t e = some m → SB X e m) {e : Expr} {m : CEX} (h : cX2 c f t sc e = some m) : SEX X e m ∧ (∀ t l env, swapsWith e t l env = pure false) ∧ isTupE e = false := by
  unfold cX2 at h
  split at h
  · rename_i q a b p
    cases h1 : t q with
    | none => rw [h1] at h; cases h
    | some k =>
      rw [h1, Option.bind_some] at h
      cases h2 : cX c f sc a with
      | none => rw [h2] at h; cases h
      | some m1 =>
        rw [h2, Option.bind_some] at h
        cases h3 : cX c f sc b with
        | none => rw [h3] at h; cases h
        | some n1 =>
          rw [h3, Option.bind_some] at h
          cases h
          exact ⟨sx_if (ht _ _ h1) (cX_ok A hf h2).1 (cX_ok A hf h3).1, fun _ _ _ => rfl, rfl⟩
  · exact cX_ok A hf h
theorem cRaise_ok (A : Agree c X sc) (O : XOk c X) {f : Expr → Option CE} (hf : ∀ e m, f e = some m → SE X e m) {e : Expr} {m : CS} {pos : Pos} (h : cRaise c f sc e = some m) : SS X (.Raise (some e) none pos) m := by
  unfold cRaise at h
  split at h
  · rename_i n p q
    split at h
    · rename_i hx
      simp only [Bool.and_eq_true] at hx
      split at h
      · rename_i hc
        cases h
        exact ss_raise0 A.calm (O.cls _ _ hc) (gl_ok A hx.1) (okName_ok hx.2).1
      · cases h
    · cases h
  · rename_i n p a q
    split at h
    · rename_i hx
      simp only [Bool.and_eq_true] at hx
      split at h
      · rename_i fl hc
        cases h1 : cArgs f [a] with
        | none => rw [h1] at h; cases h
        | some l =>
          rw [h1, Option.bind_some] at h
          cases h
          exact ss_raise1 A.calm O.room (O.cls _ _ hc) (gl_ok A hx.1) (okName_ok hx.2).1 (cArgs_ok hf h1) (star_cons (cArgs_head h1) _ _) rfl
      · cases h
    · cases h
  · cases h
theorem nameV_one {mg : Str → Option Value} {x : Str} {a b : Value} (h : NameV mg x a) (g : NameV mg x b) : a = b := by
  rcases h with ⟨h1, _⟩ | ⟨h1, h2, _⟩ <;> rcases g with ⟨g1, _⟩ | ⟨g1, g2, _⟩
  · rw [h1] at g1; cases g1; rfl
  · rw [h1] at g1; cases g1
  · rw [h1] at g1; cases g1
  · rw [h2] at g2; cases g2; rfl
theorem nameV_pe {Y : Cx} {x : Str} {cv : Value} {pos : Pos} (h : NameV Y.mg x cv) (hg : Gl Y x) (hd : (x == ("__debug__" : Str)) = false) : ∃ v : V, (∀ u, RelV v u → u = cv) ∧ PE Y (.Name x pos) (tC v) := by
  rcases h with ⟨h1, C, rfl⟩ | ⟨h1, h2, h3, T, rfl⟩
  · exact ⟨.ref C, fun u r => r, pe_glob hg h1 rfl hd⟩
  · exact ⟨.ty T, fun u r => r, pe_bltn hg h1 h2 rfl h3 hd⟩
theorem cSuE_ok (A : Agree c X sc) (O : XOk c X) {x : Str} {i : Nat} (hi : X.N[i]? = some x) (hv : Vis X.env.scope x) (hx : okName x = true) {a : Addr} {oe : Obj} {cls : Value} {d : Option Addr} {pn : List (Addr × Obj)} (hz : Zc cls d oe) (hf : ∃ vs, oe.data = .fields vs) :
    ∀ (n : Nat) {e : Expr} {m : EM}, cSuE c sc x i n e = some m → PE (X.suite a ((a, oe) :: pn)) e (rdUE X (some i) a cls d m)
  | 0, _, _, h => by cases h
  | n + 1, e, m, h => by
    have ih := fun {e : Expr} {m : EM} => cSuE_ok A O hi hv hx (a := a) (pn := pn) hz hf n (e := e) (m := m)
    obtain ⟨n1, n2, n3⟩ := okName_ok hx
    unfold cSuE at h
    split at h
    · cases h; exact ue_plain se_int
    · cases h; exact ue_plain se_bool
    · cases h; exact ue_plain se_str
    · cases h; exact ue_plain se_none
    · rename_i u v p
      cases h1 : cSuE c sc x i n u with
      | none => rw [h1] at h; cases h
      | some mu =>
        rw [h1, Option.bind_some] at h
        cases h2 : cSuE c sc x i n v with
        | none => rw [h2] at h; cases h
        | some mv =>
          rw [h2, Option.bind_some] at h
          split at h
          · rename_i hs
            simp only [Bool.and_eq_true] at hs
            cases h
            exact ue_lst (ul_cons (ih h1) (ul_cons (ih h2) ul_nil (star_cons hs.2 _ _)) (star_cons hs.1 _ _))
          · cases h
    · rename_i u v p q
      cases h1 : cSuE c sc x i n u with
      | none => rw [h1] at h; cases h
      | some mu =>
        rw [h1, Option.bind_some] at h
        cases h2 : cSuE c sc x i n v with
        | none => rw [h2] at h; cases h
        | some mv =>
          rw [h2, Option.bind_some] at h
          split at h
          · rename_i hs
            simp only [Bool.and_eq_true] at hs
            cases h
            exact ue_tup (ul_cons (ih h1) (ul_cons (ih h2) ul_nil (star_cons hs.2 _ _)) (star_cons hs.1 _ _))
          · cases h
    · rename_i u v p
      cases h1 : cSuE c sc x i n u with
      | none => rw [h1] at h; cases h
      | some mu =>
        rw [h1, Option.bind_some] at h
        cases h2 : cSuE c sc x i n v with
        | none => rw [h2] at h; cases h
        | some mv =>
          rw [h2, Option.bind_some] at h
          cases h
          exact ue_and (ih h1) (pe_one (ih h2))
    · rename_i y p f q
      split at h
      · rename_i hy
        have := eq_of_beq hy
        subst this
        cases h
        exact ue_attr O.cls hz hf hi hv n1 n2 fun _ => rfl
      · cases h
    · rename_i q p1 y p2 t p3 p4
      split at h
      · rename_i hc
        simp only [Bool.and_eq_true] at hc
        obtain ⟨⟨⟨⟨⟨⟨c1, c2⟩, c3⟩, c4⟩, c5⟩, c6⟩, c7⟩ := hc
        have e1 := eq_of_beq c1
        have e2 := eq_of_beq c4
        subst e1 e2
        cases h
        obtain ⟨cv, hcv⟩ := O.nms t (mem_of_contains c7)
        obtain ⟨v, rv, pv⟩ := nameV_pe (Y := X.suite a ((a, oe) :: pn)) (pos := p3) hcv (gl_ok A c5) (okName_ok c6).1
        exact ue_isi (fun n b hb C hC => let z := O.sub n t b hb C cv hC hcv; ⟨z.1, z.2.1⟩) hz hf hi hv n1 n2 (gl_ok A c2) (A.blts _ (mem_of_contains c3)) rv pv rfl rfl rfl
      · cases h
    · cases h
theorem cSuite_ok (A : Agree c X sc) (O : XOk c X) (hd : ∀ x, X.fn x = true) {x : Str} {i : Nat} (hi : X.N[i]? = some x) (hv : Vis X.env.scope x) (hx : okName x = true) {a : Addr} {oe : Obj} {cls : Value} {d : Option Addr} {pn : List (Addr × Obj)} (hz : Zc cls d oe) (hf : ∃ vs, oe.data = .fields vs)
    {b : List Stmt} {s : SM} (h : cSuite c sc x i b = some s) : PSs (X.suite a ((a, oe) :: pn)) b (rdU X (some i) a cls d s) := by
  unfold cSuite at h
  split at h
  · rename_i y py e p
    split at h
    · rename_i hc
      simp only [Bool.and_eq_true] at hc
      cases h1 : slot c.N y with
      | none => rw [h1] at h; cases h
      | some j =>
        rw [h1, Option.bind_some] at h
        cases h2 : cSuE c sc x i 6 e with
        | none => rw [h2] at h; cases h
        | some m =>
          rw [h2, Option.bind_some] at h
          cases h
          have hN := A.nd
          have hl : X.env.scope.names.lookup y = some .local := by rw [A.sc]; exact lcl_ok hc.1
          exact su_set (cSuE_ok A O hi hv hx hz hf 6 h2) hN (by rw [A.N]; exact slot_get h1) (.inl hl) (swapsNo hc.2 _ _ _) (.inl (hd _))
    · cases h
  · rename_i e p
    cases h2 : cSuE c sc x i 6 e with
    | none => rw [h2] at h; cases h
    | some m =>
      rw [h2, Option.bind_some] at h
      cases h
      exact su_ret (cSuE_ok A O hi hv hx hz hf 6 h2)
  · cases h
theorem cSuite_ne {x : Str} {i : Nat} {b : List Stmt} {s : SM} (h : cSuite c sc x i b = some s) : ∃ b0 r, b = b0 :: r := by
  unfold cSuite at h
  split at h
  · exact ⟨_, _, rfl⟩
  · exact ⟨_, _, rfl⟩
  · cases h
theorem cTry_ok (A : Agree c X sc) (O : XOk c X) (hd : ∀ x, X.fn x = true) {body : List Stmt} {hds : List ExceptHandler} {m : CS} {pos : Pos} (hb : ∀ (pn : List (Addr × Obj)) (xe : Value → Shared → Prop), PassesOwn (model X.prog X.w) X.A X.env xe → SSs (X.tr pn xe) body m)
    {l : List Clz} (h : cHds c sc hds = some l) : SS X (.Try body hds [] [] pos) (tryS (subF c.sub) m l) := by
  unfold cHds at h
  split at h
  · rename_i t p x b pos
    split at h
    · rename_i hc
      simp only [Bool.and_eq_true] at hc
      obtain ⟨⟨⟨⟨c1, c2⟩, c3⟩, c4⟩, c5⟩ := hc
      cases h1 : slot c.N x with
      | none => rw [h1] at h; cases h
      | some i =>
        rw [h1, Option.bind_some] at h
        cases h2 : cSuite c sc x i b with
        | none => rw [h2] at h; cases h
        | some s =>
          rw [h2, Option.bind_some] at h
          cases h
          obtain ⟨b0, br, rfl⟩ := cSuite_ne h2
          obtain ⟨cv, hcv⟩ := O.nms t (mem_of_contains c3)
          have hl : X.env.scope.names.lookup x = some .local := by rw [A.sc]; exact lcl_ok c4
          have hi : X.N[i]? = some x := by rw [A.N]; exact slot_get h1
          refine ss_try O.hs O.hf A.nd hb (cv := cv) ⟨gl_ok A c1, (okName_ok c2).1, ?_⟩ (fun n b hb C hC => (O.sub n t b hb C cv hC hcv).2.2) hi hl (fun a oe cls d pn hz hf => cSuite_ok A O hd hi (.inl hl) c5 hz hf h2)
          rcases hcv with ⟨q1, _⟩ | ⟨q1, q2, q3, _⟩
          · exact .inl q1
          · exact .inr ⟨q1, q2, q3⟩
    · cases h
  · cases h
end
def cS (c : Ctx) (f : Expr → Option CE) (t : Expr → Option CB) (sc : Scope) : Nat → Stmt → Option CS
  | 0, _ => none
  | n + 1, st => match st with
    | .Return (some e) _ => (match cX c f sc e with
      | some m => some (retX m)
      | none => (f e).bind fun m => some (retS c.keep m))
    | .Return none _ => some retNS
    | .Expr e _ => (match cX c f sc e with
      | some m => some (exprX m)
      | none => if notComp e = true then (f e).bind fun m => some (exprS m) else none)
    | .If q a b _ => (t q).bind fun k => (cBlk (cS c f t sc n) a).bind fun m => (cBlk (cS c f t sc n) b).bind fun m2 => some (ifS k m m2)
    | .For tg iter b [] _ => if notSet iter = true then (cIter c f sc tg iter).bind fun ci => (cTgt c f true sc 4 tg).bind fun (g : CG × List Nat) => (cBlk (cS c f t sc n) b).bind fun m => some (forS ci g.1 m) else none
    | .While q b [] _ => (t q).bind fun k => (cBlk (cS c f t sc n) b).bind fun m => some (whileS k m)
    | .Break _ => some brkS
    | .Continue _ => some cntS
    | .Pass _ => some nilS
    | .Raise (some e) none _ => if c.rz = true then cRaise c f sc e else some stuckS
    | .Raise _ _ _ => some stuckS
    | .Try b hs [] [] _ => (cBlk (cS c f t sc n) b).bind fun m => (cHds c sc hs).bind fun l => some (tryS (subF c.sub) m l)
    | .Assign [tg] e _ => (match cX2 c f t sc e with
      | some m => if (notStar tg && !isLstE tg) = true then (cTgt c f true sc 4 tg).bind fun (g : CG × List Nat) => some (asgX m g.1) else none
      | none => cAsg c f sc tg e)
    | _ => none
theorem cBlk_ok {X : Cx} {g : Stmt → Option CS} (hg : ∀ st m, g st = some m → SS X st m) : ∀ {sts : List Stmt} {m : CS}, cBlk g sts = some m → SSs X sts m
  | [], _, h => by cases h; exact ss_nil
  | st :: r, m, h => by
    unfold cBlk at h
    cases h1 : g st with
    | none => rw [h1] at h; cases h
    | some a =>
      rw [h1, Option.bind_some] at h
      cases h2 : cBlk g r with
      | none => rw [h2] at h; cases h
      | some b =>
        rw [h2, Option.bind_some] at h
        cases h
        exact ss_cons (hg _ _ h1) (cBlk_ok hg h2)
section
variable {c : Ctx} {X : Cx} {sc : Scope} {k : Nat}
theorem cGen_ok (A : Agree c X sc) (hd : ∀ x, X.fn x = true) {f : Expr → Option CE} (hf : ∀ e m, f e = some m → SE X e m) {tg e : Expr} {m : CS} {pos : Pos} (h : cGen c f sc tg e = some m) (h1 : swapsWithSole [tg] e pos.line X.env = pure false) (h2 : swappedStores [tg] e X.env = pure none) :
    SS X (.Assign [tg] e pos) m := by
  unfold cGen at h
  split at h
  · rename_i hs
    cases z1 : f e with
    | none => rw [z1] at h; cases h
    | some me =>
      rw [z1, Option.bind_some] at h
      cases z2 : cTgt c f true sc 4 tg with
      | none => rw [z2] at h; cases h
      | some g =>
        rw [z2, Option.bind_some] at h
        cases h
        exact ss_asg (hf _ _ z1) (cTgt_ok A hf (fun _ => hd) 4 z2) h1 h2 (asg_one hs [] _)
  · cases h
theorem cParC_ok (A : Agree c X sc) (hd : ∀ x, X.fn x = true) {f : Expr → Option CE} (hf : ∀ e m, f e = some m → SE X e m) {ts vs : List Expr} {k1 k2 : Nat} {p1 p2 pos : Pos} {m : CS} (h : cParC c f sc ts vs = some m)
    (h1 : swapsWithSole [.Tuple ts k1 p1] (.Tuple vs k2 p2) pos.line X.env = pure false) (h2 : swappedStores [.Tuple ts k1 p1] (.Tuple vs k2 p2) X.env = pure none) : SS X (.Assign [.Tuple ts k1 p1] (.Tuple vs k2 p2) pos) m := by
  unfold cParC at h
  split at h
  · rename_i x px y py a b
    split at h
    · rename_i hn
      simp only [Bool.and_eq_true, Bool.or_eq_true] at hn
      obtain ⟨⟨_, l1⟩, l2⟩ := hn
      cases z1 : slot c.N x with
      | none => rw [z1] at h; cases h
      | some i =>
        rw [z1, Option.bind_some] at h
        cases z2 : slot c.N y with
        | none => rw [z2] at h; cases h
        | some j =>
          rw [z2, Option.bind_some] at h
          cases z3 : cArgs f [a, b] with
          | none => rw [z3] at h; cases h
          | some l =>
            rw [z3, Option.bind_some] at h
            cases h
            have loc : ∀ z : Str, (lcl sc z = true ∨ cel sc z = true) → Loc X.env.scope z := fun z q => by
              rcases q with q | q
              · have e := lcl_ok q; rw [← A.sc] at e; exact .inl e
              · have e := cel_ok q; rw [← A.sc] at e; exact .inr e
            exact ss_parC A.calm A.nd (by rw [A.N]; exact slot_get z1) (by rw [A.N]; exact slot_get z2) (loc x l1) (.inl (hd x)) (loc y l2) (.inl (hd y)) (cArgs_ok hf z3) h1 h2
    · cases h
  · cases h
theorem cAsg_ok (A : Agree c X sc) (hk : sc.kind = .function) (hd : ∀ x, X.fn x = true) {tg e : Expr} {m : CS} {pos : Pos} (h : cAsg c ((cet c (k + 1)).1 sc) sc tg e = some m) : SS X (.Assign [tg] e pos) m := by
  have hf := (cet_ok c (k + 1)).e X sc A
  unfold cAsg at h
  split at h
  · rename_i y py elt gens scope p
    split at h
    · rename_i hc
      refine cGen_ok A hd hf h ?_ (storesNo rfl _)
      have e := cel_ok hc
      show swapsWith (.ListComp elt gens scope p) (some (.Name y py)) pos.line X.env = pure false
      unfold swapsWith
      have ek : X.env.kindOf y = some .cell := by unfold Env.kindOf; rw [A.sc]; exact e
      have e0 : ((some NameKind.cell : Option NameKind) == some NameKind.local) = false := rfl
      simp only [ek, e0, Bool.and_false, Bool.false_and]
    · split at h
      · rename_i hc
        simp only [Bool.and_eq_true, Bool.not_eq_true'] at hc
        obtain ⟨⟨hl, hline⟩, hany⟩ := hc
        cases z1 : (cet c (k + 1)).1 sc (.ListComp elt gens scope p) with
        | none => rw [z1] at h; cases h
        | some me =>
          rw [z1, Option.bind_some] at h
          cases z2 : slot c.N y with
          | none => rw [z2] at h; cases h
          | some i =>
            rw [z2, Option.bind_some] at h
            cases h
            have z1' : cComp c (cet c k).1 (cet c k).2 sc (c.mu.contains p) elt gens scope = some me := z1
            obtain ⟨tg, iter, ifs, ci, g, tt, me2, rfl, hb, hs, h1, h2, hv, h3, h4, rfl⟩ := cComp_parts z1'
            have G := cet_ok c k
            have P := comp_parts_ok G A h2 h3 h4
            have el := lcl_ok hl
            have el' : X.env.scope.names.lookup y = some .local := by rw [A.sc]; exact el
            exact ss_setLc A.calm A.nd (by rw [A.N]; exact slot_get z2) el' (sw_true (by rw [A.sc]; exact hk) el' hline hany) (cIter_ok A (G.e X sc A) h1) (by rw [A.N, A.sc]; exact blkOk_by hb) (fun s H C cl fp => (P s H C cl fp).1) (fun s H C cl fp => (P s H C cl fp).2.1) (fun s H C cl fp => (P s H C cl fp).2.2) hv (set_fold hs _)
      · cases h
  · rename_i ts k1 p1 vs k2 p2
    split at h
    · rename_i hw
      have h1 : swapsWithSole [.Tuple ts k1 p1] (.Tuple vs k2 p2) pos.line X.env = pure false := show swapsWith (.Tuple vs k2 p2) (some (.Tuple ts k1 p1)) pos.line X.env = pure false from swapsNo rfl _ _ _
      split at h
      · rename_i m2 hm
        cases h
        exact cParC_ok A hd hf hm h1 (swp_ok A.sc hk hw _ _ _ _)
      · exact cGen_ok A hd hf h h1 (swp_ok A.sc hk hw _ _ _ _)
    · rename_i names hw
      have w := fun k k2 p p2 => swp_ok (env := X.env) A.sc hk hw k k2 p p2
      unfold cPar at h
      split at h
      · rename_i x px y py a b
        split at h
        · rename_i hn
          simp only [Bool.and_eq_true, beq_iff_eq] at hn
          obtain ⟨⟨rfl, l1⟩, l2⟩ := hn
          cases z1 : slot c.N x with
          | none => rw [z1] at h; cases h
          | some i =>
            rw [z1, Option.bind_some] at h
            cases z2 : slot c.N y with
            | none => rw [z2] at h; cases h
            | some j =>
              rw [z2, Option.bind_some] at h
              split at h
              · cases h
              · rename_i hij
                cases z3 : cArgs ((cet c (k + 1)).1 sc) [a, b] with
                | none => rw [z3] at h; cases h
                | some l =>
                  rw [z3, Option.bind_some] at h
                  cases h
                  have e1 := lcl_ok l1
                  have e2 := lcl_ok l2
                  rw [← A.sc] at e1 e2
                  exact ss_par A.calm A.nd (by rw [A.N]; exact slot_get z1) (by rw [A.N]; exact slot_get z2) hij e1 e2 (cArgs_ok hf z3) (w _ _ _ _)
        · cases h
      · rename_i x px y py z pz a b d
        split at h
        · rename_i hn
          simp only [Bool.and_eq_true, beq_iff_eq] at hn
          obtain ⟨⟨⟨rfl, l1⟩, l2⟩, l3⟩ := hn
          cases z1 : slot c.N x with
          | none => rw [z1] at h; cases h
          | some i =>
            rw [z1, Option.bind_some] at h
            cases z2 : slot c.N y with
            | none => rw [z2] at h; cases h
            | some j =>
              rw [z2, Option.bind_some] at h
              cases z3 : slot c.N z with
              | none => rw [z3] at h; cases h
              | some q =>
                rw [z3, Option.bind_some] at h
                split at h
                · cases h
                · rename_i hij
                  cases z4 : cArgs ((cet c (k + 1)).1 sc) [a, b, d] with
                  | none => rw [z4] at h; cases h
                  | some l =>
                    rw [z4, Option.bind_some] at h
                    cases h
                    have e1 := lcl_ok l1
                    have e2 := lcl_ok l2
                    have e3 := lcl_ok l3
                    rw [← A.sc] at e1 e2 e3
                    exact ss_par3 A.calm A.nd (by rw [A.N]; exact slot_get z1) (by rw [A.N]; exact slot_get z2) (by rw [A.N]; exact slot_get z3) (fun z => hij (.inl z)) (fun z => hij (.inr (.inl z))) (fun z => hij (.inr (.inr z))) e1 e2 e3 (cArgs_ok hf z4) (w _ _ _ _)
        · cases h
      · cases h
    · cases h
  · split at h
    · rename_i hn
      simp only [Bool.and_eq_true] at hn
      exact cGen_ok A hd hf h (swapsNo hn.1 (some _) pos.line X.env) (storesNo hn.2 _)
    · cases h
theorem Agree.tr (A : Agree c X sc) (pn : List (Addr × Obj)) (xe : Value → Shared → Prop) : Agree c (X.tr pn xe) sc :=
  ⟨A.N, A.nd, A.sc, A.calm, A.guards, A.units, fun x cal h => let q := A.fns x cal h; ⟨q.ex, q.guards⟩, A.cst, A.bfn, A.blts⟩
theorem XOk.tr (O : XOk c X) (pn : List (Addr × Obj)) (xe : Value → Shared → Prop) : XOk c (X.tr pn xe) := ⟨O.hs, O.hf, O.room, O.cls, O.nms, O.sub⟩
theorem cS_ok : ∀ (n : Nat) {X : Cx} (A : Agree c X sc) (O : XOk c X) (hk : sc.kind = .function) (hd : ∀ x, X.fn x = true) (hp : PassesOwn (model X.prog X.w) X.A X.env X.xe) {st : Stmt} {m : CS}, cS c ((cet c (k + 1)).1 sc) ((cet c (k + 1)).2 sc) sc n st = some m → SS X st m
  | 0, X, A, O, hk, hd, hp, _, _, h => by simp [cS] at h
  | n + 1, X, A, O, hk, hd, hp, st, m, h => by
    have hf := (cet_ok c (k + 1)).e X sc A
    have ht := (cet_ok c (k + 1)).t X sc A
    have ih := fun st m => cS_ok n A O hk hd hp (st := st) (m := m)
    have cx := fun e m => cX_ok A hf (e := e) (m := m)
    unfold cS at h
    split at h
    · rename_i e p
      split at h
      · rename_i mx hx
        cases h
        exact ss_retX (cx _ _ hx).1
      · cases h1 : (cet c (k + 1)).1 sc e with
        | none => rw [h1] at h; cases h
        | some me => rw [h1, Option.bind_some] at h; cases h; exact ss_ret (hf _ _ h1)
    · cases h; exact ss_retN
    · rename_i e p
      split at h
      · rename_i mx hx
        cases h
        exact ss_exprX (cx _ _ hx).1 ((cx _ _ hx).2.1 _ _ _)
      · split at h
        · rename_i hn
          cases h1 : (cet c (k + 1)).1 sc e with
          | none => rw [h1] at h; cases h
          | some me => rw [h1, Option.bind_some] at h; cases h; exact ss_expr (hf _ _ h1) (swapsNo hn _ _ _)
        · cases h
    · rename_i q a b p
      cases h1 : (cet c (k + 1)).2 sc q with
      | none => rw [h1] at h; cases h
      | some mq =>
        rw [h1, Option.bind_some] at h
        cases h2 : cBlk (cS c ((cet c (k + 1)).1 sc) ((cet c (k + 1)).2 sc) sc n) a with
        | none => rw [h2] at h; cases h
        | some ma =>
          rw [h2, Option.bind_some] at h
          cases h3 : cBlk (cS c ((cet c (k + 1)).1 sc) ((cet c (k + 1)).2 sc) sc n) b with
          | none => rw [h3] at h; cases h
          | some mb => rw [h3, Option.bind_some] at h; cases h; exact ss_if (ht _ _ h1) (cBlk_ok ih h2) (cBlk_ok ih h3)
    · rename_i tg iter b p
      split at h
      · rename_i hn
        cases h1 : cIter c ((cet c (k + 1)).1 sc) sc tg iter with
        | none => rw [h1] at h; cases h
        | some ci =>
          rw [h1, Option.bind_some] at h
          cases h2 : cTgt c ((cet c (k + 1)).1 sc) true sc 4 tg with
          | none => rw [h2] at h; cases h
          | some g =>
            rw [h2, Option.bind_some] at h
            cases h3 : cBlk (cS c ((cet c (k + 1)).1 sc) ((cet c (k + 1)).2 sc) sc n) b with
            | none => rw [h3] at h; cases h
            | some mb => rw [h3, Option.bind_some] at h; cases h; exact ss_for hp A.calm (cIter_ok A hf h1) (cTgt_ok A hf (fun _ => hd) 4 h2) (cBlk_ok ih h3) (set_fold hn _)
      · cases h
    · rename_i q b p
      cases h1 : (cet c (k + 1)).2 sc q with
      | none => rw [h1] at h; cases h
      | some mq =>
        rw [h1, Option.bind_some] at h
        cases h3 : cBlk (cS c ((cet c (k + 1)).1 sc) ((cet c (k + 1)).2 sc) sc n) b with
        | none => rw [h3] at h; cases h
        | some mb => rw [h3, Option.bind_some] at h; cases h; exact ss_while hp (ht _ _ h1) (cBlk_ok ih h3)
    · cases h; exact ss_break
    · cases h; exact ss_continue
    · cases h; exact ss_pass
    · split at h
      · exact cRaise_ok A O hf h
      · cases h; exact ss_stuck
    · cases h; exact ss_stuck
    · rename_i b hs p
      cases h1 : cBlk (cS c ((cet c (k + 1)).1 sc) ((cet c (k + 1)).2 sc) sc n) b with
      | none => rw [h1] at h; cases h
      | some mb =>
        rw [h1, Option.bind_some] at h
        cases h2 : cHds c sc hs with
        | none => rw [h2] at h; cases h
        | some l =>
          rw [h2, Option.bind_some] at h
          cases h
          exact cTry_ok A O hd (fun pn xe po => cBlk_ok (fun st m => cS_ok n (A.tr pn xe) (O.tr pn xe) hk hd po (st := st) (m := m)) h1) h2
    · rename_i tg e p
      split at h
      · rename_i mx hx
        split at h
        · rename_i hn
          simp only [Bool.and_eq_true, Bool.not_eq_true'] at hn
          cases h2 : cTgt c ((cet c (k + 1)).1 sc) true sc 4 tg with
          | none => rw [h2] at h; cases h
          | some g =>
            rw [h2, Option.bind_some] at h
            cases h
            obtain ⟨q1, q2, q3⟩ := cX2_ok A hf ht hx
            have nt : notTupTup tg e = true := by unfold notTupTup; rw [hn.2, q3]; simp
            exact ss_asgX q1 (cTgt_ok A hf (fun _ => hd) 4 h2) (q2 (some _) p.line X.env) (storesNo nt _) (asg_one hn.1 [] _)
        · cases h
      · exact cAsg_ok A hk hd h
    · cases h
end

/-! ### the table -/
structure Runs where
  ok : Str → List W → Sto → Option (W × Sto)
  ex : Str → List W → Sto → Option (Exn × Sto)
instance : CoeFun Runs (fun _ => Str → List W → Sto → Option (W × Sto)) := ⟨Runs.ok⟩
structure Info where
  /-- the def's names, its parameters first -/
  N : List Str
  ps : List Str
  arr : List (Nat × List Str × List Nat)
  keep : Bool
  mu : List Pos
  /-- callees that may raise here; whether raise is told -/
  xs : List Str
  rz : Bool
  body : Runs → CS
abbrev Tbl := List (Str × Info)
def run (T : Tbl) : Nat → Runs
  | 0 => ⟨fun _ _ _ => none, fun _ _ _ => none⟩
  | k + 1 => ⟨fun x => match T.lookup x with
    | some d => runD d.N.length (d.body (run T k))
    | none => fun _ _ => none, fun x => match T.lookup x with
    | some d => runX d.N.length (d.body (run T k))
    | none => fun _ _ => none⟩
/-- what is the same for all defs: the module's constants, imported built-ins, the built-ins that are not shadowed -/
structure Glb where
  cst : List (Str × PyData)
  bfn : List (Str × String)
  blts : List Str
  cls : List (Str × List Str)
  nms : List Str
  sub : List (Str × Str × Bool)
def ctxOf (g : Glb) (T : Tbl) (r : Runs) (d : Info) : Ctx := ⟨d.N, T.map fun y => (y.1, ⟨y.2.ps, r.ok y.1, r.ex y.1, y.2.arr⟩), g.cst, g.bfn, g.blts, d.keep, d.mu, d.xs, d.rz, g.cls, g.nms, g.sub⟩
def cDef (c : Ctx) (st : Stmt) : Option CS := cBlk (cS c ((cet c 24).1 (defScope st)) ((cet c 24).2 (defScope st)) (defScope st) 12) (defBody st)
theorem lookup_map {α β : Type} (f : Str × α → β) : ∀ (l : List (Str × α)) (x : Str), (l.map fun y => (y.1, f y)).lookup x = (l.find? fun y => x == y.1).map f
  | [], _ => rfl
  | y :: r, x => by
    rw [List.map_cons, List.lookup_cons, List.find?_cons]
    cases h : x == y.1 with
    | true => rfl
    | false => exact lookup_map f r x
theorem find_lookup {α : Type} : ∀ (l : List (Str × α)) (x : Str) (y : Str × α), (l.find? fun y => x == y.1) = some y → l.lookup x = some y.2 ∧ y ∈ l ∧ x = y.1
  | [], _, _, h => by cases h
  | z :: r, x, y, h => by
    rw [List.find?_cons] at h
    rw [List.lookup_cons]
    cases e : x == z.1 with
    | true => rw [e] at h; cases h; exact ⟨rfl, List.mem_cons_self, eq_of_beq e⟩
    | false =>
      rw [e] at h
      obtain ⟨a, b, d⟩ := find_lookup r x y h
      exact ⟨a, List.mem_cons_of_mem _ b, d⟩
/-- the def as the top has left it -/
structure Stands (K : PySem.W.Frag) (mg : Str → Option Value) (g : Glb) (T : Tbl) (x : Str) (d : Info) : Prop where
  ex : ∃ (st : Stmt) (f : Addr) (fd : FuncData), mg x = some (.ref f) ∧ Fun K x x st f fd ∧ FnScope d.N d.ps (defScope st) ∧
    (∀ (s : Shared) (us : List Value), us.length = d.ps.length → BindsTo s fd ⟨us, []⟩ (d.ps.zip us)) ∧
    (∀ a ∈ d.arr, ∀ (s : Shared) (us ws : List Value), us.length = a.1 → ws.length = a.2.1.length → BindsTo s fd ⟨us, a.2.1.zip ws⟩ (d.ps.zip (atU a.2.2 (us ++ ws)))) ∧ (∀ a ∈ d.arr, a.2.2.length = d.ps.length) ∧
    ∀ r : Runs, cDef (ctxOf g T r d) st = some (d.body r)
structure Sound (K : PySem.W.Frag) (mg : Str → Option Value) (g : Glb) (T : Tbl) : Prop where
  defs : ∀ y ∈ T, Stands K mg g T y.1 y.2
  cst : ∀ x d, g.cst.lookup x = some d → ∃ u v, mg x = some u ∧ RelV v u ∧ ∀ H, Rep K H d v
  bfn : ∀ x id, g.bfn.lookup x = some id → mg x = some (.builtin id)
  blts : ∀ x ∈ g.blts, mg x = none
  cls : ∀ n fs, g.cls.lookup n = some fs → ClsOk K mg n fs
  nms : ∀ x ∈ g.nms, ∃ cv, NameV mg x cv
  sub : ∀ n x b, subF g.sub n x = some b → ∀ C cv, mg n = some (.ref C) → NameV mg x cv → ExcC K C ∧ PySem.W.kitOne K (.ref C) cv = some b ∧ PySem.W.exmOne K (.ref C) cv = some b
theorem fn_all {P : Program} {w : World} {K : PySem.W.Frag} {mg : Str → Option Value} {base : Heap} {g : Glb} {T : Tbl} (So : Sound K mg g T) : ∀ (k : Nat) (x : Str) (d : Info), T.lookup x = some d → (x, d) ∈ T →
    ∃ (st : Stmt) (f : Addr) (fd : FuncData), mg x = some (.ref f) ∧ Fun K x x st f fd ∧ (∀ (s : Shared) (us : List Value), us.length = d.ps.length → BindsTo s fd ⟨us, []⟩ (d.ps.zip us)) ∧
      (∀ a ∈ d.arr, ∀ (s : Shared) (us ws : List Value), us.length = a.1 → ws.length = a.2.1.length → BindsTo s fd ⟨us, a.2.1.zip ws⟩ (d.ps.zip (atU a.2.2 (us ++ ws)))) ∧ (∀ a ∈ d.arr, a.2.2.length = d.ps.length) ∧
      FnG P w K mg base k f fd d.ps ((run T k).ok x) ((run T k).ex x)
  | 0, x, d, hx, hm => by
    obtain ⟨st, f, fd, h1, h2, h3, h4, h5, h6, h7⟩ := (So.defs _ hm).ex
    exact ⟨st, f, fd, h1, h2, h4, h5, h6, ⟨(fun A outer s H args us vs E _ _ _ _ _ _ ⟨μ, S, ws, w0, S', _, _, e, _⟩ => by cases e), (fun A outer s H args us vs Q _ _ _ _ _ _ ⟨μ, S, ws, w0, S', _, _, e, _⟩ => by cases e)⟩⟩
  | k + 1, x, d, hx, hm => by
    obtain ⟨st, f, fd, h1, h2, h3, h4, h5, h6, h7⟩ := (So.defs _ hm).ex
    refine ⟨st, f, fd, h1, h2, h4, h5, h6, ?_⟩
    have er : (run T (k + 1)).ok x = runD d.N.length (d.body (run T k)) := by
      rw [show (run T (k + 1)).ok x = (match T.lookup x with
        | some d => runD d.N.length (d.body (run T k))
        | none => fun _ _ => none) from rfl, hx]
    have ex : (run T (k + 1)).ex x = runX d.N.length (d.body (run T k)) := by
      rw [show (run T (k + 1)).ex x = (match T.lookup x with
        | some d => runX d.N.length (d.body (run T k))
        | none => fun _ _ => none) from rfl, hx]
    rw [er, ex]
    have Ag : ∀ (CX : CXT) (cdv : Value) (A : Around) (outer : List Env) (s : Shared) (H : Hp) (E : XK), Room k (A.deeper (envOfC x (defScope st) s.heap.objs.size f cdv)) → A.guards = some [] →
        Agree (ctxOf g T (run T k) d) (cxOf CX P w K mg base d.N x (defScope st) f cdv A outer s H E) (defScope st) := by
      intro CX cdv A outer s H E hr hg
      refine ⟨rfl, h3.nd, rfl, rfl, hg, ?_, fun y cal hy => ?_, So.cst, So.bfn, So.blts⟩
      · have h9 : A.units + 3 + 16 * k + 200 < cLine := hr.un
        show A.units + 3 + 70 < cLine
        omega
      · have hy' : (T.map fun y => (y.1, (⟨y.2.ps, (run T k).ok y.1, (run T k).ex y.1, y.2.arr⟩ : Callee))).lookup y = some cal := hy
        rw [lookup_map (fun y : Str × Info => (⟨y.2.ps, (run T k).ok y.1, (run T k).ex y.1, y.2.arr⟩ : Callee))] at hy'
        cases hf : (T.find? fun z => y == z.1) with
        | none => rw [hf] at hy'; cases hy'
        | some z =>
          rw [hf] at hy'
          cases hy'
          obtain ⟨a, b, e⟩ := find_lookup T y z hf
          subst e
          obtain ⟨st2, f2, fd2, g1, g2, g3, g4, g5, g6⟩ := fn_all (P := P) (w := w) (base := base) So k z.1 z.2 a b
          exact ⟨⟨f2, fd2, k, g1, g2.kp, hr, g6, g3, g4, g5⟩, hg⟩
    have Xo : ∀ (CX : CXT) (cdv : Value) (A : Around) (outer : List Env) (s : Shared) (H : Hp) (E : XK), Room k (A.deeper (envOfC x (defScope st) s.heap.objs.size f cdv)) →
        XOk (ctxOf g T (run T k) d) (cxOf CX P w K mg base d.N x (defScope st) f cdv A outer s H E) := fun CX cdv A outer s H E hr => ⟨rfl, rfl, hr.mono (Nat.zero_le _), So.cls, So.nms, So.sub⟩
    refine fnG_of h2 h3 (fun cdv A outer s H hr hg => ?_) (fun cdv A outer s H E hr hg => ?_)
    · exact cBlk_ok (fun st' m z => cS_ok 12 ((Ag CX0 cdv A outer s H E0 hr hg).tr _ _) ((Xo CX0 cdv A outer s H E0 hr).tr _ _) h3.kind (fun _ => rfl) PassesOwn.never z) (h7 (run T k))
    · exact cBlk_ok (fun st' m z => cS_ok 12 (Ag (L2.CX P w) cdv A outer s H E hr hg) (Xo (L2.CX P w) cdv A outer s H E hr) h3.kind (fun _ => rfl) (passes_of (K := fun e s'' => L2.CX P w outer H s E e s'') rfl) z) (h7 (run T k))
end PD

/-! PD, part 8: the law's end. -/
namespace PD
open PySem PySem.Spec PyProof.Rows L2 RZ RT

theorem kit_true {K : PySem.W.Frag} {t : Value} {C : Addr} (h1 : PySem.W.hasDictIn K C = true) (h2 : PySem.W.typeIn K (.ref C) = some (.type "type")) (h3 : PySem.W.subIn K t (.ref C) = some true) : PySem.W.kitOne K t (.ref C) = some true := by
  unfold PySem.W.kitOne
  split
  · rfl
  · obtain ⟨cd, hc, _⟩ := PySem.W.any_some h1
    show (if ((PySem.W.clsIn K C).isSome && PySem.W.typeIn K (.ref C) == some (.type "type")) = true then PySem.W.subIn K t (.ref C) else none) = _
    rw [if_pos (by rw [hc, h2]; rfl)]
    exact h3
theorem kit_trueT {K : PySem.W.Frag} {t : Value} {T : String} (h1 : PySem.W.kitMeta T = true) (h3 : PySem.W.subIn K t (.type T) = some true) : PySem.W.kitOne K t (.type T) = some true := by
  unfold PySem.W.kitOne
  split
  · rfl
  · show (if PySem.W.kitMeta T = true then PySem.W.subIn K t (.type T) else none) = _
    rw [if_pos h1]
    exact h3
theorem exm_trueT {K : PySem.W.Frag} {t : Value} {T : String} (h1 : PySem.W.kitMeta T = true) (h2 : PySem.W.subIn K (.type T) (.type "BaseException") = some true) (h3 : PySem.W.subIn K t (.type T) = some true) : PySem.W.exmOne K t (.type T) = some true := by
  unfold PySem.W.exmOne
  rw [if_pos (by rw [h2]; rfl)]
  show (if PySem.W.kitMeta T = true then PySem.W.subIn K t (.type T) else none) = _
  rw [if_pos h1]
  exact h3
theorem subF_mem {l : List (Str × Str × Bool)} {n x : Str} {b : Bool} (h : subF l n x = some b) : (n, x, b) ∈ l := by
  unfold subF at h
  cases hf : (l.find? fun t => t.1 == n && t.2.1 == x) with
  | none => rw [hf] at h; cases h
  | some t =>
    rw [hf] at h
    cases h
    have hp := List.find?_some hf
    simp only [Bool.and_eq_true, beq_iff_eq] at hp
    have hm := List.mem_of_find?_eq_some hf
    obtain ⟨t1, t2, t3⟩ := t
    simp only at hp
    rw [← hp.1, ← hp.2]
    exact hm
/-- the script as the law's call finds it -/
def scriptH (K : PySem.W.Frag) (a : Addr) (vs : List Value) (ns : List Int) : Hp := fun b => if b = a ∧ K.lookup a = none then some (.frz { cls := .type "list", data := .seq vs.toArray } (.lst (ns.map V.int))) else none
theorem scriptH_some {K : PySem.W.Frag} {a b : Addr} {vs : List Value} {ns : List Int} {o : HO} (h : scriptH K a vs ns b = some o) : b = a ∧ K.lookup a = none ∧ o = .frz { cls := .type "list", data := .seq vs.toArray } (.lst (ns.map V.int)) := by
  unfold scriptH at h
  split at h
  · rename_i z; cases h; exact ⟨z.1, z.2, rfl⟩
  · cases h
theorem law_runs {P : Program} {w : World} {K : PySem.W.Frag} {mg mb : Str → Option Value} {k : Nat} {fa a : Addr} {fd : FuncData} {x : Str} {s : Shared} {vs : List Value} {ns : List Int} {run : List W → Sto → Option (W × Sto)} {exn : List W → Sto → Option (Exn × Sto)}
    (hK : K.In s.heap) (hmg : s.heap.Ns mainGlobals mg) (hmb : s.heap.Ns builtinsNs mb) (hbb : ∀ x : Str, x ≠ "__name__" → mb x = bootBuiltins x) (hlim : s.heap.NoLimit) (hgen : s.gens = #[])
    (ha : s.heap.get? a = some { cls := .type "list", data := .seq vs.toArray }) (hi : IntsAre vs ns) (hl : ns.length ≤ sizeLine) (hr : Room k callerA)
    (F : ∀ base : Heap, K.In base → base.Ns mainGlobals mg → FnG P w K mg base k fa fd [x] run exn) (hb : ∀ (s : Shared) (u : Value), BindsTo s fd ⟨[u], []⟩ [(x, u)])
    (law : run [.d (.list (ns.map PyData.int))] [] = some (.d (.bool true), [])) :
    codeAny (model P w) callerA (.call (.ref fa) ⟨[.ref a], []⟩) (fun r s' => r = .ok (.ret (.bool true)) ∧ OldK s.heap s'.heap ∧ s'.os = s.os ∧ AllBare s'.gens) s := by
  have rv := vals_ints hi
  have hnl : vs.length = ns.length := hi.length
  have h1 : ∀ {b : Addr} {o : HO}, scriptH K a vs ns b = some o → b = a := fun h => (scriptH_some h).1
  -- what stands in the heap and is no part of the tracked one
  have stay : ∀ {b : Addr} {o : Obj}, s.heap.get? b = some o → (b = a → K.lookup a = none → False) → (hidT s.heap (scriptH K a vs ns)).get? b = some o := fun {b o} e n => hidT_get e (by
    cases q : scriptH K a vs ns b with
    | none => rfl
    | some u => exact (n (scriptH_some q).1 (scriptH_some q).2.1).elim)
  have stayNs : ∀ {b : Addr} {m : Str → Option Value}, s.heap.Ns b m → (hidT s.heap (scriptH K a vs ns)).Ns b m := fun {b m} ⟨o, es, ep, e, d, r⟩ =>
    ⟨o, es, ep, stay e (fun z _ => by subst z; rw [ha] at e; cases e; cases d), d, r⟩
  have stayK : K.In (hidT s.heap (scriptH K a vs ns)) := fun b o e => stay (hK b o e) fun z z2 => by subst z; rw [z2] at e; cases e
  have hok : HOk P w (scriptH K a vs ns) s.heap := fun b u q => by
    obtain ⟨rfl, _, rfl⟩ := scriptH_some q
    exact ⟨ha, by rw [List.length_map]; exact hl, vs, _, rv, ha⟩
  have md : Mod K mg (hidT s.heap (scriptH K a vs ns)) := ⟨stayK, stayNs hmg, ⟨mb, stayNs hmb, hbb⟩, let ⟨mc, q1, q2⟩ := hlim; ⟨mc, stayNs q1, q2⟩⟩
  have e0 : Env0 P w K mg (hidT s.heap (scriptH K a vs ns)) callerA [] s (scriptH K a vs ns) := by
    refine ⟨rfl, md, fun b o e => of_hidT e, ?_, trivial, fun b hb => ?_, hok, .of_eq hgen⟩
    · rw [hidT_size]; exact Nat.le_refl _
    · exact absurd (show b ∈ ([] : List Addr) from hb) (by simp)
  have rep : Rep K (scriptH K a vs ns) (.list (ns.map PyData.int)) (.ref a) := by
    refine .lst (vs := ns.map V.int) ?_ (RepL.ints ns)
    cases q : K.lookup a with
    | none => exact .inl ⟨_, if_pos ⟨rfl, q⟩⟩
    | some o =>
      have e := hK a o q
      rw [ha] at e
      cases e
      exact .inr ⟨_, vs.toArray, _, q, rfl, rfl, rfl, by rw [List.size_toArray, hnl]; exact hl, by simpa using rv⟩
  have want : FN K run [.ref a] (scriptH K a vs ns) (fun v _ => v = .bl true) := by
    refine ⟨[], [], [.d (.list (ns.map PyData.int))], .d (.bool true), [], ⟨rfl, List.nodup_nil, fun _ m => (nomatch m), fun n xs e => by simp at e⟩, .cons (.d rep) .nil, law, fun v H' μ' _ r => ?_⟩
    cases r with | d r => cases r; rfl
  refine codeAny_mono ((F _ stayK (stayNs hmg)).run callerA [] s _ ⟨[.ref a], []⟩ [.ref a] [.ref a] _ hr rfl e0 (hb s (.ref a)) (.cons rfl .nil) rfl want) fun r s' h => ?_
  cases r with
  | error e => exact h.elim
  | ok fl =>
    cases fl with
    | next => exact False.elim h
    | brk => exact False.elim h
    | cont => exact False.elim h
    | ret u =>
      obtain ⟨v, H', os, bare, un, hok', rr, q⟩ := h
      subst q
      cases rr
      refine ⟨rfl, OldK.of_keep fun b o e => ?_, os, bare⟩
      cases q : scriptH K a vs ns b with
      | none => exact un.keep b o e q (fun z => absurd (show b ∈ ([] : List Addr) from z) (by simp)) (by simp)
      | some u =>
        obtain ⟨rfl, _, rfl⟩ := scriptH_some q
        obtain ⟨e2, _⟩ := hok' b _ (un.frzs b _ _ q)
        rw [ha] at e; cases e
        exact e2
/-- the walk that k_head leaves, from the law's function -/
theorem walkG {l : PySem.W.OpenLaw} {n k : Nat} {q : Program} {loose : List Str} {XP : (Str → Option Value) → Heap → Prop} {YP : World → Heap → Prop} {d : DefRec} {K : Params → PySem.W.Frag} {g : Glb} {T : Tbl} {i : Info} {x : Str}
    (hn : l.most = some n) (hn2 : n ≤ sizeLine) (hdf : d.params.defaults = []) (hr : Room k callerA) (hT : T.lookup d.name = some i) (hM : (d.name, i) ∈ T) (hp : i.ps = [x])
    (hY : ∀ (w : World) (h : Heap), YP w h → (K w.params).In h)
    (F : ∀ (w : World) (mg : Str → Option Value) (h : Heap), (K w.params).In h → h.Ns mainGlobals mg → Sound (K w.params) mg g T)
    (law : ∀ ns : List Int, ns.length ≤ n → (∀ z ∈ ns, Builtin.Int.intBits z ≤ 1048576) → run T k d.name [.d (.list (ns.map PyData.int))] [] = some (.d (.bool true), [])) :
    PySem.W.WalkO q loose XP YP l.row.toRowW d [] (fun f vs => PySem.call f vs) := by
  refine Att.attach_callB hn hdf fun w s0 s1 mg mb fa o pm cd doc a vs ns G Y ho hd hcd hmg hobj hints hlen hbits hg => ?_
  have KX := hY w _ Y
  have So := F w mg _ KX G.T.g
  obtain ⟨st, f, fd, h1, h2, h3, h4, h5, _⟩ := fn_all (P := l.prog) (w := w) (base := s1.heap) So k d.name i hT hM
  have ef : f = fa := by
    have := h1.symm.trans hmg
    injection this with this
    injection this
  subst ef
  refine law_runs (x := x) (fd := fd) (exn := (run T k).ex d.name) KX G.T.g G.T.b G.T.builtins G.T.nolimit hg hobj hints (Nat.le_trans hlen hn2) hr (fun base kb nb => ?_) (fun s u => ?_) (law ns hlen hbits)
  · obtain ⟨st', f', fd', q1, q2, q3, q4, q5, q6⟩ := fn_all (P := l.prog) (w := w) (base := base) So k d.name i hT hM
    have ef : f' = f := by
      have := q1.symm.trans h1
      injection this with this
      injection this
    subst ef
    have efd : fd' = fd := by
      obtain ⟨_, _, _, _, _, _, _, _, _, _, lk, _⟩ := q2.ex
      obtain ⟨_, _, _, _, _, _, _, _, _, _, lk', _⟩ := h2.ex
      rw [lk] at lk'
      injection lk' with e1
      injection e1 with _ _ e2 _
      injection e2
    subst efd
    rw [hp] at q6
    exact q6
  · have := h3 s [u] (by rw [hp]; rfl)
    rw [hp] at this
    exact this
end PD

/-! PD, part 9: how the functions are reckoned (for simp), sizes of numbers, fractions. -/
namespace PD
open PySem PySem.Spec PyProof.Rows L2

/-- a range from nought, of a number that is not too great -/
def rangeU (j : Int) (S : Sto) : Option (List PyData × Sto) := if okR j = true then some (rangeD 0 j.toNat, S) else none
def rangeUL (i j : Int) (S : Sto) : Option (W × Sto) := if (okR i && okR j && decide ((j - i).toNat ≤ lim)) = true then some (.d (.list (rangeD i (j - i).toNat)), S) else none
theorem okR_int {i : Int} (h : i.natAbs < 1000000) : okR i = true := by
  unfold okR
  refine decide_eq_true ?_
  by_cases h0 : i.natAbs = 0
  · rw [h0]; decide
  · exact (Nat.log2_lt h0).mpr (by omega)
theorem rangeUL_ok {i j : Int} (S : Sto) (h1 : i.natAbs < 1000000) (h2 : j.natAbs < 1000000) (h3 : (j - i).toNat ≤ 100000) : rangeUL i j S = some (.d (.list (rangeD i (j - i).toNat)), S) := by
  unfold rangeUL
  rw [if_pos (by rw [okR_int h1, okR_int h2]; simpa using h3)]
theorem rangeU_nat (n : Nat) (S : Sto) (h : n < 1000000) : rangeU n S = some (rangeD 0 n, S) := by
  unfold rangeU
  rw [if_pos (okR_nat h), Int.toNat_natCast]
section
variable {ρ : Rho} {S : Sto} {a b c : CE} {l : CL} {t u : CB} {s s' : CS}
@[simp] theorem x_const (x : PyData) : constE x ρ S = some (.d x, S) := rfl
@[simp] theorem x_var (i : Nat) : varE i ρ S = match ρ[i]? with
  | some (some w) => some (w, S)
  | _ => none := rfl
@[simp] theorem x_bin (f : W → W → Sto → Option (W × Sto)) : binE f a b ρ S = (a ρ S).bind fun p => (b ρ p.2).bind fun q => f p.1 q.1 q.2 := rfl
@[simp] theorem x_un (f : W → Sto → Option (W × Sto)) : unE f a ρ S = (a ρ S).bind fun p => f p.1 p.2 := rfl
@[simp] theorem x_if : ifE t a b ρ S = (t ρ S).bind fun p => if p.1 = true then a ρ p.2 else b ρ p.2 := rfl
@[simp] theorem x_nil : nilL ρ S = some ([], S) := rfl
@[simp] theorem x_cons : consL a l ρ S = (a ρ S).bind fun p => (l ρ p.2).bind fun q => some (p.1 :: q.1, q.2) := rfl
@[simp] theorem x_app (f : List W → Sto → Option (W × Sto)) : appE f l ρ S = (l ρ S).bind fun p => f p.1 p.2 := rfl
@[simp] theorem x_andB : andB t u ρ S = (t ρ S).bind fun p => if p.1 = true then u ρ p.2 else some (false, p.2) := rfl
@[simp] theorem x_orB : orB t u ρ S = (t ρ S).bind fun p => if p.1 = true then some (true, p.2) else u ρ p.2 := rfl
@[simp] theorem x_notB : notB t ρ S = (t ρ S).bind fun p => some (!p.1, p.2) := rfl
@[simp] theorem x_valB : valB a ρ S = (a ρ S).bind fun p => (asBool p.1).bind fun b => some (b, p.2) := rfl
@[simp] theorem x_andE : andE a b ρ S = (a ρ S).bind fun p => (asBool p.1).bind fun k => if k = true then b ρ p.2 else some (.d (.bool false), p.2) := rfl
@[simp] theorem x_orE : orE a b ρ S = (a ρ S).bind fun p => (asBool p.1).bind fun k => if k = true then some (.d (.bool true), p.2) else b ρ p.2 := rfl
@[simp] theorem x_notE : notE a ρ S = (a ρ S).bind fun p => (asBool p.1).bind fun k => some (.d (.bool (!k)), p.2) := rfl
@[simp] theorem x_ch (f g : W → W → Sto → Option (W × Sto)) : chE f g a b c ρ S = (a ρ S).bind fun p => (b ρ p.2).bind fun q => (f p.1 q.1 q.2).bind fun z => (asBool z.1).bind fun k => if k = true then (c ρ z.2).bind fun r => g q.1 r.1 r.2 else some (.d (.bool false), z.2) := rfl
@[simp] theorem x_asBool (b : Bool) : asBool (.d (.bool b)) = some b := rfl
@[simp] theorem x_asInt (i : Int) : asInt (.d (.int i)) = some i := rfl
@[simp] theorem x_rdd (x : PyData) : rd S (.d x) = some x := rfl
@[simp] theorem x_rdm (n : Nat) : rd S (.m n) = match S[n]? with
  | some (some xs) => some (.list xs)
  | _ => none := rfl
@[simp] theorem x_pf1 (g : PyData → Option PyData) (x : W) : pf1 g x S = (rd S x).bind fun a => (g a).bind fun c => some (.d c, S) := rfl
@[simp] theorem x_pf2 (g : PyData → PyData → Option PyData) (x y : W) : pf2 g x y S = (rd S x).bind fun a => (rd S y).bind fun b => (g a b).bind fun c => some (.d c, S) := rfl
theorem x_pfN (g : List PyData → Option PyData) (ws : List W) : pfN g ws S = (ws.mapM (rd S)).bind fun xs => (g xs).bind fun c => some (.d c, S) := rfl
@[simp] theorem x_pfN1 (g : List PyData → Option PyData) (x : W) : pfN g [x] S = (rd S x).bind fun a => (g [a]).bind fun c => some (.d c, S) := by
  unfold pfN
  rw [List.mapM_cons, List.mapM_nil]
  cases rd S x <;> rfl
@[simp] theorem x_pfN2 (g : List PyData → Option PyData) (x y : W) : pfN g [x, y] S = (rd S x).bind fun a => (rd S y).bind fun b => (g [a, b]).bind fun c => some (.d c, S) := by
  unfold pfN
  rw [List.mapM_cons, List.mapM_cons, List.mapM_nil]
  cases rd S x <;> cases rd S y <;> rfl
@[simp] theorem x_add (i j : Int) : addP (.int i) (.int j) = some (.int (i + j)) := rfl
@[simp] theorem x_addL (xs ys : List PyData) : addP (.list xs) (.list ys) = if xs.length + ys.length ≤ lim then some (.list (xs ++ ys)) else none := rfl
@[simp] theorem x_addT (xs ys : List PyData) : addP (.tuple xs) (.tuple ys) = if xs.length + ys.length ≤ lim then some (.tuple (xs ++ ys)) else none := rfl
@[simp] theorem x_sub (i j : Int) : subP (.int i) (.int j) = some (.int (i - j)) := rfl
@[simp] theorem x_mul (i j : Int) : mulP (.int i) (.int j) = if mulOk i j = true then some (.int (i * j)) else none := rfl
@[simp] theorem x_div (i j : Int) : divP (.int i) (.int j) = if divOk j = true then some (.int (i.fdiv j)) else none := rfl
@[simp] theorem x_mod (i j : Int) : modP (.int i) (.int j) = if j ≠ 0 then some (.int (i.fmod j)) else none := rfl
@[simp] theorem x_neg (i : Int) : negP (.int i) = some (.int (-i)) := rfl
@[simp] theorem x_lt (i j : Int) : ltP (.int i) (.int j) = some (.bool (decide (i < j))) := rfl
@[simp] theorem x_le (i j : Int) : leP (.int i) (.int j) = some (.bool (decide (i ≤ j))) := rfl
@[simp] theorem x_gt (i j : Int) : gtP (.int i) (.int j) = some (.bool (decide (j < i))) := rfl
@[simp] theorem x_ge (i j : Int) : geP (.int i) (.int j) = some (.bool (decide (j ≤ i))) := rfl
@[simp] theorem x_eqI (i j : Int) : eqP (.int i) (.int j) = some (.bool (i == j)) := by
  unfold eqP eqOk
  rw [if_pos (by simp [PyData.canLay0, PyData.depth])]
  rfl
@[simp] theorem x_neI (i j : Int) : neP (.int i) (.int j) = some (.bool (!(i == j))) := by
  unfold neP eqOk
  rw [if_pos (by simp [PyData.canLay0, PyData.depth])]
  rfl
@[simp] theorem x_isN (w : W) : isF w (.d .none) S = some (.d (.bool (isNone w)), S) := rfl
@[simp] theorem x_isntN (w : W) : isntF w (.d .none) S = some (.d (.bool (!isNone w)), S) := rfl
@[simp] theorem x_ixL (xs : List PyData) (i : Int) : ixP (.list xs) (.int i) = atI xs i := rfl
@[simp] theorem x_ixT (xs : List PyData) (i : Int) : ixP (.tuple xs) (.int i) = atI xs i := rfl
@[simp] theorem x_lenL (xs : List PyData) : lenP [.list xs] = some (.int xs.length) := rfl
@[simp] theorem x_lenT (xs : List PyData) : lenP [.tuple xs] = some (.int xs.length) := rfl
@[simp] theorem x_abs (i : Int) : absP [.int i] = some (.int (if i < 0 then -i else i)) := rfl
@[simp] theorem x_int (i : Int) : intP [.int i] = some (.int i) := rfl
@[simp] theorem x_max (i j : Int) : maxP [.int i, .int j] = some (.int (if j > i then j else i)) := rfl
@[simp] theorem x_min (i j : Int) : minP [.int i, .int j] = some (.int (if j < i then j else i)) := rfl
@[simp] theorem x_tupL (xs : List PyData) : tupleP [.list xs] = some (.tuple xs) := rfl
@[simp] theorem x_tupT (xs : List PyData) : tupleP [.tuple xs] = some (.tuple xs) := rfl
@[simp] theorem x_gcd (i j : Int) : gcdP [.int i, .int j] = some (.int ((Nat.gcd i.natAbs j.natAbs : Nat) : Int)) := rfl
@[simp] theorem x_call (c : PD.Callee) (ws : List W) : callF c ws S = if ws.length = c.ps.length then c.run ws S else none := rfl
@[simp] theorem x_kw (c : PD.Callee) (perm : List Nat) (l k : CL) : kwE c perm l k ρ S = (l ρ S).bind fun p => (k ρ p.2).bind fun q => c.run (atW perm (p.1 ++ q.1)) q.2 := rfl
@[simp] theorem x_tup (ws : List W) : tupF ws S = (allD ws).bind fun xs => if xs.length ≤ lim then some (.d (.tuple xs), S) else none := rfl
@[simp] theorem x_lst (ws : List W) : lstF ws S = (allD ws).bind fun xs => if xs.length ≤ lim then some (.d (.list xs), S) else none := rfl
@[simp] theorem x_lstM (ws : List W) : lstM ws S = (allD ws).bind fun xs => if xs.length ≤ lim then some (.m S.length, S ++ [some xs]) else none := rfl
@[simp] theorem x_allD0 : allD [] = some [] := rfl
@[simp] theorem x_allD (x : PyData) (r : List W) : allD (.d x :: r) = (allD r).bind fun xs => some (x :: xs) := rfl
@[simp] theorem x_nilS : nilS ρ S = some (.nx, ρ, S) := rfl
@[simp] theorem x_seq (s s' : CS) : seqS s s' ρ S = (s ρ S).bind fun p => match p.1 with
  | .nx => s' p.2.1 p.2.2
  | f => some (f, p.2.1, p.2.2) := rfl
@[simp] theorem x_ifS (t : CB) (s s' : CS) : ifS t s s' ρ S = (t ρ S).bind fun p => if p.1 = true then s ρ p.2 else s' ρ p.2 := rfl
@[simp] theorem x_asg (a : CE) (g : CG) : asgS a g ρ S = (a ρ S).bind fun p => (g p.1 ρ p.2).bind fun q => some (.nx, q.1, q.2) := rfl
@[simp] theorem x_expr (a : CE) : exprS a ρ S = (a ρ S).bind fun p => some (.nx, ρ, p.2) := rfl
@[simp] theorem x_ret (k : Bool) (a : CE) : retS k a ρ S = (a ρ S).bind fun p => (thaw k p.1 p.2).bind fun q => some (.rt q.1, ρ, q.2) := rfl
@[simp] theorem x_frz (a : CE) : frzE a ρ S = (a ρ S).bind fun p => thaw false p.1 p.2 := rfl
@[simp] theorem x_thawD (k : Bool) (x : PyData) : thaw k (.d x) S = some (.d x, S) := rfl
@[simp] theorem x_thawK (n : Nat) : thaw true (.m n) S = some (.m n, S) := rfl
@[simp] theorem x_thawF (n : Nat) : thaw false (.m n) S = match S[n]? with
  | some (some xs) => some (.d (.list xs), S.set n none)
  | _ => none := rfl
@[simp] theorem x_nameG (i : Nat) (w : W) : nameG i w ρ S = some (ρ.set i (some w), S) := rfl
@[simp] theorem x_tupG (n : Nat) (g : CGs) (xs : List PyData) : tupG n g (.d (.tuple xs)) ρ S = if xs.length = n then g xs ρ S else none := rfl
@[simp] theorem x_nilG : nilG [] ρ S = some (ρ, S) := rfl
@[simp] theorem x_consG (g : CG) (r : CGs) (x : PyData) (xs : List PyData) : consG g r (x :: xs) ρ S = (g (.d x) ρ S).bind fun p => r xs p.1 p.2 := rfl
@[simp] theorem x_par (i j : Nat) (l : CL) : parS i j l ρ S = (l ρ S).bind fun p => match p.1 with
  | [v, w] => some (.nx, (ρ.set i (some v)).set j (some w), p.2)
  | _ => none := rfl
@[simp] theorem x_par3 (i j k : Nat) (l : CL) : par3S i j k l ρ S = (l ρ S).bind fun p => match p.1 with
  | [u, v, w] => some (.nx, ((ρ.set i (some u)).set j (some v)).set k (some w), p.2)
  | _ => none := rfl
@[simp] theorem x_forS (it : CI) (g : CG) (s : CS) : forS it g s ρ S = (it ρ S).bind fun p => forN g s p.1 ρ p.2 := rfl
@[simp] theorem x_forN0 (g : CG) (s : CS) : forN g s [] ρ S = some (.nx, ρ, S) := rfl
theorem x_forN (g : CG) (s : CS) (x : PyData) (xs : List PyData) : forN g s (x :: xs) ρ S = (g (.d x) ρ S).bind fun p => (s p.1 p.2).bind fun q => match q.1 with
    | .nx => forN g s xs q.2.1 q.2.2
    | .ct => forN g s xs q.2.1 q.2.2
    | .bk => some (.nx, q.2.1, q.2.2)
    | .rt w => some (.rt w, q.2.1, q.2.2)
    | .ex n as => some (.ex n as, q.2.1, q.2.2) := rfl
@[simp] theorem x_seqI (a : CE) : seqI a ρ S = (a ρ S).bind fun p => match p.1 with
  | .d (.list xs) => some (xs, p.2)
  | .d (.tuple xs) => some (xs, p.2)
  | _ => none := rfl
@[simp] theorem x_range1 (a : CE) : range1I a ρ S = (a ρ S).bind fun p => (asInt p.1).bind fun j => rangeU j p.2 := rfl
@[simp] theorem x_zipI (a b : CE) : zipI a b ρ S = (a ρ S).bind fun p => (b ρ p.2).bind fun z => match p.1, z.1 with
  | .d (.list xs), .d (.list ys) => some (zipD xs ys, z.2)
  | .d (.tuple xs), .d (.tuple ys) => some (zipD xs ys, z.2)
  | _, _ => none := rfl
@[simp] theorem x_slice (a : CE) (lo hi : CO) : sliceE a lo hi ρ S = (a ρ S).bind fun p => (lo ρ p.2).bind fun l => (hi ρ l.2).bind fun u => (rd u.2 p.1).bind fun x => (sliceP l.1 u.1 x).bind fun y => some (.d y, u.2) := rfl
@[simp] theorem x_rev (a : CE) : revE a ρ S = (a ρ S).bind fun p => (rd p.2 p.1).bind fun x => (revP x).bind fun y => some (.d y, p.2) := rfl
@[simp] theorem x_revL (xs : List PyData) : revP (.list xs) = some (.list xs.reverse) := rfl
@[simp] theorem x_revT (xs : List PyData) : revP (.tuple xs) = some (.tuple xs.reverse) := rfl
@[simp] theorem x_noO : noO ρ S = some (none, S) := rfl
@[simp] theorem x_someO (a : CE) : someO a ρ S = (a ρ S).bind fun p => (asInt p.1).bind fun i => some (some i, p.2) := rfl
@[simp] theorem x_sliceL (lo hi : Option Int) (xs : List PyData) : sliceP lo hi (.list xs) = some (.list (cutP xs lo hi)) := rfl
@[simp] theorem x_sliceT (lo hi : Option Int) (xs : List PyData) : sliceP lo hi (.tuple xs) = some (.tuple (cutP xs lo hi)) := rfl
@[simp] theorem x_yes : yesB ρ S = some (true, S) := rfl
theorem x_lc (own : List Nat) (mu : Bool) (ci : CI) (g : CG) (t : CB) (elt : CE) : lcE own mu ci g t elt ρ S = (ci ρ S).bind fun p => if p.1.length ≤ lim then (lcN g t elt (wipeR ρ own) p.1 p.2).bind fun q =>
  if mu = true then some (.m q.2.length, q.2 ++ [some q.1]) else some (.d (.list q.1), q.2) else none := rfl
@[simp] theorem x_lcN0 (g : CG) (t : CB) (elt : CE) : lcN g t elt ρ [] S = some ([], S) := rfl
theorem x_lcN (g : CG) (t : CB) (elt : CE) (x : PyData) (xs : List PyData) : lcN g t elt ρ (x :: xs) S = (g (.d x) ρ S).bind fun p => (t p.1 p.2).bind fun b => if b.1 = true then (elt p.1 b.2).bind fun y => match y.1 with
      | .d d => (lcN g t elt ρ xs y.2).bind fun r => some (d :: r.1, r.2)
      | .m _ => none
    else lcN g t elt ρ xs b.2 := rfl
theorem x_run (n : Nat) (m : CS) (ws : List W) : runD n m ws S = (m (startR n ws) S).bind fun p => match p.1 with
  | .rt w => leave S.length w p.2.2
  | .nx => leave S.length (.d .none) p.2.2
  | _ => none := rfl
@[simp] theorem x_leaveD (x : PyData) : leave S.length (.d x) S = some (.d x, S) := by
  show some (W.d x, S.take S.length) = _
  rw [List.take_length]
@[simp] theorem x_leaveD' (L : Nat) (x : PyData) (S' : Sto) : leave L (.d x) S' = some (.d x, S'.take L) := rfl
theorem x_sub1 (a i : CE) (w : W) : subG a i w ρ S = (a ρ S).bind fun p => (i ρ p.2).bind fun q => match w, p.1, asInt q.1 with
  | .d x, .m n, some k => (match q.2[n]? with
    | some (some xs) => (ixN xs.length k).bind fun j => some (ρ, q.2.set n (some (xs.set j x)))
    | _ => none)
  | _, _, _ => none := rfl
@[simp] theorem x_rangeL (a b : CE) : rangeLE a b ρ S = (a ρ S).bind fun p => (b ρ p.2).bind fun z => (asInt p.1).bind fun i => (asInt z.1).bind fun j => rangeUL i j z.2 := rfl
@[simp] theorem x_exprX (m : CEX) : exprX m ρ S = (m ρ S).bind fun p => match p.1 with
  | .inl _ => some (.nx, ρ, p.2)
  | .inr e => some (.ex e.1 e.2, ρ, p.2) := rfl
@[simp] theorem x_asgX (m : CEX) (g : CG) : asgX m g ρ S = (m ρ S).bind fun p => match p.1 with
  | .inl w => (g w ρ p.2).bind fun q => some (.nx, q.1, q.2)
  | .inr e => some (.ex e.1 e.2, ρ, p.2) := rfl
@[simp] theorem x_retX (m : CEX) : retX m ρ S = (m ρ S).bind fun p => match p.1 with
  | .inl (.d x) => some (.rt (.d x), ρ, p.2)
  | .inl (.m _) => none
  | .inr e => some (.ex e.1 e.2, ρ, p.2) := rfl
@[simp] theorem x_callX (c : Callee) (l : CL) : callX c l ρ S = (l ρ S).bind fun p => if p.1.length = c.ps.length then resX c p.1 p.2 else none := rfl
@[simp] theorem x_kwX (c : Callee) (perm : List Nat) (l k : CL) : kwX c perm l k ρ S = (l ρ S).bind fun p => (k ρ p.2).bind fun q => resX c (atW perm (p.1 ++ q.1)) q.2 := rfl
theorem resX_ok {c : Callee} {ws : List W} {w : W} {S' : Sto} (h : c.run ws S = some (w, S')) : resX c ws S = some (.inl w, S') := by unfold resX; rw [h]
theorem resX_ex {c : Callee} {ws : List W} {e : Exn} {S' : Sto} (h : c.run ws S = none) (g : c.exn ws S = some (e, S')) : resX c ws S = some (.inr e, S') := by unfold resX; rw [h, g]; rfl
@[simp] theorem x_raise (n : Str) (fs : List Str) (l : CL) : raiseS n fs l ρ S = (l ρ S).bind fun p => (allD p.1).bind fun xs => if xs.length = fs.length then some (.ex n (fs.zip xs), ρ, p.2) else none := rfl
@[simp] theorem x_try (sub : Str → Str → Option Bool) (b : CS) (hs : List Clz) : tryS sub b hs ρ S = (b ρ S).bind fun p => match p.1 with
  | .ex n as => handle sub n as hs p.2.1 p.2.2
  | f => some (f, p.2.1, p.2.2) := rfl
theorem x_runX (n : Nat) (m : CS) (ws : List W) : runX n m ws S = (m (startR n ws) S).bind fun p => match p.1 with
  | .ex x as => some ((x, as), p.2.2.take S.length)
  | _ => none := rfl
end
/-- a def at an end that hands back plain data and leaves the store -/
theorem run_ret {n : Nat} {m : CS} {ws : List W} {S : Sto} {x : PyData} {ρ : Rho} (h : m (startR n ws) S = some (.rt (.d x), ρ, S)) : runD n m ws S = some (.d x, S) := by
  rw [x_run, h]
  show leave S.length (.d x) S = _
  simp
theorem run_nx {n : Nat} {m : CS} {ws : List W} {S : Sto} {ρ : Rho} (h : m (startR n ws) S = some (.nx, ρ, S)) : runD n m ws S = some (.d .none, S) := by
  rw [x_run, h]
  show leave S.length (.d .none) S = _
  simp
@[simp] theorem start1 (n : Nat) (a : W) : startR (n + 1) [a] = some a :: List.replicate n none := by simp [startR]
@[simp] theorem start2 (n : Nat) (a b : W) : startR (n + 2) [a, b] = some a :: some b :: List.replicate n none := by simp [startR]
@[simp] theorem start3 (n : Nat) (a b c : W) : startR (n + 3) [a, b, c] = some a :: some b :: some c :: List.replicate n none := by simp [startR]
@[simp] theorem at0 {α : Type} (x : α) (r : List α) : atI (x :: r) 0 = some x := atI_nat (j := 0) rfl
@[simp] theorem at1 {α : Type} (x y : α) (r : List α) : atI (x :: y :: r) 1 = some y := atI_nat (j := 1) rfl
@[simp] theorem at2 {α : Type} (x y z : α) (r : List α) : atI (x :: y :: z :: r) 2 = some z := atI_nat (j := 2) rfl

@[simp] theorem lim_eq : lim = 100000 := rfl
/-! ### sizes -/
def Lt2 (n : Nat) (i : Int) : Prop := i.natAbs < 2 ^ n
theorem Lt2.mono {n m : Nat} {i : Int} (h : Lt2 n i) (l : n ≤ m) : Lt2 m i := Nat.lt_of_lt_of_le h (Nat.pow_le_pow_right (by decide) l)
theorem Lt2.mul {n m : Nat} {i j : Int} (h : Lt2 n i) (g : Lt2 m j) : Lt2 (n + m) (i * j) := wide_lt h g
theorem Lt2.add {n m : Nat} {i j : Int} (h : Lt2 n i) (g : Lt2 m j) : Lt2 (max n m + 1) (i + j) := by
  have h' := h.mono (Nat.le_max_left n m)
  have g' := g.mono (Nat.le_max_right n m)
  unfold Lt2 at h' g' ⊢
  rw [Nat.pow_succ]
  have := Int.natAbs_add_le i j
  omega
theorem Lt2.neg {n : Nat} {i : Int} (h : Lt2 n i) : Lt2 n (-i) := by unfold Lt2 at *; rw [Int.natAbs_neg]; exact h
theorem Lt2.sub {n m : Nat} {i j : Int} (h : Lt2 n i) (g : Lt2 m j) : Lt2 (max n m + 1) (i - j) := by rw [Int.sub_eq_add_neg]; exact h.add g.neg
theorem Lt2.log {n : Nat} {i : Int} (h : Lt2 n i) : i.natAbs.log2 ≤ n := by
  cases n with
  | zero =>
    have : i.natAbs = 0 := by unfold Lt2 at h; omega
    rw [this]; simp
  | succ n => exact Nat.le_of_lt (PySem.Flt.log2_lt_of (Nat.succ_pos n) h)
theorem mulOk_of {n m : Nat} {i j : Int} (h : Lt2 n i) (g : Lt2 m j) (l : n + m < 1000000 := by omega) : mulOk i j = true := by
  unfold mulOk
  have := h.log
  have := g.log
  exact decide_eq_true (by omega)
theorem divOk_of {n : Nat} {j : Int} (h0 : j ≠ 0) (h : Lt2 n j) (l : n < 9000 := by omega) : divOk j = true := by
  unfold divOk
  have := h.log
  exact decide_eq_true ⟨h0, by omega⟩
theorem Lt2.of {i : Int} (n : Nat) (h : i.natAbs < 2 ^ n) : Lt2 n i := h
/-- a quotient is no greater -/
theorem Lt2.ediv {n : Nat} {i : Int} (h : Lt2 n i) (d : Nat) : Lt2 n (i / (d : Int)) := by
  unfold Lt2 at *
  refine Nat.lt_of_le_of_lt ?_ h
  exact Int.natAbs_ediv_le_natAbs i d

/-! ### fractions -/
def fr (q : Rat) : PyData := .tuple [.int q.num, .int q.den]
/-- the size of a fraction -/
def Sz (n : Nat) (q : Rat) : Prop := Lt2 n q.num ∧ Lt2 n (q.den : Int)
theorem Sz.mono {n m : Nat} {q : Rat} (h : Sz n q) (l : n ≤ m) : Sz m q := ⟨h.1.mono l, h.2.mono l⟩
theorem sz_divInt {n : Nat} {a b : Int} (h0 : b ≠ 0) (ha : Lt2 n a) (hb : Lt2 n b) : Sz n (Rat.divInt a b) := by
  refine ⟨?_, ?_⟩
  · rw [Rat.num_divInt]
    refine Lt2.ediv ?_ _
    unfold Lt2 at *
    rw [Int.natAbs_mul]
    have : b.sign.natAbs = 1 := by
      rcases Int.lt_trichotomy b 0 with h | h | h
      · rw [Int.sign_eq_neg_one_of_neg h]; rfl
      · exact absurd h h0
      · rw [Int.sign_eq_one_of_pos h]; rfl
    rw [this, Nat.one_mul]; exact ha
  · rw [Rat.den_divInt, if_neg h0]
    unfold Lt2 at *
    rw [Int.natAbs_natCast]
    exact Nat.lt_of_le_of_lt (Nat.div_le_self _ _) hb
end PD
namespace PD
open PySem PySem.Spec PyProof.Rows L2
@[simp] def isIntD : PyData → Bool
  | .none => false
  | .bool _ => false
  | .int _ => true
  | .str _ => false
  | .list _ => false
  | .tuple _ => false
  | .dict _ => false
theorem kii : kitB "int" "int" = some true := by decide +kernel
theorem kib : kitB "int" "bool" = some false := by decide +kernel
theorem kbi : kitB "bool" "int" = some true := by decide +kernel
theorem kbb : kitB "bool" "bool" = some true := by decide +kernel
theorem ksi : kitB "str" "int" = some false := by decide +kernel
theorem kni : kitB "NoneType" "int" = some false := by decide +kernel
theorem kti : kitB "tuple" "int" = some false := by decide +kernel
theorem kli : kitB "list" "int" = some false := by decide +kernel
theorem kit : kitB "int" "tuple" = some false := by decide +kernel
theorem kbt : kitB "bool" "tuple" = some false := by decide +kernel
theorem kst : kitB "str" "tuple" = some false := by decide +kernel
theorem knt : kitB "NoneType" "tuple" = some false := by decide +kernel
theorem ktt : kitB "tuple" "tuple" = some true := by decide +kernel
theorem klt : kitB "list" "tuple" = some false := by decide +kernel
@[simp] def isTupD : PyData → Bool
  | .none => false
  | .bool _ => false
  | .int _ => false
  | .str _ => false
  | .list _ => false
  | .tuple _ => true
  | .dict _ => false
@[simp] def isBoolD : PyData → Bool
  | .none => false
  | .bool _ => true
  | .int _ => false
  | .str _ => false
  | .list _ => false
  | .tuple _ => false
  | .dict _ => false
@[simp] def isDictD : PyData → Bool
  | .none => false
  | .bool _ => false
  | .int _ => false
  | .str _ => false
  | .list _ => false
  | .tuple _ => false
  | .dict _ => true
section
variable {ρ : Rho} {S : Sto} {a : CE} {S' : Sto} {x : PyData}
@[simp] theorem x_isi (T : String) : isiE T a ρ S = (a ρ S).bind fun p => (rd p.2 p.1).bind fun _ => isiF T p.1 p.2 := rfl
@[simp] theorem isi_int_none  : isiF "int" (.d .none) S = some (.d (.bool false), S) := by simp [isiF, tyOf, kni]
@[simp] theorem isi_int_bool (b : Bool) : isiF "int" (.d (.bool b)) S = some (.d (.bool true), S) := by simp [isiF, tyOf, kbi]
@[simp] theorem isi_int_int (i : Int) : isiF "int" (.d (.int i)) S = some (.d (.bool true), S) := by simp [isiF, tyOf, kii]
@[simp] theorem isi_int_str (z : Str) : isiF "int" (.d (.str z)) S = some (.d (.bool false), S) := by simp [isiF, tyOf, ksi]
@[simp] theorem isi_int_list (xs : List PyData) : isiF "int" (.d (.list xs)) S = some (.d (.bool false), S) := by simp [isiF, tyOf, kli]
@[simp] theorem isi_int_tuple (xs : List PyData) : isiF "int" (.d (.tuple xs)) S = some (.d (.bool false), S) := by simp [isiF, tyOf, kti]
@[simp] theorem isi_tuple_none  : isiF "tuple" (.d .none) S = some (.d (.bool false), S) := by simp [isiF, tyOf, knt]
@[simp] theorem isi_tuple_bool (b : Bool) : isiF "tuple" (.d (.bool b)) S = some (.d (.bool false), S) := by simp [isiF, tyOf, kbt]
@[simp] theorem isi_tuple_int (i : Int) : isiF "tuple" (.d (.int i)) S = some (.d (.bool false), S) := by simp [isiF, tyOf, kit]
@[simp] theorem isi_tuple_str (z : Str) : isiF "tuple" (.d (.str z)) S = some (.d (.bool false), S) := by simp [isiF, tyOf, kst]
@[simp] theorem isi_tuple_list (xs : List PyData) : isiF "tuple" (.d (.list xs)) S = some (.d (.bool false), S) := by simp [isiF, tyOf, klt]
@[simp] theorem isi_tuple_tuple (xs : List PyData) : isiF "tuple" (.d (.tuple xs)) S = some (.d (.bool true), S) := by simp [isiF, tyOf, ktt]
@[simp] theorem isi_bool_bool (b : Bool) : isiF "bool" (.d (.bool b)) S = some (.d (.bool true), S) := by simp [isiF, tyOf, kbb]
@[simp] theorem isi_bool_int (i : Int) : isiF "bool" (.d (.int i)) S = some (.d (.bool false), S) := by simp [isiF, tyOf, kib]
end
end PD
namespace PD
open PySem PySem.Spec PyProof.Rows L2
/-! ### comprehensions and loops over mapped lists -/
theorem lcN_map {α : Type} {g : CG} {t : CB} {elt : CE} {ρ : Rho} {S : Sto} (e : α → PyData) (f : α → Rho) (p : α → Bool) (h : α → PyData) : ∀ (l : List α), (∀ x ∈ l, g (.d (e x)) ρ S = some (f x, S)) → (∀ x ∈ l, t (f x) S = some (p x, S)) →
    (∀ x ∈ l, p x = true → elt (f x) S = some (.d (h x), S)) → lcN g t elt ρ (l.map e) S = some ((l.filter p).map h, S)
  | [], _, _, _ => rfl
  | x :: l, hg, ht, he => by
    have ih := lcN_map e f p h l (fun y m => hg y (List.mem_cons_of_mem _ m)) (fun y m => ht y (List.mem_cons_of_mem _ m)) fun y m => he y (List.mem_cons_of_mem _ m)
    rw [List.map_cons, x_lcN, hg x List.mem_cons_self, Option.bind_some, ht x List.mem_cons_self, Option.bind_some, List.filter_cons]
    cases hp : p x with
    | true =>
      simp only [if_true]
      rw [he x List.mem_cons_self hp, Option.bind_some]
      show (lcN g t elt ρ (l.map e) S).bind _ = _
      rw [ih]; rfl
    | false =>
      simp only [Bool.false_eq_true, if_false]
      exact ih
/-- all of them -/
theorem lcN_each {α : Type} {g : CG} {elt : CE} {ρ : Rho} {S : Sto} (e : α → PyData) (f : α → Rho) (h : α → PyData) (l : List α) (hg : ∀ x ∈ l, g (.d (e x)) ρ S = some (f x, S)) (he : ∀ x ∈ l, elt (f x) S = some (.d (h x), S)) :
    lcN g yesB elt ρ (l.map e) S = some (l.map h, S) := by
  rw [lcN_map e f (fun _ => true) h l hg (fun _ _ => rfl) fun x m _ => he x m, List.filter_eq_self.mpr fun _ _ => rfl]
@[simp] theorem x_eqNil : eqP (.list []) (.list []) = some (.bool true) := by unfold eqP; rw [if_pos (by rfl)]; rfl
@[simp] theorem x_neNil : neP (.list []) (.list []) = some (.bool false) := by unfold neP; rw [if_pos (by rfl)]; rfl
@[simp] theorem cut1 (x : PyData) (xs : List PyData) : cutP (x :: xs) (some 1) none = xs := by
  unfold cutP
  rw [show (some (1 : Int)) = some ((1 : Nat) : Int) from rfl, HT.sIx_nat, HT.sIx_none]
  simp
def prs {α : Type} : List α → List (α × α)
  | x :: y :: r => (x, y) :: prs (y :: r)
  | _ => []
theorem zipD_prs {α : Type} (f : α → PyData) : ∀ (l : List α), zipD (l.map f) ((l.map f).drop 1) = (prs l).map fun p => .tuple [f p.1, f p.2]
  | [] => rfl
  | [_] => rfl
  | x :: y :: r => by
    have ih := zipD_prs f (y :: r)
    show PyData.tuple [f x, f y] :: zipD ((y :: r).map f) (r.map f) = _
    rw [show r.map f = ((y :: r).map f).drop 1 from rfl, ih]
    rfl
theorem prs_len {α : Type} : ∀ l : List α, (prs l).length = l.length - 1
  | [] => rfl
  | [_] => rfl
  | x :: y :: r => by
    show (prs (y :: r)).length + 1 = _
    rw [prs_len (y :: r)]
    simp
theorem prs_mem {α : Type} : ∀ {l : List α} {p : α × α}, p ∈ prs l → p.1 ∈ l ∧ p.2 ∈ l
  | [], _, h => by cases h
  | [_], _, h => by cases h
  | x :: y :: r, p, h => by
    rcases List.mem_cons.mp h with rfl | h
    · exact ⟨List.mem_cons_self, List.mem_cons_of_mem _ List.mem_cons_self⟩
    · have := prs_mem h
      exact ⟨List.mem_cons_of_mem _ this.1, List.mem_cons_of_mem _ this.2⟩
theorem drop1_cut (xs : List PyData) (h : xs ≠ []) : cutP xs (some 1) none = xs.drop 1 := by
  cases xs with
  | nil => exact absurd rfl h
  | cons x r => rw [cut1]; rfl
theorem lcN_none {α : Type} {g : CG} {t : CB} {elt : CE} {ρ : Rho} {S : Sto} (e : α → PyData) (f : α → Rho) (l : List α) (hg : ∀ x ∈ l, g (.d (e x)) ρ S = some (f x, S)) (ht : ∀ x ∈ l, t (f x) S = some (false, S)) :
    lcN g t elt ρ (l.map e) S = some ([], S) := by
  rw [lcN_map e f (fun _ => false) (fun _ => PyData.none) l hg ht (fun x m h => absurd h (by simp))]
  have : l.filter (fun _ => false) = [] := List.filter_eq_nil_iff.mpr fun _ _ => by simp
  rw [this]; rfl
theorem at_last {α : Type} (xs : List α) (x : α) : atI (xs ++ [x]) (-1) = some x := by
  unfold atI ixN
  rw [if_neg (by omega), if_pos (by simp; omega)]
  simp
  rw [show ((-1 : Int) + ((xs.length : Int) + 1)).toNat = xs.length by omega]
  simp
theorem cut_mid (xs : List PyData) (h : 2 ≤ xs.length) : cutP xs (some 1) (some (-1)) = xs.tail.dropLast := by
  unfold cutP HT.sIx
  simp
  cases xs with
  | nil => simp at h
  | cons x r =>
    simp [List.dropLast_eq_take] at h ⊢
    congr 1
    omega
theorem cut_to (xs : List PyData) (k : Nat) : cutP xs none (some (k : Int)) = xs.take k := by
  unfold cutP
  rw [HT.sIx_nat, HT.sIx_none]
  simp
theorem cut_of (xs : List PyData) (k : Nat) : cutP xs (some (k : Int)) none = xs.drop k := by
  unfold cutP
  rw [HT.sIx_nat, HT.sIx_none]
  rw [List.take_of_length_le (by simp)]
  by_cases h : k ≤ xs.length
  · rw [Nat.min_eq_left h]
  · rw [Nat.min_eq_right (by omega), List.drop_length, List.drop_eq_nil_of_le (by omega)]
/-- one round of a loop: what it leads to -/
inductive Step {β : Type} (R : β → Rho) (V : β → Sto) (J : β → Prop) (out : Fl → Rho → Sto → Prop) : Option (Fl × Rho × Sto) → Prop where
  | nx (s' : β) (h : J s') : Step R V J out (some (.nx, R s', V s'))
  | ct (s' : β) (h : J s') : Step R V J out (some (.ct, R s', V s'))
  | bk {ρ : Rho} {S : Sto} (h : out .nx ρ S) : Step R V J out (some (.bk, ρ, S))
  | rt {w : W} {ρ : Rho} {S : Sto} (h : out (.rt w) ρ S) : Step R V J out (some (.rt w, ρ, S))
  | ex {n : Str} {as : List (Str × PyData)} {ρ : Rho} {S : Sto} (h : out (.ex n as) ρ S) : Step R V J out (some (.ex n as, ρ, S))
theorem Step.nx' {β : Type} {R : β → Rho} {V : β → Sto} {J : β → Prop} {out : Fl → Rho → Sto → Prop} {o : Option (Fl × Rho × Sto)} (s' : β) (h : J s') (e : o = some (.nx, R s', V s')) : Step R V J out o := e ▸ .nx s' h
theorem Step.rt' {β : Type} {R : β → Rho} {V : β → Sto} {J : β → Prop} {out : Fl → Rho → Sto → Prop} {o : Option (Fl × Rho × Sto)} {w : W} {ρ : Rho} {S : Sto} (h : out (.rt w) ρ S) (e : o = some (.rt w, ρ, S)) : Step R V J out o := e ▸ .rt h
theorem Step.bk' {β : Type} {R : β → Rho} {V : β → Sto} {J : β → Prop} {out : Fl → Rho → Sto → Prop} {o : Option (Fl × Rho × Sto)} {ρ : Rho} {S : Sto} (h : out .nx ρ S) (e : o = some (.bk, ρ, S)) : Step R V J out o := e ▸ .bk h
/-- a loop over a mapped list: an invariant I of what is still to go and of the state, and what it may end in -/
theorem forN_loop {α β : Type} {g : CG} {b : CS} (e : α → PyData) (R : β → Rho) (V : β → Sto) (I : List α → β → Prop) (out : Fl → Rho → Sto → Prop)
    (h0 : ∀ s, I [] s → out .nx (R s) (V s))
    (h1 : ∀ x l s, I (x :: l) s → Step R V (I l) out ((g (.d (e x)) (R s) (V s)).bind fun p => b p.1 p.2)) : ∀ (l : List α) (s : β), I l s → ∃ fl ρ S, forN g b (l.map e) (R s) (V s) = some (fl, ρ, S) ∧ out fl ρ S
  | [], s, h => ⟨_, _, _, rfl, h0 s h⟩
  | x :: l, s, h => by
    have st := h1 x l s h
    rw [List.map_cons, x_forN]
    generalize hg : g (.d (e x)) (R s) (V s) = gg at st
    cases gg with
    | none => cases st
    | some p =>
      rw [Option.bind_some] at st ⊢
      generalize b p.1 p.2 = o at st
      cases st with
      | nx s' h3 => exact forN_loop e R V I out h0 h1 l s' h3
      | ct s' h3 => exact forN_loop e R V I out h0 h1 l s' h3
      | bk h2 => exact ⟨_, _, _, rfl, h2⟩
      | rt h2 => exact ⟨_, _, _, rfl, h2⟩
      | ex h2 => exact ⟨_, _, _, rfl, h2⟩
theorem forN_bind {α β γ : Type} {g : CG} {b : CS} {ρ0 : Rho} {S0 : Sto} {K : Fl × Rho × Sto → Option γ} (P : Option γ → Prop) (e : α → PyData) (R : β → Rho) (V : β → Sto) (I : List α → β → Prop) (out : Fl → Rho → Sto → Prop)
    (l : List α) (s : β) (hI : I l s) (hρ : ρ0 = R s) (hS : S0 = V s)
    (h0 : ∀ s, I [] s → out .nx (R s) (V s))
    (h1 : ∀ x l s, I (x :: l) s → Step R V (I l) out ((g (.d (e x)) (R s) (V s)).bind fun p => b p.1 p.2))
    (hK : ∀ fl ρ S, out fl ρ S → P (K (fl, ρ, S))) : P ((forN g b (l.map e) ρ0 S0).bind K) := by
  subst hρ hS
  obtain ⟨fl, ρ, S, h, o⟩ := forN_loop (g := g) (b := b) e R V I out h0 h1 l s hI
  rw [h, Option.bind_some]
  exact hK _ _ _ o
end PD

/-! PD, part 10: while loops, tests of values, ranges. -/
namespace PD
open PySem PySem.Spec PyProof.Rows L2
theorem whileN_loop {β : Type} {t : CB} {b : CS} (R : β → Rho) (V : β → Sto) (I : Nat → β → Prop) (out : Fl → Rho → Sto → Prop) (h0 : ∀ s, ¬ I 0 s)
    (h1 : ∀ n s, I (n + 1) s → (t (R s) (V s) = some (false, V s) ∧ out .nx (R s) (V s)) ∨ (t (R s) (V s) = some (true, V s) ∧ Step R V (I n) out (b (R s) (V s)))) : ∀ (n : Nat) (s : β), I n s → ∃ fl ρ S, whileN t b n (R s) (V s) = some (fl, ρ, S) ∧ out fl ρ S
  | 0, s, h => absurd h (h0 s)
  | n + 1, s, h => by
    show ∃ fl ρ S, ((t (R s) (V s)).bind _) = _ ∧ _
    rcases h1 n s h with ⟨e, o⟩ | ⟨e, st⟩
    · rw [e]; exact ⟨_, _, _, rfl, o⟩
    · rw [e, Option.bind_some, if_pos rfl]
      generalize b (R s) (V s) = q at st
      cases st with
      | nx s' h3 => exact whileN_loop R V I out h0 h1 n s' h3
      | ct s' h3 => exact whileN_loop R V I out h0 h1 n s' h3
      | bk h2 => exact ⟨_, _, _, rfl, h2⟩
      | rt h2 => exact ⟨_, _, _, rfl, h2⟩
      | ex h2 => exact ⟨_, _, _, rfl, h2⟩
theorem whileS_bind {β γ : Type} {t : CB} {b : CS} {ρ0 : Rho} {S0 : Sto} {K : Fl × Rho × Sto → Option γ} (P : Option γ → Prop) (R : β → Rho) (V : β → Sto) (I : Nat → β → Prop) (out : Fl → Rho → Sto → Prop)
    (s : β) (hI : I fuel s) (hρ : ρ0 = R s) (hS : S0 = V s) (h0 : ∀ s, ¬ I 0 s)
    (h1 : ∀ n s, I (n + 1) s → (t (R s) (V s) = some (false, V s) ∧ out .nx (R s) (V s)) ∨ (t (R s) (V s) = some (true, V s) ∧ Step R V (I n) out (b (R s) (V s))))
    (hK : ∀ fl ρ S, out fl ρ S → P (K (fl, ρ, S))) : P ((whileS t b ρ0 S0).bind K) := by
  subst hρ hS
  obtain ⟨fl, ρ, S, h, o⟩ := whileN_loop (t := t) (b := b) R V I out h0 h1 fuel s hI
  unfold whileS
  rw [h, Option.bind_some]
  exact hK _ _ _ o
theorem canLay_frs : ∀ l : List Rat, PyData.canLayAll0 (l.map fr) = true
  | [] => rfl
  | q :: l => by
    have := canLay_frs l
    simp [PyData.canLayAll0, fr, PyData.canLay0, this]
theorem neP_frs (l : List Rat) : neP (.list (l.map fr)) (.list []) = some (.bool (!l.isEmpty)) := by
  unfold neP eqOk
  rw [if_pos (by simp [PyData.canLay0, canLay_frs, PyData.depth, PyData.canLayAll0, PyData.depthAll])]
  cases l with
  | nil => rfl
  | cons q l => simp [PyData.eqv, PyData.eqvAll]
theorem eqP_fr (q : Rat) : eqP (fr q) (fr q) = some (.bool true) := by
  unfold eqP eqOk
  rw [if_pos (by simp [fr, PyData.canLay0, PyData.canLayAll0, PyData.depth, PyData.depthAll])]
  simp [fr, PyData.eqv, PyData.eqvAll]
theorem reprP_bool (b : Bool) : ∃ z, reprP [.bool b] = some (.str z) ∧ neP (.str z) (.str z) = some (.bool false) := by
  refine ⟨(PyData.bool b).shown, ?_, ?_⟩
  · show (if _ then _ else _) = _
    rw [if_pos (by cases b <;> decide +kernel)]
  · unfold neP eqOk
    rw [if_pos (by cases b <;> decide +kernel)]
    simp [PyData.eqv]
theorem eqP_bool (a b : Bool) : eqP (.bool a) (.bool b) = some (.bool (a == b)) := by
  unfold eqP eqOk
  rw [if_pos (by simp [PyData.canLay0, PyData.depth])]
  simp [PyData.eqv]
/-- numbers from nought up, beside a list -/
theorem range_zip {α : Type} (l : List α) : rangeD 0 l.length = l.zipIdx.map fun t => PyData.int (t.2 : Nat) := by
  unfold rangeD
  apply List.ext_getElem
  · simp
  · intro i h1 h2; simp
theorem x_pow (i j : Int) : powP (.int i) (.int j) = if 0 ≤ j ∧ j ≤ 1000000 ∧ i.natAbs < 2 ^ 64 then some (.int (i ^ j.toNat)) else none := rfl
@[simp] theorem x_dm (i j : Int) : divmodP [.int i, .int j] = if 0 < j ∧ j < 1073741824 then some (.tuple [.int (i / j), .int (i % j)]) else none := rfl
@[simp] theorem x_append (a e : CE) (ρ : Rho) (S : Sto) : appendE a e ρ S = (a ρ S).bind fun p => (cellOf p.1).bind fun n => (liveAt p.2 n).bind fun _ => (e ρ p.2).bind fun q => (asD q.1).bind fun x => (liveAt q.2 n).bind fun xs =>
  if xs.length < lim then some (.d .none, q.2.set n (some (xs ++ [x]))) else none := rfl
@[simp] theorem x_brk (ρ : Rho) (S : Sto) : brkS ρ S = some (.bk, ρ, S) := rfl
@[simp] theorem x_cnt (ρ : Rho) (S : Sto) : cntS ρ S = some (.ct, ρ, S) := rfl
@[simp] theorem x_cellOf (n : Nat) : cellOf (.m n) = some n := rfl
@[simp] theorem x_asD (x : PyData) : asD (.d x) = some x := rfl
@[simp] theorem x_live (S : Sto) (n : Nat) : liveAt S n = match S[n]? with
  | some (some xs) => some xs
  | _ => none := rfl
section
variable {S0 r : Sto} {a b x : Option (List PyData)}
@[simp] theorem st_get0 : (S0 ++ a :: r)[S0.length]? = some a := by simp
@[simp] theorem st_get1 : (S0 ++ a :: b :: r)[S0.length + 1]? = some b := by simp
@[simp] theorem st_set0 : (S0 ++ a :: r).set S0.length x = S0 ++ x :: r := by simp
@[simp] theorem st_set1 : (S0 ++ a :: b :: r).set (S0.length + 1) x = S0 ++ a :: x :: r := by rw [List.set_append_right _ _ (by omega)]; simp
@[simp] theorem st_take : (S0 ++ a :: r).take (S0.length + 1) = S0 ++ [a] := by
  rw [show S0 ++ a :: r = (S0 ++ [a]) ++ r by simp]
  exact List.take_left' (by simp)
@[simp] theorem st_all : (S0 ++ a :: r).take (S0.length + (r.length + 1)) = S0 ++ a :: r := List.take_of_length_le (by simp)
end
end PD

/-! PD, part 11: repr of nested data, told alike. -/
namespace PD
open PySem PySem.Spec PyProof.Rows L2
open PySem.PyData (strOk)
theorem len_append (a b : Str) : (a ++ b).length = a.length + b.length := by
  show (Str.append a b).cps.size = _
  unfold Str.append Str.length; simp
theorem ok_append (a b : Str) : strOk (a ++ b) = (strOk a && strOk b) := by
  show strOk (Str.append a b) = _
  unfold Str.append PyData.strOk; simp [Array.all_append]
theorem len_ofString (s : String) : (Str.ofString s).length = s.toList.length := by
  rw [Str.ofString_eq_toList]; unfold Str.length; simp
theorem ok_ofString (s : String) : strOk (Str.ofString s) = true := by
  rw [Str.ofString_eq_toList]
  unfold PyData.strOk
  simp only [List.all_toArray, List.all_map, List.all_eq_true]
  intro c _
  have := c.valid
  simp only [Function.comp, decide_eq_true_eq]
  rcases this with h | ⟨_, h⟩
  · show c.val.toNat < _
    omega
  · exact h
/-- text of no more than L signs -/
def Tx (L : Nat) (s : Str) : Prop := s.length ≤ L ∧ strOk s = true
theorem Tx.mono {L M : Nat} {s : Str} (h : Tx L s) (l : L ≤ M) : Tx M s := ⟨Nat.le_trans h.1 l, h.2⟩
theorem Tx.app {L M : Nat} {a b : Str} (h : Tx L a) (g : Tx M b) : Tx (L + M) (a ++ b) := ⟨by rw [len_append]; exact Nat.add_le_add h.1 g.1, by rw [ok_append, h.2, g.2]; rfl⟩
theorem tx_str (s : String) {L : Nat} (h : s.toList.length ≤ L) : Tx L (Str.ofString s) := ⟨by rw [len_ofString]; exact h, ok_ofString s⟩
theorem tx_int {n : Nat} {i : Int} (h : Lt2 n i) : Tx (n + 2) (PyData.int i).shown := by
  have e : (PyData.int i).shown = Str.ofString (toString i) := by simp [PyData.shown]
  rw [e]
  refine tx_str _ ?_
  have key : ∀ m : Nat, m < 2 ^ n → (Nat.toDigits 10 m).length ≤ n + 1 := fun m hm => by
    rw [Nat.length_toDigits_le_iff (by decide) (by omega)]
    refine Nat.lt_of_lt_of_le hm ?_
    exact Nat.le_trans (Nat.pow_le_pow_left (by decide) n) (Nat.pow_le_pow_right (by decide) (by omega))
  unfold Lt2 at h
  cases i with
  | ofNat m =>
    have h2 := key m h
    have e2 : (toString (Int.ofNat m)).toList = Nat.toDigits 10 m := by
      show (Nat.repr m).toList = _
      simp [Nat.repr]
    rw [e2]; omega
  | negSucc m =>
    have h2 := key (m + 1) h
    have e2 : (toString (Int.negSucc m)).toList = '-' :: Nat.toDigits 10 (m + 1) := by
      show ("-" ++ Nat.repr (m + 1)).toList = _
      simp [Nat.repr]
    rw [e2]; simp; omega
theorem tx_text {L : Nat} : ∀ (ts : List Str) (k M : Nat) (acc : Str), (∀ t ∈ ts, Tx L t) → Tx M acc → Tx (M + ts.length * (L + 2)) (textFrom k acc ts)
  | [], k, M, acc, _, h => by unfold textFrom; exact h.mono (by simp)
  | t :: ts, k, M, acc, ht, h => by
    unfold textFrom
    have h1 : Tx 2 (Str.ofString (if k > 0 then ", " else "" : String)) := by
      split
      · exact tx_str _ (by decide)
      · exact tx_str _ (by decide)
    refine (tx_text ts (k + 1) (M + 2 + L) _ (fun u m => ht u (List.mem_cons_of_mem _ m)) ((h.app h1).app (ht t List.mem_cons_self))).mono ?_
    simp only [List.length_cons, Nat.add_mul]
    omega
theorem tx_list {L : Nat} (ts : List Str) (h : ∀ t ∈ ts, Tx L t) : Tx (ts.length * (L + 2) + 2) (listText ts) := by
  unfold listText
  refine ((tx_text ts 0 1 _ h (tx_str _ (by decide))).app (tx_str (L := 1) _ (by decide))).mono (by omega)
theorem tx_join {L : Nat} {sep : Str} (hs : Tx 2 sep) : ∀ (ts : List Str), (∀ t ∈ ts, Tx L t) → Tx (ts.length * (L + 2)) (sep.join ts)
  | [], _ => by unfold Str.join; exact ⟨by simp [Str.empty, Str.length], by decide +kernel⟩
  | [t], h => by unfold Str.join; exact (h t List.mem_cons_self).mono (by simp)
  | t :: u :: ts, h => by
    unfold Str.join
    refine (((h t List.mem_cons_self).app hs).app (tx_join hs (u :: ts) fun v m => h v (List.mem_cons_of_mem _ m))).mono ?_
    simp only [List.length_cons, Nat.add_mul]; omega
theorem tx_tuple {L : Nat} (ts : List Str) (h : ∀ t ∈ ts, Tx L t) : Tx (ts.length * (L + 2) + 3) (tupleText ts) := by
  unfold tupleText
  have h2 : Tx 2 (Str.ofString (if (ts.length == 1) = true then ",)" else ")")) := by
    split
    · exact tx_str _ (by decide)
    · exact tx_str _ (by decide)
  refine (((tx_str (L := 1) "(" (by decide)).app (tx_join (tx_str _ (by decide)) ts h)).app h2).mono (by omega)
/-- data that repr tells: depth and length -/
structure Shw (D L : Nat) (x : PyData) : Prop where
  sh : x.showable = true
  nd : x.hasDict = false
  dp : x.depth ≤ D
  tx : Tx L x.shown
theorem Shw.mono {D L D' L' : Nat} {x : PyData} (h : Shw D L x) (d : D ≤ D') (l : L ≤ L') : Shw D' L' x := ⟨h.sh, h.nd, Nat.le_trans h.dp d, h.tx.mono l⟩
theorem shw_int {n : Nat} {i : Int} (h : Lt2 n i) (hn : n < 1920) : Shw 0 (n + 2) (.int i) :=
  ⟨by unfold PyData.showable; exact decide_eq_true (Nat.lt_of_le_of_lt h.log hn), by simp [PyData.hasDict], by simp [PyData.depth], tx_int h⟩
theorem shw_bool (b : Bool) : Shw 0 5 (.bool b) := ⟨rfl, rfl, by simp [PyData.depth], by cases b <;> exact tx_str _ (by decide)⟩
theorem shw_none : Shw 0 4 .none := ⟨rfl, rfl, by simp [PyData.depth], tx_str _ (by decide)⟩
theorem shownAll_eq : ∀ xs : List PyData, PyData.shownAll xs = xs.map PyData.shown
  | [] => rfl
  | x :: xs => by simp [PyData.shownAll, shownAll_eq xs]
theorem showableAll_of : ∀ {xs : List PyData}, (∀ x ∈ xs, x.showable = true) → PyData.showableAll xs = true
  | [], _ => rfl
  | x :: xs, h => by simp [PyData.showableAll, h x List.mem_cons_self, showableAll_of fun y m => h y (List.mem_cons_of_mem _ m)]
theorem hasDictAll_of : ∀ {xs : List PyData}, (∀ x ∈ xs, x.hasDict = false) → PyData.hasDictAll xs = false
  | [], _ => rfl
  | x :: xs, h => by simp [PyData.hasDictAll, h x List.mem_cons_self, hasDictAll_of fun y m => h y (List.mem_cons_of_mem _ m)]
theorem depthAll_of {D : Nat} : ∀ {xs : List PyData}, (∀ x ∈ xs, x.depth ≤ D) → PyData.depthAll xs ≤ D
  | [], _ => by simp [PyData.depthAll]
  | x :: xs, h => by
    have h1 := h x List.mem_cons_self
    have h2 := depthAll_of fun y m => h y (List.mem_cons_of_mem _ m)
    simp only [PyData.depthAll]; omega
theorem shw_list {D L : Nat} {xs : List PyData} (h : ∀ x ∈ xs, Shw D L x) : Shw (D + 1) (xs.length * (L + 2) + 2) (.list xs) :=
  ⟨by unfold PyData.showable; exact showableAll_of fun x m => (h x m).sh, by unfold PyData.hasDict; exact hasDictAll_of fun x m => (h x m).nd,
    by have := depthAll_of fun x m => (h x m).dp; simp only [PyData.depth]; omega, by
    unfold PyData.shown
    rw [shownAll_eq]
    refine (tx_list (L := L) (xs.map PyData.shown) fun t m => ?_).mono (by simp)
    obtain ⟨x, mx, rfl⟩ := List.mem_map.mp m
    exact (h x mx).tx⟩
theorem shw_tuple {D L : Nat} {xs : List PyData} (h : ∀ x ∈ xs, Shw D L x) : Shw (D + 1) (xs.length * (L + 2) + 3) (.tuple xs) :=
  ⟨by unfold PyData.showable; exact showableAll_of fun x m => (h x m).sh, by unfold PyData.hasDict; exact hasDictAll_of fun x m => (h x m).nd,
    by have := depthAll_of fun x m => (h x m).dp; simp only [PyData.depth]; omega, by
    unfold PyData.shown
    rw [shownAll_eq]
    refine (tx_tuple (L := L) (xs.map PyData.shown) fun t m => ?_).mono (by simp)
    obtain ⟨x, mx, rfl⟩ := List.mem_map.mp m
    exact (h x mx).tx⟩
theorem shw_fr {n : Nat} {q : Rat} (h : Sz n q) (hn : n < 1920) : Shw 1 (2 * n + 11) (fr q) := by
  refine (shw_tuple (D := 0) (L := n + 2) (xs := [.int q.num, .int q.den]) fun x m => ?_).mono (by omega) (by simp; omega)
  simp at m
  rcases m with rfl | rfl
  · exact shw_int h.1 hn
  · exact shw_int h.2 hn
/-- repr of the same thing twice -/
theorem repr_ok {x : PyData} {D L : Nat} (h : Shw D L x) (hd : D ≤ 64) (hl : L ≤ 100000) : reprP [x] = some (.str x.shown) := by
  show (if _ then _ else _) = _
  rw [if_pos ⟨h.sh, h.nd, Nat.le_trans h.dp hd, Nat.le_trans h.tx.1 hl⟩]
theorem neP_str {D L : Nat} {x : PyData} (h : Shw D L x) : neP (.str x.shown) (.str x.shown) = some (.bool false) := by
  unfold neP eqOk
  rw [if_pos (by simp [PyData.canLay0, h.tx.2, PyData.depth])]
  simp [PyData.eqv]
theorem eqP_str {D L : Nat} {x : PyData} (h : Shw D L x) : eqP (.str x.shown) (.str x.shown) = some (.bool true) := by
  unfold eqP eqOk
  rw [if_pos (by simp [PyData.canLay0, h.tx.2, PyData.depth])]
  simp [PyData.eqv]
end PD

namespace Prog
open PySem PySem.Spec PyProof.Rows L2 PD
abbrev G_cls : List (Str × List Str) := [(("TooMany" : Str), [("given" : Str)])]
abbrev G_sub : List (Str × Str × Bool) := [(("TooMany" : Str), ("TooMany" : Str), true), (("TooMany" : Str), ("RoadError" : Str), true), (("TooMany" : Str), ("ValueError" : Str), true)]
def topS (i : Nat) : Stmt := PySem.Challenge.pw_roadcrowds_k52_whole_rows_told_unlike.main.body.getD i (.Pass ⟨0, 0, 0, 0⟩)
abbrev s_is_whole : Stmt := topS 7
abbrev p_is_whole : List Str := ["value"]
abbrev a_is_whole : List (Nat × List Str × List Nat) := []
abbrev c_is_whole (r : Runs) : PD.Callee := ⟨p_is_whole, r.ok "is_whole", r.ex "is_whole", a_is_whole⟩
abbrev s_are_wholes : Stmt := topS 8
abbrev p_are_wholes : List Str := ["value", "many"]
abbrev a_are_wholes : List (Nat × List Str × List Nat) := []
abbrev c_are_wholes (r : Runs) : PD.Callee := ⟨p_are_wholes, r.ok "are_wholes", r.ex "are_wholes", a_are_wholes⟩
abbrev s_common_part : Stmt := topS 9
abbrev p_common_part : List Str := ["numbers"]
abbrev a_common_part : List (Nat × List Str × List Nat) := []
abbrev c_common_part (r : Runs) : PD.Callee := ⟨p_common_part, r.ok "common_part", r.ex "common_part", a_common_part⟩
abbrev s_lowest : Stmt := topS 10
abbrev p_lowest : List Str := ["numbers"]
abbrev a_lowest : List (Nat × List Str × List Nat) := []
abbrev c_lowest (r : Runs) : PD.Callee := ⟨p_lowest, r.ok "lowest", r.ex "lowest", a_lowest⟩
abbrev s_lowest_over : Stmt := topS 11
abbrev p_lowest_over : List Str := ["numbers", "below"]
abbrev a_lowest_over : List (Nat × List Str × List Nat) := []
abbrev c_lowest_over (r : Runs) : PD.Callee := ⟨p_lowest_over, r.ok "lowest_over", r.ex "lowest_over", a_lowest_over⟩
abbrev s_ratio : Stmt := topS 12
abbrev p_ratio : List Str := ["top", "below"]
abbrev a_ratio : List (Nat × List Str × List Nat) := []
abbrev c_ratio (r : Runs) : PD.Callee := ⟨p_ratio, r.ok "ratio", r.ex "ratio", a_ratio⟩
abbrev s_plus : Stmt := topS 15
abbrev p_plus : List Str := ["one", "other"]
abbrev a_plus : List (Nat × List Str × List Nat) := []
abbrev c_plus (r : Runs) : PD.Callee := ⟨p_plus, r.ok "plus", r.ex "plus", a_plus⟩
abbrev s_minus : Stmt := topS 16
abbrev p_minus : List Str := ["one", "other"]
abbrev a_minus : List (Nat × List Str × List Nat) := []
abbrev c_minus (r : Runs) : PD.Callee := ⟨p_minus, r.ok "minus", r.ex "minus", a_minus⟩
abbrev s_times : Stmt := topS 17
abbrev p_times : List Str := ["one", "other"]
abbrev a_times : List (Nat × List Str × List Nat) := []
abbrev c_times (r : Runs) : PD.Callee := ⟨p_times, r.ok "times", r.ex "times", a_times⟩
abbrev s_divided : Stmt := topS 18
abbrev p_divided : List Str := ["one", "other"]
abbrev a_divided : List (Nat × List Str × List Nat) := []
abbrev c_divided (r : Runs) : PD.Callee := ⟨p_divided, r.ok "divided", r.ex "divided", a_divided⟩
abbrev s_is_below : Stmt := topS 19
abbrev p_is_below : List Str := ["one", "other"]
abbrev a_is_below : List (Nat × List Str × List Nat) := []
abbrev c_is_below (r : Runs) : PD.Callee := ⟨p_is_below, r.ok "is_below", r.ex "is_below", a_is_below⟩
abbrev s_is_fraction : Stmt := topS 21
abbrev p_is_fraction : List Str := ["value"]
abbrev a_is_fraction : List (Nat × List Str × List Nat) := []
abbrev c_is_fraction (r : Runs) : PD.Callee := ⟨p_is_fraction, r.ok "is_fraction", r.ex "is_fraction", a_is_fraction⟩
abbrev s_is_amount : Stmt := topS 22
abbrev p_is_amount : List Str := ["value"]
abbrev a_is_amount : List (Nat × List Str × List Nat) := []
abbrev c_is_amount (r : Runs) : PD.Callee := ⟨p_is_amount, r.ok "is_amount", r.ex "is_amount", a_is_amount⟩
abbrev s_are_fractions : Stmt := topS 23
abbrev p_are_fractions : List Str := ["value", "many"]
abbrev a_are_fractions : List (Nat × List Str × List Nat) := []
abbrev c_are_fractions (r : Runs) : PD.Callee := ⟨p_are_fractions, r.ok "are_fractions", r.ex "are_fractions", a_are_fractions⟩
abbrev s_check_amount : Stmt := topS 24
abbrev p_check_amount : List Str := ["value"]
abbrev a_check_amount : List (Nat × List Str × List Nat) := []
abbrev c_check_amount (r : Runs) : PD.Callee := ⟨p_check_amount, r.ok "check_amount", r.ex "check_amount", a_check_amount⟩
abbrev s_slope_of : Stmt := topS 28
abbrev p_slope_of : List Str := ["corner", "other"]
abbrev a_slope_of : List (Nat × List Str × List Nat) := []
abbrev c_slope_of (r : Runs) : PD.Callee := ⟨p_slope_of, r.ok "slope_of", r.ex "slope_of", a_slope_of⟩
abbrev s_kind_speeds : Stmt := topS 29
abbrev p_kind_speeds : List Str := ["kind"]
abbrev a_kind_speeds : List (Nat × List Str × List Nat) := []
abbrev c_kind_speeds (r : Runs) : PD.Callee := ⟨p_kind_speeds, r.ok "kind_speeds", r.ex "kind_speeds", a_kind_speeds⟩
abbrev s_is_kind : Stmt := topS 30
abbrev p_is_kind : List Str := ["value"]
abbrev a_is_kind : List (Nat × List Str × List Nat) := []
abbrev c_is_kind (r : Runs) : PD.Callee := ⟨p_is_kind, r.ok "is_kind", r.ex "is_kind", a_is_kind⟩
abbrev s_is_corner : Stmt := topS 31
abbrev p_is_corner : List Str := ["value"]
abbrev a_is_corner : List (Nat × List Str × List Nat) := []
abbrev c_is_corner (r : Runs) : PD.Callee := ⟨p_is_corner, r.ok "is_corner", r.ex "is_corner", a_is_corner⟩
abbrev s_check_kind : Stmt := topS 32
abbrev p_check_kind : List Str := ["value"]
abbrev a_check_kind : List (Nat × List Str × List Nat) := []
abbrev c_check_kind (r : Runs) : PD.Callee := ⟨p_check_kind, r.ok "check_kind", r.ex "check_kind", a_check_kind⟩
abbrev s_check_steps : Stmt := topS 36
abbrev p_check_steps : List Str := ["kind", "dx", "dt"]
abbrev a_check_steps : List (Nat × List Str × List Nat) := []
abbrev c_check_steps (r : Runs) : PD.Callee := ⟨p_check_steps, r.ok "check_steps", r.ex "check_steps", a_check_steps⟩
abbrev s_places_gone : Stmt := topS 37
abbrev p_places_gone : List Str := ["kind", "dx", "dt"]
abbrev a_places_gone : List (Nat × List Str × List Nat) := []
abbrev c_places_gone (r : Runs) : PD.Callee := ⟨p_places_gone, r.ok "places_gone", r.ex "places_gone", a_places_gone⟩
abbrev s_margins : Stmt := topS 38
abbrev p_margins : List Str := ["kind", "dx", "dt"]
abbrev a_margins : List (Nat × List Str × List Nat) := []
abbrev c_margins (r : Runs) : PD.Callee := ⟨p_margins, r.ok "margins", r.ex "margins", a_margins⟩
abbrev s_even_row : Stmt := topS 39
abbrev p_even_row : List Str := ["dx", "density", "many"]
abbrev a_even_row : List (Nat × List Str × List Nat) := []
abbrev c_even_row (r : Runs) : PD.Callee := ⟨p_even_row, r.ok "even_row", r.ex "even_row", a_even_row⟩
abbrev s_unlike_by : Stmt := topS 40
abbrev p_unlike_by : List Str := ["kind", "dx", "dt"]
abbrev a_unlike_by : List (Nat × List Str × List Nat) := []
abbrev c_unlike_by (r : Runs) : PD.Callee := ⟨p_unlike_by, r.ok "unlike_by", r.ex "unlike_by", a_unlike_by⟩
abbrev s_row_or_too_many : Stmt := topS 41
abbrev p_row_or_too_many : List Str := ["kind", "dx", "dt"]
abbrev a_row_or_too_many : List (Nat × List Str × List Nat) := []
abbrev c_row_or_too_many (r : Runs) : PD.Callee := ⟨p_row_or_too_many, r.ok "row_or_too_many", r.ex "row_or_too_many", a_row_or_too_many⟩
abbrev s_unlike_row : Stmt := topS 42
abbrev p_unlike_row : List Str := ["kind", "dx", "dt"]
abbrev a_unlike_row : List (Nat × List Str × List Nat) := [(0, ["dt", "kind", "dx"], [1, 2, 0])]
abbrev c_unlike_row (r : Runs) : PD.Callee := ⟨p_unlike_row, r.ok "unlike_row", r.ex "unlike_row", a_unlike_row⟩
abbrev s_L_cask : Stmt := topS 44
abbrev p_L_cask : List Str := ["script", "turn"]
abbrev a_L_cask : List (Nat × List Str × List Nat) := []
abbrev c_L_cask (r : Runs) : PD.Callee := ⟨p_L_cask, r.ok "_law_cask", r.ex "_law_cask", a_L_cask⟩
abbrev s_L_tap : Stmt := topS 45
abbrev p_L_tap : List Str := ["cask", "top"]
abbrev a_L_tap : List (Nat × List Str × List Nat) := []
abbrev c_L_tap (r : Runs) : PD.Callee := ⟨p_L_tap, r.ok "_law_tap", r.ex "_law_tap", a_L_tap⟩
abbrev s_L_of : Stmt := topS 46
abbrev p_L_of : List Str := ["cask", "some"]
abbrev a_L_of : List (Nat × List Str × List Nat) := []
abbrev c_L_of (r : Runs) : PD.Callee := ⟨p_L_of, r.ok "_law_of", r.ex "_law_of", a_L_of⟩
abbrev s_L_cut : Stmt := topS 47
abbrev p_L_cut : List Str := ["up", "low"]
abbrev a_L_cut : List (Nat × List Str × List Nat) := []
abbrev c_L_cut (r : Runs) : PD.Callee := ⟨p_L_cut, r.ok "_law_cut", r.ex "_law_cut", a_L_cut⟩
abbrev s_L_even : Stmt := topS 48
abbrev p_L_even : List Str := ["a"]
abbrev a_L_even : List (Nat × List Str × List Nat) := []
abbrev c_L_even (r : Runs) : PD.Callee := ⟨p_L_even, r.ok "_law_even", r.ex "_law_even", a_L_even⟩
abbrev s_L_sum : Stmt := topS 49
abbrev p_L_sum : List Str := ["a", "b"]
abbrev a_L_sum : List (Nat × List Str × List Nat) := []
abbrev c_L_sum (r : Runs) : PD.Callee := ⟨p_L_sum, r.ok "_law_sum", r.ex "_law_sum", a_L_sum⟩
abbrev s_L_gap : Stmt := topS 50
abbrev p_L_gap : List Str := ["a", "b"]
abbrev a_L_gap : List (Nat × List Str × List Nat) := []
abbrev c_L_gap (r : Runs) : PD.Callee := ⟨p_L_gap, r.ok "_law_gap", r.ex "_law_gap", a_L_gap⟩
abbrev s_L_by : Stmt := topS 51
abbrev p_L_by : List Str := ["a", "b"]
abbrev a_L_by : List (Nat × List Str × List Nat) := []
abbrev c_L_by (r : Runs) : PD.Callee := ⟨p_L_by, r.ok "_law_by", r.ex "_law_by", a_L_by⟩
abbrev s_L_per : Stmt := topS 52
abbrev p_L_per : List Str := ["a", "b"]
abbrev a_L_per : List (Nat × List Str × List Nat) := []
abbrev c_L_per (r : Runs) : PD.Callee := ⟨p_L_per, r.ok "_law_per", r.ex "_law_per", a_L_per⟩
abbrev s_L_kind : Stmt := topS 53
abbrev p_L_kind : List Str := ["cask"]
abbrev a_L_kind : List (Nat × List Str × List Nat) := []
abbrev c_L_kind (r : Runs) : PD.Callee := ⟨p_L_kind, r.ok "_law_kind", r.ex "_law_kind", a_L_kind⟩
abbrev s_L_speeds : Stmt := topS 54
abbrev p_L_speeds : List Str := ["line"]
abbrev a_L_speeds : List (Nat × List Str × List Nat) := []
abbrev c_L_speeds (r : Runs) : PD.Callee := ⟨p_L_speeds, r.ok "_law_speeds", r.ex "_law_speeds", a_L_speeds⟩
abbrev s_L_toll : Stmt := topS 55
abbrev p_L_toll : List Str := ["own", "far", "lasts"]
abbrev a_L_toll : List (Nat × List Str × List Nat) := []
abbrev c_L_toll (r : Runs) : PD.Callee := ⟨p_L_toll, r.ok "_law_toll", r.ex "_law_toll", a_L_toll⟩
abbrev s_L_along : Stmt := topS 56
abbrev p_L_along : List Str := ["corners", "at"]
abbrev a_L_along : List (Nat × List Str × List Nat) := []
abbrev c_L_along (r : Runs) : PD.Callee := ⟨p_L_along, r.ok "_law_along", r.ex "_law_along", a_L_along⟩
abbrev s_L_least : Stmt := topS 57
abbrev p_L_least : List Str := ["some"]
abbrev a_L_least : List (Nat × List Str × List Nat) := []
abbrev c_L_least (r : Runs) : PD.Callee := ⟨p_L_least, r.ok "_law_least", r.ex "_law_least", a_L_least⟩
abbrev s_L_ceil : Stmt := topS 58
abbrev p_L_ceil : List Str := ["a"]
abbrev a_L_ceil : List (Nat × List Str × List Nat) := []
abbrev c_L_ceil (r : Runs) : PD.Callee := ⟨p_L_ceil, r.ok "_law_ceil", r.ex "_law_ceil", a_L_ceil⟩
abbrev s_L_spots : Stmt := topS 59
abbrev p_L_spots : List Str := ["own", "part", "many"]
abbrev a_L_spots : List (Nat × List Str × List Nat) := []
abbrev c_L_spots (r : Runs) : PD.Callee := ⟨p_L_spots, r.ok "_law_spots", r.ex "_law_spots", a_L_spots⟩
abbrev s_L_cells : Stmt := topS 60
abbrev p_L_cells : List Str := ["own", "wide", "lasts", "heap"]
abbrev a_L_cells : List (Nat × List Str × List Nat) := []
abbrev c_L_cells (r : Runs) : PD.Callee := ⟨p_L_cells, r.ok "_law_cells", r.ex "_law_cells", a_L_cells⟩
abbrev s_L_truth : Stmt := topS 61
abbrev p_L_truth : List Str := ["own", "wide", "lasts", "heap", "spots"]
abbrev a_L_truth : List (Nat × List Str × List Nat) := []
abbrev c_L_truth (r : Runs) : PD.Callee := ⟨p_L_truth, r.ok "_law_truth", r.ex "_law_truth", a_L_truth⟩
abbrev s_L_fit : Stmt := topS 62
abbrev p_L_fit : List Str := ["own", "part"]
abbrev a_L_fit : List (Nat × List Str × List Nat) := []
abbrev c_L_fit (r : Runs) : PD.Callee := ⟨p_L_fit, r.ok "_law_fit", r.ex "_law_fit", a_L_fit⟩
abbrev s_L_is_fraction : Stmt := topS 63
abbrev p_L_is_fraction : List Str := ["value"]
abbrev a_L_is_fraction : List (Nat × List Str × List Nat) := []
abbrev c_L_is_fraction (r : Runs) : PD.Callee := ⟨p_L_is_fraction, r.ok "_law_is_fraction", r.ex "_law_is_fraction", a_L_is_fraction⟩
abbrev s_L_told : Stmt := topS 64
abbrev p_L_told : List Str := ["line", "wide", "lasts", "named"]
abbrev a_L_told : List (Nat × List Str × List Nat) := []
abbrev c_L_told (r : Runs) : PD.Callee := ⟨p_L_told, r.ok "_law_told", r.ex "_law_told", a_L_told⟩
abbrev s_L_is_row : Stmt := topS 65
abbrev p_L_is_row : List Str := ["told", "full", "wide"]
abbrev a_L_is_row : List (Nat × List Str × List Nat) := []
abbrev c_L_is_row (r : Runs) : PD.Callee := ⟨p_L_is_row, r.ok "_law_is_row", r.ex "_law_is_row", a_L_is_row⟩
abbrev s_L_right : Stmt := topS 66
abbrev p_L_right : List Str := ["cask"]
abbrev a_L_right : List (Nat × List Str × List Nat) := []
abbrev c_L_right (r : Runs) : PD.Callee := ⟨p_L_right, r.ok "_law_right", r.ex "_law_right", a_L_right⟩
abbrev s_law : Stmt := topS 67
abbrev p_law : List Str := ["script"]
abbrev a_law : List (Nat × List Str × List Nat) := []
abbrev c_law (r : Runs) : PD.Callee := ⟨p_law, r.ok "law", r.ex "law", a_law⟩
def b_is_whole (r : Runs) : CS := (seqS (retS false (andE (isiE "int" (varE 0)) (notE (isiE "bool" (varE 0))))) nilS)
abbrev N_is_whole : List Str := ["value"]
abbrev i_is_whole : Info := ⟨N_is_whole, p_is_whole, a_is_whole, false, [], [], false, b_is_whole⟩
def b_are_wholes (r : Runs) : CS := (seqS (retS false (andE (isiE "tuple" (varE 0)) (andE (binE (pf2 eqP) (appE (pfN lenP) (consL (varE 0) nilL)) (varE 1)) (binE (pf2 eqP) (lcE [2] false (seqI (frzE (varE 0))) (nameG 2) (notB (valB (appE (callF (c_is_whole r)) (consL (varE 2) nilL)))) (varE 2)) (appE lstF nilL))))) nilS)
abbrev N_are_wholes : List Str := ["value", "many", "each"]
abbrev i_are_wholes : Info := ⟨N_are_wholes, p_are_wholes, a_are_wholes, false, [], [], false, b_are_wholes⟩
def b_common_part (r : Runs) : CS := (seqS (asgS (constE (.int 0)) (nameG 1)) (seqS (forS (seqI (frzE (varE 0))) (nameG 2) (seqS (asgS (appE (pfN gcdP) (consL (varE 1) (consL (varE 2) nilL))) (nameG 1)) nilS)) (seqS (retS false (varE 1)) nilS)))
abbrev N_common_part : List Str := ["numbers", "found", "number"]
abbrev i_common_part : Info := ⟨N_common_part, p_common_part, a_common_part, false, [], [], false, b_common_part⟩
def b_lowest (r : Runs) : CS := (seqS (asgS (appE (callF (c_common_part r)) (consL (varE 0) nilL)) (nameG 1)) (seqS (retS false (appE (pfN tupleP) (consL (lcE [2] false (seqI (frzE (varE 0))) (nameG 2) yesB (binE (pf2 divP) (varE 2) (varE 1))) nilL))) nilS))
abbrev N_lowest : List Str := ["numbers", "part", "number"]
abbrev i_lowest : Info := ⟨N_lowest, p_lowest, a_lowest, false, [], [], false, b_lowest⟩
def b_lowest_over (r : Runs) : CS := (seqS (asgS (ifE (valB (binE (pf2 gtP) (varE 1) (constE (.int 0)))) (constE (.int 1)) (unE (pf1 negP) (constE (.int 1)))) (nameG 2)) (seqS (retS false (appE (callF (c_lowest r)) (consL (binE (pf2 addP) (lcE [3] false (seqI (frzE (varE 0))) (nameG 3) yesB (binE (pf2 mulP) (varE 2) (varE 3))) (appE lstF (consL (binE (pf2 mulP) (varE 2) (varE 1)) nilL))) nilL))) nilS))
abbrev N_lowest_over : List Str := ["numbers", "below", "factor", "number"]
abbrev i_lowest_over : Info := ⟨N_lowest_over, p_lowest_over, a_lowest_over, false, [], [], false, b_lowest_over⟩
def b_ratio (r : Runs) : CS := (seqS (retS false (appE (callF (c_lowest_over r)) (consL (appE lstF (consL (frzE (varE 0)) nilL)) (consL (varE 1) nilL)))) nilS)
abbrev N_ratio : List Str := ["top", "below"]
abbrev i_ratio : Info := ⟨N_ratio, p_ratio, a_ratio, false, [], [], false, b_ratio⟩
def b_plus (r : Runs) : CS := (seqS (retS false (appE (callF (c_ratio r)) (consL (binE (pf2 addP) (binE (pf2 mulP) (binE (pf2 ixP) (varE 0) (constE (.int 0))) (binE (pf2 ixP) (varE 1) (constE (.int 1)))) (binE (pf2 mulP) (binE (pf2 ixP) (varE 1) (constE (.int 0))) (binE (pf2 ixP) (varE 0) (constE (.int 1))))) (consL (binE (pf2 mulP) (binE (pf2 ixP) (varE 0) (constE (.int 1))) (binE (pf2 ixP) (varE 1) (constE (.int 1)))) nilL)))) nilS)
abbrev N_plus : List Str := ["one", "other"]
abbrev i_plus : Info := ⟨N_plus, p_plus, a_plus, false, [], [], false, b_plus⟩
def b_minus (r : Runs) : CS := (seqS (retS false (appE (callF (c_ratio r)) (consL (binE (pf2 subP) (binE (pf2 mulP) (binE (pf2 ixP) (varE 0) (constE (.int 0))) (binE (pf2 ixP) (varE 1) (constE (.int 1)))) (binE (pf2 mulP) (binE (pf2 ixP) (varE 1) (constE (.int 0))) (binE (pf2 ixP) (varE 0) (constE (.int 1))))) (consL (binE (pf2 mulP) (binE (pf2 ixP) (varE 0) (constE (.int 1))) (binE (pf2 ixP) (varE 1) (constE (.int 1)))) nilL)))) nilS)
abbrev N_minus : List Str := ["one", "other"]
abbrev i_minus : Info := ⟨N_minus, p_minus, a_minus, false, [], [], false, b_minus⟩
def b_times (r : Runs) : CS := (seqS (retS false (appE (callF (c_ratio r)) (consL (binE (pf2 mulP) (binE (pf2 ixP) (varE 0) (constE (.int 0))) (binE (pf2 ixP) (varE 1) (constE (.int 0)))) (consL (binE (pf2 mulP) (binE (pf2 ixP) (varE 0) (constE (.int 1))) (binE (pf2 ixP) (varE 1) (constE (.int 1)))) nilL)))) nilS)
abbrev N_times : List Str := ["one", "other"]
abbrev i_times : Info := ⟨N_times, p_times, a_times, false, [], [], false, b_times⟩
def b_divided (r : Runs) : CS := (seqS (retS false (appE (callF (c_ratio r)) (consL (binE (pf2 mulP) (binE (pf2 ixP) (varE 0) (constE (.int 0))) (binE (pf2 ixP) (varE 1) (constE (.int 1)))) (consL (binE (pf2 mulP) (binE (pf2 ixP) (varE 0) (constE (.int 1))) (binE (pf2 ixP) (varE 1) (constE (.int 0)))) nilL)))) nilS)
abbrev N_divided : List Str := ["one", "other"]
abbrev i_divided : Info := ⟨N_divided, p_divided, a_divided, false, [], [], false, b_divided⟩
def b_is_below (r : Runs) : CS := (seqS (retS false (binE (pf2 ltP) (binE (pf2 mulP) (binE (pf2 ixP) (varE 0) (constE (.int 0))) (binE (pf2 ixP) (varE 1) (constE (.int 1)))) (binE (pf2 mulP) (binE (pf2 ixP) (varE 1) (constE (.int 0))) (binE (pf2 ixP) (varE 0) (constE (.int 1)))))) nilS)
abbrev N_is_below : List Str := ["one", "other"]
abbrev i_is_below : Info := ⟨N_is_below, p_is_below, a_is_below, false, [], [], false, b_is_below⟩
def b_is_fraction (r : Runs) : CS := (seqS (retS false (andE (appE (callF (c_are_wholes r)) (consL (varE 0) (consL (constE (.int 2)) nilL))) (andE (binE (pf2 gtP) (binE (pf2 ixP) (varE 0) (constE (.int 1))) (constE (.int 0))) (binE (pf2 eqP) (appE (pfN gcdP) (consL (binE (pf2 ixP) (varE 0) (constE (.int 0))) (consL (binE (pf2 ixP) (varE 0) (constE (.int 1))) nilL))) (constE (.int 1)))))) nilS)
abbrev N_is_fraction : List Str := ["value"]
abbrev i_is_fraction : Info := ⟨N_is_fraction, p_is_fraction, a_is_fraction, false, [], [], false, b_is_fraction⟩
def b_is_amount (r : Runs) : CS := (seqS (retS false (andE (appE (callF (c_is_fraction r)) (consL (varE 0) nilL)) (binE (pf2 gtP) (binE (pf2 ixP) (varE 0) (constE (.int 0))) (constE (.int 0))))) nilS)
abbrev N_is_amount : List Str := ["value"]
abbrev i_is_amount : Info := ⟨N_is_amount, p_is_amount, a_is_amount, false, [], [], false, b_is_amount⟩
def b_are_fractions (r : Runs) : CS := (seqS (retS false (andE (isiE "tuple" (varE 0)) (andE (binE (pf2 eqP) (appE (pfN lenP) (consL (varE 0) nilL)) (varE 1)) (binE (pf2 eqP) (lcE [2] false (seqI (frzE (varE 0))) (nameG 2) (notB (valB (appE (callF (c_is_fraction r)) (consL (varE 2) nilL)))) (varE 2)) (appE lstF nilL))))) nilS)
abbrev N_are_fractions : List Str := ["value", "many", "each"]
abbrev i_are_fractions : Info := ⟨N_are_fractions, p_are_fractions, a_are_fractions, false, [], [], false, b_are_fractions⟩
def b_check_amount (r : Runs) : CS := (seqS (ifS (notB (valB (appE (callF (c_is_amount r)) (consL (varE 0) nilL)))) (seqS stuckS nilS) nilS) nilS)
abbrev N_check_amount : List Str := ["value"]
abbrev i_check_amount : Info := ⟨N_check_amount, p_check_amount, a_check_amount, false, [], [], false, b_check_amount⟩
def b_slope_of (r : Runs) : CS := (seqS (retS false (appE (callF (c_divided r)) (consL (appE (callF (c_minus r)) (consL (binE (pf2 ixP) (varE 1) (constE (.int 1))) (consL (binE (pf2 ixP) (varE 0) (constE (.int 1))) nilL))) (consL (appE (callF (c_minus r)) (consL (binE (pf2 ixP) (varE 1) (constE (.int 0))) (consL (binE (pf2 ixP) (varE 0) (constE (.int 0))) nilL))) nilL)))) nilS)
abbrev N_slope_of : List Str := ["corner", "other"]
abbrev i_slope_of : Info := ⟨N_slope_of, p_slope_of, a_slope_of, false, [], [], false, b_slope_of⟩
def b_kind_speeds (r : Runs) : CS := (seqS (retS false (appE (pfN tupleP) (consL (lcE [1, 2] false (zipI (varE 0) (sliceE (varE 0) (someO (constE (.int 1))) noO)) (tupG 2 (consG (nameG 1) (consG (nameG 2) nilG))) yesB (appE (callF (c_slope_of r)) (consL (varE 1) (consL (varE 2) nilL)))) nilL))) nilS)
abbrev N_kind_speeds : List Str := ["kind", "corner", "other"]
abbrev i_kind_speeds : Info := ⟨N_kind_speeds, p_kind_speeds, a_kind_speeds, false, [], [], false, b_kind_speeds⟩
def b_is_kind (r : Runs) : CS := (seqS (ifS (orB (notB (valB (isiE "tuple" (varE 0)))) (notB (valB (chE (pf2 leP) (pf2 leP) (constE (.int 3)) (appE (pfN lenP) (consL (varE 0) nilL)) (constE (.int 12)))))) (seqS (retS false (constE (.bool false))) nilS) nilS) (seqS (ifS (valB (binE (pf2 neP) (lcE [2] false (seqI (frzE (varE 0))) (nameG 2) (notB (valB (appE (callF (c_is_corner r)) (consL (varE 2) nilL)))) (varE 2)) (appE lstF nilL))) (seqS (retS false (constE (.bool false))) nilS) nilS) (seqS (ifS (orB (valB (binE (pf2 neP) (binE (pf2 ixP) (varE 0) (constE (.int 0))) (appE tupF (consL (frzE (constE (.tuple [(.int 0), (.int 1)]))) (consL (frzE (constE (.tuple [(.int 0), (.int 1)]))) nilL))))) (valB (binE (pf2 neP) (binE (pf2 ixP) (binE (pf2 ixP) (varE 0) (unE (pf1 negP) (constE (.int 1)))) (constE (.int 1))) (constE (.tuple [(.int 0), (.int 1)]))))) (seqS (retS false (constE (.bool false))) nilS) nilS) (seqS (ifS (valB (binE (pf2 neP) (lcE [2] false (seqI (sliceE (varE 0) (someO (constE (.int 1))) (someO (unE (pf1 negP) (constE (.int 1)))))) (nameG 2) (valB (binE (pf2 leP) (binE (pf2 ixP) (binE (pf2 ixP) (varE 2) (constE (.int 1))) (constE (.int 0))) (constE (.int 0)))) (varE 2)) (appE lstF nilL))) (seqS (retS false (constE (.bool false))) nilS) nilS) (seqS (ifS (valB (binE (pf2 neP) (lcE [2, 3] false (zipI (varE 0) (sliceE (varE 0) (someO (constE (.int 1))) noO)) (tupG 2 (consG (nameG 2) (consG (nameG 3) nilG))) (notB (valB (appE (callF (c_is_below r)) (consL (binE (pf2 ixP) (varE 2) (constE (.int 0))) (consL (binE (pf2 ixP) (varE 3) (constE (.int 0))) nilL))))) (constE (.int 1))) (appE lstF nilL))) (seqS (retS false (constE (.bool false))) nilS) nilS) (seqS (asgS (appE (callF (c_kind_speeds r)) (consL (varE 0) nilL)) (nameG 1)) (seqS (retS false (binE (pf2 eqP) (lcE [4, 3] false (zipI (varE 1) (sliceE (varE 1) (someO (constE (.int 1))) noO)) (tupG 2 (consG (nameG 4) (consG (nameG 3) nilG))) (notB (valB (appE (callF (c_is_below r)) (consL (varE 3) (consL (varE 4) nilL))))) (constE (.int 1))) (appE lstF nilL))) nilS)))))))
abbrev N_is_kind : List Str := ["value", "speeds", "corner", "other", "speed"]
abbrev i_is_kind : Info := ⟨N_is_kind, p_is_kind, a_is_kind, false, [], [], false, b_is_kind⟩
def b_is_corner (r : Runs) : CS := (seqS (retS false (appE (callF (c_are_fractions r)) (consL (varE 0) (consL (constE (.int 2)) nilL)))) nilS)
abbrev N_is_corner : List Str := ["value"]
abbrev i_is_corner : Info := ⟨N_is_corner, p_is_corner, a_is_corner, false, [], [], false, b_is_corner⟩
def b_check_kind (r : Runs) : CS := (seqS (ifS (notB (valB (appE (callF (c_is_kind r)) (consL (varE 0) nilL)))) (seqS stuckS nilS) nilS) nilS)
abbrev N_check_kind : List Str := ["value"]
abbrev i_check_kind : Info := ⟨N_check_kind, p_check_kind, a_check_kind, false, [], [], false, b_check_kind⟩
def b_check_steps (r : Runs) : CS := (seqS (exprS (appE (callF (c_check_kind r)) (consL (varE 0) nilL))) (seqS (exprS (appE (callF (c_check_amount r)) (consL (varE 1) nilL))) (seqS (exprS (appE (callF (c_check_amount r)) (consL (varE 2) nilL))) nilS)))
abbrev N_check_steps : List Str := ["kind", "dx", "dt"]
abbrev i_check_steps : Info := ⟨N_check_steps, p_check_steps, a_check_steps, false, [], [], false, b_check_steps⟩
def b_places_gone (r : Runs) : CS := (seqS (retS false (lcE [3] false (seqI (appE (callF (c_kind_speeds r)) (consL (varE 0) nilL))) (nameG 3) yesB (appE (callF (c_divided r)) (consL (appE (callF (c_times r)) (consL (varE 3) (consL (varE 2) nilL))) (consL (varE 1) nilL))))) nilS)
abbrev N_places_gone : List Str := ["kind", "dx", "dt", "speed"]
abbrev i_places_gone : Info := ⟨N_places_gone, p_places_gone, a_places_gone, false, [], [], false, b_places_gone⟩
def b_margins (r : Runs) : CS := (seqS (asgS (appE (callF (c_places_gone r)) (consL (varE 0) (consL (varE 1) (consL (varE 2) nilL)))) (nameG 3)) (seqS (retS false (appE tupF (consL (unE (pf1 negP) (binE (pf2 divP) (unE (pf1 negP) (binE (pf2 ixP) (binE (pf2 ixP) (varE 3) (constE (.int 0))) (constE (.int 0)))) (binE (pf2 ixP) (binE (pf2 ixP) (varE 3) (constE (.int 0))) (constE (.int 1))))) (consL (unE (pf1 negP) (binE (pf2 divP) (binE (pf2 ixP) (binE (pf2 ixP) (varE 3) (unE (pf1 negP) (constE (.int 1)))) (constE (.int 0))) (binE (pf2 ixP) (binE (pf2 ixP) (varE 3) (unE (pf1 negP) (constE (.int 1)))) (constE (.int 1))))) nilL)))) nilS))
abbrev N_margins : List Str := ["kind", "dx", "dt", "parts"]
abbrev i_margins : Info := ⟨N_margins, p_margins, a_margins, false, [], [], false, b_margins⟩
def b_even_row (r : Runs) : CS := (seqS (retS false (appE (pfN tupleP) (consL (lcE [3] false (range1I (varE 2)) (nameG 3) yesB (appE (callF (c_minus r)) (consL (constE (.tuple [(.int 0), (.int 1)])) (consL (appE (callF (c_times r)) (consL (appE tupF (consL (frzE (varE 3)) (consL (constE (.int 1)) nilL))) (consL (appE (callF (c_times r)) (consL (varE 1) (consL (varE 0) nilL))) nilL))) nilL)))) nilL))) nilS)
abbrev N_even_row : List Str := ["dx", "density", "many", "at"]
abbrev i_even_row : Info := ⟨N_even_row, p_even_row, a_even_row, false, [], [], false, b_even_row⟩
def b_unlike_by (r : Runs) : CS := (seqS (asgS (appE (callF (c_margins r)) (consL (varE 0) (consL (varE 1) (consL (varE 2) nilL)))) (tupG 2 (consG (nameG 3) (consG (nameG 4) nilG)))) (seqS (forS (zip3I (varE 0) (sliceE (varE 0) (someO (constE (.int 1))) noO) (appE (callF (c_places_gone r)) (consL (varE 0) (consL (varE 1) (consL (varE 2) nilL))))) (tupG 3 (consG (nameG 5) (consG (nameG 6) (consG (nameG 7) nilG)))) (seqS (ifS (valB (binE (pf2 neP) (binE (pf2 ixP) (varE 7) (constE (.int 1))) (constE (.int 1)))) (seqS (parS 8 9 (consL (appE (callF (c_times r)) (consL (constE (.tuple [(.int 1), (.int 2)])) (consL (appE (callF (c_plus r)) (consL (binE (pf2 ixP) (varE 5) (constE (.int 0))) (consL (binE (pf2 ixP) (varE 6) (constE (.int 0))) nilL))) nilL))) (consL (binE (pf2 addP) (binE (pf2 addP) (varE 3) (varE 4)) (constE (.int 1))) nilL))) (seqS (retS false (appE tupF (consL (ifE (valB (binE (pf2 leP) (varE 9) (constE (.int 40)))) (appE (callF (c_even_row r)) (consL (varE 1) (consL (varE 8) (consL (varE 9) nilL)))) (constE .none)) (consL (frzE (varE 9)) nilL)))) nilS)) nilS) nilS)) (seqS (retS false (appE tupF (consL (constE .none) (consL (constE (.int 0)) nilL)))) nilS)))
abbrev N_unlike_by : List Str := ["kind", "dx", "dt", "ahead", "behind", "corner", "other", "part", "density", "many"]
abbrev i_unlike_by : Info := ⟨N_unlike_by, p_unlike_by, a_unlike_by, false, [], [], false, b_unlike_by⟩
def b_row_or_too_many (r : Runs) : CS := (seqS (asgS (appE (callF (c_unlike_by r)) (consL (varE 0) (consL (varE 1) (consL (varE 2) nilL)))) (tupG 2 (consG (nameG 3) (consG (nameG 4) nilG)))) (seqS (ifS (valB (binE (pf2 gtP) (varE 4) (constE (.int 40)))) (seqS (raiseS "TooMany" ["given"] (consL (varE 4) nilL)) nilS) nilS) (seqS (retS false (varE 3)) nilS)))
abbrev N_row_or_too_many : List Str := ["kind", "dx", "dt", "row", "many"]
abbrev i_row_or_too_many : Info := ⟨N_row_or_too_many, p_row_or_too_many, a_row_or_too_many, false, [], [], true, b_row_or_too_many⟩
def b_unlike_row (r : Runs) : CS := (seqS (exprS (appE (callF (c_check_steps r)) (consL (varE 0) (consL (varE 1) (consL (varE 2) nilL))))) (seqS (retX (callX (c_row_or_too_many r) (consL (varE 0) (consL (varE 1) (consL (varE 2) nilL))))) nilS))
abbrev N_unlike_row : List Str := ["kind", "dx", "dt"]
abbrev i_unlike_row : Info := ⟨N_unlike_row, p_unlike_row, a_unlike_row, false, [], [("row_or_too_many" : Str)], false, b_unlike_row⟩
def b_L_cask (r : Runs) : CS := (seqS (asgS (ifE (valB (binE (pf2 ltP) (varE 1) (appE (pfN lenP) (consL (varE 0) nilL)))) (appE (pfN intP) (consL (binE (pf2 ixP) (varE 0) (varE 1)) nilL)) (binE (pf2 addP) (binE (pf2 mulP) (constE (.int 31)) (varE 1)) (constE (.int 7)))) (nameG 2)) (seqS (asgS (binE (pf2 addP) (constE (.int 77017)) (binE (pf2 mulP) (constE (.int 6007)) (varE 1))) (nameG 3)) (seqS (forS (seqI (sliceE (varE 0) noO (someO (constE (.int 9))))) (nameG 4) (seqS (asgS (binE (pf2 modP) (appE (pfN intP) (consL (binE (pf2 addP) (binE (pf2 addP) (binE (pf2 mulP) (varE 3) (constE (.int 60013))) (binE (pf2 modP) (appE (pfN intP) (consL (varE 4) nilL)) (constE (.int 2147483587)))) (constE (.int 19))) nilL)) (constE (.int 2147483629))) (nameG 3)) nilS)) (seqS (asgS (binE (pf2 modP) (appE (pfN intP) (consL (binE (pf2 addP) (binE (pf2 mulP) (varE 3) (constE (.int 41))) (binE (pf2 mulP) (binE (pf2 modP) (appE (pfN intP) (consL (varE 2) nilL)) (constE (.int 2147483587))) (constE (.int 20011)))) nilL)) (constE (.int 2147483629))) (nameG 5)) (seqS (retS true (appE lstM (consL (ifE (orB (valB (binE (pf2 ltP) (varE 2) (constE (.int 0)))) (valB (binE (pf2 geP) (varE 2) (binE (pf2 powP) (constE (.int 10)) (constE (.int 16)))))) (appE (pfN absP) (consL (varE 2) nilL)) (constE (.int 0))) (consL (varE 5) (consL (constE (.int 0)) nilL))))) nilS)))))
abbrev N_L_cask : List Str := ["script", "turn", "own", "mixed", "cell", "seed"]
abbrev i_L_cask : Info := ⟨N_L_cask, p_L_cask, a_L_cask, true, [⟨118, 11, 118, 67⟩], [], false, b_L_cask⟩
def b_L_tap (r : Runs) : CS := (seqS (ifS (valB (binE (pf2 gtP) (binE (pf2 ixP) (varE 0) (constE (.int 0))) (constE (.int 0)))) (seqS (asgS (appE (pfN divmodP) (consL (binE (pf2 ixP) (varE 0) (constE (.int 0))) (consL (varE 1) nilL))) (tupG 2 (consG (subG (varE 0) (constE (.int 0))) (consG (nameG 3) nilG)))) (seqS (retS false (varE 3)) nilS)) nilS) (seqS (asgS (binE (pf2 addP) (binE (pf2 ixP) (varE 0) (constE (.int 2))) (constE (.int 1))) (subG (varE 0) (constE (.int 2)))) (seqS (asgS (binE (pf2 addP) (binE (pf2 modP) (appE (pfN intP) (consL (binE (pf2 ixP) (varE 0) (constE (.int 1))) nilL)) (constE (.int 30011))) (constE (.int 20011))) (nameG 2)) (seqS (asgS (binE (pf2 modP) (appE (pfN intP) (consL (binE (pf2 addP) (binE (pf2 addP) (binE (pf2 mulP) (binE (pf2 ixP) (varE 0) (constE (.int 1))) (varE 2)) (binE (pf2 mulP) (constE (.int 50021)) (binE (pf2 ixP) (varE 0) (constE (.int 2))))) (constE (.int 3))) nilL)) (constE (.int 2147483629))) (subG (varE 0) (constE (.int 1)))) (seqS (retS false (binE (pf2 modP) (appE (pfN intP) (consL (binE (pf2 divP) (binE (pf2 ixP) (varE 0) (constE (.int 1))) (constE (.int 97))) nilL)) (varE 1))) nilS)))))
abbrev N_L_tap : List Str := ["cask", "top", "step", "digit"]
abbrev i_L_tap : Info := ⟨N_L_tap, p_L_tap, a_L_tap, false, [], [], false, b_L_tap⟩
def b_L_of (r : Runs) : CS := (seqS (retS false (binE (pf2 ixP) (varE 1) (appE (callF (c_L_tap r)) (consL (varE 0) (consL (appE (pfN lenP) (consL (varE 1) nilL)) nilL))))) nilS)
abbrev N_L_of : List Str := ["cask", "some"]
abbrev i_L_of : Info := ⟨N_L_of, p_L_of, a_L_of, false, [], [], false, b_L_of⟩
def b_L_cut (r : Runs) : CS := (seqS (ifS (valB (binE (pf2 ltP) (varE 1) (constE (.int 0)))) (seqS (parS 0 1 (consL (binE (pf2 subP) (constE (.int 0)) (varE 0)) (consL (binE (pf2 subP) (constE (.int 0)) (varE 1)) nilL))) nilS) nilS) (seqS (parS 2 3 (consL (appE (pfN absP) (consL (varE 0) nilL)) (consL (varE 1) nilL))) (seqS (whileS (valB (binE (pf2 gtP) (varE 3) (constE (.int 0)))) (seqS (parS 2 3 (consL (varE 3) (consL (binE (pf2 modP) (appE (pfN intP) (consL (varE 2) nilL)) (varE 3)) nilL))) nilS)) (seqS (retS false (appE tupF (consL (binE (pf2 divP) (varE 0) (varE 2)) (consL (binE (pf2 divP) (varE 1) (varE 2)) nilL)))) nilS))))
abbrev N_L_cut : List Str := ["up", "low", "one", "two"]
abbrev i_L_cut : Info := ⟨N_L_cut, p_L_cut, a_L_cut, false, [], [], false, b_L_cut⟩
def b_L_even (r : Runs) : CS := (seqS (retS false (appE (callF (c_L_cut r)) (consL (binE (pf2 ixP) (varE 0) (constE (.int 0))) (consL (binE (pf2 ixP) (varE 0) (constE (.int 1))) nilL)))) nilS)
abbrev N_L_even : List Str := ["a"]
abbrev i_L_even : Info := ⟨N_L_even, p_L_even, a_L_even, false, [], [], false, b_L_even⟩
def b_L_sum (r : Runs) : CS := (seqS (retS false (appE tupF (consL (binE (pf2 addP) (binE (pf2 mulP) (binE (pf2 ixP) (varE 0) (constE (.int 0))) (binE (pf2 ixP) (varE 1) (constE (.int 1)))) (binE (pf2 mulP) (binE (pf2 ixP) (varE 1) (constE (.int 0))) (binE (pf2 ixP) (varE 0) (constE (.int 1))))) (consL (binE (pf2 mulP) (binE (pf2 ixP) (varE 0) (constE (.int 1))) (binE (pf2 ixP) (varE 1) (constE (.int 1)))) nilL)))) nilS)
abbrev N_L_sum : List Str := ["a", "b"]
abbrev i_L_sum : Info := ⟨N_L_sum, p_L_sum, a_L_sum, false, [], [], false, b_L_sum⟩
def b_L_gap (r : Runs) : CS := (seqS (retS false (appE tupF (consL (binE (pf2 subP) (binE (pf2 mulP) (binE (pf2 ixP) (varE 0) (constE (.int 0))) (binE (pf2 ixP) (varE 1) (constE (.int 1)))) (binE (pf2 mulP) (binE (pf2 ixP) (varE 1) (constE (.int 0))) (binE (pf2 ixP) (varE 0) (constE (.int 1))))) (consL (binE (pf2 mulP) (binE (pf2 ixP) (varE 0) (constE (.int 1))) (binE (pf2 ixP) (varE 1) (constE (.int 1)))) nilL)))) nilS)
abbrev N_L_gap : List Str := ["a", "b"]
abbrev i_L_gap : Info := ⟨N_L_gap, p_L_gap, a_L_gap, false, [], [], false, b_L_gap⟩
def b_L_by (r : Runs) : CS := (seqS (retS false (appE tupF (consL (binE (pf2 mulP) (binE (pf2 ixP) (varE 0) (constE (.int 0))) (binE (pf2 ixP) (varE 1) (constE (.int 0)))) (consL (binE (pf2 mulP) (binE (pf2 ixP) (varE 0) (constE (.int 1))) (binE (pf2 ixP) (varE 1) (constE (.int 1)))) nilL)))) nilS)
abbrev N_L_by : List Str := ["a", "b"]
abbrev i_L_by : Info := ⟨N_L_by, p_L_by, a_L_by, false, [], [], false, b_L_by⟩
def b_L_per (r : Runs) : CS := (seqS (retS false (ifE (valB (binE (pf2 gtP) (binE (pf2 ixP) (varE 1) (constE (.int 0))) (constE (.int 0)))) (appE tupF (consL (binE (pf2 mulP) (binE (pf2 ixP) (varE 0) (constE (.int 0))) (binE (pf2 ixP) (varE 1) (constE (.int 1)))) (consL (binE (pf2 mulP) (binE (pf2 ixP) (varE 0) (constE (.int 1))) (binE (pf2 ixP) (varE 1) (constE (.int 0)))) nilL))) (appE tupF (consL (binE (pf2 subP) (constE (.int 0)) (binE (pf2 mulP) (binE (pf2 ixP) (varE 0) (constE (.int 0))) (binE (pf2 ixP) (varE 1) (constE (.int 1))))) (consL (binE (pf2 subP) (constE (.int 0)) (binE (pf2 mulP) (binE (pf2 ixP) (varE 0) (constE (.int 1))) (binE (pf2 ixP) (varE 1) (constE (.int 0))))) nilL))))) nilS)
abbrev N_L_per : List Str := ["a", "b"]
abbrev i_L_per : Info := ⟨N_L_per, p_L_per, a_L_per, false, [], [], false, b_L_per⟩
def b_L_kind (r : Runs) : CS := (seqS (par3S 4 5 6 (consL (appE tupF (consL (constE (.int 0)) (consL (constE (.int 1)) nilL))) (consL (appE tupF (consL (constE (.int 0)) (consL (constE (.int 1)) nilL))) (consL (appE (callF (c_L_cut r)) (consL (binE (pf2 addP) (constE (.int 1)) (appE (callF (c_L_tap r)) (consL (varE 0) (consL (constE (.int 4)) nilL)))) (consL (binE (pf2 addP) (constE (.int 1)) (appE (callF (c_L_tap r)) (consL (varE 0) (consL (constE (.int 2)) nilL)))) nilL))) nilL)))) (seqS (asgS (appE lstM (consL (appE tupF (consL (frzE (varE 4)) (consL (frzE (varE 5)) nilL))) nilL)) (nameG 1)) (seqS (forS (range1I (appE (callF (c_L_of r)) (consL (varE 0) (consL (appE lstF (consL (constE (.int 1)) (consL (constE (.int 2)) (consL (constE (.int 1)) (consL (constE (.int 2)) (consL (constE (.int 3)) nilL)))))) nilL)))) (nameG 2) (seqS (asgS (appE (callF (c_L_cut r)) (consL (binE (pf2 addP) (constE (.int 1)) (appE (callF (c_L_tap r)) (consL (varE 0) (consL (constE (.int 3)) nilL)))) (consL (binE (pf2 addP) (constE (.int 1)) (appE (callF (c_L_tap r)) (consL (varE 0) (consL (constE (.int 3)) nilL)))) nilL))) (nameG 7)) (seqS (asgS (appE (callF (c_L_sum r)) (consL (varE 5) (consL (appE (callF (c_L_by r)) (consL (varE 6) (consL (varE 7) nilL))) nilL))) (nameG 8)) (seqS (ifS (valB (binE (pf2 leP) (binE (pf2 ixP) (varE 8) (constE (.int 0))) (constE (.int 0)))) (seqS brkS nilS) nilS) (seqS (parS 4 5 (consL (appE (callF (c_L_even r)) (consL (appE (callF (c_L_sum r)) (consL (varE 4) (consL (varE 7) nilL))) nilL)) (consL (appE (callF (c_L_even r)) (consL (varE 8) nilL)) nilL))) (seqS (exprS (appendE (varE 1) (appE tupF (consL (frzE (varE 4)) (consL (frzE (varE 5)) nilL))))) (seqS (asgS (appE (callF (c_L_even r)) (consL (appE (callF (c_L_gap r)) (consL (varE 6) (consL (appE (callF (c_L_cut r)) (consL (binE (pf2 addP) (constE (.int 1)) (appE (callF (c_L_tap r)) (consL (varE 0) (consL (constE (.int 3)) nilL)))) (consL (binE (pf2 addP) (constE (.int 1)) (appE (callF (c_L_tap r)) (consL (varE 0) (consL (constE (.int 2)) nilL)))) nilL))) nilL))) nilL)) (nameG 6)) nilS))))))) (seqS (ifS (valB (binE (pf2 geP) (binE (pf2 ixP) (varE 6) (constE (.int 0))) (constE (.int 0)))) (seqS (asgS (appE (callF (c_L_cut r)) (consL (binE (pf2 subP) (binE (pf2 subP) (constE (.int 0)) (constE (.int 1))) (appE (callF (c_L_tap r)) (consL (varE 0) (consL (constE (.int 2)) nilL)))) (consL (binE (pf2 addP) (constE (.int 1)) (appE (callF (c_L_tap r)) (consL (varE 0) (consL (constE (.int 2)) nilL)))) nilL))) (nameG 6)) nilS) nilS) (seqS (asgS (appE (callF (c_L_even r)) (consL (appE (callF (c_L_sum r)) (consL (varE 4) (consL (appE (callF (c_L_per r)) (consL (varE 5) (consL (appE tupF (consL (binE (pf2 subP) (constE (.int 0)) (binE (pf2 ixP) (varE 6) (constE (.int 0)))) (consL (binE (pf2 ixP) (varE 6) (constE (.int 1))) nilL))) nilL))) nilL))) nilL)) (nameG 3)) (seqS (retS false (appE (pfN tupleP) (consL (binE (pf2 addP) (varE 1) (appE lstF (consL (appE tupF (consL (frzE (varE 3)) (consL (appE tupF (consL (constE (.int 0)) (consL (constE (.int 1)) nilL))) nilL))) nilL))) nilL))) nilS))))))
abbrev N_L_kind : List Str := ["cask", "found", "turn", "full", "k", "q", "slope", "wide", "more"]
abbrev i_L_kind : Info := ⟨N_L_kind, p_L_kind, a_L_kind, false, [⟨148, 12, 148, 20⟩], [], false, b_L_kind⟩
def b_L_speeds (r : Runs) : CS := (seqS (asgS (appE lstM nilL) (nameG 1)) (seqS (forS (range1I (binE (pf2 subP) (appE (pfN lenP) (consL (varE 0) nilL)) (constE (.int 1)))) (nameG 2) (seqS (asgS (appE tupF (consL (binE (pf2 ixP) (varE 0) (varE 2)) (consL (binE (pf2 ixP) (varE 0) (binE (pf2 addP) (varE 2) (constE (.int 1)))) nilL))) (tupG 2 (consG (tupG 2 (consG (nameG 3) (consG (nameG 4) nilG))) (consG (tupG 2 (consG (nameG 5) (consG (nameG 6) nilG))) nilG)))) (seqS (exprS (appendE (varE 1) (appE (callF (c_L_even r)) (consL (appE (callF (c_L_per r)) (consL (appE (callF (c_L_gap r)) (consL (varE 6) (consL (varE 4) nilL))) (consL (appE (callF (c_L_gap r)) (consL (varE 5) (consL (varE 3) nilL))) nilL))) nilL)))) nilS))) (seqS (retS false (varE 1)) nilS)))
abbrev N_L_speeds : List Str := ["line", "found", "one", "k", "q", "l", "r"]
abbrev i_L_speeds : Info := ⟨N_L_speeds, p_L_speeds, a_L_speeds, false, [⟨162, 12, 162, 14⟩], [], false, b_L_speeds⟩
def b_L_toll (r : Runs) : CS := (seqS (par3S 3 4 5 (consL (appE tupF (consL (constE (.int 0)) (consL (constE (.int 1)) nilL))) (consL (appE (callF (c_L_by r)) (consL (binE (pf2 ixP) (binE (pf2 ixP) (varE 0) (constE (.int 1))) (constE (.int 0))) (consL (varE 2) nilL))) (consL (appE (callF (c_L_by r)) (consL (binE (pf2 ixP) (binE (pf2 ixP) (varE 0) (constE (.int 1))) (unE (pf1 negP) (constE (.int 1)))) (consL (varE 2) nilL))) nilL)))) (seqS (ifS (orB (valB (binE (pf2 ltP) (binE (pf2 ixP) (varE 2) (constE (.int 0))) (constE (.int 0)))) (orB (valB (binE (pf2 gtP) (binE (pf2 ixP) (appE (callF (c_L_gap r)) (consL (varE 1) (consL (varE 4) nilL))) (constE (.int 0))) (constE (.int 0)))) (valB (binE (pf2 gtP) (binE (pf2 ixP) (appE (callF (c_L_gap r)) (consL (varE 5) (consL (varE 1) nilL))) (constE (.int 0))) (constE (.int 0)))))) (seqS (retS false (constE .none)) nilS) nilS) (seqS (forS (seqI (binE (pf2 ixP) (varE 0) (constE (.int 0)))) (tupG 2 (consG (nameG 6) (consG (nameG 7) nilG))) (seqS (asgS (appE (callF (c_L_gap r)) (consL (appE (callF (c_L_by r)) (consL (varE 7) (consL (varE 2) nilL))) (consL (appE (callF (c_L_by r)) (consL (varE 6) (consL (varE 1) nilL))) nilL))) (nameG 8)) (seqS (ifS (valB (binE (pf2 gtP) (binE (pf2 ixP) (appE (callF (c_L_gap r)) (consL (varE 8) (consL (varE 3) nilL))) (constE (.int 0))) (constE (.int 0)))) (seqS (asgS (varE 8) (nameG 3)) nilS) nilS) nilS))) (seqS (retS false (varE 3)) nilS))))
abbrev N_L_toll : List Str := ["own", "far", "lasts", "best", "first", "last", "k", "q", "some"]
abbrev i_L_toll : Info := ⟨N_L_toll, p_L_toll, a_L_toll, false, [], [], false, b_L_toll⟩
def b_L_along (r : Runs) : CS := (seqS (asgS (binE (pf2 ixP) (binE (pf2 ixP) (varE 0) (constE (.int 0))) (constE (.int 1))) (nameG 2)) (seqS (forS (range1I (binE (pf2 subP) (appE (pfN lenP) (consL (varE 0) nilL)) (constE (.int 1)))) (nameG 3) (seqS (asgS (appE tupF (consL (binE (pf2 ixP) (varE 0) (varE 3)) (consL (binE (pf2 ixP) (varE 0) (binE (pf2 addP) (varE 3) (constE (.int 1)))) nilL))) (tupG 2 (consG (tupG 2 (consG (nameG 5) (consG (nameG 6) nilG))) (consG (tupG 2 (consG (nameG 7) (consG (nameG 8) nilG))) nilG)))) (seqS (ifS (valB (binE (pf2 geP) (binE (pf2 ixP) (appE (callF (c_L_gap r)) (consL (varE 1) (consL (varE 5) nilL))) (constE (.int 0))) (constE (.int 0)))) (seqS (asgS (ifE (valB (binE (pf2 gtP) (binE (pf2 ixP) (appE (callF (c_L_gap r)) (consL (varE 7) (consL (varE 1) nilL))) (constE (.int 0))) (constE (.int 0)))) (appE (callF (c_L_gap r)) (consL (varE 1) (consL (varE 5) nilL))) (appE (callF (c_L_gap r)) (consL (varE 7) (consL (varE 5) nilL)))) (nameG 4)) (seqS (asgS (appE (callF (c_L_sum r)) (consL (varE 6) (consL (appE (callF (c_L_per r)) (consL (appE (callF (c_L_by r)) (consL (appE (callF (c_L_gap r)) (consL (varE 8) (consL (varE 6) nilL))) (consL (varE 4) nilL))) (consL (appE (callF (c_L_gap r)) (consL (varE 7) (consL (varE 5) nilL))) nilL))) nilL))) (nameG 2)) nilS)) nilS) nilS))) (seqS (retS false (varE 2)) nilS)))
abbrev N_L_along : List Str := ["corners", "at", "found", "one", "part", "u", "n", "v", "m"]
abbrev i_L_along : Info := ⟨N_L_along, p_L_along, a_L_along, false, [], [], false, b_L_along⟩
def b_L_least (r : Runs) : CS := (seqS (asgS (constE .none) (nameG 1)) (seqS (forS (seqI (frzE (varE 0))) (tupG 2 (consG (nameG 2) (consG (nameG 3) nilG))) (seqS (ifS (andB (valB (binE isntF (varE 3) (constE .none))) (orB (valB (binE isF (varE 1) (constE .none))) (valB (binE (pf2 ltP) (binE (pf2 ixP) (appE (callF (c_L_gap r)) (consL (appE (callF (c_L_sum r)) (consL (varE 2) (consL (varE 3) nilL))) (consL (varE 1) nilL))) (constE (.int 0))) (constE (.int 0)))))) (seqS (asgS (appE (callF (c_L_sum r)) (consL (varE 2) (consL (varE 3) nilL))) (nameG 1)) nilS) nilS) nilS)) (seqS (retS false (appE (callF (c_L_even r)) (consL (varE 1) nilL))) nilS)))
abbrev N_L_least : List Str := ["some", "best", "n", "cost"]
abbrev i_L_least : Info := ⟨N_L_least, p_L_least, a_L_least, false, [], [], false, b_L_least⟩
def b_L_ceil (r : Runs) : CS := (seqS (retS false (binE (pf2 subP) (constE (.int 0)) (binE (pf2 divP) (binE (pf2 subP) (constE (.int 0)) (binE (pf2 ixP) (varE 0) (constE (.int 0)))) (binE (pf2 ixP) (varE 0) (constE (.int 1)))))) nilS)
abbrev N_L_ceil : List Str := ["a"]
abbrev i_L_ceil : Info := ⟨N_L_ceil, p_L_ceil, a_L_ceil, false, [], [], false, b_L_ceil⟩
def b_L_spots (r : Runs) : CS := (seqS (parS 3 4 (consL (appE (callF (c_L_by r)) (consL (binE (pf2 ixP) (binE (pf2 ixP) (varE 0) (constE (.int 1))) (constE (.int 0))) (consL (varE 1) nilL))) (consL (appE (callF (c_L_sum r)) (consL (appE tupF (consL (binE (pf2 subP) (varE 2) (constE (.int 1))) (consL (constE (.int 1)) nilL))) (consL (appE (callF (c_L_by r)) (consL (binE (pf2 ixP) (binE (pf2 ixP) (varE 0) (constE (.int 1))) (unE (pf1 negP) (constE (.int 1)))) (consL (varE 1) nilL))) nilL))) nilL))) (seqS (retS false (rangeLE (appE (callF (c_L_ceil r)) (consL (varE 3) nilL)) (binE (pf2 addP) (binE (pf2 divP) (binE (pf2 ixP) (varE 4) (constE (.int 0))) (binE (pf2 ixP) (varE 4) (constE (.int 1)))) (constE (.int 1))))) nilS))
abbrev N_L_spots : List Str := ["own", "part", "many", "low", "high"]
abbrev i_L_spots : Info := ⟨N_L_spots, p_L_spots, a_L_spots, false, [], [], false, b_L_spots⟩
def b_L_cells (r : Runs) : CS := (seqS (asgS (appE lstM nilL) (nameG 4)) (seqS (forS (seqI (appE (callF (c_L_spots r)) (consL (varE 0) (consL (appE (callF (c_L_per r)) (consL (varE 2) (consL (varE 1) nilL))) (consL (appE (pfN lenP) (consL (varE 3) nilL)) nilL))))) (nameG 5) (seqS (asgS (lcE [7] false (range1I (appE (pfN lenP) (consL (varE 3) nilL))) (nameG 7) yesB (appE tupF (consL (binE (pf2 ixP) (varE 3) (varE 7)) (consL (appE (callF (c_L_toll r)) (consL (varE 0) (consL (appE (callF (c_L_by r)) (consL (appE tupF (consL (binE (pf2 subP) (varE 5) (varE 7)) (consL (constE (.int 1)) nilL))) (consL (varE 1) nilL))) (consL (varE 2) nilL)))) nilL)))) (nameG 6)) (seqS (exprS (appendE (varE 4) (appE (callF (c_L_least r)) (consL (varE 6) nilL)))) nilS))) (seqS (retS false (appE (pfN tupleP) (consL (varE 4) nilL))) nilS)))
abbrev N_L_cells : List Str := ["own", "wide", "lasts", "heap", "found", "one", "some", "j"]
abbrev i_L_cells : Info := ⟨N_L_cells, p_L_cells, a_L_cells, false, [⟨196, 12, 196, 14⟩], [], false, b_L_cells⟩
def b_L_truth (r : Runs) : CS := (seqS (parS 6 7 (consL (appE lstM nilL) (consL (lcE [12] false (range1I (appE (pfN lenP) (consL (varE 3) nilL))) (nameG 12) yesB (appE tupF (consL (appE (callF (c_L_by r)) (consL (appE tupF (consL (frzE (varE 12)) (consL (constE (.int 1)) nilL))) (consL (varE 1) nilL))) (consL (binE (pf2 ixP) (varE 3) (varE 12)) nilL)))) nilL))) (seqS (forS (seqI (frzE (varE 4))) (nameG 5) (seqS (asgS (appE (callF (c_L_by r)) (consL (appE tupF (consL (frzE (varE 5)) (consL (constE (.int 1)) nilL))) (consL (varE 1) nilL))) (nameG 8)) (seqS (asgS (lcE [13] true (seqI (frzE (varE 7))) (nameG 13) yesB (appE tupF (consL (binE (pf2 ixP) (varE 13) (constE (.int 1))) (consL (appE (callF (c_L_toll r)) (consL (varE 0) (consL (appE (callF (c_L_gap r)) (consL (varE 8) (consL (binE (pf2 ixP) (varE 13) (constE (.int 0))) nilL))) (consL (varE 2) nilL)))) nilL)))) (nameG 9)) (seqS (forS (seqI (binE (pf2 ixP) (varE 0) (constE (.int 1)))) (nameG 10) (seqS (asgS (appE (callF (c_L_gap r)) (consL (varE 8) (consL (appE (callF (c_L_by r)) (consL (varE 10) (consL (varE 2) nilL))) nilL))) (nameG 11)) (seqS (ifS (andB (valB (binE (pf2 geP) (binE (pf2 ixP) (varE 11) (constE (.int 0))) (constE (.int 0)))) (valB (binE (pf2 geP) (binE (pf2 ixP) (appE (callF (c_L_gap r)) (consL (binE (pf2 ixP) (binE (pf2 ixP) (varE 7) (unE (pf1 negP) (constE (.int 1)))) (constE (.int 0))) (consL (varE 11) nilL))) (constE (.int 0))) (constE (.int 0))))) (seqS (exprS (appendE (varE 9) (appE tupF (consL (appE (callF (c_L_along r)) (consL (varE 7) (consL (varE 11) nilL))) (consL (appE (callF (c_L_toll r)) (consL (varE 0) (consL (appE (callF (c_L_by r)) (consL (varE 10) (consL (varE 2) nilL))) (consL (varE 2) nilL)))) nilL))))) nilS) nilS) nilS))) (seqS (exprS (appendE (varE 6) (appE (callF (c_L_least r)) (consL (varE 9) nilL)))) nilS))))) (seqS (retS false (appE (pfN tupleP) (consL (varE 6) nilL))) nilS)))
abbrev N_L_truth : List Str := ["own", "wide", "lasts", "heap", "spots", "one", "found", "corners", "x", "some", "v", "y", "j", "corner"]
abbrev i_L_truth : Info := ⟨N_L_truth, p_L_truth, a_L_truth, false, [⟨202, 22, 202, 24⟩, ⟨205, 15, 205, 97⟩], [], false, b_L_truth⟩
def b_L_fit (r : Runs) : CS := (seqS (retS false (binE (pf2 eqP) (lcE [2] false (seqI (binE (pf2 ixP) (varE 0) (constE (.int 1)))) (nameG 2) (valB (binE (pf2 neP) (binE (pf2 ixP) (appE (callF (c_L_even r)) (consL (appE (callF (c_L_by r)) (consL (varE 2) (consL (varE 1) nilL))) nilL)) (constE (.int 1))) (constE (.int 1)))) (varE 2)) (appE lstF nilL))) nilS)
abbrev N_L_fit : List Str := ["own", "part", "v"]
abbrev i_L_fit : Info := ⟨N_L_fit, p_L_fit, a_L_fit, false, [], [], false, b_L_fit⟩
def b_L_is_fraction (r : Runs) : CS := (seqS (ifS (orB (notB (valB (isiE "tuple" (varE 0)))) (valB (binE (pf2 neP) (appE (pfN lenP) (consL (varE 0) nilL)) (constE (.int 2))))) (seqS (retS false (constE (.bool false))) nilS) nilS) (seqS (ifS (orB (valB (binE (pf2 neP) (lcE [1] false (seqI (frzE (varE 0))) (nameG 1) (orB (notB (valB (isiE "int" (varE 1)))) (valB (isiE "bool" (varE 1)))) (varE 1)) (appE lstF nilL))) (valB (binE (pf2 leP) (binE (pf2 ixP) (varE 0) (constE (.int 1))) (constE (.int 0))))) (seqS (retS false (constE (.bool false))) nilS) nilS) (seqS (retS false (binE (pf2 eqP) (appE (callF (c_L_cut r)) (consL (binE (pf2 ixP) (varE 0) (constE (.int 0))) (consL (binE (pf2 ixP) (varE 0) (constE (.int 1))) nilL))) (varE 0))) nilS)))
abbrev N_L_is_fraction : List Str := ["value", "one"]
abbrev i_L_is_fraction : Info := ⟨N_L_is_fraction, p_L_is_fraction, a_L_is_fraction, false, [], [], false, b_L_is_fraction⟩
def b_L_told (r : Runs) : CS := (seqS (asgS (appE tupF (consL (constE .none) (consL (constE .none) nilL))) (tupG 2 (consG (nameG 5) (consG (nameG 6) nilG)))) (seqS (tryS (subF G_sub) (seqS (asgX (ifX (valB (varE 3)) (kwX (c_unlike_row r) [1, 2, 0] nilL (consL (varE 2) (consL (varE 0) (consL (varE 1) nilL)))) (callX (c_unlike_row r) (consL (varE 0) (consL (varE 1) (consL (varE 2) nilL))))) (nameG 5)) nilS) [("TooMany", some 4, (setU 6 (fun n as => appE tupF (consL ((attrU (fun n => G_cls.lookup n) "given") n as) (consL ((fun n as => andE ((isiU (subF G_sub) "RoadError") n as) ((isiU (subF G_sub) "ValueError") n as)) n as) nilL)))))]) (seqS (retS false (appE tupF (consL (frzE (varE 5)) (consL (frzE (varE 6)) nilL)))) nilS)))
abbrev N_L_told : List Str := ["line", "wide", "lasts", "named", "e", "found", "given"]
abbrev i_L_told : Info := ⟨N_L_told, p_L_told, a_L_told, false, [], [("unlike_row" : Str)], false, b_L_told⟩
def b_L_is_row (r : Runs) : CS := (seqS (ifS (orB (notB (valB (isiE "tuple" (varE 0)))) (orB (valB (binE (pf2 ltP) (appE (pfN lenP) (consL (varE 0) nilL)) (constE (.int 2)))) (valB (binE (pf2 gtP) (appE (pfN lenP) (consL (varE 0) nilL)) (constE (.int 40)))))) (seqS (retS false (constE (.bool false))) nilS) nilS) (seqS (ifS (valB (binE (pf2 neP) (lcE [5] false (seqI (frzE (varE 0))) (nameG 5) (notB (valB (appE (callF (c_L_is_fraction r)) (consL (varE 5) nilL)))) (varE 5)) (appE lstF nilL))) (seqS (retS false (constE (.bool false))) nilS) nilS) (seqS (forS (range2I (constE (.int 1)) (appE (pfN lenP) (consL (varE 0) nilL))) (nameG 3) (seqS (asgS (appE (callF (c_L_gap r)) (consL (binE (pf2 ixP) (varE 0) (binE (pf2 subP) (varE 3) (constE (.int 1)))) (consL (binE (pf2 ixP) (varE 0) (varE 3)) nilL))) (nameG 4)) (seqS (ifS (orB (valB (binE (pf2 ltP) (binE (pf2 ixP) (varE 4) (constE (.int 0))) (constE (.int 0)))) (valB (binE (pf2 ltP) (binE (pf2 ixP) (appE (callF (c_L_gap r)) (consL (appE (callF (c_L_by r)) (consL (varE 1) (consL (varE 2) nilL))) (consL (varE 4) nilL))) (constE (.int 0))) (constE (.int 0))))) (seqS (retS false (constE (.bool false))) nilS) nilS) nilS))) (seqS (retS false (constE (.bool true))) nilS))))
abbrev N_L_is_row : List Str := ["told", "full", "wide", "one", "less", "n"]
abbrev i_L_is_row : Info := ⟨N_L_is_row, p_L_is_row, a_L_is_row, false, [], [], false, b_L_is_row⟩
def b_L_right_c7 (r : Runs) : CS := (seqS (ifS (valB (appE (callF (c_L_fit r)) (consL (varE 5) (consL (varE 2) nilL)))) (seqS (retS false (andE (binE isF (varE 9) (constE .none)) (binE isF (varE 10) (constE .none)))) nilS) nilS) (seqS (ifS (valB (binE (pf2 gtP) (varE 3) (constE (.int 40)))) (seqS (retS false (binE (pf2 eqP) (appE (pfN reprP) (consL (varE 10) nilL)) (appE (pfN reprP) (consL (appE tupF (consL (frzE (varE 3)) (consL (constE (.bool true)) nilL))) nilL)))) nilS) nilS) (seqS (ifS (orB (valB (binE isntF (varE 10) (constE .none))) (notB (valB (appE (callF (c_L_is_row r)) (consL (varE 9) (consL (binE (pf2 ixP) (binE (pf2 ixP) (varE 1) (unE (pf1 negP) (constE (.int 1)))) (constE (.int 0))) (consL (varE 6) nilL))))))) (seqS (retS false (constE (.bool false))) nilS) nilS) (seqS (asgS (appE (callF (c_L_spots r)) (consL (varE 5) (consL (varE 2) (consL (appE (pfN lenP) (consL (varE 9) nilL)) nilL)))) (nameG 4)) (seqS (retS false (binE (pf2 neP) (appE (callF (c_L_cells r)) (consL (varE 5) (consL (varE 6) (consL (varE 7) (consL (varE 9) nilL))))) (appE (callF (c_L_truth r)) (consL (varE 5) (consL (varE 6) (consL (varE 7) (consL (varE 9) (consL (varE 4) nilL)))))))) nilS)))))
def b_L_right_c4 (r : Runs) : CS := (seqS (parS 7 8 (consL (appE (callF (c_L_even r)) (consL (appE (callF (c_L_by r)) (consL (varE 2) (consL (varE 6) nilL))) nilL)) (consL (binE (pf2 ixP) (binE (pf2 ixP) (varE 5) (constE (.int 1))) (unE (pf1 negP) (constE (.int 1)))) nilL))) (seqS (asgS (binE (pf2 addP) (binE (pf2 addP) (appE (callF (c_L_ceil r)) (consL (appE (callF (c_L_by r)) (consL (binE (pf2 ixP) (binE (pf2 ixP) (varE 5) (constE (.int 1))) (constE (.int 0))) (consL (varE 2) nilL))) nilL)) (appE (callF (c_L_ceil r)) (consL (appE (callF (c_L_by r)) (consL (appE tupF (consL (binE (pf2 subP) (constE (.int 0)) (binE (pf2 ixP) (varE 8) (constE (.int 0)))) (consL (binE (pf2 ixP) (varE 8) (constE (.int 1))) nilL))) (consL (varE 2) nilL))) nilL))) (constE (.int 1))) (nameG 3)) (seqS (asgS (appE (callF (c_L_told r)) (consL (varE 1) (consL (varE 6) (consL (varE 7) (consL (binE (pf2 eqP) (appE (callF (c_L_tap r)) (consL (varE 0) (consL (constE (.int 2)) nilL))) (constE (.int 0))) nilL))))) (tupG 2 (consG (nameG 9) (consG (nameG 10) nilG)))) (b_L_right_c7 r))))
def b_L_right (r : Runs) : CS := (seqS (asgS (appE (callF (c_L_kind r)) (consL (varE 0) nilL)) (nameG 1)) (seqS (parS 5 6 (consL (appE tupF (consL (frzE (varE 1)) (consL (appE (callF (c_L_speeds r)) (consL (varE 1) nilL)) nilL))) (consL (appE (callF (c_L_cut r)) (consL (binE (pf2 addP) (constE (.int 1)) (appE (callF (c_L_tap r)) (consL (varE 0) (consL (constE (.int 5)) nilL)))) (consL (binE (pf2 addP) (constE (.int 1)) (appE (callF (c_L_tap r)) (consL (varE 0) (consL (constE (.int 5)) nilL)))) nilL))) nilL))) (seqS (asgS (appE (callF (c_L_of r)) (consL (varE 0) (consL (appE lstF (consL (appE tupF (consL (constE (.int 1)) (consL (constE (.int 1)) nilL))) (consL (appE tupF (consL (constE (.int 2)) (consL (constE (.int 1)) nilL))) (consL (appE tupF (consL (constE (.int 1)) (consL (constE (.int 2)) nilL))) (consL (appE tupF (consL (constE (.int 4)) (consL (constE (.int 1)) nilL))) nilL))))) nilL))) (nameG 2)) (seqS (ifS (valB (binE (pf2 gtP) (appE (callF (c_L_tap r)) (consL (varE 0) (consL (constE (.int 4)) nilL))) (constE (.int 0)))) (seqS (asgS (appE (callF (c_L_cut r)) (consL (binE (pf2 addP) (constE (.int 1)) (appE (callF (c_L_tap r)) (consL (varE 0) (consL (constE (.int 9)) nilL)))) (consL (binE (pf2 addP) (constE (.int 1)) (appE (callF (c_L_tap r)) (consL (varE 0) (consL (constE (.int 4)) nilL)))) nilL))) (nameG 2)) nilS) (seqS (ifS (valB (binE (pf2 eqP) (appE (callF (c_L_tap r)) (consL (varE 0) (consL (constE (.int 2)) nilL))) (constE (.int 0)))) (seqS (asgS (appE (callF (c_L_cut r)) (consL (binE (pf2 addP) (constE (.int 1)) (appE (callF (c_L_tap r)) (consL (varE 0) (consL (constE (.int 200)) nilL)))) (consL (binE (pf2 addP) (constE (.int 1)) (appE (callF (c_L_tap r)) (consL (varE 0) (consL (constE (.int 7)) nilL)))) nilL))) (nameG 2)) nilS) nilS) nilS)) (b_L_right_c4 r)))))
abbrev N_L_right : List Str := ["cask", "line", "part", "many", "spots", "own", "wide", "lasts", "low", "told", "given"]
abbrev i_L_right : Info := ⟨N_L_right, p_L_right, a_L_right, false, [], [], false, b_L_right⟩
def b_law (r : Runs) : CS := (seqS (retS false (appE (pfN allP) (consL (lcE [1] false (range1I (constE (.int 2))) (nameG 1) yesB (appE (callF (c_L_right r)) (consL (appE (callF (c_L_cask r)) (consL (varE 0) (consL (varE 1) nilL))) nilL))) nilL))) nilS)
abbrev N_law : List Str := ["script", "turn"]
abbrev i_law : Info := ⟨N_law, p_law, a_law, false, [], [], false, b_law⟩
abbrev T : Tbl := [(("is_whole" : Str), i_is_whole), (("are_wholes" : Str), i_are_wholes), (("common_part" : Str), i_common_part), (("lowest" : Str), i_lowest), (("lowest_over" : Str), i_lowest_over), (("ratio" : Str), i_ratio), (("plus" : Str), i_plus), (("minus" : Str), i_minus), (("times" : Str), i_times), (("divided" : Str), i_divided), (("is_below" : Str), i_is_below), (("is_fraction" : Str), i_is_fraction), (("is_amount" : Str), i_is_amount), (("are_fractions" : Str), i_are_fractions), (("check_amount" : Str), i_check_amount), (("slope_of" : Str), i_slope_of), (("kind_speeds" : Str), i_kind_speeds), (("is_kind" : Str), i_is_kind), (("is_corner" : Str), i_is_corner), (("check_kind" : Str), i_check_kind), (("check_steps" : Str), i_check_steps), (("places_gone" : Str), i_places_gone), (("margins" : Str), i_margins), (("even_row" : Str), i_even_row), (("unlike_by" : Str), i_unlike_by), (("row_or_too_many" : Str), i_row_or_too_many), (("unlike_row" : Str), i_unlike_row), (("_law_cask" : Str), i_L_cask), (("_law_tap" : Str), i_L_tap), (("_law_of" : Str), i_L_of), (("_law_cut" : Str), i_L_cut), (("_law_even" : Str), i_L_even), (("_law_sum" : Str), i_L_sum), (("_law_gap" : Str), i_L_gap), (("_law_by" : Str), i_L_by), (("_law_per" : Str), i_L_per), (("_law_kind" : Str), i_L_kind), (("_law_speeds" : Str), i_L_speeds), (("_law_toll" : Str), i_L_toll), (("_law_along" : Str), i_L_along), (("_law_least" : Str), i_L_least), (("_law_ceil" : Str), i_L_ceil), (("_law_spots" : Str), i_L_spots), (("_law_cells" : Str), i_L_cells), (("_law_truth" : Str), i_L_truth), (("_law_fit" : Str), i_L_fit), (("_law_is_fraction" : Str), i_L_is_fraction), (("_law_told" : Str), i_L_told), (("_law_is_row" : Str), i_L_is_row), (("_law_right" : Str), i_L_right), (("law" : Str), i_law)]
abbrev G : Glb := ⟨[(("NOUGHT" : Str), (.tuple [(.int 0), (.int 1)])), (("LEAST_CORNERS" : Str), (.int 3)), (("MOST_CORNERS" : Str), (.int 12)), (("MOST_PLACES" : Str), (.int 40)), (("HALF" : Str), (.tuple [(.int 1), (.int 2)]))], [(("gcd" : Str), "math.gcd")], [("len" : Str), ("int" : Str), ("tuple" : Str), ("abs" : Str), ("repr" : Str), ("all" : Str), ("list" : Str), ("divmod" : Str), ("isinstance" : Str), ("bool" : Str), ("range" : Str), ("zip" : Str)], G_cls, [("TooMany" : Str), ("RoadError" : Str), ("ValueError" : Str)], G_sub⟩
set_option maxHeartbeats 0 in
theorem k_is_whole (r : Runs) : cDef (ctxOf G T r i_is_whole) s_is_whole = some (b_is_whole r) := by kernel_rfl
theorem f_is_whole : FnScope N_is_whole p_is_whole (defScope s_is_whole) := ⟨rfl, rfl, rfl, by decide +kernel, rfl, by decide +kernel, by decide +kernel⟩
set_option maxHeartbeats 0 in
theorem k_are_wholes (r : Runs) : cDef (ctxOf G T r i_are_wholes) s_are_wholes = some (b_are_wholes r) := by kernel_rfl
theorem f_are_wholes : FnScope N_are_wholes p_are_wholes (defScope s_are_wholes) := ⟨rfl, rfl, rfl, by decide +kernel, rfl, by decide +kernel, by decide +kernel⟩
set_option maxHeartbeats 0 in
theorem k_common_part (r : Runs) : cDef (ctxOf G T r i_common_part) s_common_part = some (b_common_part r) := by kernel_rfl
theorem f_common_part : FnScope N_common_part p_common_part (defScope s_common_part) := ⟨rfl, rfl, rfl, by decide +kernel, rfl, by decide +kernel, by decide +kernel⟩
set_option maxHeartbeats 0 in
theorem k_lowest (r : Runs) : cDef (ctxOf G T r i_lowest) s_lowest = some (b_lowest r) := by kernel_rfl
theorem f_lowest : FnScope N_lowest p_lowest (defScope s_lowest) := ⟨rfl, rfl, rfl, by decide +kernel, rfl, by decide +kernel, by decide +kernel⟩
set_option maxHeartbeats 0 in
theorem k_lowest_over (r : Runs) : cDef (ctxOf G T r i_lowest_over) s_lowest_over = some (b_lowest_over r) := by kernel_rfl
theorem f_lowest_over : FnScope N_lowest_over p_lowest_over (defScope s_lowest_over) := ⟨rfl, rfl, rfl, by decide +kernel, rfl, by decide +kernel, by decide +kernel⟩
set_option maxHeartbeats 0 in
theorem k_ratio (r : Runs) : cDef (ctxOf G T r i_ratio) s_ratio = some (b_ratio r) := by kernel_rfl
theorem f_ratio : FnScope N_ratio p_ratio (defScope s_ratio) := ⟨rfl, rfl, rfl, by decide +kernel, rfl, by decide +kernel, by decide +kernel⟩
set_option maxHeartbeats 0 in
theorem k_plus (r : Runs) : cDef (ctxOf G T r i_plus) s_plus = some (b_plus r) := by kernel_rfl
theorem f_plus : FnScope N_plus p_plus (defScope s_plus) := ⟨rfl, rfl, rfl, by decide +kernel, rfl, by decide +kernel, by decide +kernel⟩
set_option maxHeartbeats 0 in
theorem k_minus (r : Runs) : cDef (ctxOf G T r i_minus) s_minus = some (b_minus r) := by kernel_rfl
theorem f_minus : FnScope N_minus p_minus (defScope s_minus) := ⟨rfl, rfl, rfl, by decide +kernel, rfl, by decide +kernel, by decide +kernel⟩
set_option maxHeartbeats 0 in
theorem k_times (r : Runs) : cDef (ctxOf G T r i_times) s_times = some (b_times r) := by kernel_rfl
theorem f_times : FnScope N_times p_times (defScope s_times) := ⟨rfl, rfl, rfl, by decide +kernel, rfl, by decide +kernel, by decide +kernel⟩
set_option maxHeartbeats 0 in
theorem k_divided (r : Runs) : cDef (ctxOf G T r i_divided) s_divided = some (b_divided r) := by kernel_rfl
theorem f_divided : FnScope N_divided p_divided (defScope s_divided) := ⟨rfl, rfl, rfl, by decide +kernel, rfl, by decide +kernel, by decide +kernel⟩
set_option maxHeartbeats 0 in
theorem k_is_below (r : Runs) : cDef (ctxOf G T r i_is_below) s_is_below = some (b_is_below r) := by kernel_rfl
theorem f_is_below : FnScope N_is_below p_is_below (defScope s_is_below) := ⟨rfl, rfl, rfl, by decide +kernel, rfl, by decide +kernel, by decide +kernel⟩
set_option maxHeartbeats 0 in
theorem k_is_fraction (r : Runs) : cDef (ctxOf G T r i_is_fraction) s_is_fraction = some (b_is_fraction r) := by kernel_rfl
theorem f_is_fraction : FnScope N_is_fraction p_is_fraction (defScope s_is_fraction) := ⟨rfl, rfl, rfl, by decide +kernel, rfl, by decide +kernel, by decide +kernel⟩
set_option maxHeartbeats 0 in
theorem k_is_amount (r : Runs) : cDef (ctxOf G T r i_is_amount) s_is_amount = some (b_is_amount r) := by kernel_rfl
theorem f_is_amount : FnScope N_is_amount p_is_amount (defScope s_is_amount) := ⟨rfl, rfl, rfl, by decide +kernel, rfl, by decide +kernel, by decide +kernel⟩
set_option maxHeartbeats 0 in
theorem k_are_fractions (r : Runs) : cDef (ctxOf G T r i_are_fractions) s_are_fractions = some (b_are_fractions r) := by kernel_rfl
theorem f_are_fractions : FnScope N_are_fractions p_are_fractions (defScope s_are_fractions) := ⟨rfl, rfl, rfl, by decide +kernel, rfl, by decide +kernel, by decide +kernel⟩
set_option maxHeartbeats 0 in
theorem k_check_amount (r : Runs) : cDef (ctxOf G T r i_check_amount) s_check_amount = some (b_check_amount r) := by kernel_rfl
theorem f_check_amount : FnScope N_check_amount p_check_amount (defScope s_check_amount) := ⟨rfl, rfl, rfl, by decide +kernel, rfl, by decide +kernel, by decide +kernel⟩
set_option maxHeartbeats 0 in
theorem k_slope_of (r : Runs) : cDef (ctxOf G T r i_slope_of) s_slope_of = some (b_slope_of r) := by kernel_rfl
theorem f_slope_of : FnScope N_slope_of p_slope_of (defScope s_slope_of) := ⟨rfl, rfl, rfl, by decide +kernel, rfl, by decide +kernel, by decide +kernel⟩
set_option maxHeartbeats 0 in
theorem k_kind_speeds (r : Runs) : cDef (ctxOf G T r i_kind_speeds) s_kind_speeds = some (b_kind_speeds r) := by kernel_rfl
theorem f_kind_speeds : FnScope N_kind_speeds p_kind_speeds (defScope s_kind_speeds) := ⟨rfl, rfl, rfl, by decide +kernel, rfl, by decide +kernel, by decide +kernel⟩
set_option maxHeartbeats 0 in
theorem k_is_kind (r : Runs) : cDef (ctxOf G T r i_is_kind) s_is_kind = some (b_is_kind r) := by kernel_rfl
theorem f_is_kind : FnScope N_is_kind p_is_kind (defScope s_is_kind) := ⟨rfl, rfl, rfl, by decide +kernel, rfl, by decide +kernel, by decide +kernel⟩
set_option maxHeartbeats 0 in
theorem k_is_corner (r : Runs) : cDef (ctxOf G T r i_is_corner) s_is_corner = some (b_is_corner r) := by kernel_rfl
theorem f_is_corner : FnScope N_is_corner p_is_corner (defScope s_is_corner) := ⟨rfl, rfl, rfl, by decide +kernel, rfl, by decide +kernel, by decide +kernel⟩
set_option maxHeartbeats 0 in
theorem k_check_kind (r : Runs) : cDef (ctxOf G T r i_check_kind) s_check_kind = some (b_check_kind r) := by kernel_rfl
theorem f_check_kind : FnScope N_check_kind p_check_kind (defScope s_check_kind) := ⟨rfl, rfl, rfl, by decide +kernel, rfl, by decide +kernel, by decide +kernel⟩
set_option maxHeartbeats 0 in
theorem k_check_steps (r : Runs) : cDef (ctxOf G T r i_check_steps) s_check_steps = some (b_check_steps r) := by kernel_rfl
theorem f_check_steps : FnScope N_check_steps p_check_steps (defScope s_check_steps) := ⟨rfl, rfl, rfl, by decide +kernel, rfl, by decide +kernel, by decide +kernel⟩
set_option maxHeartbeats 0 in
theorem k_places_gone (r : Runs) : cDef (ctxOf G T r i_places_gone) s_places_gone = some (b_places_gone r) := by kernel_rfl
theorem f_places_gone : FnScope N_places_gone p_places_gone (defScope s_places_gone) := ⟨rfl, rfl, rfl, by decide +kernel, rfl, by decide +kernel, by decide +kernel⟩
set_option maxHeartbeats 0 in
theorem k_margins (r : Runs) : cDef (ctxOf G T r i_margins) s_margins = some (b_margins r) := by kernel_rfl
theorem f_margins : FnScope N_margins p_margins (defScope s_margins) := ⟨rfl, rfl, rfl, by decide +kernel, rfl, by decide +kernel, by decide +kernel⟩
set_option maxHeartbeats 0 in
theorem k_even_row (r : Runs) : cDef (ctxOf G T r i_even_row) s_even_row = some (b_even_row r) := by kernel_rfl
theorem f_even_row : FnScope N_even_row p_even_row (defScope s_even_row) := ⟨rfl, rfl, rfl, by decide +kernel, rfl, by decide +kernel, by decide +kernel⟩
set_option maxHeartbeats 0 in
theorem k_unlike_by (r : Runs) : cDef (ctxOf G T r i_unlike_by) s_unlike_by = some (b_unlike_by r) := by kernel_rfl
theorem f_unlike_by : FnScope N_unlike_by p_unlike_by (defScope s_unlike_by) := ⟨rfl, rfl, rfl, by decide +kernel, rfl, by decide +kernel, by decide +kernel⟩
set_option maxHeartbeats 0 in
theorem k_row_or_too_many (r : Runs) : cDef (ctxOf G T r i_row_or_too_many) s_row_or_too_many = some (b_row_or_too_many r) := by kernel_rfl
theorem f_row_or_too_many : FnScope N_row_or_too_many p_row_or_too_many (defScope s_row_or_too_many) := ⟨rfl, rfl, rfl, by decide +kernel, rfl, by decide +kernel, by decide +kernel⟩
set_option maxHeartbeats 0 in
theorem k_unlike_row (r : Runs) : cDef (ctxOf G T r i_unlike_row) s_unlike_row = some (b_unlike_row r) := by kernel_rfl
theorem f_unlike_row : FnScope N_unlike_row p_unlike_row (defScope s_unlike_row) := ⟨rfl, rfl, rfl, by decide +kernel, rfl, by decide +kernel, by decide +kernel⟩
set_option maxHeartbeats 0 in
theorem k_L_cask (r : Runs) : cDef (ctxOf G T r i_L_cask) s_L_cask = some (b_L_cask r) := by kernel_rfl
theorem f_L_cask : FnScope N_L_cask p_L_cask (defScope s_L_cask) := ⟨rfl, rfl, rfl, by decide +kernel, rfl, by decide +kernel, by decide +kernel⟩
set_option maxHeartbeats 0 in
theorem k_L_tap (r : Runs) : cDef (ctxOf G T r i_L_tap) s_L_tap = some (b_L_tap r) := by kernel_rfl
theorem f_L_tap : FnScope N_L_tap p_L_tap (defScope s_L_tap) := ⟨rfl, rfl, rfl, by decide +kernel, rfl, by decide +kernel, by decide +kernel⟩
set_option maxHeartbeats 0 in
theorem k_L_of (r : Runs) : cDef (ctxOf G T r i_L_of) s_L_of = some (b_L_of r) := by kernel_rfl
theorem f_L_of : FnScope N_L_of p_L_of (defScope s_L_of) := ⟨rfl, rfl, rfl, by decide +kernel, rfl, by decide +kernel, by decide +kernel⟩
set_option maxHeartbeats 0 in
theorem k_L_cut (r : Runs) : cDef (ctxOf G T r i_L_cut) s_L_cut = some (b_L_cut r) := by kernel_rfl
theorem f_L_cut : FnScope N_L_cut p_L_cut (defScope s_L_cut) := ⟨rfl, rfl, rfl, by decide +kernel, rfl, by decide +kernel, by decide +kernel⟩
set_option maxHeartbeats 0 in
theorem k_L_even (r : Runs) : cDef (ctxOf G T r i_L_even) s_L_even = some (b_L_even r) := by kernel_rfl
theorem f_L_even : FnScope N_L_even p_L_even (defScope s_L_even) := ⟨rfl, rfl, rfl, by decide +kernel, rfl, by decide +kernel, by decide +kernel⟩
set_option maxHeartbeats 0 in
theorem k_L_sum (r : Runs) : cDef (ctxOf G T r i_L_sum) s_L_sum = some (b_L_sum r) := by kernel_rfl
theorem f_L_sum : FnScope N_L_sum p_L_sum (defScope s_L_sum) := ⟨rfl, rfl, rfl, by decide +kernel, rfl, by decide +kernel, by decide +kernel⟩
set_option maxHeartbeats 0 in
theorem k_L_gap (r : Runs) : cDef (ctxOf G T r i_L_gap) s_L_gap = some (b_L_gap r) := by kernel_rfl
theorem f_L_gap : FnScope N_L_gap p_L_gap (defScope s_L_gap) := ⟨rfl, rfl, rfl, by decide +kernel, rfl, by decide +kernel, by decide +kernel⟩
set_option maxHeartbeats 0 in
theorem k_L_by (r : Runs) : cDef (ctxOf G T r i_L_by) s_L_by = some (b_L_by r) := by kernel_rfl
theorem f_L_by : FnScope N_L_by p_L_by (defScope s_L_by) := ⟨rfl, rfl, rfl, by decide +kernel, rfl, by decide +kernel, by decide +kernel⟩
set_option maxHeartbeats 0 in
theorem k_L_per (r : Runs) : cDef (ctxOf G T r i_L_per) s_L_per = some (b_L_per r) := by kernel_rfl
theorem f_L_per : FnScope N_L_per p_L_per (defScope s_L_per) := ⟨rfl, rfl, rfl, by decide +kernel, rfl, by decide +kernel, by decide +kernel⟩
set_option maxHeartbeats 0 in
theorem k_L_kind (r : Runs) : cDef (ctxOf G T r i_L_kind) s_L_kind = some (b_L_kind r) := by kernel_rfl
theorem f_L_kind : FnScope N_L_kind p_L_kind (defScope s_L_kind) := ⟨rfl, rfl, rfl, by decide +kernel, rfl, by decide +kernel, by decide +kernel⟩
set_option maxHeartbeats 0 in
theorem k_L_speeds (r : Runs) : cDef (ctxOf G T r i_L_speeds) s_L_speeds = some (b_L_speeds r) := by kernel_rfl
theorem f_L_speeds : FnScope N_L_speeds p_L_speeds (defScope s_L_speeds) := ⟨rfl, rfl, rfl, by decide +kernel, rfl, by decide +kernel, by decide +kernel⟩
set_option maxHeartbeats 0 in
theorem k_L_toll (r : Runs) : cDef (ctxOf G T r i_L_toll) s_L_toll = some (b_L_toll r) := by kernel_rfl
theorem f_L_toll : FnScope N_L_toll p_L_toll (defScope s_L_toll) := ⟨rfl, rfl, rfl, by decide +kernel, rfl, by decide +kernel, by decide +kernel⟩
set_option maxHeartbeats 0 in
theorem k_L_along (r : Runs) : cDef (ctxOf G T r i_L_along) s_L_along = some (b_L_along r) := by kernel_rfl
theorem f_L_along : FnScope N_L_along p_L_along (defScope s_L_along) := ⟨rfl, rfl, rfl, by decide +kernel, rfl, by decide +kernel, by decide +kernel⟩
set_option maxHeartbeats 0 in
theorem k_L_least (r : Runs) : cDef (ctxOf G T r i_L_least) s_L_least = some (b_L_least r) := by kernel_rfl
theorem f_L_least : FnScope N_L_least p_L_least (defScope s_L_least) := ⟨rfl, rfl, rfl, by decide +kernel, rfl, by decide +kernel, by decide +kernel⟩
set_option maxHeartbeats 0 in
theorem k_L_ceil (r : Runs) : cDef (ctxOf G T r i_L_ceil) s_L_ceil = some (b_L_ceil r) := by kernel_rfl
theorem f_L_ceil : FnScope N_L_ceil p_L_ceil (defScope s_L_ceil) := ⟨rfl, rfl, rfl, by decide +kernel, rfl, by decide +kernel, by decide +kernel⟩
set_option maxHeartbeats 0 in
theorem k_L_spots (r : Runs) : cDef (ctxOf G T r i_L_spots) s_L_spots = some (b_L_spots r) := by kernel_rfl
theorem f_L_spots : FnScope N_L_spots p_L_spots (defScope s_L_spots) := ⟨rfl, rfl, rfl, by decide +kernel, rfl, by decide +kernel, by decide +kernel⟩
set_option maxHeartbeats 0 in
theorem k_L_cells (r : Runs) : cDef (ctxOf G T r i_L_cells) s_L_cells = some (b_L_cells r) := by kernel_rfl
theorem f_L_cells : FnScope N_L_cells p_L_cells (defScope s_L_cells) := ⟨rfl, rfl, rfl, by decide +kernel, rfl, by decide +kernel, by decide +kernel⟩
set_option maxHeartbeats 0 in
theorem k_L_truth (r : Runs) : cDef (ctxOf G T r i_L_truth) s_L_truth = some (b_L_truth r) := by kernel_rfl
theorem f_L_truth : FnScope N_L_truth p_L_truth (defScope s_L_truth) := ⟨rfl, rfl, rfl, by decide +kernel, rfl, by decide +kernel, by decide +kernel⟩
set_option maxHeartbeats 0 in
theorem k_L_fit (r : Runs) : cDef (ctxOf G T r i_L_fit) s_L_fit = some (b_L_fit r) := by kernel_rfl
theorem f_L_fit : FnScope N_L_fit p_L_fit (defScope s_L_fit) := ⟨rfl, rfl, rfl, by decide +kernel, rfl, by decide +kernel, by decide +kernel⟩
set_option maxHeartbeats 0 in
theorem k_L_is_fraction (r : Runs) : cDef (ctxOf G T r i_L_is_fraction) s_L_is_fraction = some (b_L_is_fraction r) := by kernel_rfl
theorem f_L_is_fraction : FnScope N_L_is_fraction p_L_is_fraction (defScope s_L_is_fraction) := ⟨rfl, rfl, rfl, by decide +kernel, rfl, by decide +kernel, by decide +kernel⟩
set_option maxHeartbeats 0 in
theorem k_L_told (r : Runs) : cDef (ctxOf G T r i_L_told) s_L_told = some (b_L_told r) := by kernel_rfl
theorem f_L_told : FnScope N_L_told p_L_told (defScope s_L_told) := ⟨rfl, rfl, rfl, by decide +kernel, rfl, by decide +kernel, by decide +kernel⟩
set_option maxHeartbeats 0 in
theorem k_L_is_row (r : Runs) : cDef (ctxOf G T r i_L_is_row) s_L_is_row = some (b_L_is_row r) := by kernel_rfl
theorem f_L_is_row : FnScope N_L_is_row p_L_is_row (defScope s_L_is_row) := ⟨rfl, rfl, rfl, by decide +kernel, rfl, by decide +kernel, by decide +kernel⟩
set_option maxHeartbeats 0 in
theorem k_L_right (r : Runs) : cDef (ctxOf G T r i_L_right) s_L_right = some (b_L_right r) := by kernel_rfl
theorem f_L_right : FnScope N_L_right p_L_right (defScope s_L_right) := ⟨rfl, rfl, rfl, by decide +kernel, rfl, by decide +kernel, by decide +kernel⟩
set_option maxHeartbeats 0 in
theorem k_law (r : Runs) : cDef (ctxOf G T r i_law) s_law = some (b_law r) := by kernel_rfl
theorem f_law : FnScope N_law p_law (defScope s_law) := ⟨rfl, rfl, rfl, by decide +kernel, rfl, by decide +kernel, by decide +kernel⟩
theorem u_is_whole (k : Nat) : run T (k + 1) "is_whole" = runD 1 (b_is_whole (run T k)) := by kernel_rfl
theorem u_are_wholes (k : Nat) : run T (k + 1) "are_wholes" = runD 3 (b_are_wholes (run T k)) := by kernel_rfl
theorem u_common_part (k : Nat) : run T (k + 1) "common_part" = runD 3 (b_common_part (run T k)) := by kernel_rfl
theorem u_lowest (k : Nat) : run T (k + 1) "lowest" = runD 3 (b_lowest (run T k)) := by kernel_rfl
theorem u_lowest_over (k : Nat) : run T (k + 1) "lowest_over" = runD 4 (b_lowest_over (run T k)) := by kernel_rfl
theorem u_ratio (k : Nat) : run T (k + 1) "ratio" = runD 2 (b_ratio (run T k)) := by kernel_rfl
theorem u_plus (k : Nat) : run T (k + 1) "plus" = runD 2 (b_plus (run T k)) := by kernel_rfl
theorem u_minus (k : Nat) : run T (k + 1) "minus" = runD 2 (b_minus (run T k)) := by kernel_rfl
theorem u_times (k : Nat) : run T (k + 1) "times" = runD 2 (b_times (run T k)) := by kernel_rfl
theorem u_divided (k : Nat) : run T (k + 1) "divided" = runD 2 (b_divided (run T k)) := by kernel_rfl
theorem u_is_below (k : Nat) : run T (k + 1) "is_below" = runD 2 (b_is_below (run T k)) := by kernel_rfl
theorem u_is_fraction (k : Nat) : run T (k + 1) "is_fraction" = runD 1 (b_is_fraction (run T k)) := by kernel_rfl
theorem u_is_amount (k : Nat) : run T (k + 1) "is_amount" = runD 1 (b_is_amount (run T k)) := by kernel_rfl
theorem u_are_fractions (k : Nat) : run T (k + 1) "are_fractions" = runD 3 (b_are_fractions (run T k)) := by kernel_rfl
theorem u_check_amount (k : Nat) : run T (k + 1) "check_amount" = runD 1 (b_check_amount (run T k)) := by kernel_rfl
theorem u_slope_of (k : Nat) : run T (k + 1) "slope_of" = runD 2 (b_slope_of (run T k)) := by kernel_rfl
theorem u_kind_speeds (k : Nat) : run T (k + 1) "kind_speeds" = runD 3 (b_kind_speeds (run T k)) := by kernel_rfl
theorem u_is_kind (k : Nat) : run T (k + 1) "is_kind" = runD 5 (b_is_kind (run T k)) := by kernel_rfl
theorem u_is_corner (k : Nat) : run T (k + 1) "is_corner" = runD 1 (b_is_corner (run T k)) := by kernel_rfl
theorem u_check_kind (k : Nat) : run T (k + 1) "check_kind" = runD 1 (b_check_kind (run T k)) := by kernel_rfl
theorem u_check_steps (k : Nat) : run T (k + 1) "check_steps" = runD 3 (b_check_steps (run T k)) := by kernel_rfl
theorem u_places_gone (k : Nat) : run T (k + 1) "places_gone" = runD 4 (b_places_gone (run T k)) := by kernel_rfl
theorem u_margins (k : Nat) : run T (k + 1) "margins" = runD 4 (b_margins (run T k)) := by kernel_rfl
theorem u_even_row (k : Nat) : run T (k + 1) "even_row" = runD 4 (b_even_row (run T k)) := by kernel_rfl
theorem u_unlike_by (k : Nat) : run T (k + 1) "unlike_by" = runD 10 (b_unlike_by (run T k)) := by kernel_rfl
theorem u_row_or_too_many (k : Nat) : run T (k + 1) "row_or_too_many" = runD 5 (b_row_or_too_many (run T k)) := by kernel_rfl
theorem e_row_or_too_many (k : Nat) : (run T (k + 1)).ex "row_or_too_many" = runX 5 (b_row_or_too_many (run T k)) := by kernel_rfl
theorem u_unlike_row (k : Nat) : run T (k + 1) "unlike_row" = runD 3 (b_unlike_row (run T k)) := by kernel_rfl
theorem e_unlike_row (k : Nat) : (run T (k + 1)).ex "unlike_row" = runX 3 (b_unlike_row (run T k)) := by kernel_rfl
theorem u_L_cask (k : Nat) : run T (k + 1) "_law_cask" = runD 6 (b_L_cask (run T k)) := by kernel_rfl
theorem u_L_tap (k : Nat) : run T (k + 1) "_law_tap" = runD 4 (b_L_tap (run T k)) := by kernel_rfl
theorem u_L_of (k : Nat) : run T (k + 1) "_law_of" = runD 2 (b_L_of (run T k)) := by kernel_rfl
theorem u_L_cut (k : Nat) : run T (k + 1) "_law_cut" = runD 4 (b_L_cut (run T k)) := by kernel_rfl
theorem u_L_even (k : Nat) : run T (k + 1) "_law_even" = runD 1 (b_L_even (run T k)) := by kernel_rfl
theorem u_L_sum (k : Nat) : run T (k + 1) "_law_sum" = runD 2 (b_L_sum (run T k)) := by kernel_rfl
theorem u_L_gap (k : Nat) : run T (k + 1) "_law_gap" = runD 2 (b_L_gap (run T k)) := by kernel_rfl
theorem u_L_by (k : Nat) : run T (k + 1) "_law_by" = runD 2 (b_L_by (run T k)) := by kernel_rfl
theorem u_L_per (k : Nat) : run T (k + 1) "_law_per" = runD 2 (b_L_per (run T k)) := by kernel_rfl
theorem u_L_kind (k : Nat) : run T (k + 1) "_law_kind" = runD 9 (b_L_kind (run T k)) := by kernel_rfl
theorem u_L_speeds (k : Nat) : run T (k + 1) "_law_speeds" = runD 7 (b_L_speeds (run T k)) := by kernel_rfl
theorem u_L_toll (k : Nat) : run T (k + 1) "_law_toll" = runD 9 (b_L_toll (run T k)) := by kernel_rfl
theorem u_L_along (k : Nat) : run T (k + 1) "_law_along" = runD 9 (b_L_along (run T k)) := by kernel_rfl
theorem u_L_least (k : Nat) : run T (k + 1) "_law_least" = runD 4 (b_L_least (run T k)) := by kernel_rfl
theorem u_L_ceil (k : Nat) : run T (k + 1) "_law_ceil" = runD 1 (b_L_ceil (run T k)) := by kernel_rfl
theorem u_L_spots (k : Nat) : run T (k + 1) "_law_spots" = runD 5 (b_L_spots (run T k)) := by kernel_rfl
theorem u_L_cells (k : Nat) : run T (k + 1) "_law_cells" = runD 8 (b_L_cells (run T k)) := by kernel_rfl
theorem u_L_truth (k : Nat) : run T (k + 1) "_law_truth" = runD 14 (b_L_truth (run T k)) := by kernel_rfl
theorem u_L_fit (k : Nat) : run T (k + 1) "_law_fit" = runD 3 (b_L_fit (run T k)) := by kernel_rfl
theorem u_L_is_fraction (k : Nat) : run T (k + 1) "_law_is_fraction" = runD 2 (b_L_is_fraction (run T k)) := by kernel_rfl
theorem u_L_told (k : Nat) : run T (k + 1) "_law_told" = runD 7 (b_L_told (run T k)) := by kernel_rfl
theorem e_L_told (k : Nat) : (run T (k + 1)).ex "_law_told" = runX 7 (b_L_told (run T k)) := by kernel_rfl
theorem u_L_is_row (k : Nat) : run T (k + 1) "_law_is_row" = runD 6 (b_L_is_row (run T k)) := by kernel_rfl
theorem u_L_right (k : Nat) : run T (k + 1) "_law_right" = runD 11 (b_L_right (run T k)) := by kernel_rfl
theorem u_law (k : Nat) : run T (k + 1) "law" = runD 2 (b_law (run T k)) := by kernel_rfl
end Prog

/-! D0: dice, fractions as pairs (plain). -/
namespace Prog
open PySem PySem.Spec PyProof.Rows L2 PD
abbrev Dice := Int × Int × Int
def cellD (t : Dice) : Option (List PyData) := some [.int t.1, .int t.2.1, .int t.2.2]
def Dok (m : Nat) (t : Dice) : Prop := 0 ≤ t.2.1 ∧ t.2.1 < 2147483629 ∧ 0 ≤ t.2.2 ∧ t.2.2 ≤ m
theorem Dok.mono {m n : Nat} {t : Dice} (h : Dok m t) (l : m ≤ n) : Dok n t := ⟨h.1, h.2.1, h.2.2.1, by have := h.2.2.2; omega⟩
theorem mulOk_small {i j : Int} (hi : i.natAbs < 2 ^ 64) (hj : j.natAbs < 2 ^ 64) : mulOk i j = true := mulOk_of (n := 64) (m := 64) hi hj
theorem divOk_small {j : Int} (h0 : j ≠ 0) (hj : j.natAbs < 2 ^ 64) : divOk j = true := divOk_of (n := 64) h0 hj
theorem tap_lt (a b : Int) (hb : 0 < b) : 0 ≤ a.fmod b ∧ a.fmod b < b := by
  rw [Int.fmod_eq_emod_of_nonneg a (by omega)]
  exact ⟨Int.emod_nonneg a (by omega), Int.emod_lt_of_pos a hb⟩
theorem gcd_step (x y : Int) (hy : 0 < y) (hx : 0 ≤ x) : Int.gcd y (x.fmod y) = Int.gcd x y := by
  rw [Int.fmod_eq_emod_of_nonneg x (by omega)]
  obtain ⟨a, rfl⟩ := Int.eq_ofNat_of_zero_le hx
  obtain ⟨b, rfl⟩ := Int.eq_ofNat_of_zero_le (show 0 ≤ y by omega)
  rw [← Int.natCast_emod, Int.gcd_natCast_natCast, Int.gcd_natCast_natCast, Nat.gcd_comm, ← Nat.gcd_rec, Nat.gcd_comm]
abbrev P2 := Int × Int
def pr (p : P2) : PyData := .tuple [.int p.1, .int p.2]
def val (p : P2) : Rat := Rat.divInt p.1 p.2
def nd (q : Rat) : P2 := (q.num, q.den)
def Ok (n : Nat) (p : P2) : Prop := 0 < p.2 ∧ Lt2 n p.1 ∧ Lt2 n p.2
theorem fr_nd (q : Rat) : fr q = pr (nd q) := rfl
theorem val_nd (q : Rat) : val (nd q) = q := Rat.num_divInt_den q
theorem ok_nd {n : Nat} {q : Rat} (h : Sz n q) : Ok n (nd q) := ⟨by have := q.den_pos; simp only [nd]; omega, h.1, h.2⟩
theorem Ok.mono {n m : Nat} {p : P2} (h : Ok n p) (l : n ≤ m) : Ok m p := ⟨h.1, h.2.1.mono l, h.2.2.mono l⟩
def sumP2 (p q : P2) : P2 := (p.1 * q.2 + q.1 * p.2, p.2 * q.2)
def gapP2 (p q : P2) : P2 := (p.1 * q.2 - q.1 * p.2, p.2 * q.2)
def byP2 (p q : P2) : P2 := (p.1 * q.1, p.2 * q.2)
def perP2 (p q : P2) : P2 := (p.1 * q.2, p.2 * q.1)
section
variable {n m : Nat} {p q : P2}
theorem ok_sum (h : Ok n p) (g : Ok m q) : Ok (n + m + 1) (sumP2 p q) := ⟨Int.mul_pos h.1 g.1, ((h.2.1.mul g.2.2).add (g.2.1.mul h.2.2)).mono (by omega), (h.2.2.mul g.2.2).mono (by omega)⟩
theorem ok_gap (h : Ok n p) (g : Ok m q) : Ok (n + m + 1) (gapP2 p q) := ⟨Int.mul_pos h.1 g.1, ((h.2.1.mul g.2.2).sub (g.2.1.mul h.2.2)).mono (by omega), (h.2.2.mul g.2.2).mono (by omega)⟩
theorem ok_by (h : Ok n p) (g : Ok m q) : Ok (n + m) (byP2 p q) := ⟨Int.mul_pos h.1 g.1, h.2.1.mul g.2.1, h.2.2.mul g.2.2⟩
theorem ok_per (h : Ok n p) (g : Ok m q) (g1 : 0 < q.1) : Ok (n + m) (perP2 p q) := ⟨Int.mul_pos h.1 g1, h.2.1.mul g.2.2, h.2.2.mul g.2.1⟩
theorem Ok.ne (h : Ok n p) : p.2 ≠ 0 := by have := h.1; omega
theorem val_sum (h : Ok n p) (g : Ok m q) : val (sumP2 p q) = val p + val q := (Rat.divInt_add_divInt p.1 q.1 h.ne g.ne).symm
theorem val_gap (h : Ok n p) (g : Ok m q) : val (gapP2 p q) = val p - val q := (Rat.divInt_sub_divInt p.1 q.1 h.ne g.ne).symm
theorem val_by : val (byP2 p q) = val p * val q := (Rat.divInt_mul_divInt p.1 q.1).symm
theorem val_per : val (perP2 p q) = val p / val q := by
  unfold val perP2
  rw [Rat.div_def, Rat.inv_divInt, Rat.divInt_mul_divInt]
theorem val_nonneg (h : Ok n p) : 0 ≤ val p ↔ 0 ≤ p.1 := Rat.divInt_nonneg_iff_of_pos_right h.1
theorem val_neg (h : Ok n p) : val p < 0 ↔ p.1 < 0 := by have := val_nonneg h; constructor <;> intro _ <;> grind
theorem val_nonpos (h : Ok n p) : val p ≤ 0 ↔ p.1 ≤ 0 := by
  have h2 : Ok n (-p.1, p.2) := ⟨h.1, h.2.1.neg, h.2.2⟩
  have := val_nonneg h2
  have e : val (-p.1, p.2) = - val p := (Rat.neg_divInt p.1 p.2).symm
  rw [e] at this
  constructor <;> intro _ <;> grind
theorem val_pos (h : Ok n p) : 0 < val p ↔ 0 < p.1 := by have := val_nonpos h; constructor <;> intro _ <;> grind
variable (h : Ok n p) (g : Ok m q) (hn : n + m < 900000)
include h g hn
end
theorem lt2_small {n : Nat} {a : Int} (h0 : -(2 ^ n) < a) (h : a < 2 ^ n) : Lt2 n a := by
  unfold Lt2
  have : ((2 ^ n : Nat) : Int) = 2 ^ n := by simp
  omega
theorem divInt_pos' {a b : Int} (ha : 0 < a) (hb : 0 < b) : 0 < Rat.divInt a b := by
  have ok : Ok (a.natAbs + b.natAbs) (a, b) := ⟨hb, ⟨Nat.lt_of_le_of_lt (by simp only; omega) Nat.lt_two_pow_self, Nat.lt_of_le_of_lt (by simp only; omega) Nat.lt_two_pow_self⟩⟩
  exact (val_pos ok).mpr ha
theorem divInt_neg' {a b : Int} (ha : a < 0) (hb : 0 < b) : Rat.divInt a b < 0 := by
  have ok : Ok (a.natAbs + b.natAbs) (a, b) := ⟨hb, ⟨Nat.lt_of_le_of_lt (by simp only; omega) Nat.lt_two_pow_self, Nat.lt_of_le_of_lt (by simp only; omega) Nat.lt_two_pow_self⟩⟩
  exact (val_neg ok).mpr ha
@[simp] theorem pr_at0 (p : P2) : ixP (pr p) (.int 0) = some (.int p.1) := by simp [pr]
@[simp] theorem pr_at1 (p : P2) : ixP (pr p) (.int 1) = some (.int p.2) := by simp [pr]
@[simp] theorem fr_at0 (q : Rat) : ixP (fr q) (.int 0) = some (.int q.num) := by simp [fr]
@[simp] theorem fr_at1 (q : Rat) : ixP (fr q) (.int 1) = some (.int q.den) := by simp [fr]
theorem lcN_st {α : Type} {g : CG} {elt : CE} {ρ : Rho} (e : α → PyData) (f : α → Rho) (h : α → PyData) : ∀ (l : List α), (∀ x ∈ l, ∀ S, g (.d (e x)) ρ S = some (f x, S)) → (∀ x ∈ l, ∀ S, ∃ S', elt (f x) S = some (.d (h x), S')) → ∀ S, ∃ S', lcN g yesB elt ρ (l.map e) S = some (l.map h, S')
  | [], _, _, S => ⟨S, rfl⟩
  | x :: l, hg, he, S => by
    obtain ⟨S1, e1⟩ := he x List.mem_cons_self S
    obtain ⟨S2, e2⟩ := lcN_st e f h l (fun y m => hg y (List.mem_cons_of_mem _ m)) (fun y m => he y (List.mem_cons_of_mem _ m)) S1
    refine ⟨S2, ?_⟩
    rw [List.map_cons, x_lcN, hg x List.mem_cons_self, Option.bind_some, x_yes, Option.bind_some, if_pos rfl, e1, Option.bind_some]
    show (lcN g yesB elt ρ (l.map e) S1).bind _ = _
    rw [e2]; rfl
theorem sz_lt {n : Nat} {a b : Int} (hb : 0 < b) (ha : a.natAbs < 2 ^ n) (hb2 : b.natAbs < 2 ^ n) : Sz n (Rat.divInt a b) := sz_divInt (by omega) ha hb2
theorem sign_cases' {b : Int} (hb : b ≠ 0) : (0 < b ∧ b.sign = 1) ∨ (b < 0 ∧ b.sign = -1) := by
  rcases Int.lt_trichotomy b 0 with h | h | h
  · exact .inr ⟨h, Int.sign_eq_neg_one_of_neg h⟩
  · exact absurd h hb
  · exact .inl ⟨h, Int.sign_eq_one_of_pos h⟩
theorem sz_val {n : Nat} {p : P2} (h : Ok n p) : Sz n (val p) := sz_divInt h.ne h.2.1 h.2.2
theorem sz_sumP {n m : Nat} {a b : Rat} (ha : Sz n a) (hb : Sz m b) : Sz (n + m + 1) (a + b) := by
  have := sz_val (ok_sum (ok_nd ha) (ok_nd hb))
  rwa [val_sum (ok_nd ha) (ok_nd hb), val_nd, val_nd] at this
theorem sz_mulP {n m : Nat} {p : P2} {b : Rat} (ha : Ok n p) (hb : Sz m b) : Sz (n + m) (val p * b) := by
  have := sz_val (ok_by ha (ok_nd hb))
  rwa [val_by, val_nd] at this
end Prog

/-! M1: the program's fractions (over Prog.T with the defs is_whole .. is_below). -/
namespace Prog
open PySem PySem.Spec PyProof.Rows L2 PD
theorem r_is_whole (k : Nat) (x : PyData) (S : Sto) (h : isDictD x = false) : run T (k + 1) "is_whole" [.d x] S = some (.d (.bool (isIntD x)), S) := by
  rw [u_is_whole]
  refine run_ret (ρ := [some (.d x)]) ?_
  cases x <;> first | (simp [isDictD] at h; done) | simp [b_is_whole, startR]
theorem r_common2 (k : Nat) (a b : Int) (S : Sto) : run T (k + 1) "common_part" [.d (.list [.int a, .int b])] S = some (.d (.int ((Int.gcd a b : Nat) : Int)), S) := by
  rw [u_common_part]
  refine run_ret (ρ := [some (.d (.list [.int a, .int b])), some (.d (.int ((Int.gcd a b : Nat) : Int))), some (.d (.int b))]) ?_
  simp [b_common_part, startR, x_forN, Int.gcd]
theorem r_lowest2 (k : Nat) (a b : Int) (S : Sto) (h : divOk ((Int.gcd a b : Nat) : Int) = true) : run T (k + 2) "lowest" [.d (.list [.int a, .int b])] S = some (.d (.tuple [.int (a.fdiv (Int.gcd a b : Nat)), .int (b.fdiv (Int.gcd a b : Nat))]), S) := by
  rw [u_lowest]
  refine run_ret (ρ := [some (.d (.list [.int a, .int b])), some (.d (.int ((Int.gcd a b : Nat) : Int))), none]) ?_
  simp [b_lowest, startR, r_common2, x_lc, x_lcN, wipeR, h]
theorem sign_cases {b : Int} (hb : b ≠ 0) : (0 < b ∧ b.sign = 1) ∨ (b < 0 ∧ b.sign = -1) := by
  rcases Int.lt_trichotomy b 0 with h | h | h
  · exact .inr ⟨h, Int.sign_eq_neg_one_of_neg h⟩
  · exact absurd h hb
  · exact .inl ⟨h, Int.sign_eq_one_of_pos h⟩
theorem mulOk_one (f a : Int) {n : Nat} (hf : f = 1 ∨ f = -1) (ha : Lt2 n a) (hn : n < 9000) : mulOk f a = true :=
  mulOk_of (n := 1) (m := n) (by rcases hf with rfl | rfl <;> (unfold Lt2; decide)) ha
theorem r_lowest_over {n : Nat} (k : Nat) {a b : Int} (hb : b ≠ 0) (ha : Lt2 n a) (hb' : Lt2 n b) (hn : n < 9000) (S : Sto) :
    run T (k + 3) "lowest_over" [.d (.list [.int a]), .d (.int b)] S = some (.d (fr (Rat.divInt a b)), S) := by
  rw [u_lowest_over]
  have hg0 : Int.gcd a b ≠ 0 := fun e => hb (Int.gcd_eq_zero_iff.mp e).2
  have hgl : Lt2 n ((Int.gcd a b : Nat) : Int) := by
    unfold Lt2
    rw [Int.natAbs_natCast]
    exact Nat.lt_of_le_of_lt (Nat.gcd_le_right _ (Int.natAbs_pos.mpr hb)) hb'
  have hdo : divOk ((Int.gcd a b : Nat) : Int) = true := divOk_of (by omega) hgl hn
  have fdv : ∀ z : Int, z.fdiv ((Int.gcd a b : Nat) : Int) = z / ((Int.gcd a b : Nat) : Int) := fun z => Int.fdiv_eq_ediv_of_nonneg z (by omega)
  have res : ∀ f : Int, f = b.sign → (f * a).fdiv ((Int.gcd a b : Nat) : Int) = (Rat.divInt a b).num ∧ (f * b).fdiv ((Int.gcd a b : Nat) : Int) = ((Rat.divInt a b).den : Int) := by
    rintro f rfl
    have es : b.sign * b = (b.natAbs : Int) := by
      rcases sign_cases hb with ⟨h, e⟩ | ⟨h, e⟩ <;> rw [e] <;> omega
    rw [fdv, fdv, Rat.num_divInt, Rat.den_divInt, if_neg hb, Int.gcd_comm b a, es]
    exact ⟨rfl, (Int.natCast_ediv _ _).symm⟩
  have go : ∀ f : Int, f = b.sign → (f = 1 ∨ f = -1) → run T (k + 2) "lowest" [.d (.list [.int (f * a), .int (f * b)])] S = some (.d (fr (Rat.divInt a b)), S) := by
    intro f hf hf1
    have hgg : Int.gcd (f * a) (f * b) = Int.gcd a b := by
      rcases hf1 with rfl | rfl
      · rw [Int.one_mul, Int.one_mul]
      · rw [Int.neg_mul, Int.one_mul, Int.neg_mul, Int.one_mul, Int.neg_gcd, Int.gcd_neg]
    rw [r_lowest2 k _ _ S (by rw [hgg]; exact hdo), hgg, (res f hf).1, (res f hf).2]
    rfl
  rcases sign_cases hb with ⟨h, hs⟩ | ⟨h, hs⟩
  · refine run_ret (ρ := [some (.d (.list [.int a])), some (.d (.int b)), some (.d (.int 1)), none]) ?_
    have g1 := go 1 hs.symm (.inl rfl)
    have m1 := mulOk_one 1 a (.inl rfl) ha hn
    have m2 := mulOk_one 1 b (.inl rfl) hb' hn
    rw [Int.one_mul, Int.one_mul] at g1
    simp [b_lowest_over, startR, h, x_lc, x_lcN, wipeR, m1, m2, g1]
  · refine run_ret (ρ := [some (.d (.list [.int a])), some (.d (.int b)), some (.d (.int (-1))), none]) ?_
    have hn' : ¬ 0 < b := by omega
    have g1 := go (-1) hs.symm (.inr rfl)
    have m1 := mulOk_one (-1) a (.inr rfl) ha hn
    have m2 := mulOk_one (-1) b (.inr rfl) hb' hn
    rw [Int.neg_mul, Int.one_mul, Int.neg_mul, Int.one_mul] at g1
    simp [b_lowest_over, startR, hn', x_lc, x_lcN, wipeR, m1, m2, g1]
theorem r_ratio {n : Nat} (k : Nat) {a b : Int} (hb : b ≠ 0) (ha : Lt2 n a) (hb' : Lt2 n b) (hn : n < 9000) (S : Sto) :
    run T (k + 4) "ratio" [.d (.int a), .d (.int b)] S = some (.d (fr (Rat.divInt a b)), S) := by
  rw [u_ratio]
  refine run_ret (ρ := [some (.d (.int a)), some (.d (.int b))]) ?_
  simp [b_ratio, startR, r_lowest_over k hb ha hb' hn]
theorem q_add (a b : Rat) : Rat.divInt (a.num * b.den + b.num * a.den) (a.den * b.den) = a + b := by
  have := Rat.divInt_add_divInt a.num b.num (d₁ := a.den) (d₂ := b.den) (by have := a.den_nz; omega) (by have := b.den_nz; omega)
  rw [Rat.num_divInt_den, Rat.num_divInt_den] at this
  exact this.symm
theorem q_sub (a b : Rat) : Rat.divInt (a.num * b.den - b.num * a.den) (a.den * b.den) = a - b := by
  have := Rat.divInt_sub_divInt a.num b.num (d₁ := a.den) (d₂ := b.den) (by have := a.den_nz; omega) (by have := b.den_nz; omega)
  rw [Rat.num_divInt_den, Rat.num_divInt_den] at this
  exact this.symm
theorem q_mul (a b : Rat) : Rat.divInt (a.num * b.num) (a.den * b.den) = a * b := by
  have := Rat.divInt_mul_divInt a.num b.num (d₁ := a.den) (d₂ := b.den)
  rw [Rat.num_divInt_den, Rat.num_divInt_den] at this
  exact this.symm
theorem q_div (a b : Rat) : Rat.divInt (a.num * b.den) (a.den * b.num) = a / b := by
  have := Rat.divInt_mul_divInt a.num b.den (d₁ := a.den) (d₂ := b.num)
  rw [Rat.num_divInt_den, ← Rat.inv_divInt, Rat.num_divInt_den, ← Rat.div_def] at this
  exact this.symm
section
variable {n m : Nat} {a b : Rat}
theorem den_ne (a : Rat) : (a.den : Int) ≠ 0 := by have := a.den_nz; omega
theorem den2_ne (a b : Rat) : (a.den : Int) * b.den ≠ 0 := Int.mul_ne_zero (den_ne a) (den_ne b)
theorem cross_add (ha : Sz n a) (hb : Sz m b) : Lt2 (n + m + 1) (a.num * b.den + b.num * a.den) := by
  have := (ha.1.mul hb.2).add (hb.1.mul ha.2)
  exact this.mono (by omega)
theorem cross_sub (ha : Sz n a) (hb : Sz m b) : Lt2 (n + m + 1) (a.num * b.den - b.num * a.den) := by
  have := (ha.1.mul hb.2).sub (hb.1.mul ha.2)
  exact this.mono (by omega)
theorem r_plus (k : Nat) (ha : Sz n a) (hb : Sz m b) (hn : n + m < 8990) (S : Sto) : run T (k + 5) "plus" [.d (fr a), .d (fr b)] S = some (.d (fr (a + b)), S) := by
  rw [u_plus]
  refine run_ret (ρ := [some (.d (fr a)), some (.d (fr b))]) ?_
  have r1 := r_ratio k (den2_ne a b) (cross_add ha hb) ((ha.2.mul hb.2).mono (by omega)) (by omega) S
  rw [q_add] at r1
  simp [b_plus, startR, fr, mulOk_of ha.1 hb.2, mulOk_of hb.1 ha.2, mulOk_of ha.2 hb.2, r1]
theorem r_minus (k : Nat) (ha : Sz n a) (hb : Sz m b) (hn : n + m < 8990) (S : Sto) : run T (k + 5) "minus" [.d (fr a), .d (fr b)] S = some (.d (fr (a - b)), S) := by
  rw [u_minus]
  refine run_ret (ρ := [some (.d (fr a)), some (.d (fr b))]) ?_
  have r1 := r_ratio k (den2_ne a b) (cross_sub ha hb) ((ha.2.mul hb.2).mono (by omega)) (by omega) S
  rw [q_sub] at r1
  simp [b_minus, startR, fr, mulOk_of ha.1 hb.2, mulOk_of hb.1 ha.2, mulOk_of ha.2 hb.2, r1]
theorem r_times (k : Nat) (ha : Sz n a) (hb : Sz m b) (hn : n + m < 8990) (S : Sto) : run T (k + 5) "times" [.d (fr a), .d (fr b)] S = some (.d (fr (a * b)), S) := by
  rw [u_times]
  refine run_ret (ρ := [some (.d (fr a)), some (.d (fr b))]) ?_
  have r1 := r_ratio k (den2_ne a b) (ha.1.mul hb.1) (ha.2.mul hb.2) (by omega) S
  rw [q_mul] at r1
  simp [b_times, startR, fr, mulOk_of ha.1 hb.1, mulOk_of ha.2 hb.2, r1]
theorem r_divided (k : Nat) (h0 : b ≠ 0) (ha : Sz n a) (hb : Sz m b) (hn : n + m < 8990) (S : Sto) : run T (k + 5) "divided" [.d (fr a), .d (fr b)] S = some (.d (fr (a / b)), S) := by
  rw [u_divided]
  refine run_ret (ρ := [some (.d (fr a)), some (.d (fr b))]) ?_
  have hbn : b.num ≠ 0 := fun e => h0 (Rat.num_eq_zero.mp e)
  have r1 := r_ratio k (Int.mul_ne_zero (den_ne a) hbn) (ha.1.mul hb.2) (ha.2.mul hb.1) (by omega) S
  rw [q_div] at r1
  simp [b_divided, startR, fr, mulOk_of ha.1 hb.2, mulOk_of ha.2 hb.1, r1]
theorem r_is_below (k : Nat) (ha : Sz n a) (hb : Sz m b) (hn : n + m < 8990) (S : Sto) : run T (k + 1) "is_below" [.d (fr a), .d (fr b)] S = some (.d (.bool (decide (a < b))), S) := by
  rw [u_is_below]
  refine run_ret (ρ := [some (.d (fr a)), some (.d (fr b))]) ?_
  simp [b_is_below, startR, fr, mulOk_of ha.1 hb.2, mulOk_of hb.1 ha.2, Rat.lt_iff]
theorem sz_add (ha : Sz n a) (hb : Sz m b) : Sz (n + m + 1) (a + b) := by
  rw [← q_add]; exact sz_divInt (den2_ne a b) (cross_add ha hb) ((ha.2.mul hb.2).mono (by omega))
theorem sz_sub (ha : Sz n a) (hb : Sz m b) : Sz (n + m + 1) (a - b) := by
  rw [← q_sub]; exact sz_divInt (den2_ne a b) (cross_sub ha hb) ((ha.2.mul hb.2).mono (by omega))
theorem sz_mul (ha : Sz n a) (hb : Sz m b) : Sz (n + m) (a * b) := by
  rw [← q_mul]; exact sz_divInt (den2_ne a b) (ha.1.mul hb.1) (ha.2.mul hb.2)
theorem sz_div (h0 : b ≠ 0) (ha : Sz n a) (hb : Sz m b) : Sz (n + m) (a / b) := by
  rw [← q_div]; exact sz_divInt (Int.mul_ne_zero (den_ne a) fun e => h0 (Rat.num_eq_zero.mp e)) (ha.1.mul hb.2) (ha.2.mul hb.1)
end
end Prog

/-! M2: the program's kinds (is_fraction .. flow_by). -/
namespace Prog
open PySem PySem.Spec PyProof.Rows L2 PD
abbrev Cr := Rat × Rat
def co (c : Cr) : PyData := .tuple [fr c.1, fr c.2]
def kd (ks : List Cr) : PyData := .tuple (ks.map co)
theorem r_are_wholes (k : Nat) (i j : Int) (S : Sto) : run T (k + 2) "are_wholes" [.d (.tuple [.int i, .int j]), .d (.int 2)] S = some (.d (.bool true), S) := by
  rw [u_are_wholes]
  refine run_ret (ρ := [some (.d (.tuple [.int i, .int j])), some (.d (.int 2)), none]) ?_
  have w : ∀ z : Int, run T (k + 1) "is_whole" [.d (.int z)] S = some (.d (.bool true), S) := fun z => r_is_whole k (.int z) S rfl
  simp [b_are_wholes, startR, x_lc, x_lcN, wipeR, w]
theorem r_is_fraction (k : Nat) (q : Rat) (S : Sto) : run T (k + 3) "is_fraction" [.d (fr q)] S = some (.d (.bool true), S) := by
  rw [u_is_fraction]
  refine run_ret (ρ := [some (.d (fr q))]) ?_
  have h1 : (0 : Int) < (q.den : Int) := by have := q.den_pos; omega
  have h2 : (Nat.gcd q.num.natAbs ((q.den : Int).natAbs) : Nat) = 1 := by rw [Int.natAbs_natCast]; exact q.reduced
  simp [b_is_fraction, startR, fr, r_are_wholes, h1, h2]
  have := q.reduced
  have h3 := q.den_pos
  unfold Nat.Coprime at this
  simp [this, h3]
theorem r_are_fractions (k : Nat) (c : Cr) (S : Sto) : run T (k + 4) "are_fractions" [.d (co c), .d (.int 2)] S = some (.d (.bool true), S) := by
  rw [u_are_fractions]
  refine run_ret (ρ := [some (.d (co c)), some (.d (.int 2)), none]) ?_
  simp [b_are_fractions, startR, co, x_lc, x_lcN, wipeR, r_is_fraction]
theorem r_is_corner (k : Nat) (c : Cr) (S : Sto) : run T (k + 5) "is_corner" [.d (co c)] S = some (.d (.bool true), S) := by
  rw [u_is_corner]
  refine run_ret (ρ := [some (.d (co c))]) ?_
  simp [b_is_corner, startR, r_are_fractions]
def slope (c d : Cr) : Rat := (d.2 - c.2) / (d.1 - c.1)
def speeds (ks : List Cr) : List Rat := (prs ks).map fun p => slope p.1 p.2
def CSz (n : Nat) (c : Cr) : Prop := Sz n c.1 ∧ Sz n c.2
theorem r_slope_of {n : Nat} (k : Nat) {c d : Cr} (hc : CSz n c) (hd : CSz n d) (h : c.1 < d.1) (hn : n < 2000) (S : Sto) : run T (k + 6) "slope_of" [.d (co c), .d (co d)] S = some (.d (fr (slope c d)), S) := by
  rw [u_slope_of]
  refine run_ret (ρ := [some (.d (co c)), some (.d (co d))]) ?_
  have h0 : d.1 - c.1 ≠ 0 := by grind
  have m1 := r_minus k hd.2 hc.2 (by omega) S
  have m2 := r_minus k hd.1 hc.1 (by omega) S
  have m3 := r_divided k h0 (sz_sub hd.2 hc.2) (sz_sub hd.1 hc.1) (by omega) S
  simp [b_slope_of, startR, co, m1, m2, m3, slope]
theorem sz_slope {n : Nat} {c d : Cr} (hc : CSz n c) (hd : CSz n d) (h : c.1 < d.1) : Sz (4 * n + 2) (slope c d) := by
  have h0 : d.1 - c.1 ≠ 0 := by grind
  exact (sz_div h0 (sz_sub hd.2 hc.2) (sz_sub hd.1 hc.1)).mono (by omega)
/-- a kind of road, its numbers of a size -/
structure Kd (n : Nat) (ks : List Cr) : Prop where
  len3 : 3 ≤ ks.length
  len12 : ks.length ≤ 12
  size : ∀ c ∈ ks, CSz n c
  head : ∃ r, ks = (0, 0) :: r
  last : ∃ r d, ks = r ++ [(d, 0)]
  pos : ∀ c ∈ ks.tail.dropLast, 0 < c.2
  asc : ∀ p ∈ prs ks, p.1.1 < p.2.1
  conc : ∀ p ∈ prs (speeds ks), p.2 < p.1
theorem fr0 : fr 0 = .tuple [.int 0, .int 1] := rfl
theorem r_kind_speeds {n : Nat} (k : Nat) {ks : List Cr} (h : Kd n ks) (hn : n < 2000) (S : Sto) : run T (k + 7) "kind_speeds" [.d (kd ks)] S = some (.d (.tuple ((speeds ks).map fr)), S) := by
  rw [u_kind_speeds]
  refine run_ret (ρ := [some (.d (kd ks)), none, none]) ?_
  have hne : ks.map co ≠ [] := by have := h.len3; intro e; rw [List.map_eq_nil_iff] at e; subst e; simp at this
  have hz : zipD (ks.map co) (cutP (ks.map co) (some 1) none) = (prs ks).map fun p => .tuple [co p.1, co p.2] := by rw [drop1_cut _ hne, zipD_prs]
  have hl : (prs ks).length ≤ 100000 := by rw [prs_len]; have := h.len12; omega
  have lc := lcN_each (g := tupG 2 (consG (nameG 1) (consG (nameG 2) nilG))) (elt := appE (callF (c_slope_of (PD.run T (k + 6)))) (consL (varE 1) (consL (varE 2) nilL))) (ρ := [some (.d (kd ks)), none, none]) (S := S)
    (fun p : Cr × Cr => PyData.tuple [co p.1, co p.2]) (fun p => [some (.d (kd ks)), some (.d (co p.1)), some (.d (co p.2))]) (fun p => fr (slope p.1 p.2)) (prs ks) (fun p m => by simp) (fun p m => by
      have q := prs_mem m
      simp [r_slope_of k (h.size _ q.1) (h.size _ q.2) (h.asc p m) hn])
  simp [b_kind_speeds, startR, x_lc, wipeR, kd] at lc ⊢
  simp [hz, hl, lc, speeds]
theorem eqv_co0 : neP (co (0, 0)) (.tuple [.tuple [.int 0, .int 1], .tuple [.int 0, .int 1]]) = some (.bool false) := by unfold neP; rw [if_pos (by rfl)]; rfl
theorem eqv_q0 : neP (.tuple [.int 0, .int 1]) (.tuple [.int 0, .int 1]) = some (.bool false) := by unfold neP; rw [if_pos (by rfl)]; rfl
theorem prs_zip {α : Type} (f : α → PyData) (l : List α) (h : 1 ≤ l.length) : zipD (l.map f) (cutP (l.map f) (some 1) none) = (prs l).map fun p => .tuple [f p.1, f p.2] := by
  rw [drop1_cut _ (by intro e; rw [List.map_eq_nil_iff] at e; subst e; simp at h), zipD_prs]
theorem sz_speed {n : Nat} {ks : List Cr} (h : Kd n ks) : ∀ q ∈ speeds ks, Sz (4 * n + 2) q := by
  intro q m
  obtain ⟨p, m', rfl⟩ := List.mem_map.mp m
  have := prs_mem m'
  exact sz_slope (h.size _ this.1) (h.size _ this.2) (h.asc p m')
theorem r_is_kind {n : Nat} (k : Nat) {ks : List Cr} (h : Kd n ks) (hn : n < 1000) (S : Sto) : run T (k + 8) "is_kind" [.d (kd ks)] S = some (.d (.bool true), S) := by
  rw [u_is_kind]
  have l3 := h.len3
  have l12 := h.len12
  have a0 : atI (ks.map co) 0 = some (co (0, 0)) := by obtain ⟨r, rfl⟩ := h.head; rw [List.map_cons]; exact at0 _ _
  obtain ⟨d, a1⟩ : ∃ d, atI (ks.map co) (-1) = some (co (d, 0)) := by obtain ⟨r, d, rfl⟩ := h.last; exact ⟨d, by rw [List.map_append]; exact at_last _ _⟩
  have z1 := prs_zip co ks (by omega)
  have z2 := prs_zip fr (speeds ks) (by unfold speeds; rw [List.length_map, prs_len]; omega)
  have lp : (prs ks).length ≤ 100000 := by rw [prs_len]; omega
  have ls : (prs (speeds ks)).length ≤ 100000 := by rw [prs_len]; unfold speeds; rw [List.length_map, prs_len]; omega
  have cm : cutP (ks.map co) (some 1) (some (-1)) = ks.tail.dropLast.map co := by rw [cut_mid _ (by simp; omega)]; simp
  have lm : (ks.tail.dropLast).length ≤ 100000 := by simp; omega
  have rest : ∀ c ∈ ks.tail.dropLast, ¬ c.2.num ≤ 0 := fun c m => by have := h.pos c m; rw [Rat.lt_iff] at this; simpa using this
  generalize ks.tail.dropLast = mid at cm lm rest
  have lk : ks.length ≤ 100000 := by omega
  have c1 : (3 : Int) ≤ ks.length := by omega
  have c2 : (ks.length : Int) ≤ 12 := by omega
  have hk := r_kind_speeds k h (by omega) S
  refine run_ret (ρ := [some (.d (kd ks)), some (.d (.tuple ((speeds ks).map fr))), none, none, none]) ?_
  simp only [kd] at hk ⊢
  simp [b_is_kind, startR, kd, x_lc, wipeR, lk, c1, c2]
  rw [lcN_none co (fun c => [some (.d (.tuple (ks.map co))), none, some (.d (co c)), none, none]) ks (fun c m => by simp) (fun c m => by simp [r_is_corner])]
  simp [x_lc, wipeR, a0, a1, cm, eqv_co0]
  simp [co, fr0, eqv_q0, lm, cm]
  rw [lcN_none co (fun c => [some (.d (.tuple (ks.map co))), none, some (.d (co c)), none, none]) mid (fun c m => by simp [co]) (fun c m => by simp [co, fr]; have := rest c m; omega)]
  simp [x_lc, wipeR, z1, lp]
  rw [lcN_none (fun p : Cr × Cr => PyData.tuple [co p.1, co p.2]) (fun p => [some (.d (.tuple (ks.map co))), none, some (.d (co p.1)), some (.d (co p.2)), none]) (prs ks) (fun p m => by simp) (fun p m => by
    have q := prs_mem m
    have b := r_is_below (k + 6) (h.size _ q.1).1 (h.size _ q.2).1 (by omega) S
    simp [co, b, h.asc p m])]
  simp [x_lc, wipeR, hk, z2, ls]
  rw [lcN_none (fun p : Rat × Rat => PyData.tuple [fr p.1, fr p.2]) (fun p => [some (.d (.tuple (ks.map co))), some (.d (.tuple ((speeds ks).map fr))), none, some (.d (fr p.2)), some (.d (fr p.1))]) (prs (speeds ks)) (fun p m => by simp) (fun p m => by
    have q := prs_mem m
    have b := r_is_below (k + 6) (sz_speed h _ q.2) (sz_speed h _ q.1) (by omega) S
    simp [b, h.conc p m])]
  simp
theorem r_check_kind {n : Nat} (k : Nat) {ks : List Cr} (h : Kd n ks) (hn : n < 1000) (S : Sto) : run T (k + 9) "check_kind" [.d (kd ks)] S = some (.d .none, S) := by
  rw [u_check_kind]
  refine run_nx (ρ := [some (.d (kd ks))]) ?_
  simp [b_check_kind, startR, r_is_kind k h hn]
/-- the full density of a kind -/
def fullD (ks : List Cr) : Rat := (ks.getLast?.getD (0, 0)).1
theorem at_lastD {ks : List Cr} (h : ks ≠ []) : atI (ks.map co) (-1) = some (co (ks.getLast?.getD (0, 0))) := by
  obtain ⟨r, c, rfl⟩ : ∃ r c, ks = r ++ [c] := ⟨_, _, (List.dropLast_concat_getLast h).symm⟩
  rw [List.map_append, List.map_singleton, at_last]
  simp
/-- the flow at a density, by the corners -/
def flowL : Cr → List Cr → Rat → Rat
  | _, [], _ => 0
  | last, c :: r, d => if c.1 < d then flowL c r d else last.2 + slope last c * (d - last.1)
def flow : List Cr → Rat → Rat
  | [], _ => 0
  | c :: r, d => flowL c r d
theorem sz_piece {n m : Nat} {c d : Cr} {q : Rat} (hc : CSz n c) (hd : CSz n d) (h : c.1 < d.1) (hq : Sz m q) : Sz (6 * n + m + 4) (c.2 + slope c d * (q - c.1)) :=
  (sz_add hc.2 (sz_mul (sz_slope hc hd h) (sz_sub hq hc.1))).mono (by omega)
theorem sz_flowL {n m : Nat} {q : Rat} (hq : Sz m q) : ∀ (r : List Cr) (last : Cr), (∀ c ∈ last :: r, CSz n c) → (∀ p ∈ prs (last :: r), p.1.1 < p.2.1) → Sz (6 * n + m + 4) (flowL last r q)
  | [], _, _, _ => ⟨(show Lt2 1 0 by unfold Lt2; decide).mono (by omega), (show Lt2 1 1 by unfold Lt2; decide).mono (by omega)⟩
  | c :: r, last, h1, h2 => by
    unfold flowL
    by_cases hc : c.1 < q
    · rw [if_pos hc]; exact sz_flowL hq r c (fun d m => h1 d (List.mem_cons_of_mem _ m)) (fun p m => h2 p (List.mem_cons_of_mem _ m))
    · rw [if_neg hc]; exact sz_piece (h1 last List.mem_cons_self) (h1 c (List.mem_cons_of_mem _ List.mem_cons_self)) (h2 (last, c) List.mem_cons_self) hq
theorem Kd.ne {n : Nat} {ks : List Cr} (h : Kd n ks) : ks ≠ [] := by have := h.len3; intro e; subst e; simp at this
theorem sz_flow {n m : Nat} {ks : List Cr} {q : Rat} (h : Kd n ks) (hq : Sz m q) : Sz (6 * n + m + 4) (flow ks q) := by
  cases ks with
  | nil => exact absurd rfl h.ne
  | cons c r => exact sz_flowL hq r c h.size h.asc
theorem Kd.fullsz {n : Nat} {ks : List Cr} (h : Kd n ks) : Sz n (fullD ks) := by
  obtain ⟨r, d, e⟩ := h.last
  have := h.size (d, 0) (by rw [e]; simp)
  subst e
  simpa [fullD] using this.1
/-- the road is bare there -/
def Bare (ks js : List Cr) (d : Rat) : Prop := ¬ fullD ks < d ∧ ¬ fullD js < d ∧ flow ks d < flow js d
instance (ks js : List Cr) (d : Rat) : Decidable (Bare ks js d) := by unfold Bare; infer_instance
def bare (ks js : List Cr) : Option Rat := ((ks ++ js).map Prod.fst).find? fun d => decide (Bare ks js d)
def bareD : Option Rat → PyData
  | none => .none
  | some q => fr q
theorem isNone_bareD (o : Option Rat) : isNone (.d (bareD o)) = o.isNone := by cases o <;> rfl
end Prog

/-! M3d (over D0): the law's own dice, fractions and kinds. -/
namespace Prog
open PySem PySem.Spec PyProof.Rows L2 PD
/-! ### the dice -/
theorem r_tap {m : Nat} (k : Nat) {t : Dice} (h : Dok m t) (hm : m < 1000000) (top : Int) (ht : 0 < top) (ht2 : top < 1073741824) (S0 r : Sto) : ∃ d t', 0 ≤ d ∧ d < top ∧ Dok (m + 1) t' ∧
    run T (k + 1) "_law_tap" [.m S0.length, .d (.int top)] (S0 ++ cellD t :: r) = some (.d (.int d), S0 ++ cellD t' :: r) := by
  obtain ⟨a, b, c⟩ := t
  obtain ⟨h1, h2, h3, h4⟩ := h
  simp only at h1 h2 h3 h4
  rw [u_L_tap]
  by_cases ha : 0 < a
  · refine ⟨a % top, (a / top, b, c), Int.emod_nonneg a (by omega), Int.emod_lt_of_pos a ht, ⟨h1, h2, h3, by simp only; omega⟩, ?_⟩
    rw [x_run]
    simp [b_L_tap, startR, cellD, ha, ht, ht2, x_sub1, ixN]
  · have s1 := tap_lt b 30011 (by omega)
    have s2 := tap_lt (b * (b.fmod 30011 + 20011) + 50021 * (c + 1) + 3) 2147483629 (by omega)
    have s3 := tap_lt (((b * (b.fmod 30011 + 20011) + 50021 * (c + 1) + 3).fmod 2147483629).fdiv 97) top ht
    refine ⟨_, (a, (b * (b.fmod 30011 + 20011) + 50021 * (c + 1) + 3).fmod 2147483629, c + 1), s3.1, s3.2, ⟨s2.1, s2.2, by simp only; omega, by simp only; omega⟩, ?_⟩
    have k1 : mulOk b (b.fmod 30011 + 20011) = true := mulOk_small (by omega) (by omega)
    have k2 : mulOk 50021 (c + 1) = true := mulOk_small (by omega) (by omega)
    have k3 : divOk 97 = true := divOk_small (by omega) (by omega)
    have t0 : top ≠ 0 := by omega
    rw [x_run]
    simp [b_L_tap, startR, cellD, ha, x_sub1, ixN, k1, k2, k3, t0]
theorem r_of {m : Nat} (k : Nat) {t : Dice} (h : Dok m t) (hm : m < 1000000) (xs : List PyData) (h0 : 0 < xs.length) (h1 : xs.length < 1000) (S0 r : Sto) : ∃ x ∈ xs, ∃ t', Dok (m + 1) t' ∧
    run T (k + 2) "_law_of" [.m S0.length, .d (.list xs)] (S0 ++ cellD t :: r) = some (.d x, S0 ++ cellD t' :: r) := by
  obtain ⟨d, t', d0, d1, ht, hr⟩ := r_tap k h hm xs.length (by omega) (by omega) S0 r
  obtain ⟨n, rfl⟩ : ∃ n : Nat, d = n := ⟨d.toNat, by omega⟩
  have hn : n < xs.length := by omega
  refine ⟨xs[n], List.getElem_mem hn, t', ht, ?_⟩
  have ha : atI xs (n : Int) = some xs[n] := atI_nat (List.getElem?_eq_getElem hn)
  rw [u_L_of, x_run]
  simp [b_L_of, startR, hr, ha]
/-! ### cutting -/
theorem r_cut {n : Nat} (k : Nat) {a b : Int} (hb : 0 < b) (ha : Lt2 n a) (hb' : Lt2 n b) (hn : n < 9000) (S : Sto) : run T (k + 1) "_law_cut" [.d (.int a), .d (.int b)] S = some (.d (fr (Rat.divInt a b)), S) := by
  have hb0 : b ≠ 0 := by omega
  have hg0 : Int.gcd a b ≠ 0 := fun e => hb0 (Int.gcd_eq_zero_iff.mp e).2
  have hgl : Lt2 n ((Int.gcd a b : Nat) : Int) := by
    unfold Lt2
    rw [Int.natAbs_natCast]
    exact Nat.lt_of_le_of_lt (Nat.gcd_le_right _ (Int.natAbs_pos.mpr hb0)) hb'
  have hdo : divOk ((Int.gcd a b : Nat) : Int) = true := divOk_of (by omega) hgl hn
  have fdv : ∀ z : Int, z.fdiv ((Int.gcd a b : Nat) : Int) = z / ((Int.gcd a b : Nat) : Int) := fun z => Int.fdiv_eq_ediv_of_nonneg z (by omega)
  have hnb : ¬ b < 0 := by omega
  have hres : fr (Rat.divInt a b) = .tuple [.int (a.fdiv (Int.gcd a b : Nat)), .int (b.fdiv (Int.gcd a b : Nat))] := by
    unfold fr
    rw [fdv, fdv, Rat.num_divInt, Rat.den_divInt, if_neg hb0, Int.gcd_comm b a, Int.sign_eq_one_of_pos hb, Int.one_mul]
    have : ((b.natAbs / Int.gcd a b : Nat) : Int) = b / (Int.gcd a b : Nat) := by rw [Int.natCast_ediv]; congr 1; omega
    rw [← this]
  rw [u_L_cut, x_run]
  simp [b_L_cut, startR, Option.bind_assoc, hnb]
  refine whileS_bind (fun o => o = some (W.d (fr (Rat.divInt a b)), S)) (fun s : Int × Int => [some (.d (.int a)), some (.d (.int b)), some (.d (.int s.1)), some (.d (.int s.2))]) (fun _ => S)
    (fun n s => 0 ≤ s.1 ∧ 0 ≤ s.2 ∧ s.2 < n ∧ Int.gcd s.1 s.2 = Int.gcd a b)
    (fun fl ρ S' => S' = S ∧ fl = .nx ∧ ρ = [some (.d (.int a)), some (.d (.int b)), some (.d (.int ((Int.gcd a b : Nat) : Int))), some (.d (.int 0))]) (if a < 0 then -a else a, b) ?_ rfl rfl ?_ ?_ ?_
  · refine ⟨by simp only; split <;> omega, by simp only; omega, ?_, ?_⟩
    · simp only
      have h2 : b.natAbs < fuel := Nat.lt_of_lt_of_le hb' (by unfold fuel; exact Nat.pow_le_pow_right (by decide) (by omega))
      generalize fuel = f at h2
      omega
    · simp only
      split
      · rw [Int.neg_gcd]
      · rfl
  · rintro ⟨x, y⟩ ⟨_, h2, h3, _⟩
    simp only at h2 h3
    omega
  · rintro j ⟨x, y⟩ ⟨h1, h2, h3, h4⟩
    simp only at h1 h2 h3 h4
    by_cases hy : 0 < y
    · refine .inr ⟨by simp [hy], .nx' (y, x.fmod y) ⟨by simp only; omega, (tap_lt x y hy).1, ?_, ?_⟩ ?_⟩
      · have := (tap_lt x y hy).2
        simp only; omega
      · simp only; rw [gcd_step x y hy h1, h4]
      · have : y ≠ 0 := by omega
        simp [this]
    · have hy0 : y = 0 := by omega
      subst hy0
      refine .inl ⟨by simp, rfl, rfl, ?_⟩
      rw [← h4]
      simp
      omega
  · rintro fl ρ S' ⟨rfl, rfl, rfl⟩
    simp [hdo, hres]
/-! ### pairs, not cut -/
section
variable {n m : Nat} {p q : P2}
variable (h : Ok n p) (g : Ok m q) (hn : n + m < 900000)
include h g hn
theorem r_sum (k : Nat) (S : Sto) : run T (k + 1) "_law_sum" [.d (pr p), .d (pr q)] S = some (.d (pr (sumP2 p q)), S) := by
  rw [u_L_sum]
  refine run_ret (ρ := [some (.d (pr p)), some (.d (pr q))]) ?_
  simp [b_L_sum, startR, pr, sumP2, mulOk_of h.2.1 g.2.2, mulOk_of g.2.1 h.2.2, mulOk_of h.2.2 g.2.2]
theorem r_gap (k : Nat) (S : Sto) : run T (k + 1) "_law_gap" [.d (pr p), .d (pr q)] S = some (.d (pr (gapP2 p q)), S) := by
  rw [u_L_gap]
  refine run_ret (ρ := [some (.d (pr p)), some (.d (pr q))]) ?_
  simp [b_L_gap, startR, pr, gapP2, mulOk_of h.2.1 g.2.2, mulOk_of g.2.1 h.2.2, mulOk_of h.2.2 g.2.2]
theorem r_by (k : Nat) (S : Sto) : run T (k + 1) "_law_by" [.d (pr p), .d (pr q)] S = some (.d (pr (byP2 p q)), S) := by
  rw [u_L_by]
  refine run_ret (ρ := [some (.d (pr p)), some (.d (pr q))]) ?_
  simp [b_L_by, startR, pr, byP2, mulOk_of h.2.1 g.2.1, mulOk_of h.2.2 g.2.2]
theorem r_per (g1 : 0 < q.1) (k : Nat) (S : Sto) : run T (k + 1) "_law_per" [.d (pr p), .d (pr q)] S = some (.d (pr (perP2 p q)), S) := by
  rw [u_L_per]
  refine run_ret (ρ := [some (.d (pr p)), some (.d (pr q))]) ?_
  simp [b_L_per, startR, pr, perP2, g1, mulOk_of h.2.1 g.2.2, mulOk_of h.2.2 g.2.1]
end
theorem r_even {n : Nat} {p : P2} (h : Ok n p) (hn : n < 9000) (k : Nat) (S : Sto) : run T (k + 2) "_law_even" [.d (pr p)] S = some (.d (fr (val p)), S) := by
  rw [u_L_even]
  refine run_ret (ρ := [some (.d (pr p))]) ?_
  simp [b_L_even, startR, pr, r_cut k h.1 h.2.1 h.2.2 hn, val]
end Prog

/-! D1: kinds made corner by corner (plain). -/
namespace Prog
open PySem PySem.Spec PyProof.Rows L2 PD
theorem prs_snoc {α : Type} : ∀ (r : List α) (a b : α), prs ((r ++ [a]) ++ [b]) = prs (r ++ [a]) ++ [(a, b)]
  | [], a, b => rfl
  | [x], a, b => rfl
  | x :: y :: r, a, b => by
    have := prs_snoc (y :: r) a b
    show (x, y) :: prs (((y :: r) ++ [a]) ++ [b]) = (x, y) :: (prs ((y :: r) ++ [a]) ++ [(a, b)])
    rw [this]
theorem prs_snoc_mem {α : Type} {l : List α} {v : α} {p : α × α} (h : p ∈ prs (l ++ [v])) : p ∈ prs l ∨ (p.1 ∈ l ∧ p.2 = v) := by
  rcases List.eq_nil_or_concat l with rfl | ⟨r, a, rfl⟩
  · cases h
  · rw [List.concat_eq_append] at h ⊢
    rw [prs_snoc] at h
    rcases List.mem_append.mp h with h | h
    · exact .inl h
    · rw [List.mem_singleton.mp h]; exact .inr ⟨by simp, rfl⟩
theorem speeds_snoc (r : List Cr) (a b : Cr) : speeds ((r ++ [a]) ++ [b]) = speeds (r ++ [a]) ++ [slope a b] := by
  unfold speeds
  rw [prs_snoc, List.map_append]; rfl
theorem slope_step (k q s w : Rat) (hw : 0 < w) : slope (k, q) (k + w, q + s * w) = s := by
  have : w ≠ 0 := by grind
  simp only [slope]
  rw [show q + s * w - q = s * w by grind, show k + w - k = w by grind, Rat.mul_div_cancel this]
theorem slope_close (k q s : Rat) (hq : 0 < q) (hs : s < 0) : slope (k, q) (k - q / s, 0) = s := by
  have h1 : q ≠ 0 := by grind
  have h2 : s ≠ 0 := by grind
  simp only [slope]
  rw [show k - q / s - k = - (q / s) by grind]
  grind
theorem sz0 : Sz 1 0 := ⟨by unfold Lt2; decide, by unfold Lt2; decide⟩
/-- corners so far, their slopes; the slope that is next is s -/
structure Acc (vs : List Rat) (acc : List Cr) (k q s : Rat) : Prop where
  spd : speeds acc = vs
  head : ∃ r, acc = (0, 0) :: r
  last : ∃ r, acc = r ++ [(k, q)]
  pos : ∀ c ∈ acc.tail, 0 < c.2
  asc : ∀ p ∈ prs acc, p.1.1 < p.2.1
  conc : ∀ p ∈ prs vs, p.2 < p.1
  low : ∀ v ∈ vs, s < v
  beg : vs = [] → q = 0 ∧ 0 < s
theorem speeds_len (l : List Cr) : (speeds l).length = l.length - 1 := by unfold speeds; rw [List.length_map, prs_len]
theorem Acc.snoc {vs : List Rat} {acc : List Cr} {k q s w s' : Rat} (h : Acc vs acc k q s) (hw : 0 < w) (hq : 0 < q + s * w) (hs : s' < s) : Acc (vs ++ [s]) (acc ++ [(k + w, q + s * w)]) (k + w) (q + s * w) s' := by
  obtain ⟨r, hr⟩ := h.last
  obtain ⟨r2, hr2⟩ := h.head
  refine ⟨by rw [hr, speeds_snoc, ← hr, slope_step _ _ _ _ hw, h.spd], ⟨r2 ++ [(k + w, q + s * w)], by rw [hr2]; rfl⟩, ⟨acc, rfl⟩, ?_, ?_, ?_, ?_, fun e => by simp at e⟩
  · intro c m
    rw [hr2] at m
    rcases List.mem_append.mp (show c ∈ r2 ++ [(k + w, q + s * w)] from m) with m | m
    · exact h.pos c (by rw [hr2]; exact m)
    · rw [List.mem_singleton.mp m]; exact hq
  · intro p m
    rw [hr, prs_snoc, ← hr] at m
    rcases List.mem_append.mp m with m | m
    · exact h.asc p m
    · rw [List.mem_singleton.mp m]; show k < k + w; grind
  · intro p m
    rcases prs_snoc_mem m with m | ⟨m, e⟩
    · exact h.conc p m
    · rw [e]; exact h.low _ m
  · intro v m
    rcases List.mem_append.mp m with m | m
    · have := h.low v m; grind
    · rw [List.mem_singleton.mp m]; exact hs
theorem Acc.qpos {vs : List Rat} {acc : List Cr} {k q s : Rat} (h : Acc vs acc k q s) (hi : vs ≠ []) : 0 < q := by
  obtain ⟨r, hr⟩ := h.last
  have l := speeds_len acc
  rw [h.spd] at l
  refine h.pos (k, q) ?_
  subst hr
  cases r with
  | nil => simp at l; exact absurd l hi
  | cons x r => simp
theorem Acc.close {n : Nat} {vs : List Rat} {acc : List Cr} {k q s : Rat} (h : Acc vs acc k q s) (hi : vs ≠ []) (hj : vs.length ≤ 10) (hs : s < 0) (sz : ∀ c ∈ acc, CSz n c) (zf : Sz n (k - q / s)) (hn : 1 ≤ n) : Kd n (acc ++ [(k - q / s, 0)]) ∧ speeds (acc ++ [(k - q / s, 0)]) = vs ++ [s] := by
  have q0 := h.qpos hi
  obtain ⟨r, hr⟩ := h.last
  obtain ⟨r2, hr2⟩ := h.head
  have hd : 0 < q / (-s) := by rw [Rat.div_def]; exact Rat.mul_pos q0 (Rat.inv_pos.mpr (by grind))
  have sl := slope_close k q s q0 hs
  have hkf : k < k - q / s := by
    have : q / (-s) = - (q / s) := by grind
    grind
  generalize k - q / s = f at zf hkf sl
  have l := speeds_len acc
  rw [h.spd] at l
  have l0 : 0 < vs.length := List.length_pos_iff.mpr hi
  have sp : speeds (acc ++ [(f, 0)]) = vs ++ [s] := by rw [hr, speeds_snoc, ← hr, sl, h.spd]
  refine ⟨⟨by rw [List.length_append]; show 3 ≤ acc.length + 1; omega, by rw [List.length_append]; show acc.length + 1 ≤ 12; omega, ?_, ⟨r2 ++ [(f, 0)], by rw [hr2]; rfl⟩, ⟨acc, f, rfl⟩, ?_, ?_, ?_⟩, sp⟩
  · intro c m
    rcases List.mem_append.mp m with m | m
    · exact sz c m
    · rw [List.mem_singleton.mp m]; exact ⟨zf, sz0.mono hn⟩
  · intro c m
    have e : (acc ++ [(f, (0 : Rat))]).tail.dropLast = acc.tail := by rw [hr2]; show (r2 ++ [(f, 0)]).dropLast = r2; exact List.dropLast_concat
    rw [e] at m
    exact h.pos c m
  · intro p m
    rw [hr, prs_snoc, ← hr] at m
    rcases List.mem_append.mp m with m | m
    · exact h.asc p m
    · rw [List.mem_singleton.mp m]; exact hkf
  · intro p m
    rw [sp] at m
    rcases prs_snoc_mem m with m | ⟨m, e⟩
    · exact h.conc p m
    · rw [e]; exact h.low _ m
theorem Acc.start {s : Rat} (h0 : 0 < s) : Acc [] [(0, 0)] 0 0 s := by
  refine ⟨rfl, ⟨[], rfl⟩, ⟨[], rfl⟩, ?_, ?_, ?_, ?_, fun _ => ⟨rfl, h0⟩⟩
  · intro c m; cases m
  · intro c m; cases m
  · intro c m; cases m
  · intro c m; cases m
theorem val_lt {n m : Nat} {p q : P2} (h : Ok n p) (g : Ok m q) : val p < val q ↔ p.1 * q.2 < q.1 * p.2 := by
  have o := ok_gap h g
  have v := val_neg o
  rw [val_gap h g] at v
  simp only [gapP2] at v
  constructor
  · intro z; have := v.mp (by grind); omega
  · intro z; have := v.mpr (by omega); grind
theorem num_le0 (q : Rat) : q.num ≤ 0 ↔ q ≤ 0 := by
  have h := Rat.num_nonneg (q := -q)
  rw [show (-q).num = -q.num from rfl] at h
  constructor
  · intro a; have := h.mp (by omega); grind
  · intro a; have := h.mpr (by grind); omega
theorem num_lt0 (q : Rat) : q.num < 0 ↔ q < 0 := by
  have h := Rat.num_nonneg (q := q)
  constructor
  · intro a; have : ¬ 0 ≤ q := fun z => by have := h.mpr z; omega
    grind
  · intro a; have : ¬ 0 ≤ q.num := fun z => by have := h.mp z; grind
    omega
theorem num_pos' (q : Rat) : 0 < q.num ↔ 0 < q := by
  have h := num_le0 q
  constructor
  · intro a; have : ¬ q ≤ 0 := fun z => by have := h.mpr z; omega
    grind
  · intro a; have : ¬ q.num ≤ 0 := fun z => by have := h.mp z; grind
    omega
theorem cut_init (xs : List PyData) : cutP xs none (some (-1)) = xs.dropLast := by
  unfold cutP HT.sIx
  simp [List.dropLast_eq_take]
  congr 1
  omega
section
variable {S0 r : Sto} {a b c x : Option (List PyData)}
@[simp] theorem st_get2 : (S0 ++ a :: b :: c :: r)[S0.length + 2]? = some c := by simp
@[simp] theorem st_set2 : (S0 ++ a :: b :: c :: r).set (S0.length + 2) x = S0 ++ a :: b :: x :: r := by rw [List.set_append_right _ _ (by omega)]; simp
end
@[simp] theorem rangeD_len (a : Int) (n : Nat) : (rangeD a n).length = n := by unfold rangeD; simp
/-- a loop over range(n), by its index -/
theorem forR_bind {β γ : Type} {g : CG} {b : CS} {ρ0 : Rho} {S0 : Sto} {K : Fl × Rho × Sto → Option γ} (P : Option γ → Prop) (n : Nat) (R : β → Rho) (V : β → Sto) (I : Nat → β → Prop) (out : Fl → Rho → Sto → Prop)
    (s : β) (hI : I 0 s) (hρ : ρ0 = R s) (hS : S0 = V s) (h0 : ∀ s, I n s → out .nx (R s) (V s))
    (h1 : ∀ i s, i < n → I i s → Step R V (I (i + 1)) out ((g (.d (.int (i : Int))) (R s) (V s)).bind fun p => b p.1 p.2))
    (hK : ∀ fl ρ S, out fl ρ S → P (K (fl, ρ, S))) : P ((forN g b (rangeD 0 n) ρ0 S0).bind K) := by
  rw [show rangeD 0 n = (List.range n).map fun i : Nat => PyData.int (i : Int) by unfold rangeD; simp]
  refine forN_bind P (fun i : Nat => PyData.int (i : Int)) R V (fun l s => ∃ i, i + l.length = n ∧ l = List.range' i l.length ∧ I i s) out (List.range n) s ⟨0, by simp, by simp [List.range_eq_range'], hI⟩ hρ hS ?_ ?_ hK
  · rintro s ⟨i, h2, h3, h4⟩
    simp at h2
    subst h2
    exact h0 s h4
  · rintro x l s ⟨i, h2, h3, h4⟩
    rw [List.length_cons, List.range'_succ] at h3
    injection h3 with h5 h6
    subst h5
    rw [List.length_cons] at h2
    have st := h1 x s (by omega) h4
    generalize ((g (.d (.int (x : Int))) (R s) (V s)).bind fun p => b p.1 p.2) = o at st
    cases st with
    | nx s' h => exact .nx s' ⟨x + 1, by omega, h6, h⟩
    | ct s' h => exact .ct s' ⟨x + 1, by omega, h6, h⟩
    | bk h => exact .bk h
    | rt h => exact .rt h
    | ex h => exact .ex h
theorem eqv_fr (a b : Rat) : PyData.eqv (fr a) (fr b) = decide (a = b) := by
  unfold fr
  simp only [PyData.eqv, PyData.eqvAll, Bool.and_true]
  by_cases h : a = b
  · subst h; simp
  · rw [decide_eq_false h]
    by_cases h1 : a.num = b.num
    · have h2 : a.den ≠ b.den := fun z => h (Rat.ext h1 z)
      have h3 : ¬ (a.den : Int) = b.den := by omega
      simp [h1, h3]
    · simp [h1]
theorem neP_fr (a b : Rat) : neP (fr a) (fr b) = some (.bool (!decide (a = b))) := by
  unfold neP eqOk
  rw [if_pos (by simp [fr, PyData.canLay0, PyData.canLayAll0, PyData.depth, PyData.depthAll]), eqv_fr]
theorem eqP_fr' (a b : Rat) : eqP (fr a) (fr b) = some (.bool (decide (a = b))) := by
  unfold eqP eqOk
  rw [if_pos (by simp [fr, PyData.canLay0, PyData.canLayAll0, PyData.depth, PyData.depthAll]), eqv_fr]
/-- a kind with the sizes of its corners and of its speeds -/
structure KS (n m : Nat) (ks : List Cr) : Prop where
  kd : Kd n ks
  spd : ∀ v ∈ speeds ks, Sz m v
end Prog

/-! D2: kinds (plain). -/
namespace Prog
open PySem PySem.Spec PyProof.Rows L2 PD
theorem Kd.mono {n m : Nat} {ks : List Cr} (h : Kd n ks) (l : n ≤ m) : Kd m ks := ⟨h.len3, h.len12, fun c i => ⟨(h.size c i).1.mono l, (h.size c i).2.mono l⟩, h.head, h.last, h.pos, h.asc, h.conc⟩
theorem prs_map {α β : Type} (f : α → β) : ∀ l : List α, prs (l.map f) = (prs l).map fun p => (f p.1, f p.2)
  | [] => rfl
  | [_] => rfl
  | x :: y :: r => by
    show (f x, f y) :: prs ((y :: r).map f) = _
    rw [prs_map f (y :: r)]; rfl
theorem rlt_trans {a b c : Rat} (h : a < b) (g : b < c) : a < c := by grind
theorem prs_pairwise {α : Type} {R : α → α → Prop} (tr : ∀ a b c, R a b → R b c → R a c) : ∀ {l : List α}, (∀ p ∈ prs l, R p.1 p.2) ↔ l.Pairwise R
  | [] => by simp [prs]
  | [x] => by simp [prs]
  | x :: y :: r => by
    have ih := prs_pairwise (R := R) tr (l := y :: r)
    show (∀ p ∈ (x, y) :: prs (y :: r), R p.1 p.2) ↔ _
    rw [List.forall_mem_cons, ih, List.pairwise_cons (a := x)]
    constructor
    · rintro ⟨h1, h2⟩
      refine ⟨fun z m => ?_, h2⟩
      rcases List.mem_cons.mp m with rfl | m
      · exact h1
      · exact tr _ _ _ h1 ((List.pairwise_cons.mp h2).1 z m)
    · rintro ⟨h1, h2⟩
      exact ⟨h1 y List.mem_cons_self, h2⟩
theorem prs_app {α : Type} : ∀ (A : List α) (a : α) (B : List α), prs (A ++ a :: B) = prs (A ++ [a]) ++ prs (a :: B)
  | [], a, B => rfl
  | [x], a, B => rfl
  | x :: y :: A, a, B => by
    have := prs_app (y :: A) a B
    show (x, y) :: prs ((y :: A) ++ a :: B) = (x, y) :: (prs ((y :: A) ++ [a]) ++ prs (a :: B))
    rw [this]
theorem speeds_app (A : List Cr) (a : Cr) (B : List Cr) : speeds (A ++ a :: B) = speeds (A ++ [a]) ++ speeds (a :: B) := by
  unfold speeds; rw [prs_app, List.map_append]
theorem asc_nonneg : ∀ (r : List Cr) (last : Cr), 0 ≤ last.1 → (∀ p ∈ prs (last :: r), p.1.1 < p.2.1) → ∀ c ∈ last :: r, 0 ≤ c.1
  | [], last, h0, _, c, m => by rw [List.mem_singleton.mp m]; exact h0
  | b :: r, last, h0, h, c, m => by
    have h1 : last.1 < b.1 := h (last, b) List.mem_cons_self
    rcases List.mem_cons.mp m with rfl | m
    · exact h0
    · exact asc_nonneg r b (by grind) (fun p m => h p (List.mem_cons_of_mem _ m)) c m
theorem Kd.nonneg {n : Nat} {ks : List Cr} (h : Kd n ks) : ∀ c ∈ ks, 0 ≤ c.1 := by
  obtain ⟨r, hr⟩ := h.head
  have a := h.asc
  subst hr
  exact asc_nonneg r (0, 0) (by grind) a
def tollL (ks : List Cr) (x t b : Rat) : Rat := ks.foldl (fun b c => if b < c.2 * t - c.1 * x then c.2 * t - c.1 * x else b) b
theorem tollL_ge {x t : Rat} : ∀ (l : List Cr) (b : Rat), b ≤ tollL l x t b ∧ ∀ c ∈ l, c.2 * t - c.1 * x ≤ tollL l x t b
  | [], b => ⟨Rat.le_refl, fun c m => by cases m⟩
  | c :: l, b => by
    have ih := tollL_ge (x := x) (t := t) l (if b < c.2 * t - c.1 * x then c.2 * t - c.1 * x else b)
    have e : tollL (c :: l) x t b = tollL l x t (if b < c.2 * t - c.1 * x then c.2 * t - c.1 * x else b) := rfl
    rw [e]
    refine ⟨?_, fun a m => ?_⟩
    · have := ih.1; split at this <;> grind
    · rcases List.mem_cons.mp m with rfl | m
      · have := ih.1; split at this <;> grind
      · exact ih.2 a m
theorem tollL_le {x t B : Rat} : ∀ (l : List Cr) (b : Rat), b ≤ B → (∀ c ∈ l, c.2 * t - c.1 * x ≤ B) → tollL l x t b ≤ B
  | [], b, h, _ => h
  | c :: l, b, h, hl => by
    show tollL l x t (if b < c.2 * t - c.1 * x then c.2 * t - c.1 * x else b) ≤ B
    refine tollL_le l _ ?_ fun a m => hl a (List.mem_cons_of_mem _ m)
    split
    · exact hl c List.mem_cons_self
    · exact h
theorem prs_split {α : Type} : ∀ {l : List α} {p : α × α}, p ∈ prs l → ∃ A C, l = A ++ p.1 :: p.2 :: C
  | [], _, h => by cases h
  | [_], _, h => by cases h
  | x :: y :: r, p, h => by
    rcases List.mem_cons.mp h with rfl | h
    · exact ⟨[], r, rfl⟩
    · obtain ⟨A, C, e⟩ := prs_split h
      exact ⟨x :: A, C, by rw [e]; rfl⟩
theorem seg_flowL {d : Rat} : ∀ (r : List Cr) (last : Cr), last.1 ≤ d → d ≤ (((last :: r).getLast?).getD (0, 0)).1 → r ≠ [] → ∃ p ∈ prs (last :: r), p.1.1 ≤ d ∧ d ≤ p.2.1 ∧ flowL last r d = p.1.2 + slope p.1 p.2 * (d - p.1.1)
  | [], _, _, _, hn => absurd rfl hn
  | c :: r, last, hd, hf, _ => by
    rw [List.getLast?_cons_cons] at hf
    show ∃ p ∈ (last, c) :: prs (c :: r), _ ∧ _ ∧ (if c.1 < d then flowL c r d else last.2 + slope last c * (d - last.1)) = _
    by_cases hc : c.1 < d
    · obtain ⟨p, m, h1, h2, h3⟩ := seg_flowL r c (by grind) hf (by rintro rfl; simp at hf; grind)
      exact ⟨p, List.mem_cons_of_mem _ m, h1, h2, by rw [if_pos hc]; exact h3⟩
    · exact ⟨(last, c), List.mem_cons_self, hd, by simp only; grind, by rw [if_neg hc]⟩
theorem seg_flow {n : Nat} {ks : List Cr} {d : Rat} (h : Kd n ks) (h0 : 0 ≤ d) (h1 : ¬ fullD ks < d) : ∃ p ∈ prs ks, p.1.1 ≤ d ∧ d ≤ p.2.1 ∧ flow ks d = p.1.2 + slope p.1 p.2 * (d - p.1.1) := by
  obtain ⟨r, hr⟩ := h.head
  have l := h.len3
  subst hr
  unfold fullD at h1
  exact seg_flowL r (0, 0) h0 (by grind) (by rintro rfl; simp at l)
theorem slope_mul {a b : Cr} (h : a.1 < b.1) : slope a b * (b.1 - a.1) = b.2 - a.2 := by unfold slope; rw [Rat.div_mul_cancel (by grind)]
/-- no toll is less than by the flow at any density -/
theorem toll_weak {n : Nat} {ks : List Cr} {d x t : Rat} (h : Kd n ks) (h0 : 0 ≤ d) (h1 : ¬ fullD ks < d) (ht : 0 ≤ t) : flow ks d * t - d * x ≤ tollL ks x t 0 := by
  obtain ⟨⟨a, b⟩, m, h2, h3, h4⟩ := seg_flow h h0 h1
  simp only at h2 h3 h4
  have ab : a.1 < b.1 := h.asc _ m
  have s := slope_mul ab
  have mm := prs_mem m
  have A := (tollL_ge (x := x) (t := t) ks 0).2 a mm.1
  have B := (tollL_ge (x := x) (t := t) ks 0).2 b mm.2
  generalize tollL ks x t 0 = M at *
  have w0 : 0 < b.1 - a.1 := by grind
  have p1 : 0 ≤ (b.1 - d) * (M - (a.2 * t - a.1 * x)) := Rat.mul_nonneg (by grind) (by grind)
  have p2 : 0 ≤ (d - a.1) * (M - (b.2 * t - b.1 * x)) := Rat.mul_nonneg (by grind) (by grind)
  have e : (b.1 - a.1) * (M - (flow ks d * t - d * x)) = (b.1 - d) * (M - (a.2 * t - a.1 * x)) + (d - a.1) * (M - (b.2 * t - b.1 * x)) := by
    rw [h4]
    have : b.2 = a.2 + slope a b * (b.1 - a.1) := by grind
    rw [this]
    grind
  have p3 : 0 ≤ (b.1 - a.1) * (M - (flow ks d * t - d * x)) := by grind
  refine Rat.not_lt.mp fun hlt => ?_
  have p4 := Rat.mul_pos w0 (show 0 < (flow ks d * t - d * x) - M by grind)
  grind
theorem right_of {s : Rat} : ∀ (C : List Cr) (b : Cr), (∀ p ∈ prs (b :: C), p.1.1 < p.2.1) → (∀ v ∈ speeds (b :: C), v ≤ s) → ∀ c ∈ b :: C, c.2 ≤ b.2 + s * (c.1 - b.1)
  | [], b, _, _, c, m => by rw [List.mem_singleton.mp m]; grind
  | e :: C, b, h1, h2, c, m => by
    have be : b.1 < e.1 := h1 (b, e) List.mem_cons_self
    have sb : slope b e ≤ s := h2 _ List.mem_cons_self
    have sm := slope_mul be
    have k : 0 ≤ (s - slope b e) * (e.1 - b.1) := Rat.mul_nonneg (by grind) (by grind)
    rcases List.mem_cons.mp m with rfl | m
    · grind
    · have := right_of C e (fun p m => h1 p (List.mem_cons_of_mem _ m)) (fun v m => h2 v (List.mem_cons_of_mem _ m)) c m
      grind
theorem left_of {s : Rat} (a : Cr) : ∀ (A : List Cr), (∀ p ∈ prs (A ++ [a]), p.1.1 < p.2.1) → (∀ v ∈ speeds (A ++ [a]), s ≤ v) → ∀ c ∈ A ++ [a], c.2 ≤ a.2 + s * (c.1 - a.1)
  | [], _, _, c, m => by rw [List.mem_singleton.mp m]; grind
  | [e], h1, h2, c, m => by
    have be : e.1 < a.1 := h1 (e, a) List.mem_cons_self
    have sb : s ≤ slope e a := h2 _ List.mem_cons_self
    have sm := slope_mul be
    have k : 0 ≤ (slope e a - s) * (a.1 - e.1) := Rat.mul_nonneg (by grind) (by grind)
    rcases List.mem_cons.mp m with rfl | m
    · grind
    · rw [List.mem_singleton.mp m]; grind
  | e :: f :: A, h1, h2, c, m => by
    have be : e.1 < f.1 := h1 (e, f) List.mem_cons_self
    have sb : s ≤ slope e f := h2 _ List.mem_cons_self
    have sm := slope_mul be
    have k : 0 ≤ (slope e f - s) * (f.1 - e.1) := Rat.mul_nonneg (by grind) (by grind)
    have ih := left_of a (f :: A) (fun p m => h1 p (List.mem_cons_of_mem _ m)) (fun v m => h2 v (List.mem_cons_of_mem _ m))
    rcases List.mem_cons.mp m with rfl | m
    · have := ih f List.mem_cons_self
      grind
    · exact ih c m
theorem under_chord {n : Nat} {ks : List Cr} (h : Kd n ks) {p : Cr × Cr} (m : p ∈ prs ks) : ∀ c ∈ ks, c.2 ≤ p.1.2 + slope p.1 p.2 * (c.1 - p.1.1) := by
  obtain ⟨a, b⟩ := p
  have ab : a.1 < b.1 := h.asc _ m
  have sm := slope_mul ab
  obtain ⟨A, C, e⟩ := prs_split m
  simp only at e ⊢
  have cc := (prs_pairwise (R := fun x y : Rat => y < x) (fun _ _ _ h g => rlt_trans g h)).mp h.conc
  have asc := h.asc
  subst e
  rw [prs_app] at asc
  rw [speeds_app] at cc
  have e1 : speeds (a :: b :: C) = slope a b :: speeds (b :: C) := rfl
  rw [e1, List.pairwise_append, List.pairwise_cons] at cc
  obtain ⟨q1, ⟨q2, q3⟩, q5⟩ := cc
  intro c mc
  have mc' : c ∈ A ++ [a] ∨ c ∈ b :: C := by simp at mc ⊢; grind
  rcases mc' with mc | mc
  · exact left_of a A (fun p m => asc p (List.mem_append_left _ m)) (fun v m => by have := q5 v m _ List.mem_cons_self; grind) c mc
  · have := right_of (s := slope a b) C b (fun p m => asc p (List.mem_append_right _ (List.mem_cons_of_mem _ m))) (fun v m => by have := q2 v m; grind) c mc
    grind
/-- some speed's toll is just by the flow at the density -/
theorem toll_strong {n : Nat} {ks : List Cr} {d t : Rat} (h : Kd n ks) (h0 : 0 ≤ d) (h1 : ¬ fullD ks < d) (ht : 0 ≤ t) : ∃ v ∈ speeds ks, tollL ks (v * t) t 0 + d * (v * t) = flow ks d * t := by
  obtain ⟨⟨a, b⟩, m, h2, h3, h4⟩ := seg_flow h h0 h1
  simp only at h2 h3 h4
  refine ⟨slope a b, List.mem_map.mpr ⟨(a, b), m, rfl⟩, ?_⟩
  have uc := under_chord h m
  have mm := prs_mem m
  have A := (tollL_ge (x := slope a b * t) (t := t) ks 0).2 a mm.1
  have le : tollL ks (slope a b * t) t 0 ≤ (a.2 - slope a b * a.1) * t := by
    have key : ∀ c ∈ ks, c.2 * t - c.1 * (slope a b * t) ≤ (a.2 - slope a b * a.1) * t := fun c mc => by
      have := uc c mc
      simp only at this
      have k : 0 ≤ (a.2 + slope a b * (c.1 - a.1) - c.2) * t := Rat.mul_nonneg (by grind) ht
      grind
    refine tollL_le ks 0 ?_ key
    obtain ⟨r, hr⟩ := h.head
    have := key (0, 0) (by rw [hr]; exact List.mem_cons_self)
    grind
  rw [h4]
  grind
theorem Kd.le_full {n : Nat} {ks : List Cr} (h : Kd n ks) : ∀ c ∈ ks, c.1 ≤ fullD ks := by
  obtain ⟨acc, f, e⟩ := h.last
  have pw : ks.Pairwise fun a b => a.1 < b.1 := (prs_pairwise (R := fun a b : Cr => a.1 < b.1) (fun a b c h g => rlt_trans h g)).mp h.asc
  have ef : fullD ks = f := by rw [e]; simp [fullD]
  intro c m
  rw [ef]
  rw [e] at pw m
  rcases List.mem_append.mp m with m | m
  · have := (List.pairwise_append.mp pw).2.2 c m (f, 0) (by simp)
    simp only at this; grind
  · rw [List.mem_singleton.mp m]; grind
theorem Kd.full_pos {n : Nat} {ks : List Cr} (h : Kd n ks) : 0 < fullD ks := by
  obtain ⟨r, hr⟩ := h.head
  have h3 := h.len3
  have a := h.asc
  have hle := h.le_full
  rw [hr] at h3 a hle
  cases r with
  | nil => simp at h3
  | cons c r =>
    have h1 : (0 : Rat) < c.1 := a ((0, 0), c) List.mem_cons_self
    have h2 := hle c (by simp)
    rw [hr]; grind
theorem prs_ix {α : Type} {l : List α} {p : α × α} (h : p ∈ prs l) : ∃ i : Nat, l[i]? = some p.1 ∧ l[i + 1]? = some p.2 := by
  obtain ⟨A, C, e⟩ := prs_split h
  refine ⟨A.length, ?_, ?_⟩
  · rw [e]; simp
  · rw [e, List.getElem?_append_right (by omega)]; simp
theorem prs_get2 {α : Type} : ∀ {l : List α} {i : Nat} {p : α × α}, (prs l)[i]? = some p → l[i]? = some p.1 ∧ l[i + 1]? = some p.2
  | [], i, p, h => by simp [prs] at h
  | [x], i, p, h => by simp [prs] at h
  | x :: y :: r, 0, p, h => by
    have : (x, y) = p := by simpa [prs] using h
    subst this
    exact ⟨rfl, rfl⟩
  | x :: y :: r, i + 1, p, h => by
    have h' : (prs (y :: r))[i]? = some p := by simpa [prs] using h
    have := prs_get2 h'
    simpa using this
theorem val1 (z : Int) : val ((z, 1) : P2) = (z : Rat) := by
  show Rat.divInt z 1 = _
  rw [← Rat.num_divInt_den (z : Rat)]; rfl
end Prog

/-! F3: the program's densities, flows and tolls (over D2, F2). -/
namespace Prog
open PySem PySem.Spec PyProof.Rows L2 PD
theorem fr1 : fr 1 = .tuple [.int 1, .int 1] := rfl
theorem sz1 : Sz 1 1 := ⟨by unfold Lt2; decide, by unfold Lt2; decide⟩
theorem at_last2 {α : Type} (xs : List α) (y x : α) : atI (xs ++ [y, x]) (-2) = some y := by
  unfold atI ixN
  rw [if_neg (by omega), if_pos (by simp; omega)]
  simp
  rw [show ((-2 : Int) + ((xs.length : Int) + 2)).toNat = xs.length by omega]
  simp
/-- the first and the last two corners of a kind -/
theorem Kd.ends {n : Nat} {ks : List Cr} (h : Kd n ks) : ∃ c1 r acc cl f, ks = (0, 0) :: c1 :: r ∧ ks = acc ++ [cl, (f, 0)] ∧ 0 < c1.1 ∧ 0 < c1.2 ∧ cl.1 < f ∧ 0 < cl.2 ∧ fullD ks = f := by
  obtain ⟨r, hr⟩ := h.head
  obtain ⟨acc, f, ha⟩ := h.last
  have h3 := h.len3
  have hp := h.pos
  have as := h.asc
  cases r with
  | nil => rw [hr] at h3; simp at h3
  | cons c1 r =>
    cases r with
    | nil => rw [hr] at h3; simp at h3
    | cons c2 r =>
      have hp2 := hp
      rw [hr] at hp2
      have m1 : c1 ∈ ((0, 0) :: c1 :: c2 :: r).tail.dropLast := by simp [List.dropLast]
      rcases List.eq_nil_or_concat acc with e | ⟨acc', cl, e⟩
      · rw [ha, e] at h3; simp at h3
      · rw [List.concat_eq_append] at e
        subst e
        have mc : (cl, ((f, 0) : Cr)) ∈ prs ks := by rw [ha, prs_snoc]; simp
        have mcl : cl ∈ ks.tail.dropLast := by
          rw [ha]
          cases acc' with
          | nil => rw [ha] at h3; simp at h3
          | cons z acc' => simp
        refine ⟨c1, c2 :: r, acc', cl, f, hr, by rw [ha]; simp, ?_, hp2 c1 m1, as _ mc, hp cl mcl, by rw [ha]; simp [fullD]⟩
        have := as ((0, 0), c1) (by rw [hr]; exact List.mem_cons_self)
        simpa using this
def freeV (ks : List Cr) : Rat := (speeds ks).headD 0
def backV (ks : List Cr) : Rat := (speeds ks).getLastD 0
theorem le_div_mul {a b x t : Rat} (hb : 0 < b) : a * t < b * x ↔ a / b * t < x := by
  have hb0 : b ≠ 0 := by grind
  have e : a / b * t * b = a * t := by grind
  have := Rat.mul_lt_mul_right (a := a / b * t) (b := x) hb
  rw [e, Rat.mul_comm x b] at this
  exact this
theorem lt_div_mul {a b x t : Rat} (hb : 0 < b) : b * x < a * t ↔ x < a / b * t := by
  have hb0 : b ≠ 0 := by grind
  have e : a / b * t * b = a * t := by grind
  have := Rat.mul_lt_mul_right (a := x) (b := a / b * t) hb
  rw [e, Rat.mul_comm x b] at this
  exact this
def optF : Option Rat → PyData
  | none => .none
  | some q => fr q
/-- the toll of a step, none if there is no such step -/
def tollO (ks : List Cr) (x t : Rat) : Option Rat := if 0 ≤ t ∧ backV ks * t ≤ x ∧ x ≤ freeV ks * t then some (tollL ks x t 0) else none
def stepO (x t : Rat) (o : Option Rat) (c : Cr) : Option Rat := match o with
  | none => some (c.2 * t - c.1 * x)
  | some b => some (if b < c.2 * t - c.1 * x then c.2 * t - c.1 * x else b)
theorem foldO {x t : Rat} : ∀ (l : List Cr) (b : Rat), l.foldl (stepO x t) (some b) = some (tollL l x t b)
  | [], b => rfl
  | c :: l, b => by
    rw [List.foldl_cons]
    show l.foldl (stepO x t) (some _) = _
    rw [foldO l]; rfl
theorem foldO_kd {n : Nat} {ks : List Cr} (h : Kd n ks) (x t : Rat) : ks.foldl (stepO x t) none = some (tollL ks x t 0) := by
  obtain ⟨r, hr⟩ := h.head
  rw [hr, List.foldl_cons]
  show r.foldl (stepO x t) (some ((0 : Rat) * t - 0 * x)) = _
  rw [foldO]
  have e : (0 : Rat) * t - 0 * x = 0 := by grind
  rw [e]
  show _ = some (r.foldl _ (if (0 : Rat) < 0 * t - 0 * x then 0 * t - 0 * x else 0))
  rw [e, if_neg (by decide)]
  rfl
theorem tollL_mem {x t : Rat} : ∀ (l : List Cr) (b : Rat), tollL l x t b = b ∨ ∃ c ∈ l, tollL l x t b = c.2 * t - c.1 * x
  | [], b => .inl rfl
  | c :: l, b => by
    rcases tollL_mem l (if b < c.2 * t - c.1 * x then c.2 * t - c.1 * x else b) with h | ⟨d, m, h⟩
    · by_cases hb : b < c.2 * t - c.1 * x
      · rw [if_pos hb] at h; exact .inr ⟨c, List.mem_cons_self, by show tollL l x t (if b < c.2 * t - c.1 * x then c.2 * t - c.1 * x else b) = _; rw [if_pos hb]; exact h⟩
      · rw [if_neg hb] at h; exact .inl (by show tollL l x t (if b < c.2 * t - c.1 * x then c.2 * t - c.1 * x else b) = _; rw [if_neg hb]; exact h)
    · exact .inr ⟨d, List.mem_cons_of_mem _ m, h⟩
theorem sz_toll {n p q : Nat} {c : Cr} {x t : Rat} (hc : CSz n c) (hx : Sz q x) (ht : Sz p t) : Sz (2 * n + p + q + 1) (c.2 * t - c.1 * x) := (sz_sub (sz_mul hc.2 ht) (sz_mul hc.1 hx)).mono (by omega)
theorem sz_tollL {n p q : Nat} {ks : List Cr} {x t : Rat} (h : Kd n ks) (hx : Sz q x) (ht : Sz p t) : Sz (2 * n + p + q + 1) (tollL ks x t 0) := by
  rcases tollL_mem (x := x) (t := t) ks 0 with e | ⟨c, m, e⟩
  · rw [e]; exact sz0.mono (by omega)
  · rw [e]; exact sz_toll (h.size c m) hx ht
end Prog

/-! D3: tolls for each unit of time (plain). -/
namespace Prog
open PySem PySem.Spec PyProof.Rows L2 PD
/-- the toll for each unit of time -/
def tr (ks : List Cr) (v : Rat) : Rat := tollL ks v 1 0
theorem tr_ge {ks : List Cr} {v : Rat} : 0 ≤ tr ks v ∧ ∀ c ∈ ks, c.2 - c.1 * v ≤ tr ks v := by
  have h := tollL_ge (x := v) (t := 1) ks 0
  exact ⟨h.1, fun c m => by have := h.2 c m; unfold tr; grind⟩
theorem tr_le {ks : List Cr} {v B : Rat} (h0 : 0 ≤ B) (h : ∀ c ∈ ks, c.2 - c.1 * v ≤ B) : tr ks v ≤ B :=
  tollL_le ks 0 h0 fun c m => by have := h c m; grind
theorem Kd.zero {n : Nat} {ks : List Cr} (h : Kd n ks) : ((0, 0) : Cr) ∈ ks := by obtain ⟨r, hr⟩ := h.head; rw [hr]; simp
theorem mul_le_right {a b c : Rat} (h : a ≤ b) (hc : 0 ≤ c) : a * c ≤ b * c := by
  have := Rat.mul_nonneg (by grind : 0 ≤ b - a) hc
  grind
/-- at a speed of the kind -/
theorem tr_at {n : Nat} {ks : List Cr} (h : Kd n ks) {p : Cr × Cr} (m : p ∈ prs ks) : tr ks (slope p.1 p.2) = p.1.2 - p.1.1 * slope p.1 p.2 ∧ tr ks (slope p.1 p.2) = p.2.2 - p.2.1 * slope p.1 p.2 := by
  have u := under_chord h m
  have sm := slope_mul (h.asc p m)
  have m1 := (prs_mem m).1
  have u0 := u _ h.zero
  simp only at u0
  have e : tr ks (slope p.1 p.2) = p.1.2 - p.1.1 * slope p.1 p.2 := by
    have a := tr_ge (ks := ks) (v := slope p.1 p.2)
    have a1 := a.2 _ m1
    have b : tr ks (slope p.1 p.2) ≤ p.1.2 - p.1.1 * slope p.1 p.2 := tr_le (by grind) fun c mc => by have := u c mc; grind
    grind
  exact ⟨e, by grind⟩
/-- between two neighbouring speeds of the kind -/
theorem tr_mid {n : Nat} {ks : List Cr} (h : Kd n ks) {a b c : Cr} (m1 : (a, b) ∈ prs ks) (m2 : (b, c) ∈ prs ks) {v : Rat} (h1 : slope b c ≤ v) (h2 : v ≤ slope a b) : tr ks v = b.2 - b.1 * v := by
  have u1 := under_chord h m1
  have u2 := under_chord h m2
  have sm := slope_mul (h.asc _ m1)
  simp only at u1 u2 sm
  have mb := (prs_mem m2).1
  have key : ∀ c' ∈ ks, c'.2 - c'.1 * v ≤ b.2 - b.1 * v := by
    intro c' mc
    have x1 := u1 c' mc
    have x2 := u2 c' mc
    by_cases hc : b.1 ≤ c'.1
    · have := mul_le_right h1 (by grind : 0 ≤ c'.1 - b.1)
      grind
    · have := mul_le_right h2 (by grind : 0 ≤ b.1 - c'.1)
      grind
  have a1 := tr_ge (ks := ks) (v := v)
  have a2 := a1.2 b mb
  have a3 : tr ks v ≤ b.2 - b.1 * v := tr_le (by have := key _ h.zero; simp only at this; grind) key
  grind
/-- bent upward -/
theorem tr_half {ks : List Cr} {u v : Rat} : tr ks (u + (1 / 2) * (v - u)) ≤ tr ks u + (1 / 2) * (tr ks v - tr ks u) := by
  have a := tr_ge (ks := ks) (v := u)
  have b := tr_ge (ks := ks) (v := v)
  refine tr_le (by grind) fun c m => ?_
  have := a.2 c m
  have := b.2 c m
  grind
theorem tr_flow {n : Nat} {ks : List Cr} {d v : Rat} (h : Kd n ks) (h0 : 0 ≤ d) (h1 : d ≤ fullD ks) : flow ks d ≤ tr ks v + d * v := by
  have := toll_weak (x := v) (t := 1) h h0 (by grind) (by decide)
  unfold tr; grind
theorem tr_flow_at {n : Nat} {ks : List Cr} {d : Rat} (h : Kd n ks) (h0 : 0 ≤ d) (h1 : d ≤ fullD ks) : ∃ v ∈ speeds ks, flow ks d = tr ks v + d * v := by
  obtain ⟨v, m, e⟩ := toll_strong (t := 1) h h0 (by grind) (by decide)
  refine ⟨v, m, ?_⟩
  rw [show v * 1 = v by grind] at e
  unfold tr; grind
theorem speeds_at {ks : List Cr} {i : Nat} {v : Rat} (h : (speeds ks)[i]? = some v) : ∃ a b, ks[i]? = some a ∧ ks[i + 1]? = some b ∧ v = slope a b ∧ (a, b) ∈ prs ks := by
  unfold speeds at h
  rw [List.getElem?_map] at h
  cases hp : (prs ks)[i]? with
  | none => rw [hp] at h; cases h
  | some p =>
    rw [hp] at h
    simp only [Option.map_some, Option.some.injEq] at h
    have g := prs_get2 hp
    exact ⟨p.1, p.2, g.1, g.2, h.symm, List.mem_of_getElem? hp⟩
theorem speeds_range {n : Nat} {ks : List Cr} (h : Kd n ks) : ∀ v ∈ speeds ks, backV ks ≤ v ∧ v ≤ freeV ks := by
  have pw : (speeds ks).Pairwise fun a b => b < a := (prs_pairwise (R := fun a b : Rat => b < a) (fun a b c h g => rlt_trans g h)).mp h.conc
  unfold backV freeV
  intro v m
  constructor
  · rcases List.eq_nil_or_concat (speeds ks) with e | ⟨r, l, e⟩
    · rw [e] at m; cases m
    · rw [List.concat_eq_append] at e
      rw [e] at pw m ⊢
      have : (r ++ [l]).getLastD 0 = l := by simp
      rw [this]
      rcases List.mem_append.mp m with m | m
      · have := (List.pairwise_append.mp pw).2.2 v m l (by simp); grind
      · simp at m; grind
  · cases hs : speeds ks with
    | nil => rw [hs] at m; cases m
    | cons w r =>
      rw [hs] at pw m
      simp only [List.headD_cons]
      rcases List.mem_cons.mp m with rfl | m
      · grind
      · have := (List.pairwise_cons.mp pw).1 v m; grind
theorem speeds_ne {n : Nat} {ks : List Cr} (h : Kd n ks) : (speeds ks).length = ks.length - 1 ∧ 2 ≤ (speeds ks).length := by
  have := speeds_len ks
  have := h.len3
  omega
theorem sz_tr {n q : Nat} {ks : List Cr} {v : Rat} (h : Kd n ks) (hv : Sz q v) : Sz (2 * n + q + 2) (tr ks v) := by
  have := sz_tollL (p := 1) h hv (⟨by unfold Lt2; decide, by unfold Lt2; decide⟩ : Sz 1 1)
  exact this.mono (by omega)
theorem back_neg {n : Nat} {ks : List Cr} (h : Kd n ks) : backV ks < 0 := by
  obtain ⟨c1, r, acc, cl, f, hk1, hk2, p1, p2, p3, p4, hf⟩ := h.ends
  unfold backV
  rw [hk2, show acc ++ [cl, (f, 0)] = (acc ++ [cl]) ++ [(f, 0)] by simp, speeds_snoc]
  simp only [List.getLastD_concat, slope]
  rw [Rat.div_def]
  have i := Rat.inv_pos.mpr (by grind : 0 < f - cl.1)
  have := Rat.mul_pos p4 i
  grind
theorem free_pos {n : Nat} {ks : List Cr} (h : Kd n ks) : 0 < freeV ks := by
  obtain ⟨c1, r, acc, cl, f, hk1, hk2, p1, p2, p3, p4, hf⟩ := h.ends
  unfold freeV speeds
  rw [hk1]
  simp only [prs, List.map_cons, List.headD_cons, slope]
  rw [Rat.div_def]
  have i := Rat.inv_pos.mpr (by grind : 0 < c1.1 - 0)
  have := Rat.mul_pos p2 i
  grind
theorem part_range {u v q : Rat} (h : u ≤ v) (h0 : 0 ≤ q) (h1 : q ≤ 1) : u ≤ u + q * (v - u) ∧ u + q * (v - u) ≤ v ∧ u ≤ v + q * (u - v) ∧ v + q * (u - v) ≤ v := by
  have a := Rat.mul_nonneg h0 (by grind : 0 ≤ v - u)
  have b := Rat.mul_nonneg (by grind : 0 ≤ 1 - q) (by grind : 0 ≤ v - u)
  refine ⟨by grind, by grind, by grind, by grind⟩
theorem quot_range {d e : Int} {n : Nat} (h0 : 0 ≤ d) (h1 : d ≤ e) (he : 0 < e) (hn : e.natAbs < 2 ^ n) (h2 : 1 ≤ n := by omega) : 0 ≤ Rat.divInt d e ∧ Rat.divInt d e ≤ 1 ∧ Sz n (Rat.divInt d e) := by
  have hd : Lt2 n d := by unfold Lt2; omega
  have o : Ok n ((d, e) : P2) := ⟨he, hd, hn⟩
  have one : Ok 1 ((1, 1) : P2) := ⟨by decide, by unfold Lt2; decide, by unfold Lt2; decide⟩
  refine ⟨(val_nonneg o).mpr h0, ?_, sz_val o⟩
  have : ¬ val ((1, 1) : P2) < val ((d, e) : P2) := fun z => by have := (val_lt one o).mp z; simp only at this; omega
  have v1 : val ((1, 1) : P2) = 1 := rfl
  have v2 : val ((d, e) : P2) = Rat.divInt d e := rfl
  grind
end Prog

/-! D5: tolls scaled and added (plain). -/
namespace Prog
open PySem PySem.Spec PyProof.Rows L2 PD
theorem tollL_scale {ks : List Cr} {x t s : Rat} (hs : 0 ≤ s) : tollL ks (x * s) (t * s) 0 = tollL ks x t 0 * s := by
  have key : ∀ (l : List Cr) (b : Rat), tollL l (x * s) (t * s) (b * s) = tollL l x t b * s := by
    intro l
    induction l with
    | nil => intro b; rfl
    | cons c l ih =>
      intro b
      show tollL l (x * s) (t * s) (if b * s < c.2 * (t * s) - c.1 * (x * s) then c.2 * (t * s) - c.1 * (x * s) else b * s) = tollL l x t (if b < c.2 * t - c.1 * x then c.2 * t - c.1 * x else b) * s
      rw [← ih]
      congr 1
      have e : c.2 * (t * s) - c.1 * (x * s) = (c.2 * t - c.1 * x) * s := by grind
      rw [e]
      generalize c.2 * t - c.1 * x = y
      by_cases s0 : s = 0
      · subst s0
        simp [Rat.mul_zero]
      · have sp : 0 < s := by grind
        have := Rat.mul_lt_mul_right (a := b) (b := y) sp
        by_cases hb : b < y
        · rw [if_pos hb, if_pos (this.mpr hb)]
        · rw [if_neg hb, if_neg (fun z => hb (this.mp z))]
  have := key ks 0
  rw [Rat.zero_mul] at this
  exact this
theorem tollL_sub {ks : List Cr} {x t y u : Rat} : tollL ks (x + y) (t + u) 0 ≤ tollL ks x t 0 + tollL ks y u 0 := by
  have a := tollL_ge (x := x) (t := t) ks 0
  have b := tollL_ge (x := y) (t := u) ks 0
  refine tollL_le ks 0 (by grind) fun c m => ?_
  have := a.2 c m
  have := b.2 c m
  grind
end Prog

/-! C1: rows of cells (plain): candidates, least ones, steps, several steps. -/
namespace Prog
open PySem PySem.Spec PyProof.Rows L2 PD
/-- there is such a step -/
def Lets (ks : List Cr) (x t : Rat) : Prop := 0 ≤ t ∧ backV ks * t ≤ x ∧ x ≤ freeV ks * t
theorem tollO_lets {ks : List Cr} {x t : Rat} (h : Lets ks x t) : tollO ks x t = some (tollL ks x t 0) := if_pos h
theorem tollO_not {ks : List Cr} {x t : Rat} (h : ¬ Lets ks x t) : tollO ks x t = none := if_neg h
instance (ks : List Cr) (x t : Rat) : Decidable (Lets ks x t) := by unfold Lets; infer_instance
/-- a number of a row, and the toll from its place -/
def CV (ks : List Cr) (dx : Rat) (h : List Rat) (t x v : Rat) : Prop := ∃ (j : Nat) (a : Rat), h[j]? = some a ∧ Lets ks (x - (j : Rat) * dx) t ∧ v = a + tollL ks (x - (j : Rat) * dx) t 0
/-- the corners of a row -/
def crs (dx : Rat) (h : List Rat) : List Cr := (List.range h.length).map fun j => (((j : Nat) : Rat) * dx, h[j]?.getD 0)
def rowV (dx : Rat) (h : List Rat) (y : Rat) : Rat := match crs dx h with
  | [] => 0
  | c :: r => flowL c r y
/-- the same from a place of the row from which a step has a speed of the kind -/
def TV (ks : List Cr) (dx : Rat) (h : List Rat) (t x v : Rat) : Prop := CV ks dx h t x v ∨ ∃ s ∈ speeds ks, 0 ≤ x - s * t ∧ x - s * t ≤ ((h.length : Rat) - 1) * dx ∧ v = rowV dx h (x - s * t) + tollL ks (s * t) t 0
def Min (P : Rat → Prop) (v : Rat) : Prop := P v ∧ ∀ w, P w → v ≤ w
theorem Min.eq {P : Rat → Prop} {v w : Rat} (h : Min P v) (g : Min P w) : v = w := Rat.le_antisymm (h.2 w g.1) (g.2 v h.1)
/-- the places lost at the beginning and at the end -/
def ahP (ks : List Cr) (dx t : Rat) : Int := -((-(freeV ks * t / dx)).floor)
def beP (ks : List Cr) (dx t : Rat) : Int := -((backV ks * t / dx).floor)
theorem ceil_ge (q : Rat) : q ≤ ((-((-q).floor) : Int) : Rat) := by
  have := Rat.floor_le (-q)
  rw [Rat.intCast_neg]
  grind
theorem ahP_ge {ks : List Cr} {dx t : Rat} (hd : 0 < dx) : freeV ks * t ≤ (ahP ks dx t : Rat) * dx := by
  have h := ceil_ge (freeV ks * t / dx)
  have h2 := mul_le_right h (by grind : 0 ≤ dx)
  rw [Rat.div_mul_cancel (by grind)] at h2
  exact h2
theorem beP_ge {ks : List Cr} {dx t : Rat} (hd : 0 < dx) : -(beP ks dx t : Rat) * dx ≤ backV ks * t := by
  have h := Rat.floor_le (backV ks * t / dx)
  have h2 := mul_le_right h (by grind : 0 ≤ dx)
  rw [Rat.div_mul_cancel (by grind)] at h2
  unfold beP
  rw [Rat.intCast_neg, Rat.neg_neg]
  exact h2
theorem ahP_pos {n : Nat} {ks : List Cr} (h : Kd n ks) {dx t : Rat} (hd : 0 < dx) (ht : 0 < t) : 1 ≤ ahP ks dx t := by
  have h1 := free_pos h
  have h2 := ahP_ge (ks := ks) (t := t) hd
  have h3 := Rat.mul_pos h1 ht
  have h4 : 0 < (ahP ks dx t : Rat) * dx := by grind
  have h5 : ¬ ahP ks dx t ≤ 0 := fun z => by
    have : (ahP ks dx t : Rat) ≤ 0 := by have := Rat.intCast_le_intCast.mpr z; simpa using this
    have := mul_le_right this (by grind : 0 ≤ dx)
    grind
  omega
theorem beP_pos {n : Nat} {ks : List Cr} (h : Kd n ks) {dx t : Rat} (hd : 0 < dx) (ht : 0 < t) : 1 ≤ beP ks dx t := by
  have h1 := back_neg h
  have h2 := beP_ge (ks := ks) (t := t) hd
  have h3 := Rat.mul_pos (show 0 < - backV ks by grind) ht
  have h4 : 0 < (beP ks dx t : Rat) * dx := by grind
  have h5 : ¬ beP ks dx t ≤ 0 := fun z => by
    have : (beP ks dx t : Rat) ≤ 0 := by have := Rat.intCast_le_intCast.mpr z; simpa using this
    have := mul_le_right this (by grind : 0 ≤ dx)
    grind
  omega
/-- how many places a step tells -/
def lenS (ks : List Cr) (dx t : Rat) (n : Nat) : Nat := ((n : Int) - beP ks dx t - ahP ks dx t).toNat
structure StepC (ks : List Cr) (dx t : Rat) (h h' : List Rat) : Prop where
  len : h'.length = lenS ks dx t h.length
  val : ∀ i v, h'[i]? = some v → Min (CV ks dx h t (((ahP ks dx t : Rat) + (i : Nat)) * dx)) v
/-- steps by cells -/
inductive Iter (ks : List Cr) (dx t : Rat) : Nat → List Rat → List Rat → Prop
  | zero (h : List Rat) : Iter ks dx t 0 h h
  | stop {c : Nat} {h g : List Rat} : Iter ks dx t c h g → g.length < 2 → Iter ks dx t (c + 1) h []
  | step {c : Nat} {h g g' : List Rat} : Iter ks dx t c h g → 2 ≤ g.length → StepC ks dx t g g' → Iter ks dx t (c + 1) h g'
theorem StepC.uniq {ks : List Cr} {dx t : Rat} {h a b : List Rat} (x : StepC ks dx t h a) (y : StepC ks dx t h b) : a = b := by
  apply List.ext_getElem?
  intro i
  cases ha : a[i]? with
  | none =>
    have := List.getElem?_eq_none_iff.mp ha
    rw [List.getElem?_eq_none (by rw [y.len, ← x.len]; exact this)]
  | some v =>
    have hl := (List.getElem?_eq_some_iff.mp ha).1
    have hb : i < b.length := by rw [y.len, ← x.len]; exact hl
    rw [List.getElem?_eq_getElem hb, (x.val i v ha).eq (y.val i _ (List.getElem?_eq_getElem hb))]
theorem iter_uniq {ks : List Cr} {dx t : Rat} : ∀ {c : Nat} {h a b : List Rat}, Iter ks dx t c h a → Iter ks dx t c h b → a = b
  | 0, _, _, _, .zero _, .zero _ => rfl
  | c + 1, _, _, _, .stop h1 l1, .stop h2 l2 => rfl
  | c + 1, _, _, _, .stop h1 l1, .step h2 l2 s2 => by rw [iter_uniq h1 h2] at l1; omega
  | c + 1, _, _, _, .step h1 l1 s1, .stop h2 l2 => by rw [iter_uniq h1 h2] at l1; omega
  | c + 1, _, _, _, .step h1 l1 s1, .step h2 l2 s2 => by
    have e := iter_uniq h1 h2
    subst e
    exact s1.uniq s2
theorem Lets.add {ks : List Cr} {x t y u : Rat} (h : Lets ks x t) (g : Lets ks y u) : Lets ks (x + y) (t + u) := by
  obtain ⟨a, b, c⟩ := h
  obtain ⟨d, e, f⟩ := g
  refine ⟨by grind, by grind, by grind⟩
theorem toll_zero {n : Nat} {ks : List Cr} (h : Kd n ks) : tollL ks 0 0 0 = 0 := by
  have a := (tollL_ge (x := 0) (t := 0) ks 0).1
  have b : tollL ks 0 0 0 ≤ 0 := tollL_le ks 0 Rat.le_refl fun c m => by grind
  grind
/-- what several steps tell is at least some number with the toll of them as one -/
theorem iter_ge {n : Nat} {ks : List Cr} (hk : Kd n ks) {dx t : Rat} : ∀ {c : Nat} {h g : List Rat}, Iter ks dx t c h g → ∀ i v, g[i]? = some v → ∃ w, CV ks dx h ((c : Rat) * t) (((c : Rat) * (ahP ks dx t : Rat) + (i : Nat)) * dx) w ∧ w ≤ v
  | 0, h, _, .zero _, i, v, hi => by
    refine ⟨v, ⟨i, v, hi, ?_, ?_⟩, Rat.le_refl⟩
    · have e : ((((0 : Nat) : Rat) * (ahP ks dx t : Rat) + (i : Nat)) * dx - (i : Rat) * dx) = 0 := by
        have : ((0 : Nat) : Rat) = 0 := rfl
        rw [this]; grind
      have e2 : ((0 : Nat) : Rat) * t = 0 := by
        have : ((0 : Nat) : Rat) = 0 := rfl
        rw [this]; grind
      rw [e, e2]
      refine ⟨Rat.le_refl, by grind, by grind⟩
    · have e : ((((0 : Nat) : Rat) * (ahP ks dx t : Rat) + (i : Nat)) * dx - (i : Rat) * dx) = 0 := by
        have : ((0 : Nat) : Rat) = 0 := rfl
        rw [this]; grind
      have e2 : ((0 : Nat) : Rat) * t = 0 := by
        have : ((0 : Nat) : Rat) = 0 := rfl
        rw [this]; grind
      rw [e, e2, toll_zero hk]; grind
  | c + 1, h, _, .stop _ _, i, v, hi => by simp at hi
  | c + 1, h, _, .step h1 _ s, i, v, hi => by
    obtain ⟨⟨j, a, hj, lj, ev⟩, _⟩ := s.val i v hi
    obtain ⟨w, ⟨j2, b, hj2, lj2, ew⟩, hw⟩ := iter_ge hk h1 j a hj
    have cc : ((c + 1 : Nat) : Rat) = (c : Rat) + 1 := by rw [Rat.natCast_add]; rfl
    have ex : ((((c + 1 : Nat) : Rat) * (ahP ks dx t : Rat) + (i : Nat)) * dx - (j2 : Rat) * dx) = ((((c : Rat) * (ahP ks dx t : Rat) + (j : Nat)) * dx - (j2 : Rat) * dx) + (((ahP ks dx t : Rat) + (i : Nat)) * dx - (j : Rat) * dx)) := by rw [cc]; grind
    have et : ((c + 1 : Nat) : Rat) * t = (c : Rat) * t + t := by rw [cc]; grind
    refine ⟨_, ⟨j2, b, hj2, ?_, rfl⟩, ?_⟩
    · rw [ex, et]; exact lj2.add lj
    · rw [ex, et]
      have := tollL_sub (ks := ks) (x := ((c : Rat) * (ahP ks dx t : Rat) + (j : Nat)) * dx - (j2 : Rat) * dx) (t := (c : Rat) * t) (y := ((ahP ks dx t : Rat) + (i : Nat)) * dx - (j : Rat) * dx) (u := t)
      grind
/-- no number is above the one before it -/
def Falls (h : List Rat) : Prop := ∀ i a b, h[i]? = some a → h[i + 1]? = some b → b ≤ a
theorem StepC.falls {ks : List Cr} {dx t : Rat} (hd : 0 < dx) {h h' : List Rat} (s : StepC ks dx t h h') (f : Falls h) : Falls h' := by
  intro i a b ha hb
  obtain ⟨⟨j, c, hj, lj, ea⟩, _⟩ := s.val i a ha
  obtain ⟨_, mb⟩ := s.val (i + 1) b hb
  have c1 : ((i + 1 : Nat) : Rat) = (i : Rat) + 1 := by rw [Rat.natCast_add]; rfl
  have cj : ((j + 1 : Nat) : Rat) = (j : Rat) + 1 := by rw [Rat.natCast_add]; rfl
  have ex : (((ahP ks dx t : Rat) + ((i + 1 : Nat) : Rat)) * dx - ((j + 1 : Nat) : Rat) * dx) = (((ahP ks dx t : Rat) + (i : Nat)) * dx - (j : Rat) * dx) := by rw [c1, cj]; grind
  by_cases hl : j + 1 < h.length
  · have hj1 := List.getElem?_eq_getElem hl
    have le := f j c _ hj hj1
    have := mb _ ⟨j + 1, _, hj1, by rw [ex]; exact lj, rfl⟩
    rw [ex] at this
    grind
  · exfalso
    have jl := (List.getElem?_eq_some_iff.mp hj).1
    have il := (List.getElem?_eq_some_iff.mp hb).1
    rw [s.len] at il
    unfold lenS at il
    have h1 : ahP ks dx t + i - j ≤ -(beP ks dx t) - 1 := by omega
    have h2 : ((ahP ks dx t + i - j : Int) : Rat) ≤ ((-(beP ks dx t) - 1 : Int) : Rat) := Rat.intCast_le_intCast.mpr h1
    have h3 := mul_le_right h2 (by grind : 0 ≤ dx)
    have h4 := beP_ge (ks := ks) (t := t) hd
    have h5 := lj.2.1
    have e1 : ((ahP ks dx t + i - j : Int) : Rat) = (ahP ks dx t : Rat) + (i : Nat) - (j : Nat) := by
      rw [Rat.intCast_sub, Rat.intCast_add]; rfl
    have e2 : ((-(beP ks dx t) - 1 : Int) : Rat) = -(beP ks dx t : Rat) - 1 := by
      rw [Rat.intCast_sub, Rat.intCast_neg]; rfl
    rw [e1, e2] at h3
    grind
theorem iter_falls {ks : List Cr} {dx t : Rat} (hd : 0 < dx) : ∀ {c : Nat} {h g : List Rat}, Iter ks dx t c h g → Falls h → Falls g
  | 0, _, _, .zero _, f => f
  | c + 1, _, _, .stop _ _, f => fun i a b ha => by simp at ha
  | c + 1, _, _, .step h1 _ s, f => s.falls hd (iter_falls hd h1 f)
end Prog

/-! C1b: the numbers of a row between its places (plain; over C1). -/
namespace Prog
open PySem PySem.Spec PyProof.Rows L2 PD
theorem prs_at {α : Type} : ∀ {l : List α} {p : α × α}, p ∈ prs l → ∃ i : Nat, l[i]? = some p.1 ∧ l[i + 1]? = some p.2
  | [], p, m => by simp [prs] at m
  | [x], p, m => by simp [prs] at m
  | x :: y :: r, p, m => by
    have m' : p = (x, y) ∨ p ∈ prs (y :: r) := by simpa [prs] using m
    rcases m' with rfl | m'
    · exact ⟨0, rfl, rfl⟩
    · obtain ⟨i, a, b⟩ := prs_at m'
      exact ⟨i + 1, by simpa using a, by simpa using b⟩
theorem crs_get (dx : Rat) (h : List Rat) (i : Nat) : (crs dx h)[i]? = h[i]?.map fun a => (((i : Nat) : Rat) * dx, a) := by
  unfold crs
  rw [List.getElem?_map]
  by_cases hi : i < h.length
  · rw [List.getElem?_range hi]
    simp [hi]
  · rw [List.getElem?_eq_none (by simp; omega), List.getElem?_eq_none (by omega)]; rfl
theorem crs_len (dx : Rat) (h : List Rat) : (crs dx h).length = h.length := by simp [crs]
theorem crs_pair {dx : Rat} {h : List Rat} {p : Cr × Cr} (m : p ∈ prs (crs dx h)) : ∃ (i : Nat) (a b : Rat), h[i]? = some a ∧ h[i + 1]? = some b ∧ p = (((i : Rat) * dx, a), (((i : Rat) + 1) * dx, b)) := by
  obtain ⟨i, e1, e2⟩ := prs_at m
  rw [crs_get] at e1 e2
  cases ha : h[i]? with
  | none => rw [ha] at e1; cases e1
  | some a =>
    cases hb : h[i + 1]? with
    | none => rw [hb] at e2; cases e2
    | some b =>
      rw [ha] at e1
      rw [hb] at e2
      simp only [Option.map_some, Option.some.injEq] at e1 e2
      refine ⟨i, a, b, ha, hb, ?_⟩
      obtain ⟨p1, p2⟩ := p
      simp only at e1 e2
      rw [← e1, ← e2, Rat.natCast_add]
      rfl
theorem crs_asc {dx : Rat} (hd : 0 < dx) {h : List Rat} : ∀ p ∈ prs (crs dx h), p.1.1 < p.2.1 := fun p m => by
  obtain ⟨i, a, b, _, _, rfl⟩ := crs_pair m
  simp only
  grind
theorem crs_last (dx : Rat) {h : List Rat} (hl : 2 ≤ h.length) : ((crs dx h).getLast?.getD (0, 0)).1 = ((h.length : Rat) - 1) * dx := by
  rw [List.getLast?_eq_getElem?, crs_len, crs_get, List.getElem?_eq_getElem (by omega : h.length - 1 < h.length)]
  simp only [Option.map_some, Option.getD_some]
  have : (((h.length - 1 : Nat) : Nat) : Rat) = (h.length : Rat) - 1 := by
    have e : h.length = (h.length - 1) + 1 := by omega
    have e2 : ((h.length : Nat) : Rat) = ((h.length - 1 : Nat) : Rat) + 1 := by
      rw [e, Rat.natCast_add]; simp
    rw [e2]; grind
  rw [this]
theorem rowV_seg {dx y : Rat} (hd : 0 < dx) {h : List Rat} (hl : 2 ≤ h.length) (y0 : 0 ≤ y) (y1 : y ≤ ((h.length : Rat) - 1) * dx) : ∃ (i : Nat) (a b : Rat), h[i]? = some a ∧ h[i + 1]? = some b ∧ (i : Rat) * dx ≤ y ∧ y ≤ ((i : Rat) + 1) * dx ∧ rowV dx h y = a + (b - a) / dx * (y - (i : Rat) * dx) := by
  have hlast := crs_last dx hl
  have hlen := crs_len dx h
  have h0 := crs_get dx h 0
  have asc := fun p => crs_pair (dx := dx) (h := h) (p := p)
  unfold rowV
  cases hc : crs dx h with
  | nil => rw [hc] at hlen; simp at hlen; omega
  | cons c r =>
    rw [hc] at hlast hlen h0 asc
    have hr : r ≠ [] := by rintro rfl; simp at hlen; omega
    have c0 : c.1 = 0 := by
      rw [List.getElem?_eq_getElem (by omega : 0 < h.length)] at h0
      simp at h0
      rw [h0]
    obtain ⟨p, mp, q1, q2, q3⟩ := seg_flowL r c (by rw [c0]; exact y0) (by rw [hlast]; exact y1) hr
    obtain ⟨i, a, b, ha, hb, rfl⟩ := asc p mp
    refine ⟨i, a, b, ha, hb, q1, q2, ?_⟩
    show flowL c r y = _
    rw [q3]
    simp only [slope]
    have e : ((i : Rat) + 1) * dx - (i : Rat) * dx = dx := by grind
    rw [e]
theorem nat_le_of_mul {i j : Nat} {dx : Rat} (hd : 0 < dx) (h : (i : Rat) * dx ≤ (j : Rat) * dx) : i ≤ j := by
  by_cases z : i ≤ j
  · exact z
  · exfalso
    have h1 : (j : Rat) + 1 ≤ (i : Rat) := by
      have : ((j + 1 : Nat) : Rat) ≤ (i : Rat) := Rat.natCast_le_natCast.mpr (by omega)
      rwa [Rat.natCast_add] at this
    have h2 := mul_le_right h1 (by grind : 0 ≤ dx)
    grind
theorem rowV_at {dx y : Rat} (hd : 0 < dx) {h : List Rat} {j : Nat} {a b : Rat} (ha : h[j]? = some a) (hb : h[j + 1]? = some b) (y0 : (j : Rat) * dx ≤ y) (y1 : y ≤ ((j : Rat) + 1) * dx) : rowV dx h y = a + (b - a) / dx * (y - (j : Rat) * dx) := by
  have jl := (List.getElem?_eq_some_iff.mp hb).1
  have j0 : 0 ≤ (j : Rat) := Rat.natCast_nonneg
  have p0 : 0 ≤ (j : Rat) * dx := Rat.mul_nonneg j0 (by grind)
  have jb : ((j : Rat) + 1) * dx ≤ ((h.length : Rat) - 1) * dx := by
    have : ((j + 2 : Nat) : Rat) ≤ (h.length : Rat) := Rat.natCast_le_natCast.mpr (by omega)
    rw [Rat.natCast_add] at this
    have e2 : ((2 : Nat) : Rat) = 2 := rfl
    rw [e2] at this
    exact mul_le_right (by grind) (by grind)
  obtain ⟨i, c, d, hc, hdd, l1, l2, e⟩ := rowV_seg hd (by omega : 2 ≤ h.length) (by grind) (Rat.le_trans y1 jb)
  rw [e]
  have i1 : ((i + 1 : Nat) : Rat) = (i : Rat) + 1 := by rw [Rat.natCast_add]; rfl
  have j1 : ((j + 1 : Nat) : Rat) = (j : Rat) + 1 := by rw [Rat.natCast_add]; rfl
  have ij : i ≤ j + 1 := nat_le_of_mul hd (by rw [j1]; grind)
  have ji : j ≤ i + 1 := nat_le_of_mul hd (by rw [i1]; grind)
  have dn : dx ≠ 0 := by grind
  have cases3 : i = j ∨ i + 1 = j ∨ i = j + 1 := by omega
  rcases cases3 with rfl | rfl | rfl
  · rw [ha] at hc; rw [hb] at hdd
    cases hc; cases hdd; rfl
  · rw [ha] at hdd; cases hdd
    rw [i1] at y0 ⊢
    have ey : y = ((i : Rat) + 1) * dx := by grind
    rw [ey]
    have e3 : (a - c) / dx * (((i : Rat) + 1) * dx - (i : Rat) * dx) = a - c := by
      have : ((i : Rat) + 1) * dx - (i : Rat) * dx = dx := by grind
      rw [this, Rat.div_mul_cancel dn]
    have e4 : (b - a) / dx * (((i : Rat) + 1) * dx - ((i : Rat) + 1) * dx) = 0 := by grind
    rw [e3, e4]; grind
  · rw [hb] at hc; cases hc
    rw [j1] at l1 ⊢
    have ey : y = ((j : Rat) + 1) * dx := by grind
    rw [ey]
    have e3 : (b - a) / dx * (((j : Rat) + 1) * dx - (j : Rat) * dx) = b - a := by
      have : ((j : Rat) + 1) * dx - (j : Rat) * dx = dx := by grind
      rw [this, Rat.div_mul_cancel dn]
    have e4 : (d - b) / dx * (((j : Rat) + 1) * dx - ((j : Rat) + 1) * dx) = 0 := by grind
    rw [e3, e4]; grind
theorem rowV_corner {dx : Rat} (hd : 0 < dx) {h : List Rat} (hl : 2 ≤ h.length) {j : Nat} {a : Rat} (ha : h[j]? = some a) : rowV dx h ((j : Rat) * dx) = a := by
  have jl := (List.getElem?_eq_some_iff.mp ha).1
  by_cases hj : j + 1 < h.length
  · rw [rowV_at hd ha (List.getElem?_eq_getElem hj) Rat.le_refl (by grind)]
    grind
  · cases j with
    | zero => omega
    | succ j =>
      have j1 : ((j + 1 : Nat) : Rat) = (j : Rat) + 1 := by rw [Rat.natCast_add]; rfl
      rw [j1, rowV_at hd (List.getElem?_eq_getElem (by omega : j < h.length)) ha (by grind) Rat.le_refl]
      have : ((j : Rat) + 1) * dx - (j : Rat) * dx = dx := by grind
      rw [this, Rat.div_mul_cancel (by grind)]
      grind
end Prog

/-! C17: even rows that cells tell unlike (plain; k52; over C1b). -/
namespace Prog
open PySem PySem.Spec PyProof.Rows L2 PD
/-- strictly inside a piece: no step but with its speed tells so little -/
theorem strict_toll {n : Nat} {ks : List Cr} (hk : Kd n ks) {a b : Cr} (m : (a, b) ∈ prs ks) {d y t : Rat} (h1 : a.1 < d) (h2 : d < b.1) (hy : y ≠ slope a b * t) : (a.2 + slope a b * (d - a.1)) * t < tollL ks y t 0 + d * y := by
  obtain ⟨_, ge⟩ := tollL_ge (x := y) (t := t) ks 0
  obtain ⟨ma, mb⟩ := prs_mem m
  have ga := ge a ma
  have gb := ge b mb
  have sm := slope_mul (hk.asc _ m)
  try simp only at sm
  have smt := congrArg (fun z => z * t) sm
  try simp only at smt
  generalize slope a b = v at *
  by_cases hc : v * t < y
  · have := Rat.mul_pos (show 0 < d - a.1 by grind) (show 0 < y - v * t by grind)
    grind
  · have := Rat.mul_pos (show 0 < b.1 - d by grind) (show 0 < v * t - y by grind)
    grind
theorem toll_at_speed {n : Nat} {ks : List Cr} (hk : Kd n ks) {a b : Cr} (m : (a, b) ∈ prs ks) {t : Rat} (ht : 0 ≤ t) : tollL ks (slope a b * t) t 0 = a.2 * t - a.1 * (slope a b * t) := by
  have e := tollL_scale (ks := ks) (x := slope a b) (t := 1) (s := t) ht
  have e1 : (1 : Rat) * t = t := by grind
  rw [e1] at e
  rw [e]
  have := (tr_at hk m).1
  unfold tr at this
  simp only at this
  rw [this]
  grind
def evenR (dx d : Rat) (many : Nat) : List Rat := (List.range many).map fun j => -(((j : Nat) : Rat) * (d * dx))
theorem even_get {dx d : Rat} {many j : Nat} {a : Rat} (h : (evenR dx d many)[j]? = some a) : a = -((j : Rat) * (d * dx)) := by
  unfold evenR at h
  have hj : j < many := by
    have := (List.getElem?_eq_some_iff.mp h).1
    simpa using this
  rw [List.getElem?_map, List.getElem?_range hj] at h
  cases h; rfl
theorem even_len (dx d : Rat) (many : Nat) : (evenR dx d many).length = many := by simp [evenR]
theorem even_rowV {dx d y : Rat} (hd : 0 < dx) {many : Nat} (l2 : 2 ≤ many) (y0 : 0 ≤ y) (y1 : y ≤ ((many : Rat) - 1) * dx) : rowV dx (evenR dx d many) y = -(d * y) := by
  obtain ⟨i, a, b, ha, hb, _, _, e⟩ := rowV_seg (h := evenR dx d many) hd (by rw [even_len]; exact l2) y0 (by rw [even_len]; exact y1)
  have ea := even_get ha
  have eb := even_get hb
  have i1 : ((i + 1 : Nat) : Rat) = (i : Rat) + 1 := by rw [Rat.natCast_add]; rfl
  rw [i1] at eb
  have ed : (b - a) / dx = -d := by
    have : b - a = -(d * dx) := by rw [ea, eb]; grind
    rw [this]
    grind
  rw [e, ed, ea]
  grind
/-- on an even row the least of cells is above the true least, where the piece's own speed leads to no place -/
theorem even_unlike {n : Nat} {ks : List Cr} (hk : Kd n ks) {a b : Cr} (m : (a, b) ∈ prs ks) {dx d t : Rat} (hd : 0 < dx) (ht : 0 < t) (h1 : a.1 < d) (h2 : d < b.1) {many J : Nat} (l2 : 2 ≤ many)
    (r0 : 0 ≤ (J : Rat) * dx - slope a b * t) (r1 : (J : Rat) * dx - slope a b * t ≤ ((many : Rat) - 1) * dx) (hno : ∀ j : Nat, (J : Rat) * dx - (j : Rat) * dx ≠ slope a b * t) {u w : Rat}
    (hu : CV ks dx (evenR dx d many) t ((J : Rat) * dx) u) (hw : Min (TV ks dx (evenR dx d many) t ((J : Rat) * dx)) w) : w < u := by
  obtain ⟨j, c, hj, _, rfl⟩ := hu
  have ec := even_get hj
  have st := strict_toll hk m (t := t) h1 h2 (hno j)
  have ts := toll_at_speed hk m (by grind : 0 ≤ t)
  have le := hw.2 _ (.inr ⟨slope a b, List.mem_map.mpr ⟨_, m, rfl⟩, r0, by rw [even_len]; exact r1, rfl⟩)
  rw [even_rowV hd l2 r0 r1, ts] at le
  rw [ec]
  grind
end Prog

/-! C2: the program's rows of cells: looked at, margins, numbers on a row (over F2, F3, C1). -/
namespace Prog
open PySem PySem.Spec PyProof.Rows L2 PD
def rowD (h : List Rat) : PyData := .tuple (h.map fr)
theorem r_is_amount (k : Nat) (q : Rat) (S : Sto) : run T (k + 4) "is_amount" [.d (fr q)] S = some (.d (.bool (decide (0 < q))), S) := by
  rw [u_is_amount]
  refine run_ret (ρ := [some (.d (fr q))]) ?_
  have e := r_is_fraction k q S
  have hn := num_pos' q
  simp [b_is_amount, startR, e, hn]
theorem r_check_amount (k : Nat) {q : Rat} (h : 0 < q) (S : Sto) : run T (k + 5) "check_amount" [.d (fr q)] S = some (.d .none, S) := by
  rw [u_check_amount]
  refine run_nx (ρ := [some (.d (fr q))]) ?_
  simp [b_check_amount, startR, r_is_amount, h]
theorem r_check_steps {n : Nat} (k : Nat) {ks : List Cr} {dx t : Rat} (h : Kd n ks) (hn : n < 1000) (hd : 0 < dx) (ht : 0 < t) (S : Sto) : run T (k + 10) "check_steps" [.d (kd ks), .d (fr dx), .d (fr t)] S = some (.d .none, S) := by
  have e1 := r_check_kind k h hn S
  have e2 := r_check_amount (k + 4) hd S
  have e3 := r_check_amount (k + 4) ht S
  rw [u_check_steps]
  refine run_nx (ρ := [some (.d (kd ks)), some (.d (fr dx)), some (.d (fr t))]) ?_
  simp [b_check_steps, startR, e1, e2, e3]
theorem enum_zip : ∀ (l : List Rat) (n : Nat), enumD n (l.map fr) = (l.zipIdx n).map fun t => PyData.tuple [.int (t.2 : Nat), fr t.1]
  | [], _ => rfl
  | x :: l, n => by
    rw [List.map_cons, List.zipIdx_cons, List.map_cons, ← enum_zip l (n + 1)]
    rfl
/-- what check_row looks at -/
structure RowOk (ks : List Cr) (dx : Rat) (m : Nat) (h : List Rat) : Prop where
  l2 : 2 ≤ h.length
  l40 : h.length ≤ 40
  sz : ∀ v ∈ h, Sz m v
  fall : ∀ i a b, h[i]? = some a → h[i + 1]? = some b → b ≤ a ∧ a - b ≤ fullD ks * dx
theorem Kd.full_nn {n : Nat} {ks : List Cr} (h : Kd n ks) : 0 ≤ fullD ks := by
  obtain ⟨c1, r, acc, cl, f, hk1, hk2, p1, p2, p3, p4, hf⟩ := h.ends
  rw [hf]
  exact h.nonneg (f, 0) (by rw [hk2]; simp)
theorem mem_zip {l : List Rat} {t : Rat × Nat} (m : t ∈ l.zipIdx) : l[t.2]? = some t.1 := by
  obtain ⟨a, i⟩ := t
  exact List.mem_zipIdx_iff_getElem?.mp m
theorem at_row {h : List Rat} {i : Nat} {v : Rat} (e : h[i]? = some v) : atI (h.map fr) (i : Int) = some (fr v) := atI_nat (by rw [List.getElem?_map, e]; rfl)
theorem fdiv_floor (q : Rat) : q.num.fdiv q.den = q.floor := by
  rw [Int.fdiv_eq_ediv_of_nonneg _ (by omega), Rat.floor_def]
theorem sz_spd {n : Nat} {ks : List Cr} (h : Kd n ks) : ∀ v ∈ speeds ks, Sz (4 * n + 2) v := fun v m => by
  obtain ⟨p, mp, rfl⟩ := List.mem_map.mp m
  obtain ⟨a, b⟩ := prs_mem mp
  exact (sz_slope (h.size _ a) (h.size _ b) (h.asc p mp)).mono (by omega)
theorem r_places_gone {n z p q : Nat} (k : Nat) {ks : List Cr} {dx t : Rat} (h : KS n z ks) (hn : n < 2000) (zd : Sz p dx) (hd : 0 < dx) (zt : Sz q t) (hz : z + p + q < 8000) (S : Sto) : run T (k + 8) "places_gone" [.d (kd ks), .d (fr dx), .d (fr t)] S = some (.d (.list ((speeds ks).map fun s => fr (s * t / dx))), S) := by
  obtain ⟨R, hR⟩ : ∃ R, R = run T (k + 7) := ⟨_, rfl⟩
  have e1 := r_kind_speeds k h.kd hn S
  simp only [Nat.add_assoc, Nat.reduceAdd, ← hR] at e1
  rw [u_places_gone]
  refine run_ret (ρ := [some (.d (kd ks)), some (.d (fr dx)), some (.d (fr t)), none]) ?_
  have hl : ∀ S, lcN (nameG 3) yesB (appE (callF (c_divided R)) (consL (appE (callF (c_times R)) (consL (varE 3) (consL (varE 2) nilL))) (consL (varE 1) nilL))) [some (.d (kd ks)), some (.d (fr dx)), some (.d (fr t)), none] ((speeds ks).map fr) S = some ((speeds ks).map (fun s => fr (s * t / dx)), S) := fun S => by
    refine lcN_each fr (fun s => [some (.d (kd ks)), some (.d (fr dx)), some (.d (fr t)), some (.d (fr s))]) (fun s => fr (s * t / dx)) _ (fun s m => by simp) fun s m => ?_
    have f1 := r_times (k + 2) (h.spd s m) zt (by omega) S
    have f2 := r_divided (k + 2) (show dx ≠ 0 by grind) (sz_mul (h.spd s m) zt) zd (by omega) S
    simp only [Nat.add_assoc, Nat.reduceAdd, ← hR] at f1 f2
    simp [f1, f2]
  have l12 := h.kd.len12
  have sl : (speeds ks).length ≤ 100000 := by
    unfold speeds
    rw [List.length_map, prs_len]; omega
  simp only [Nat.add_assoc, Nat.reduceAdd, ← hR]
  simp [b_places_gone, startR, x_lc, wipeR, e1, hl, sl]
theorem spd_at0 {n : Nat} {ks : List Cr} (h : Kd n ks) {α : Type} (f : Rat → α) : atI ((speeds ks).map f) 0 = some (f (freeV ks)) ∧ atI ((speeds ks).map f) (-1) = some (f (backV ks)) ∧ freeV ks ∈ speeds ks ∧ backV ks ∈ speeds ks := by
  have sne := (speeds_ne h).2
  refine ⟨?_, ?_, ?_⟩
  · cases hs : speeds ks with
    | nil => rw [hs] at sne; simp at sne
    | cons w r => simp [freeV, hs]
  · rcases List.eq_nil_or_concat (speeds ks) with e | ⟨r, l, e⟩
    · rw [e] at sne; simp at sne
    · rw [List.concat_eq_append] at e
      have eb : backV ks = l := by unfold backV; rw [e]; simp
      rw [eb, e, List.map_append]
      exact at_last _ _
  · rcases List.eq_nil_or_concat (speeds ks) with e | ⟨r, l, e⟩
    · rw [e] at sne; simp at sne
    · rw [List.concat_eq_append] at e
      have eb : backV ks = l := by unfold backV; rw [e]; simp
      refine ⟨?_, by rw [eb, e]; simp⟩
      cases hs : speeds ks with
      | nil => rw [hs] at sne; simp at sne
      | cons w r => simp [freeV, hs]
theorem r_margins {n z p q : Nat} (k : Nat) {ks : List Cr} {dx t : Rat} (h : KS n z ks) (hn : n < 2000) (zd : Sz p dx) (hd : 0 < dx) (zt : Sz q t) (hz : z + p + q < 8000) (S : Sto) : run T (k + 9) "margins" [.d (kd ks), .d (fr dx), .d (fr t)] S = some (.d (.tuple [.int (ahP ks dx t), .int (beP ks dx t)]), S) := by
  obtain ⟨R, hR⟩ : ∃ R, R = run T (k + 8) := ⟨_, rfl⟩
  have e1 := r_places_gone k h hn zd hd zt hz S
  simp only [← hR] at e1
  obtain ⟨a0, a1, mf, mb⟩ := spd_at0 h.kd (fun s => fr (s * t / dx))
  have f0 := sz_div (show dx ≠ 0 by grind) (sz_mul (h.spd _ mf) zt) zd
  have f1 := sz_div (show dx ≠ 0 by grind) (sz_mul (h.spd _ mb) zt) zd
  rw [u_margins]
  simp only [← hR]
  obtain ⟨PS, hPS⟩ : ∃ PS, PS = (speeds ks).map fun s => fr (s * t / dx) := ⟨_, rfl⟩
  rw [← hPS] at e1 a0 a1
  have ea : ahP ks dx t = -((-(freeV ks * t / dx)).floor) := rfl
  have eb : beP ks dx t = -((backV ks * t / dx).floor) := rfl
  generalize freeV ks * t / dx = u at *
  generalize backV ks * t / dx = v at *
  have d0 := divOk_of (n := z + q + p) (show (u.den : Int) ≠ 0 by have := u.den_pos; omega) f0.2 (by omega)
  have d1 := divOk_of (n := z + q + p) (show (v.den : Int) ≠ 0 by have := v.den_pos; omega) f1.2 (by omega)
  have g0 : (-u.num).fdiv u.den = (-u).floor := by
    have := fdiv_floor (-u)
    rwa [Rat.neg_num, Rat.neg_den] at this
  have g1 := fdiv_floor v
  refine run_ret (ρ := [some (.d (kd ks)), some (.d (fr dx)), some (.d (fr t)), some (.d (.list PS))]) ?_
  simp [b_margins, startR, e1, a0, a1, d0, d1, g0, g1, ea, eb]
theorem fr_nat (j : Nat) : fr (j : Rat) = .tuple [.int (j : Int), .int 1] := by
  unfold fr
  rw [← Rat.intCast_natCast, Rat.num_intCast, Rat.den_intCast]; rfl
theorem sz_nat {n j : Nat} (h : j < 2 ^ n) (hn : 0 < n) : Sz n (j : Rat) := by
  refine ⟨?_, ?_⟩
  · rw [← Rat.intCast_natCast, Rat.num_intCast]; unfold Lt2; simpa using h
  · rw [← Rat.intCast_natCast, Rat.den_intCast]; unfold Lt2; exact Nat.one_lt_two_pow (by omega)
theorem len_le (a b : Nat) (h : a ≤ b) : (a : Rat) ≤ (b : Rat) := Rat.natCast_le_natCast.mpr h
end Prog

/-! C18: the program's even rows (k52; over C2, C17). -/
namespace Prog
open PySem PySem.Spec PyProof.Rows L2 PD
theorem r_even_row {p q : Nat} (k : Nat) {dx d : Rat} (zd : Sz p dx) (zq : Sz q d) (many : Nat) (hm : many ≤ 40) (hz : 2 * p + 2 * q < 8000) (S : Sto) : run T (k + 6) "even_row" [.d (fr dx), .d (fr d), .d (.int (many : Int))] S = some (.d (rowD (evenR dx d many)), S) := by
  obtain ⟨R, hR⟩ : ∃ R, R = run T (k + 5) := ⟨_, rfl⟩
  have e1 : ∀ S, R "times" [.d (fr d), .d (fr dx)] S = some (.d (fr (d * dx)), S) := fun S => by rw [hR]; exact r_times k zq zd (by omega) S
  have e2 : ∀ j : Nat, j < many → ∀ S, R "times" [.d (.tuple [.int (j : Int), .int 1]), .d (fr (d * dx))] S = some (.d (fr ((j : Rat) * (d * dx))), S) := fun j hj S => by
    have f := r_times k (sz_nat (n := 6) (j := j) (by omega) (by omega)) (sz_mul zq zd) (by omega) S
    rw [fr_nat] at f
    rw [hR]; exact f
  have e3 : ∀ j : Nat, j < many → ∀ S, R "minus" [.d (.tuple [.int 0, .int 1]), .d (fr ((j : Rat) * (d * dx)))] S = some (.d (fr (-((j : Rat) * (d * dx)))), S) := fun j hj S => by
    have f := r_minus k sz0 (sz_mul (sz_nat (n := 6) (j := j) (by omega) (by omega)) (sz_mul zq zd)) (by omega) S
    rw [fr0, show (0 : Rat) - (j : Rat) * (d * dx) = -((j : Rat) * (d * dx)) by grind] at f
    rw [hR]; exact f
  have rg := rangeU_nat many S (by omega)
  have hr0 : (rangeD 0 many).length = many := by simp [rangeD]
  have ll : many ≤ 100000 := by omega
  have hl : lcN (nameG 3) yesB (appE (callF (c_minus R)) (consL (constE (.tuple [(.int 0), (.int 1)])) (consL (appE (callF (c_times R)) (consL (appE tupF (consL (frzE (varE 3)) (consL (constE (.int 1)) nilL))) (consL (appE (callF (c_times R)) (consL (varE 1) (consL (varE 0) nilL))) nilL))) nilL))) [some (.d (fr dx)), some (.d (fr d)), some (.d (.int (many : Int))), none] (rangeD 0 many) S = some ((evenR dx d many).map fr, S) := by
    have := lcN_each (g := nameG 3) (elt := appE (callF (c_minus R)) (consL (constE (.tuple [(.int 0), (.int 1)])) (consL (appE (callF (c_times R)) (consL (appE tupF (consL (frzE (varE 3)) (consL (constE (.int 1)) nilL))) (consL (appE (callF (c_times R)) (consL (varE 1) (consL (varE 0) nilL))) nilL))) nilL))) (ρ := [some (.d (fr dx)), some (.d (fr d)), some (.d (.int (many : Int))), none]) (S := S)
      (fun j : Nat => PyData.int (0 + (j : Nat))) (fun j => [some (.d (fr dx)), some (.d (fr d)), some (.d (.int (many : Int))), some (.d (.int (0 + (j : Nat))))]) (fun j => fr (-((j : Rat) * (d * dx)))) (List.range many) (fun j mj => by simp) (fun j mj => by
        have hj := List.mem_range.mp mj
        simp [e1, e2 j hj, e3 j hj, frzE, thaw])
    unfold evenR
    rw [List.map_map]
    exact this
  rw [u_even_row]
  simp only [← hR]
  refine run_ret (ρ := [some (.d (fr dx)), some (.d (fr d)), some (.d (.int (many : Int))), none]) ?_
  simp [b_even_row, startR, rg, x_lc, wipeR, hr0, ll, hl, rowD]
end Prog

/-! C3: the least number at a goal, a step by cells, the true one, some steps: the program's (over C2). -/
namespace Prog
open PySem PySem.Spec PyProof.Rows L2 PD
section
variable (ks : List Cr) (dx : Rat) (h : List Rat) (t x : Rat)
def candO (y : Rat) : Option Rat := if Lets ks (x - y) t then some (rowV dx h y + tollL ks (x - y) t 0) else none
def leastS (o : Option Rat) (y : Rat) : Option Rat := match candO ks dx h t x y with
  | none => o
  | some v => match o with
    | none => some v
    | some b => if v < b then some v else some b
def leastO (ys : List Rat) : Option Rat := ys.foldl (leastS ks dx h t x) none
end
section
variable {ks : List Cr} {dx : Rat} {h : List Rat} {t x : Rat}
theorem ls1 {y v : Rat} (hc : candO ks dx h t x y = some v) : leastS ks dx h t x none y = some v := by unfold leastS; rw [hc]
theorem ls2 {y v b : Rat} (hc : candO ks dx h t x y = some v) : leastS ks dx h t x (some b) y = if v < b then some v else some b := by unfold leastS; rw [hc]
theorem least_spec : ∀ (ys : List Rat) (o : Option Rat), match ys.foldl (leastS ks dx h t x) o with
    | none => o = none ∧ ∀ y ∈ ys, candO ks dx h t x y = none
    | some b => (o = some b ∨ ∃ y ∈ ys, candO ks dx h t x y = some b) ∧ (∀ a, o = some a → b ≤ a) ∧ ∀ y ∈ ys, ∀ v, candO ks dx h t x y = some v → b ≤ v
  | [], o => by
    cases o with
    | none => exact ⟨rfl, fun y m => absurd m (by simp)⟩
    | some b => exact ⟨.inl rfl, fun a e => by cases e; exact Rat.le_refl, fun y m => absurd m (by simp)⟩
  | y :: ys, o => by
    have ih := least_spec ys (leastS ks dx h t x o y)
    rw [List.foldl_cons]
    cases hc : candO ks dx h t x y with
    | none =>
      have e : leastS ks dx h t x o y = o := by unfold leastS; rw [hc]
      rw [e] at ih ⊢
      split at ih
      · refine ⟨ih.1, fun z m => ?_⟩
        rcases List.mem_cons.mp m with rfl | m
        · exact hc
        · exact ih.2 z m
      · refine ⟨?_, ih.2.1, fun z m v ev => ?_⟩
        · rcases ih.1 with q | ⟨z, m, q⟩
          · exact .inl q
          · exact .inr ⟨z, List.mem_cons_of_mem _ m, q⟩
        · rcases List.mem_cons.mp m with rfl | m
          · rw [hc] at ev; cases ev
          · exact ih.2.2 z m v ev
    | some v =>
      cases o with
      | none =>
        have e := ls1 hc
        rw [e] at ih ⊢
        split at ih
        · cases ih.1
        · refine ⟨?_, fun a z => (by cases z), fun z m w ew => ?_⟩
          · rcases ih.1 with q | ⟨z, m, q⟩
            · exact .inr ⟨y, List.mem_cons_self, by rw [hc]; exact q⟩
            · exact .inr ⟨z, List.mem_cons_of_mem _ m, q⟩
          · rcases List.mem_cons.mp m with rfl | m
            · rw [hc] at ew; cases ew; exact ih.2.1 _ rfl
            · exact ih.2.2 z m w ew
      | some b0 =>
        have e := ls2 (b := b0) hc
        by_cases hb : v < b0
        · rw [if_pos hb] at e
          rw [e] at ih ⊢
          split at ih
          · cases ih.1
          · refine ⟨?_, fun a z => (by cases z; have := ih.2.1 _ rfl; grind), fun z m w ew => ?_⟩
            · rcases ih.1 with q | ⟨z, m, q⟩
              · exact .inr ⟨y, List.mem_cons_self, by rw [hc]; exact q⟩
              · exact .inr ⟨z, List.mem_cons_of_mem _ m, q⟩
            · rcases List.mem_cons.mp m with rfl | m
              · rw [hc] at ew; cases ew; exact ih.2.1 _ rfl
              · exact ih.2.2 z m w ew
        · rw [if_neg hb] at e
          rw [e] at ih ⊢
          split at ih
          · cases ih.1
          · refine ⟨?_, ih.2.1, fun z m w ew => ?_⟩
            · rcases ih.1 with q | ⟨z, m, q⟩
              · exact .inl q
              · exact .inr ⟨z, List.mem_cons_of_mem _ m, q⟩
            · rcases List.mem_cons.mp m with rfl | m
              · rw [hc] at ew; cases ew; have := ih.2.1 _ rfl; grind
              · exact ih.2.2 z m w ew
theorem least_min {ys : List Rat} {y0 : Rat} (m0 : y0 ∈ ys) (l0 : Lets ks (x - y0) t) : ∃ b, leastO ks dx h t x ys = some b ∧ Min (fun v => ∃ y ∈ ys, Lets ks (x - y) t ∧ v = rowV dx h y + tollL ks (x - y) t 0) b := by
  have sp := least_spec (ks := ks) (dx := dx) (h := h) (t := t) (x := x) ys none
  unfold leastO
  split at sp
  · have := sp.2 y0 m0
    unfold candO at this
    rw [if_pos l0] at this
    cases this
  · rename_i b hb
    refine ⟨b, hb, ?_, ?_⟩
    · rcases sp.1 with q | ⟨y, m, q⟩
      · cases q
      · unfold candO at q
        split at q
        · rename_i l; cases q; exact ⟨y, m, l, rfl⟩
        · cases q
    · rintro w ⟨y, m, l, rfl⟩
      exact sp.2.2 y m _ (if_pos l)
end
theorem sz_rowV {m p c : Nat} {dx y : Rat} {h : List Rat} (zd : Sz p dx) (hd : 0 < dx) (zy : Sz c y) (l2 : 2 ≤ h.length) (l40 : h.length ≤ 40) (hs : ∀ v ∈ h, Sz m v) (y0 : 0 ≤ y) (y1 : y ≤ ((h.length : Rat) - 1) * dx) : Sz (3 * m + 2 * p + c + 10) (rowV dx h y) := by
  obtain ⟨i, a, b, ha, hb, _, _, e⟩ := rowV_seg hd l2 y0 y1
  have il := (List.getElem?_eq_some_iff.mp ha).1
  have za := hs a (List.mem_of_getElem? ha)
  have zb := hs b (List.mem_of_getElem? hb)
  have zi : Sz 6 (i : Rat) := sz_nat (by omega) (by omega)
  rw [e]
  exact (sz_add za (sz_mul (sz_div (by grind) (sz_sub zb za) zd) (sz_sub zy (sz_mul zi zd)))).mono (by omega)
end Prog

/-! C4: a step of the program's cells, the true one (over C3). -/
namespace Prog
open PySem PySem.Spec PyProof.Rows L2 PD
def PV (tr : Bool) (ks : List Cr) (dx : Rat) (h : List Rat) (t x v : Rat) : Prop := CV ks dx h t x v ∨ (tr = true ∧ ∃ s ∈ speeds ks, 0 ≤ x - s * t ∧ x - s * t ≤ ((h.length : Rat) - 1) * dx ∧ v = rowV dx h (x - s * t) + tollL ks (s * t) t 0)
structure StepP (tr : Bool) (ks : List Cr) (dx t : Rat) (h h' : List Rat) : Prop where
  len : h'.length = lenS ks dx t h.length
  val : ∀ i v, h'[i]? = some v → Min (PV tr ks dx h t (((ahP ks dx t : Rat) + (i : Nat)) * dx)) v
theorem pv_false {ks : List Cr} {dx t x v : Rat} {h : List Rat} : PV false ks dx h t x v ↔ CV ks dx h t x v := ⟨fun z => z.elim id fun y => absurd y.1 (by decide), .inl⟩
theorem pv_true {ks : List Cr} {dx t x v : Rat} {h : List Rat} : PV true ks dx h t x v ↔ TV ks dx h t x v := ⟨fun z => z.elim .inl fun y => .inr y.2, fun z => z.elim .inl fun y => .inr ⟨rfl, y⟩⟩
theorem StepP.c {ks : List Cr} {dx t : Rat} {h h' : List Rat} (s : StepP false ks dx t h h') : StepC ks dx t h h' :=
  ⟨s.len, fun i v e => ⟨pv_false.mp (s.val i v e).1, fun w z => (s.val i v e).2 w (pv_false.mpr z)⟩⟩
/-- the places of a row -/
def cellsR (dx : Rat) (n : Nat) : List Rat := (List.range n).map fun j => ((j : Nat) : Rat) * dx
def startsR (tr : Bool) (ks : List Cr) (dx t x : Rat) (n : Nat) : List Rat := cellsR dx n ++ (if tr = true then (speeds ks).map fun s => x - s * t else [])
theorem cells_mem {dx : Rat} {n : Nat} {y : Rat} : y ∈ cellsR dx n ↔ ∃ j : Nat, j < n ∧ y = (j : Rat) * dx := by
  unfold cellsR
  simp only [List.mem_map, List.mem_range]
  exact ⟨fun ⟨j, a, b⟩ => ⟨j, a, b.symm⟩, fun ⟨j, a, b⟩ => ⟨j, a, b.symm⟩⟩
theorem starts_mem {tr : Bool} {ks : List Cr} {dx t x : Rat} {n : Nat} {y : Rat} : y ∈ startsR tr ks dx t x n ↔ (∃ j : Nat, j < n ∧ y = (j : Rat) * dx) ∨ (tr = true ∧ ∃ s ∈ speeds ks, y = x - s * t) := by
  unfold startsR
  rw [List.mem_append, cells_mem]
  cases tr with
  | false => simp
  | true => simp [eq_comm]
/-- the range in which numbers are told again -/
theorem goal_range {n : Nat} {ks : List Cr} (hk : Kd n ks) {dx t : Rat} (hd : 0 < dx) (ht : 0 < t) {len i : Nat} (hi : i < lenS ks dx t len) : ∃ j : Nat, (ahP ks dx t : Rat) + (i : Nat) = (j : Rat) ∧ ahP ks dx t + (i : Nat) = (j : Nat) ∧ j < len ∧
    ∀ s ∈ speeds ks, 0 ≤ (j : Rat) * dx - s * t ∧ (j : Rat) * dx - s * t ≤ ((len : Rat) - 1) * dx := by
  have a1 := ahP_pos hk hd ht
  have b1 := beP_pos hk hd ht
  have ag := ahP_ge (ks := ks) (t := t) hd
  have bg := beP_ge (ks := ks) (t := t) hd
  unfold lenS at hi
  obtain ⟨j, hj⟩ := Int.eq_ofNat_of_zero_le (show 0 ≤ ahP ks dx t + (i : Nat) by omega)
  have ej : (ahP ks dx t : Rat) + (i : Nat) = (j : Rat) := by
    rw [← Rat.intCast_natCast i, ← Rat.intCast_add, hj]; rfl
  have i0 : 0 ≤ (i : Rat) := Rat.natCast_nonneg
  refine ⟨j, ej, hj, by omega, fun s m => ?_⟩
  obtain ⟨r1, r2⟩ := speeds_range hk s m
  have m1 := mul_le_right r1 (by grind : 0 ≤ t)
  have m2 := mul_le_right r2 (by grind : 0 ≤ t)
  constructor
  · have : (ahP ks dx t : Rat) * dx ≤ (j : Rat) * dx := mul_le_right (by rw [← ej]; grind) (by grind)
    grind
  · have h1 : (j : Int) ≤ (len : Int) - 1 - beP ks dx t := by omega
    have h2 : ((j : Int) : Rat) ≤ (((len : Int) - 1 - beP ks dx t : Int) : Rat) := Rat.intCast_le_intCast.mpr h1
    have e1 : (((len : Int) - 1 - beP ks dx t : Int) : Rat) = (len : Rat) - 1 - (beP ks dx t : Rat) := by
      rw [Rat.intCast_sub, Rat.intCast_sub]; rfl
    rw [e1] at h2
    have h3 := mul_le_right (show (j : Rat) ≤ (len : Rat) - 1 - (beP ks dx t : Rat) from h2) (by grind : 0 ≤ dx)
    grind
theorem starts_min {n : Nat} {tr : Bool} {ks : List Cr} (hk : Kd n ks) {dx t : Rat} (hd : 0 < dx) (ht : 0 < t) {h : List Rat} (l2 : 2 ≤ h.length) {j : Nat} (hj : j < h.length)
    (hs : ∀ s ∈ speeds ks, 0 ≤ (j : Rat) * dx - s * t ∧ (j : Rat) * dx - s * t ≤ ((h.length : Rat) - 1) * dx) :
    ∃ b, leastO ks dx h t ((j : Rat) * dx) (startsR tr ks dx t ((j : Rat) * dx) h.length) = some b ∧ Min (PV tr ks dx h t ((j : Rat) * dx)) b := by
  have bk := back_neg hk
  have fp := free_pos hk
  have l0 : Lets ks ((j : Rat) * dx - (j : Rat) * dx) t := by
    have e : (j : Rat) * dx - (j : Rat) * dx = 0 := by grind
    rw [e]
    refine ⟨by grind, ?_, ?_⟩
    · have := Rat.mul_pos (show 0 < - backV ks by grind) ht; grind
    · have := Rat.mul_pos fp ht; grind
  obtain ⟨b, e, mb⟩ := least_min (dx := dx) (h := h) (ys := startsR tr ks dx t ((j : Rat) * dx) h.length) (starts_mem.mpr (.inl ⟨j, hj, rfl⟩)) l0
  have iff : ∀ v, (∃ y ∈ startsR tr ks dx t ((j : Rat) * dx) h.length, Lets ks ((j : Rat) * dx - y) t ∧ v = rowV dx h y + tollL ks ((j : Rat) * dx - y) t 0) ↔ PV tr ks dx h t ((j : Rat) * dx) v := by
    intro v
    constructor
    · rintro ⟨y, m, l, rfl⟩
      rcases starts_mem.mp m with ⟨i, hi, rfl⟩ | ⟨rfl, s, ms, rfl⟩
      · refine .inl ⟨i, h[i], List.getElem?_eq_getElem hi, l, ?_⟩
        rw [rowV_corner hd l2 (List.getElem?_eq_getElem hi)]
      · refine .inr ⟨rfl, s, ms, (hs s ms).1, (hs s ms).2, ?_⟩
        have : (j : Rat) * dx - ((j : Rat) * dx - s * t) = s * t := by grind
        rw [this]
    · rintro (⟨i, a, hi, l, rfl⟩ | ⟨rfl, s, ms, _, _, rfl⟩)
      · refine ⟨(i : Rat) * dx, starts_mem.mpr (.inl ⟨i, (List.getElem?_eq_some_iff.mp hi).1, rfl⟩), l, ?_⟩
        rw [rowV_corner hd l2 hi]
      · have es : (j : Rat) * dx - ((j : Rat) * dx - s * t) = s * t := by grind
        obtain ⟨r1, r2⟩ := speeds_range hk s ms
        refine ⟨(j : Rat) * dx - s * t, starts_mem.mpr (.inr ⟨rfl, s, ms, rfl⟩), ?_, by rw [es]⟩
        rw [es]
        exact ⟨by grind, mul_le_right r1 (by grind), mul_le_right r2 (by grind)⟩
  exact ⟨b, e, (iff b).mp mb.1, fun w hw => mb.2 w ((iff w).mpr hw)⟩
theorem lt2_floor {n : Nat} {q : Rat} (h : Sz n q) : Lt2 n q.floor := by
  rw [Rat.floor_def]
  exact h.1.ediv q.den
theorem okR_lt2 {n : Nat} {i : Int} (h : Lt2 n i) (hn : n ≤ 60) : okR i = true := by
  unfold okR
  refine decide_eq_true ?_
  have := h.log
  omega
theorem ahP_lt2 {n z p q : Nat} {ks : List Cr} (h : KS n z ks) {dx t : Rat} (zd : Sz p dx) (hd : 0 < dx) (zt : Sz q t) : Lt2 (z + q + p) (ahP ks dx t) ∧ Lt2 (z + q + p) (beP ks dx t) := by
  obtain ⟨_, _, mf, mb⟩ := spd_at0 h.kd id
  have f0 := sz_div (show dx ≠ 0 by grind) (sz_mul (h.spd _ mf) zt) zd
  have f1 := sz_div (show dx ≠ 0 by grind) (sz_mul (h.spd _ mb) zt) zd
  have fn : Sz (z + q + p) (-(freeV ks * t / dx)) := ⟨by rw [Rat.neg_num]; exact f0.1.neg, by rw [Rat.neg_den]; exact f0.2⟩
  exact ⟨(lt2_floor fn).neg, (lt2_floor f1).neg⟩
end Prog

/-! C5: stepped, cell_step, true_step, cell_run (over C4). -/
namespace Prog
open PySem PySem.Spec PyProof.Rows L2 PD
theorem x_range2 {ρ : Rho} {S S1 S2 : Sto} {a b : CE} {i j : Int} (ha : a ρ S = some (.d (.int i), S1)) (hb : b ρ S1 = some (.d (.int j), S2)) (hi : okR i = true) (hj : okR j = true) : range2I a b ρ S = some (rangeD i (j - i).toNat, S2) := by
  unfold range2I
  simp [ha, hb, hi, hj]
end Prog

/-! C6: cell_step, true_step, cell_run (over C5). -/
namespace Prog
open PySem PySem.Spec PyProof.Rows L2 PD
/-- the sizes of what a step by cells tells -/
theorem sz_step {n m p q : Nat} {ks : List Cr} (hk : Kd n ks) {dx t : Rat} (zd : Sz p dx) (hd : 0 < dx) (zt : Sz q t) (ht : 0 < t) {h h' : List Rat} (l40 : h.length ≤ 40) (hs : ∀ v ∈ h, Sz m v) (s : StepC ks dx t h h') : h'.length ≤ 40 ∧ ∀ v ∈ h', Sz (m + (2 * n + q + 2 * p + 15)) v := by
  have b1 := beP_pos hk hd ht
  have a1 := ahP_pos hk hd ht
  have hl : h'.length ≤ h.length := by rw [s.len]; unfold lenS; omega
  refine ⟨by omega, fun v mv => ?_⟩
  obtain ⟨i, hi⟩ := List.mem_iff_getElem?.mp mv
  have il := (List.getElem?_eq_some_iff.mp hi).1
  rw [s.len] at il
  obtain ⟨⟨j, a, hj, lj, rfl⟩, _⟩ := s.val i v hi
  obtain ⟨j2, ej, _, jl, _⟩ := goal_range hk hd ht il
  rw [ej]
  have jl1 := (List.getElem?_eq_some_iff.mp hj).1
  have z1 : Sz 6 (j2 : Rat) := sz_nat (by omega) (by omega)
  have z2 : Sz 6 (j : Rat) := sz_nat (by omega) (by omega)
  exact (sz_add (hs a (List.mem_of_getElem? hj)) (sz_tollL hk (sz_sub (sz_mul z1 zd) (sz_mul z2 zd)) zt)).mono (by omega)
theorem iter_nil {ks : List Cr} {dx t : Rat} {h : List Rat} : ∀ (d : Nat) {i : Nat}, Iter ks dx t i h [] → Iter ks dx t (i + d) h []
  | 0, _, z => z
  | d + 1, _, z => .stop (iter_nil d z) (by simp)
section
variable {n z m p q : Nat} (k : Nat) {ks : List Cr} {dx t : Rat} {h : List Rat} (hk : KS n z ks) (hn : n < 1000) (hz : z ≤ 20) (hp : p ≤ 3) (hq : q ≤ 20) (zd : Sz p dx) (hd : 0 < dx) (zt : Sz q t) (ht : 0 < t) (ro : RowOk ks dx m h) (hm : 4 * m + 2 * n < 3500) (S : Sto)
include hk hn hz hp hq zd hd zt ht ro hm
end
end Prog

/-! C7: the law's own speeds, tolls, lines and least ones (cells; turned from N3, N4, M5). -/
namespace Prog
open PySem PySem.Spec PyProof.Rows L2 PD
def alongP : List (Cr × Cr) → Rat → Rat → Rat
  | [], _, acc => acc
  | p :: r, d, acc => alongP r d (if p.1.1 ≤ d then p.1.2 + (p.2.2 - p.1.2) * (if d < p.2.1 then d - p.1.1 else p.2.1 - p.1.1) / (p.2.1 - p.1.1) else acc)
theorem along_past {d : Rat} : ∀ (r : List Cr) (last : Cr) (acc : Rat), (∀ p ∈ prs (last :: r), p.1.1 < p.2.1) → d < last.1 → alongP (prs (last :: r)) d acc = acc
  | [], last, acc, _, _ => rfl
  | c :: r, last, acc, h, hd => by
    have h1 : last.1 < c.1 := h (last, c) List.mem_cons_self
    show alongP (prs (c :: r)) d (if last.1 ≤ d then _ else acc) = acc
    rw [if_neg (by grind)]
    exact along_past r c acc (fun p m => h p (List.mem_cons_of_mem _ m)) (by grind)
theorem along_at {d : Rat} (r : List Cr) (last : Cr) (acc : Rat) (h : ∀ p ∈ prs (last :: r), p.1.1 < p.2.1) (hd : last.1 = d) (ha : acc = last.2) : alongP (prs (last :: r)) d acc = last.2 := by
  cases r with
  | nil => exact ha
  | cons c r =>
    have h1 : last.1 < c.1 := h (last, c) List.mem_cons_self
    show alongP (prs (c :: r)) d _ = _
    rw [along_past r c _ (fun p m => h p (List.mem_cons_of_mem _ m)) (by grind)]
    simp only
    rw [if_pos (by grind), if_pos (by grind)]
    grind
theorem along_flowL {d : Rat} : ∀ (r : List Cr) (last : Cr) (acc : Rat), (∀ p ∈ prs (last :: r), p.1.1 < p.2.1) → last.1 ≤ d → d ≤ (((last :: r).getLast?).getD (0, 0)).1 → r ≠ [] → alongP (prs (last :: r)) d acc = flowL last r d
  | [], _, _, _, _, _, hn => absurd rfl hn
  | c :: r, last, acc, h, hd, hf, _ => by
    have h1 : last.1 < c.1 := h (last, c) List.mem_cons_self
    have h2 := fun p m => h p (List.mem_cons_of_mem (last, c) m)
    show alongP (prs (c :: r)) d (if last.1 ≤ d then last.2 + (c.2 - last.2) * (if d < c.1 then d - last.1 else c.1 - last.1) / (c.1 - last.1) else acc) = if c.1 < d then flowL c r d else last.2 + slope last c * (d - last.1)
    rw [if_pos hd]
    rw [List.getLast?_cons_cons] at hf
    by_cases hc : c.1 < d
    · rw [if_pos hc]
      refine along_flowL r c _ h2 (by grind) hf ?_
      rintro rfl
      simp at hf
      grind
    · rw [if_neg hc]
      unfold slope
      by_cases hc2 : d < c.1
      · rw [if_pos hc2, along_past r c _ h2 hc2]
        grind
      · have e : d = c.1 := by grind
        rw [if_neg hc2, along_at r c _ h2 e.symm (by grind)]
        grind
theorem prs_get {α : Type} : ∀ {l : List α} {i : Nat} {p : α × α}, (prs l)[i]? = some p → l[i]? = some p.1 ∧ l[i + 1]? = some p.2
  | [], i, p, h => by simp [prs] at h
  | [x], i, p, h => by simp [prs] at h
  | x :: y :: r, 0, p, h => by
    have : (x, y) = p := by simpa [prs] using h
    subst this
    exact ⟨rfl, rfl⟩
  | x :: y :: r, i + 1, p, h => by
    have h' : (prs (y :: r))[i]? = some p := by simpa [prs] using h
    have := prs_get h'
    simpa using this
theorem r_law_speeds {N : Nat} {ks : List Cr} (k : Nat) (h : Kd N ks) (hN : N < 1000) (S : Sto) : run T (k + 3) "_law_speeds" [.d (kd ks)] S = some (.d (.list ((speeds ks).map fr)), S) := by
  have l3 := h.len3
  have l12 := h.len12
  have hlen : (ks.length : Int) - 1 = ((prs ks).length : Nat) := by rw [prs_len]; omega
  have rg := rangeU_nat (prs ks).length (S ++ [some []]) (by rw [prs_len]; omega)
  rw [range_zip] at rg
  have hsl : (prs ks).length ≤ 11 := by rw [prs_len]; omega
  rw [u_L_speeds, x_run]
  simp [b_L_speeds, startR, Option.bind_assoc, kd, hlen, rg]
  refine forN_bind (fun o => o = some (W.d (.list ((speeds ks).map fr)), S)) (fun t : (Cr × Cr) × Nat => PyData.int (t.2 : Nat)) (fun s : List Rat × Option W × Option W × Option W × Option W × Option W => [some (.d (.tuple (ks.map co))), some (.m S.length), s.2.1, s.2.2.1, s.2.2.2.1, s.2.2.2.2.1, s.2.2.2.2.2]) (fun s => S ++ [some (s.1.map fr)])
    (fun l s => (∀ t ∈ l, atI (ks.map co) (t.2 : Nat) = some (co t.1.1) ∧ atI (ks.map co) ((t.2 : Nat) + 1) = some (co t.1.2) ∧ CSz N t.1.1 ∧ CSz N t.1.2 ∧ t.1.1.1 < t.1.2.1) ∧ s.1 ++ (l.map fun t => slope t.1.1 t.1.2) = speeds ks ∧ s.1.length + l.length ≤ 11)
    (fun fl ρ S' => fl = .nx ∧ S' = S ++ [some ((speeds ks).map fr)] ∧ ∃ w2 w3 w4 w5 w6, ρ = [some (.d (.tuple (ks.map co))), some (.m S.length), w2, w3, w4, w5, w6])
    ((prs ks).zipIdx) ([], none, none, none, none, none) ⟨?_, ?_, by simpa using hsl⟩ rfl rfl ?_ ?_ ?_
  · rintro ⟨p, i⟩ m
    have g1 := List.mk_mem_zipIdx_iff_getElem?.mp m
    have g2 := prs_get g1
    have g3 := List.mem_of_getElem? g1
    have g4 := prs_mem g3
    refine ⟨atI_nat (by rw [List.getElem?_map, g2.1]; rfl), ?_, h.size _ g4.1, h.size _ g4.2, h.asc p g3⟩
    have := atI_nat (xs := ks.map co) (j := i + 1) (v := co p.2) (by rw [List.getElem?_map, g2.2]; rfl)
    exact this
  · show (((prs ks).zipIdx).map fun t => slope t.1.1 t.1.2) = speeds ks
    unfold speeds
    conv => rhs; rw [← List.zipIdx_map_fst 0 (prs ks)]
    rw [List.map_map]; rfl
  · rintro s ⟨_, h1, _⟩
    simp at h1
    exact ⟨rfl, by rw [h1], _, _, _, _, _, rfl⟩
  · rintro ⟨⟨⟨u, n⟩, ⟨v, m⟩⟩, i⟩ l ⟨acc, w2, w3, w4, w5, w6⟩ ⟨hl, hv, hs⟩
    obtain ⟨g1, g2, ⟨zu, zn⟩, ⟨zv, zm⟩, huv⟩ := hl _ List.mem_cons_self
    have hl' := fun t m => hl t (List.mem_cons_of_mem _ m)
    simp only at g1 g2 zu zn zv zm huv hv hs ⊢
    simp only [co] at g1 g2
    simp only [List.length_cons] at hs
    have o1 := ok_gap (ok_nd zm) (ok_nd zn)
    have o2 := ok_gap (ok_nd zv) (ok_nd zu)
    have b1 := r_gap (ok_nd zm) (ok_nd zn) (by omega) (k + 1) (S ++ [some (acc.map fr)])
    have b2 := r_gap (ok_nd zv) (ok_nd zu) (by omega) (k + 1) (S ++ [some (acc.map fr)])
    have v1 := val_gap (ok_nd zm) (ok_nd zn)
    have v2 := val_gap (ok_nd zv) (ok_nd zu)
    simp only [← fr_nd, val_nd] at b1 b2 v1 v2
    generalize gapP2 (nd m) (nd n) = G1 at *
    generalize gapP2 (nd v) (nd u) = G2 at *
    have t2 : 0 < G2.1 := (val_pos o2).mp (by rw [v2]; grind)
    have b3 := r_per o1 o2 (by omega) t2 (k + 1) (S ++ [some (acc.map fr)])
    have b4 := r_even (ok_per o1 o2 t2) (by omega) k (S ++ [some (acc.map fr)])
    rw [val_per, v1, v2] at b4
    have e : (m - n) / (v - u) = slope (u, n) (v, m) := rfl
    rw [e] at b4
    have ha : acc.length < 100000 := by omega
    refine .nx' (acc ++ [slope (u, n) (v, m)], some (.d (.int (i : Nat))), some (.d (fr u)), some (.d (fr n)), some (.d (fr v)), some (.d (fr m))) ⟨hl', ?_, by simp only [List.length_append, List.length_singleton]; omega⟩ ?_
    · rw [← hv]; simp
    · simp [g1, g2, b1, b2, b3, b4, ha]
  · rintro fl ρ S' ⟨rfl, rfl, w2, w3, w4, w5, w6, rfl⟩
    simp
def ownT (ks : List Cr) : PyData := .tuple [kd ks, .list ((speeds ks).map fr)]
def optD : Option P2 → PyData
  | none => .none
  | some p => pr p
theorem r_law_toll {N z a b : Nat} {ks : List Cr} {X Y : P2} (k : Nat) (h : KS N z ks) (oX : Ok a X) (oY : Ok b Y) (hN : N < 1000) (hzz : z < 1000) (ha : a < 10000) (hb : b < 10000) (S : Sto) :
    ∃ c : Option P2, run T (k + 2) "_law_toll" [.d (ownT ks), .d (pr X), .d (pr Y)] S = some (.d (optD c), S) ∧ (∀ B, c = some B → Lets ks (val X) (val Y) ∧ Ok (2 * N + 1 + a + b) B ∧ val B = tollL ks (val X) (val Y) 0) ∧ (Lets ks (val X) (val Y) → ∃ B, c = some B) := by
  obtain ⟨a0, a1, mf, ml⟩ := spd_at0 h.kd fr
  have zf := h.spd _ mf
  have zl := h.spd _ ml
  have vfe : ∀ q : Rat, q ≤ freeV ks * val Y → q ≤ freeV ks * val Y := fun _ z => z
  obtain ⟨vf, hvf⟩ : ∃ v, v = freeV ks := ⟨_, rfl⟩
  obtain ⟨vl, hvl⟩ : ∃ v, v = backV ks := ⟨_, rfl⟩
  have LE : Lets ks (val X) (val Y) ↔ 0 ≤ val Y ∧ vl * val Y ≤ val X ∧ val X ≤ vf * val Y := by rw [hvf, hvl]; exact Iff.rfl
  rw [← hvf] at a0 zf
  rw [← hvl] at a1 zl
  clear vfe
  have f1 := r_by (ok_nd zf) oY (by omega) k S
  have f2 := r_by (ok_nd zl) oY (by omega) k S
  have o1 := ok_by (ok_nd zf) oY
  have o2 := ok_by (ok_nd zl) oY
  have v1 : val (byP2 (nd vf) Y) = vf * val Y := by rw [val_by, val_nd]
  have v2 : val (byP2 (nd vl) Y) = vl * val Y := by rw [val_by, val_nd]
  simp only [← fr_nd] at f1 f2
  generalize byP2 (nd vf) Y = F1 at *
  generalize byP2 (nd vl) Y = F2 at *
  have g1 := r_gap oX o1 (by omega) k S
  have g2 := r_gap o2 oX (by omega) k S
  have c1 := val_pos (ok_gap oX o1)
  have c2 := val_pos (ok_gap o2 oX)
  rw [val_gap oX o1, v1] at c1
  rw [val_gap o2 oX, v2] at c2
  have c0 := val_neg oY
  generalize gapP2 X F1 = G1 at *
  generalize gapP2 F2 X = G2 at *
  by_cases n0 : Y.1 < 0
  · refine ⟨none, ?_, fun B e => (by cases e), fun q => absurd (c0.mpr n0) (by have := LE.mp q; grind)⟩
    rw [u_L_toll, x_run]
    simp [b_L_toll, startR, Option.bind_assoc, ownT, a0, a1, f1, f2, n0, optD]
  · by_cases n1 : 0 < G1.1
    · refine ⟨none, ?_, fun B e => (by cases e), fun q => absurd (c1.mpr n1) (by have := LE.mp q; grind)⟩
      rw [u_L_toll, x_run]
      simp [b_L_toll, startR, Option.bind_assoc, ownT, a0, a1, f1, f2, n0, n1, g1, optD]
    · by_cases n2 : 0 < G2.1
      · refine ⟨none, ?_, fun B e => (by cases e), fun q => absurd (c2.mpr n2) (by have := LE.mp q; grind)⟩
        rw [u_L_toll, x_run]
        simp [b_L_toll, startR, Option.bind_assoc, ownT, a0, a1, f1, f2, n0, n1, n2, g1, g2, optD]
      · have hy : Lets ks (val X) (val Y) := LE.mpr ⟨by grind, by have := fun z => n2 (c2.mp z); grind, by have := fun z => n1 (c1.mp z); grind⟩
        rw [u_L_toll, x_run]
        refine (?_ : (fun o => ∃ c : Option P2, o = some (W.d (optD c), S) ∧ (∀ B, c = some B → Lets ks (val X) (val Y) ∧ Ok (2 * N + 1 + a + b) B ∧ val B = tollL ks (val X) (val Y) 0) ∧ (Lets ks (val X) (val Y) → ∃ B, c = some B)) _)
        generalize hP : (fun o => ∃ c : Option P2, o = some (W.d (optD c), S) ∧ (∀ B, c = some B → Lets ks (val X) (val Y) ∧ Ok (2 * N + 1 + a + b) B ∧ val B = tollL ks (val X) (val Y) 0) ∧ (Lets ks (val X) (val Y) → ∃ B, c = some B)) = P
        simp [b_L_toll, startR, Option.bind_assoc, ownT, kd, a0, a1, f1, f2, n0, n1, n2, g1, g2]
        refine forN_bind P co (fun s : P2 × Option W × Option W × Option W => [some (.d (.tuple [.tuple (ks.map co), .list ((speeds ks).map fr)])), some (.d (pr X)), some (.d (pr Y)), some (.d (pr s.1)), some (.d (pr F1)), some (.d (pr F2)), s.2.1, s.2.2.1, s.2.2.2]) (fun _ => S)
          (fun l s => (∀ c ∈ l, CSz N c) ∧ Ok (2 * N + 1 + a + b) s.1 ∧ tollL l (val X) (val Y) (val s.1) = tollL ks (val X) (val Y) 0)
          (fun fl ρ S' => ∃ B w6 w7 w8, fl = .nx ∧ S' = S ∧ Ok (2 * N + 1 + a + b) B ∧ val B = tollL ks (val X) (val Y) 0 ∧ ρ = [some (.d (.tuple [.tuple (ks.map co), .list ((speeds ks).map fr)])), some (.d (pr X)), some (.d (pr Y)), some (.d (pr B)), some (.d (pr F1)), some (.d (pr F2)), w6, w7, w8])
          ks (nd 0, none, none, none) ⟨h.kd.size, (ok_nd sz0).mono (by omega), by rw [val_nd]⟩ rfl rfl ?_ ?_ ?_
        · rintro ⟨B, w6, w7, w8⟩ ⟨_, h1, h2⟩
          exact ⟨B, w6, w7, w8, rfl, rfl, h1, h2, rfl⟩
        · rintro ⟨d, q⟩ l ⟨B, w6, w7, w8⟩ ⟨h1, h2, h3⟩
          obtain ⟨zd, zq⟩ := h1 _ List.mem_cons_self
          have h1' := fun t m => h1 t (List.mem_cons_of_mem _ m)
          simp only at zd zq h2 h3
          have m1 := r_by (ok_nd zq) oY (by omega) k S
          have m2 := r_by (ok_nd zd) oX (by omega) k S
          have p1 := ok_by (ok_nd zq) oY
          have p2 := ok_by (ok_nd zd) oX
          have m3 := r_gap p1 p2 (by omega) k S
          have p3 := ok_gap p1 p2
          have w3 : val (gapP2 (byP2 (nd q) Y) (byP2 (nd d) X)) = q * val Y - d * val X := by rw [val_gap p1 p2, val_by, val_by, val_nd, val_nd]
          simp only [← fr_nd] at m1 m2
          generalize byP2 (nd q) Y = A1 at *
          generalize byP2 (nd d) X = A2 at *
          generalize gapP2 A1 A2 = A3 at *
          have m4 := r_gap p3 h2 (by omega) k S
          have q4 := val_pos (ok_gap p3 h2)
          rw [val_gap p3 h2, w3] at q4
          generalize gapP2 A3 B = A4 at *
          have un : tollL ((d, q) :: l) (val X) (val Y) (val B) = tollL l (val X) (val Y) (if val B < q * val Y - d * val X then q * val Y - d * val X else val B) := rfl
          rw [un] at h3
          by_cases n4 : 0 < A4.1
          · rw [if_pos (by have := q4.mpr n4; grind), ← w3] at h3
            refine .nx' (A3, some (.d (fr d)), some (.d (fr q)), some (.d (pr A3))) ⟨h1', p3.mono (by omega), h3⟩ ?_
            simp [co, m1, m2, m3, m4, n4]
          · rw [if_neg (by intro e; exact n4 (q4.mp (by grind)))] at h3
            refine .nx' (B, some (.d (fr d)), some (.d (fr q)), some (.d (pr A3))) ⟨h1', h2, h3⟩ ?_
            simp [co, m1, m2, m3, m4, n4]
        · rintro fl ρ S' ⟨B, w6, w7, w8, rfl, rfl, h1, h2, rfl⟩
          rw [← hP]
          exact ⟨some B, by simp [optD], fun B' e => by cases e; exact ⟨hy, h1, h2⟩, fun _ => ⟨B, rfl⟩⟩
abbrev Cand := P2 × Option P2
def cd (c : Cand) : PyData := .tuple [pr c.1, optD c.2]
structure Good (M : Nat) (V : Rat) (c : Cand) : Prop where
  ok : ∀ B, c.2 = some B → Ok M (sumP2 c.1 B) ∧ V ≤ val (sumP2 c.1 B)
  run : ∀ B, c.2 = some B → ∃ a b, Ok a c.1 ∧ Ok b B ∧ a + b < 900000
theorem r_law_least {M : Nat} {V : Rat} (k : Nat) (l : List Cand) (hg : ∀ c ∈ l, Good M V c) (hit : ∃ c ∈ l, ∃ B, c.2 = some B ∧ val (sumP2 c.1 B) = V) (hM : M < 9000) (S : Sto) : run T (k + 3) "_law_least" [.m S.length] (S ++ [some (l.map cd)]) = some (.d (fr V), S ++ [none]) := by
  rw [u_L_least, x_run]
  simp [b_L_least, startR, Option.bind_assoc]
  refine forN_bind (fun o => o = some (W.d (fr V), S ++ [none])) cd (fun s : Option P2 × Option W × Option W => [some (.m S.length), some (.d (optD s.1)), s.2.1, s.2.2]) (fun _ => S ++ [none])
    (fun r s => (∀ c ∈ r, Good M V c) ∧ (∀ B, s.1 = some B → Ok M B ∧ V ≤ val B) ∧ ((∃ c ∈ r, ∃ B, c.2 = some B ∧ val (sumP2 c.1 B) = V) ∨ ∃ B, s.1 = some B ∧ val B = V))
    (fun fl ρ S' => ∃ B w2 w3, fl = .nx ∧ S' = S ++ [none] ∧ Ok M B ∧ val B = V ∧ ρ = [some (.m S.length), some (.d (pr B)), w2, w3])
    l (none, none, none) ⟨hg, fun B e => (by cases e), .inl hit⟩ rfl rfl ?_ ?_ ?_
  · rintro ⟨best, w2, w3⟩ ⟨_, h2, h3⟩
    rcases h3 with ⟨c, m, _⟩ | ⟨B, e, hB⟩
    · cases m
    · simp only at e h2
      subst e
      exact ⟨B, w2, w3, rfl, rfl, (h2 B rfl).1, hB, rfl⟩
  · rintro ⟨n, cost⟩ r ⟨best, w2, w3⟩ ⟨h1, h2, h3⟩
    have g := h1 _ List.mem_cons_self
    have h1' := fun t m => h1 t (List.mem_cons_of_mem _ m)
    simp only at h2 h3
    have i1 : ∀ p : P2, isNone (.d (pr p)) = false := fun _ => rfl
    have i0 : isNone (.d PyData.none) = true := rfl
    cases cost with
    | none =>
      refine .nx' (best, some (.d (pr n)), some (.d .none)) ⟨h1', h2, ?_⟩ ?_
      · rcases h3 with ⟨c, m, B, e, hB⟩ | h3
        · rcases List.mem_cons.mp m with rfl | m
          · cases e
          · exact .inl ⟨c, m, B, e, hB⟩
        · exact .inr h3
      · simp [cd, optD, i0]
    | some C =>
      obtain ⟨k1, k2⟩ := g.ok C rfl
      obtain ⟨a, b, oa, ob, hab⟩ := g.run C rfl
      simp only at k1 k2 oa
      have s1 := r_sum oa ob hab (k + 1) (S ++ [none])
      have hitV : ∀ c : Cand, c = (n, some C) → ∀ B, c.2 = some B → val (sumP2 c.1 B) = V → val (sumP2 n C) = V := by
        rintro c rfl B e hB
        cases e
        exact hB
      generalize sumP2 n C = N at *
      cases best with
      | none =>
        refine .nx' (some N, some (.d (pr n)), some (.d (pr C))) ⟨h1', fun B e => by cases e; exact ⟨k1, k2⟩, ?_⟩ ?_
        · rcases h3 with ⟨c, m, B, e, hB⟩ | ⟨B, e, _⟩
          · rcases List.mem_cons.mp m with hc | m
            · exact .inr ⟨N, rfl, hitV c hc B e hB⟩
            · exact .inl ⟨c, m, B, e, hB⟩
          · cases e
        · simp [cd, optD, i0, i1, s1]
      | some D =>
        obtain ⟨q1, q2⟩ := h2 D rfl
        have s2 := r_gap k1 q1 (by omega) (k + 1) (S ++ [none])
        have q3 := val_neg (ok_gap k1 q1)
        rw [val_gap k1 q1] at q3
        generalize gapP2 N D = G at *
        by_cases n1 : G.1 < 0
        · have lt := q3.mpr n1
          refine .nx' (some N, some (.d (pr n)), some (.d (pr C))) ⟨h1', fun B e => by cases e; exact ⟨k1, k2⟩, ?_⟩ ?_
          · rcases h3 with ⟨c, m, B, e, hB⟩ | ⟨B, e, hB⟩
            · rcases List.mem_cons.mp m with hc | m
              · exact .inr ⟨N, rfl, hitV c hc B e hB⟩
              · exact .inl ⟨c, m, B, e, hB⟩
            · cases e
              exact absurd lt (by grind)
          · simp [cd, optD, i1, s1, s2, n1]
        · have nlt : ¬ val N - val D < 0 := fun e => n1 (q3.mp e)
          refine .nx' (some D, some (.d (pr n)), some (.d (pr C))) ⟨h1', fun B e => by cases e; exact ⟨q1, q2⟩, ?_⟩ ?_
          · rcases h3 with ⟨c, m, B, e, hB⟩ | ⟨B, e, hB⟩
            · rcases List.mem_cons.mp m with hc | m
              · have := hitV c hc B e hB
                exact .inr ⟨D, rfl, by grind⟩
              · exact .inl ⟨c, m, B, e, hB⟩
            · exact .inr ⟨B, e, hB⟩
          · simp [cd, optD, i1, s1, s2, n1]
  · rintro fl ρ S' ⟨B, w2, w3, rfl, rfl, h1, h2, rfl⟩
    have b := r_even h1 hM k (S ++ [none])
    rw [h2] at b
    simp [b]
end Prog

/-! C8: the law's own lines through a row, its counts of places (turned from M5). -/
namespace Prog
open PySem PySem.Spec PyProof.Rows L2 PD
abbrev CPt := P2 × Rat
def cP (c : CPt) : PyData := .tuple [pr c.1, fr c.2]
def vP (p : CPt × CPt) : Cr × Cr := ((val p.1.1, p.1.2), (val p.2.1, p.2.2))
structure ASt where
  F : P2
  w3 : Option W
  w4 : Option W
  w5 : Option W
  w6 : Option W
  w7 : Option W
  w8 : Option W
theorem r_along {C : List CPt} {c0 : CPt} {r0 : List CPt} {D : P2} (k : Nat) (hC : C = c0 :: r0) (hsz : ∀ c ∈ C, Ok 10 c.1 ∧ Sz 200 c.2) (hasc : ∀ p ∈ prs C, val p.1.1 < val p.2.1) (l2 : 2 ≤ C.length) (l40 : C.length ≤ 40) (zd : Ok 100 D) (S : Sto) : ∃ F, Ok 900 F ∧ val F = alongP ((prs C).map vP) (val D) c0.2 ∧ run T (k + 2) "_law_along" [.d (.list (C.map cP)), .d (pr D)] S = some (.d (pr F), S) := by
  have a0 : atI (C.map cP) 0 = some (cP c0) := by rw [hC, List.map_cons]; exact at0 _ _
  have z0 := (hsz c0 (by rw [hC]; exact List.mem_cons_self)).2
  have hlen : (C.length : Int) - 1 = ((prs C).length : Nat) := by rw [prs_len]; omega
  have rg := rangeU_nat (prs C).length S (by rw [prs_len]; omega)
  rw [range_zip] at rg
  rw [u_L_along, x_run]
  refine (?_ : (fun o => ∃ F, Ok 900 F ∧ val F = alongP ((prs C).map vP) (val D) c0.2 ∧ o = some (W.d (pr F), S)) _)
  generalize hP : (fun o => ∃ F, Ok 900 F ∧ val F = alongP ((prs C).map vP) (val D) c0.2 ∧ o = some (W.d (pr F), S)) = P
  simp [b_L_along, startR, Option.bind_assoc, a0, cP, hlen, rg]
  refine forN_bind P (fun t : (CPt × CPt) × Nat => PyData.int (t.2 : Nat)) (fun s : ASt => [some (.d (.list (C.map cP))), some (.d (pr D)), some (.d (pr s.F)), s.w3, s.w4, s.w5, s.w6, s.w7, s.w8]) (fun _ => S)
    (fun l s => (∀ t ∈ l, atI (C.map cP) (t.2 : Nat) = some (cP t.1.1) ∧ atI (C.map cP) ((t.2 : Nat) + 1) = some (cP t.1.2) ∧ (Ok 10 t.1.1.1 ∧ Sz 200 t.1.1.2) ∧ (Ok 10 t.1.2.1 ∧ Sz 200 t.1.2.2) ∧ val t.1.1.1 < val t.1.2.1) ∧ Ok 900 s.F ∧ alongP (l.map fun t => vP t.1) (val D) (val s.F) = alongP ((prs C).map vP) (val D) c0.2)
    (fun fl ρ S' => ∃ F w3 w4 w5 w6 w7 w8, fl = .nx ∧ S' = S ∧ Ok 900 F ∧ val F = alongP ((prs C).map vP) (val D) c0.2 ∧ ρ = [some (.d (.list (C.map cP))), some (.d (pr D)), some (.d (pr F)), w3, w4, w5, w6, w7, w8])
    ((prs C).zipIdx) ⟨nd c0.2, none, none, none, none, none, none⟩ ⟨?_, (ok_nd z0).mono (by omega), ?_⟩ rfl rfl ?_ ?_ ?_
  · rintro ⟨p, i⟩ m
    have g1 := List.mk_mem_zipIdx_iff_getElem?.mp m
    have g2 := prs_get g1
    have g3 := List.mem_of_getElem? g1
    have g4 := prs_mem g3
    refine ⟨atI_nat (by rw [List.getElem?_map, g2.1]; rfl), ?_, hsz _ g4.1, hsz _ g4.2, hasc p g3⟩
    have := atI_nat (xs := C.map cP) (j := i + 1) (v := cP p.2) (by rw [List.getElem?_map, g2.2]; rfl)
    exact this
  · simp only [val_nd]
    rw [show (((prs C).zipIdx).map fun t => vP t.1) = (((prs C).zipIdx).map Prod.fst).map vP by rw [List.map_map]; rfl, List.zipIdx_map_fst]
  · rintro s ⟨_, h1, h2⟩
    exact ⟨s.F, _, _, _, _, _, _, rfl, rfl, h1, h2, rfl⟩
  · rintro ⟨⟨⟨u, n⟩, ⟨v, m⟩⟩, i⟩ l ⟨F, w3, w4, w5, w6, w7, w8⟩ ⟨hl, hF, hv⟩
    obtain ⟨g1, g2, ⟨zu, zn⟩, ⟨zv, zm⟩, huv⟩ := hl _ List.mem_cons_self
    have hl' := fun t m => hl t (List.mem_cons_of_mem _ m)
    simp only at g1 g2 zu zn zv zm huv hF hv ⊢
    simp only [cP] at g1 g2
    rw [List.map_cons] at hv
    have o1 := ok_gap zd zu
    have o2 := ok_gap zv zd
    have o3 := ok_gap zv zu
    have o4 := ok_gap (ok_nd zm) (ok_nd zn)
    have b1 := r_gap zd zu (by omega) k S
    have b2 := r_gap zv zd (by omega) k S
    have b3 := r_gap zv zu (by omega) k S
    have b4 := r_gap (ok_nd zm) (ok_nd zn) (by omega) k S
    have v1 := val_gap zd zu
    have v2 := val_gap zv zd
    have v3 := val_gap zv zu
    have v4 := val_gap (ok_nd zm) (ok_nd zn)
    simp only [← fr_nd, val_nd] at b1 b2 b3 b4 v1 v2 v3 v4
    generalize gapP2 D u = G1 at *
    generalize gapP2 v D = G2 at *
    generalize gapP2 v u = G3 at *
    generalize gapP2 (nd m) (nd n) = G4 at *
    by_cases hu : val u ≤ val D
    · have t1 : 0 ≤ G1.1 := (val_nonneg o1).mp (by rw [v1]; grind)
      have t3 : 0 < G3.1 := (val_pos o3).mp (by rw [v3]; grind)
      have go : ∀ X : P2, Ok 111 X → ∃ Y Z R, run T (k + 1) "_law_by" [.d (pr G4), .d (pr X)] S = some (.d (pr Y), S) ∧ run T (k + 1) "_law_per" [.d (pr Y), .d (pr G3)] S = some (.d (pr Z), S) ∧ run T (k + 1) "_law_sum" [.d (fr n), .d (pr Z)] S = some (.d (pr R), S) ∧ Ok 900 R ∧ val R = n + (m - n) * val X / (val v - val u) := by
        intro X oX
        have oY := ok_by o4 oX
        have oZ := ok_per oY o3 t3
        refine ⟨_, _, _, r_by o4 oX (by omega) k S, r_per oY o3 (by omega) t3 k S, r_sum (ok_nd zn) oZ (by omega) k S, (ok_sum (ok_nd zn) oZ).mono (by omega), ?_⟩
        rw [val_sum (ok_nd zn) oZ, val_per, val_by, val_nd, v4, v3]
      by_cases hd : val D < val v
      · have t2 : 0 < G2.1 := (val_pos o2).mp (by rw [v2]; grind)
        obtain ⟨Y, Z, R, f1, f2, f3, oR, vR⟩ := go G1 (o1.mono (by omega))
        refine .nx' ⟨R, some (.d (.int (i : Nat))), some (.d (pr G1)), some (.d (pr u)), some (.d (fr n)), some (.d (pr v)), some (.d (fr m))⟩ ⟨hl', oR, ?_⟩ ?_
        · rw [← hv]
          show _ = alongP _ _ (if val u ≤ val D then n + (m - n) * (if val D < val v then val D - val u else val v - val u) / (val v - val u) else _)
          rw [if_pos hu, if_pos hd, vR, v1]
        · simp [g1, g2, b1, b2, b3, b4, t1, t2, f1, f2, f3]
      · have t2 : ¬ 0 < G2.1 := fun e => by have := (val_pos o2).mpr e; rw [v2] at this; grind
        obtain ⟨Y, Z, R, f1, f2, f3, oR, vR⟩ := go G3 (o3.mono (by omega))
        refine .nx' ⟨R, some (.d (.int (i : Nat))), some (.d (pr G3)), some (.d (pr u)), some (.d (fr n)), some (.d (pr v)), some (.d (fr m))⟩ ⟨hl', oR, ?_⟩ ?_
        · rw [← hv]
          show _ = alongP _ _ (if val u ≤ val D then n + (m - n) * (if val D < val v then val D - val u else val v - val u) / (val v - val u) else _)
          rw [if_pos hu, if_neg hd, vR, v3]
        · simp [g1, g2, b1, b2, b3, b4, t1, t2, f1, f2, f3]
    · have t1 : ¬ 0 ≤ G1.1 := fun e => by have := (val_nonneg o1).mpr e; rw [v1] at this; grind
      refine .nx' ⟨F, some (.d (.int (i : Nat))), w4, some (.d (pr u)), some (.d (fr n)), some (.d (pr v)), some (.d (fr m))⟩ ⟨hl', hF, ?_⟩ ?_
      · rw [← hv]
        show _ = alongP _ _ (if val u ≤ val D then _ else val F)
        rw [if_neg hu]
      · simp [g1, g2, b1, t1]
  · rintro fl ρ S' ⟨F, w3, w4, w5, w6, w7, w8, rfl, rfl, h1, h2, rfl⟩
    rw [← hP]
    exact ⟨F, h1, h2, by simp⟩
theorem floor_divInt {a b : Int} (hb : 0 < b) : (Rat.divInt a b).floor = a.fdiv b := by
  rw [Int.fdiv_eq_ediv_of_nonneg _ (by omega)]
  have hb' : (0 : Rat) < (b : Rat) := by have := Rat.intCast_lt_intCast.mpr hb; simpa using this
  have e : Rat.divInt a b * (b : Rat) = (a : Rat) := by rw [Rat.divInt_eq_div, Rat.div_mul_cancel (by grind)]
  apply Int.le_antisymm
  · have h1 := mul_le_right (Rat.floor_le (Rat.divInt a b)) (by grind : 0 ≤ (b : Rat))
    rw [e, ← Rat.intCast_mul] at h1
    exact Int.le_ediv_of_mul_le hb (Rat.intCast_le_intCast.mp h1)
  · rw [Rat.le_floor_iff]
    have e1 : a / b * b ≤ a := Int.ediv_mul_le a (by omega)
    have e2 : ((a / b : Int) : Rat) * (b : Rat) ≤ (a : Rat) := by rw [← Rat.intCast_mul]; exact Rat.intCast_le_intCast.mpr e1
    rw [← e] at e2
    by_cases z : ((a / b : Int) : Rat) ≤ Rat.divInt a b
    · exact z
    · exfalso
      have := (Rat.mul_lt_mul_right (a := Rat.divInt a b) (b := ((a / b : Int) : Rat)) hb').mpr (by grind)
      grind
theorem floor_val {n : Nat} {p : P2} (h : Ok n p) : (val p).floor = p.1.fdiv p.2 := floor_divInt h.1
theorem floor_neg_val {n : Nat} {p : P2} (h : Ok n p) : (-val p).floor = (-p.1).fdiv p.2 := by
  rw [show -val p = Rat.divInt (-p.1) p.2 from Rat.neg_divInt p.1 p.2]
  exact floor_divInt h.1
theorem r_ceil {n : Nat} (k : Nat) {p : P2} (h : Ok n p) (hn : n < 9000) (S : Sto) : run T (k + 1) "_law_ceil" [.d (pr p)] S = some (.d (.int (-((-val p).floor))), S) := by
  have d0 := divOk_of (n := n) h.ne h.2.2 (by omega)
  rw [floor_neg_val h, u_L_ceil]
  refine run_ret (ρ := [some (.d (pr p))]) ?_
  simp [b_L_ceil, startR, d0]
theorem r_spots {N z : Nat} (k : Nat) {ks : List Cr} {dx part : Rat} {many : Nat} (h : KS N z ks) (hzz : z ≤ 20) (zp : Sz 10 part) (hm : many ≤ 40) (hd : 0 < dx) (hpt : 0 < part) (S : Sto) :
    ∃ lo hi : Int, lo = ahP ks dx (part * dx) ∧ hi = (many : Int) - beP ks dx (part * dx) ∧ run T (k + 2) "_law_spots" [.d (ownT ks), .d (fr part), .d (.int (many : Int))] S = some (.d (.list (rangeD lo (hi - lo).toNat)), S) := by
  refine ⟨_, _, rfl, rfl, ?_⟩
  have dn : dx ≠ 0 := by grind
  have pa := ahP_pos h.kd hd (Rat.mul_pos hpt hd)
  have pb := beP_pos h.kd hd (Rat.mul_pos hpt hd)
  obtain ⟨a0, a1, mf, mb⟩ := spd_at0 h.kd fr
  have zf := h.spd _ mf
  have zb := h.spd _ mb
  have f1 := r_by (ok_nd zf) (ok_nd zp) (by omega) k S
  have f2 := r_by (ok_nd zb) (ok_nd zp) (by omega) k S
  have o1 := ok_by (ok_nd zf) (ok_nd zp)
  have o2 := ok_by (ok_nd zb) (ok_nd zp)
  have oM : Ok 7 (((many : Int) - 1, 1) : P2) := ⟨by show (0 : Int) < 1; decide, by show Lt2 7 ((many : Int) - 1); unfold Lt2; omega, by show Lt2 7 1; unfold Lt2; decide⟩
  have f3 := r_sum oM o2 (by omega) k S
  have o3 := ok_sum oM o2
  have v1 : val (byP2 (nd (freeV ks)) (nd part)) = freeV ks * part := by rw [val_by, val_nd, val_nd]
  have v3 : val (sumP2 ((many : Int) - 1, 1) (byP2 (nd (backV ks)) (nd part))) = ((many : Rat) - 1) + backV ks * part := by
    rw [val_sum oM o2, val_by, val_nd, val_nd]
    have : val (((many : Int) - 1, 1) : P2) = (many : Rat) - 1 := by
      show Rat.divInt ((many : Int) - 1) 1 = _
      rw [Rat.divInt_eq_div, Rat.intCast_sub]
      have e1 : ((1 : Int) : Rat) = 1 := rfl
      rw [e1, Rat.intCast_natCast]
      grind
    rw [this]
  have e1 : freeV ks * (part * dx) / dx = freeV ks * part := by grind
  have e2 : backV ks * (part * dx) / dx = backV ks * part := by grind
  have fh : (((many : Rat) - 1) + backV ks * part).floor = (many : Int) - 1 + (backV ks * part).floor := by
    have h1 := Rat.floor_le (backV ks * part)
    have h2 := Rat.lt_floor_add_one (backV ks * part)
    have c1 : (((many : Int) - 1 + (backV ks * part).floor : Int) : Rat) = (many : Rat) - 1 + ((backV ks * part).floor : Rat) := by
      rw [Rat.intCast_add, Rat.intCast_sub]; rfl
    apply Int.le_antisymm
    · have : (((many : Rat) - 1) + backV ks * part).floor < (many : Int) - 1 + (backV ks * part).floor + 1 := by
        rw [Rat.floor_lt_iff, Rat.intCast_add, c1]
        rw [Rat.intCast_add] at h2
        have e : ((1 : Int) : Rat) = 1 := rfl
        rw [e] at h2 ⊢
        grind
      omega
    · rw [Rat.le_floor_iff, c1]; grind
  have ea : ahP ks dx (part * dx) = -((-(freeV ks * part)).floor) := by unfold ahP; rw [e1]
  have eb : (many : Int) - beP ks dx (part * dx) = (((many : Rat) - 1) + backV ks * part).floor + 1 := by
    unfold beP; rw [e2, fh]; omega
  have pl : (((many : Rat) - 1 + backV ks * part).floor + 1 - -((-(freeV ks * part)).floor)).toNat ≤ 40 := by rw [← ea, ← eb]; omega
  rw [ea, eb]
  rw [← v1, ← v3, floor_val o3] at pl ⊢
  simp only [← fr_nd] at f1 f2
  generalize byP2 (nd (freeV ks)) (nd part) = F1 at *
  generalize byP2 (nd (backV ks)) (nd part) = F2 at *
  have pm : (.tuple [.int ((many : Int) - 1), .int 1] : PyData) = pr ((many : Int) - 1, 1) := rfl
  generalize sumP2 ((many : Int) - 1, 1) F2 = F3 at *
  have g1 := r_ceil k o1 (by omega) S
  have d3 := divOk_of o3.ne o3.2.2 (by omega)
  have lc : Lt2 60 (-((-val F1).floor)) := by
    rw [floor_neg_val o1, Int.fdiv_eq_ediv_of_nonneg _ (by have := o1.1; omega)]
    have hp := o1.1
    obtain ⟨d, hd⟩ := Int.eq_ofNat_of_zero_le (show 0 ≤ F1.2 by omega)
    rw [hd]
    exact ((o1.2.1.neg.ediv d).neg).mono (by omega)
  have lh : Lt2 50 (F3.1.fdiv F3.2) := by
    rw [Int.fdiv_eq_ediv_of_nonneg _ (by have := o3.1; omega)]
    have hp := o3.1
    obtain ⟨d, hd⟩ := Int.eq_ofNat_of_zero_le (show 0 ≤ F3.2 by omega)
    rw [hd]
    exact (o3.2.1.ediv d).mono (by omega)
  generalize -((-val F1).floor) = lo at *
  obtain ⟨hi, hhi⟩ : ∃ hi, hi = F3.1.fdiv F3.2 := ⟨_, rfl⟩
  rw [← hhi] at pl lh ⊢
  have o5 : okR (hi + 1) = true := by
    have l1 : Lt2 1 (1 : Int) := by unfold Lt2; decide
    exact okR_lt2 ((lh.add l1).mono (by omega : max 50 1 + 1 ≤ 60)) (Nat.le_refl _)
  have rr : rangeUL lo (hi + 1) S = some (.d (.list (rangeD lo (hi + 1 - lo).toNat)), S) := by
    unfold rangeUL
    rw [if_pos (by rw [okR_lt2 lc (Nat.le_refl _), o5]; simp; omega)]
  rw [u_L_spots]
  refine run_ret (ρ := [some (.d (ownT ks)), some (.d (fr part)), some (.d (.int (many : Int))), some (.d (pr F1)), some (.d (pr F3))]) ?_
  obtain ⟨PS, hPS⟩ : ∃ PS, PS = (speeds ks).map fr := ⟨_, rfl⟩
  rw [← hPS] at a0 a1
  simp [b_L_spots, startR, ownT, ← hPS, a0, a1, f1, f2, pm, f3, g1, d3, ← hhi, rr]
end Prog

/-! C9: the law's own truth (over C7, C8). -/
namespace Prog
open PySem PySem.Spec PyProof.Rows L2 PD
def Cov (L : List Cand) (v : Rat) : Prop := ∃ c ∈ L, ∃ B, c.2 = some B ∧ val (sumP2 c.1 B) = v
theorem cov_least : ∀ (L : List Cand), (∃ v, Cov L v) → ∃ V, Cov L V ∧ ∀ c ∈ L, ∀ B, c.2 = some B → V ≤ val (sumP2 c.1 B)
  | [], ⟨v, c, m, _⟩ => absurd m (by simp)
  | (n, none) :: L, ⟨v, c, m, B, e, hv⟩ => by
    have hm : c ∈ L := by
      rcases List.mem_cons.mp m with rfl | m
      · cases e
      · exact m
    obtain ⟨V, ⟨c2, m2, B2, e2, h2⟩, hV⟩ := cov_least L ⟨v, c, hm, B, e, hv⟩
    refine ⟨V, ⟨c2, List.mem_cons_of_mem _ m2, B2, e2, h2⟩, fun d md B3 e3 => ?_⟩
    rcases List.mem_cons.mp md with rfl | md
    · cases e3
    · exact hV d md B3 e3
  | (n, some C) :: L, _ => by
    by_cases hL : ∃ v, Cov L v
    · obtain ⟨V, ⟨c2, m2, B2, e2, h2⟩, hV⟩ := cov_least L hL
      by_cases hb : val (sumP2 n C) < V
      · refine ⟨val (sumP2 n C), ⟨(n, some C), List.mem_cons_self, C, rfl, rfl⟩, fun d md B3 e3 => ?_⟩
        rcases List.mem_cons.mp md with rfl | md
        · cases e3; exact Rat.le_refl
        · have := hV d md B3 e3; grind
      · refine ⟨V, ⟨c2, List.mem_cons_of_mem _ m2, B2, e2, h2⟩, fun d md B3 e3 => ?_⟩
        rcases List.mem_cons.mp md with rfl | md
        · cases e3; simp only; grind
        · exact hV d md B3 e3
    · refine ⟨val (sumP2 n C), ⟨(n, some C), List.mem_cons_self, C, rfl, rfl⟩, fun d md B3 e3 => ?_⟩
      rcases List.mem_cons.mp md with rfl | md
      · cases e3; exact Rat.le_refl
      · exact absurd ⟨_, d, md, B3, e3, rfl⟩ hL
/-- the corners of a row as the law tells them -/
def ptR (dx : Rat) (h : List Rat) : List CPt := (List.range h.length).map fun j => (byP2 ((j : Nat), 1) (nd dx), h[j]?.getD 0)
theorem val_one (j : Nat) : val (((j : Nat) : Int), 1) = (j : Rat) := by
  show Rat.divInt (j : Int) 1 = _
  rw [Rat.divInt_eq_div]
  have e1 : ((1 : Int) : Rat) = 1 := rfl
  rw [e1, Rat.intCast_natCast]
  grind
theorem ok_one {j : Nat} (hj : j < 2 ^ 7) : Ok 7 (((j : Nat) : Int), 1) := ⟨by show (0 : Int) < 1; decide, by show Lt2 7 (j : Int); unfold Lt2; simpa using hj, by show Lt2 7 1; unfold Lt2; decide⟩
theorem pt_val (dx : Rat) (j : Nat) : val (byP2 ((j : Nat), 1) (nd dx)) = (j : Rat) * dx := by rw [val_by, val_nd, val_one]
theorem pt_get (dx : Rat) (h : List Rat) {j : Nat} {a : Rat} (ha : h[j]? = some a) : (ptR dx h)[j]? = some (byP2 ((j : Nat), 1) (nd dx), a) := by
  have hj := (List.getElem?_eq_some_iff.mp ha).1
  unfold ptR
  rw [List.getElem?_map, List.getElem?_range hj]
  simp [ha]
theorem pt_mem {dx : Rat} {h : List Rat} {c : CPt} (m : c ∈ ptR dx h) : ∃ (j : Nat) (a : Rat), h[j]? = some a ∧ c = (byP2 ((j : Nat), 1) (nd dx), a) := by
  obtain ⟨j, mj, rfl⟩ := List.mem_map.mp m
  have hj := List.mem_range.mp mj
  exact ⟨j, h[j], List.getElem?_eq_getElem hj, by simp [hj]⟩
theorem pt_crs (dx : Rat) (h : List Rat) : (ptR dx h).map (fun c => (val c.1, c.2)) = crs dx h := by
  unfold ptR crs
  rw [List.map_map]
  refine List.map_congr_left fun j _ => ?_
  simp [pt_val]
theorem pt_asc {dx : Rat} (hd : 0 < dx) (h : List Rat) : ∀ p ∈ prs (ptR dx h), val p.1.1 < val p.2.1 := fun p m => by
  have m2 : ((val p.1.1, p.1.2), (val p.2.1, p.2.2)) ∈ prs (crs dx h) := by
    rw [← pt_crs, prs_map]
    exact List.mem_map.mpr ⟨p, m, rfl⟩
  exact crs_asc hd _ m2
theorem pt_along {dx y acc : Rat} (hd : 0 < dx) {h : List Rat} (l2 : 2 ≤ h.length) (y0 : 0 ≤ y) (y1 : y ≤ ((h.length : Rat) - 1) * dx) : alongP ((prs (ptR dx h)).map vP) y acc = rowV dx h y := by
  have e : (prs (ptR dx h)).map vP = prs (crs dx h) := by rw [← pt_crs, prs_map]; rfl
  have hlast := crs_last dx l2
  have hlen := crs_len dx h
  have h0 := crs_get dx h 0
  have as := crs_asc hd (h := h)
  rw [e]
  unfold rowV
  cases hc : crs dx h with
  | nil => rw [hc] at hlen; simp at hlen; omega
  | cons c r =>
    rw [hc] at hlast hlen h0 as
    have hr : r ≠ [] := by rintro rfl; simp at hlen; omega
    have c0 : c.1 = 0 := by
      rw [List.getElem?_eq_getElem (by omega : 0 < h.length)] at h0
      simp at h0
      rw [h0]
    exact along_flowL r c acc as (by rw [c0]; exact y0) (by rw [hlast]; exact y1) hr
structure TSt where
  vs : List Rat
  J : Sto
  w5 : Option W
  w8 : Option W
  w9 : Option W
  w10 : Option W
  w11 : Option W
structure CandG (P : Rat → Prop) (c : Cand) : Prop where
  g : ∀ B, c.2 = some B → P (val (sumP2 c.1 B)) ∧ Ok 1500 (sumP2 c.1 B) ∧ ∃ a b, Ok a c.1 ∧ Ok b B ∧ a + b < 900000
theorem r_law_truth {N z : Nat} (k : Nat) {ks : List Cr} (hk : KS N z ks) (hN : N ≤ 100) (hz : z ≤ 20) {dx : Rat} (zd : Sz 3 dx) (hd : 0 < dx) {Y : P2} (oY : Ok 20 Y) (hY : 0 ≤ val Y) {h : List Rat} (l2 : 2 ≤ h.length) (l40 : h.length ≤ 40) (hs : ∀ v ∈ h, Sz 200 v)
    (spots : List Nat) (hsl : spots.length ≤ 99999) (hsp : ∀ j ∈ spots, j < h.length) (S : Sto) : ∃ vs : List Rat, vs.length = spots.length ∧ (∀ (i : Nat) (v : Rat), vs[i]? = some v → ∃ j : Nat, spots[i]? = some j ∧ Min (TV ks dx h (val Y) ((j : Rat) * dx)) v) ∧
    run T (k + 4) "_law_truth" [.d (ownT ks), .d (fr dx), .d (pr Y), .d (rowD h), .d (.list (spots.map fun j => PyData.int (j : Nat)))] S = some (.d (rowD vs), S) := by
  obtain ⟨R, hR⟩ : ∃ R, R = run T (k + 3) := ⟨_, rfl⟩
  obtain ⟨hx, hhx⟩ : ∃ hx, hx = h.map fr := ⟨_, rfl⟩
  have hxl : hx.length = h.length := by rw [hhx]; simp
  have hrow : rowD h = .tuple hx := by rw [hhx]; rfl
  have rg := fun S => rangeU_nat h.length S (by omega)
  have hr0 : (rangeD 0 h.length).length = h.length := by simp [rangeD]
  have hC40 : h.length ≤ 100000 := by omega
  obtain ⟨C, hC⟩ : ∃ C, C = ptR dx h := ⟨_, rfl⟩
  have cl : C.length = h.length := by rw [hC]; simp [ptR]
  have cl2 : (C.map cP).length = h.length := by rw [List.length_map, cl]
  have hat : ∀ j, j < h.length → ∃ a, h[j]? = some a ∧ Sz 200 a := fun j hj => ⟨h[j], List.getElem?_eq_getElem hj, hs _ (List.getElem_mem hj)⟩
  have csz : ∀ c ∈ C, Ok 10 c.1 ∧ Sz 200 c.2 := fun c m => by
    rw [hC] at m
    obtain ⟨j, a, ha, rfl⟩ := pt_mem m
    have hj := (List.getElem?_eq_some_iff.mp ha).1
    exact ⟨(ok_by (ok_one (by omega)) (ok_nd zd)).mono (by omega), hs a (List.mem_of_getElem? ha)⟩
  have by1 : ∀ (j : Nat) (S : Sto), j < h.length → R "_law_by" [.d (.tuple [.int (j : Int), .int 1]), .d (fr dx)] S = some (.d (pr (byP2 ((j : Nat), 1) (nd dx))), S) := fun j S hj => by
    have := r_by (ok_one (j := j) (by omega)) (ok_nd zd) (by omega) (k + 2) S
    rw [hR]; exact this
  have hl1 : ∀ S, lcN (nameG 12) yesB (appE tupF (consL (appE (callF (c_L_by R)) (consL (appE tupF (consL (frzE (varE 12)) (consL (constE (.int 1)) nilL))) (consL (varE 1) nilL))) (consL (binE (pf2 ixP) (varE 3) (varE 12)) nilL))) [some (.d (ownT ks)), some (.d (fr dx)), some (.d (pr Y)), some (.d (.tuple hx)), some (.d (.list (spots.map fun j => PyData.int (j : Nat)))), none, none, none, none, none, none, none, none, none] (rangeD 0 h.length) S = some (C.map cP, S) := fun S => by
    have := lcN_each (g := nameG 12) (elt := appE tupF (consL (appE (callF (c_L_by R)) (consL (appE tupF (consL (frzE (varE 12)) (consL (constE (.int 1)) nilL))) (consL (varE 1) nilL))) (consL (binE (pf2 ixP) (varE 3) (varE 12)) nilL))) (ρ := [some (.d (ownT ks)), some (.d (fr dx)), some (.d (pr Y)), some (.d (.tuple hx)), some (.d (.list (spots.map fun j => PyData.int (j : Nat)))), none, none, none, none, none, none, none, none, none]) (S := S)
      (fun j : Nat => PyData.int (0 + (j : Nat))) (fun j => [some (.d (ownT ks)), some (.d (fr dx)), some (.d (pr Y)), some (.d (.tuple hx)), some (.d (.list (spots.map fun j => PyData.int (j : Nat)))), none, none, none, none, none, none, none, some (.d (.int (0 + (j : Nat)))), none]) (fun j => cP (byP2 ((j : Nat), 1) (nd dx), h[j]?.getD 0)) (List.range h.length) (fun j mj => by simp) (fun j mj => by
        have hj := List.mem_range.mp mj
        obtain ⟨a, ha, _⟩ := hat j hj
        have f1 := by1 j S hj
        have f2 : atI hx (j : Int) = some (fr a) := by rw [hhx]; exact at_row ha
        simp [f1, f2, frzE, thaw, cP, ha])
    rw [hC]
    unfold ptR
    rw [List.map_map]
    exact this
  obtain ⟨c0, r0, hc0⟩ : ∃ c0 r0, C = c0 :: r0 := by
    cases C with
    | nil => simp at cl; omega
    | cons a b => exact ⟨a, b, rfl⟩
  obtain ⟨ce, hce, vce⟩ : ∃ ce : CPt, atI (C.map cP) (-1) = some (cP ce) ∧ Ok 10 ce.1 ∧ val ce.1 = ((h.length : Rat) - 1) * dx := by
    obtain ⟨a, ha, _⟩ := hat (h.length - 1) (by omega)
    have g := pt_get dx h ha
    rw [← hC] at g
    rcases List.eq_nil_or_concat C with e | ⟨r, l, e⟩
    · rw [e] at cl; simp at cl; omega
    · rw [List.concat_eq_append] at e
      have hl : C[h.length - 1]? = some l := by rw [← cl, e]; simp
      rw [g] at hl
      cases hl
      refine ⟨_, by rw [e, List.map_append]; exact at_last _ _, ?_, ?_⟩
      · exact (ok_by (ok_one (by omega)) (ok_nd zd)).mono (by omega)
      · show val (byP2 _ _) = _
        rw [pt_val]
        have e2 : ((h.length : Nat) : Rat) = ((h.length - 1 : Nat) : Rat) + 1 := by
          have e : h.length = (h.length - 1) + 1 := by omega
          rw [e, Rat.natCast_add]; simp
        rw [e2]; grind
  have l12 := hk.kd.len12
  rw [u_L_truth, x_run, hrow]
  refine (?_ : (fun o => ∃ vs : List Rat, vs.length = spots.length ∧ (∀ (i : Nat) (v : Rat), vs[i]? = some v → ∃ j : Nat, spots[i]? = some j ∧ Min (TV ks dx h (val Y) ((j : Rat) * dx)) v) ∧ o = some (W.d (rowD vs), S)) _)
  generalize hP : (fun o => ∃ vs : List Rat, vs.length = spots.length ∧ (∀ (i : Nat) (v : Rat), vs[i]? = some v → ∃ j : Nat, spots[i]? = some j ∧ Min (TV ks dx h (val Y) ((j : Rat) * dx)) v) ∧ o = some (W.d (rowD vs), S)) = P
  simp only [← hR]
  simp [b_L_truth, startR, hxl, rg, x_lc, wipeR, hl1, hr0, hC40, frzE, thaw]
  simp only [Option.bind_assoc]
  refine forN_bind P (fun j : Nat => PyData.int (j : Nat)) (fun s : TSt => [some (.d (ownT ks)), some (.d (fr dx)), some (.d (pr Y)), some (.d (.tuple hx)), some (.d (.list (spots.map fun j => PyData.int (j : Nat)))), s.w5, some (.m S.length), some (.d (.list (C.map cP))), s.w8, s.w9, s.w10, s.w11, none, none]) (fun s => S ++ some (s.vs.map fr) :: s.J)
    (fun l s => s.vs.length + l.length = spots.length ∧ l = spots.drop s.vs.length ∧ ∀ (i : Nat) (v : Rat), s.vs[i]? = some v → ∃ j : Nat, spots[i]? = some j ∧ Min (TV ks dx h (val Y) ((j : Rat) * dx)) v)
    (fun fl ρ S' => ∃ s : TSt, s.vs.length = spots.length ∧ (∀ (i : Nat) (v : Rat), s.vs[i]? = some v → ∃ j : Nat, spots[i]? = some j ∧ Min (TV ks dx h (val Y) ((j : Rat) * dx)) v) ∧ fl = .nx ∧ S' = S ++ some (s.vs.map fr) :: s.J ∧ ρ = [some (.d (ownT ks)), some (.d (fr dx)), some (.d (pr Y)), some (.d (.tuple hx)), some (.d (.list (spots.map fun j => PyData.int (j : Nat)))), s.w5, some (.m S.length), some (.d (.list (C.map cP))), s.w8, s.w9, s.w10, s.w11, none, none])
    spots ⟨[], [], none, none, none, none, none⟩ ⟨by simp, by simp, fun i v e => by simp at e⟩ rfl rfl ?_ ?_ ?_
  · rintro s ⟨h1, h2, h3⟩
    exact ⟨s, by simpa using h1, h3, rfl, rfl, rfl⟩
  · rintro j l ⟨vs, J, w5, w8, w9, w10, w11⟩ ⟨h1, h2, h3⟩
    simp only at h1 h2 h3
    have hjs : spots[vs.length]? = some j := by
      have : (spots.drop vs.length)[0]? = some j := by rw [← h2]; rfl
      simpa using this
    have hj : j < h.length := hsp j (List.mem_of_getElem? hjs)
    have e1 : ∀ S, R "_law_by" [.d (.tuple [.int (j : Int), .int 1]), .d (fr dx)] S = some (.d (pr (byP2 ((j : Nat), 1) (nd dx))), S) := fun S => by1 j S hj
    have oX : Ok 10 (byP2 ((j : Nat), 1) (nd dx)) := (ok_by (ok_one (by omega)) (ok_nd zd)).mono (by omega)
    have vX : val (byP2 ((j : Nat), 1) (nd dx)) = (j : Rat) * dx := pt_val dx j
    generalize byP2 ((j : Nat), 1) (nd dx) = X at *
    obtain ⟨Sg, hSg⟩ : ∃ Sg, Sg = S ++ some (vs.map fr) :: J := ⟨_, rfl⟩
    -- the corners
    have tl : ∀ (D : P2), Ok 41 D → ∀ S, ∃ c, R "_law_toll" [.d (ownT ks), .d (pr D), .d (pr Y)] S = some (.d (optD c), S) ∧ (∀ B, c = some B → Lets ks (val D) (val Y) ∧ Ok 262 B ∧ val B = tollL ks (val D) (val Y) 0) ∧ (Lets ks (val D) (val Y) → ∃ B, c = some B) := fun D oD S => by
      obtain ⟨c, f1, f2, f3⟩ := r_law_toll (k + 1) hk oD oY (by omega) (by omega) (by omega) (by omega) S
      exact ⟨c, by rw [hR]; exact f1, fun B e => ⟨(f2 B e).1, (f2 B e).2.1.mono (by omega), (f2 B e).2.2⟩, f3⟩
    have gp : ∀ (A B : P2) (a b : Nat) S, Ok a A → Ok b B → a + b < 9000 → R "_law_gap" [.d (pr A), .d (pr B)] S = some (.d (pr (gapP2 A B)), S) := fun A B a b S oA oB hab => by rw [hR]; exact r_gap oA oB (by omega) (k + 2) S
    obtain ⟨oC, hoC⟩ : ∃ oC : CPt → Option P2, ∀ c ∈ C, R "_law_toll" [.d (ownT ks), .d (pr (gapP2 X c.1)), .d (pr Y)] Sg = some (.d (optD (oC c)), Sg) ∧ (∀ B, oC c = some B → Lets ks (val (gapP2 X c.1)) (val Y) ∧ Ok 262 B ∧ val B = tollL ks (val (gapP2 X c.1)) (val Y) 0) ∧ (Lets ks (val (gapP2 X c.1)) (val Y) → ∃ B, oC c = some B) := by
      refine ⟨fun c => if hc : c ∈ C then (tl (gapP2 X c.1) ((ok_gap oX (csz c hc).1).mono (by omega)) Sg).choose else none, fun c hc => ?_⟩
      simp only [hc, dif_pos]
      exact (tl (gapP2 X c.1) ((ok_gap oX (csz c hc).1).mono (by omega)) Sg).choose_spec
    have hl2 : lcN (nameG 13) yesB (appE tupF (consL (binE (pf2 ixP) (varE 13) (constE (.int 1))) (consL (appE (callF (c_L_toll R)) (consL (varE 0) (consL (appE (callF (c_L_gap R)) (consL (varE 8) (consL (binE (pf2 ixP) (varE 13) (constE (.int 0))) nilL))) (consL (varE 2) nilL)))) nilL))) [some (.d (ownT ks)), some (.d (fr dx)), some (.d (pr Y)), some (.d (.tuple hx)), some (.d (.list (spots.map fun j => PyData.int (j : Nat)))), some (.d (.int (j : Int))), some (.m S.length), some (.d (.list (C.map cP))), some (.d (pr X)), w9, w10, w11, none, none] (C.map cP) Sg = some (C.map (fun c => cd (nd c.2, oC c)), Sg) := by
      refine lcN_each cP (fun c => [some (.d (ownT ks)), some (.d (fr dx)), some (.d (pr Y)), some (.d (.tuple hx)), some (.d (.list (spots.map fun j => PyData.int (j : Nat)))), some (.d (.int (j : Int))), some (.m S.length), some (.d (.list (C.map cP))), some (.d (pr X)), w9, w10, w11, none, some (.d (cP c))]) (fun c => cd (nd c.2, oC c)) C (fun c m => by simp) fun c m => ?_
      have f1 := gp X c.1 10 10 Sg oX (csz c m).1 (by omega)
      have f2 := (hoC c m).1
      simp [cP, f1, f2, cd, fr_nd]
    have cl3 : C.length ≤ 100000 := by omega
    refine (?_ : (fun o => Step _ _ _ _ o) _)
    generalize hPP : (fun o => Step _ _ _ _ o) = PP
    rw [← hSg]
    have own1 : ixP (ownT ks) (.int 1) = some (.list ((speeds ks).map fr)) := by simp [ownT]
    obtain ⟨OW, hOW⟩ : ∃ OW, OW = ownT ks := ⟨_, rfl⟩
    rw [← hOW] at hl2 own1
    rw [← hOW]
    simp [e1, hl2, x_lc, wipeR, frzE, thaw, cl3, own1]
    simp only [Option.bind_assoc]
    rw [hOW] at hl2 own1 ⊢
    have pos1 : ∀ s ∈ speeds ks, Lets ks (s * val Y) (val Y) := fun s ms => by
      obtain ⟨r1, r2⟩ := speeds_range hk.kd s ms
      exact ⟨hY, mul_le_right r1 hY, mul_le_right r2 hY⟩
    refine forN_bind PP fr (fun s : List Cand × Option W × Option W => [some (.d (ownT ks)), some (.d (fr dx)), some (.d (pr Y)), some (.d (.tuple hx)), some (.d (.list (spots.map fun j => PyData.int (j : Nat)))), some (.d (.int (j : Int))), some (.m S.length), some (.d (.list (C.map cP))), some (.d (pr X)), some (.m Sg.length), s.2.1, s.2.2, none, none]) (fun s => Sg ++ [some (s.1.map cd)])
      (fun l s => (∀ v ∈ l, v ∈ speeds ks) ∧ (∀ c ∈ s.1, CandG (TV ks dx h (val Y) ((j : Rat) * dx)) c) ∧ (∀ v, CV ks dx h (val Y) ((j : Rat) * dx) v → Cov s.1 v) ∧ (∀ v ∈ speeds ks, v ∈ l ∨ (0 ≤ (j : Rat) * dx - v * val Y → (j : Rat) * dx - v * val Y ≤ ((h.length : Rat) - 1) * dx → Cov s.1 (rowV dx h ((j : Rat) * dx - v * val Y) + tollL ks (v * val Y) (val Y) 0))) ∧ s.1.length + l.length ≤ 60)
      (fun fl ρ S' => ∃ (L : List Cand) (w10 w11 : Option W), fl = .nx ∧ S' = Sg ++ [some (L.map cd)] ∧ (∀ c ∈ L, CandG (TV ks dx h (val Y) ((j : Rat) * dx)) c) ∧ (∀ v, TV ks dx h (val Y) ((j : Rat) * dx) v → Cov L v) ∧ ρ = [some (.d (ownT ks)), some (.d (fr dx)), some (.d (pr Y)), some (.d (.tuple hx)), some (.d (.list (spots.map fun j => PyData.int (j : Nat)))), some (.d (.int (j : Int))), some (.m S.length), some (.d (.list (C.map cP))), some (.d (pr X)), some (.m Sg.length), w10, w11, none, none])
      (speeds ks) (C.map (fun c => ((nd c.2, oC c) : Cand)), w10, w11) ⟨fun v m => m, ?_, ?_, fun v m => .inl m, ?_⟩ rfl ?_ ?_ ?_ ?_
    · intro c mc
      obtain ⟨d, md, rfl⟩ := List.mem_map.mp mc
      refine ⟨fun B e => ?_⟩
      simp only at e ⊢
      obtain ⟨_, q2, _⟩ := hoC d md
      obtain ⟨u1, u2, u3⟩ := q2 B e
      obtain ⟨od, zd2⟩ := csz d md
      have md' := md
      rw [hC] at md'
      obtain ⟨i, a, ha, rfl⟩ := pt_mem md'
      simp only at u1 u2 u3 od zd2 ⊢
      rw [val_gap oX od, vX, pt_val] at u1 u3
      refine ⟨.inl ⟨i, a, ha, u1, ?_⟩, (ok_sum (ok_nd zd2) u2).mono (by omega), 200, 262, ok_nd zd2, u2, by omega⟩
      rw [val_sum (ok_nd zd2) u2, val_nd, u3]
    · rintro v ⟨i, a, ha, lt, rfl⟩
      have gm : (byP2 ((i : Nat), 1) (nd dx), a) ∈ C := by rw [hC]; exact List.mem_of_getElem? (pt_get dx h ha)
      obtain ⟨_, q2, q3⟩ := hoC _ gm
      obtain ⟨od, zd2⟩ := csz _ gm
      simp only at q2 q3 od zd2
      rw [val_gap oX od, vX, pt_val] at q3
      obtain ⟨B, e⟩ := q3 lt
      obtain ⟨_, u2, u3⟩ := q2 B e
      rw [val_gap oX od, vX, pt_val] at u3
      refine ⟨_, List.mem_map.mpr ⟨_, gm, rfl⟩, B, e, ?_⟩
      simp only
      rw [val_sum (ok_nd zd2) u2, val_nd, u3]
    · have := speeds_len ks
      simp only [List.length_map]
      omega
    · simp only [List.map_map]; rfl
    · rintro ⟨L, a10, a11⟩ ⟨_, h2', h3', h4', _⟩
      refine ⟨L, a10, a11, rfl, rfl, h2', fun v hv => ?_, rfl⟩
      rcases hv with hv | ⟨s, ms, b1, b2, rfl⟩
      · exact h3' v hv
      · rcases h4' s ms with q | q
        · cases q
        · exact q b1 b2
    · rintro v l2' ⟨L, a10, a11⟩ ⟨i1, i2, i3, i4, i5⟩
      have mv := i1 v List.mem_cons_self
      have zv := hk.spd v mv
      simp only [List.length_cons] at i1 i2 i3 i4 i5
      have f1 : ∀ S, R "_law_by" [.d (fr v), .d (pr Y)] S = some (.d (pr (byP2 (nd v) Y)), S) := fun S => by rw [hR]; exact r_by (ok_nd zv) oY (by omega) (k + 2) S
      have oW : Ok 41 (byP2 (nd v) Y) := (ok_by (ok_nd zv) oY).mono (by omega)
      have vW : val (byP2 (nd v) Y) = v * val Y := by rw [val_by, val_nd]
      generalize byP2 (nd v) Y = WW at *
      have f2 : ∀ S, R "_law_gap" [.d (pr X), .d (pr WW)] S = some (.d (pr (gapP2 X WW)), S) := fun S => gp X WW _ _ S oX oW (by omega)
      have oD : Ok 100 (gapP2 X WW) := (ok_gap oX oW).mono (by omega)
      have vD : val (gapP2 X WW) = (j : Rat) * dx - v * val Y := by rw [val_gap oX oW, vX, vW]
      generalize gapP2 X WW = D at *
      have f3 : ∀ S, R "_law_gap" [.d (pr ce.1), .d (pr D)] S = some (.d (pr (gapP2 ce.1 D)), S) := fun S => gp ce.1 D _ _ S vce.1 oD (by omega)
      have oE := ok_gap vce.1 oD
      have vE : val (gapP2 ce.1 D) = ((h.length : Rat) - 1) * dx - ((j : Rat) * dx - v * val Y) := by rw [val_gap vce.1 oD, vce.2, vD]
      generalize gapP2 ce.1 D = E at *
      have n1 := val_nonneg oD
      have n2 := val_nonneg oE
      rw [vD] at n1
      rw [vE] at n2
      have i1' := fun s m => i1 s (List.mem_cons_of_mem _ m)
      have ce1 : ixP (cP ce) (.int 0) = some (pr ce.1) := by simp [cP]
      by_cases c1 : 0 ≤ D.1
      · by_cases c2 : 0 ≤ E.1
        · have y0 := n1.mpr c1
          have y1 : (j : Rat) * dx - v * val Y ≤ ((h.length : Rat) - 1) * dx := by have := n2.mpr c2; grind
          obtain ⟨F, oF, vF, f4⟩ := r_along (D := D) (k + 1) hc0 csz (by rw [hC]; exact pt_asc hd h) (by omega) (by omega) oD (Sg ++ [some (L.map cd)])
          rw [hC, vD, pt_along hd l2 y0 y1] at vF
          obtain ⟨c, f5, f6, f7⟩ := tl WW oW (Sg ++ [some (L.map cd)])
          rw [vW] at f6 f7
          obtain ⟨B, hB⟩ := f7 (pos1 v mv)
          obtain ⟨_, oB, vB⟩ := f6 B hB
          subst hB
          have ll : L.length < 100000 := by omega
          simp only [Nat.add_assoc, Nat.reduceAdd, ← hR] at f4
          have vs1 : val (sumP2 F B) = rowV dx h ((j : Rat) * dx - v * val Y) + tollL ks (v * val Y) (val Y) 0 := by rw [val_sum oF oB, vF, vB]
          refine .nx' (L ++ [(F, some B)], some (.d (fr v)), some (.d (pr D))) ⟨i1', ?_, ?_, ?_, by simp only [List.length_append, List.length_singleton]; omega⟩ ?_
          · intro d md
            rcases List.mem_append.mp md with md | md
            · exact i2 d md
            · rw [List.mem_singleton.mp md]
              refine ⟨fun B' e => ?_⟩
              cases e
              refine ⟨.inr ⟨v, mv, y0, y1, vs1⟩, (ok_sum oF oB).mono (by omega), 900, 262, oF, oB, by omega⟩
          · intro w hw
            obtain ⟨d, md, B', e, hv⟩ := i3 w hw
            exact ⟨d, List.mem_append_left _ md, B', e, hv⟩
          · intro s ms
            rcases i4 s ms with q | q
            · rcases List.mem_cons.mp q with rfl | q
              · exact .inr fun _ _ => ⟨(F, some B), by simp, B, rfl, vs1⟩
              · exact .inl q
            · refine .inr fun b1 b2 => ?_
              obtain ⟨d, md, B', e, hv⟩ := q b1 b2
              exact ⟨d, List.mem_append_left _ md, B', e, hv⟩
          · simp [f1, f2, f3, f4, f5, c1, c2, hce, ce1, ll, cd, optD]
        · refine .nx' (L, some (.d (fr v)), some (.d (pr D))) ⟨i1', i2, i3, ?_, by show L.length + l2'.length ≤ 60; omega⟩ ?_
          · intro s ms
            rcases i4 s ms with q | q
            · rcases List.mem_cons.mp q with rfl | q
              · exact .inr fun _ b2 => absurd (n2.mp (by grind)) c2
              · exact .inl q
            · exact .inr q
          · simp [f1, f2, f3, c1, c2, hce, ce1]
      · refine .nx' (L, some (.d (fr v)), some (.d (pr D))) ⟨i1', i2, i3, ?_, by show L.length + l2'.length ≤ 60; omega⟩ ?_
        · intro s ms
          rcases i4 s ms with q | q
          · rcases List.mem_cons.mp q with rfl | q
            · exact .inr fun b1 _ => absurd (n1.mp b1) c1
            · exact .inl q
          · exact .inr q
        · simp [f1, f2, c1]
    · rintro fl ρ S' ⟨L, a10, a11, rfl, rfl, g1, g2, rfl⟩
      rw [← hPP]
      have cov0 : ∃ v, Cov L v := by
        obtain ⟨a, ha, _⟩ := hat j hj
        have bk := back_neg hk.kd
        have fp := free_pos hk.kd
        refine ⟨_, g2 _ (.inl ⟨j, a, ha, ?_, rfl⟩)⟩
        have e0 : (j : Rat) * dx - (j : Rat) * dx = 0 := by grind
        rw [e0]
        refine ⟨hY, ?_, Rat.mul_nonneg (by grind) hY⟩
        have := Rat.mul_nonneg (show 0 ≤ - backV ks by grind) hY
        grind
      obtain ⟨V, hV, lV⟩ := cov_least L cov0
      have mV : Min (TV ks dx h (val Y) ((j : Rat) * dx)) V := by
        refine ⟨?_, fun w hw => ?_⟩
        · obtain ⟨c, mc, B, e, hv⟩ := hV
          rw [← hv]
          exact ((g1 c mc).g B e).1
        · obtain ⟨c, mc, B, e, hv⟩ := g2 w hw
          rw [← hv]
          exact lV c mc B e
      have lst := r_law_least (M := 1500) (V := V) k L (fun c mc => ⟨fun B e => ⟨((g1 c mc).g B e).2.1, lV c mc B e⟩, fun B e => ((g1 c mc).g B e).2.2⟩) hV (by omega) Sg
      rw [← hR] at lst
      have vl : vs.length < 100000 := by
        have := (List.getElem?_eq_some_iff.mp hjs).1
        omega
      have q1 : ∀ r, (Sg ++ r)[S.length]? = some (some (vs.map fr)) := fun r => by rw [hSg]; simp
      have q2 : ∀ r y, (Sg ++ r).set S.length y = S ++ y :: (J ++ r) := fun r y => by rw [hSg]; simp
      refine .nx' ⟨vs ++ [V], J ++ [none], some (.d (.int (j : Int))), some (.d (pr X)), some (.m Sg.length), a10, a11⟩ ⟨by simp only [List.length_append, List.length_singleton] at *; simp only [List.length_cons] at h1; omega, ?_, ?_⟩ ?_
      · simp only [List.length_append, List.length_singleton]
        have := congrArg List.tail h2
        rw [List.tail_drop] at this
        exact this
      · intro i v hi
        by_cases hiv : i < vs.length
        · exact h3 i v (by simpa [List.getElem?_append_left hiv] using hi)
        · have il := (List.getElem?_eq_some_iff.mp hi).1
          simp at il
          have : i = vs.length := by omega
          subst this
          simp at hi
          subst hi
          exact ⟨j, hjs, mV⟩
      · simp [lst, q1, q2, vl]
  · rintro fl ρ S' ⟨s, h1, h2, rfl, rfl, rfl⟩
    rw [← hP]
    exact ⟨s.vs, h1, h2, by simp [rowD]⟩
end Prog

/-! C12: cells that fit tell the truth (plain; over C4, C6). -/
namespace Prog
open PySem PySem.Spec PyProof.Rows L2 PD
def Fit (ks : List Cr) (dx t : Rat) : Prop := ∀ s ∈ speeds ks, ∃ z : Int, s * t = (z : Rat) * dx
theorem Fit.mul {ks : List Cr} {dx t : Rat} (f : Fit ks dx t) (m : Nat) : Fit ks dx ((m : Rat) * t) := fun s ms => by
  obtain ⟨z, hz⟩ := f s ms
  refine ⟨(m : Int) * z, ?_⟩
  rw [Rat.intCast_mul, Rat.intCast_natCast]
  have : s * ((m : Rat) * t) = (m : Rat) * (s * t) := by grind
  rw [this, hz]; grind
theorem int_le_of_mul {i j : Int} {dx : Rat} (hd : 0 < dx) (h : (i : Rat) * dx ≤ (j : Rat) * dx) : i ≤ j := by
  by_cases z : i ≤ j
  · exact z
  · exfalso
    have h1 : (j : Rat) + 1 ≤ (i : Rat) := by
      have : ((j + 1 : Int) : Rat) ≤ (i : Rat) := Rat.intCast_le_intCast.mpr (by omega)
      rw [Rat.intCast_add] at this
      exact this
    have h2 := mul_le_right h1 (by grind : 0 ≤ dx)
    grind
theorem fit_cv {n : Nat} {ks : List Cr} (hk : Kd n ks) {dx t v : Rat} (hd : 0 < dx) (ht : 0 ≤ t) (f : Fit ks dx t) {h : List Rat} (l2 : 2 ≤ h.length) {J : Nat} (c : TV ks dx h t ((J : Rat) * dx) v) : CV ks dx h t ((J : Rat) * dx) v := by
  rcases c with c | ⟨s, ms, y0, y1, rfl⟩
  · exact c
  · obtain ⟨z, hz⟩ := f s ms
    have ey : (J : Rat) * dx - s * t = (((J : Int) - z : Int) : Rat) * dx := by
      rw [hz, Rat.intCast_sub, Rat.intCast_natCast]; grind
    have zz : ((0 : Int) : Rat) * dx = 0 := by
      have : ((0 : Int) : Rat) = 0 := rfl
      rw [this]; grind
    have g0 : 0 ≤ (J : Int) - z := int_le_of_mul hd (by rw [← ey, zz]; exact y0)
    have g1 : (J : Int) - z ≤ (h.length : Int) - 1 := int_le_of_mul hd (by rw [← ey, Rat.intCast_sub]; exact y1)
    obtain ⟨j, hj⟩ := Int.eq_ofNat_of_zero_le g0
    have jl : j < h.length := by omega
    have ey2 : (J : Rat) * dx - s * t = (j : Rat) * dx := by rw [ey, hj]; rfl
    have ex : (J : Rat) * dx - (j : Rat) * dx = s * t := by grind
    obtain ⟨r1, r2⟩ := speeds_range hk s ms
    refine ⟨j, h[j], List.getElem?_eq_getElem jl, ?_, ?_⟩
    · rw [ex]; exact ⟨ht, mul_le_right r1 ht, mul_le_right r2 ht⟩
    · rw [ex, ey2, rowV_corner hd l2 (List.getElem?_eq_getElem jl)]
/-- between two neighbouring speeds of the kind the toll is straight -/
theorem toll_sector {n : Nat} {ks : List Cr} (h : Kd n ks) {a b c : Cr} (m1 : (a, b) ∈ prs ks) (m2 : (b, c) ∈ prs ks) {x t : Rat} (ht : 0 ≤ t) (h1 : slope b c * t ≤ x) (h2 : x ≤ slope a b * t) : tollL ks x t 0 = b.2 * t - b.1 * x := by
  have key : ∀ c' ∈ ks, c'.2 * t - c'.1 * x ≤ b.2 * t - b.1 * x := by
    have u1 := under_chord h m1
    have u2 := under_chord h m2
    have sm := slope_mul (h.asc _ m1)
    simp only at u1 u2 sm
    intro c' mc
    have x1 := u1 c' mc
    have x2 := u2 c' mc
    by_cases hc : b.1 ≤ c'.1
    · have e1 := mul_le_right h1 (by grind : 0 ≤ c'.1 - b.1)
      have e2 := mul_le_right (show c'.2 - b.2 ≤ slope b c * (c'.1 - b.1) by grind) ht
      grind
    · have e1 := mul_le_right h2 (by grind : 0 ≤ b.1 - c'.1)
      have e2 := mul_le_right (show c'.2 - b.2 ≤ slope a b * (c'.1 - b.1) by grind) ht
      grind
  have mb := (prs_mem m2).1
  have a1 := tollL_ge (x := x) (t := t) ks 0
  have a2 := a1.2 b mb
  have a3 : tollL ks x t 0 ≤ b.2 * t - b.1 * x := tollL_le ks 0 (by have := key _ h.zero; simp only at this; grind) key
  grind
theorem sector_ex {x t : Rat} : ∀ (r : List Cr) (a b c : Cr), x ≤ slope a b * t → (((speeds (a :: b :: c :: r)).getLastD 0) * t ≤ x) → ∃ p q s, (p, q) ∈ prs (a :: b :: c :: r) ∧ (q, s) ∈ prs (a :: b :: c :: r) ∧ slope q s * t ≤ x ∧ x ≤ slope p q * t
  | [], a, b, c, h1, h2 => by
    refine ⟨a, b, c, by simp [prs], by simp [prs], ?_, h1⟩
    simpa [speeds, prs] using h2
  | d :: r, a, b, c, h1, h2 => by
    by_cases hx : slope b c * t ≤ x
    · exact ⟨a, b, c, by simp [prs], by simp [prs], hx, h1⟩
    · have h2' : ((speeds (b :: c :: d :: r)).getLastD 0) * t ≤ x := by
        have e : (speeds (a :: b :: c :: d :: r)).getLastD 0 = (speeds (b :: c :: d :: r)).getLastD 0 := by
          simp [speeds, prs]
        rw [← e]; exact h2
      obtain ⟨p, q, s, m1, m2, g1, g2⟩ := sector_ex r b c d (by grind) h2'
      refine ⟨p, q, s, ?_, ?_, g1, g2⟩
      · show _ ∈ (a, b) :: prs (b :: c :: d :: r)
        exact List.mem_cons_of_mem _ m1
      · show _ ∈ (a, b) :: prs (b :: c :: d :: r)
        exact List.mem_cons_of_mem _ m2
theorem sector {n : Nat} {ks : List Cr} (h : Kd n ks) {x t : Rat} (l : Lets ks x t) : ∃ p q s, (p, q) ∈ prs ks ∧ (q, s) ∈ prs ks ∧ slope q s * t ≤ x ∧ x ≤ slope p q * t := by
  obtain ⟨_, l1, l2⟩ := l
  have l3 := h.len3
  match ks, l1, l2, l3 with
  | a :: b :: c :: r, l1, l2, _ =>
    refine sector_ex r a b c ?_ l1
    simpa [freeV, speeds, prs] using l2
/-- behind several steps: no more than from any number of the first row -/
theorem fit_le {n : Nat} {ks : List Cr} (hk : Kd n ks) {dx t : Rat} (hd : 0 < dx) (ht : 0 < t) (f : Fit ks dx t) {A B : Int} (hA : freeV ks * t = (A : Rat) * dx) (hB : backV ks * t = -(B : Rat) * dx) (eA : ahP ks dx t = A) (eB : beP ks dx t = B) :
    ∀ {m : Nat} {h g : List Rat}, Iter ks dx t m h g → ∀ (i : Nat) (v : Rat), g[i]? = some v → ∀ (j : Nat) (a : Rat), h[j]? = some a → Lets ks ((((m : Int) * A + i - j : Int) : Rat) * dx) ((m : Rat) * t) → v ≤ a + tollL ks ((((m : Int) * A + i - j : Int) : Rat) * dx) ((m : Rat) * t) 0
  | 0, h, _, .zero _, i, v, hi, j, a, hj, l => by
    obtain ⟨_, l1, l2⟩ := l
    have m0 : ((0 : Nat) : Rat) * t = 0 := by
      have : ((0 : Nat) : Rat) = 0 := rfl
      rw [this]; grind
    rw [m0] at l1 l2 ⊢
    have e0 : (((((0 : Nat) : Int) * A + i - j : Int) : Rat)) * dx = 0 := by grind
    have ij : i = j := by
      have z0 : ((0 : Int) : Rat) = 0 := rfl
      have a1 := int_le_of_mul (i := ((0 : Nat) : Int) * A + i - j) (j := 0) hd (by rw [e0, z0]; grind)
      have a2 := int_le_of_mul (i := 0) (j := ((0 : Nat) : Int) * A + i - j) hd (by rw [e0, z0]; grind)
      have : ((0 : Nat) : Int) * A = 0 := by simp
      omega
    subst ij
    rw [hi] at hj
    cases hj
    rw [e0, toll_zero hk]
    grind
  | m + 1, h, _, .stop _ _, i, v, hi, j, a, hj, l => by simp at hi
  | m + 1, h, g, .step (g := g') h1 _ st, i, v, hi, j, a, hj, l => by
    obtain ⟨p, q, s, m1, m2, c1, c2⟩ := sector hk l
    have ms1 : slope q s ∈ speeds ks := List.mem_map.mpr ⟨_, m2, rfl⟩
    have ms2 : slope p q ∈ speeds ks := List.mem_map.mpr ⟨_, m1, rfl⟩
    obtain ⟨z1, hz1⟩ := f _ ms1
    obtain ⟨z2, hz2⟩ := f _ ms2
    obtain ⟨r1, r2⟩ := speeds_range hk _ ms1
    obtain ⟨r3, r4⟩ := speeds_range hk _ ms2
    have t0 : 0 ≤ t := by grind
    have b1 := mul_le_right r1 t0
    have b2 := mul_le_right r4 t0
    rw [hz1, hB] at b1
    rw [hz2, hA] at b2
    have cm : ((m + 1 : Nat) : Rat) = (m : Rat) + 1 := by rw [Rat.natCast_add]; rfl
    have ci : ((m + 1 : Nat) : Int) = (m : Int) + 1 := by omega
    obtain ⟨K, hK⟩ : ∃ K : Int, K = ((m + 1 : Nat) : Int) * A + i - j := ⟨_, rfl⟩
    rw [← hK] at c1 c2 l ⊢
    rw [cm] at c1 c2 ⊢
    have e1 : slope q s * (((m : Rat) + 1) * t) = (((m : Int) * z1 + z1 : Int) : Rat) * dx := by
      rw [Rat.intCast_add, Rat.intCast_mul, Rat.intCast_natCast]
      have : slope q s * (((m : Rat) + 1) * t) = ((m : Rat) + 1) * (slope q s * t) := by grind
      rw [this, hz1]; grind
    have e2 : slope p q * (((m : Rat) + 1) * t) = (((m : Int) * z2 + z2 : Int) : Rat) * dx := by
      rw [Rat.intCast_add, Rat.intCast_mul, Rat.intCast_natCast]
      have : slope p q * (((m : Rat) + 1) * t) = ((m : Rat) + 1) * (slope p q * t) := by grind
      rw [this, hz2]; grind
    rw [e1] at c1
    rw [e2] at c2
    have k1 := int_le_of_mul hd c1
    have k2 := int_le_of_mul hd c2
    have k3 : -B ≤ z1 := int_le_of_mul hd (by rw [Rat.intCast_neg]; exact b1)
    have k4 : z2 ≤ A := int_le_of_mul hd b2
    have k12 : z1 ≤ z2 := by
      have cv := h.length
      have w := int_le_of_mul hd (Rat.le_trans c1 c2)
      by_cases z : z1 ≤ z2
      · exact z
      · exfalso
        have : (m : Int) * z2 ≤ (m : Int) * z1 := Int.mul_le_mul_of_nonneg_left (by omega) (by omega)
        omega
    -- the last step
    obtain ⟨kk, hk1, hk2, hk3, hk4⟩ : ∃ kk : Int, z1 ≤ kk ∧ kk ≤ z2 ∧ (m : Int) * z1 ≤ K - kk ∧ K - kk ≤ (m : Int) * z2 := by
      have mm : (m : Int) * z1 ≤ (m : Int) * z2 := Int.mul_le_mul_of_nonneg_left k12 (by omega)
      by_cases z : z1 ≤ K - (m : Int) * z2
      · exact ⟨K - (m : Int) * z2, by omega, by omega, by omega, by omega⟩
      · exact ⟨z1, by omega, by omega, by omega, by omega⟩
    have il := (List.getElem?_eq_some_iff.mp hi).1
    rw [st.len] at il
    unfold lenS at il
    rw [eA, eB] at il
    obtain ⟨i', hi'⟩ := Int.eq_ofNat_of_zero_le (show 0 ≤ A + i - kk by omega)
    have i'l : i' < g'.length := by omega
    have gi : g'[i']? = some g'[i'] := List.getElem?_eq_getElem i'l
    obtain ⟨u, hu⟩ : ∃ u, u = g'[i'] := ⟨_, rfl⟩
    rw [← hu] at gi
    have pm : (m : Int) * A + (i' : Int) - j = K - kk := by
      rw [hK, ci, Int.add_mul]; omega
    have q1 : slope q s * ((m : Rat) * t) = (((m : Int) * z1 : Int) : Rat) * dx := by
      rw [Rat.intCast_mul, Rat.intCast_natCast]
      have : slope q s * ((m : Rat) * t) = (m : Rat) * (slope q s * t) := by grind
      rw [this, hz1]; grind
    have q2 : slope p q * ((m : Rat) * t) = (((m : Int) * z2 : Int) : Rat) * dx := by
      rw [Rat.intCast_mul, Rat.intCast_natCast]
      have : slope p q * ((m : Rat) * t) = (m : Rat) * (slope p q * t) := by grind
      rw [this, hz2]; grind
    have mt : 0 ≤ (m : Rat) * t := Rat.mul_nonneg Rat.natCast_nonneg t0
    have s1 : slope q s * ((m : Rat) * t) ≤ (((K - kk : Int) : Rat)) * dx := by rw [q1]; exact mul_le_right (Rat.intCast_le_intCast.mpr hk3) (by grind)
    have s2 : (((K - kk : Int) : Rat)) * dx ≤ slope p q * ((m : Rat) * t) := by rw [q2]; exact mul_le_right (Rat.intCast_le_intCast.mpr hk4) (by grind)
    have s3 : slope q s * t ≤ ((kk : Int) : Rat) * dx := by rw [hz1]; exact mul_le_right (Rat.intCast_le_intCast.mpr hk1) (by grind)
    have s4 : ((kk : Int) : Rat) * dx ≤ slope p q * t := by rw [hz2]; exact mul_le_right (Rat.intCast_le_intCast.mpr hk2) (by grind)
    have lm : Lets ks ((((m : Int) * A + (i' : Nat) - j : Int) : Rat) * dx) ((m : Rat) * t) := by
      rw [pm]
      exact ⟨mt, Rat.le_trans (mul_le_right r1 mt) s1, Rat.le_trans s2 (mul_le_right r4 mt)⟩
    have ih := fit_le hk hd ht f hA hB eA eB h1 i' u gi j a hj lm
    rw [pm] at ih
    have mn := (st.val i v hi).2
    have ex : ((ahP ks dx t : Rat) + (i : Nat)) * dx - (i' : Rat) * dx = ((kk : Int) : Rat) * dx := by
      rw [eA]
      have : (i' : Rat) = ((A + i - kk : Int) : Rat) := by rw [hi']; rfl
      rw [this, Rat.intCast_sub, Rat.intCast_add, Rat.intCast_natCast]; grind
    have le1 := mn _ ⟨i', u, gi, by rw [ex]; exact ⟨t0, Rat.le_trans (mul_le_right r1 t0) s3, Rat.le_trans s4 (mul_le_right r4 t0)⟩, rfl⟩
    rw [ex] at le1
    have T1 := toll_sector hk m1 m2 mt s1 s2
    have T2 := toll_sector hk m1 m2 t0 s3 s4
    have mt1 : 0 ≤ ((m : Rat) + 1) * t := by
      have : ((m : Rat) + 1) * t = (m : Rat) * t + t := by grind
      rw [this]; grind
    have T3 := toll_sector hk m1 m2 (x := ((K : Int) : Rat) * dx) (t := ((m : Rat) + 1) * t) mt1 (by rw [e1]; exact c1) (by rw [e2]; exact c2)
    rw [T1] at ih
    rw [T2] at le1
    rw [T3]
    have ek : ((K - kk : Int) : Rat) = (K : Rat) - (kk : Rat) := Rat.intCast_sub _ _
    rw [ek] at ih
    grind
end Prog

/-! C13: fits, the law's own cells (k51, k52; over C8, C9, C12). -/
namespace Prog
open PySem PySem.Spec PyProof.Rows L2 PD
theorem eqP_frs (l : List Rat) : eqP (.list (l.map fr)) (.list []) = some (.bool l.isEmpty) := by
  unfold eqP eqOk
  rw [if_pos (by simp [PyData.canLay0, canLay_frs, PyData.depth, PyData.canLayAll0, PyData.depthAll])]
  cases l with
  | nil => rfl
  | cons q l => simp [PyData.eqv, PyData.eqvAll]
def fitP (ks : List Cr) (p : Rat) : Bool := ((speeds ks).filter fun s => !((s * p).den == 1)).isEmpty
theorem r_spotsP {N z : Nat} (k : Nat) {ks : List Cr} {dx part : Rat} {P : P2} {many : Nat} (h : KS N z ks) (hzz : z ≤ 20) (zp : Ok 20 P) (vP : val P = part) (hm : many ≤ 40) (hd : 0 < dx) (hpt : 0 < part) (S : Sto) :
    ∃ lo hi : Int, lo = ahP ks dx (part * dx) ∧ hi = (many : Int) - beP ks dx (part * dx) ∧ run T (k + 2) "_law_spots" [.d (ownT ks), .d (pr P), .d (.int (many : Int))] S = some (.d (.list (rangeD lo (hi - lo).toNat)), S) := by
  refine ⟨_, _, rfl, rfl, ?_⟩
  have dn : dx ≠ 0 := by grind
  have pa := ahP_pos h.kd hd (Rat.mul_pos hpt hd)
  have pb := beP_pos h.kd hd (Rat.mul_pos hpt hd)
  obtain ⟨a0, a1, mf, mb⟩ := spd_at0 h.kd fr
  have zf := h.spd _ mf
  have zb := h.spd _ mb
  have f1 := r_by (ok_nd zf) zp (by omega) k S
  have f2 := r_by (ok_nd zb) zp (by omega) k S
  have o1 := ok_by (ok_nd zf) zp
  have o2 := ok_by (ok_nd zb) zp
  have oM : Ok 7 (((many : Int) - 1, 1) : P2) := ⟨by show (0 : Int) < 1; decide, by show Lt2 7 ((many : Int) - 1); unfold Lt2; omega, by show Lt2 7 1; unfold Lt2; decide⟩
  have f3 := r_sum oM o2 (by omega) k S
  have o3 := ok_sum oM o2
  have v1 : val (byP2 (nd (freeV ks)) P) = freeV ks * part := by rw [val_by, val_nd, vP]
  have v3 : val (sumP2 ((many : Int) - 1, 1) (byP2 (nd (backV ks)) P)) = ((many : Rat) - 1) + backV ks * part := by
    rw [val_sum oM o2, val_by, val_nd, vP]
    have : val (((many : Int) - 1, 1) : P2) = (many : Rat) - 1 := by
      show Rat.divInt ((many : Int) - 1) 1 = _
      rw [Rat.divInt_eq_div, Rat.intCast_sub]
      have e1 : ((1 : Int) : Rat) = 1 := rfl
      rw [e1, Rat.intCast_natCast]
      grind
    rw [this]
  have e1 : freeV ks * (part * dx) / dx = freeV ks * part := by grind
  have e2 : backV ks * (part * dx) / dx = backV ks * part := by grind
  have fh : (((many : Rat) - 1) + backV ks * part).floor = (many : Int) - 1 + (backV ks * part).floor := by
    have h1 := Rat.floor_le (backV ks * part)
    have h2 := Rat.lt_floor_add_one (backV ks * part)
    have c1 : (((many : Int) - 1 + (backV ks * part).floor : Int) : Rat) = (many : Rat) - 1 + ((backV ks * part).floor : Rat) := by
      rw [Rat.intCast_add, Rat.intCast_sub]; rfl
    apply Int.le_antisymm
    · have : (((many : Rat) - 1) + backV ks * part).floor < (many : Int) - 1 + (backV ks * part).floor + 1 := by
        rw [Rat.floor_lt_iff, Rat.intCast_add, c1]
        rw [Rat.intCast_add] at h2
        have e : ((1 : Int) : Rat) = 1 := rfl
        rw [e] at h2 ⊢
        grind
      omega
    · rw [Rat.le_floor_iff, c1]; grind
  have ea : ahP ks dx (part * dx) = -((-(freeV ks * part)).floor) := by unfold ahP; rw [e1]
  have eb : (many : Int) - beP ks dx (part * dx) = (((many : Rat) - 1) + backV ks * part).floor + 1 := by
    unfold beP; rw [e2, fh]; omega
  have pl : (((many : Rat) - 1 + backV ks * part).floor + 1 - -((-(freeV ks * part)).floor)).toNat ≤ 40 := by rw [← ea, ← eb]; omega
  rw [ea, eb]
  rw [← v1, ← v3, floor_val o3] at pl ⊢
  simp only [← fr_nd] at f1 f2
  generalize byP2 (nd (freeV ks)) P = F1 at *
  generalize byP2 (nd (backV ks)) P = F2 at *
  have pm : (.tuple [.int ((many : Int) - 1), .int 1] : PyData) = pr ((many : Int) - 1, 1) := rfl
  generalize sumP2 ((many : Int) - 1, 1) F2 = F3 at *
  have g1 := r_ceil k o1 (by omega) S
  have d3 := divOk_of o3.ne o3.2.2 (by omega)
  have lc : Lt2 60 (-((-val F1).floor)) := by
    rw [floor_neg_val o1, Int.fdiv_eq_ediv_of_nonneg _ (by have := o1.1; omega)]
    have hp := o1.1
    obtain ⟨d, hd⟩ := Int.eq_ofNat_of_zero_le (show 0 ≤ F1.2 by omega)
    rw [hd]
    exact ((o1.2.1.neg.ediv d).neg).mono (by omega)
  have lh : Lt2 50 (F3.1.fdiv F3.2) := by
    rw [Int.fdiv_eq_ediv_of_nonneg _ (by have := o3.1; omega)]
    have hp := o3.1
    obtain ⟨d, hd⟩ := Int.eq_ofNat_of_zero_le (show 0 ≤ F3.2 by omega)
    rw [hd]
    exact (o3.2.1.ediv d).mono (by omega)
  generalize -((-val F1).floor) = lo at *
  obtain ⟨hi, hhi⟩ : ∃ hi, hi = F3.1.fdiv F3.2 := ⟨_, rfl⟩
  rw [← hhi] at pl lh ⊢
  have o5 : okR (hi + 1) = true := by
    have l1 : Lt2 1 (1 : Int) := by unfold Lt2; decide
    exact okR_lt2 ((lh.add l1).mono (by omega : max 50 1 + 1 ≤ 60)) (Nat.le_refl _)
  have rr : rangeUL lo (hi + 1) S = some (.d (.list (rangeD lo (hi + 1 - lo).toNat)), S) := by
    unfold rangeUL
    rw [if_pos (by rw [okR_lt2 lc (Nat.le_refl _), o5]; simp; omega)]
  rw [u_L_spots]
  refine run_ret (ρ := [some (.d (ownT ks)), some (.d (pr P)), some (.d (.int (many : Int))), some (.d (pr F1)), some (.d (pr F3))]) ?_
  obtain ⟨PS, hPS⟩ : ∃ PS, PS = (speeds ks).map fr := ⟨_, rfl⟩
  rw [← hPS] at a0 a1
  simp [b_L_spots, startR, ownT, ← hPS, a0, a1, f1, f2, pm, f3, g1, d3, ← hhi, rr]
theorem r_law_leastD {M : Nat} {V : Rat} (k : Nat) (l : List Cand) (hg : ∀ c ∈ l, Good M V c) (hit : ∃ c ∈ l, ∃ B, c.2 = some B ∧ val (sumP2 c.1 B) = V) (hM : M < 9000) (S : Sto) : run T (k + 3) "_law_least" [.d (.list (l.map cd))] S = some (.d (fr V), S) := by
  rw [u_L_least, x_run]
  simp [b_L_least, startR, Option.bind_assoc, frzE, thaw]
  refine forN_bind (fun o => o = some (W.d (fr V), S)) cd (fun s : Option P2 × Option W × Option W => [some (.d (.list (l.map cd))), some (.d (optD s.1)), s.2.1, s.2.2]) (fun _ => S)
    (fun r s => (∀ c ∈ r, Good M V c) ∧ (∀ B, s.1 = some B → Ok M B ∧ V ≤ val B) ∧ ((∃ c ∈ r, ∃ B, c.2 = some B ∧ val (sumP2 c.1 B) = V) ∨ ∃ B, s.1 = some B ∧ val B = V))
    (fun fl ρ S' => ∃ B w2 w3, fl = .nx ∧ S' = S ∧ Ok M B ∧ val B = V ∧ ρ = [some (.d (.list (l.map cd))), some (.d (pr B)), w2, w3])
    l (none, none, none) ⟨hg, fun B e => (by cases e), .inl hit⟩ rfl rfl ?_ ?_ ?_
  · rintro ⟨best, w2, w3⟩ ⟨_, h2, h3⟩
    rcases h3 with ⟨c, m, _⟩ | ⟨B, e, hB⟩
    · cases m
    · simp only at e h2
      subst e
      exact ⟨B, w2, w3, rfl, rfl, (h2 B rfl).1, hB, rfl⟩
  · rintro ⟨n, cost⟩ r ⟨best, w2, w3⟩ ⟨h1, h2, h3⟩
    have g := h1 _ List.mem_cons_self
    have h1' := fun t m => h1 t (List.mem_cons_of_mem _ m)
    simp only at h2 h3
    have i1 : ∀ p : P2, isNone (.d (pr p)) = false := fun _ => rfl
    have i0 : isNone (.d PyData.none) = true := rfl
    cases cost with
    | none =>
      refine .nx' (best, some (.d (pr n)), some (.d .none)) ⟨h1', h2, ?_⟩ ?_
      · rcases h3 with ⟨c, m, B, e, hB⟩ | h3
        · rcases List.mem_cons.mp m with rfl | m
          · cases e
          · exact .inl ⟨c, m, B, e, hB⟩
        · exact .inr h3
      · simp [cd, optD, i0]
    | some C =>
      obtain ⟨k1, k2⟩ := g.ok C rfl
      obtain ⟨a, b, oa, ob, hab⟩ := g.run C rfl
      simp only at k1 k2 oa
      have s1 := r_sum oa ob hab (k + 1) (S)
      have hitV : ∀ c : Cand, c = (n, some C) → ∀ B, c.2 = some B → val (sumP2 c.1 B) = V → val (sumP2 n C) = V := by
        rintro c rfl B e hB
        cases e
        exact hB
      generalize sumP2 n C = N at *
      cases best with
      | none =>
        refine .nx' (some N, some (.d (pr n)), some (.d (pr C))) ⟨h1', fun B e => by cases e; exact ⟨k1, k2⟩, ?_⟩ ?_
        · rcases h3 with ⟨c, m, B, e, hB⟩ | ⟨B, e, _⟩
          · rcases List.mem_cons.mp m with hc | m
            · exact .inr ⟨N, rfl, hitV c hc B e hB⟩
            · exact .inl ⟨c, m, B, e, hB⟩
          · cases e
        · simp [cd, optD, i0, i1, s1]
      | some D =>
        obtain ⟨q1, q2⟩ := h2 D rfl
        have s2 := r_gap k1 q1 (by omega) (k + 1) (S)
        have q3 := val_neg (ok_gap k1 q1)
        rw [val_gap k1 q1] at q3
        generalize gapP2 N D = G at *
        by_cases n1 : G.1 < 0
        · have lt := q3.mpr n1
          refine .nx' (some N, some (.d (pr n)), some (.d (pr C))) ⟨h1', fun B e => by cases e; exact ⟨k1, k2⟩, ?_⟩ ?_
          · rcases h3 with ⟨c, m, B, e, hB⟩ | ⟨B, e, hB⟩
            · rcases List.mem_cons.mp m with hc | m
              · exact .inr ⟨N, rfl, hitV c hc B e hB⟩
              · exact .inl ⟨c, m, B, e, hB⟩
            · cases e
              exact absurd lt (by grind)
          · simp [cd, optD, i1, s1, s2, n1]
        · have nlt : ¬ val N - val D < 0 := fun e => n1 (q3.mp e)
          refine .nx' (some D, some (.d (pr n)), some (.d (pr C))) ⟨h1', fun B e => by cases e; exact ⟨q1, q2⟩, ?_⟩ ?_
          · rcases h3 with ⟨c, m, B, e, hB⟩ | ⟨B, e, hB⟩
            · rcases List.mem_cons.mp m with hc | m
              · have := hitV c hc B e hB
                exact .inr ⟨D, rfl, by grind⟩
              · exact .inl ⟨c, m, B, e, hB⟩
            · exact .inr ⟨B, e, hB⟩
          · simp [cd, optD, i1, s1, s2, n1]
  · rintro fl ρ S' ⟨B, w2, w3, rfl, rfl, h1, h2, rfl⟩
    have b := r_even h1 hM k S'
    rw [h2] at b
    simp [b]
end Prog

/-! C14: fits; the law's own steps by cells (k51; over C13). -/
namespace Prog
open PySem PySem.Spec PyProof.Rows L2 PD
theorem fitP_fit {ks : List Cr} {dx p : Rat} (h : fitP ks p = true) : Fit ks dx (p * dx) := fun s ms => by
  unfold fitP at h
  have e := List.isEmpty_iff.mp h
  have := List.filter_eq_nil_iff.mp e s ms
  simp at this
  refine ⟨(s * p).num, ?_⟩
  have e2 : s * p = ((s * p).num : Rat) := by
    have e1 := Rat.num_divInt_den (s * p)
    rw [this, Rat.divInt_eq_div] at e1
    have o : (((1 : Nat) : Int) : Rat) = 1 := rfl
    rw [o] at e1
    grind
  have e3 : s * (p * dx) = (s * p) * dx := by grind
  rw [e3]
  conv => lhs; rw [e2]
theorem den_test (q : Rat) : neP (.int (q.den : Int)) (.int 1) = some (.bool (!(q.den == 1))) := by
  rw [x_neI]
  congr 3
  cases h : (q.den == 1) with
  | true => simp at h; simp [h]
  | false => simp at h; simp; omega
theorem r_law_fit {n z q : Nat} (k : Nat) {ks : List Cr} {pt : Rat} (h : KS n z ks) (zp : Sz q pt) (hz : z + q < 8000) (S : Sto) : run T (k + 3) "_law_fit" [.d (ownT ks), .d (fr pt)] S = some (.d (.bool (fitP ks pt)), S) := by
  have sl : (speeds ks).length ≤ 100000 := by
    have := h.kd.len12
    unfold speeds
    rw [List.length_map, prs_len]; omega
  rw [u_L_fit]
  obtain ⟨R, hR⟩ : ∃ R, R = run T (k + 2) := ⟨_, rfl⟩
  have f : ∀ s ∈ speeds ks, ∀ S, R "_law_by" [.d (fr s), .d (fr pt)] S = some (.d (pr (byP2 (nd s) (nd pt))), S) ∧ R "_law_even" [.d (pr (byP2 (nd s) (nd pt)))] S = some (.d (fr (s * pt)), S) := fun s ms S => by
    have f1 := r_by (ok_nd (h.spd s ms)) (ok_nd zp) (by omega) (k + 1) S
    have f2 := r_even (ok_by (ok_nd (h.spd s ms)) (ok_nd zp)) (by omega) k S
    rw [val_by, val_nd, val_nd] at f2
    rw [hR]
    exact ⟨f1, f2⟩
  rw [← hR]
  have hl : ∀ S, lcN (nameG 2) (valB (binE (pf2 neP) (binE (pf2 ixP) (appE (callF (c_L_even R)) (consL (appE (callF (c_L_by R)) (consL (varE 2) (consL (varE 1) nilL))) nilL)) (constE (.int 1))) (constE (.int 1)))) (varE 2) [some (.d (ownT ks)), some (.d (fr pt)), none] ((speeds ks).map fr) S = some (((speeds ks).filter fun s => !((s * pt).den == 1)).map fr, S) := fun S => by
    rw [lcN_map fr (fun s => [some (.d (ownT ks)), some (.d (fr pt)), some (.d (fr s))]) (fun s => !((s * pt).den == 1)) fr (speeds ks) (fun s m => by simp) (fun s m => by
      obtain ⟨f1, f2⟩ := f s m S
      have t := den_test (s * pt)
      simp [-x_neI, f1, f2, t]) (fun s m _ => by simp)]
  have eq := eqP_frs ((speeds ks).filter fun s => !((s * pt).den == 1))
  rw [show ((speeds ks).filter fun s => !((s * pt).den == 1)).isEmpty = fitP ks pt from rfl] at eq
  have own1 : ixP (ownT ks) (.int 1) = some (.list ((speeds ks).map fr)) := by simp [ownT]
  obtain ⟨X, hX⟩ : ∃ X, X = ((speeds ks).filter fun s => !((s * pt).den == 1)).map fr := ⟨_, rfl⟩
  rw [← hX] at eq hl
  refine run_ret (ρ := [some (.d (ownT ks)), some (.d (fr pt)), none]) ?_
  simp [b_L_fit, startR, x_lc, wipeR, own1, sl, hl, eq]
end Prog

/-! C19: the program's choice of a row told unlike (k52; over C18, C14). -/
namespace Prog
open PySem PySem.Spec PyProof.Rows L2 PD
theorem zip3_prs (pt : Rat) : ∀ ks : List Cr, zip3D (ks.map co) ((ks.map co).drop 1) ((speeds ks).map fun s => fr (s * pt)) = (prs ks).map fun p => PyData.tuple [co p.1, co p.2, fr (slope p.1 p.2 * pt)]
  | [] => rfl
  | [x] => rfl
  | x :: y :: r => by
    have ih := zip3_prs pt (y :: r)
    show PyData.tuple [co x, co y, fr (slope x y * pt)] :: zip3D ((y :: r).map co) (((y :: r).map co).drop 1) ((speeds (y :: r)).map fun s => fr (s * pt)) = _
    rw [ih]; rfl
def halfD (p : Cr × Cr) : Rat := 1 / 2 * (p.1.1 + p.2.1)
theorem fr_half : fr (1 / 2) = .tuple [.int 1, .int 2] := by
  have n1 : (1 / 2 : Rat).num = 1 := by decide +kernel
  have d1 : (1 / 2 : Rat).den = 2 := by decide +kernel
  unfold fr; rw [n1, d1]; rfl
theorem sz_half : Sz 2 (1 / 2) := by
  have n1 : (1 / 2 : Rat).num = 1 := by decide +kernel
  have d1 : (1 / 2 : Rat).den = 2 := by decide +kernel
  exact ⟨by rw [n1]; unfold Lt2; decide, by rw [d1]; unfold Lt2; decide⟩
def unlikeR (dx d : Rat) (many : Int) : PyData := if many ≤ 40 then rowD (evenR dx d many.toNat) else .none
end Prog

/-! C20: the program's choice of a row told unlike (k52; over C19, C14, C4). -/
namespace Prog
open PySem PySem.Spec PyProof.Rows L2 PD
theorem fitP_iff {ks : List Cr} {pt : Rat} : fitP ks pt = true ↔ ∀ p ∈ prs ks, (slope p.1 p.2 * pt).den = 1 := by
  unfold fitP
  rw [List.isEmpty_iff, List.filter_eq_nil_iff]
  constructor
  · intro h p mp
    have := h (slope p.1 p.2) (List.mem_map.mpr ⟨p, mp, rfl⟩)
    simpa using this
  · intro h s ms
    obtain ⟨p, mp, rfl⟩ := List.mem_map.mp ms
    simpa using h p mp
theorem r_unlike_by {n z p q : Nat} (k : Nat) {ks : List Cr} {dx pt : Rat} (h : KS n z ks) (hn : n < 1000) (zd : Sz p dx) (hd : 0 < dx) (hp : 0 < pt) (zt : Sz q (pt * dx)) (hz : z + p + q < 900) (hp2 : p ≤ 10) (S : Sto) (M : Int) (hM : M = ahP ks dx (pt * dx) + beP ks dx (pt * dx) + 1) :
    (fitP ks pt = true ∧ run T (k + 10) "unlike_by" [.d (kd ks), .d (fr dx), .d (fr (pt * dx))] S = some (.d (.tuple [.none, .int 0]), S)) ∨
    (fitP ks pt = false ∧ ∃ pr ∈ prs ks, (slope pr.1 pr.2 * pt).den ≠ 1 ∧ run T (k + 10) "unlike_by" [.d (kd ks), .d (fr dx), .d (fr (pt * dx))] S = some (.d (.tuple [unlikeR dx (halfD pr) M, .int M]), S)) := by
  obtain ⟨R, hR⟩ : ∃ R, R = run T (k + 9) := ⟨_, rfl⟩
  have dn : dx ≠ 0 := by grind
  have ht : 0 < pt * dx := Rat.mul_pos hp hd
  have e1 := r_margins k h (by omega) zd hd zt (by omega) S
  have e2 := r_places_gone (k + 1) h (by omega) zd hd zt (by omega) S
  have em : ((speeds ks).map fun s => fr (s * (pt * dx) / dx)) = (speeds ks).map fun s => fr (s * pt) := List.map_congr_left fun s _ => by
    have : s * (pt * dx) / dx = s * pt := by grind
    rw [this]
  rw [em] at e2
  have a1 := ahP_pos h.kd hd ht
  have b1 := beP_pos h.kd hd ht
  have hne : ks.map co ≠ [] := by
    have := h.kd.len3
    intro e
    rw [List.map_eq_nil_iff] at e
    subst e
    simp at this
  have zz : zip3D (ks.map co) (cutP (ks.map co) (some 1) none) ((speeds ks).map fun s => fr (s * pt)) = (prs ks).map fun p => PyData.tuple [co p.1, co p.2, fr (slope p.1 p.2 * pt)] := by rw [drop1_cut _ hne, zip3_prs]
  obtain ⟨KL, hKL⟩ : ∃ KL, KL = ks.map co := ⟨_, rfl⟩
  have hk : kd ks = .tuple KL := by rw [hKL]; rfl
  rw [u_unlike_by, x_run]
  refine (?_ : (fun o => (fitP ks pt = true ∧ o = some (W.d (.tuple [.none, .int 0]), S)) ∨ (fitP ks pt = false ∧ ∃ pr ∈ prs ks, (slope pr.1 pr.2 * pt).den ≠ 1 ∧ o = some (W.d (.tuple [unlikeR dx (halfD pr) M, .int M]), S))) _)
  generalize hQ : (fun o => (fitP ks pt = true ∧ o = some (W.d (.tuple [.none, .int 0]), S)) ∨ (fitP ks pt = false ∧ ∃ pr ∈ prs ks, (slope pr.1 pr.2 * pt).den ≠ 1 ∧ o = some (W.d (.tuple [unlikeR dx (halfD pr) M, .int M]), S))) = Q
  obtain ⟨PS, hPS⟩ : ∃ PS, PS = (speeds ks).map fun s => fr (s * pt) := ⟨_, rfl⟩
  rw [← hPS] at e2 zz
  rw [← hKL] at zz
  rw [hk] at e1 e2 ⊢
  simp only [Nat.add_assoc, Nat.reduceAdd, ← hR] at e1 e2 ⊢
  simp [b_unlike_by, startR, e1, e2, zip3I, zz]
  simp only [Option.bind_assoc]
  refine forN_bind Q (fun p : Cr × Cr => PyData.tuple [co p.1, co p.2, fr (slope p.1 p.2 * pt)]) (fun s : Option W × Option W × Option W => [some (.d (.tuple KL)), some (.d (fr dx)), some (.d (fr (pt * dx))), some (.d (.int (ahP ks dx (pt * dx)))), some (.d (.int (beP ks dx (pt * dx)))), s.1, s.2.1, s.2.2, none, none]) (fun _ => S)
    (fun l s => (∀ p ∈ prs ks, p ∈ l ∨ (slope p.1 p.2 * pt).den = 1) ∧ ∀ p ∈ l, p ∈ prs ks)
    (fun fl ρ S' => S' = S ∧ ((fl = .nx ∧ ∀ p ∈ prs ks, (slope p.1 p.2 * pt).den = 1) ∨ ∃ pr ∈ prs ks, (slope pr.1 pr.2 * pt).den ≠ 1 ∧ fl = .rt (.d (.tuple [unlikeR dx (halfD pr) M, .int M]))))
    (prs ks) (none, none, none) ⟨fun p m => .inl m, fun p m => m⟩ rfl rfl ?_ ?_ ?_
  · rintro s ⟨h1, _⟩
    exact ⟨rfl, .inl ⟨rfl, fun p m => (h1 p m).elim (fun z => by cases z) id⟩⟩
  · rintro pr l ⟨w5, w6, w7⟩ ⟨h1, h2⟩
    have mp := h2 pr List.mem_cons_self
    have den := den_test (slope pr.1 pr.2 * pt)
    by_cases hden : (slope pr.1 pr.2 * pt).den = 1
    · refine .nx' (some (.d (co pr.1)), some (.d (co pr.2)), some (.d (fr (slope pr.1 pr.2 * pt)))) ⟨fun p m => ?_, fun p m => h2 p (List.mem_cons_of_mem _ m)⟩ ?_
      · rcases h1 p m with q | q
        · rcases List.mem_cons.mp q with rfl | q
          · exact .inr hden
          · exact .inl q
        · exact .inr q
      · have d2 : ((slope pr.1 pr.2 * pt).den == 1) = true := by rw [hden]; rfl
        rw [d2] at den
        simp [-x_neI, den]
    · have d2 : ((slope pr.1 pr.2 * pt).den == 1) = false := by simpa using hden
      rw [d2] at den
      obtain ⟨m1, m2⟩ := prs_mem mp
      have z1 := (h.kd.size _ m1).1
      have z2 := (h.kd.size _ m2).1
      have f1 := r_plus (k + 4) z1 z2 (by omega) S
      have f2 := r_times (k + 4) sz_half (sz_add z1 z2) (by omega) S
      rw [fr_half] at f2
      have zh : Sz (2 + (n + n + 1)) (halfD pr) := (sz_mul sz_half (sz_add z1 z2)).mono (by omega)
      simp only [Nat.add_assoc, Nat.reduceAdd, ← hR] at f1 f2
      have f2' : R "times" [.d (.tuple [.int 1, .int 2]), .d (fr (pr.1.1 + pr.2.1))] S = some (.d (fr (halfD pr)), S) := f2
      refine .rt' (w := .d (.tuple [unlikeR dx (halfD pr) M, .int M])) (ρ := [some (.d (.tuple KL)), some (.d (fr dx)), some (.d (fr (pt * dx))), some (.d (.int (ahP ks dx (pt * dx)))), some (.d (.int (beP ks dx (pt * dx)))), some (.d (co pr.1)), some (.d (co pr.2)), some (.d (fr (slope pr.1 pr.2 * pt))), some (.d (fr (halfD pr))), some (.d (.int M))]) (S := S) ⟨rfl, .inr ⟨pr, mp, hden, rfl⟩⟩ ?_
      by_cases hm : M ≤ 40
      · obtain ⟨m, hm2⟩ := Int.eq_ofNat_of_zero_le (show 0 ≤ M by omega)
        have f3 := r_even_row (k + 3) zd zh m (by omega) (by omega) S
        simp only [Nat.add_assoc, Nat.reduceAdd, ← hR, ← hm2] at f3
        have f3' : R "even_row" [.d (fr dx), .d (fr (halfD pr)), .d (.int M)] S = some (.d (unlikeR dx (halfD pr) M), S) := by
          unfold unlikeR
          rw [if_pos hm, show M.toNat = m by omega]
          exact f3
        simp [-x_neI, den, f1, f2', ← hM, hm, f3', co, frzE, thaw]
      · have u0 : unlikeR dx (halfD pr) M = .none := if_neg hm
        simp [-x_neI, den, f1, f2', ← hM, hm, u0, co, frzE, thaw]
  · rintro fl ρ S' ⟨rfl, ⟨rfl, hall⟩ | ⟨pr, mp, hden, rfl⟩⟩
    · rw [← hQ]
      exact .inl ⟨fitP_iff.mpr hall, by simp⟩
    · rw [← hQ]
      refine .inr ⟨?_, pr, mp, hden, by simp⟩
      cases hf : fitP ks pt with
      | false => rfl
      | true => exact absurd (fitP_iff.mp hf pr mp) hden
end Prog

/-! C21: unlike_row and its error (k52; over C20). -/
namespace Prog
open PySem PySem.Spec PyProof.Rows L2 PD
section
variable {n z p q : Nat} (k : Nat) {ks : List Cr} {dx pt : Rat} (h : KS n z ks) (hn : n < 1000) (zd : Sz p dx) (hd : 0 < dx) (hp : 0 < pt) (zt : Sz q (pt * dx)) (hz : z + p + q < 900) (hp2 : p ≤ 10) (S : Sto) (M : Int) (hM : M = ahP ks dx (pt * dx) + beP ks dx (pt * dx) + 1)
include h hn zd hd hp zt hz hp2 hM
theorem r_row_or : (fitP ks pt = true ∧ run T (k + 11) "row_or_too_many" [.d (kd ks), .d (fr dx), .d (fr (pt * dx))] S = some (.d .none, S)) ∨
    (fitP ks pt = false ∧ M ≤ 40 ∧ ∃ pr ∈ prs ks, (slope pr.1 pr.2 * pt).den ≠ 1 ∧ run T (k + 11) "row_or_too_many" [.d (kd ks), .d (fr dx), .d (fr (pt * dx))] S = some (.d (rowD (evenR dx (halfD pr) M.toNat)), S)) ∨
    (fitP ks pt = false ∧ 40 < M ∧ run T (k + 11) "row_or_too_many" [.d (kd ks), .d (fr dx), .d (fr (pt * dx))] S = none ∧ (run T (k + 11)).ex "row_or_too_many" [.d (kd ks), .d (fr dx), .d (fr (pt * dx))] S = some ((("TooMany" : Str), [(("given" : Str), .int M)]), S)) := by
  rcases r_unlike_by k h hn zd hd hp zt hz hp2 S M hM with ⟨hf, e⟩ | ⟨hf, pr, mp, hden, e⟩
  · refine .inl ⟨hf, ?_⟩
    rw [u_row_or_too_many, x_run]
    simp [b_row_or_too_many, startR, e, thaw]
  · by_cases hm : M ≤ 40
    · refine .inr (.inl ⟨hf, hm, pr, mp, hden, ?_⟩)
      have hm2 : ¬ 40 < M := by omega
      have u : unlikeR dx (halfD pr) M = rowD (evenR dx (halfD pr) M.toNat) := if_pos hm
      rw [u] at e
      rw [u_row_or_too_many, x_run]
      simp [b_row_or_too_many, startR, e, hm2, thaw]
    · have hm2 : 40 < M := by omega
      have u : unlikeR dx (halfD pr) M = .none := if_neg hm
      rw [u] at e
      refine .inr (.inr ⟨hf, hm2, ?_, ?_⟩)
      · rw [u_row_or_too_many, x_run]
        simp [b_row_or_too_many, startR, e, hm2, allD]
      · rw [e_row_or_too_many, x_runX]
        simp [b_row_or_too_many, startR, e, hm2, allD]
theorem r_unlike_row : (fitP ks pt = true ∧ run T (k + 12) "unlike_row" [.d (kd ks), .d (fr dx), .d (fr (pt * dx))] S = some (.d .none, S)) ∨
    (fitP ks pt = false ∧ M ≤ 40 ∧ ∃ pr ∈ prs ks, (slope pr.1 pr.2 * pt).den ≠ 1 ∧ run T (k + 12) "unlike_row" [.d (kd ks), .d (fr dx), .d (fr (pt * dx))] S = some (.d (rowD (evenR dx (halfD pr) M.toNat)), S)) ∨
    (fitP ks pt = false ∧ 40 < M ∧ run T (k + 12) "unlike_row" [.d (kd ks), .d (fr dx), .d (fr (pt * dx))] S = none ∧ (run T (k + 12)).ex "unlike_row" [.d (kd ks), .d (fr dx), .d (fr (pt * dx))] S = some ((("TooMany" : Str), [(("given" : Str), .int M)]), S)) := by
  have e0 := r_check_steps (k + 1) h.kd hn hd (Rat.mul_pos hp hd) S
  rcases r_row_or k h hn zd hd hp zt hz hp2 S M hM with ⟨hf, e⟩ | ⟨hf, hm, pr, mp, hden, e⟩ | ⟨hf, hm, e, g⟩
  · refine .inl ⟨hf, ?_⟩
    have f := resX_ok (c := c_row_or_too_many (run T (k + 11))) e
    rw [u_unlike_row, x_run]
    simp [b_unlike_row, startR, e0, f, thaw]
  · refine .inr (.inl ⟨hf, hm, pr, mp, hden, ?_⟩)
    have f := resX_ok (c := c_row_or_too_many (run T (k + 11))) e
    rw [u_unlike_row, x_run]
    simp [b_unlike_row, startR, e0, f, thaw]
  · have f := resX_ex (c := c_row_or_too_many (run T (k + 11))) e g
    refine .inr (.inr ⟨hf, hm, ?_, ?_⟩)
    · rw [u_unlike_row, x_run]
      simp [b_unlike_row, startR, e0, f]
    · rw [e_unlike_row, x_runX]
      simp [b_unlike_row, startR, e0, f]
end
end Prog

/-! C22: what the law is told (k52; over C21). -/
namespace Prog
open PySem PySem.Spec PyProof.Rows L2 PD
theorem subT1 : subF G_sub "TooMany" "TooMany" = some true := by rfl
theorem subT2 : subF G_sub "TooMany" "RoadError" = some true := by rfl
theorem subT3 : subF G_sub "TooMany" "ValueError" = some true := by rfl
theorem r_told52 {n z p q : Nat} (k : Nat) {ks : List Cr} {dx pt : Rat} (h : KS n z ks) (hn : n < 1000) (zd : Sz p dx) (hd : 0 < dx) (hp : 0 < pt) (zt : Sz q (pt * dx)) (hz : z + p + q < 900) (hp2 : p ≤ 10) (named : Bool) (S : Sto) (M : Int) (hM : M = ahP ks dx (pt * dx) + beP ks dx (pt * dx) + 1) :
    (fitP ks pt = true ∧ run T (k + 13) "_law_told" [.d (kd ks), .d (fr dx), .d (fr (pt * dx)), .d (.bool named)] S = some (.d (.tuple [.none, .none]), S)) ∨
    (fitP ks pt = false ∧ M ≤ 40 ∧ ∃ pr ∈ prs ks, (slope pr.1 pr.2 * pt).den ≠ 1 ∧ run T (k + 13) "_law_told" [.d (kd ks), .d (fr dx), .d (fr (pt * dx)), .d (.bool named)] S = some (.d (.tuple [rowD (evenR dx (halfD pr) M.toNat), .none]), S)) ∨
    (fitP ks pt = false ∧ 40 < M ∧ run T (k + 13) "_law_told" [.d (kd ks), .d (fr dx), .d (fr (pt * dx)), .d (.bool named)] S = some (.d (.tuple [.none, .tuple [.int M, .bool true]]), S)) := by
  rcases r_unlike_row k h hn zd hd hp zt hz hp2 S M hM with ⟨hf, e⟩ | ⟨hf, hm, pr, mp, hden, e⟩ | ⟨hf, hm, e, g⟩
  · refine .inl ⟨hf, ?_⟩
    have f := resX_ok (c := c_unlike_row (run T (k + 12))) e
    rw [u_L_told, x_run]
    cases named <;> simp [b_L_told, startR, ifX, atW, f, frzE, thaw]
  · refine .inr (.inl ⟨hf, hm, pr, mp, hden, ?_⟩)
    have f := resX_ok (c := c_unlike_row (run T (k + 12))) e
    rw [u_L_told, x_run]
    cases named <;> simp [b_L_told, startR, ifX, atW, f, frzE, thaw]
  · refine .inr (.inr ⟨hf, hm, ?_⟩)
    have f := resX_ex (c := c_unlike_row (run T (k + 12))) e g
    rw [u_L_told, x_run]
    cases named <;> simp [b_L_told, startR, ifX, atW, f, handle, suiteS, setU, isiU, attrU, subT1, subT2, subT3, G_cls, frzE, thaw]
end Prog

/-! C23: the law's own look at fractions (k52; over M3d). -/
namespace Prog
open PySem PySem.Spec PyProof.Rows L2 PD
theorem r_law_is_fraction {n : Nat} (k : Nat) {q : Rat} (zq : Sz n q) (hn : n < 9000) (S : Sto) : run T (k + 2) "_law_is_fraction" [.d (fr q)] S = some (.d (.bool true), S) := by
  have hd : (0 : Int) < (q.den : Int) := by have := q.den_pos; omega
  have c := r_cut k hd zq.1 zq.2 hn S
  rw [Rat.num_divInt_den] at c
  have e := eqP_fr q
  have nd0 : ¬ q.den = 0 := by omega
  have ix0 : ixP (fr q) (.int 0) = some (.int q.num) := by simp
  have ix1 : ixP (fr q) (.int 1) = some (.int q.den) := by simp
  have ln : lenP [fr q] = some (.int 2) := by simp [fr]
  have is : ∀ S, isiF "tuple" (.d (fr q)) S = some (.d (.bool true), S) := fun S => by simp [fr]
  have hl : ∀ S, lcE [1] false (seqI (frzE (varE 0))) (nameG 1) (orB (notB (valB (isiE "int" (varE 1)))) (valB (isiE "bool" (varE 1)))) (varE 1) [some (.d (fr q)), none] S = some (.d (.list []), S) := fun S => by
    simp [x_lc, wipeR, x_lcN, frzE, thaw, fr]
  obtain ⟨F, hF⟩ : ∃ F, F = fr q := ⟨_, rfl⟩
  rw [← hF] at c e ix0 ix1 ln is hl ⊢
  rw [u_L_is_fraction]
  refine run_ret (ρ := [some (.d F), none]) ?_
  simp [b_L_is_fraction, startR, is, ln, ↓hl, ix0, ix1, nd0, c, e]
end Prog

/-! C10: the law's own rows, its tests of rows. -/
namespace Prog
open PySem PySem.Spec PyProof.Rows L2 PD
theorem full_at {n : Nat} {ks : List Cr} (h : Kd n ks) : ∃ q, atI (ks.map co) (-1) = some (co (fullD ks, q)) := by
  obtain ⟨c1, r, acc, cl, f, hk1, hk2, p1, p2, p3, p4, hf⟩ := h.ends
  refine ⟨0, ?_⟩
  rw [hf, hk2, show acc ++ [cl, (f, 0)] = (acc ++ [cl]) ++ [(f, 0)] by simp, List.map_append]
  exact at_last _ _
structure RSt where
  vs : List Rat
  t : Dice
  sh : Int
  w3 : Option W
end Prog

/-! C15: the law's own steps by cells (k51, k52; over C13). -/
namespace Prog
open PySem PySem.Spec PyProof.Rows L2 PD
structure DSt where
  vs : List Rat
  w5 : Option W
  w6 : Option W
theorem r_law_cells {N z q : Nat} (k : Nat) {ks : List Cr} (hk : KS N z ks) (hN : N ≤ 100) (hz : z ≤ 20) {dx t : Rat} (zd : Sz 3 dx) (hd : 0 < dx) (hq : q ≤ 15) (zt : Sz q t) (ht : 0 < t) {h : List Rat} (l2 : 2 ≤ h.length) (l40 : h.length ≤ 40) (hs : ∀ v ∈ h, Sz 2000 v) (S : Sto) :
    ∃ vs : List Rat, StepC ks dx t h vs ∧ run T (k + 4) "_law_cells" [.d (ownT ks), .d (fr dx), .d (fr t), .d (rowD h)] S = some (.d (rowD vs), S) := by
  obtain ⟨R, hR⟩ : ∃ R, R = run T (k + 3) := ⟨_, rfl⟩
  obtain ⟨hx, hhx⟩ : ∃ hx, hx = h.map fr := ⟨_, rfl⟩
  have hxl : hx.length = h.length := by rw [hhx]; simp
  have hrow : rowD h = .tuple hx := by rw [hhx]; rfl
  have dn : dx ≠ 0 := by grind
  have rg := fun S => rangeU_nat h.length S (by omega)
  have hr0 : (rangeD 0 h.length).length = h.length := by simp [rangeD]
  have hC40 : h.length ≤ 100000 := by omega
  have a1 := ahP_pos hk.kd hd ht
  have b1 := beP_pos hk.kd hd ht
  obtain ⟨a, ha⟩ := Int.eq_ofNat_of_zero_le (show 0 ≤ ahP ks dx t by omega)
  obtain ⟨cnt, hcn⟩ : ∃ cnt, cnt = lenS ks dx t h.length := ⟨_, rfl⟩
  have ccl : cnt ≤ h.length := by rw [hcn]; unfold lenS; omega
  obtain ⟨SP, hSP⟩ : ∃ SP : List Nat, SP = (List.range cnt).map fun i => a + i := ⟨_, rfl⟩
  have spl : SP.length = cnt := by rw [hSP]; simp
  have dpos : 0 < (nd dx).1 := (num_pos' dx).mpr hd
  have oP := ok_per (ok_nd zt) (ok_nd zd) dpos
  have vP : val (perP2 (nd t) (nd dx)) = t / dx := by rw [val_per, val_nd, val_nd]
  have tpos : 0 < t / dx := by
    have e : t / dx * dx = t := Rat.div_mul_cancel dn
    by_cases z : 0 < t / dx
    · exact z
    · exfalso
      have := Rat.mul_nonneg (show 0 ≤ -(t / dx) by grind) (show 0 ≤ dx by grind)
      grind
  have e0 : ∀ S, R "_law_per" [.d (fr t), .d (fr dx)] S = some (.d (pr (perP2 (nd t) (nd dx))), S) := fun S => by
    rw [hR]; exact r_per (ok_nd zt) (ok_nd zd) (by omega) dpos (k + 2) S
  have e1 : ∀ S, R "_law_spots" [.d (ownT ks), .d (pr (perP2 (nd t) (nd dx))), .d (.int (h.length : Int))] S = some (.d (.list (SP.map fun j => PyData.int (j : Nat))), S) := fun S => by
    obtain ⟨lo, hi, hlo, hhi, e⟩ := r_spotsP (k + 1) hk hz (oP.mono (by omega)) vP (many := h.length) l40 hd tpos S
    have td : t / dx * dx = t := Rat.div_mul_cancel dn
    rw [td] at hlo hhi
    have hc : (hi - lo).toNat = cnt := by rw [hcn, hlo, hhi]; rfl
    rw [hc] at e
    have hr : rangeD lo cnt = SP.map fun j => PyData.int (j : Nat) := by
      rw [hlo, ha, hSP, List.map_map]
      unfold rangeD
      refine List.map_congr_left fun i _ => ?_
      simp
    rw [hr] at e
    rw [hR]; exact e
  generalize perP2 (nd t) (nd dx) = PP at *
  have gr := fun i hi => goal_range hk.kd hd ht (len := h.length) (i := i) hi
  have hj : ∀ i, i < cnt → a + i < h.length ∧ ((ahP ks dx t : Rat) + (i : Nat)) = ((a + i : Nat) : Rat) := fun i hi => by
    obtain ⟨j, ej, ei, jl, _⟩ := gr i (by rw [← hcn]; exact hi)
    have : j = a + i := by omega
    subst this
    exact ⟨jl, ej⟩
  have hat : ∀ j, j < h.length → ∃ a, h[j]? = some a ∧ Sz 2000 a := fun j hj => ⟨h[j], List.getElem?_eq_getElem hj, hs _ (List.getElem_mem hj)⟩
  rw [u_L_cells, x_run, hrow]
  refine (?_ : (fun o => ∃ vs : List Rat, StepC ks dx t h vs ∧ o = some (W.d (rowD vs), S)) _)
  generalize hQ : (fun o => ∃ vs : List Rat, StepC ks dx t h vs ∧ o = some (W.d (rowD vs), S)) = Q
  simp only [← hR]
  simp [b_L_cells, startR, hxl, e0, e1]
  simp only [Option.bind_assoc]
  refine forN_bind Q (fun j : Nat => PyData.int (j : Nat)) (fun s : DSt => [some (.d (ownT ks)), some (.d (fr dx)), some (.d (fr t)), some (.d (.tuple hx)), some (.m S.length), s.w5, s.w6, none]) (fun s => S ++ [some (s.vs.map fr)])
    (fun l s => s.vs.length + l.length = cnt ∧ l = SP.drop s.vs.length ∧ ∀ (i : Nat) (v : Rat), s.vs[i]? = some v → ∃ j : Nat, SP[i]? = some j ∧ Min (CV ks dx h t ((j : Rat) * dx)) v)
    (fun fl ρ S' => ∃ s : DSt, s.vs.length = cnt ∧ (∀ (i : Nat) (v : Rat), s.vs[i]? = some v → ∃ j : Nat, SP[i]? = some j ∧ Min (CV ks dx h t ((j : Rat) * dx)) v) ∧ fl = .nx ∧ S' = S ++ [some (s.vs.map fr)] ∧ ρ = [some (.d (ownT ks)), some (.d (fr dx)), some (.d (fr t)), some (.d (.tuple hx)), some (.m S.length), s.w5, s.w6, none])
    SP ⟨[], none, none⟩ ⟨by simpa using spl, by simp, fun i v e => by simp at e⟩ rfl rfl ?_ ?_ ?_
  · rintro s ⟨h1, h2, h3⟩
    exact ⟨s, by simpa using h1, h3, rfl, rfl, rfl⟩
  · rintro j l ⟨vs, w5, w6⟩ ⟨h1, h2, h3⟩
    simp only [List.length_cons] at h1 h2 h3
    have hjs : SP[vs.length]? = some j := by
      have : (SP.drop vs.length)[0]? = some j := by rw [← h2]; rfl
      simpa using this
    have jl : j < h.length := by
      have m := List.mem_of_getElem? hjs
      rw [hSP] at m
      obtain ⟨i, mi, rfl⟩ := List.mem_map.mp m
      exact (hj i (List.mem_range.mp mi)).1
    obtain ⟨S', hS'⟩ : ∃ S', S' = S ++ [some (vs.map fr)] := ⟨_, rfl⟩
    have oI : ∀ i, i < h.length → Ok 7 ((((j : Int) - (i : Int)), 1) : P2) := fun i hi => ⟨by show (0 : Int) < 1; decide, by show Lt2 7 ((j : Int) - (i : Int)); unfold Lt2; omega, by show Lt2 7 1; unfold Lt2; decide⟩
    have vI : ∀ i : Nat, val (byP2 (((j : Int) - (i : Int)), 1) (nd dx)) = (j : Rat) * dx - (i : Rat) * dx := fun i => by
      rw [val_by, val_nd]
      have : val ((((j : Int) - (i : Int)), 1) : P2) = (j : Rat) - (i : Rat) := by
        show Rat.divInt ((j : Int) - (i : Int)) 1 = _
        rw [Rat.divInt_eq_div, Rat.intCast_sub]
        have e1 : ((1 : Int) : Rat) = 1 := rfl
        rw [e1, Rat.intCast_natCast, Rat.intCast_natCast]
        grind
      rw [this]; grind
    have f1 : ∀ i, i < h.length → R "_law_by" [.d (.tuple [.int ((j : Int) - (i : Int)), .int 1]), .d (fr dx)] S' = some (.d (pr (byP2 (((j : Int) - (i : Int)), 1) (nd dx))), S') := fun i hi => by
      have := r_by (oI i hi) (ok_nd zd) (by omega) (k + 2) S'
      rw [hR]; exact this
    have tl : ∀ i, i < h.length → ∃ c, R "_law_toll" [.d (ownT ks), .d (pr (byP2 (((j : Int) - (i : Int)), 1) (nd dx))), .d (fr t)] S' = some (.d (optD c), S') ∧ (∀ B, c = some B → Lets ks ((j : Rat) * dx - (i : Rat) * dx) t ∧ Ok 262 B ∧ val B = tollL ks ((j : Rat) * dx - (i : Rat) * dx) t 0) ∧ (Lets ks ((j : Rat) * dx - (i : Rat) * dx) t → ∃ B, c = some B) := fun i hi => by
      obtain ⟨c, g1, g2, g3⟩ := r_law_toll (k + 1) hk (ok_by (oI i hi) (ok_nd zd)) (ok_nd zt) (by omega) (by omega) (by omega) (by omega) S'
      rw [vI i, val_nd] at g2 g3
      exact ⟨c, by rw [hR]; exact g1, fun B e => ⟨(g2 B e).1, (g2 B e).2.1.mono (by omega), (g2 B e).2.2⟩, g3⟩
    obtain ⟨oC, hoC⟩ : ∃ oC : Nat → Option P2, ∀ i, i < h.length → R "_law_toll" [.d (ownT ks), .d (pr (byP2 (((j : Int) - (i : Int)), 1) (nd dx))), .d (fr t)] S' = some (.d (optD (oC i)), S') ∧ (∀ B, oC i = some B → Lets ks ((j : Rat) * dx - (i : Rat) * dx) t ∧ Ok 262 B ∧ val B = tollL ks ((j : Rat) * dx - (i : Rat) * dx) t 0) ∧ (Lets ks ((j : Rat) * dx - (i : Rat) * dx) t → ∃ B, oC i = some B) := by
      refine ⟨fun i => if hi : i < h.length then (tl i hi).choose else none, fun i hi => ?_⟩
      simp only [hi, dif_pos]
      exact (tl i hi).choose_spec
    have hl2 : lcN (nameG 7) yesB (appE tupF (consL (binE (pf2 ixP) (varE 3) (varE 7)) (consL (appE (callF (c_L_toll R)) (consL (varE 0) (consL (appE (callF (c_L_by R)) (consL (appE tupF (consL (binE (pf2 subP) (varE 5) (varE 7)) (consL (constE (.int 1)) nilL))) (consL (varE 1) nilL))) (consL (varE 2) nilL)))) nilL))) [some (.d (ownT ks)), some (.d (fr dx)), some (.d (fr t)), some (.d (.tuple hx)), some (.m S.length), some (.d (.int (j : Int))), w6, none] (rangeD 0 h.length) S' = some (((List.range h.length).map fun i => ((nd (h[i]?.getD 0), oC i) : Cand)).map cd, S') := by
      have := lcN_each (g := nameG 7) (elt := appE tupF (consL (binE (pf2 ixP) (varE 3) (varE 7)) (consL (appE (callF (c_L_toll R)) (consL (varE 0) (consL (appE (callF (c_L_by R)) (consL (appE tupF (consL (binE (pf2 subP) (varE 5) (varE 7)) (consL (constE (.int 1)) nilL))) (consL (varE 1) nilL))) (consL (varE 2) nilL)))) nilL))) (ρ := [some (.d (ownT ks)), some (.d (fr dx)), some (.d (fr t)), some (.d (.tuple hx)), some (.m S.length), some (.d (.int (j : Int))), w6, none]) (S := S')
        (fun i : Nat => PyData.int (0 + (i : Nat))) (fun i => [some (.d (ownT ks)), some (.d (fr dx)), some (.d (fr t)), some (.d (.tuple hx)), some (.m S.length), some (.d (.int (j : Int))), w6, some (.d (.int (0 + (i : Nat))))]) (fun i => cd (nd (h[i]?.getD 0), oC i)) (List.range h.length) (fun i mi => by simp) (fun i mi => by
          have hi := List.mem_range.mp mi
          obtain ⟨b, hb, _⟩ := hat i hi
          have g1 := f1 i hi
          have g2 := (hoC i hi).1
          have g3 : atI hx (i : Int) = some (fr b) := by rw [hhx]; exact at_row hb
          have cdE : cd (nd b, oC i) = .tuple [fr b, optD (oC i)] := rfl
          simp [g1, g2, g3, hb, cdE])
      rw [List.map_map]
      exact this
    obtain ⟨L, hL⟩ : ∃ L, L = (List.range h.length).map fun i => ((nd (h[i]?.getD 0), oC i) : Cand) := ⟨_, rfl⟩
    rw [← hL] at hl2
    have hg : ∀ c ∈ L, CandG (CV ks dx h t ((j : Rat) * dx)) c → True := fun _ _ _ => trivial
    have gl : ∀ c ∈ L, ∀ B, c.2 = some B → CV ks dx h t ((j : Rat) * dx) (val (sumP2 c.1 B)) ∧ Ok 2500 (sumP2 c.1 B) ∧ ∃ a b, Ok a c.1 ∧ Ok b B ∧ a + b < 900000 := fun c mc B e => by
      rw [hL] at mc
      obtain ⟨i, mi, rfl⟩ := List.mem_map.mp mc
      have hi := List.mem_range.mp mi
      obtain ⟨b, hb, zb⟩ := hat i hi
      obtain ⟨_, g2, _⟩ := hoC i hi
      simp only [hb, Option.getD_some] at e ⊢
      obtain ⟨u1, u2, u3⟩ := g2 B e
      refine ⟨⟨i, b, hb, u1, ?_⟩, (ok_sum (ok_nd zb) u2).mono (by omega), 2000, 262, ok_nd zb, u2, by omega⟩
      rw [val_sum (ok_nd zb) u2, val_nd, u3]
    have cov : ∀ v, CV ks dx h t ((j : Rat) * dx) v → Cov L v := by
      rintro v ⟨i, b, hb, lt, rfl⟩
      have hi := (List.getElem?_eq_some_iff.mp hb).1
      have zb := hs b (List.mem_of_getElem? hb)
      obtain ⟨_, g2, g3⟩ := hoC i hi
      obtain ⟨B, e⟩ := g3 lt
      obtain ⟨_, u2, u3⟩ := g2 B e
      refine ⟨(nd b, oC i), by rw [hL]; exact List.mem_map.mpr ⟨i, List.mem_range.mpr hi, by rw [hb]; rfl⟩, B, e, ?_⟩
      simp only
      rw [val_sum (ok_nd zb) u2, val_nd, u3]
    have cov0 : ∃ v, Cov L v := by
      obtain ⟨b, hb, _⟩ := hat j jl
      have bk := back_neg hk.kd
      have fp := free_pos hk.kd
      have t0 : 0 ≤ t := by grind
      refine ⟨_, cov _ ⟨j, b, hb, ?_, rfl⟩⟩
      have e0 : (j : Rat) * dx - (j : Rat) * dx = 0 := by grind
      rw [e0]
      refine ⟨t0, ?_, Rat.mul_nonneg (by grind) t0⟩
      have := Rat.mul_nonneg (show 0 ≤ - backV ks by grind) t0
      grind
    obtain ⟨V, hV, lV⟩ := cov_least L cov0
    have mV : Min (CV ks dx h t ((j : Rat) * dx)) V := by
      refine ⟨?_, fun w hw => ?_⟩
      · obtain ⟨c, mc, B, e, hv⟩ := hV
        rw [← hv]
        exact (gl c mc B e).1
      · obtain ⟨c, mc, B, e, hv⟩ := cov w hw
        rw [← hv]
        exact lV c mc B e
    have lst := r_law_leastD (M := 2500) (V := V) k L (fun c mc => ⟨fun B e => ⟨(gl c mc B e).2.1, lV c mc B e⟩, fun B e => (gl c mc B e).2.2⟩) hV (by omega) S'
    rw [← hR] at lst
    have vl : vs.length < 100000 := by omega
    refine .nx' ⟨vs ++ [V], some (.d (.int (j : Int))), some (.d (.list (L.map cd)))⟩ ⟨by simp only [List.length_append, List.length_singleton]; omega, ?_, ?_⟩ ?_
    · simp only [List.length_append, List.length_singleton]
      have := congrArg List.tail h2
      rw [List.tail_drop] at this
      exact this
    · intro i v hi
      by_cases hiv : i < vs.length
      · exact h3 i v (by simpa [List.getElem?_append_left hiv] using hi)
      · have il := (List.getElem?_eq_some_iff.mp hi).1
        simp at il
        have : i = vs.length := by omega
        subst this
        simp at hi
        subst hi
        exact ⟨j, hjs, mV⟩
    · rw [hS'] at hl2 lst
      simp [hxl, rg, x_lc, wipeR, hr0, hC40, hl2, lst, vl]
  · rintro fl ρ S' ⟨s, h1, h2, rfl, rfl, rfl⟩
    rw [← hQ]
    refine ⟨s.vs, ⟨by rw [h1, hcn], fun i v hv => ?_⟩, by simp [rowD]⟩
    have il := (List.getElem?_eq_some_iff.mp hv).1
    obtain ⟨j, hj2, mn⟩ := h2 i v hv
    rw [hSP, List.getElem?_map, List.getElem?_range (by omega)] at hj2
    simp at hj2
    subst hj2
    rw [(hj i (by omega)).2]
    exact mn
end Prog

/-! K51p: rows shown and compared. -/
namespace Prog
open PySem PySem.Spec PyProof.Rows L2 PD
theorem ahP_part {ks : List Cr} {dx p : Rat} (hd : 0 < dx) : ahP ks dx (p * dx) = -((-(freeV ks * p)).floor) := by
  have e1 : freeV ks * (p * dx) / dx = freeV ks * p := by
    have : dx ≠ 0 := by grind
    grind
  unfold ahP; rw [e1]
theorem eqvAll_frs : ∀ a b : List Rat, PyData.eqvAll (a.map fr) (b.map fr) = decide (a = b)
  | [], [] => rfl
  | [], y :: b => by simp [PyData.eqvAll]
  | x :: a, [] => by simp [PyData.eqvAll]
  | x :: a, y :: b => by
    rw [List.map_cons, List.map_cons]
    show (PyData.eqv (fr x) (fr y) && PyData.eqvAll (a.map fr) (b.map fr)) = _
    rw [eqv_fr, eqvAll_frs a b]
    by_cases h1 : x = y <;> by_cases h2 : a = b <;> simp [h1, h2]
theorem eqOk_row (a b : List Rat) : eqOk (rowD a) (rowD b) = true := by
  have d : ∀ l : List Rat, PyData.depthAll (l.map fr) ≤ 1 := fun l => depthAll_of fun x mx => by
    obtain ⟨q, _, rfl⟩ := List.mem_map.mp mx
    simp [fr, PyData.depth, PyData.depthAll]
  have da := d a
  unfold eqOk rowD
  simp only [PyData.canLay0, canLay_frs, Bool.true_and, decide_eq_true_eq, PyData.depth]
  exact decide_eq_true (Nat.le_trans (Nat.min_le_left _ _) (by omega))
theorem eqP_row (a b : List Rat) : eqP (rowD a) (rowD b) = some (.bool (decide (a = b))) := by
  unfold eqP
  rw [if_pos (eqOk_row a b)]
  unfold rowD
  simp only [PyData.eqv, eqvAll_frs]
theorem neP_row (a b : List Rat) : neP (rowD a) (rowD b) = some (.bool (!decide (a = b))) := by
  unfold neP
  rw [if_pos (eqOk_row a b)]
  unfold rowD
  simp only [PyData.eqv, eqvAll_frs]
theorem shw_rowS {n : Nat} {h : List Rat} (hs : ∀ v ∈ h, Sz n v) (hn : n < 1000) (hl : h.length ≤ 40) : Shw 2 (40 * (2 * n + 13) + 3) (rowD h) := by
  have s : Shw 2 ((h.map fr).length * (2 * n + 11 + 2) + 3) (rowD h) := shw_tuple fun x mx => by
    obtain ⟨v, mv, rfl⟩ := List.mem_map.mp mx
    exact shw_fr (hs v mv) (by omega)
  refine s.mono (by omega) ?_
  rw [List.length_map]
  have : h.length * (2 * n + 11 + 2) ≤ 40 * (2 * n + 11 + 2) := Nat.mul_le_mul_right _ hl
  omega
theorem repr2 {x y : PyData} {D L : Nat} (hx : Shw D L x) (hy : Shw D L y) (hd : D < 60) (hl : L ≤ 49000) : ∃ z, reprP [.list [x, y]] = some (.str z) ∧ neP (.str z) (.str z) = some (.bool false) := by
  have s : Shw (D + 1) (2 * (L + 2) + 2) (.list [x, y]) := shw_list (xs := [x, y]) fun w mw => by
    simp at mw
    rcases mw with rfl | rfl
    · exact hx
    · exact hy
  exact ⟨_, repr_ok s (by omega) (by omega), neP_str s⟩
theorem repr1 {n : Nat} {h : List Rat} (hs : ∀ v ∈ h, Sz n v) (hn : n < 1000) (hl : h.length ≤ 40) : ∃ z, reprP [rowD h] = some (.str z) ∧ neP (.str z) (.str z) = some (.bool false) ∧ eqP (.str z) (.str z) = some (.bool true) := by
  have s := shw_rowS hs hn hl
  exact ⟨_, repr_ok s (by omega) (by omega), neP_str s, eqP_str s⟩
end Prog

/-! C24: the law's own look at rows (k52; over C23, C10). -/
namespace Prog
open PySem PySem.Spec PyProof.Rows L2 PD
theorem r_law_is_row {n m : Nat} (k : Nat) {h : List Rat} {f dx : Rat} (zf : Sz n f) (zd : Sz 3 dx) (l2 : 2 ≤ h.length) (l40 : h.length ≤ 40) (hs : ∀ v ∈ h, Sz m v) (hm : m < 1000) (hn : n < 1000) (fall : ∀ i a b, h[i]? = some a → h[i + 1]? = some b → b ≤ a ∧ a - b ≤ f * dx) (S : Sto) : run T (k + 3) "_law_is_row" [.d (rowD h), .d (fr f), .d (fr dx)] S = some (.d (.bool true), S) := by
  obtain ⟨R, hR⟩ : ∃ R, R = run T (k + 2) := ⟨_, rfl⟩
  obtain ⟨xa, hxa⟩ : ∃ x, x = h.map fr := ⟨_, rfl⟩
  have la : xa.length = h.length := by rw [hxa]; simp
  have ra : rowD h = .tuple xa := by rw [hxa]; rfl
  have i1 : ¬ ((h.length : Int) < 2) := by omega
  have i2 : ¬ ((40 : Int) < (h.length : Int)) := by omega
  have hl : ∀ ρ, ρ = [some (.d (.tuple xa)), some (.d (fr f)), some (.d (fr dx)), none, none, none] → lcN (nameG 5) (notB (valB (appE (callF (c_L_is_fraction R)) (consL (varE 5) nilL)))) (varE 5) ρ xa S = some ([], S) := fun ρ hρ => by
    subst hρ
    rw [hxa]
    refine lcN_none fr (fun v => [some (.d (.tuple (h.map fr))), some (.d (fr f)), some (.d (fr dx)), none, none, some (.d (fr v))]) h (fun v mv => by simp) fun v mv => ?_
    have e := r_law_is_fraction k (hs v mv) (by omega) S
    rw [← hR] at e
    simp [e]
  obtain ⟨cn, hcn⟩ : ∃ cn, cn = ((h.length : Int) - 1).toNat := ⟨_, rfl⟩
  have r2 : ∀ (ρ : Rho) (S : Sto), ρ[0]? = some (some (.d (.tuple xa))) → range2I (constE (.int 1)) (appE (pfN lenP) (consL (varE 0) nilL)) ρ S = some (rangeD 1 cn, S) := fun ρ S h0 => by
    rw [x_range2 (i := 1) (j := (h.length : Int)) (S1 := S) (S2 := S) (by simp) (by simp [h0, la]) (okR_int (by decide)) (okR_int (by omega)), ← hcn]
  have ll : h.length ≤ 100000 := by omega
  have fb := r_by (ok_nd zf) (ok_nd zd) (by omega) (k + 1) S
  have ob := ok_by (ok_nd zf) (ok_nd zd)
  have vb : val (byP2 (nd f) (nd dx)) = f * dx := by rw [val_by, val_nd, val_nd]
  simp only [← fr_nd] at fb
  rw [← hR] at fb
  generalize byP2 (nd f) (nd dx) = B at *
  rw [u_L_is_row, x_run, ra]
  refine (?_ : (fun o => o = some (W.d (.bool true), S)) _)
  generalize hQ : (fun o => o = some (W.d (PyData.bool true), S)) = Q
  simp only [← hR]
  simp [b_L_is_row, startR, la, i1, i2, x_lc, wipeR, hl, ll, r2, frzE, thaw]
  try simp only [Option.bind_assoc]
  rw [show rangeD 1 cn = (List.range cn).map fun i => PyData.int (1 + (i : Nat)) from rfl]
  refine forN_bind Q (fun i : Nat => PyData.int (1 + (i : Nat))) (fun s : Option W × Option W => [some (.d (.tuple xa)), some (.d (fr f)), some (.d (fr dx)), s.1, s.2, none]) (fun _ => S)
    (fun l s => ∀ i ∈ l, i + 1 < h.length)
    (fun fl ρ S' => fl = .nx ∧ S' = S)
    (List.range cn) (none, none) (fun i mi => by have := List.mem_range.mp mi; omega) rfl rfl ?_ ?_ ?_
  · rintro s _
    exact ⟨rfl, rfl⟩
  · rintro i l ⟨w3, w4⟩ hi
    have hi1 := hi i List.mem_cons_self
    have g1 : h[i]? = some (h[i]'(by omega)) := List.getElem?_eq_getElem (by omega)
    have g2 : h[i + 1]? = some h[i + 1] := List.getElem?_eq_getElem hi1
    obtain ⟨x, hx⟩ : ∃ x, x = h[i]'(by omega) := ⟨_, rfl⟩
    obtain ⟨y, hy⟩ : ∃ y, y = h[i + 1] := ⟨_, rfl⟩
    rw [← hx] at g1
    rw [← hy] at g2
    have zx := hs x (List.mem_of_getElem? g1)
    have zy := hs y (List.mem_of_getElem? g2)
    obtain ⟨le1, le2⟩ := fall i x y g1 g2
    have f1 := r_gap (ok_nd zx) (ok_nd zy) (by omega) (k + 1) S
    have og := ok_gap (ok_nd zx) (ok_nd zy)
    have vg := val_gap (ok_nd zx) (ok_nd zy)
    simp only [← fr_nd, val_nd] at f1 vg
    generalize gapP2 (nd x) (nd y) = G at *
    have ng : ¬ G.1 < 0 := fun z => by have := (val_neg og).mpr z; rw [vg] at this; grind
    have f2 := r_gap ob og (by omega) (k + 1) S
    have o2 := ok_gap ob og
    have v2 := val_gap ob og
    rw [vb, vg] at v2
    generalize gapP2 B G = H at *
    have nh : ¬ H.1 < 0 := fun z => by have := (val_neg o2).mpr z; rw [v2] at this; grind
    have t1 : atI xa (i : Int) = some (fr x) := by rw [hxa]; exact at_row g1
    have t2 : atI xa (1 + (i : Int)) = some (fr y) := by
      rw [hxa, show 1 + (i : Int) = ((i + 1 : Nat) : Int) by omega]; exact at_row g2
    have e3 : 1 + (i : Int) - 1 = (i : Int) := by omega
    rw [← hR] at f1 f2
    refine .nx' (some (.d (.int (1 + (i : Nat)))), some (.d (pr G))) (fun j mj => hi j (List.mem_cons_of_mem _ mj)) ?_
    simp [t1, t2, e3, f1, ng, fb, f2, nh]
  · rintro fl ρ S' ⟨rfl, rfl⟩
    rw [← hQ]
    simp
end Prog

/-! C25: the law's last look (k52; over C24, C22, C15, C17). -/
namespace Prog
open PySem PySem.Spec PyProof.Rows L2 PD
theorem halfD_in {n : Nat} {ks : List Cr} (h : Kd n ks) {pr : Cr × Cr} (m : pr ∈ prs ks) : pr.1.1 < halfD pr ∧ halfD pr < pr.2.1 ∧ 0 ≤ halfD pr ∧ halfD pr ≤ fullD ks ∧ Sz (2 * n + 3) (halfD pr) := by
  obtain ⟨m1, m2⟩ := prs_mem m
  have a := h.asc _ m
  have n1 := h.nonneg _ m1
  have f2 := h.le_full _ m2
  have z := sz_mul sz_half (sz_add (h.size _ m1).1 (h.size _ m2).1)
  refine ⟨?_, ?_, ?_, ?_, z.mono (by omega)⟩ <;> unfold halfD <;> grind
theorem even_fall {dx d f : Rat} {many : Nat} (hd : 0 < dx) (d0 : 0 ≤ d) (df : d ≤ f) : ∀ i a b, (evenR dx d many)[i]? = some a → (evenR dx d many)[i + 1]? = some b → b ≤ a ∧ a - b ≤ f * dx := by
  intro i a b ha hb
  have ea := even_get ha
  have eb := even_get hb
  have c1 : ((i + 1 : Nat) : Rat) = (i : Rat) + 1 := by rw [Rat.natCast_add]; rfl
  rw [c1] at eb
  have w := Rat.mul_nonneg d0 (by grind : 0 ≤ dx)
  have u := mul_le_right df (by grind : 0 ≤ dx)
  constructor <;> grind
theorem even_sz {dx d : Rat} {p q many : Nat} (zd : Sz p dx) (zq : Sz q d) (hm : many ≤ 40) : ∀ v ∈ evenR dx d many, Sz (q + p + 9) v := by
  intro v mv
  unfold evenR at mv
  obtain ⟨j, mj, rfl⟩ := List.mem_map.mp mv
  have hj := List.mem_range.mp mj
  have z := sz_mul (sz_nat (n := 6) (j := j) (by omega) (by omega)) (sz_mul zq zd)
  have e : -((j : Rat) * (d * dx)) = 0 - (j : Rat) * (d * dx) := by grind
  rw [e]
  exact (sz_sub sz0 z).mono (by omega)
theorem no_place {ks : List Cr} {pt dx s : Rat} (hd : 0 < dx) (hden : (s * pt).den ≠ 1) (J j : Nat) : (J : Rat) * dx - (j : Rat) * dx ≠ s * (pt * dx) := by
  intro e
  apply hden
  have dn : dx ≠ 0 := by grind
  have e2 : (((J : Int) - (j : Int) : Int) : Rat) * dx = (s * pt) * dx := by
    rw [Rat.intCast_sub, Rat.intCast_natCast, Rat.intCast_natCast]; grind
  have e3 : (((J : Int) - (j : Int) : Int) : Rat) = s * pt := by
    have h3 : (((J : Int) - (j : Int) : Int) : Rat) * dx / dx = s * pt * dx / dx := by rw [e2]
    rw [show (((J : Int) - (j : Int) : Int) : Rat) * dx / dx = (((J : Int) - (j : Int) : Int) : Rat) by grind, show s * pt * dx / dx = s * pt by grind] at h3
    exact h3
  rw [← e3]; exact Rat.den_intCast _
section
variable (k : Nat) {ks : List Cr} (hk : KS 80 15 ks) {dx p : Rat} (zd : Sz 3 dx) (hd : 0 < dx) (zp : Sz 8 p) (hp : 0 < p) (M : Int) (hM : M = ahP ks dx (p * dx) + beP ks dx (p * dx) + 1) (w0 w8 : Option W) (S : Sto)
include hk zd hd zp hp hM
theorem r_e7a (hf : fitP ks p = true) : ∃ ρ' S', b_L_right_c7 (run T (k + 13)) [w0, some (.d (kd ks)), some (.d (fr p)), some (.d (.int M)), none, some (.d (ownT ks)), some (.d (fr dx)), some (.d (fr (p * dx))), w8, some (.d .none), some (.d .none)] S = some (.rt (.d (.bool true)), ρ', S') := by
  have e1 := r_law_fit (k + 10) hk zp (by omega) S
  rw [hf] at e1
  obtain ⟨R, hR⟩ : ∃ R, R = run T (k + 13) := ⟨_, rfl⟩
  simp only [Nat.add_assoc, Nat.reduceAdd, ← hR] at e1 ⊢
  refine (?_ : (fun o => ∃ ρ' S', o = some (Fl.rt (W.d (PyData.bool true)), ρ', S')) _)
  generalize hP : (fun o => ∃ ρ' S', o = some (Fl.rt (W.d (PyData.bool true)), ρ', S')) = P
  simp [b_L_right_c7, e1, isNone]
  rw [← hP]
  exact ⟨_, _, rfl⟩
theorem r_e7c (hf : fitP ks p = false) (hm : 40 < M) : ∃ ρ' S', b_L_right_c7 (run T (k + 13)) [w0, some (.d (kd ks)), some (.d (fr p)), some (.d (.int M)), none, some (.d (ownT ks)), some (.d (fr dx)), some (.d (fr (p * dx))), w8, some (.d .none), some (.d (.tuple [.int M, .bool true]))] S = some (.rt (.d (.bool true)), ρ', S') := by
  have e1 := r_law_fit (k + 10) hk zp (by omega) S
  rw [hf] at e1
  have zt : Sz 11 (p * dx) := sz_mul zp zd
  have bnd := ahP_lt2 hk zd hd zt
  have lM : Lt2 40 M := by
    have := (bnd.1.add bnd.2).add (show Lt2 1 (1 : Int) by unfold Lt2; decide)
    rw [← hM] at this
    exact this.mono (by omega)
  have sh : Shw 1 (2 * (42 + 2) + 3) (.tuple [.int M, .bool true]) := shw_tuple (xs := [.int M, .bool true]) fun w mw => by
    simp at mw
    rcases mw with rfl | rfl
    · exact shw_int lM (by omega)
    · exact (shw_bool true).mono (by omega) (by omega)
  have rp := repr_ok sh (by omega) (by omega)
  have ep := eqP_str sh
  obtain ⟨R, hR⟩ : ∃ R, R = run T (k + 13) := ⟨_, rfl⟩
  simp only [Nat.add_assoc, Nat.reduceAdd, ← hR] at e1 ⊢
  refine (?_ : (fun o => ∃ ρ' S', o = some (Fl.rt (W.d (PyData.bool true)), ρ', S')) _)
  generalize hP : (fun o => ∃ ρ' S', o = some (Fl.rt (W.d (PyData.bool true)), ρ', S')) = P
  simp [b_L_right_c7, e1, hm, rp, ep, frzE, thaw]
  rw [← hP]
  exact ⟨_, _, rfl⟩
theorem r_e7b (hf : fitP ks p = false) (hm : M ≤ 40) {pr : Cr × Cr} (mp : pr ∈ prs ks) (hden : (slope pr.1 pr.2 * p).den ≠ 1) : ∃ ρ' S', b_L_right_c7 (run T (k + 13)) [w0, some (.d (kd ks)), some (.d (fr p)), some (.d (.int M)), none, some (.d (ownT ks)), some (.d (fr dx)), some (.d (fr (p * dx))), w8, some (.d (rowD (evenR dx (halfD pr) M.toNat))), some (.d .none)] S = some (.rt (.d (.bool true)), ρ', S') := by
  have e1 := r_law_fit (k + 10) hk zp (by omega) S
  rw [hf] at e1
  have zt : Sz 11 (p * dx) := sz_mul zp zd
  have ht : 0 < p * dx := Rat.mul_pos hp hd
  have a1 := ahP_pos hk.kd hd ht
  have b1 := beP_pos hk.kd hd ht
  obtain ⟨many, hmany⟩ := Int.eq_ofNat_of_zero_le (show 0 ≤ M by omega)
  obtain ⟨J, hJ⟩ := Int.eq_ofNat_of_zero_le (show 0 ≤ ahP ks dx (p * dx) by omega)
  obtain ⟨B, hB⟩ := Int.eq_ofNat_of_zero_le (show 0 ≤ beP ks dx (p * dx) by omega)
  have hMn : many = J + B + 1 := by omega
  rw [show M.toNat = many by omega]
  obtain ⟨h1, h2, h3, h4, zh⟩ := halfD_in hk.kd mp
  obtain ⟨d, hd'⟩ : ∃ d, d = halfD pr := ⟨_, rfl⟩
  rw [← hd'] at h1 h2 h3 h4 zh ⊢
  have fall := even_fall (many := many) hd h3 h4
  have sz := even_sz zd zh (show many ≤ 40 by omega)
  have len := even_len dx d many
  have ev := fun {J u w} => even_unlike hk.kd mp (many := many) (J := J) (u := u) (w := w) hd ht h1 h2 (by omega)
  obtain ⟨h, hh⟩ : ∃ h, h = evenR dx d many := ⟨_, rfl⟩
  rw [← hh] at fall sz len ⊢
  simp only [← hh] at ev
  have l2 : 2 ≤ h.length := by omega
  have l40 : h.length ≤ 40 := by omega
  have e2 := r_law_is_row (k + 10) hk.kd.fullsz zd l2 l40 sz (by omega) (by omega) fall S
  obtain ⟨lo, hi, hlo, hhi, e3⟩ := r_spots (k + 11) hk (by omega) (zp.mono (by omega)) l40 hd hp S
  obtain ⟨vs, st, e4⟩ := r_law_cells (k + 9) hk (by omega) (by omega) zd hd (by omega) zt ht l2 l40 (fun v mv => (sz v mv).mono (by omega)) S
  have rg : (.list (rangeD lo (hi - lo).toNat) : PyData) = .list (([J] : List Nat).map fun j => PyData.int (j : Nat)) := by
    have : (hi - lo).toNat = 1 := by omega
    rw [this]
    unfold rangeD
    rw [hlo, hJ]
    simp
  rw [rg] at e3
  obtain ⟨us, ul, uv, e5⟩ := r_law_truth (k + 9) hk (by omega) (by omega) zd hd ((ok_nd zt).mono (by omega)) (by rw [val_nd]; grind) l2 l40 (fun v mv => (sz v mv).mono (by omega)) [J] (by simp) (fun j mj => by simp at mj; omega) S
  rw [val_nd] at uv
  rw [← fr_nd] at e5
  -- the two differ
  have ll : lenS ks dx (p * dx) h.length = 1 := by unfold lenS; omega
  have hv1 : vs.length = 1 := by rw [st.len, ll]
  have hu1 : us.length = 1 := by rw [ul]; rfl
  obtain ⟨v, hv⟩ : ∃ v, vs[0]? = some v := ⟨_, List.getElem?_eq_getElem (by omega)⟩
  obtain ⟨u, hu⟩ : ∃ u, us[0]? = some u := ⟨_, List.getElem?_eq_getElem (by omega)⟩
  have cv := st.val 0 v hv
  obtain ⟨j, hj, tv⟩ := uv 0 u hu
  simp at hj
  subst hj
  have eJ : ((ahP ks dx (p * dx) : Rat) + ((0 : Nat) : Rat)) * dx = (J : Rat) * dx := by
    rw [hJ]
    have z : ((0 : Nat) : Rat) = 0 := rfl
    have c : (((J : Nat) : Int) : Rat) = (J : Rat) := rfl
    rw [z, c]; grind
  rw [eJ] at cv
  obtain ⟨r1, r2⟩ := speeds_range hk.kd (slope pr.1 pr.2) (List.mem_map.mpr ⟨_, mp, rfl⟩)
  have ag := ahP_ge (ks := ks) (t := p * dx) hd
  have bg := beP_ge (ks := ks) (t := p * dx) hd
  rw [hJ] at ag
  rw [hB] at bg
  have cJ : (((J : Nat) : Int) : Rat) = (J : Rat) := rfl
  have cB : (((B : Nat) : Int) : Rat) = (B : Rat) := rfl
  rw [cJ] at ag
  rw [cB] at bg
  have s1 := mul_le_right r1 (by grind : 0 ≤ p * dx)
  have s2 := mul_le_right r2 (by grind : 0 ≤ p * dx)
  have cm : (many : Rat) = (J : Rat) + (B : Rat) + 1 := by rw [hMn, Rat.natCast_add, Rat.natCast_add]; rfl
  have lt : u < v := ev (by grind) (by rw [cm]; grind) (fun j => no_place (ks := ks) hd hden J j) cv.1 tv
  have ne : ¬ vs = us := fun e => by
    rw [e, hu] at hv
    cases hv
    grind
  have np := neP_row vs us
  simp [ne] at np
  have hlen : lenP [rowD h] = some (.int (h.length : Int)) := by simp [rowD]
  obtain ⟨fq, fa⟩ := full_at hk.kd
  have fb : ixP (kd ks) (.int (-1)) = some (co (fullD ks, fq)) := by unfold kd; exact fa
  have fc : ixP (co (fullD ks, fq)) (.int 0) = some (fr (fullD ks)) := by simp [co]
  have hm2 : ¬ 40 < M := by omega
  have hnn : isNone (.d (rowD h)) = false := rfl
  obtain ⟨HR, hHR⟩ : ∃ HR, HR = rowD h := ⟨_, rfl⟩
  rw [← hHR] at hlen e2 e4 e5 hnn ⊢
  obtain ⟨R, hR⟩ : ∃ R, R = run T (k + 13) := ⟨_, rfl⟩
  simp only [List.map_cons, List.map_nil] at e3 e5
  simp only [Nat.add_assoc, Nat.reduceAdd, ← hR] at e1 e2 e3 e4 e5 ⊢
  refine (?_ : (fun o => ∃ ρ' S', o = some (Fl.rt (W.d (PyData.bool true)), ρ', S')) _)
  generalize hP : (fun o => ∃ ρ' S', o = some (Fl.rt (W.d (PyData.bool true)), ρ', S')) = P
  simp [b_L_right_c7, e1, hm2, hnn, fb, fc, e2, hlen, e3, e4, e5, np, isNone]
  rw [← hP]
  exact ⟨_, _, rfl⟩
end
end Prog

/-! C26: the law's right side (k52; over C25). -/
namespace Prog
open PySem PySem.Spec PyProof.Rows L2 PD
theorem seq_nx {s s' : CS} {ρ ρ1 : Rho} {S S1 : Sto} (h : s ρ S = some (.nx, ρ1, S1)) : seqS s s' ρ S = s' ρ1 S1 := by
  rw [x_seq, h]; rfl
theorem beP_part {ks : List Cr} {dx p : Rat} (hd : 0 < dx) : beP ks dx (p * dx) = -((backV ks * p).floor) := by
  have e1 : backV ks * (p * dx) / dx = backV ks * p := by
    have : dx ≠ 0 := by grind
    grind
  unfold beP; rw [e1]
def ngP (q : Rat) : P2 := (0 - q.num, (q.den : Int))
theorem ok_ng {n : Nat} {q : Rat} (z : Sz n q) : Ok n (ngP q) := ⟨by show (0 : Int) < (q.den : Int); have := q.den_pos; omega, by show Lt2 n (0 - q.num); rw [Int.zero_sub]; exact z.1.neg, z.2⟩
theorem val_ng (q : Rat) : val (ngP q) = -q := by
  show Rat.divInt (0 - q.num) (q.den : Int) = -q
  have e1 := Rat.num_divInt_den q
  rw [Rat.divInt_eq_div] at e1 ⊢
  rw [Int.zero_sub, Rat.intCast_neg]
  have : -(q.num : Rat) / ((q.den : Int) : Rat) = -((q.num : Rat) / ((q.den : Int) : Rat)) := by grind
  rw [this, e1]
theorem r_e4 {m : Nat} (k : Nat) {t : Dice} (ht : Dok m t) (hm : m < 900000) {ks : List Cr} (hk : KS 80 15 ks) {dx p : Rat} (zd : Sz 3 dx) (hd : 0 < dx) (zp : Sz 8 p) (hp : 0 < p) (S0 : Sto) :
    ∃ ρ' S', b_L_right_c4 (run T (k + 13)) [some (.m S0.length), some (.d (kd ks)), some (.d (fr p)), none, none, some (.d (ownT ks)), some (.d (fr dx)), none, none, none, none] (S0 ++ [cellD t]) = some (.rt (.d (.bool true)), ρ', S') := by
  have f1 := r_by (ok_nd zp) (ok_nd zd) (by omega) (k + 12) (S0 ++ [cellD t])
  have f2 := r_even (ok_by (ok_nd zp) (ok_nd zd)) (by omega) (k + 11) (S0 ++ [cellD t])
  rw [val_by, val_nd, val_nd] at f2
  simp only [← fr_nd] at f1
  obtain ⟨a0, a1, mf, mb⟩ := spd_at0 hk.kd fr
  have zf := hk.spd _ mf
  have zb := hk.spd _ mb
  have f3 := r_by (ok_nd zf) (ok_nd zp) (by omega) (k + 12) (S0 ++ [cellD t])
  have o3 := ok_by (ok_nd zf) (ok_nd zp)
  have v3 : val (byP2 (nd (freeV ks)) (nd p)) = freeV ks * p := by rw [val_by, val_nd, val_nd]
  have f4 := r_ceil (k + 12) o3 (by omega) (S0 ++ [cellD t])
  have f5 := r_by (ok_ng zb) (ok_nd zp) (by omega) (k + 12) (S0 ++ [cellD t])
  have o5 := ok_by (ok_ng zb) (ok_nd zp)
  have v5 : val (byP2 (ngP (backV ks)) (nd p)) = -backV ks * p := by rw [val_by, val_ng, val_nd]
  have f6 := r_ceil (k + 12) o5 (by omega) (S0 ++ [cellD t])
  rw [v3, ← ahP_part hd] at f4
  rw [v5, show -(-backV ks * p) = backV ks * p by grind, ← beP_part hd] at f6
  simp only [← fr_nd] at f3 f5
  generalize byP2 (nd (freeV ks)) (nd p) = F3 at *
  generalize byP2 (ngP (backV ks)) (nd p) = F5 at *
  generalize byP2 (nd p) (nd dx) = F1 at *
  have zt : Sz 11 (p * dx) := sz_mul zp zd
  obtain ⟨x, t1, x0, x1, ht1, f7⟩ := r_tap (k + 12) ht (by omega) 2 (by omega) (by omega) S0 []
  obtain ⟨M, hM⟩ : ∃ M, M = ahP ks dx (p * dx) + beP ks dx (p * dx) + 1 := ⟨_, rfl⟩
  have told := r_told52 k hk (by omega) zd hd hp zt (by omega) (by omega) (x == 0) (S0 ++ [cellD t1]) M hM
  have own1 : ixP (ownT ks) (.int 1) = some (.list ((speeds ks).map fr)) := by simp [ownT]
  have b0 : ixP (fr (backV ks)) (.int 0) = some (.int (backV ks).num) := by simp
  have b1 : ixP (fr (backV ks)) (.int 1) = some (.int (backV ks).den) := by simp
  have png : (.tuple [.int (0 - (backV ks).num), .int ((backV ks).den : Int)] : PyData) = pr (ngP (backV ks)) := rfl
  have s0 : ∀ told given w, b_L_right_c7 (run T (k + 13)) [some (.m S0.length), some (.d (kd ks)), some (.d (fr p)), some (.d (.int M)), none, some (.d (ownT ks)), some (.d (fr dx)), some (.d (fr (p * dx))), some (.d (fr (backV ks))), some (.d told), some (.d given)] (S0 ++ [cellD t1]) = w →
      run T (k + 13) "_law_told" [.d (kd ks), .d (fr dx), .d (fr (p * dx)), .d (.bool (x == 0))] (S0 ++ [cellD t1]) = some (.d (.tuple [told, given]), S0 ++ [cellD t1]) → b_L_right_c4 (run T (k + 13)) [some (.m S0.length), some (.d (kd ks)), some (.d (fr p)), none, none, some (.d (ownT ks)), some (.d (fr dx)), none, none, none, none] (S0 ++ [cellD t]) = w := by
    intro told given w hw e
    obtain ⟨R, hR⟩ : ∃ R, R = run T (k + 13) := ⟨_, rfl⟩
    simp only [Nat.add_assoc, Nat.reduceAdd, ← hR] at f1 f2 f3 f4 f5 f6 f7 e hw ⊢
    unfold b_L_right_c4
    refine (seq_nx (ρ1 := [some (.m S0.length), some (.d (kd ks)), some (.d (fr p)), none, none, some (.d (ownT ks)), some (.d (fr dx)), some (.d (fr (p * dx))), some (.d (fr (backV ks))), none, none]) (S1 := S0 ++ [cellD t]) ?_).trans ?_
    · simp [f1, f2, own1, a1]
    refine (seq_nx (ρ1 := [some (.m S0.length), some (.d (kd ks)), some (.d (fr p)), some (.d (.int M)), none, some (.d (ownT ks)), some (.d (fr dx)), some (.d (fr (p * dx))), some (.d (fr (backV ks))), none, none]) (S1 := S0 ++ [cellD t]) ?_).trans ?_
    · rw [hM]
      simp only [Int.zero_sub] at png
      simp [own1, a0, f3, f4, b0, b1, png, f5, f6]
    refine (seq_nx (ρ1 := [some (.m S0.length), some (.d (kd ks)), some (.d (fr p)), some (.d (.int M)), none, some (.d (ownT ks)), some (.d (fr dx)), some (.d (fr (p * dx))), some (.d (fr (backV ks))), some (.d told), some (.d given)]) (S1 := S0 ++ [cellD t1]) ?_).trans ?_
    · simp [f7, e]
    exact hw
  rcases told with ⟨hf, e⟩ | ⟨hf, hm2, pr', mp, hden, e⟩ | ⟨hf, hm2, e⟩
  · obtain ⟨ρ', S', h⟩ := r_e7a k hk zd hd zp hp M hM (some (.m S0.length)) (some (.d (fr (backV ks)))) (S0 ++ [cellD t1]) hf
    exact ⟨ρ', S', s0 _ _ _ h e⟩
  · obtain ⟨ρ', S', h⟩ := r_e7b k hk zd hd zp hp M hM (some (.m S0.length)) (some (.d (fr (backV ks)))) (S0 ++ [cellD t1]) hf hm2 mp hden
    exact ⟨ρ', S', s0 _ _ _ h e⟩
  · obtain ⟨ρ', S', h⟩ := r_e7c k hk zd hd zp hp M hM (some (.m S0.length)) (some (.d (fr (backV ks)))) (S0 ++ [cellD t1]) hf hm2
    exact ⟨ρ', S', s0 _ _ _ h e⟩
end Prog

/-! M8c: the cask. -/
namespace Prog
open PySem PySem.Spec PyProof.Rows L2 PD
theorem r_cask (k : Nat) (ns : List Int) (turn : Nat) (ht : turn < 1000) (S : Sto) : ∃ t, Dok 0 t ∧ run T (k + 1) "_law_cask" [.d (.list (ns.map PyData.int)), .d (.int turn)] S = some (.m S.length, S ++ [cellD t]) := by
  obtain ⟨own, hown⟩ : ∃ own : Int, ∀ ρ : Rho, ρ[0]? = some (some (.d (.list (ns.map PyData.int)))) → ρ[1]? = some (some (.d (.int turn))) → ifE (valB (binE (pf2 ltP) (varE 1) (appE (pfN lenP) (consL (varE 0) nilL)))) (appE (pfN intP) (consL (binE (pf2 ixP) (varE 0) (varE 1)) nilL)) (binE (pf2 addP) (binE (pf2 mulP) (constE (.int 31)) (varE 1)) (constE (.int 7))) ρ S = some (.d (.int own), S) := by
    by_cases h : turn < ns.length
    · refine ⟨ns[turn], fun ρ h0 h1 => ?_⟩
      have a : atI (ns.map PyData.int) (turn : Int) = some (.int ns[turn]) := atI_nat (by rw [List.getElem?_map, List.getElem?_eq_getElem h]; rfl)
      simp [h0, h1, h, a]
    · refine ⟨31 * turn + 7, fun ρ h0 h1 => ?_⟩
      have : mulOk 31 turn = true := mulOk_small (by omega) (by omega)
      simp [h0, h1, h, this]
  have ct := cut_to (ns.map PyData.int) 9
  rw [← List.map_take] at ct
  have ct' : cutP (ns.map PyData.int) none (some 9) = (ns.take 9).map PyData.int := ct
  have k0 : mulOk 6007 turn = true := mulOk_small (by omega) (by omega)
  rw [u_L_cask, x_run]
  refine (?_ : (fun o => ∃ t, Dok 0 t ∧ o = some (W.m S.length, S ++ [cellD t])) _)
  generalize hP : (fun o => ∃ t, Dok 0 t ∧ o = some (W.m S.length, S ++ [cellD t])) = P
  unfold b_L_cask
  rw [x_seq, x_asg, hown _ rfl rfl]
  simp [startR, Option.bind_assoc, ct', k0]
  rw [← List.map_take]
  refine forN_bind P PyData.int (fun s : Int × Option W => [some (.d (.list (ns.map PyData.int))), some (.d (.int turn)), some (.d (.int own)), some (.d (.int s.1)), s.2, none]) (fun _ => S)
    (fun l s => 0 ≤ s.1 ∧ s.1 < 2 ^ 40)
    (fun fl ρ S' => ∃ (a : Int) (w : Option W), 0 ≤ a ∧ a < 2 ^ 40 ∧ fl = .nx ∧ S' = S ∧ ρ = [some (.d (.list (ns.map PyData.int))), some (.d (.int turn)), some (.d (.int own)), some (.d (.int a)), w, none]) (ns.take 9) (77017 + 6007 * turn, none) ⟨by simp only; omega, by simp only; omega⟩ rfl rfl ?_ ?_ ?_
  · rintro ⟨a, w⟩ ⟨h1, h2⟩
    exact ⟨a, w, h1, h2, rfl, rfl, rfl⟩
  · rintro z l ⟨a, w⟩ ⟨h1, h2⟩
    simp only at h1 h2
    have k1 : mulOk a 60013 = true := mulOk_small (by omega) (by omega)
    have b := tap_lt (a * 60013 + z.fmod 2147483587 + 19) 2147483629 (by omega)
    refine .nx' ((a * 60013 + z.fmod 2147483587 + 19).fmod 2147483629, some (.d (.int z))) ⟨b.1, by simp only; omega⟩ ?_
    simp [k1]
  · rintro fl ρ S' ⟨a, w, h1, h2, rfl, rfl, rfl⟩
    have b1 := tap_lt own 2147483587 (by omega)
    have k1 : mulOk a 41 = true := mulOk_small (by omega) (by omega)
    have k2 : mulOk (own.fmod 2147483587) 20011 = true := mulOk_small (by omega) (by omega)
    have b2 := tap_lt (a * 41 + own.fmod 2147483587 * 20011) 2147483629 (by omega)
    rw [← hP]
    by_cases n0 : own < 0
    · refine ⟨(-own, (a * 41 + own.fmod 2147483587 * 20011).fmod 2147483629, 0), ⟨b2.1, b2.2, Int.le_refl _, Int.le_refl _⟩, ?_⟩
      simp [k1, k2, n0, cellD, leave]
    · by_cases n1 : (10 : Int) ^ 16 ≤ own
      · refine ⟨(own, (a * 41 + own.fmod 2147483587 * 20011).fmod 2147483629, 0), ⟨b2.1, b2.2, Int.le_refl _, Int.le_refl _⟩, ?_⟩
        simp at n1
        simp [k1, k2, n0, n1, cellD, leave, x_pow]
      · refine ⟨(0, (a * 41 + own.fmod 2147483587 * 20011).fmod 2147483629, 0), ⟨b2.1, b2.2, Int.le_refl _, Int.le_refl _⟩, ?_⟩
        simp at n1
        have n1' : ¬ 10000000000000000 ≤ own := by omega
        simp [k1, k2, n0, n1', cellD, leave, x_pow]
end Prog

/-! M4B: the law's own kinds of cells (three to five corners; over D1, M3d). -/
namespace Prog
open PySem PySem.Spec PyProof.Rows L2 PD
/-- corners so far, with sizes -/
structure AccS (i : Nat) (vs : List Rat) (acc : List Cr) (k q s : Rat) : Prop where
  a : Acc vs acc k q s
  len : vs.length = i
  al : acc.length = i + 1
  szk : Sz (3 * i + 1) k
  szq : Sz (18 * i + 1) q
  szs : Sz (3 * i + 3) s
  size : ∀ c ∈ acc, CSz 80 c
  sp : ∀ v ∈ vs, Sz 15 v
theorem AccS.snoc {i : Nat} {vs : List Rat} {acc : List Cr} {k q s w s' : Rat} (h : AccS i vs acc k q s) (hi : i < 3) (hw : 0 < w) (zw : Sz 2 w) (hq : 0 < q + s * w) (hs : s' < s) (zs : Sz (3 * (i + 1) + 3) s') : AccS (i + 1) (vs ++ [s]) (acc ++ [(k + w, q + s * w)]) (k + w) (q + s * w) s' := by
  have zk : Sz (3 * (i + 1) + 1) (k + w) := (sz_add h.szk zw).mono (by omega)
  have zq : Sz (18 * (i + 1) + 1) (q + s * w) := (sz_add h.szq (sz_mul h.szs zw)).mono (by omega)
  refine ⟨h.a.snoc hw hq hs, by rw [List.length_append, h.len]; rfl, by rw [List.length_append, h.al]; rfl, zk, zq, zs, ?_, ?_⟩
  · intro c m
    rcases List.mem_append.mp m with m | m
    · exact h.size c m
    · rw [List.mem_singleton.mp m]; exact ⟨zk.mono (by omega), zq.mono (by omega)⟩
  · intro v m
    rcases List.mem_append.mp m with m | m
    · exact h.sp v m
    · rw [List.mem_singleton.mp m]; exact h.szs.mono (by omega)
theorem Acc.lower {vs : List Rat} {acc : List Cr} {k q s s' : Rat} (h : Acc vs acc k q s) (hs : s' < s) (hi : vs ≠ []) : Acc vs acc k q s' :=
  ⟨h.spd, h.head, h.last, h.pos, h.asc, h.conc, fun v m => by have := h.low v m; grind, fun e => absurd e hi⟩
theorem AccS.close {i : Nat} {vs : List Rat} {acc : List Cr} {k q s s' : Rat} (h : AccS i vs acc k q s) (hi : 1 ≤ i) (hj : i ≤ 3) (hs : s' < 0) (hl : s' = s ∨ s' < s) (zs : Sz 12 s') : KS 80 15 (acc ++ [(k + q / (-s'), 0)]) := by
  have hne : vs ≠ [] := by intro e; have := h.len; rw [e] at this; simp at this; omega
  have a : Acc vs acc k q s' := by
    rcases hl with rfl | hl
    · exact h.a
    · exact h.a.lower hl hne
  have s0 : s' ≠ 0 := by grind
  have e : k + q / (-s') = k - q / s' := by grind
  rw [e]
  have zf : Sz 80 (k - q / s') := (sz_sub h.szk (sz_div s0 h.szq zs)).mono (by omega)
  obtain ⟨k1, k2⟩ := a.close hne (by have := h.len; omega) hs h.size zf (by omega)
  refine ⟨k1, fun v m => ?_⟩
  rw [k2] at m
  rcases List.mem_append.mp m with m | m
  · exact h.sp v m
  · rw [List.mem_singleton.mp m]; exact zs.mono (by omega)
/-- two throws cut: a small fraction -/
theorem r_cut2 {n : Nat} (k : Nat) {a b : Int} (hb : 0 < b) (ha : a.natAbs < 2 ^ n) (hb2 : b.natAbs < 2 ^ n) (hn : n < 9000) (S : Sto) : run T (k + 1) "_law_cut" [.d (.int a), .d (.int b)] S = some (.d (fr (Rat.divInt a b)), S) ∧ Sz n (Rat.divInt a b) :=
  ⟨r_cut k hb ha hb2 hn S, sz_divInt (by omega) ha hb2⟩
structure KSt where
  t : Dice
  acc : List Cr
  k : Rat
  q : Rat
  s : Rat
  i : Nat
  vs : List Rat
  w2 : Option W
  w7 : Option W
  w8 : Option W
theorem r_law_kind {m : Nat} (k : Nat) {t : Dice} (h : Dok m t) (hm : m < 900000) (S0 : Sto) : ∃ ks t', KS 80 15 ks ∧ Dok (m + 60) t' ∧ run T (k + 3) "_law_kind" [.m S0.length] (S0 ++ [cellD t]) = some (.d (kd ks), S0 ++ [cellD t']) := by
  obtain ⟨d1, t1, d10, d11, h1, e1⟩ := r_tap (k + 1) h (by omega) 4 (by omega) (by omega) S0 []
  obtain ⟨d2, t2, d20, d21, h2, e2⟩ := r_tap (k + 1) h1 (by omega) 2 (by omega) (by omega) S0 []
  obtain ⟨c1, z1⟩ := r_cut2 (n := 3) (k + 1) (a := 1 + d1) (b := 1 + d2) (by omega) (by omega) (by omega) (by omega) (S0 ++ [cellD t2])
  have p1 : 0 < Rat.divInt (1 + d1) (1 + d2) := divInt_pos' (by omega) (by omega)
  generalize Rat.divInt (1 + d1) (1 + d2) = s at c1 z1 p1
  obtain ⟨x, hx, t3, h3, e3⟩ := r_of k h2 (by omega) [.int 1, .int 2, .int 1, .int 2, .int 3] (by simp) (by simp) S0 [some [co (0, 0)]]
  obtain ⟨n, hn1, hn2, rfl⟩ : ∃ n : Nat, 1 ≤ n ∧ n ≤ 3 ∧ x = .int n := by
    simp at hx
    rcases hx with rfl | rfl | rfl | rfl | rfl
    · exact ⟨1, by omega, by omega, rfl⟩
    · exact ⟨2, by omega, by omega, rfl⟩
    · exact ⟨1, by omega, by omega, rfl⟩
    · exact ⟨2, by omega, by omega, rfl⟩
    · exact ⟨3, by omega, by omega, rfl⟩
  have rg := rangeU_nat n (S0 ++ [cellD t3, some [co (0, 0)]]) (by omega)
  simp only [co, fr0] at e3 rg
  rw [u_L_kind, x_run]
  refine (?_ : (fun o => ∃ ks t', KS 80 15 ks ∧ Dok (m + 60) t' ∧ o = some (W.d (kd ks), S0 ++ [cellD t'])) _)
  generalize hP : (fun o => ∃ ks t', KS 80 15 ks ∧ Dok (m + 60) t' ∧ o = some (W.d (kd ks), S0 ++ [cellD t'])) = P
  simp [b_L_kind, startR, Option.bind_assoc, e1, e2, c1, e3, rg]
  have ini : AccS 0 [] [(0, 0)] 0 0 s := ⟨Acc.start p1, rfl, rfl, sz0, sz0, z1, fun c m => by rw [List.mem_singleton.mp m]; exact ⟨sz0.mono (by omega), sz0.mono (by omega)⟩, fun v m => nomatch m⟩
  refine forN_bind P (fun i : Nat => PyData.int (0 + (i : Nat))) (fun s : KSt => [some (.m S0.length), some (.m (S0.length + 1)), s.w2, none, some (.d (fr s.k)), some (.d (fr s.q)), some (.d (fr s.s)), s.w7, s.w8])
    (fun s => S0 ++ [cellD s.t, some (s.acc.map co)]) (fun l s => s.i + l.length = n ∧ AccS s.i s.vs s.acc s.k s.q s.s ∧ Dok (m + 3 + 4 * s.i) s.t)
    (fun fl ρ S => ∃ s : KSt, fl = .nx ∧ ρ = [some (.m S0.length), some (.m (S0.length + 1)), s.w2, none, some (.d (fr s.k)), some (.d (fr s.q)), some (.d (fr s.s)), s.w7, s.w8] ∧ S = S0 ++ [cellD s.t, some (s.acc.map co)] ∧ 1 ≤ s.i ∧ s.i ≤ 3 ∧ AccS s.i s.vs s.acc s.k s.q s.s ∧ Dok (m + 50) s.t)
    (List.range n) ⟨t3, [(0, 0)], 0, 0, s, 0, [], none, none, none⟩ ⟨by simp, ini, h3⟩ rfl rfl ?_ ?_ ?_
  · rintro s ⟨hl, ha, hd⟩
    simp at hl
    exact ⟨s, rfl, rfl, rfl, by omega, by omega, ha, hd.mono (by omega)⟩
  · rintro x l ⟨t, acc, kk, q, s, i, vs, w2, w7, w8⟩ ⟨hl, ha, hd⟩
    simp only at hl ha hd ⊢
    simp only [List.length_cons] at hl
    obtain ⟨d1, t1, d10, d11, h1, e1⟩ := r_tap (k + 1) hd (by omega) 3 (by omega) (by omega) S0 [some (acc.map co)]
    obtain ⟨d2, t2, d20, d21, h2, e2⟩ := r_tap (k + 1) h1 (by omega) 3 (by omega) (by omega) S0 [some (acc.map co)]
    obtain ⟨c1, zw⟩ := r_cut2 (n := 2) (k + 1) (a := 1 + d1) (b := 1 + d2) (by omega) (by omega) (by omega) (by omega) (S0 ++ [cellD t2, some (acc.map co)])
    have w0 : 0 < Rat.divInt (1 + d1) (1 + d2) := divInt_pos' (by omega) (by omega)
    generalize Rat.divInt (1 + d1) (1 + d2) = w at c1 zw w0
    have hi3 : i < 3 := by omega
    have b1 := r_by (ok_nd ha.szs) (ok_nd zw) (by omega) (k + 1) (S0 ++ [cellD t2, some (acc.map co)])
    have okM := ok_sum (ok_nd ha.szq) (ok_by (ok_nd ha.szs) (ok_nd zw))
    have b2 := r_sum (ok_nd ha.szq) (ok_by (ok_nd ha.szs) (ok_nd zw)) (by omega) (k + 1) (S0 ++ [cellD t2, some (acc.map co)])
    have vM : val (sumP2 (nd q) (byP2 (nd s) (nd w))) = q + s * w := by rw [val_sum (ok_nd ha.szq) (ok_by (ok_nd ha.szs) (ok_nd zw)), val_by, val_nd, val_nd, val_nd]
    simp only [← fr_nd] at b1 b2
    generalize byP2 (nd s) (nd w) = M1 at b1 b2 okM vM
    generalize sumP2 (nd q) M1 = M at b2 okM vM
    by_cases hm0 : M.1 ≤ 0
    · have hle := (val_nonpos okM).mpr hm0
      rw [vM] at hle
      have hi : i ≠ 0 := fun e => by
        obtain ⟨q0, s0⟩ := ha.a.beg (List.eq_nil_of_length_eq_zero (by rw [ha.len]; exact e))
        have := Rat.mul_pos s0 w0
        grind
      refine .bk' ⟨⟨t2, acc, kk, q, s, i, vs, some (.d (.int (0 + (x : Nat)))), some (.d (fr w)), some (.d (pr M))⟩, rfl, rfl, rfl, by simp only; omega, by simp only; omega, ha, h2.mono (by omega)⟩ ?_
      simp [e1, e2, c1, b1, b2, hm0]
    · have hgt : 0 < q + s * w := by
        have := val_nonpos okM
        rw [vM] at this
        grind
      have okK := ok_sum (ok_nd ha.szk) (ok_nd zw)
      have b3 := r_sum (ok_nd ha.szk) (ok_nd zw) (by omega) (k + 1) (S0 ++ [cellD t2, some (acc.map co)])
      have b4 := r_even okK (by omega) k (S0 ++ [cellD t2, some (acc.map co)])
      have b5 := r_even okM (by omega) k (S0 ++ [cellD t2, some (acc.map co)])
      rw [val_sum (ok_nd ha.szk) (ok_nd zw), val_nd, val_nd] at b4
      rw [vM] at b5
      simp only [← fr_nd] at b3
      obtain ⟨d3, t3, d30, d31, h3, e3⟩ := r_tap (k + 1) h2 (by omega) 3 (by omega) (by omega) S0 [some (acc.map co ++ [.tuple [fr (kk + w), fr (q + s * w)]])]
      obtain ⟨d4, t4, d40, d41, h4, e4⟩ := r_tap (k + 1) h3 (by omega) 2 (by omega) (by omega) S0 [some (acc.map co ++ [.tuple [fr (kk + w), fr (q + s * w)]])]
      obtain ⟨c2, zv⟩ := r_cut2 (n := 2) (k + 1) (a := 1 + d3) (b := 1 + d4) (by omega) (by omega) (by omega) (by omega) (S0 ++ [cellD t4, some (acc.map co ++ [.tuple [fr (kk + w), fr (q + s * w)]])])
      have v0 : 0 < Rat.divInt (1 + d3) (1 + d4) := divInt_pos' (by omega) (by omega)
      generalize Rat.divInt (1 + d3) (1 + d4) = v at c2 zv v0
      have b6 := r_gap (ok_nd ha.szs) (ok_nd zv) (by omega) (k + 1) (S0 ++ [cellD t4, some (acc.map co ++ [.tuple [fr (kk + w), fr (q + s * w)]])])
      have b7 := r_even (ok_gap (ok_nd ha.szs) (ok_nd zv)) (by omega) k (S0 ++ [cellD t4, some (acc.map co ++ [.tuple [fr (kk + w), fr (q + s * w)]])])
      rw [val_gap (ok_nd ha.szs) (ok_nd zv), val_nd, val_nd] at b7
      simp only [← fr_nd] at b6
      have hal : acc.length < 100000 := by rw [ha.al]; omega
      refine .nx' ⟨t4, acc ++ [(kk + w, q + s * w)], kk + w, q + s * w, s - v, i + 1, vs ++ [s], some (.d (.int (0 + (x : Nat)))), some (.d (fr w)), some (.d (pr M))⟩ ⟨by simp only; omega, ha.snoc (by omega) w0 zw hgt (by grind) ((sz_sub ha.szs zv).mono (by omega)), h4.mono (by simp only; omega)⟩ ?_
      simp [e1, e2, c1, b1, b2, hm0, b3, b4, b5, e3, e4, c2, b6, b7, hal, co]
  · rintro fl ρ S ⟨⟨t, acc, kk, q, s, i, vs, w2, w7, w8⟩, rfl, rfl, rfl, hi1, hi2, ha, hd⟩
    simp only at hi1 hi2 ha hd ⊢
    have fin : ∀ (s' : Rat), s' < 0 → Sz 12 s' → ∀ S, ∃ P1 P2, run T (k + 2) "_law_per" [.d (fr q), .d (.tuple [.int (-s'.num), .int s'.den])] S = some (.d P1, S) ∧ run T (k + 2) "_law_sum" [.d (fr kk), .d P1] S = some (.d P2, S) ∧ run T (k + 2) "_law_even" [.d P2] S = some (.d (fr (kk + q / (-s'))), S) := by
      intro s' hs zs S
      have ok2 : Ok 12 (nd (-s')) := ok_nd ⟨zs.1.neg, zs.2⟩
      have n0 : 0 < (nd (-s')).1 := (val_pos ok2).mp (by rw [val_nd]; grind)
      have b1 := r_per (ok_nd ha.szq) ok2 (by omega) n0 (k + 1) S
      have okP := ok_per (ok_nd ha.szq) ok2 n0
      have b2 := r_sum (ok_nd ha.szk) okP (by omega) (k + 1) S
      have b3 := r_even (ok_sum (ok_nd ha.szk) okP) (by omega) k S
      rw [val_sum (ok_nd ha.szk) okP, val_per, val_nd, val_nd, val_nd] at b3
      exact ⟨_, _, b1, b2, b3⟩
    have hal : acc.length + 1 ≤ 100000 := by rw [ha.al]; omega
    by_cases hs : 0 ≤ s
    · obtain ⟨d1, t1, d10, d11, h1, e1⟩ := r_tap (k + 1) hd (by omega) 2 (by omega) (by omega) S0 [some (acc.map co)]
      obtain ⟨d2, t2, d20, d21, h2, e2⟩ := r_tap (k + 1) h1 (by omega) 2 (by omega) (by omega) S0 [some (acc.map co)]
      obtain ⟨c1, zw⟩ := r_cut2 (n := 2) (k + 1) (a := -1 - d1) (b := 1 + d2) (by omega) (by omega) (by omega) (by omega) (S0 ++ [cellD t2, some (acc.map co)])
      have w0 : Rat.divInt (-1 - d1) (1 + d2) < 0 := divInt_neg' (by omega) (by omega)
      generalize Rat.divInt (-1 - d1) (1 + d2) = w at c1 zw w0
      obtain ⟨P1, P2, f1, f2, f3⟩ := fin w w0 (zw.mono (by omega)) (S0 ++ [cellD t2, some (acc.map co)])
      rw [← hP]
      refine ⟨acc ++ [(kk + q / (-w), 0)], t2, ha.close hi1 hi2 w0 (.inr (by grind)) (zw.mono (by omega)), h2.mono (by omega), ?_⟩
      simp [hs, e1, e2, c1, f1, f2, f3, hal, kd, co, fr0]
    · obtain ⟨P1, P2, f1, f2, f3⟩ := fin s (by grind) (ha.szs.mono (by omega)) (S0 ++ [cellD t, some (acc.map co)])
      rw [← hP]
      refine ⟨acc ++ [(kk + q / (-s), 0)], t, ha.close hi1 hi2 (by grind) (.inl rfl) (ha.szs.mono (by omega)), hd.mono (by omega), ?_⟩
      simp [hs, f1, f2, f3, hal, kd, co, fr0]
end Prog

/-! K52: the law (over C26). -/
namespace Prog
open PySem PySem.Spec PyProof.Rows L2 PD
theorem list52 (ρ : Rho) (S : Sto) : appE lstF (consL (appE tupF (consL (constE (.int 1)) (consL (constE (.int 1)) nilL))) (consL (appE tupF (consL (constE (.int 2)) (consL (constE (.int 1)) nilL))) (consL (appE tupF (consL (constE (.int 1)) (consL (constE (.int 2)) nilL))) (consL (appE tupF (consL (constE (.int 4)) (consL (constE (.int 1)) nilL))) nilL)))) ρ S = some (.d (.list [.tuple [.int 1, .int 1], .tuple [.int 2, .int 1], .tuple [.int 1, .int 2], .tuple [.int 4, .int 1]]), S) := by rfl
theorem pick52 {y : PyData} (my : y ∈ ([.tuple [.int 1, .int 1], .tuple [.int 2, .int 1], .tuple [.int 1, .int 2], .tuple [.int 4, .int 1]] : List PyData)) : ∃ q : Rat, y = fr q ∧ Sz 3 q ∧ 0 < q := by
    simp at my
    have n1 : (1 / 2 : Rat).num = 1 := by decide +kernel
    have d1 : (1 / 2 : Rat).den = 2 := by decide +kernel
    have nt : ∀ n : Nat, n < 8 → 0 < n → (.tuple [.int (n : Int), .int 1] : PyData) = fr (n : Rat) ∧ Sz 3 (n : Rat) ∧ (0 : Rat) < (n : Rat) := fun n h h0 =>
      ⟨(fr_nat n).symm, sz_nat (by omega) (by omega), by have := Rat.natCast_lt_natCast.mpr h0; simpa using this⟩
    rcases my with rfl | rfl | rfl | rfl
    · exact ⟨_, nt 1 (by omega) (by omega)⟩
    · exact ⟨_, nt 2 (by omega) (by omega)⟩
    · exact ⟨1 / 2, by unfold fr; rw [n1, d1]; rfl, ⟨by rw [n1]; unfold Lt2; decide, by rw [d1]; unfold Lt2; decide⟩, by grind⟩
    · exact ⟨_, nt 4 (by omega) (by omega)⟩
theorem r_right (k : Nat) {m : Nat} {t : Dice} (ht : Dok m t) (hm : m < 800000) (S0 : Sto) : ∃ S', run T (k + 14) "_law_right" [.m S0.length] (S0 ++ [cellD t]) = some (.d (.bool true), S') := by
  obtain ⟨ks, t1, hk, h1, e2⟩ := r_law_kind (k + 10) ht (by omega) S0
  have e3 := r_law_speeds (k + 10) hk.kd (by omega) (S0 ++ [cellD t1])
  obtain ⟨x1, t2, x10, x11, h2, e4⟩ := r_tap (k + 12) h1 (by omega) 5 (by omega) (by omega) S0 []
  obtain ⟨x2, t3, x20, x21, h3, e5⟩ := r_tap (k + 12) h2 (by omega) 5 (by omega) (by omega) S0 []
  have e6 := r_cut (n := 3) (k + 12) (a := 1 + x1) (b := 1 + x2) (by omega) (by unfold Lt2; omega) (by unfold Lt2; omega) (by omega) (S0 ++ [cellD t3])
  have zd : Sz 3 (Rat.divInt (1 + x1) (1 + x2)) := sz_lt (by omega) (by omega) (by omega)
  have hd : 0 < Rat.divInt (1 + x1) (1 + x2) := divInt_pos' (by omega) (by omega)
  generalize Rat.divInt (1 + x1) (1 + x2) = dx at *
  obtain ⟨y, my, t4, h4, e7⟩ := r_of (k + 11) h3 (by omega) [.tuple [.int 1, .int 1], .tuple [.int 2, .int 1], .tuple [.int 1, .int 2], .tuple [.int 4, .int 1]] (by simp) (by simp) S0 []
  obtain ⟨q, rfl, zq, hq⟩ := pick52 my
  obtain ⟨x3, t5, x30, x31, h5, e8⟩ := r_tap (k + 12) h4 (by omega) 4 (by omega) (by omega) S0 []
  -- the end behind the piece of time
  have fin : ∀ (p : Rat) (tt : Dice), Sz 8 p → 0 < p → (∃ m, Dok m tt ∧ m < 900000) →
      (∀ R, R = run T (k + 13) → (ifS (valB (binE (pf2 gtP) (appE (callF (c_L_tap R)) (consL (varE 0) (consL (constE (.int 4)) nilL))) (constE (.int 0)))) (seqS (asgS (appE (callF (c_L_cut R)) (consL (binE (pf2 addP) (constE (.int 1)) (appE (callF (c_L_tap R)) (consL (varE 0) (consL (constE (.int 9)) nilL)))) (consL (binE (pf2 addP) (constE (.int 1)) (appE (callF (c_L_tap R)) (consL (varE 0) (consL (constE (.int 4)) nilL)))) nilL))) (nameG 2)) nilS) (seqS (ifS (valB (binE (pf2 eqP) (appE (callF (c_L_tap R)) (consL (varE 0) (consL (constE (.int 2)) nilL))) (constE (.int 0)))) (seqS (asgS (appE (callF (c_L_cut R)) (consL (binE (pf2 addP) (constE (.int 1)) (appE (callF (c_L_tap R)) (consL (varE 0) (consL (constE (.int 200)) nilL)))) (consL (binE (pf2 addP) (constE (.int 1)) (appE (callF (c_L_tap R)) (consL (varE 0) (consL (constE (.int 7)) nilL)))) nilL))) (nameG 2)) nilS) nilS) nilS)) [some (.m S0.length), some (.d (kd ks)), some (.d (fr q)), none, none, some (.d (ownT ks)), some (.d (fr dx)), none, none, none, none] (S0 ++ [cellD t4]) = some (.nx, [some (.m S0.length), some (.d (kd ks)), some (.d (fr p)), none, none, some (.d (ownT ks)), some (.d (fr dx)), none, none, none, none], S0 ++ [cellD tt])) →
      ∃ S', run T (k + 14) "_law_right" [.m S0.length] (S0 ++ [cellD t]) = some (.d (.bool true), S') := by
    rintro p tt zp hp ⟨m', hmm, hm9⟩ hif
    obtain ⟨ρ', S', hc⟩ := r_e4 k hmm hm9 hk zd hd zp hp S0
    refine ⟨S'.take (S0.length + 1), ?_⟩
    have hif' := hif _ rfl
    obtain ⟨R, hR⟩ : ∃ R, R = run T (k + 13) := ⟨_, rfl⟩
    simp only [Nat.add_assoc, Nat.reduceAdd, ← hR] at e2 e3 e4 e5 e6 e7 e8 hif' hc
    have hb : b_L_right R [some (.m S0.length), none, none, none, none, none, none, none, none, none, none] (S0 ++ [cellD t]) = some (.rt (.d (.bool true)), ρ', S') := by
      unfold b_L_right
      refine (seq_nx (ρ1 := [some (.m S0.length), some (.d (kd ks)), none, none, none, none, none, none, none, none, none]) (S1 := S0 ++ [cellD t1]) ?_).trans ?_
      · simp [e2]
      refine (seq_nx (ρ1 := [some (.m S0.length), some (.d (kd ks)), none, none, none, some (.d (ownT ks)), some (.d (fr dx)), none, none, none, none]) (S1 := S0 ++ [cellD t3]) ?_).trans ?_
      · simp [e3, e4, e5, e6, frzE, thaw, ownT]
      refine (seq_nx (ρ1 := [some (.m S0.length), some (.d (kd ks)), some (.d (fr q)), none, none, some (.d (ownT ks)), some (.d (fr dx)), none, none, none, none]) (S1 := S0 ++ [cellD t4]) ?_).trans ?_
      · simp [list52, e7]
      refine (seq_nx hif').trans ?_
      exact hc
    rw [u_L_right, x_run]
    simp only [← hR]
    rw [show startR 11 [W.m S0.length] = [some (.m S0.length), none, none, none, none, none, none, none, none, none, none] from rfl, hb]
    simp
  by_cases z : 0 < x3
  · obtain ⟨x4, t6, x40, x41, h6, e9⟩ := r_tap (k + 12) h5 (by omega) 9 (by omega) (by omega) S0 []
    obtain ⟨x5, t7, x50, x51, h7, e10⟩ := r_tap (k + 12) h6 (by omega) 4 (by omega) (by omega) S0 []
    have e11 := r_cut (n := 4) (k + 12) (a := 1 + x4) (b := 1 + x5) (by omega) (by unfold Lt2; omega) (by unfold Lt2; omega) (by omega) (S0 ++ [cellD t7])
    refine fin (Rat.divInt (1 + x4) (1 + x5)) t7 ((sz_lt (n := 4) (by omega) (by omega) (by omega)).mono (by omega)) (divInt_pos' (by omega) (by omega)) ⟨_, h7, by omega⟩ fun R hR => ?_
    simp only [Nat.add_assoc, Nat.reduceAdd, ← hR] at e8 e9 e10 e11
    simp [e8, z, e9, e10, e11]
  · obtain ⟨x4, t6, x40, x41, h6, e9⟩ := r_tap (k + 12) h5 (by omega) 2 (by omega) (by omega) S0 []
    by_cases z2 : x4 = 0
    · obtain ⟨x5, t7, x50, x51, h7, e10⟩ := r_tap (k + 12) h6 (by omega) 200 (by omega) (by omega) S0 []
      obtain ⟨x6, t8, x60, x61, h8, e11⟩ := r_tap (k + 12) h7 (by omega) 7 (by omega) (by omega) S0 []
      have e12 := r_cut (n := 8) (k + 12) (a := 1 + x5) (b := 1 + x6) (by omega) (by unfold Lt2; omega) (by unfold Lt2; omega) (by omega) (S0 ++ [cellD t8])
      refine fin (Rat.divInt (1 + x5) (1 + x6)) t8 (sz_lt (n := 8) (by omega) (by omega) (by omega)) (divInt_pos' (by omega) (by omega)) ⟨_, h8, by omega⟩ fun R hR => ?_
      simp only [Nat.add_assoc, Nat.reduceAdd, ← hR] at e8 e9 e10 e11 e12
      simp [e8, z, e9, z2, e10, e11, e12]
    · refine fin q t6 (zq.mono (by omega)) hq ⟨_, h6, by omega⟩ fun R hR => ?_
      simp only [Nat.add_assoc, Nat.reduceAdd, ← hR] at e8 e9
      have z3 : (x4 == 0) = false := by simpa using z2
      simp [e8, z, e9, z3]
theorem law_k52 (k : Nat) (ns : List Int) : run T (k + 15) "law" [.d (.list (ns.map PyData.int))] [] = some (.d (.bool true), []) := by
  have rg : rangeU 2 [] = some (rangeD 0 2, []) := rangeU_nat 2 [] (by omega)
  obtain ⟨S', hl⟩ := lcN_st (g := nameG 1) (elt := appE (callF (c_L_right (PD.run T (k + 14)))) (consL (appE (callF (c_L_cask (PD.run T (k + 14)))) (consL (varE 0) (consL (varE 1) nilL))) nilL)) (ρ := [some (.d (.list (ns.map PyData.int))), none])
    (fun i : Nat => PyData.int (0 + (i : Nat))) (fun i => [some (.d (.list (ns.map PyData.int))), some (.d (.int (0 + (i : Nat))))]) (fun _ => PyData.bool true) (List.range 2) (fun i _ S => by simp) (fun i m S => by
      have hi := List.mem_range.mp m
      obtain ⟨t, ht, e1⟩ := r_cask (k + 13) ns i (by omega) S
      obtain ⟨S2, e2⟩ := r_right k ht (by omega) S
      exact ⟨S2, by simp [e1, e2]⟩) []
  rw [u_law, x_run]
  simp [b_law, startR, x_lc, wipeR, rg]
  rw [show rangeD 0 2 = (List.range 2).map fun i => PyData.int (0 + (i : Nat)) from rfl, hl]
  have ab : ∀ l : List Nat, allBool (l.map fun _ => PyData.bool true) = some (l.map fun _ => true) := fun l => by
    induction l with
    | nil => rfl
    | cons x l ih => rw [List.map_cons]; unfold allBool; rw [ih]; rfl
  have ln : (rangeD 0 2).length ≤ 100000 := by simp [rangeD]
  simp [ln, allP, ab]
end Prog

namespace Prog
open PySem PySem.Spec PyProof.Rows L2 PD
theorem stands_mk {K : PySem.W.Frag} {h : Heap} {mg : Str → Option Value} (X : K.In h) (Gn : h.Ns mainGlobals mg) {x : Str} {st : Stmt} {d : Info} {F : Addr} {od an : Option Addr} {sl : Array (Option Value)} {oc kV dc pm cd ct : Value}
    (n : PySem.W.nsIn K mainGlobals x = some (some (.ref F))) (l : K.lookup F = some ⟨oc, od, .func (PySem.W.fnOf x x (defArgs st) (defBody st) (defScope st) .none kV dc pm an cd ct), sl⟩) (q : PySem.W.codeIn K cd x = true) (t : PySem.W.keepIn K (.ref F) = true)
    (f : FnScope d.N d.ps (defScope st)) (k : ∀ r : Runs, cDef (ctxOf G T r d) st = some (d.body r)) (ha : ∀ a ∈ d.arr, a.2.2.length = d.ps.length)
    (b1 : ∀ (s : Shared) (us : List Value), us.length = d.ps.length → BindsTo s (PySem.W.fnOf x x (defArgs st) (defBody st) (defScope st) .none kV dc pm an cd ct) ⟨us, []⟩ (d.ps.zip us))
    (b2 : ∀ a ∈ d.arr, ∀ (s : Shared) (us ws : List Value), us.length = a.1 → ws.length = a.2.1.length → BindsTo s (PySem.W.fnOf x x (defArgs st) (defBody st) (defScope st) .none kV dc pm an cd ct) ⟨us, a.2.1.zip ws⟩ (d.ps.zip (atU a.2.2 (us ++ ws)))) : Stands K mg G T x d :=
  ⟨⟨st, F, _, PySem.W.mg_of X Gn n, fun_mk (st := st) l q t, f, b1, b2, ha, k⟩⟩
theorem sound {K : PySem.W.Frag} {h : Heap} {mg : Str → Option Value} (X : K.In h) (Gn : h.Ns mainGlobals mg)
    {F_is_whole : Addr} {od_is_whole an_is_whole : Option Addr} {sl_is_whole : Array (Option Value)} {oc_is_whole kV_is_whole dc_is_whole pm_is_whole cd_is_whole ct_is_whole : Value}
    {F_are_wholes : Addr} {od_are_wholes an_are_wholes : Option Addr} {sl_are_wholes : Array (Option Value)} {oc_are_wholes kV_are_wholes dc_are_wholes pm_are_wholes cd_are_wholes ct_are_wholes : Value}
    {F_common_part : Addr} {od_common_part an_common_part : Option Addr} {sl_common_part : Array (Option Value)} {oc_common_part kV_common_part dc_common_part pm_common_part cd_common_part ct_common_part : Value}
    {F_lowest : Addr} {od_lowest an_lowest : Option Addr} {sl_lowest : Array (Option Value)} {oc_lowest kV_lowest dc_lowest pm_lowest cd_lowest ct_lowest : Value}
    {F_lowest_over : Addr} {od_lowest_over an_lowest_over : Option Addr} {sl_lowest_over : Array (Option Value)} {oc_lowest_over kV_lowest_over dc_lowest_over pm_lowest_over cd_lowest_over ct_lowest_over : Value}
    {F_ratio : Addr} {od_ratio an_ratio : Option Addr} {sl_ratio : Array (Option Value)} {oc_ratio kV_ratio dc_ratio pm_ratio cd_ratio ct_ratio : Value}
    {F_plus : Addr} {od_plus an_plus : Option Addr} {sl_plus : Array (Option Value)} {oc_plus kV_plus dc_plus pm_plus cd_plus ct_plus : Value}
    {F_minus : Addr} {od_minus an_minus : Option Addr} {sl_minus : Array (Option Value)} {oc_minus kV_minus dc_minus pm_minus cd_minus ct_minus : Value}
    {F_times : Addr} {od_times an_times : Option Addr} {sl_times : Array (Option Value)} {oc_times kV_times dc_times pm_times cd_times ct_times : Value}
    {F_divided : Addr} {od_divided an_divided : Option Addr} {sl_divided : Array (Option Value)} {oc_divided kV_divided dc_divided pm_divided cd_divided ct_divided : Value}
    {F_is_below : Addr} {od_is_below an_is_below : Option Addr} {sl_is_below : Array (Option Value)} {oc_is_below kV_is_below dc_is_below pm_is_below cd_is_below ct_is_below : Value}
    {F_is_fraction : Addr} {od_is_fraction an_is_fraction : Option Addr} {sl_is_fraction : Array (Option Value)} {oc_is_fraction kV_is_fraction dc_is_fraction pm_is_fraction cd_is_fraction ct_is_fraction : Value}
    {F_is_amount : Addr} {od_is_amount an_is_amount : Option Addr} {sl_is_amount : Array (Option Value)} {oc_is_amount kV_is_amount dc_is_amount pm_is_amount cd_is_amount ct_is_amount : Value}
    {F_are_fractions : Addr} {od_are_fractions an_are_fractions : Option Addr} {sl_are_fractions : Array (Option Value)} {oc_are_fractions kV_are_fractions dc_are_fractions pm_are_fractions cd_are_fractions ct_are_fractions : Value}
    {F_check_amount : Addr} {od_check_amount an_check_amount : Option Addr} {sl_check_amount : Array (Option Value)} {oc_check_amount kV_check_amount dc_check_amount pm_check_amount cd_check_amount ct_check_amount : Value}
    {F_slope_of : Addr} {od_slope_of an_slope_of : Option Addr} {sl_slope_of : Array (Option Value)} {oc_slope_of kV_slope_of dc_slope_of pm_slope_of cd_slope_of ct_slope_of : Value}
    {F_kind_speeds : Addr} {od_kind_speeds an_kind_speeds : Option Addr} {sl_kind_speeds : Array (Option Value)} {oc_kind_speeds kV_kind_speeds dc_kind_speeds pm_kind_speeds cd_kind_speeds ct_kind_speeds : Value}
    {F_is_kind : Addr} {od_is_kind an_is_kind : Option Addr} {sl_is_kind : Array (Option Value)} {oc_is_kind kV_is_kind dc_is_kind pm_is_kind cd_is_kind ct_is_kind : Value}
    {F_is_corner : Addr} {od_is_corner an_is_corner : Option Addr} {sl_is_corner : Array (Option Value)} {oc_is_corner kV_is_corner dc_is_corner pm_is_corner cd_is_corner ct_is_corner : Value}
    {F_check_kind : Addr} {od_check_kind an_check_kind : Option Addr} {sl_check_kind : Array (Option Value)} {oc_check_kind kV_check_kind dc_check_kind pm_check_kind cd_check_kind ct_check_kind : Value}
    {F_check_steps : Addr} {od_check_steps an_check_steps : Option Addr} {sl_check_steps : Array (Option Value)} {oc_check_steps kV_check_steps dc_check_steps pm_check_steps cd_check_steps ct_check_steps : Value}
    {F_places_gone : Addr} {od_places_gone an_places_gone : Option Addr} {sl_places_gone : Array (Option Value)} {oc_places_gone kV_places_gone dc_places_gone pm_places_gone cd_places_gone ct_places_gone : Value}
    {F_margins : Addr} {od_margins an_margins : Option Addr} {sl_margins : Array (Option Value)} {oc_margins kV_margins dc_margins pm_margins cd_margins ct_margins : Value}
    {F_even_row : Addr} {od_even_row an_even_row : Option Addr} {sl_even_row : Array (Option Value)} {oc_even_row kV_even_row dc_even_row pm_even_row cd_even_row ct_even_row : Value}
    {F_unlike_by : Addr} {od_unlike_by an_unlike_by : Option Addr} {sl_unlike_by : Array (Option Value)} {oc_unlike_by kV_unlike_by dc_unlike_by pm_unlike_by cd_unlike_by ct_unlike_by : Value}
    {F_row_or_too_many : Addr} {od_row_or_too_many an_row_or_too_many : Option Addr} {sl_row_or_too_many : Array (Option Value)} {oc_row_or_too_many kV_row_or_too_many dc_row_or_too_many pm_row_or_too_many cd_row_or_too_many ct_row_or_too_many : Value}
    {F_unlike_row : Addr} {od_unlike_row an_unlike_row : Option Addr} {sl_unlike_row : Array (Option Value)} {oc_unlike_row kV_unlike_row dc_unlike_row pm_unlike_row cd_unlike_row ct_unlike_row : Value}
    {F_L_cask : Addr} {od_L_cask an_L_cask : Option Addr} {sl_L_cask : Array (Option Value)} {oc_L_cask kV_L_cask dc_L_cask pm_L_cask cd_L_cask ct_L_cask : Value}
    {F_L_tap : Addr} {od_L_tap an_L_tap : Option Addr} {sl_L_tap : Array (Option Value)} {oc_L_tap kV_L_tap dc_L_tap pm_L_tap cd_L_tap ct_L_tap : Value}
    {F_L_of : Addr} {od_L_of an_L_of : Option Addr} {sl_L_of : Array (Option Value)} {oc_L_of kV_L_of dc_L_of pm_L_of cd_L_of ct_L_of : Value}
    {F_L_cut : Addr} {od_L_cut an_L_cut : Option Addr} {sl_L_cut : Array (Option Value)} {oc_L_cut kV_L_cut dc_L_cut pm_L_cut cd_L_cut ct_L_cut : Value}
    {F_L_even : Addr} {od_L_even an_L_even : Option Addr} {sl_L_even : Array (Option Value)} {oc_L_even kV_L_even dc_L_even pm_L_even cd_L_even ct_L_even : Value}
    {F_L_sum : Addr} {od_L_sum an_L_sum : Option Addr} {sl_L_sum : Array (Option Value)} {oc_L_sum kV_L_sum dc_L_sum pm_L_sum cd_L_sum ct_L_sum : Value}
    {F_L_gap : Addr} {od_L_gap an_L_gap : Option Addr} {sl_L_gap : Array (Option Value)} {oc_L_gap kV_L_gap dc_L_gap pm_L_gap cd_L_gap ct_L_gap : Value}
    {F_L_by : Addr} {od_L_by an_L_by : Option Addr} {sl_L_by : Array (Option Value)} {oc_L_by kV_L_by dc_L_by pm_L_by cd_L_by ct_L_by : Value}
    {F_L_per : Addr} {od_L_per an_L_per : Option Addr} {sl_L_per : Array (Option Value)} {oc_L_per kV_L_per dc_L_per pm_L_per cd_L_per ct_L_per : Value}
    {F_L_kind : Addr} {od_L_kind an_L_kind : Option Addr} {sl_L_kind : Array (Option Value)} {oc_L_kind kV_L_kind dc_L_kind pm_L_kind cd_L_kind ct_L_kind : Value}
    {F_L_speeds : Addr} {od_L_speeds an_L_speeds : Option Addr} {sl_L_speeds : Array (Option Value)} {oc_L_speeds kV_L_speeds dc_L_speeds pm_L_speeds cd_L_speeds ct_L_speeds : Value}
    {F_L_toll : Addr} {od_L_toll an_L_toll : Option Addr} {sl_L_toll : Array (Option Value)} {oc_L_toll kV_L_toll dc_L_toll pm_L_toll cd_L_toll ct_L_toll : Value}
    {F_L_along : Addr} {od_L_along an_L_along : Option Addr} {sl_L_along : Array (Option Value)} {oc_L_along kV_L_along dc_L_along pm_L_along cd_L_along ct_L_along : Value}
    {F_L_least : Addr} {od_L_least an_L_least : Option Addr} {sl_L_least : Array (Option Value)} {oc_L_least kV_L_least dc_L_least pm_L_least cd_L_least ct_L_least : Value}
    {F_L_ceil : Addr} {od_L_ceil an_L_ceil : Option Addr} {sl_L_ceil : Array (Option Value)} {oc_L_ceil kV_L_ceil dc_L_ceil pm_L_ceil cd_L_ceil ct_L_ceil : Value}
    {F_L_spots : Addr} {od_L_spots an_L_spots : Option Addr} {sl_L_spots : Array (Option Value)} {oc_L_spots kV_L_spots dc_L_spots pm_L_spots cd_L_spots ct_L_spots : Value}
    {F_L_cells : Addr} {od_L_cells an_L_cells : Option Addr} {sl_L_cells : Array (Option Value)} {oc_L_cells kV_L_cells dc_L_cells pm_L_cells cd_L_cells ct_L_cells : Value}
    {F_L_truth : Addr} {od_L_truth an_L_truth : Option Addr} {sl_L_truth : Array (Option Value)} {oc_L_truth kV_L_truth dc_L_truth pm_L_truth cd_L_truth ct_L_truth : Value}
    {F_L_fit : Addr} {od_L_fit an_L_fit : Option Addr} {sl_L_fit : Array (Option Value)} {oc_L_fit kV_L_fit dc_L_fit pm_L_fit cd_L_fit ct_L_fit : Value}
    {F_L_is_fraction : Addr} {od_L_is_fraction an_L_is_fraction : Option Addr} {sl_L_is_fraction : Array (Option Value)} {oc_L_is_fraction kV_L_is_fraction dc_L_is_fraction pm_L_is_fraction cd_L_is_fraction ct_L_is_fraction : Value}
    {F_L_told : Addr} {od_L_told an_L_told : Option Addr} {sl_L_told : Array (Option Value)} {oc_L_told kV_L_told dc_L_told pm_L_told cd_L_told ct_L_told : Value}
    {F_L_is_row : Addr} {od_L_is_row an_L_is_row : Option Addr} {sl_L_is_row : Array (Option Value)} {oc_L_is_row kV_L_is_row dc_L_is_row pm_L_is_row cd_L_is_row ct_L_is_row : Value}
    {F_L_right : Addr} {od_L_right an_L_right : Option Addr} {sl_L_right : Array (Option Value)} {oc_L_right kV_L_right dc_L_right pm_L_right cd_L_right ct_L_right : Value}
    {F_law : Addr} {od_law an_law : Option Addr} {sl_law : Array (Option Value)} {oc_law kV_law dc_law pm_law cd_law ct_law : Value}
    {A_NOUGHT : Addr} {aod_NOUGHT : Option Addr} {asl_NOUGHT : Array (Option Value)} {an_NOUGHT : Nat} {at_NOUGHT_0 : Tok} {at_NOUGHT_1 : Tok}
    {tk_LEAST_CORNERS : Tok}
    {tk_MOST_CORNERS : Tok}
    {tk_MOST_PLACES : Tok}
    {A_HALF : Addr} {aod_HALF : Option Addr} {asl_HALF : Array (Option Value)} {an_HALF : Nat} {at_HALF_0 : Tok} {at_HALF_1 : Tok}
    {C_TooMany : Addr}
    {C_RoadError : Addr}
    {fI_TooMany N_TooMany B0_TooMany : Addr} {nm_TooMany q_TooMany : Str} {bs_TooMany : List Value} {sn_TooMany : List Str} {sb_TooMany : List Value} {ab_TooMany : Bool} {col_TooMany : Option Bool} {dd_TooMany : Option Addr} {m0_TooMany m1_TooMany m2_TooMany m3_TooMany m5_TooMany : Option Value} {iod_TooMany ian_TooMany : Option Addr} {isl_TooMany : Array (Option Value)} {ioc_TooMany idc_TooMany ipm_TooMany icd_TooMany ict_TooMany : Value}
    (n_is_whole : PySem.W.nsIn K mainGlobals "is_whole" = some (some (.ref F_is_whole))) (l_is_whole : K.lookup F_is_whole = some ⟨oc_is_whole, od_is_whole, .func (PySem.W.fnOf "is_whole" "is_whole" (defArgs s_is_whole) (defBody s_is_whole) (defScope s_is_whole) .none kV_is_whole dc_is_whole pm_is_whole an_is_whole cd_is_whole ct_is_whole), sl_is_whole⟩) (q_is_whole : PySem.W.codeIn K cd_is_whole "is_whole" = true) (t_is_whole : PySem.W.keepIn K (.ref F_is_whole) = true)
    (n_are_wholes : PySem.W.nsIn K mainGlobals "are_wholes" = some (some (.ref F_are_wholes))) (l_are_wholes : K.lookup F_are_wholes = some ⟨oc_are_wholes, od_are_wholes, .func (PySem.W.fnOf "are_wholes" "are_wholes" (defArgs s_are_wholes) (defBody s_are_wholes) (defScope s_are_wholes) .none kV_are_wholes dc_are_wholes pm_are_wholes an_are_wholes cd_are_wholes ct_are_wholes), sl_are_wholes⟩) (q_are_wholes : PySem.W.codeIn K cd_are_wholes "are_wholes" = true) (t_are_wholes : PySem.W.keepIn K (.ref F_are_wholes) = true)
    (n_common_part : PySem.W.nsIn K mainGlobals "common_part" = some (some (.ref F_common_part))) (l_common_part : K.lookup F_common_part = some ⟨oc_common_part, od_common_part, .func (PySem.W.fnOf "common_part" "common_part" (defArgs s_common_part) (defBody s_common_part) (defScope s_common_part) .none kV_common_part dc_common_part pm_common_part an_common_part cd_common_part ct_common_part), sl_common_part⟩) (q_common_part : PySem.W.codeIn K cd_common_part "common_part" = true) (t_common_part : PySem.W.keepIn K (.ref F_common_part) = true)
    (n_lowest : PySem.W.nsIn K mainGlobals "lowest" = some (some (.ref F_lowest))) (l_lowest : K.lookup F_lowest = some ⟨oc_lowest, od_lowest, .func (PySem.W.fnOf "lowest" "lowest" (defArgs s_lowest) (defBody s_lowest) (defScope s_lowest) .none kV_lowest dc_lowest pm_lowest an_lowest cd_lowest ct_lowest), sl_lowest⟩) (q_lowest : PySem.W.codeIn K cd_lowest "lowest" = true) (t_lowest : PySem.W.keepIn K (.ref F_lowest) = true)
    (n_lowest_over : PySem.W.nsIn K mainGlobals "lowest_over" = some (some (.ref F_lowest_over))) (l_lowest_over : K.lookup F_lowest_over = some ⟨oc_lowest_over, od_lowest_over, .func (PySem.W.fnOf "lowest_over" "lowest_over" (defArgs s_lowest_over) (defBody s_lowest_over) (defScope s_lowest_over) .none kV_lowest_over dc_lowest_over pm_lowest_over an_lowest_over cd_lowest_over ct_lowest_over), sl_lowest_over⟩) (q_lowest_over : PySem.W.codeIn K cd_lowest_over "lowest_over" = true) (t_lowest_over : PySem.W.keepIn K (.ref F_lowest_over) = true)
    (n_ratio : PySem.W.nsIn K mainGlobals "ratio" = some (some (.ref F_ratio))) (l_ratio : K.lookup F_ratio = some ⟨oc_ratio, od_ratio, .func (PySem.W.fnOf "ratio" "ratio" (defArgs s_ratio) (defBody s_ratio) (defScope s_ratio) .none kV_ratio dc_ratio pm_ratio an_ratio cd_ratio ct_ratio), sl_ratio⟩) (q_ratio : PySem.W.codeIn K cd_ratio "ratio" = true) (t_ratio : PySem.W.keepIn K (.ref F_ratio) = true)
    (n_plus : PySem.W.nsIn K mainGlobals "plus" = some (some (.ref F_plus))) (l_plus : K.lookup F_plus = some ⟨oc_plus, od_plus, .func (PySem.W.fnOf "plus" "plus" (defArgs s_plus) (defBody s_plus) (defScope s_plus) .none kV_plus dc_plus pm_plus an_plus cd_plus ct_plus), sl_plus⟩) (q_plus : PySem.W.codeIn K cd_plus "plus" = true) (t_plus : PySem.W.keepIn K (.ref F_plus) = true)
    (n_minus : PySem.W.nsIn K mainGlobals "minus" = some (some (.ref F_minus))) (l_minus : K.lookup F_minus = some ⟨oc_minus, od_minus, .func (PySem.W.fnOf "minus" "minus" (defArgs s_minus) (defBody s_minus) (defScope s_minus) .none kV_minus dc_minus pm_minus an_minus cd_minus ct_minus), sl_minus⟩) (q_minus : PySem.W.codeIn K cd_minus "minus" = true) (t_minus : PySem.W.keepIn K (.ref F_minus) = true)
    (n_times : PySem.W.nsIn K mainGlobals "times" = some (some (.ref F_times))) (l_times : K.lookup F_times = some ⟨oc_times, od_times, .func (PySem.W.fnOf "times" "times" (defArgs s_times) (defBody s_times) (defScope s_times) .none kV_times dc_times pm_times an_times cd_times ct_times), sl_times⟩) (q_times : PySem.W.codeIn K cd_times "times" = true) (t_times : PySem.W.keepIn K (.ref F_times) = true)
    (n_divided : PySem.W.nsIn K mainGlobals "divided" = some (some (.ref F_divided))) (l_divided : K.lookup F_divided = some ⟨oc_divided, od_divided, .func (PySem.W.fnOf "divided" "divided" (defArgs s_divided) (defBody s_divided) (defScope s_divided) .none kV_divided dc_divided pm_divided an_divided cd_divided ct_divided), sl_divided⟩) (q_divided : PySem.W.codeIn K cd_divided "divided" = true) (t_divided : PySem.W.keepIn K (.ref F_divided) = true)
    (n_is_below : PySem.W.nsIn K mainGlobals "is_below" = some (some (.ref F_is_below))) (l_is_below : K.lookup F_is_below = some ⟨oc_is_below, od_is_below, .func (PySem.W.fnOf "is_below" "is_below" (defArgs s_is_below) (defBody s_is_below) (defScope s_is_below) .none kV_is_below dc_is_below pm_is_below an_is_below cd_is_below ct_is_below), sl_is_below⟩) (q_is_below : PySem.W.codeIn K cd_is_below "is_below" = true) (t_is_below : PySem.W.keepIn K (.ref F_is_below) = true)
    (n_is_fraction : PySem.W.nsIn K mainGlobals "is_fraction" = some (some (.ref F_is_fraction))) (l_is_fraction : K.lookup F_is_fraction = some ⟨oc_is_fraction, od_is_fraction, .func (PySem.W.fnOf "is_fraction" "is_fraction" (defArgs s_is_fraction) (defBody s_is_fraction) (defScope s_is_fraction) .none kV_is_fraction dc_is_fraction pm_is_fraction an_is_fraction cd_is_fraction ct_is_fraction), sl_is_fraction⟩) (q_is_fraction : PySem.W.codeIn K cd_is_fraction "is_fraction" = true) (t_is_fraction : PySem.W.keepIn K (.ref F_is_fraction) = true)
    (n_is_amount : PySem.W.nsIn K mainGlobals "is_amount" = some (some (.ref F_is_amount))) (l_is_amount : K.lookup F_is_amount = some ⟨oc_is_amount, od_is_amount, .func (PySem.W.fnOf "is_amount" "is_amount" (defArgs s_is_amount) (defBody s_is_amount) (defScope s_is_amount) .none kV_is_amount dc_is_amount pm_is_amount an_is_amount cd_is_amount ct_is_amount), sl_is_amount⟩) (q_is_amount : PySem.W.codeIn K cd_is_amount "is_amount" = true) (t_is_amount : PySem.W.keepIn K (.ref F_is_amount) = true)
    (n_are_fractions : PySem.W.nsIn K mainGlobals "are_fractions" = some (some (.ref F_are_fractions))) (l_are_fractions : K.lookup F_are_fractions = some ⟨oc_are_fractions, od_are_fractions, .func (PySem.W.fnOf "are_fractions" "are_fractions" (defArgs s_are_fractions) (defBody s_are_fractions) (defScope s_are_fractions) .none kV_are_fractions dc_are_fractions pm_are_fractions an_are_fractions cd_are_fractions ct_are_fractions), sl_are_fractions⟩) (q_are_fractions : PySem.W.codeIn K cd_are_fractions "are_fractions" = true) (t_are_fractions : PySem.W.keepIn K (.ref F_are_fractions) = true)
    (n_check_amount : PySem.W.nsIn K mainGlobals "check_amount" = some (some (.ref F_check_amount))) (l_check_amount : K.lookup F_check_amount = some ⟨oc_check_amount, od_check_amount, .func (PySem.W.fnOf "check_amount" "check_amount" (defArgs s_check_amount) (defBody s_check_amount) (defScope s_check_amount) .none kV_check_amount dc_check_amount pm_check_amount an_check_amount cd_check_amount ct_check_amount), sl_check_amount⟩) (q_check_amount : PySem.W.codeIn K cd_check_amount "check_amount" = true) (t_check_amount : PySem.W.keepIn K (.ref F_check_amount) = true)
    (n_slope_of : PySem.W.nsIn K mainGlobals "slope_of" = some (some (.ref F_slope_of))) (l_slope_of : K.lookup F_slope_of = some ⟨oc_slope_of, od_slope_of, .func (PySem.W.fnOf "slope_of" "slope_of" (defArgs s_slope_of) (defBody s_slope_of) (defScope s_slope_of) .none kV_slope_of dc_slope_of pm_slope_of an_slope_of cd_slope_of ct_slope_of), sl_slope_of⟩) (q_slope_of : PySem.W.codeIn K cd_slope_of "slope_of" = true) (t_slope_of : PySem.W.keepIn K (.ref F_slope_of) = true)
    (n_kind_speeds : PySem.W.nsIn K mainGlobals "kind_speeds" = some (some (.ref F_kind_speeds))) (l_kind_speeds : K.lookup F_kind_speeds = some ⟨oc_kind_speeds, od_kind_speeds, .func (PySem.W.fnOf "kind_speeds" "kind_speeds" (defArgs s_kind_speeds) (defBody s_kind_speeds) (defScope s_kind_speeds) .none kV_kind_speeds dc_kind_speeds pm_kind_speeds an_kind_speeds cd_kind_speeds ct_kind_speeds), sl_kind_speeds⟩) (q_kind_speeds : PySem.W.codeIn K cd_kind_speeds "kind_speeds" = true) (t_kind_speeds : PySem.W.keepIn K (.ref F_kind_speeds) = true)
    (n_is_kind : PySem.W.nsIn K mainGlobals "is_kind" = some (some (.ref F_is_kind))) (l_is_kind : K.lookup F_is_kind = some ⟨oc_is_kind, od_is_kind, .func (PySem.W.fnOf "is_kind" "is_kind" (defArgs s_is_kind) (defBody s_is_kind) (defScope s_is_kind) .none kV_is_kind dc_is_kind pm_is_kind an_is_kind cd_is_kind ct_is_kind), sl_is_kind⟩) (q_is_kind : PySem.W.codeIn K cd_is_kind "is_kind" = true) (t_is_kind : PySem.W.keepIn K (.ref F_is_kind) = true)
    (n_is_corner : PySem.W.nsIn K mainGlobals "is_corner" = some (some (.ref F_is_corner))) (l_is_corner : K.lookup F_is_corner = some ⟨oc_is_corner, od_is_corner, .func (PySem.W.fnOf "is_corner" "is_corner" (defArgs s_is_corner) (defBody s_is_corner) (defScope s_is_corner) .none kV_is_corner dc_is_corner pm_is_corner an_is_corner cd_is_corner ct_is_corner), sl_is_corner⟩) (q_is_corner : PySem.W.codeIn K cd_is_corner "is_corner" = true) (t_is_corner : PySem.W.keepIn K (.ref F_is_corner) = true)
    (n_check_kind : PySem.W.nsIn K mainGlobals "check_kind" = some (some (.ref F_check_kind))) (l_check_kind : K.lookup F_check_kind = some ⟨oc_check_kind, od_check_kind, .func (PySem.W.fnOf "check_kind" "check_kind" (defArgs s_check_kind) (defBody s_check_kind) (defScope s_check_kind) .none kV_check_kind dc_check_kind pm_check_kind an_check_kind cd_check_kind ct_check_kind), sl_check_kind⟩) (q_check_kind : PySem.W.codeIn K cd_check_kind "check_kind" = true) (t_check_kind : PySem.W.keepIn K (.ref F_check_kind) = true)
    (n_check_steps : PySem.W.nsIn K mainGlobals "check_steps" = some (some (.ref F_check_steps))) (l_check_steps : K.lookup F_check_steps = some ⟨oc_check_steps, od_check_steps, .func (PySem.W.fnOf "check_steps" "check_steps" (defArgs s_check_steps) (defBody s_check_steps) (defScope s_check_steps) .none kV_check_steps dc_check_steps pm_check_steps an_check_steps cd_check_steps ct_check_steps), sl_check_steps⟩) (q_check_steps : PySem.W.codeIn K cd_check_steps "check_steps" = true) (t_check_steps : PySem.W.keepIn K (.ref F_check_steps) = true)
    (n_places_gone : PySem.W.nsIn K mainGlobals "places_gone" = some (some (.ref F_places_gone))) (l_places_gone : K.lookup F_places_gone = some ⟨oc_places_gone, od_places_gone, .func (PySem.W.fnOf "places_gone" "places_gone" (defArgs s_places_gone) (defBody s_places_gone) (defScope s_places_gone) .none kV_places_gone dc_places_gone pm_places_gone an_places_gone cd_places_gone ct_places_gone), sl_places_gone⟩) (q_places_gone : PySem.W.codeIn K cd_places_gone "places_gone" = true) (t_places_gone : PySem.W.keepIn K (.ref F_places_gone) = true)
    (n_margins : PySem.W.nsIn K mainGlobals "margins" = some (some (.ref F_margins))) (l_margins : K.lookup F_margins = some ⟨oc_margins, od_margins, .func (PySem.W.fnOf "margins" "margins" (defArgs s_margins) (defBody s_margins) (defScope s_margins) .none kV_margins dc_margins pm_margins an_margins cd_margins ct_margins), sl_margins⟩) (q_margins : PySem.W.codeIn K cd_margins "margins" = true) (t_margins : PySem.W.keepIn K (.ref F_margins) = true)
    (n_even_row : PySem.W.nsIn K mainGlobals "even_row" = some (some (.ref F_even_row))) (l_even_row : K.lookup F_even_row = some ⟨oc_even_row, od_even_row, .func (PySem.W.fnOf "even_row" "even_row" (defArgs s_even_row) (defBody s_even_row) (defScope s_even_row) .none kV_even_row dc_even_row pm_even_row an_even_row cd_even_row ct_even_row), sl_even_row⟩) (q_even_row : PySem.W.codeIn K cd_even_row "even_row" = true) (t_even_row : PySem.W.keepIn K (.ref F_even_row) = true)
    (n_unlike_by : PySem.W.nsIn K mainGlobals "unlike_by" = some (some (.ref F_unlike_by))) (l_unlike_by : K.lookup F_unlike_by = some ⟨oc_unlike_by, od_unlike_by, .func (PySem.W.fnOf "unlike_by" "unlike_by" (defArgs s_unlike_by) (defBody s_unlike_by) (defScope s_unlike_by) .none kV_unlike_by dc_unlike_by pm_unlike_by an_unlike_by cd_unlike_by ct_unlike_by), sl_unlike_by⟩) (q_unlike_by : PySem.W.codeIn K cd_unlike_by "unlike_by" = true) (t_unlike_by : PySem.W.keepIn K (.ref F_unlike_by) = true)
    (n_row_or_too_many : PySem.W.nsIn K mainGlobals "row_or_too_many" = some (some (.ref F_row_or_too_many))) (l_row_or_too_many : K.lookup F_row_or_too_many = some ⟨oc_row_or_too_many, od_row_or_too_many, .func (PySem.W.fnOf "row_or_too_many" "row_or_too_many" (defArgs s_row_or_too_many) (defBody s_row_or_too_many) (defScope s_row_or_too_many) .none kV_row_or_too_many dc_row_or_too_many pm_row_or_too_many an_row_or_too_many cd_row_or_too_many ct_row_or_too_many), sl_row_or_too_many⟩) (q_row_or_too_many : PySem.W.codeIn K cd_row_or_too_many "row_or_too_many" = true) (t_row_or_too_many : PySem.W.keepIn K (.ref F_row_or_too_many) = true)
    (n_unlike_row : PySem.W.nsIn K mainGlobals "unlike_row" = some (some (.ref F_unlike_row))) (l_unlike_row : K.lookup F_unlike_row = some ⟨oc_unlike_row, od_unlike_row, .func (PySem.W.fnOf "unlike_row" "unlike_row" (defArgs s_unlike_row) (defBody s_unlike_row) (defScope s_unlike_row) .none kV_unlike_row dc_unlike_row pm_unlike_row an_unlike_row cd_unlike_row ct_unlike_row), sl_unlike_row⟩) (q_unlike_row : PySem.W.codeIn K cd_unlike_row "unlike_row" = true) (t_unlike_row : PySem.W.keepIn K (.ref F_unlike_row) = true)
    (n_L_cask : PySem.W.nsIn K mainGlobals "_law_cask" = some (some (.ref F_L_cask))) (l_L_cask : K.lookup F_L_cask = some ⟨oc_L_cask, od_L_cask, .func (PySem.W.fnOf "_law_cask" "_law_cask" (defArgs s_L_cask) (defBody s_L_cask) (defScope s_L_cask) .none kV_L_cask dc_L_cask pm_L_cask an_L_cask cd_L_cask ct_L_cask), sl_L_cask⟩) (q_L_cask : PySem.W.codeIn K cd_L_cask "_law_cask" = true) (t_L_cask : PySem.W.keepIn K (.ref F_L_cask) = true)
    (n_L_tap : PySem.W.nsIn K mainGlobals "_law_tap" = some (some (.ref F_L_tap))) (l_L_tap : K.lookup F_L_tap = some ⟨oc_L_tap, od_L_tap, .func (PySem.W.fnOf "_law_tap" "_law_tap" (defArgs s_L_tap) (defBody s_L_tap) (defScope s_L_tap) .none kV_L_tap dc_L_tap pm_L_tap an_L_tap cd_L_tap ct_L_tap), sl_L_tap⟩) (q_L_tap : PySem.W.codeIn K cd_L_tap "_law_tap" = true) (t_L_tap : PySem.W.keepIn K (.ref F_L_tap) = true)
    (n_L_of : PySem.W.nsIn K mainGlobals "_law_of" = some (some (.ref F_L_of))) (l_L_of : K.lookup F_L_of = some ⟨oc_L_of, od_L_of, .func (PySem.W.fnOf "_law_of" "_law_of" (defArgs s_L_of) (defBody s_L_of) (defScope s_L_of) .none kV_L_of dc_L_of pm_L_of an_L_of cd_L_of ct_L_of), sl_L_of⟩) (q_L_of : PySem.W.codeIn K cd_L_of "_law_of" = true) (t_L_of : PySem.W.keepIn K (.ref F_L_of) = true)
    (n_L_cut : PySem.W.nsIn K mainGlobals "_law_cut" = some (some (.ref F_L_cut))) (l_L_cut : K.lookup F_L_cut = some ⟨oc_L_cut, od_L_cut, .func (PySem.W.fnOf "_law_cut" "_law_cut" (defArgs s_L_cut) (defBody s_L_cut) (defScope s_L_cut) .none kV_L_cut dc_L_cut pm_L_cut an_L_cut cd_L_cut ct_L_cut), sl_L_cut⟩) (q_L_cut : PySem.W.codeIn K cd_L_cut "_law_cut" = true) (t_L_cut : PySem.W.keepIn K (.ref F_L_cut) = true)
    (n_L_even : PySem.W.nsIn K mainGlobals "_law_even" = some (some (.ref F_L_even))) (l_L_even : K.lookup F_L_even = some ⟨oc_L_even, od_L_even, .func (PySem.W.fnOf "_law_even" "_law_even" (defArgs s_L_even) (defBody s_L_even) (defScope s_L_even) .none kV_L_even dc_L_even pm_L_even an_L_even cd_L_even ct_L_even), sl_L_even⟩) (q_L_even : PySem.W.codeIn K cd_L_even "_law_even" = true) (t_L_even : PySem.W.keepIn K (.ref F_L_even) = true)
    (n_L_sum : PySem.W.nsIn K mainGlobals "_law_sum" = some (some (.ref F_L_sum))) (l_L_sum : K.lookup F_L_sum = some ⟨oc_L_sum, od_L_sum, .func (PySem.W.fnOf "_law_sum" "_law_sum" (defArgs s_L_sum) (defBody s_L_sum) (defScope s_L_sum) .none kV_L_sum dc_L_sum pm_L_sum an_L_sum cd_L_sum ct_L_sum), sl_L_sum⟩) (q_L_sum : PySem.W.codeIn K cd_L_sum "_law_sum" = true) (t_L_sum : PySem.W.keepIn K (.ref F_L_sum) = true)
    (n_L_gap : PySem.W.nsIn K mainGlobals "_law_gap" = some (some (.ref F_L_gap))) (l_L_gap : K.lookup F_L_gap = some ⟨oc_L_gap, od_L_gap, .func (PySem.W.fnOf "_law_gap" "_law_gap" (defArgs s_L_gap) (defBody s_L_gap) (defScope s_L_gap) .none kV_L_gap dc_L_gap pm_L_gap an_L_gap cd_L_gap ct_L_gap), sl_L_gap⟩) (q_L_gap : PySem.W.codeIn K cd_L_gap "_law_gap" = true) (t_L_gap : PySem.W.keepIn K (.ref F_L_gap) = true)
    (n_L_by : PySem.W.nsIn K mainGlobals "_law_by" = some (some (.ref F_L_by))) (l_L_by : K.lookup F_L_by = some ⟨oc_L_by, od_L_by, .func (PySem.W.fnOf "_law_by" "_law_by" (defArgs s_L_by) (defBody s_L_by) (defScope s_L_by) .none kV_L_by dc_L_by pm_L_by an_L_by cd_L_by ct_L_by), sl_L_by⟩) (q_L_by : PySem.W.codeIn K cd_L_by "_law_by" = true) (t_L_by : PySem.W.keepIn K (.ref F_L_by) = true)
    (n_L_per : PySem.W.nsIn K mainGlobals "_law_per" = some (some (.ref F_L_per))) (l_L_per : K.lookup F_L_per = some ⟨oc_L_per, od_L_per, .func (PySem.W.fnOf "_law_per" "_law_per" (defArgs s_L_per) (defBody s_L_per) (defScope s_L_per) .none kV_L_per dc_L_per pm_L_per an_L_per cd_L_per ct_L_per), sl_L_per⟩) (q_L_per : PySem.W.codeIn K cd_L_per "_law_per" = true) (t_L_per : PySem.W.keepIn K (.ref F_L_per) = true)
    (n_L_kind : PySem.W.nsIn K mainGlobals "_law_kind" = some (some (.ref F_L_kind))) (l_L_kind : K.lookup F_L_kind = some ⟨oc_L_kind, od_L_kind, .func (PySem.W.fnOf "_law_kind" "_law_kind" (defArgs s_L_kind) (defBody s_L_kind) (defScope s_L_kind) .none kV_L_kind dc_L_kind pm_L_kind an_L_kind cd_L_kind ct_L_kind), sl_L_kind⟩) (q_L_kind : PySem.W.codeIn K cd_L_kind "_law_kind" = true) (t_L_kind : PySem.W.keepIn K (.ref F_L_kind) = true)
    (n_L_speeds : PySem.W.nsIn K mainGlobals "_law_speeds" = some (some (.ref F_L_speeds))) (l_L_speeds : K.lookup F_L_speeds = some ⟨oc_L_speeds, od_L_speeds, .func (PySem.W.fnOf "_law_speeds" "_law_speeds" (defArgs s_L_speeds) (defBody s_L_speeds) (defScope s_L_speeds) .none kV_L_speeds dc_L_speeds pm_L_speeds an_L_speeds cd_L_speeds ct_L_speeds), sl_L_speeds⟩) (q_L_speeds : PySem.W.codeIn K cd_L_speeds "_law_speeds" = true) (t_L_speeds : PySem.W.keepIn K (.ref F_L_speeds) = true)
    (n_L_toll : PySem.W.nsIn K mainGlobals "_law_toll" = some (some (.ref F_L_toll))) (l_L_toll : K.lookup F_L_toll = some ⟨oc_L_toll, od_L_toll, .func (PySem.W.fnOf "_law_toll" "_law_toll" (defArgs s_L_toll) (defBody s_L_toll) (defScope s_L_toll) .none kV_L_toll dc_L_toll pm_L_toll an_L_toll cd_L_toll ct_L_toll), sl_L_toll⟩) (q_L_toll : PySem.W.codeIn K cd_L_toll "_law_toll" = true) (t_L_toll : PySem.W.keepIn K (.ref F_L_toll) = true)
    (n_L_along : PySem.W.nsIn K mainGlobals "_law_along" = some (some (.ref F_L_along))) (l_L_along : K.lookup F_L_along = some ⟨oc_L_along, od_L_along, .func (PySem.W.fnOf "_law_along" "_law_along" (defArgs s_L_along) (defBody s_L_along) (defScope s_L_along) .none kV_L_along dc_L_along pm_L_along an_L_along cd_L_along ct_L_along), sl_L_along⟩) (q_L_along : PySem.W.codeIn K cd_L_along "_law_along" = true) (t_L_along : PySem.W.keepIn K (.ref F_L_along) = true)
    (n_L_least : PySem.W.nsIn K mainGlobals "_law_least" = some (some (.ref F_L_least))) (l_L_least : K.lookup F_L_least = some ⟨oc_L_least, od_L_least, .func (PySem.W.fnOf "_law_least" "_law_least" (defArgs s_L_least) (defBody s_L_least) (defScope s_L_least) .none kV_L_least dc_L_least pm_L_least an_L_least cd_L_least ct_L_least), sl_L_least⟩) (q_L_least : PySem.W.codeIn K cd_L_least "_law_least" = true) (t_L_least : PySem.W.keepIn K (.ref F_L_least) = true)
    (n_L_ceil : PySem.W.nsIn K mainGlobals "_law_ceil" = some (some (.ref F_L_ceil))) (l_L_ceil : K.lookup F_L_ceil = some ⟨oc_L_ceil, od_L_ceil, .func (PySem.W.fnOf "_law_ceil" "_law_ceil" (defArgs s_L_ceil) (defBody s_L_ceil) (defScope s_L_ceil) .none kV_L_ceil dc_L_ceil pm_L_ceil an_L_ceil cd_L_ceil ct_L_ceil), sl_L_ceil⟩) (q_L_ceil : PySem.W.codeIn K cd_L_ceil "_law_ceil" = true) (t_L_ceil : PySem.W.keepIn K (.ref F_L_ceil) = true)
    (n_L_spots : PySem.W.nsIn K mainGlobals "_law_spots" = some (some (.ref F_L_spots))) (l_L_spots : K.lookup F_L_spots = some ⟨oc_L_spots, od_L_spots, .func (PySem.W.fnOf "_law_spots" "_law_spots" (defArgs s_L_spots) (defBody s_L_spots) (defScope s_L_spots) .none kV_L_spots dc_L_spots pm_L_spots an_L_spots cd_L_spots ct_L_spots), sl_L_spots⟩) (q_L_spots : PySem.W.codeIn K cd_L_spots "_law_spots" = true) (t_L_spots : PySem.W.keepIn K (.ref F_L_spots) = true)
    (n_L_cells : PySem.W.nsIn K mainGlobals "_law_cells" = some (some (.ref F_L_cells))) (l_L_cells : K.lookup F_L_cells = some ⟨oc_L_cells, od_L_cells, .func (PySem.W.fnOf "_law_cells" "_law_cells" (defArgs s_L_cells) (defBody s_L_cells) (defScope s_L_cells) .none kV_L_cells dc_L_cells pm_L_cells an_L_cells cd_L_cells ct_L_cells), sl_L_cells⟩) (q_L_cells : PySem.W.codeIn K cd_L_cells "_law_cells" = true) (t_L_cells : PySem.W.keepIn K (.ref F_L_cells) = true)
    (n_L_truth : PySem.W.nsIn K mainGlobals "_law_truth" = some (some (.ref F_L_truth))) (l_L_truth : K.lookup F_L_truth = some ⟨oc_L_truth, od_L_truth, .func (PySem.W.fnOf "_law_truth" "_law_truth" (defArgs s_L_truth) (defBody s_L_truth) (defScope s_L_truth) .none kV_L_truth dc_L_truth pm_L_truth an_L_truth cd_L_truth ct_L_truth), sl_L_truth⟩) (q_L_truth : PySem.W.codeIn K cd_L_truth "_law_truth" = true) (t_L_truth : PySem.W.keepIn K (.ref F_L_truth) = true)
    (n_L_fit : PySem.W.nsIn K mainGlobals "_law_fit" = some (some (.ref F_L_fit))) (l_L_fit : K.lookup F_L_fit = some ⟨oc_L_fit, od_L_fit, .func (PySem.W.fnOf "_law_fit" "_law_fit" (defArgs s_L_fit) (defBody s_L_fit) (defScope s_L_fit) .none kV_L_fit dc_L_fit pm_L_fit an_L_fit cd_L_fit ct_L_fit), sl_L_fit⟩) (q_L_fit : PySem.W.codeIn K cd_L_fit "_law_fit" = true) (t_L_fit : PySem.W.keepIn K (.ref F_L_fit) = true)
    (n_L_is_fraction : PySem.W.nsIn K mainGlobals "_law_is_fraction" = some (some (.ref F_L_is_fraction))) (l_L_is_fraction : K.lookup F_L_is_fraction = some ⟨oc_L_is_fraction, od_L_is_fraction, .func (PySem.W.fnOf "_law_is_fraction" "_law_is_fraction" (defArgs s_L_is_fraction) (defBody s_L_is_fraction) (defScope s_L_is_fraction) .none kV_L_is_fraction dc_L_is_fraction pm_L_is_fraction an_L_is_fraction cd_L_is_fraction ct_L_is_fraction), sl_L_is_fraction⟩) (q_L_is_fraction : PySem.W.codeIn K cd_L_is_fraction "_law_is_fraction" = true) (t_L_is_fraction : PySem.W.keepIn K (.ref F_L_is_fraction) = true)
    (n_L_told : PySem.W.nsIn K mainGlobals "_law_told" = some (some (.ref F_L_told))) (l_L_told : K.lookup F_L_told = some ⟨oc_L_told, od_L_told, .func (PySem.W.fnOf "_law_told" "_law_told" (defArgs s_L_told) (defBody s_L_told) (defScope s_L_told) .none kV_L_told dc_L_told pm_L_told an_L_told cd_L_told ct_L_told), sl_L_told⟩) (q_L_told : PySem.W.codeIn K cd_L_told "_law_told" = true) (t_L_told : PySem.W.keepIn K (.ref F_L_told) = true)
    (n_L_is_row : PySem.W.nsIn K mainGlobals "_law_is_row" = some (some (.ref F_L_is_row))) (l_L_is_row : K.lookup F_L_is_row = some ⟨oc_L_is_row, od_L_is_row, .func (PySem.W.fnOf "_law_is_row" "_law_is_row" (defArgs s_L_is_row) (defBody s_L_is_row) (defScope s_L_is_row) .none kV_L_is_row dc_L_is_row pm_L_is_row an_L_is_row cd_L_is_row ct_L_is_row), sl_L_is_row⟩) (q_L_is_row : PySem.W.codeIn K cd_L_is_row "_law_is_row" = true) (t_L_is_row : PySem.W.keepIn K (.ref F_L_is_row) = true)
    (n_L_right : PySem.W.nsIn K mainGlobals "_law_right" = some (some (.ref F_L_right))) (l_L_right : K.lookup F_L_right = some ⟨oc_L_right, od_L_right, .func (PySem.W.fnOf "_law_right" "_law_right" (defArgs s_L_right) (defBody s_L_right) (defScope s_L_right) .none kV_L_right dc_L_right pm_L_right an_L_right cd_L_right ct_L_right), sl_L_right⟩) (q_L_right : PySem.W.codeIn K cd_L_right "_law_right" = true) (t_L_right : PySem.W.keepIn K (.ref F_L_right) = true)
    (n_law : PySem.W.nsIn K mainGlobals "law" = some (some (.ref F_law))) (l_law : K.lookup F_law = some ⟨oc_law, od_law, .func (PySem.W.fnOf "law" "law" (defArgs s_law) (defBody s_law) (defScope s_law) .none kV_law dc_law pm_law an_law cd_law ct_law), sl_law⟩) (q_law : PySem.W.codeIn K cd_law "law" = true) (t_law : PySem.W.keepIn K (.ref F_law) = true)
    (n_NOUGHT : PySem.W.nsIn K mainGlobals "NOUGHT" = some (some (.ref A_NOUGHT))) (l_NOUGHT : K.lookup A_NOUGHT = some ⟨.type "tuple", aod_NOUGHT, .seq #[.int 0 at_NOUGHT_0, .int 1 at_NOUGHT_1] an_NOUGHT, asl_NOUGHT⟩)
    (n_LEAST_CORNERS : PySem.W.nsIn K mainGlobals "LEAST_CORNERS" = some (some (.int 3 tk_LEAST_CORNERS)))
    (n_MOST_CORNERS : PySem.W.nsIn K mainGlobals "MOST_CORNERS" = some (some (.int 12 tk_MOST_CORNERS)))
    (n_MOST_PLACES : PySem.W.nsIn K mainGlobals "MOST_PLACES" = some (some (.int 40 tk_MOST_PLACES)))
    (n_HALF : PySem.W.nsIn K mainGlobals "HALF" = some (some (.ref A_HALF))) (l_HALF : K.lookup A_HALF = some ⟨.type "tuple", aod_HALF, .seq #[.int 1 at_HALF_0, .int 2 at_HALF_1] an_HALF, asl_HALF⟩)
    (n_gcd : PySem.W.nsIn K mainGlobals "gcd" = some (some (.builtin "math.gcd")))
    (z_len : PySem.W.nsIn K mainGlobals "len" = some none)
    (z_int : PySem.W.nsIn K mainGlobals "int" = some none)
    (z_tuple : PySem.W.nsIn K mainGlobals "tuple" = some none)
    (z_abs : PySem.W.nsIn K mainGlobals "abs" = some none)
    (z_repr : PySem.W.nsIn K mainGlobals "repr" = some none)
    (z_all : PySem.W.nsIn K mainGlobals "all" = some none)
    (z_list : PySem.W.nsIn K mainGlobals "list" = some none)
    (z_divmod : PySem.W.nsIn K mainGlobals "divmod" = some none)
    (z_isinstance : PySem.W.nsIn K mainGlobals "isinstance" = some none)
    (z_bool : PySem.W.nsIn K mainGlobals "bool" = some none)
    (z_range : PySem.W.nsIn K mainGlobals "range" = some none)
    (z_zip : PySem.W.nsIn K mainGlobals "zip" = some none)
    (n_c_TooMany : PySem.W.nsIn K mainGlobals "TooMany" = some (some (.ref C_TooMany)))
    (n_c_RoadError : PySem.W.nsIn K mainGlobals "RoadError" = some (some (.ref C_RoadError)))
    (z_c_ValueError : PySem.W.nsIn K mainGlobals "ValueError" = some none)
    (xL_TooMany : K.lookup C_TooMany = some (PySem.excClassObj nm_TooMany q_TooMany C_TooMany N_TooMany bs_TooMany [.ref B0_TooMany, .type "ValueError", .type "Exception", .type "BaseException", .type "object"] true sn_TooMany sb_TooMany ab_TooMany col_TooMany dd_TooMany m0_TooMany m1_TooMany m2_TooMany m3_TooMany m5_TooMany "ValueError.__new__"))
    (xsa_TooMany : PySem.W.findIn K (.ref C_TooMany) "__setattr__" = some (some (.builtin "object.__setattr__")))
    (xga_TooMany : PySem.W.findIn K (.ref C_TooMany) "__getattribute__" = some (some (.builtin "BaseException.__getattribute__")))
    (xgg_TooMany : PySem.W.findIn K (.ref C_TooMany) "__getattr__" = some none)
    (xno_TooMany : PySem.W.findIn K (.ref C_TooMany) "given" = some none)
    (xi_TooMany : PySem.W.findIn K (.ref C_TooMany) "__init__" = some (some (.ref fI_TooMany)))
    (xti_TooMany : PySem.W.typeIn K (.ref fI_TooMany) = some (.type "function"))
    (xl_TooMany : K.lookup fI_TooMany = some ⟨ioc_TooMany, iod_TooMany, .func (PySem.W.fnOf "__init__" "TooMany.__init__" (PD.XG.iA ⟨15, 17, 15, 21⟩ ⟨15, 23, 15, 28⟩) (PD.XG.iB ⟨16, 8, 16, 12⟩ ⟨16, 8, 16, 18⟩ ⟨16, 21, 16, 26⟩ ⟨16, 8, 16, 26⟩) PD.XG.iS .none .none idc_TooMany ipm_TooMany ian_TooMany icd_TooMany ict_TooMany), isl_TooMany⟩)
    (xcd_TooMany : PySem.W.codeIn K icd_TooMany "TooMany.__init__" = true)
    (xk_TooMany : PySem.W.keepIn K (.ref C_TooMany) = true)
    (xs_TooMany : PySem.W.subIn K (.ref C_TooMany) (.type "BaseException") = some true)
    (xt_TooMany : PySem.W.typeIn K (.ref C_TooMany) = some (.type "type"))
    (xh_TooMany : PySem.W.hasDictIn K C_TooMany = true)
    (xsc_TooMany : PySem.W.subIn K (.ref C_TooMany) (.ref C_TooMany) = some true)
    (eg_TooMany : PySem.W.findIn K (.ref C_TooMany) "__getattribute__" = some (some (.builtin "BaseException.__getattribute__")))
    (ek_TooMany : PySem.W.findIn K (.ref C_TooMany) "__getattr__" = some none)
    (es_TooMany : PySem.W.subIn K (.ref C_TooMany) (.type "BaseException") = some true)
    (ed_TooMany : PySem.W.hasDictIn K C_TooMany = true)
    (ea_TooMany : PySem.W.findIn K (.ref C_TooMany) "__class__" = some (some (.builtin "object.__class__")))
    (en_TooMany : PySem.W.specialIn K (.builtin "object.__class__") "__get__" = some (some (.builtin "getset_descriptor.__get__")))
    (et_TooMany : PySem.W.takesIn K (.builtin "object.__class__") = some true)
    (em_TooMany : PySem.W.mroIn K C_TooMany (.type "object") = some true)
    (td_TooMany : PySem.W.hasDictIn K C_TooMany = true)
    (tt_TooMany : PySem.W.typeIn K (.ref C_TooMany) = some (.type "type"))
    (ts_TooMany : PySem.W.subIn K (.ref C_TooMany) (.type "BaseException") = some true)
    (td_RoadError : PySem.W.hasDictIn K C_RoadError = true)
    (tt_RoadError : PySem.W.typeIn K (.ref C_RoadError) = some (.type "type"))
    (ts_RoadError : PySem.W.subIn K (.ref C_RoadError) (.type "BaseException") = some true)
    (ts_ValueError : PySem.W.subIn K (.type "ValueError") (.type "BaseException") = some true)
    (su_TooMany_TooMany : PySem.W.subIn K (.ref C_TooMany) (.ref C_TooMany) = some true)
    (su_TooMany_RoadError : PySem.W.subIn K (.ref C_TooMany) (.ref C_RoadError) = some true)
    (su_TooMany_ValueError : PySem.W.subIn K (.ref C_TooMany) (.type "ValueError") = some true) : Sound K mg G T := by
  have v_TooMany : NameV mg "TooMany" (.ref C_TooMany) := .inl ⟨PySem.W.mg_of X Gn n_c_TooMany, _, rfl⟩
  have v_RoadError : NameV mg "RoadError" (.ref C_RoadError) := .inl ⟨PySem.W.mg_of X Gn n_c_RoadError, _, rfl⟩
  have v_ValueError : NameV mg "ValueError" (.type "ValueError") := .inr ⟨PySem.W.mg_none_of X Gn z_c_ValueError, rfl, by decide, _, rfl⟩
  refine ⟨fun y hy => ?_, fun x d hx => ?_, fun x d hx => ?_, fun x hx => ?_, fun n fs hx => ?_, fun x hx => ?_, fun n x b hx C cv hC hcv => ?_⟩
  · simp only [T, List.mem_cons, List.not_mem_nil, or_false] at hy
    rcases hy with rfl | rfl | rfl | rfl | rfl | rfl | rfl | rfl | rfl | rfl | rfl | rfl | rfl | rfl | rfl | rfl | rfl | rfl | rfl | rfl | rfl | rfl | rfl | rfl | rfl | rfl | rfl | rfl | rfl | rfl | rfl | rfl | rfl | rfl | rfl | rfl | rfl | rfl | rfl | rfl | rfl | rfl | rfl | rfl | rfl | rfl | rfl | rfl | rfl | rfl | rfl
    · exact stands_mk X Gn n_is_whole l_is_whole q_is_whole t_is_whole f_is_whole k_is_whole (fun _ z => nomatch z) (fun _ us h => match us, h with | [_], _ => .of_eq rfl) (fun _ z => nomatch z)
    · exact stands_mk X Gn n_are_wholes l_are_wholes q_are_wholes t_are_wholes f_are_wholes k_are_wholes (fun _ z => nomatch z) (fun _ us h => match us, h with | [_, _], _ => .of_eq rfl) (fun _ z => nomatch z)
    · exact stands_mk X Gn n_common_part l_common_part q_common_part t_common_part f_common_part k_common_part (fun _ z => nomatch z) (fun _ us h => match us, h with | [_], _ => .of_eq rfl) (fun _ z => nomatch z)
    · exact stands_mk X Gn n_lowest l_lowest q_lowest t_lowest f_lowest k_lowest (fun _ z => nomatch z) (fun _ us h => match us, h with | [_], _ => .of_eq rfl) (fun _ z => nomatch z)
    · exact stands_mk X Gn n_lowest_over l_lowest_over q_lowest_over t_lowest_over f_lowest_over k_lowest_over (fun _ z => nomatch z) (fun _ us h => match us, h with | [_, _], _ => .of_eq rfl) (fun _ z => nomatch z)
    · exact stands_mk X Gn n_ratio l_ratio q_ratio t_ratio f_ratio k_ratio (fun _ z => nomatch z) (fun _ us h => match us, h with | [_, _], _ => .of_eq rfl) (fun _ z => nomatch z)
    · exact stands_mk X Gn n_plus l_plus q_plus t_plus f_plus k_plus (fun _ z => nomatch z) (fun _ us h => match us, h with | [_, _], _ => .of_eq rfl) (fun _ z => nomatch z)
    · exact stands_mk X Gn n_minus l_minus q_minus t_minus f_minus k_minus (fun _ z => nomatch z) (fun _ us h => match us, h with | [_, _], _ => .of_eq rfl) (fun _ z => nomatch z)
    · exact stands_mk X Gn n_times l_times q_times t_times f_times k_times (fun _ z => nomatch z) (fun _ us h => match us, h with | [_, _], _ => .of_eq rfl) (fun _ z => nomatch z)
    · exact stands_mk X Gn n_divided l_divided q_divided t_divided f_divided k_divided (fun _ z => nomatch z) (fun _ us h => match us, h with | [_, _], _ => .of_eq rfl) (fun _ z => nomatch z)
    · exact stands_mk X Gn n_is_below l_is_below q_is_below t_is_below f_is_below k_is_below (fun _ z => nomatch z) (fun _ us h => match us, h with | [_, _], _ => .of_eq rfl) (fun _ z => nomatch z)
    · exact stands_mk X Gn n_is_fraction l_is_fraction q_is_fraction t_is_fraction f_is_fraction k_is_fraction (fun _ z => nomatch z) (fun _ us h => match us, h with | [_], _ => .of_eq rfl) (fun _ z => nomatch z)
    · exact stands_mk X Gn n_is_amount l_is_amount q_is_amount t_is_amount f_is_amount k_is_amount (fun _ z => nomatch z) (fun _ us h => match us, h with | [_], _ => .of_eq rfl) (fun _ z => nomatch z)
    · exact stands_mk X Gn n_are_fractions l_are_fractions q_are_fractions t_are_fractions f_are_fractions k_are_fractions (fun _ z => nomatch z) (fun _ us h => match us, h with | [_, _], _ => .of_eq rfl) (fun _ z => nomatch z)
    · exact stands_mk X Gn n_check_amount l_check_amount q_check_amount t_check_amount f_check_amount k_check_amount (fun _ z => nomatch z) (fun _ us h => match us, h with | [_], _ => .of_eq rfl) (fun _ z => nomatch z)
    · exact stands_mk X Gn n_slope_of l_slope_of q_slope_of t_slope_of f_slope_of k_slope_of (fun _ z => nomatch z) (fun _ us h => match us, h with | [_, _], _ => .of_eq rfl) (fun _ z => nomatch z)
    · exact stands_mk X Gn n_kind_speeds l_kind_speeds q_kind_speeds t_kind_speeds f_kind_speeds k_kind_speeds (fun _ z => nomatch z) (fun _ us h => match us, h with | [_], _ => .of_eq rfl) (fun _ z => nomatch z)
    · exact stands_mk X Gn n_is_kind l_is_kind q_is_kind t_is_kind f_is_kind k_is_kind (fun _ z => nomatch z) (fun _ us h => match us, h with | [_], _ => .of_eq rfl) (fun _ z => nomatch z)
    · exact stands_mk X Gn n_is_corner l_is_corner q_is_corner t_is_corner f_is_corner k_is_corner (fun _ z => nomatch z) (fun _ us h => match us, h with | [_], _ => .of_eq rfl) (fun _ z => nomatch z)
    · exact stands_mk X Gn n_check_kind l_check_kind q_check_kind t_check_kind f_check_kind k_check_kind (fun _ z => nomatch z) (fun _ us h => match us, h with | [_], _ => .of_eq rfl) (fun _ z => nomatch z)
    · exact stands_mk X Gn n_check_steps l_check_steps q_check_steps t_check_steps f_check_steps k_check_steps (fun _ z => nomatch z) (fun _ us h => match us, h with | [_, _, _], _ => .of_eq rfl) (fun _ z => nomatch z)
    · exact stands_mk X Gn n_places_gone l_places_gone q_places_gone t_places_gone f_places_gone k_places_gone (fun _ z => nomatch z) (fun _ us h => match us, h with | [_, _, _], _ => .of_eq rfl) (fun _ z => nomatch z)
    · exact stands_mk X Gn n_margins l_margins q_margins t_margins f_margins k_margins (fun _ z => nomatch z) (fun _ us h => match us, h with | [_, _, _], _ => .of_eq rfl) (fun _ z => nomatch z)
    · exact stands_mk X Gn n_even_row l_even_row q_even_row t_even_row f_even_row k_even_row (fun _ z => nomatch z) (fun _ us h => match us, h with | [_, _, _], _ => .of_eq rfl) (fun _ z => nomatch z)
    · exact stands_mk X Gn n_unlike_by l_unlike_by q_unlike_by t_unlike_by f_unlike_by k_unlike_by (fun _ z => nomatch z) (fun _ us h => match us, h with | [_, _, _], _ => .of_eq rfl) (fun _ z => nomatch z)
    · exact stands_mk X Gn n_row_or_too_many l_row_or_too_many q_row_or_too_many t_row_or_too_many f_row_or_too_many k_row_or_too_many (fun _ z => nomatch z) (fun _ us h => match us, h with | [_, _, _], _ => .of_eq rfl) (fun _ z => nomatch z)
    · have b2 : ∀ a ∈ a_unlike_row, ∀ (s : Shared) (us ws : List Value), us.length = a.1 → ws.length = a.2.1.length → BindsTo s (PySem.W.fnOf "unlike_row" "unlike_row" (defArgs s_unlike_row) (defBody s_unlike_row) (defScope s_unlike_row) .none kV_unlike_row dc_unlike_row pm_unlike_row an_unlike_row cd_unlike_row ct_unlike_row) ⟨us, a.2.1.zip ws⟩ (p_unlike_row.zip (atU a.2.2 (us ++ ws))) := by
        intro a ha
        simp only [a_unlike_row, List.mem_cons, List.not_mem_nil, or_false] at ha
        rcases ha with rfl
        · intro s us ws h1 h2; exact match us, h1, ws, h2 with | [], _, [_, _, _], _ => .of_eq rfl
      exact stands_mk X Gn n_unlike_row l_unlike_row q_unlike_row t_unlike_row f_unlike_row k_unlike_row (by decide) (fun _ us h => match us, h with | [_, _, _], _ => .of_eq rfl) b2
    · exact stands_mk X Gn n_L_cask l_L_cask q_L_cask t_L_cask f_L_cask k_L_cask (fun _ z => nomatch z) (fun _ us h => match us, h with | [_, _], _ => .of_eq rfl) (fun _ z => nomatch z)
    · exact stands_mk X Gn n_L_tap l_L_tap q_L_tap t_L_tap f_L_tap k_L_tap (fun _ z => nomatch z) (fun _ us h => match us, h with | [_, _], _ => .of_eq rfl) (fun _ z => nomatch z)
    · exact stands_mk X Gn n_L_of l_L_of q_L_of t_L_of f_L_of k_L_of (fun _ z => nomatch z) (fun _ us h => match us, h with | [_, _], _ => .of_eq rfl) (fun _ z => nomatch z)
    · exact stands_mk X Gn n_L_cut l_L_cut q_L_cut t_L_cut f_L_cut k_L_cut (fun _ z => nomatch z) (fun _ us h => match us, h with | [_, _], _ => .of_eq rfl) (fun _ z => nomatch z)
    · exact stands_mk X Gn n_L_even l_L_even q_L_even t_L_even f_L_even k_L_even (fun _ z => nomatch z) (fun _ us h => match us, h with | [_], _ => .of_eq rfl) (fun _ z => nomatch z)
    · exact stands_mk X Gn n_L_sum l_L_sum q_L_sum t_L_sum f_L_sum k_L_sum (fun _ z => nomatch z) (fun _ us h => match us, h with | [_, _], _ => .of_eq rfl) (fun _ z => nomatch z)
    · exact stands_mk X Gn n_L_gap l_L_gap q_L_gap t_L_gap f_L_gap k_L_gap (fun _ z => nomatch z) (fun _ us h => match us, h with | [_, _], _ => .of_eq rfl) (fun _ z => nomatch z)
    · exact stands_mk X Gn n_L_by l_L_by q_L_by t_L_by f_L_by k_L_by (fun _ z => nomatch z) (fun _ us h => match us, h with | [_, _], _ => .of_eq rfl) (fun _ z => nomatch z)
    · exact stands_mk X Gn n_L_per l_L_per q_L_per t_L_per f_L_per k_L_per (fun _ z => nomatch z) (fun _ us h => match us, h with | [_, _], _ => .of_eq rfl) (fun _ z => nomatch z)
    · exact stands_mk X Gn n_L_kind l_L_kind q_L_kind t_L_kind f_L_kind k_L_kind (fun _ z => nomatch z) (fun _ us h => match us, h with | [_], _ => .of_eq rfl) (fun _ z => nomatch z)
    · exact stands_mk X Gn n_L_speeds l_L_speeds q_L_speeds t_L_speeds f_L_speeds k_L_speeds (fun _ z => nomatch z) (fun _ us h => match us, h with | [_], _ => .of_eq rfl) (fun _ z => nomatch z)
    · exact stands_mk X Gn n_L_toll l_L_toll q_L_toll t_L_toll f_L_toll k_L_toll (fun _ z => nomatch z) (fun _ us h => match us, h with | [_, _, _], _ => .of_eq rfl) (fun _ z => nomatch z)
    · exact stands_mk X Gn n_L_along l_L_along q_L_along t_L_along f_L_along k_L_along (fun _ z => nomatch z) (fun _ us h => match us, h with | [_, _], _ => .of_eq rfl) (fun _ z => nomatch z)
    · exact stands_mk X Gn n_L_least l_L_least q_L_least t_L_least f_L_least k_L_least (fun _ z => nomatch z) (fun _ us h => match us, h with | [_], _ => .of_eq rfl) (fun _ z => nomatch z)
    · exact stands_mk X Gn n_L_ceil l_L_ceil q_L_ceil t_L_ceil f_L_ceil k_L_ceil (fun _ z => nomatch z) (fun _ us h => match us, h with | [_], _ => .of_eq rfl) (fun _ z => nomatch z)
    · exact stands_mk X Gn n_L_spots l_L_spots q_L_spots t_L_spots f_L_spots k_L_spots (fun _ z => nomatch z) (fun _ us h => match us, h with | [_, _, _], _ => .of_eq rfl) (fun _ z => nomatch z)
    · exact stands_mk X Gn n_L_cells l_L_cells q_L_cells t_L_cells f_L_cells k_L_cells (fun _ z => nomatch z) (fun _ us h => match us, h with | [_, _, _, _], _ => .of_eq rfl) (fun _ z => nomatch z)
    · exact stands_mk X Gn n_L_truth l_L_truth q_L_truth t_L_truth f_L_truth k_L_truth (fun _ z => nomatch z) (fun _ us h => match us, h with | [_, _, _, _, _], _ => .of_eq rfl) (fun _ z => nomatch z)
    · exact stands_mk X Gn n_L_fit l_L_fit q_L_fit t_L_fit f_L_fit k_L_fit (fun _ z => nomatch z) (fun _ us h => match us, h with | [_, _], _ => .of_eq rfl) (fun _ z => nomatch z)
    · exact stands_mk X Gn n_L_is_fraction l_L_is_fraction q_L_is_fraction t_L_is_fraction f_L_is_fraction k_L_is_fraction (fun _ z => nomatch z) (fun _ us h => match us, h with | [_], _ => .of_eq rfl) (fun _ z => nomatch z)
    · exact stands_mk X Gn n_L_told l_L_told q_L_told t_L_told f_L_told k_L_told (fun _ z => nomatch z) (fun _ us h => match us, h with | [_, _, _, _], _ => .of_eq rfl) (fun _ z => nomatch z)
    · exact stands_mk X Gn n_L_is_row l_L_is_row q_L_is_row t_L_is_row f_L_is_row k_L_is_row (fun _ z => nomatch z) (fun _ us h => match us, h with | [_, _, _], _ => .of_eq rfl) (fun _ z => nomatch z)
    · exact stands_mk X Gn n_L_right l_L_right q_L_right t_L_right f_L_right k_L_right (fun _ z => nomatch z) (fun _ us h => match us, h with | [_], _ => .of_eq rfl) (fun _ z => nomatch z)
    · exact stands_mk X Gn n_law l_law q_law t_law f_law k_law (fun _ z => nomatch z) (fun _ us h => match us, h with | [_], _ => .of_eq rfl) (fun _ z => nomatch z)
  · have hx := PySem.mem_of_lookup hx
    simp only [G, List.mem_cons, List.not_mem_nil, or_false, Prod.mk.injEq] at hx
    rcases hx with ⟨rfl, rfl⟩ | ⟨rfl, rfl⟩ | ⟨rfl, rfl⟩ | ⟨rfl, rfl⟩ | ⟨rfl, rfl⟩
    · exact ⟨_, .ref A_NOUGHT, PySem.W.mg_of X Gn n_NOUGHT, rfl, fun H => .tup (vs := [.int 0, .int 1]) (.inr ⟨_, _, _, l_NOUGHT, rfl, rfl, show (2 : Nat) ≤ sizeLine by rw [sizeLine_eq]; decide, .cons ⟨_, rfl⟩ (.cons ⟨_, rfl⟩ (.nil))⟩) (.cons (.int _) (.cons (.int _) (.nil)))⟩
    · exact ⟨_, .int 3, PySem.W.mg_of X Gn n_LEAST_CORNERS, ⟨_, rfl⟩, fun H => .int _⟩
    · exact ⟨_, .int 12, PySem.W.mg_of X Gn n_MOST_CORNERS, ⟨_, rfl⟩, fun H => .int _⟩
    · exact ⟨_, .int 40, PySem.W.mg_of X Gn n_MOST_PLACES, ⟨_, rfl⟩, fun H => .int _⟩
    · exact ⟨_, .ref A_HALF, PySem.W.mg_of X Gn n_HALF, rfl, fun H => .tup (vs := [.int 1, .int 2]) (.inr ⟨_, _, _, l_HALF, rfl, rfl, show (2 : Nat) ≤ sizeLine by rw [sizeLine_eq]; decide, .cons ⟨_, rfl⟩ (.cons ⟨_, rfl⟩ (.nil))⟩) (.cons (.int _) (.cons (.int _) (.nil)))⟩
  · have hx := PySem.mem_of_lookup hx
    simp only [G, List.mem_cons, List.not_mem_nil, or_false, Prod.mk.injEq] at hx
    rcases hx with ⟨rfl, rfl⟩
    · exact PySem.W.mg_of X Gn n_gcd
  · simp only [G, List.mem_cons, List.not_mem_nil, or_false] at hx
    rcases hx with rfl | rfl | rfl | rfl | rfl | rfl | rfl | rfl | rfl | rfl | rfl | rfl
    · exact PySem.W.mg_none_of X Gn z_len
    · exact PySem.W.mg_none_of X Gn z_int
    · exact PySem.W.mg_none_of X Gn z_tuple
    · exact PySem.W.mg_none_of X Gn z_abs
    · exact PySem.W.mg_none_of X Gn z_repr
    · exact PySem.W.mg_none_of X Gn z_all
    · exact PySem.W.mg_none_of X Gn z_list
    · exact PySem.W.mg_none_of X Gn z_divmod
    · exact PySem.W.mg_none_of X Gn z_isinstance
    · exact PySem.W.mg_none_of X Gn z_bool
    · exact PySem.W.mg_none_of X Gn z_range
    · exact PySem.W.mg_none_of X Gn z_zip
  · have hx := PySem.mem_of_lookup hx
    simp only [G, G_cls, List.mem_cons, List.not_mem_nil, or_false, Prod.mk.injEq] at hx
    rcases hx with ⟨rfl, rfl⟩
    · exact .given (q0 := "TooMany.__init__") (fI := fI_TooMany) { gC := PySem.W.mg_of X Gn n_c_TooMany, cls := ⟨_, _, _, _, _, _, _, _, _, _, _, _, _, _, _, xL_TooMany, rfl⟩, sa := xsa_TooMany, ga := xga_TooMany, gg := xgg_TooMany, noN := xno_TooMany, iC := xi_TooMany, tC := xti_TooMany, kC := xk_TooMany, exC := xs_TooMany, tyC := xt_TooMany, hdC := xh_TooMany, te := PySem.W.exm_ref xs_TooMany xh_TooMany xt_TooMany xsc_TooMany, fn := ⟨_, _, _, _, _, _, _, _, _, _, _, _, _, _, xl_TooMany, xcd_TooMany⟩ }
  · simp only [G, List.mem_cons, List.not_mem_nil, or_false] at hx
    rcases hx with rfl | rfl | rfl
    · exact ⟨_, v_TooMany⟩
    · exact ⟨_, v_RoadError⟩
    · exact ⟨_, v_ValueError⟩
  · have hx := subF_mem hx
    simp only [G, G_sub, List.mem_cons, List.not_mem_nil, or_false, Prod.mk.injEq] at hx
    rcases hx with ⟨rfl, rfl, rfl⟩ | ⟨rfl, rfl, rfl⟩ | ⟨rfl, rfl, rfl⟩
    · rw [PySem.W.mg_of X Gn n_c_TooMany] at hC; cases hC; have := nameV_one hcv v_TooMany; subst this; exact ⟨⟨eg_TooMany, ek_TooMany, es_TooMany, ed_TooMany, ea_TooMany, en_TooMany, et_TooMany, em_TooMany⟩, kit_true td_TooMany tt_TooMany su_TooMany_TooMany, PySem.W.exm_ref ts_TooMany td_TooMany tt_TooMany su_TooMany_TooMany⟩
    · rw [PySem.W.mg_of X Gn n_c_TooMany] at hC; cases hC; have := nameV_one hcv v_RoadError; subst this; exact ⟨⟨eg_TooMany, ek_TooMany, es_TooMany, ed_TooMany, ea_TooMany, en_TooMany, et_TooMany, em_TooMany⟩, kit_true td_RoadError tt_RoadError su_TooMany_RoadError, PySem.W.exm_ref ts_RoadError td_RoadError tt_RoadError su_TooMany_RoadError⟩
    · rw [PySem.W.mg_of X Gn n_c_TooMany] at hC; cases hC; have := nameV_one hcv v_ValueError; subst this; exact ⟨⟨eg_TooMany, ek_TooMany, es_TooMany, ed_TooMany, ea_TooMany, en_TooMany, et_TooMany, em_TooMany⟩, kit_trueT (by rfl) su_TooMany_ValueError, exm_trueT (by rfl) ts_ValueError su_TooMany_ValueError⟩
end Prog

theorem Prog.law_true : ∀ ns : List Int, ns.length ≤ 63 → (∀ z ∈ ns, PySem.Builtin.Int.intBits z ≤ 1048576) → PD.run Prog.T 42 "law" [.d (.list (ns.map PySem.PyData.int))] [] = some (.d (.bool true), []) := fun ns _ _ => Prog.law_k52 27 ns

open PySem PySem.W PyProof.Rows
set_option maxRecDepth 100000 in
set_option maxHeartbeats 0 in
theorem PySem.Challenge.cw_roadcrowds_k52_whole_rows_told_unlike_holds : PySem.Challenge.rw_roadcrowds_k52_whole_rows_told_unlike.Holds := by
  w_on; o_law; k_head; (case hw => w_witness2)
  k_fill
  refine PD.walkG (l := PySem.Challenge.rw_roadcrowds_k52_whole_rows_told_unlike) (n := 63) (k := 42) (T := Prog.T) (g := Prog.G) (i := Prog.i_law) (x := "script") rfl (by decide) rfl ⟨rfl, by decide, by decide⟩ (by rfl) (by simp [Prog.T]) rfl (fun w h Y => PySem.W.kIn_of Y) ?F Prog.law_true
  case F =>
    intro w mg h KX G
    refine' Prog.sound KX G ?n_is_whole ?l_is_whole ?q_is_whole ?t_is_whole ?n_are_wholes ?l_are_wholes ?q_are_wholes ?t_are_wholes ?n_common_part ?l_common_part ?q_common_part ?t_common_part ?n_lowest ?l_lowest ?q_lowest ?t_lowest ?n_lowest_over ?l_lowest_over ?q_lowest_over ?t_lowest_over ?n_ratio ?l_ratio ?q_ratio ?t_ratio ?n_plus ?l_plus ?q_plus ?t_plus ?n_minus ?l_minus ?q_minus ?t_minus ?n_times ?l_times ?q_times ?t_times ?n_divided ?l_divided ?q_divided ?t_divided ?n_is_below ?l_is_below ?q_is_below ?t_is_below ?n_is_fraction ?l_is_fraction ?q_is_fraction ?t_is_fraction ?n_is_amount ?l_is_amount ?q_is_amount ?t_is_amount ?n_are_fractions ?l_are_fractions ?q_are_fractions ?t_are_fractions ?n_check_amount ?l_check_amount ?q_check_amount ?t_check_amount ?n_slope_of ?l_slope_of ?q_slope_of ?t_slope_of ?n_kind_speeds ?l_kind_speeds ?q_kind_speeds ?t_kind_speeds ?n_is_kind ?l_is_kind ?q_is_kind ?t_is_kind ?n_is_corner ?l_is_corner ?q_is_corner ?t_is_corner ?n_check_kind ?l_check_kind ?q_check_kind ?t_check_kind ?n_check_steps ?l_check_steps ?q_check_steps ?t_check_steps ?n_places_gone ?l_places_gone ?q_places_gone ?t_places_gone ?n_margins ?l_margins ?q_margins ?t_margins ?n_even_row ?l_even_row ?q_even_row ?t_even_row ?n_unlike_by ?l_unlike_by ?q_unlike_by ?t_unlike_by ?n_row_or_too_many ?l_row_or_too_many ?q_row_or_too_many ?t_row_or_too_many ?n_unlike_row ?l_unlike_row ?q_unlike_row ?t_unlike_row ?n_L_cask ?l_L_cask ?q_L_cask ?t_L_cask ?n_L_tap ?l_L_tap ?q_L_tap ?t_L_tap ?n_L_of ?l_L_of ?q_L_of ?t_L_of ?n_L_cut ?l_L_cut ?q_L_cut ?t_L_cut ?n_L_even ?l_L_even ?q_L_even ?t_L_even ?n_L_sum ?l_L_sum ?q_L_sum ?t_L_sum ?n_L_gap ?l_L_gap ?q_L_gap ?t_L_gap ?n_L_by ?l_L_by ?q_L_by ?t_L_by ?n_L_per ?l_L_per ?q_L_per ?t_L_per ?n_L_kind ?l_L_kind ?q_L_kind ?t_L_kind ?n_L_speeds ?l_L_speeds ?q_L_speeds ?t_L_speeds ?n_L_toll ?l_L_toll ?q_L_toll ?t_L_toll ?n_L_along ?l_L_along ?q_L_along ?t_L_along ?n_L_least ?l_L_least ?q_L_least ?t_L_least ?n_L_ceil ?l_L_ceil ?q_L_ceil ?t_L_ceil ?n_L_spots ?l_L_spots ?q_L_spots ?t_L_spots ?n_L_cells ?l_L_cells ?q_L_cells ?t_L_cells ?n_L_truth ?l_L_truth ?q_L_truth ?t_L_truth ?n_L_fit ?l_L_fit ?q_L_fit ?t_L_fit ?n_L_is_fraction ?l_L_is_fraction ?q_L_is_fraction ?t_L_is_fraction ?n_L_told ?l_L_told ?q_L_told ?t_L_told ?n_L_is_row ?l_L_is_row ?q_L_is_row ?t_L_is_row ?n_L_right ?l_L_right ?q_L_right ?t_L_right ?n_law ?l_law ?q_law ?t_law ?n_NOUGHT ?l_NOUGHT ?n_LEAST_CORNERS ?n_MOST_CORNERS ?n_MOST_PLACES ?n_HALF ?l_HALF ?n_gcd ?z_len ?z_int ?z_tuple ?z_abs ?z_repr ?z_all ?z_list ?z_divmod ?z_isinstance ?z_bool ?z_range ?z_zip ?n_c_TooMany ?n_c_RoadError ?z_c_ValueError ?xL_TooMany ?xsa_TooMany ?xga_TooMany ?xgg_TooMany ?xno_TooMany ?xi_TooMany ?xti_TooMany ?xl_TooMany ?xcd_TooMany ?xk_TooMany ?xs_TooMany ?xt_TooMany ?xh_TooMany ?xsc_TooMany ?eg_TooMany ?ek_TooMany ?es_TooMany ?ed_TooMany ?ea_TooMany ?en_TooMany ?et_TooMany ?em_TooMany ?td_TooMany ?tt_TooMany ?ts_TooMany ?td_RoadError ?tt_RoadError ?ts_RoadError ?ts_ValueError ?su_TooMany_TooMany ?su_TooMany_RoadError ?su_TooMany_ValueError
    (case n_is_whole => k_is)
    (case l_is_whole => k_is)
    (case q_is_whole => k_is)
    (case t_is_whole => k_is)
    (case n_are_wholes => k_is)
    (case l_are_wholes => k_is)
    (case q_are_wholes => k_is)
    (case t_are_wholes => k_is)
    (case n_common_part => k_is)
    (case l_common_part => k_is)
    (case q_common_part => k_is)
    (case t_common_part => k_is)
    (case n_lowest => k_is)
    (case l_lowest => k_is)
    (case q_lowest => k_is)
    (case t_lowest => k_is)
    (case n_lowest_over => k_is)
    (case l_lowest_over => k_is)
    (case q_lowest_over => k_is)
    (case t_lowest_over => k_is)
    (case n_ratio => k_is)
    (case l_ratio => k_is)
    (case q_ratio => k_is)
    (case t_ratio => k_is)
    (case n_plus => k_is)
    (case l_plus => k_is)
    (case q_plus => k_is)
    (case t_plus => k_is)
    (case n_minus => k_is)
    (case l_minus => k_is)
    (case q_minus => k_is)
    (case t_minus => k_is)
    (case n_times => k_is)
    (case l_times => k_is)
    (case q_times => k_is)
    (case t_times => k_is)
    (case n_divided => k_is)
    (case l_divided => k_is)
    (case q_divided => k_is)
    (case t_divided => k_is)
    (case n_is_below => k_is)
    (case l_is_below => k_is)
    (case q_is_below => k_is)
    (case t_is_below => k_is)
    (case n_is_fraction => k_is)
    (case l_is_fraction => k_is)
    (case q_is_fraction => k_is)
    (case t_is_fraction => k_is)
    (case n_is_amount => k_is)
    (case l_is_amount => k_is)
    (case q_is_amount => k_is)
    (case t_is_amount => k_is)
    (case n_are_fractions => k_is)
    (case l_are_fractions => k_is)
    (case q_are_fractions => k_is)
    (case t_are_fractions => k_is)
    (case n_check_amount => k_is)
    (case l_check_amount => k_is)
    (case q_check_amount => k_is)
    (case t_check_amount => k_is)
    (case n_slope_of => k_is)
    (case l_slope_of => k_is)
    (case q_slope_of => k_is)
    (case t_slope_of => k_is)
    (case n_kind_speeds => k_is)
    (case l_kind_speeds => k_is)
    (case q_kind_speeds => k_is)
    (case t_kind_speeds => k_is)
    (case n_is_kind => k_is)
    (case l_is_kind => k_is)
    (case q_is_kind => k_is)
    (case t_is_kind => k_is)
    (case n_is_corner => k_is)
    (case l_is_corner => k_is)
    (case q_is_corner => k_is)
    (case t_is_corner => k_is)
    (case n_check_kind => k_is)
    (case l_check_kind => k_is)
    (case q_check_kind => k_is)
    (case t_check_kind => k_is)
    (case n_check_steps => k_is)
    (case l_check_steps => k_is)
    (case q_check_steps => k_is)
    (case t_check_steps => k_is)
    (case n_places_gone => k_is)
    (case l_places_gone => k_is)
    (case q_places_gone => k_is)
    (case t_places_gone => k_is)
    (case n_margins => k_is)
    (case l_margins => k_is)
    (case q_margins => k_is)
    (case t_margins => k_is)
    (case n_even_row => k_is)
    (case l_even_row => k_is)
    (case q_even_row => k_is)
    (case t_even_row => k_is)
    (case n_unlike_by => k_is)
    (case l_unlike_by => k_is)
    (case q_unlike_by => k_is)
    (case t_unlike_by => k_is)
    (case n_row_or_too_many => k_is)
    (case l_row_or_too_many => k_is)
    (case q_row_or_too_many => k_is)
    (case t_row_or_too_many => k_is)
    (case n_unlike_row => k_is)
    (case l_unlike_row => k_is)
    (case q_unlike_row => k_is)
    (case t_unlike_row => k_is)
    (case n_L_cask => k_is)
    (case l_L_cask => k_is)
    (case q_L_cask => k_is)
    (case t_L_cask => k_is)
    (case n_L_tap => k_is)
    (case l_L_tap => k_is)
    (case q_L_tap => k_is)
    (case t_L_tap => k_is)
    (case n_L_of => k_is)
    (case l_L_of => k_is)
    (case q_L_of => k_is)
    (case t_L_of => k_is)
    (case n_L_cut => k_is)
    (case l_L_cut => k_is)
    (case q_L_cut => k_is)
    (case t_L_cut => k_is)
    (case n_L_even => k_is)
    (case l_L_even => k_is)
    (case q_L_even => k_is)
    (case t_L_even => k_is)
    (case n_L_sum => k_is)
    (case l_L_sum => k_is)
    (case q_L_sum => k_is)
    (case t_L_sum => k_is)
    (case n_L_gap => k_is)
    (case l_L_gap => k_is)
    (case q_L_gap => k_is)
    (case t_L_gap => k_is)
    (case n_L_by => k_is)
    (case l_L_by => k_is)
    (case q_L_by => k_is)
    (case t_L_by => k_is)
    (case n_L_per => k_is)
    (case l_L_per => k_is)
    (case q_L_per => k_is)
    (case t_L_per => k_is)
    (case n_L_kind => k_is)
    (case l_L_kind => k_is)
    (case q_L_kind => k_is)
    (case t_L_kind => k_is)
    (case n_L_speeds => k_is)
    (case l_L_speeds => k_is)
    (case q_L_speeds => k_is)
    (case t_L_speeds => k_is)
    (case n_L_toll => k_is)
    (case l_L_toll => k_is)
    (case q_L_toll => k_is)
    (case t_L_toll => k_is)
    (case n_L_along => k_is)
    (case l_L_along => k_is)
    (case q_L_along => k_is)
    (case t_L_along => k_is)
    (case n_L_least => k_is)
    (case l_L_least => k_is)
    (case q_L_least => k_is)
    (case t_L_least => k_is)
    (case n_L_ceil => k_is)
    (case l_L_ceil => k_is)
    (case q_L_ceil => k_is)
    (case t_L_ceil => k_is)
    (case n_L_spots => k_is)
    (case l_L_spots => k_is)
    (case q_L_spots => k_is)
    (case t_L_spots => k_is)
    (case n_L_cells => k_is)
    (case l_L_cells => k_is)
    (case q_L_cells => k_is)
    (case t_L_cells => k_is)
    (case n_L_truth => k_is)
    (case l_L_truth => k_is)
    (case q_L_truth => k_is)
    (case t_L_truth => k_is)
    (case n_L_fit => k_is)
    (case l_L_fit => k_is)
    (case q_L_fit => k_is)
    (case t_L_fit => k_is)
    (case n_L_is_fraction => k_is)
    (case l_L_is_fraction => k_is)
    (case q_L_is_fraction => k_is)
    (case t_L_is_fraction => k_is)
    (case n_L_told => k_is)
    (case l_L_told => k_is)
    (case q_L_told => k_is)
    (case t_L_told => k_is)
    (case n_L_is_row => k_is)
    (case l_L_is_row => k_is)
    (case q_L_is_row => k_is)
    (case t_L_is_row => k_is)
    (case n_L_right => k_is)
    (case l_L_right => k_is)
    (case q_L_right => k_is)
    (case t_L_right => k_is)
    (case n_law => k_is)
    (case l_law => k_is)
    (case q_law => k_is)
    (case t_law => k_is)
    (case n_NOUGHT => k_is)
    (case l_NOUGHT => k_is)
    (case n_LEAST_CORNERS => k_is)
    (case n_MOST_CORNERS => k_is)
    (case n_MOST_PLACES => k_is)
    (case n_HALF => k_is)
    (case l_HALF => k_is)
    (case n_gcd => k_is)
    (case z_len => k_is)
    (case z_int => k_is)
    (case z_tuple => k_is)
    (case z_abs => k_is)
    (case z_repr => k_is)
    (case z_all => k_is)
    (case z_list => k_is)
    (case z_divmod => k_is)
    (case z_isinstance => k_is)
    (case z_bool => k_is)
    (case z_range => k_is)
    (case z_zip => k_is)
    (case n_c_TooMany => k_is)
    (case n_c_RoadError => k_is)
    (case z_c_ValueError => k_is)
    (case xL_TooMany => k_is)
    (case xsa_TooMany => k_is)
    (case xga_TooMany => k_is)
    (case xgg_TooMany => k_is)
    (case xno_TooMany => k_is)
    (case xi_TooMany => k_is)
    (case xti_TooMany => k_is)
    (case xl_TooMany => k_is)
    (case xcd_TooMany => k_is)
    (case xk_TooMany => k_is)
    (case xs_TooMany => k_is)
    (case xt_TooMany => k_is)
    (case xh_TooMany => k_is)
    (case xsc_TooMany => k_is)
    (case eg_TooMany => k_is)
    (case ek_TooMany => k_is)
    (case es_TooMany => k_is)
    (case ed_TooMany => k_is)
    (case ea_TooMany => k_is)
    (case en_TooMany => k_is)
    (case et_TooMany => k_is)
    (case em_TooMany => k_is)
    (case td_TooMany => k_is)
    (case tt_TooMany => k_is)
    (case ts_TooMany => k_is)
    (case td_RoadError => k_is)
    (case tt_RoadError => k_is)
    (case ts_RoadError => k_is)
    (case ts_ValueError => k_is)
    (case su_TooMany_TooMany => k_is)
    (case su_TooMany_RoadError => k_is)
    (case su_TooMany_ValueError => k_is)
#print axioms PySem.Challenge.cw_roadcrowds_k52_whole_rows_told_unlike_holds
