import PyProof.Rows.All
import HandS.ForMost
import HandS.Gcd
import HandS.Wide
import HandS.IsInst
import HandS.Conv
import HandS.Zip
import HandS.Rev
import HandS.Flow
import HandS.Style
import HandS.TupAny
import HandS.EndBits
import PyProof.ReprReads
import HandS.More
import PySem.Challenge.RW_roadcrowds_k49_whole_scenes_that_part_ki
set_option Elab.async false
set_option linter.all false
set_option autoImplicit false
set_option maxRecDepth 100000
set_option maxHeartbeats 4000000
/-! PD: a small functional reading of the Python that the laws use: values as PyData, mutable lists as cells of a store.
    Part 1: values, what represents them, steps of the store. -/
namespace PD
open PySem PySem.Spec PyProof.Rows L2

/-- a value: plain data, or the mutable list in a cell of the store -/
inductive W where
  | d (x : PyData)
  | m (n : Nat)
/-- the mutable lists; none: dead (let go, or locked by a loop) -/
abbrev Sto := List (Option (List PyData))
abbrev Rho := List (Option W)

/-! ### what represents what -/
/-- a list that is not changed any more -/
def FzL (K : PySem.W.Frag) (H : Hp) (a : Addr) (vs : List V) : Prop :=
  (∃ o, H a = some (.frz o (.lst vs))) ∨
    ∃ (o : Obj) (its : Array Value) (n : Nat), K.lookup a = some o ∧ o.cls = .type "list" ∧ o.dict = none ∧ o.data = .seq its n ∧ its.size ≤ sizeLine ∧ Vals vs its.toList
/-- a tuple (no known object of another kind) -/
def TpT (K : PySem.W.Frag) (H : Hp) (a : Addr) (vs : List V) : Prop :=
  (H a = some (.tup vs)) ∨
    ∃ (o : Obj) (its : Array Value) (n : Nat), K.lookup a = some o ∧ o.cls = .type "tuple" ∧ o.data = .seq its n ∧ its.size ≤ sizeLine ∧ Vals vs its.toList
theorem FzL.sq {K : PySem.W.Frag} {H : Hp} {a : Addr} {vs : List V} (h : FzL K H a vs) : SqL K H a vs := by
  rcases h with ⟨o, h⟩ | h
  · exact .inl (.inr ⟨o, h⟩)
  · exact .inr h
theorem TpT.sq {K : PySem.W.Frag} {H : Hp} {a : Addr} {vs : List V} (h : TpT K H a vs) : SqT K H a vs := by
  rcases h with h | h
  · exact .inl (.inl h)
  · exact .inr h

mutual
inductive Rep (K : PySem.W.Frag) (H : Hp) : PyData → V → Prop
  | non : Rep K H .none .non
  | bl (b : Bool) : Rep K H (.bool b) (.bl b)
  | int (i : Int) : Rep K H (.int i) (.int i)
  | str (x : Str) : Rep K H (.str x) (.str x)
  | tup {a : Addr} {vs : List V} {xs : List PyData} : TpT K H a vs → RepL K H xs vs → Rep K H (.tuple xs) (.ref a)
  | lst {a : Addr} {vs : List V} {xs : List PyData} : FzL K H a vs → RepL K H xs vs → Rep K H (.list xs) (.ref a)
inductive RepL (K : PySem.W.Frag) (H : Hp) : List PyData → List V → Prop
  | nil : RepL K H [] []
  | cons {x : PyData} {v : V} {xs : List PyData} {vs : List V} : Rep K H x v → RepL K H xs vs → RepL K H (x :: xs) (v :: vs)
end

/-- never changed: tuples and known things -/
def Imm : HO → Prop
  | .tup _ => True
  | .frz _ _ => True
  | _ => False
/-- what is never changed stays -/
def Keeps (H H' : Hp) : Prop := ∀ a o, H a = some o → Imm o → H' a = some o
theorem Keeps.refl {H : Hp} : Keeps H H := fun _ _ h _ => h
theorem Keeps.trans {H H1 H2 : Hp} (h : Keeps H H1) (g : Keeps H1 H2) : Keeps H H2 := fun a o e i => g a o (h a o e i) i
theorem FzL.mono {K : PySem.W.Frag} {H H' : Hp} {a : Addr} {vs : List V} (k : Keeps H H') (h : FzL K H a vs) : FzL K H' a vs := by
  rcases h with ⟨o, h⟩ | h
  · exact .inl ⟨o, k _ _ h trivial⟩
  · exact .inr h
theorem TpT.mono {K : PySem.W.Frag} {H H' : Hp} {a : Addr} {vs : List V} (k : Keeps H H') (h : TpT K H a vs) : TpT K H' a vs := by
  rcases h with h | h
  · exact .inl (k _ _ h trivial)
  · exact .inr h
mutual
theorem Rep.mono {K : PySem.W.Frag} {H H' : Hp} (k : Keeps H H') : ∀ {d : PyData} {v : V}, Rep K H d v → Rep K H' d v
  | _, _, .non => .non
  | _, _, .bl b => .bl b
  | _, _, .int i => .int i
  | _, _, .str x => .str x
  | _, _, .tup h l => .tup (h.mono k) (RepL.mono k l)
  | _, _, .lst h l => .lst (h.mono k) (RepL.mono k l)
theorem RepL.mono {K : PySem.W.Frag} {H H' : Hp} (k : Keeps H H') : ∀ {xs : List PyData} {vs : List V}, RepL K H xs vs → RepL K H' xs vs
  | _, _, .nil => .nil
  | _, _, .cons h l => .cons (Rep.mono k h) (RepL.mono k l)
end
mutual
theorem Rep.dp {K : PySem.W.Frag} {H : Hp} : ∀ {d : PyData} {v : V}, Rep K H d v → Dp K H v d
  | _, _, .non => .non
  | _, _, .bl b => .bl b
  | _, _, .int i => .int i
  | _, _, .str x => .str x
  | _, _, .tup h l => .tup h.sq (RepL.dp l)
  | _, _, .lst h l => .lst h.sq (RepL.dp l)
theorem RepL.dp {K : PySem.W.Frag} {H : Hp} : ∀ {xs : List PyData} {vs : List V}, RepL K H xs vs → DpAll K H vs xs
  | _, _, .nil => .nil
  | _, _, .cons h l => .cons (Rep.dp h) (RepL.dp l)
end
section
variable {K : PySem.W.Frag} {H : Hp}
theorem RepL.length : ∀ {xs : List PyData} {vs : List V}, RepL K H xs vs → xs.length = vs.length
  | _, _, .nil => rfl
  | _, _, .cons _ l => by rw [List.length_cons, List.length_cons, RepL.length l]
theorem RepL.get : ∀ {xs : List PyData} {vs : List V} {i : Nat} {x : PyData}, RepL K H xs vs → xs[i]? = some x → ∃ v, vs[i]? = some v ∧ Rep K H x v
  | _, _, _, _, .nil, h => by simp at h
  | _, _, 0, _, .cons r _, h => by simp at h; subst h; exact ⟨_, rfl, r⟩
  | _, _, i + 1, _, .cons _ l, h => by simpa using RepL.get (i := i) l (by simpa using h)
theorem RepL.get' : ∀ {xs : List PyData} {vs : List V} {i : Nat} {v : V}, RepL K H xs vs → vs[i]? = some v → ∃ x, xs[i]? = some x ∧ Rep K H x v
  | _, _, _, _, .nil, h => by simp at h
  | _, _, 0, _, .cons r _, h => by simp at h; subst h; exact ⟨_, rfl, r⟩
  | _, _, i + 1, _, .cons _ l, h => by simpa using RepL.get' (i := i) l (by simpa using h)
theorem RepL.append : ∀ {xs ys : List PyData} {vs ws : List V}, RepL K H xs vs → RepL K H ys ws → RepL K H (xs ++ ys) (vs ++ ws)
  | _, _, _, _, .nil, h => h
  | _, _, _, _, .cons r l, h => .cons r (RepL.append l h)
theorem RepL.drop : ∀ {xs : List PyData} {vs : List V} (n : Nat), RepL K H xs vs → RepL K H (xs.drop n) (vs.drop n)
  | _, _, 0, h => by simpa using h
  | _, _, _ + 1, .nil => by simpa using RepL.nil
  | _, _, n + 1, .cons _ l => by simpa using RepL.drop n l
theorem RepL.take : ∀ {xs : List PyData} {vs : List V} (n : Nat), RepL K H xs vs → RepL K H (xs.take n) (vs.take n)
  | _, _, 0, _ => by simpa using RepL.nil
  | _, _, _ + 1, .nil => by simpa using RepL.nil
  | _, _, n + 1, .cons r l => by simpa using RepL.cons r (RepL.take n l)
theorem RepL.set : ∀ {xs : List PyData} {vs : List V} (i : Nat) {x : PyData} {v : V}, RepL K H xs vs → Rep K H x v → RepL K H (xs.set i x) (vs.set i v)
  | _, _, _, _, _, .nil, _ => by simpa using RepL.nil
  | _, _, 0, _, _, .cons _ l, h => by simpa using RepL.cons h l
  | _, _, i + 1, _, _, .cons r l, h => by simpa using RepL.cons r (RepL.set i l h)
theorem RepL.reverse : ∀ {xs : List PyData} {vs : List V}, RepL K H xs vs → RepL K H xs.reverse vs.reverse
  | _, _, .nil => by simpa using RepL.nil
  | _, _, .cons r l => by simpa using RepL.append (RepL.reverse l) (.cons r .nil)
theorem RepL.eraseIdx : ∀ {xs : List PyData} {vs : List V} (i : Nat), RepL K H xs vs → RepL K H (xs.eraseIdx i) (vs.eraseIdx i)
  | _, _, _, .nil => by simpa using RepL.nil
  | _, _, 0, .cons _ l => by simpa using l
  | _, _, i + 1, .cons r l => by simpa using RepL.cons r (RepL.eraseIdx i l)
theorem RepL.dropLast : ∀ {xs : List PyData} {vs : List V}, RepL K H xs vs → RepL K H xs.dropLast vs.dropLast
  | _, _, .nil => .nil
  | _, _, .cons r .nil => .nil
  | _, _, .cons r (.cons q l) => by simpa using RepL.cons r (RepL.dropLast (.cons q l))
theorem RepL.ints : ∀ (ns : List Int), RepL K H (ns.map PyData.int) (ns.map V.int)
  | [] => .nil
  | n :: ns => .cons (.int n) (RepL.ints ns)
end

/-- a value of either kind -/
inductive WRep (K : PySem.W.Frag) (H : Hp) (μ : List Addr) : W → V → Prop
  | d {x : PyData} {v : V} : Rep K H x v → WRep K H μ (.d x) v
  | m {n : Nat} {a : Addr} : μ[n]? = some a → WRep K H μ (.m n) (.ref a)
inductive WRepL (K : PySem.W.Frag) (H : Hp) (μ : List Addr) : List W → List V → Prop
  | nil : WRepL K H μ [] []
  | cons {w : W} {v : V} {ws : List W} {vs : List V} : WRep K H μ w v → WRepL K H μ ws vs → WRepL K H μ (w :: ws) (v :: vs)
theorem WRep.mono {K : PySem.W.Frag} {H H' : Hp} {μ μ' : List Addr} (k : Keeps H H') (p : μ <+: μ') {w : W} {v : V} (h : WRep K H μ w v) : WRep K H' μ' w v := by
  cases h with
  | d h => exact .d (h.mono k)
  | m h =>
    obtain ⟨r, rfl⟩ := p
    exact .m (by rw [List.getElem?_append_left (List.getElem?_eq_some_iff.mp h).1]; exact h)
theorem WRepL.mono {K : PySem.W.Frag} {H H' : Hp} {μ μ' : List Addr} (k : Keeps H H') (p : μ <+: μ') : ∀ {ws : List W} {vs : List V}, WRepL K H μ ws vs → WRepL K H' μ' ws vs
  | _, _, .nil => .nil
  | _, _, .cons h l => .cons (h.mono k p) (WRepL.mono k p l)
theorem WRepL.length {K : PySem.W.Frag} {H : Hp} {μ : List Addr} : ∀ {ws : List W} {vs : List V}, WRepL K H μ ws vs → ws.length = vs.length
  | _, _, .nil => rfl
  | _, _, .cons _ l => by rw [List.length_cons, List.length_cons, WRepL.length l]

theorem nd_inj {α : Type} : ∀ {l : List α} {i j : Nat} {a : α}, l.Nodup → l[i]? = some a → l[j]? = some a → i = j
  | [], _, _, _, _, h, _ => by simp at h
  | _ :: _, 0, 0, _, _, _, _ => rfl
  | x :: l, 0, j + 1, a, nd, h, g => by
    simp at h g
    subst h
    exact absurd (List.mem_of_getElem? g) (List.nodup_cons.mp nd).1
  | x :: l, i + 1, 0, a, nd, h, g => by
    simp at h g
    subst g
    exact absurd (List.mem_of_getElem? h) (List.nodup_cons.mp nd).1
  | x :: l, i + 1, j + 1, a, nd, h, g => by
    simp at h g
    rw [nd_inj (List.nodup_cons.mp nd).2 h g]
/-! ### the store -/
structure StoOk (K : PySem.W.Frag) (H : Hp) (μ : List Addr) (S : Sto) : Prop where
  len : μ.length = S.length
  nd : μ.Nodup
  there : ∀ a ∈ μ, ∃ o, H a = some o
  cell : ∀ (n : Nat) (xs : List PyData), S[n]? = some (some xs) → ∃ a vs, μ[n]? = some a ∧ H a = some (.lst vs) ∧ RepL K H xs vs
/-- the address of a list that may be changed -/
def Live (μ : List Addr) (S : Sto) (a : Addr) : Prop := ∃ (n : Nat) (xs : List PyData), μ[n]? = some a ∧ S[n]? = some (some xs)
/-- all that is tracked stays, but the lists of the store -/
def Ext (μ : List Addr) (S : Sto) (H H' : Hp) : Prop := ∀ a o, H a = some o → ¬ Live μ S a → H' a = some o
structure Stp (K : PySem.W.Frag) (μ : List Addr) (S : Sto) (H : Hp) (μ' : List Addr) (S' : Sto) (H' : Hp) : Prop where
  pre : μ <+: μ'
  sto : StoOk K H' μ' S'
  ext : Ext μ S H H'
  fresh : ∀ a ∈ μ', a ∈ μ ∨ H a = none
  dead : ∀ n : Nat, S[n]? = some none → S'[n]? = some none
section
variable {K : PySem.W.Frag} {H H1 H2 : Hp} {μ μ1 μ2 : List Addr} {S S1 S2 : Sto}
theorem StoOk.live_lst (ok : StoOk K H μ S) {a : Addr} (l : Live μ S a) : ∃ vs, H a = some (.lst vs) := by
  obtain ⟨n, xs, h1, h2⟩ := l
  obtain ⟨b, vs, h3, h4, _⟩ := ok.cell n xs h2
  rw [h1] at h3; cases h3
  exact ⟨vs, h4⟩
theorem StoOk.keeps (ok : StoOk K H μ S) (e : Ext μ S H H1) : Keeps H H1 := fun a o h i => e a o h fun l => by
  obtain ⟨vs, h'⟩ := ok.live_lst l
  rw [h] at h'; cases h'; exact i
theorem Stp.refl (ok : StoOk K H μ S) : Stp K μ S H μ S H := ⟨List.prefix_rfl, ok, fun _ _ h _ => h, fun _ h => .inl h, fun _ h => h⟩
theorem Stp.keeps (ok : StoOk K H μ S) (s : Stp K μ S H μ1 S1 H1) : Keeps H H1 := ok.keeps s.ext
theorem Stp.trans (ok : StoOk K H μ S) (s : Stp K μ S H μ1 S1 H1) (t : Stp K μ1 S1 H1 μ2 S2 H2) : Stp K μ S H μ2 S2 H2 where
  pre := s.pre.trans t.pre
  sto := t.sto
  ext := fun a o h nl => by
    refine t.ext a o (s.ext a o h nl) fun ⟨n, xs, h1, h2⟩ => ?_
    rcases s.fresh a (List.mem_of_getElem? h1) with m | m
    · obtain ⟨i, hi⟩ := List.getElem?_of_mem m
      have hi1 : μ1[i]? = some a := by
        obtain ⟨r, e⟩ := s.pre
        rw [← e, List.getElem?_append_left (List.getElem?_eq_some_iff.mp hi).1]; exact hi
      have en : n = i := nd_inj s.sto.nd h1 hi1
      subst en
      have hlt : n < S.length := by rw [← ok.len]; exact (List.getElem?_eq_some_iff.mp hi).1
      cases hS : S[n]? with
      | none => exact absurd (List.getElem?_eq_none_iff.mp hS) (Nat.not_le_of_lt hlt)
      | some c =>
        cases c with
        | none => rw [s.dead n hS] at h2; cases h2
        | some ys => exact nl ⟨n, ys, hi, hS⟩
    · rw [m] at h; cases h
  fresh := fun a h => by
    rcases t.fresh a h with m | m
    · exact s.fresh a m
    · cases e : H a with
      | none => exact .inr rfl
      | some o =>
        by_cases nl : Live μ S a
        · obtain ⟨n, xs, h1, _⟩ := nl
          exact .inl (List.mem_of_getElem? h1)
        · rw [s.ext a o e nl] at m; cases m
  dead := fun n h => t.dead n (s.dead n h)
theorem Stp.len (s : Stp K μ S H μ1 S1 H1) (ok : StoOk K H μ S) : S.length ≤ S1.length := by
  rw [← ok.len, ← s.sto.len]; exact s.pre.length_le
/-- something new, or untouched things changed: the store as it is -/
theorem Stp.same (ok : StoOk K H μ S) (e : ∀ a o, H a = some o → H1 a = some o) : Stp K μ S H μ S H1 where
  pre := List.prefix_rfl
  sto := ⟨ok.len, ok.nd, fun a m => let ⟨o, h⟩ := ok.there a m; ⟨o, e a o h⟩, fun n xs h => by
    obtain ⟨a, vs, h1, h2, h3⟩ := ok.cell n xs h
    exact ⟨a, vs, h1, e _ _ h2, h3.mono fun a o h _ => e a o h⟩⟩
  ext := fun a o h _ => e a o h
  fresh := fun _ h => .inl h
  dead := fun _ h => h
theorem same_new {p : Addr} {o : HO} (h : H p = none) : ∀ a u, H a = some u → (upd H p o) a = some u := fun a u e => by
  rw [upd_ne (ne_of_none e h)]; exact e
/-- a new object that is no cell -/
theorem Stp.new (ok : StoOk K H μ S) {p : Addr} {o : HO} (h : H p = none) : Stp K μ S H μ S (upd H p o) := Stp.same ok (same_new h)
/-- a new cell -/
theorem Stp.cell (ok : StoOk K H μ S) {p : Addr} {vs : List V} {xs : List PyData} (h : H p = none) (r : RepL K H xs vs) : Stp K μ S H (μ ++ [p]) (S ++ [some xs]) (upd H p (.lst vs)) where
  pre := ⟨[p], rfl⟩
  sto := by
    have hp : p ∉ μ := fun m => by obtain ⟨o, e⟩ := ok.there p m; rw [h] at e; cases e
    refine ⟨by simp [ok.len], ?_, fun a m => ?_, fun n ys e => ?_⟩
    · rw [List.nodup_append]
      exact ⟨ok.nd, by simp, fun a ha b hb e => by simp at hb; subst hb; subst e; exact hp ha⟩
    · rcases List.mem_append.mp m with m | m
      · obtain ⟨o, e⟩ := ok.there a m
        exact ⟨o, same_new h a o e⟩
      · simp at m; subst m; exact ⟨_, upd_same⟩
    · have kp : Keeps H (upd H p (.lst vs)) := fun a o e _ => same_new h a o e
      by_cases hn : n < S.length
      · rw [List.getElem?_append_left hn] at e
        obtain ⟨a, ws, h1, h2, h3⟩ := ok.cell n ys e
        exact ⟨a, ws, by rw [List.getElem?_append_left (by rw [ok.len]; exact hn)]; exact h1, same_new h _ _ h2, h3.mono kp⟩
      · rw [List.getElem?_append_right (by omega)] at e
        have e0 : n - S.length = 0 := by
          have := (List.getElem?_eq_some_iff.mp e).1
          simp at this; omega
        rw [e0] at e
        simp at e; subst e
        exact ⟨p, vs, by rw [List.getElem?_append_right (by rw [ok.len]; omega), ok.len, e0]; rfl, upd_same, r.mono kp⟩
  ext := fun a o e _ => same_new h a o e
  fresh := fun a m => by
    rcases List.mem_append.mp m with m | m
    · exact .inl m
    · simp at m; subst m; exact .inr h
  dead := fun n e => by rw [List.getElem?_append_left (List.getElem?_eq_some_iff.mp e).1]; exact e
/-- a cell is written -/
theorem Stp.put (ok : StoOk K H μ S) {n : Nat} {a : Addr} {us vs : List V} {xs ys : List PyData} (hn : S[n]? = some (some xs)) (ha : μ[n]? = some a) (hu : H a = some (.lst us)) (r : RepL K H ys vs) :
    Stp K μ S H μ (S.set n (some ys)) (upd H a (.lst vs)) where
  pre := List.prefix_rfl
  sto := by
    have kp : Keeps H (upd H a (.lst vs)) := fun b o e i => by
      rw [upd_ne (fun z => by subst z; rw [hu] at e; cases e; exact i)]; exact e
    refine ⟨by simp [ok.len], ok.nd, fun b m => ?_, fun k zs e => ?_⟩
    · by_cases hb : b = a
      · subst hb; exact ⟨_, upd_same⟩
      · obtain ⟨o, e⟩ := ok.there b m
        exact ⟨o, by rw [upd_ne hb]; exact e⟩
    · by_cases hk : k = n
      · subst hk
        rw [List.getElem?_set_self (List.getElem?_eq_some_iff.mp hn).1] at e
        cases e
        exact ⟨a, vs, ha, upd_same, r.mono kp⟩
      · rw [List.getElem?_set_ne (Ne.symm hk)] at e
        obtain ⟨b, ws, h1, h2, h3⟩ := ok.cell k zs e
        have hb : b ≠ a := fun z => by
          subst z
          exact hk (nd_inj ok.nd h1 ha)
        exact ⟨b, ws, h1, by rw [upd_ne hb]; exact h2, h3.mono kp⟩
  ext := fun b o e nl => by
    rw [upd_ne (fun z => by subst z; exact nl ⟨n, xs, ha, hn⟩)]; exact e
  fresh := fun _ h => .inl h
  dead := fun k e => by
    rw [List.getElem?_set_ne (fun z => by subst z; rw [hn] at e; cases e)]; exact e
/-- a cell is frozen: its list becomes plain data, the cell is dead -/
theorem Stp.freeze (ok : StoOk K H μ S) {n : Nat} {a : Addr} {us : List V} {xs : List PyData} (hn : S[n]? = some (some xs)) (ha : μ[n]? = some a) (hu : H a = some (.lst us)) (o : Obj) :
    Stp K μ S H μ (S.set n none) (upd H a (.frz o (.lst us))) where
  pre := List.prefix_rfl
  sto := by
    have kp : Keeps H (upd H a (.frz o (.lst us))) := fun b o e i => by
      rw [upd_ne (fun z => by subst z; rw [hu] at e; cases e; exact i)]; exact e
    refine ⟨by simp [ok.len], ok.nd, fun b m => ?_, fun k zs e => ?_⟩
    · by_cases hb : b = a
      · subst hb; exact ⟨_, upd_same⟩
      · obtain ⟨o, e⟩ := ok.there b m
        exact ⟨o, by rw [upd_ne hb]; exact e⟩
    · have hk : k ≠ n := fun z => by
        subst z
        rw [List.getElem?_set_self (List.getElem?_eq_some_iff.mp hn).1] at e; cases e
      rw [List.getElem?_set_ne (Ne.symm hk)] at e
      obtain ⟨b, ws, h1, h2, h3⟩ := ok.cell k zs e
      have hb : b ≠ a := fun z => by
        subst z
        exact hk (nd_inj ok.nd h1 ha)
      exact ⟨b, ws, h1, by rw [upd_ne hb]; exact h2, h3.mono kp⟩
  ext := fun b o e nl => by
    rw [upd_ne (fun z => by subst z; exact nl ⟨n, xs, ha, hn⟩)]; exact e
  fresh := fun _ h => .inl h
  dead := fun k e => by
    by_cases hk : k = n
    · subst hk; rw [hn] at e; cases e
    · rw [List.getElem?_set_ne (Ne.symm hk)]; exact e
/-- the cells behind the first ones are forgotten -/
theorem StoOk.cut (ok : StoOk K H μ S) (n : Nat) : StoOk K H (μ.take n) (S.take n) where
  len := by simp [ok.len]
  nd := ok.nd.sublist (List.take_sublist _ _)
  there := fun a m => ok.there a (List.mem_of_mem_take m)
  cell := fun k xs e => by
    have hk : k < n := by
      have := (List.getElem?_eq_some_iff.mp e).1
      simp at this; omega
    rw [List.getElem?_take_of_lt hk] at e
    obtain ⟨a, vs, h1, h2, h3⟩ := ok.cell k xs e
    exact ⟨a, vs, by rw [List.getElem?_take_of_lt hk]; exact h1, h2, h3⟩
end

/-! ### the names -/
structure EnvOk (K : PySem.W.Frag) (H : Hp) (μ : List Addr) (ρ : Rho) (σ : L2.St) : Prop where
  len : ρ.length = σ.length
  get : ∀ (i : Nat) (w : W), ρ[i]? = some (some w) → ∃ v, σ[i]? = some (some v) ∧ WRep K H μ w v
section
variable {K : PySem.W.Frag} {H H' : Hp} {μ μ' : List Addr} {ρ : Rho} {σ : L2.St}
theorem EnvOk.mono (k : Keeps H H') (p : μ <+: μ') (e : EnvOk K H μ ρ σ) : EnvOk K H' μ' ρ σ := ⟨e.len, fun i w h => let ⟨v, h1, h2⟩ := e.get i w h; ⟨v, h1, h2.mono k p⟩⟩
theorem EnvOk.step {S S' : Sto} (ok : StoOk K H μ S) (s : Stp K μ S H μ' S' H') (e : EnvOk K H μ ρ σ) : EnvOk K H' μ' ρ σ := e.mono (s.keeps ok) s.pre
theorem EnvOk.set {w : W} {v : V} (e : EnvOk K H μ ρ σ) (i : Nat) (r : WRep K H μ w v) : EnvOk K H μ (ρ.set i (some w)) (σ.set i (some v)) := by
  refine ⟨by simp [e.len], fun j w' h => ?_⟩
  by_cases hj : j = i
  · subst hj
    have hl : j < ρ.length := by
      have := (List.getElem?_eq_some_iff.mp h).1
      simpa using this
    rw [List.getElem?_set_self hl] at h
    cases h
    exact ⟨v, by rw [List.getElem?_set_self (by rw [← e.len]; exact hl)], r⟩
  · rw [List.getElem?_set_ne (Ne.symm hj)] at h ⊢
    exact e.get j w' h
/-- the slots of a comprehension's own names forgotten -/
def wipeR (ρ : Rho) : List Nat → Rho
  | [] => ρ
  | v :: vs => (wipeR ρ vs).set v none
theorem wipeR_length : ∀ vs : List Nat, (wipeR ρ vs).length = ρ.length
  | [] => rfl
  | v :: vs => by unfold wipeR; rw [List.length_set, wipeR_length vs]
theorem EnvOk.wipe (e : EnvOk K H μ ρ σ) : ∀ vs : List Nat, EnvOk K H μ (wipeR ρ vs) (L2.wipe σ vs)
  | [] => e
  | v :: vs => by
    have ih := EnvOk.wipe e vs
    refine ⟨by unfold wipeR L2.wipe; rw [List.length_set, List.length_set, ih.len], fun j w h => ?_⟩
    unfold wipeR at h
    unfold L2.wipe
    by_cases hj : j = v
    · subst hj
      by_cases hl : j < (wipeR ρ vs).length
      · rw [List.getElem?_set_self hl] at h; cases h
      · rw [List.getElem?_eq_none (by simpa using hl)] at h; cases h
    · rw [List.getElem?_set_ne (Ne.symm hj)] at h ⊢
      exact ih.get j w h
end
end PD

/-! PD, part 2: readings by functions; names, constants, operators, comparisons, tests. -/
namespace PD
open PySem PySem.Spec PyProof.Rows L2

theorem PE.imp {X : Cx} {e : Expr} {t t' : TE} (h : PE X e t) (i : ∀ σ H Q, t' σ H Q → t σ H Q) : PE X e t' := ⟨fun pins s σ H Q I q => h.run pins s σ H Q I (i σ H Q q)⟩
theorem PT.imp {X : Cx} {e : Expr} {t t' : TT} (h : PT X e t) (i : ∀ σ H Q, t' σ H Q → t σ H Q) : PT X e t' := ⟨fun pins s σ H Q I q => h.run pins s σ H Q I (i σ H Q q)⟩
theorem PW.imp {X : Cx} {e : Expr} {t t' : TT} (h : PW X e t) (i : ∀ σ H Q, t' σ H Q → t σ H Q) : PW X e t' := ⟨fun wh pins s σ H Q I q => h.run wh pins s σ H Q I (i σ H Q q)⟩
theorem PA.imp {X : Cx} {es : List Expr} {t t' : TA} (h : PA X es t) (i : ∀ σ H Q, t' σ H Q → t σ H Q) : PA X es t' := ⟨fun pos pins s σ H Q I q => h.run pos pins s σ H Q I (i σ H Q q)⟩
theorem PSs.imp {X : Cx} {e : List Stmt} {t t' : TS} (h : PSs X e t) (i : ∀ D σ H, t' D σ H → t D σ H) : PSs X e t' := ⟨fun pins s σ H D I q => h.run pins s σ H D I (i D σ H q)⟩
theorem PS.imp {X : Cx} {e : Stmt} {t t' : TS} (h : PS X e t) (i : ∀ D σ H, t' D σ H → t D σ H) : PS X e t' := ⟨fun pins s σ H D I q => h.run pins s σ H D I (i D σ H q)⟩
theorem OpR.imp {X : Cx} {f : Value → Value → Sem Value} {r r' : R2} (h : OpR X f r) (i : ∀ x y H Q, r' x y H Q → r x y H Q) : OpR X f r' := fun pins s σ H x y v u Q I rx ry q => h pins s σ H x y v u Q I rx ry (i _ _ _ _ q)
theorem CallR.imp {X : Cx} {f : Value} {r r' : List V → Hp → VK → Prop} (h : CallR X f r) (i : ∀ xs H Q, r' xs H Q → r xs H Q) : CallR X f r' := fun pins s σ H xs us Q I rx q => h pins s σ H xs us Q I rx (i _ _ _ q)

/-! ### a list that has just been laid becomes plain data -/
section
variable {X : Cx} {pins : List (Addr × Obj)} {σ : L2.St} {H : Hp} {s : Shared}
theorem Inv.frozen {p : Addr} {xs : List V} {o : Obj} (I : Inv X pins σ H s) (hp : H p = some (.lst xs)) (ho : s.heap.get? p = some o) : Inv X pins σ (upd H p (.frz o (.lst xs))) s := by
  have ne : ∀ b u, H b = some u → u ≠ .lst xs → b ≠ p := fun b u e n z => by subst z; rw [hp] at e; cases e; exact n rfl
  have nn : ∀ b, H b = none → b ≠ p := fun b e z => by subst z; rw [hp] at e; cases e
  have hok : HOk X.prog X.w (upd H p (.frz o (.lst xs))) s.heap := fun b u e => by
    by_cases hb : b = p
    · subst hb
      rw [upd_same] at e; cases e
      refine ⟨ho, ?_⟩
      have q := I.hok b _ hp
      exact q
    · rw [upd_ne hb] at e
      refine (I.hok b u e).stay (fun c w _ q => q) (fun c q => ?_) fun c ys q => ?_
      · rw [upd_ne (ne c _ q (by intro z; cases z))]; exact q
      · rw [upd_ne (ne c _ q (by intro z; cases z))]; exact q
  have := I.un (t' := s.toks) (h' := s.heap) (H' := upd H p (.frz o (.lst xs))) ?_ hok
  · exact this
  · exact ⟨fun _ _ e _ _ _ => e, fun _ ob e _ _ _ => ⟨ob.slots, e⟩, fun b _ _ n _ => by rw [upd_ne (nn b n)]; exact n, fun b ob e _ => ⟨ob, e⟩,
      fun b ys e => by rw [upd_ne (ne b _ e (by intro z; cases z))]; exact e, fun b ob u e => by rw [upd_ne (ne b _ e (by intro z; cases z))]; exact e,
      fun b ps e => ⟨#[], by rw [upd_ne (ne b _ e (by intro z; cases z)), e]; simp⟩⟩
/-- the wish behind a list that may be frozen -/
def QFz (Q : VK) : VK := fun v H1 => (∃ p xs, v = .ref p ∧ H1 p = some (.lst xs) ∧ ∀ o, Q v (upd H1 p (.frz o (.lst xs)))) ∨ Q v H1
theorem ep_fz {Q : VK} {u : Value} (h : EP X pins σ (QFz Q) u s) : EP X pins σ Q u s := by
  obtain ⟨v, H1, I, r, q⟩ := h
  rcases q with ⟨p, xs, rfl, hp, q⟩ | q
  · obtain ⟨_, its, n, rv, e⟩ := (show ObjOk X.prog X.w H1 s.heap p (.lst xs) from I.hok p _ hp)
    exact ⟨_, _, Inv.frozen I hp e, r, q _⟩
  · exact ⟨v, H1, I, r, q⟩
end
theorem pe_fz {X : Cx} {e : Expr} {t : TE} (h : PE X e t) : PE X e (fun σ H Q => t σ H (QFz Q)) := ⟨fun pins s σ H Q I q => thn (h.run pins s σ H _ I q) fun _ _ z => ep_fz z⟩
theorem op_fz {X : Cx} {f : Value → Value → Sem Value} {r : R2} (h : OpR X f r) : OpR X f (fun x y H Q => r x y H (QFz Q)) := fun pins s σ H x y v u Q I rx ry q => thn (h pins s σ H x y v u _ I rx ry q) fun _ _ z => ep_fz z
theorem call_fz {X : Cx} {f : Value} {r : List V → Hp → VK → Prop} (h : CallR X f r) : CallR X f (fun xs H Q => r xs H (QFz Q)) := fun pins s σ H xs us Q I rx q => thn (h pins s σ H xs us _ I rx q) fun _ _ z => ep_fz z

/-! ### reading by functions -/
abbrev CE := Rho → Sto → Option (W × Sto)
abbrev CB := Rho → Sto → Option (Bool × Sto)
abbrev CL := Rho → Sto → Option (List W × Sto)
section
variable (K : PySem.W.Frag)
def rdE (m : CE) : TE := fun σ H Q => ∃ μ S ρ w S', StoOk K H μ S ∧ EnvOk K H μ ρ σ ∧ m ρ S = some (w, S') ∧ ∀ v H' μ', Stp K μ S H μ' S' H' → WRep K H' μ' w v → Q v H'
def rdB (m : CB) : TT := fun σ H Q => ∃ μ S ρ w S', StoOk K H μ S ∧ EnvOk K H μ ρ σ ∧ m ρ S = some (w, S') ∧ ∀ H' μ', Stp K μ S H μ' S' H' → Q w H'
def rdL (m : CL) : TA := fun σ H Q => ∃ μ S ρ ws S', StoOk K H μ S ∧ EnvOk K H μ ρ σ ∧ m ρ S = some (ws, S') ∧ ∀ vs H' μ', Stp K μ S H μ' S' H' → WRepL K H' μ' ws vs → Q vs H'
/-- what an operation of two values is to reach -/
def F2 (f : W → W → Sto → Option (W × Sto)) : R2 := fun x y H Q => ∃ μ S w1 w2 w S', StoOk K H μ S ∧ WRep K H μ w1 x ∧ WRep K H μ w2 y ∧ f w1 w2 S = some (w, S') ∧ ∀ v H' μ', Stp K μ S H μ' S' H' → WRep K H' μ' w v → Q v H'
def F1 (f : W → Sto → Option (W × Sto)) : V → Hp → VK → Prop := fun x H Q => ∃ μ S w1 w S', StoOk K H μ S ∧ WRep K H μ w1 x ∧ f w1 S = some (w, S') ∧ ∀ v H' μ', Stp K μ S H μ' S' H' → WRep K H' μ' w v → Q v H'
def FN (f : List W → Sto → Option (W × Sto)) : List V → Hp → VK → Prop := fun xs H Q => ∃ μ S ws w S', StoOk K H μ S ∧ WRepL K H μ ws xs ∧ f ws S = some (w, S') ∧ ∀ v H' μ', Stp K μ S H μ' S' H' → WRep K H' μ' w v → Q v H'
end
abbrev SE (X : Cx) (e : Expr) (m : CE) : Prop := PE X e (rdE X.K m)
abbrev SB (X : Cx) (e : Expr) (m : CB) : Prop := PT X e (rdB X.K m)
abbrev SL (X : Cx) (es : List Expr) (m : CL) : Prop := PA X es (rdL X.K m)

/-! ### the functions -/
def constE (x : PyData) : CE := fun _ S => some (.d x, S)
def varE (i : Nat) : CE := fun ρ S => match ρ[i]? with
  | some (some w) => some (w, S)
  | _ => none
def binE (f : W → W → Sto → Option (W × Sto)) (a b : CE) : CE := fun ρ S => (a ρ S).bind fun p => (b ρ p.2).bind fun q => f p.1 q.1 q.2
def unE (f : W → Sto → Option (W × Sto)) (a : CE) : CE := fun ρ S => (a ρ S).bind fun p => f p.1 p.2
def ifE (t : CB) (a b : CE) : CE := fun ρ S => (t ρ S).bind fun p => if p.1 = true then a ρ p.2 else b ρ p.2
def nilL : CL := fun _ S => some ([], S)
def consL (a : CE) (r : CL) : CL := fun ρ S => (a ρ S).bind fun p => (r ρ p.2).bind fun q => some (p.1 :: q.1, q.2)
def appE (f : List W → Sto → Option (W × Sto)) (r : CL) : CE := fun ρ S => (r ρ S).bind fun p => f p.1 p.2
def andB (a b : CB) : CB := fun ρ S => (a ρ S).bind fun p => if p.1 = true then b ρ p.2 else some (false, p.2)
def orB (a b : CB) : CB := fun ρ S => (a ρ S).bind fun p => if p.1 = true then some (true, p.2) else b ρ p.2
def notB (a : CB) : CB := fun ρ S => (a ρ S).bind fun p => some (!p.1, p.2)
def asBool : W → Option Bool
  | .d (.bool b) => some b
  | _ => none
/-- a bool's test -/
def valB (a : CE) : CB := fun ρ S => (a ρ S).bind fun p => (asBool p.1).bind fun b => some (b, p.2)
/-- a test as a value -/
def boolE (t : CB) : CE := fun ρ S => (t ρ S).bind fun p => some (.d (.bool p.1), p.2)
/-- what a value is read as -/
def rd (S : Sto) : W → Option PyData
  | .d x => some x
  | .m n => match S[n]? with
    | some (some xs) => some (.list xs)
    | _ => none
def pf1 (g : PyData → Option PyData) : W → Sto → Option (W × Sto) := fun x S => (rd S x).bind fun a => (g a).bind fun c => some (.d c, S)
def pf2 (g : PyData → PyData → Option PyData) : W → W → Sto → Option (W × Sto) := fun x y S => (rd S x).bind fun a => (rd S y).bind fun b => (g a b).bind fun c => some (.d c, S)

section
variable {K : PySem.W.Frag} {H : Hp} {μ : List Addr} {S : Sto}
/-- read: plain data, or a list that stands in a cell -/
inductive RdRep (K : PySem.W.Frag) (H : Hp) : PyData → V → Prop
  | imm {x : PyData} {v : V} : Rep K H x v → RdRep K H x v
  | cell {a : Addr} {vs : List V} {xs : List PyData} : H a = some (.lst vs) → RepL K H xs vs → RdRep K H (.list xs) (.ref a)
theorem RdRep.of {w : W} {v : V} {x : PyData} (ok : StoOk K H μ S) (r : WRep K H μ w v) (h : rd S w = some x) : RdRep K H x v := by
  cases r with
  | d r => cases h; exact .imm r
  | m hm =>
    rename_i n a
    have h' : (match S[n]? with
      | some (some xs) => some (PyData.list xs)
      | _ => none) = some x := h
    split at h'
    · rename_i xs hs
      cases h'
      obtain ⟨b, vs, h1, h2, h3⟩ := ok.cell _ _ hs
      rw [hm] at h1; cases h1
      exact .cell h2 h3
    · cases h'
theorem RdRep.dp {x : PyData} {v : V} (r : RdRep K H x v) : Dp K H v x := by
  cases r with
  | imm r => exact r.dp
  | cell h l => exact .lst (SqL.of h) l.dp
theorem RdRep.list {xs : List PyData} {v : V} (r : RdRep K H (.list xs) v) : ∃ a vs, v = .ref a ∧ SqL K H a vs ∧ RepL K H xs vs := by
  cases r with
  | imm r => cases r with | lst h l => exact ⟨_, _, rfl, h.sq, l⟩
  | cell h l => exact ⟨_, _, rfl, SqL.of h, l⟩
theorem RdRep.tuple {xs : List PyData} {v : V} (r : RdRep K H (.tuple xs) v) : ∃ a vs, v = .ref a ∧ TpT K H a vs ∧ RepL K H xs vs := by
  cases r with
  | imm r => cases r with | tup h l => exact ⟨_, _, rfl, h, l⟩
theorem RdRep.int {i : Int} {v : V} (r : RdRep K H (.int i) v) : v = .int i := by cases r with | imm r => cases r; rfl
theorem RdRep.bool {b : Bool} {v : V} (r : RdRep K H (.bool b) v) : v = .bl b := by cases r with | imm r => cases r; rfl
theorem RdRep.str {b : Str} {v : V} (r : RdRep K H (.str b) v) : v = .str b := by cases r with | imm r => cases r; rfl
theorem RdRep.none {v : V} (r : RdRep K H .none v) : v = .non := by cases r with | imm r => cases r; rfl
end

/-! ### names and constants -/
section
variable {X : Cx} {e a b : Expr} {ma mb : CE} {pos : Pos}
theorem se_const {x : PyData} {v : V} {j : Nat} {c : Const} (h : PE X (.Constant c j pos) (tC v)) (r : ∀ H, Rep X.K H x v) : SE X (.Constant c j pos) (constE x) :=
  PE.imp h fun σ H Q ⟨μ, S, ρ, w, S', ok, en, e, q⟩ => by
    cases e
    exact q v H μ (.refl ok) (.d (r H))
theorem se_int {i : Int} {j : Nat} : SE X (.Constant (.int i) j pos) (constE (.int i)) := se_const pe_int fun _ => .int i
theorem se_bool {i : Bool} {j : Nat} : SE X (.Constant (.bool i) j pos) (constE (.bool i)) := se_const pe_bl fun _ => .bl i
theorem se_none {j : Nat} : SE X (.Constant .none j pos) (constE .none) := se_const pe_non fun _ => .non
theorem se_str {i : Str} {j : Nat} : SE X (.Constant (.str i) j pos) (constE (.str i)) := se_const pe_str fun _ => .str i
theorem se_var {i : Nat} {x : Str} (hN : X.N[i]? = some x) (hv : Vis X.env.scope x) (hd : (x == ("__debug__" : Str)) = false) (hcd : (x == ("__classdict__" : Str)) = false) : SE X (.Name x pos) (varE i) :=
  PE.imp (pe_var hN hv hd hcd) fun σ H Q ⟨μ, S, ρ, w, S', ok, en, e, q⟩ => by
    unfold varE at e
    split at e
    · rename_i w' h
      cases e
      obtain ⟨v, h1, h2⟩ := en.get i _ h
      exact ⟨v, h1, q v H μ (.refl ok) h2⟩
    · cases e
theorem se_glob {x : Str} {d : PyData} {v : V} {u : Value} (hg : Gl X x) (hm : X.mg x = some u) (r : RelV v u) (rp : ∀ H, Rep X.K H d v) (hd : (x == ("__debug__" : Str)) = false) : SE X (.Name x pos) (constE d) :=
  PE.imp (pe_glob hg hm r hd) fun σ H Q ⟨μ, S, ρ, w, S', ok, en, e, q⟩ => by
    cases e
    exact q v H μ (.refl ok) (.d (rp H))

/-! ### operators -/
theorem rd_bin {f : W → W → Sto → Option (W × Sto)} {K : PySem.W.Frag} {σ : L2.St} {H : Hp} {Q : VK} (h : rdE K (binE f ma mb) σ H Q) :
    rdE K ma σ H fun x H1 => rdE K mb σ H1 fun y H2 => F2 K f x y H2 Q := by
  obtain ⟨μ, S, ρ, w, S', ok, en, e, q⟩ := h
  unfold binE at e
  cases ha : ma ρ S with
  | none => rw [ha] at e; cases e
  | some p =>
    obtain ⟨w1, S1⟩ := p
    rw [ha] at e
    cases hb : mb ρ S1 with
    | none => rw [Option.bind_some, hb] at e; cases e
    | some p2 =>
      obtain ⟨w2, S2⟩ := p2
      rw [Option.bind_some, hb, Option.bind_some] at e
      refine ⟨μ, S, ρ, w1, S1, ok, en, ha, fun x H1 μ1 st1 r1 => ⟨μ1, S1, ρ, w2, S2, st1.sto, en.step ok st1, hb, fun y H2 μ2 st2 r2 => ?_⟩⟩
      exact ⟨μ2, S2, w1, w2, w, S', st2.sto, r1.mono (st2.keeps st1.sto) st2.pre, r2, e, fun v H' μ' st3 r3 => q v H' μ' (st1.trans ok (st2.trans st1.sto st3)) r3⟩
theorem rd_un {f : W → Sto → Option (W × Sto)} {K : PySem.W.Frag} {σ : L2.St} {H : Hp} {Q : VK} (h : rdE K (unE f ma) σ H Q) : rdE K ma σ H fun x H1 => F1 K f x H1 Q := by
  obtain ⟨μ, S, ρ, w, S', ok, en, e, q⟩ := h
  unfold unE at e
  cases ha : ma ρ S with
  | none => rw [ha] at e; cases e
  | some p =>
    obtain ⟨w1, S1⟩ := p
    rw [ha] at e
    exact ⟨μ, S, ρ, w1, S1, ok, en, ha, fun x H1 μ1 st1 r1 => ⟨μ1, S1, w1, w, S', st1.sto, r1, e, fun v H' μ' st3 r3 => q v H' μ' (st1.trans ok st3) r3⟩⟩
theorem se_bin {op : Operator} {f : W → W → Sto → Option (W × Sto)} (ho : OpR X (binaryOp op) (F2 X.K f)) (ha : SE X a ma) (hb : SE X b mb) : SE X (.BinOp a op b pos) (binE f ma mb) :=
  PE.imp (pe_op ho ha hb) fun _ _ _ h => rd_bin h
theorem se_un {op : UnaryOp} {f : W → Sto → Option (W × Sto)} (ho : UnR X (unaryOp op) (F1 X.K f)) (ha : SE X a ma) : SE X (.UnaryOp op a pos) (unE f ma) :=
  PE.imp (pe_un ho ha) fun _ _ _ h => rd_un h
theorem se_cmp {op : CmpOp} {f : W → W → Sto → Option (W × Sto)} (ho : OpR X (compareOp op) (F2 X.K f)) (ha : SE X a ma) (hb : SE X b mb) (hm : behindInMarks op b = false) : SE X (.Compare a [op] [b] pos) (binE f ma mb) :=
  PE.imp (pe_cmpR ho ha hb hm) fun _ _ _ h => rd_bin h

/-- a pure operation's reading, from its rule on values -/
theorem F2_pure {K : PySem.W.Frag} {g : PyData → PyData → Option PyData} {x y : V} {H : Hp} {Q : VK} (h : F2 K (pf2 g) x y H Q) :
    ∃ d1 d2 c, RdRep K H d1 x ∧ RdRep K H d2 y ∧ g d1 d2 = some c ∧ ∀ v H', (∀ a o, H a = some o → H' a = some o) → Rep K H' c v → Q v H' := by
  obtain ⟨μ, S, w1, w2, w, S', ok, r1, r2, e, q⟩ := h
  unfold pf2 at e
  cases h1 : rd S w1 with
  | none => rw [h1] at e; cases e
  | some d1 =>
    cases h2 : rd S w2 with
    | none => rw [h1, Option.bind_some, h2] at e; cases e
    | some d2 =>
      cases h3 : g d1 d2 with
      | none => rw [h1, Option.bind_some, h2, Option.bind_some, h3] at e; cases e
      | some c =>
        rw [h1, Option.bind_some, h2, Option.bind_some, h3, Option.bind_some] at e
        cases e
        exact ⟨d1, d2, c, RdRep.of ok r1 h1, RdRep.of ok r2 h2, h3, fun v H' k r => q v H' μ (Stp.same ok k) (.d r)⟩
theorem F1_pure {K : PySem.W.Frag} {g : PyData → Option PyData} {x : V} {H : Hp} {Q : VK} (h : F1 K (pf1 g) x H Q) :
    ∃ d1 c, RdRep K H d1 x ∧ g d1 = some c ∧ ∀ v H', (∀ a o, H a = some o → H' a = some o) → Rep K H' c v → Q v H' := by
  obtain ⟨μ, S, w1, w, S', ok, r1, e, q⟩ := h
  unfold pf1 at e
  cases h1 : rd S w1 with
  | none => rw [h1] at e; cases e
  | some d1 =>
    cases h3 : g d1 with
    | none => rw [h1, Option.bind_some, h3] at e; cases e
    | some c =>
      rw [h1, Option.bind_some, h3, Option.bind_some] at e
      cases e
      exact ⟨d1, c, RdRep.of ok r1 h1, h3, fun v H' k r => q v H' μ (Stp.same ok k) (.d r)⟩
end
theorem keeps_all {H : Hp} : ∀ a o, H a = some o → H a = some o := fun _ _ h => h

/-! ### + - * // % ** -/
def mulOk (i j : Int) : Bool := decide (i.natAbs.log2 + j.natAbs.log2 < 1000000)
def divOk (j : Int) : Bool := decide (j ≠ 0 ∧ j.natAbs.log2 < 9000)
/-- the greatest length of a list, of a tuple that is made -/
abbrev lim : Nat := 100000
def addP : PyData → PyData → Option PyData
  | .int i, .int j => some (.int (i + j))
  | .list xs, .list ys => if xs.length + ys.length ≤ lim then some (.list (xs ++ ys)) else none
  | .tuple xs, .tuple ys => if xs.length + ys.length ≤ lim then some (.tuple (xs ++ ys)) else none
  | _, _ => none
def subP : PyData → PyData → Option PyData
  | .int i, .int j => some (.int (i - j))
  | _, _ => none
def mulP : PyData → PyData → Option PyData
  | .int i, .int j => if mulOk i j = true then some (.int (i * j)) else none
  | _, _ => none
def divP : PyData → PyData → Option PyData
  | .int i, .int j => if divOk j = true then some (.int (i.fdiv j)) else none
  | _, _ => none
def modP : PyData → PyData → Option PyData
  | .int i, .int j => if j ≠ 0 then some (.int (i.fmod j)) else none
  | _, _ => none
def powP : PyData → PyData → Option PyData
  | .int i, .int j => if 0 ≤ j ∧ j ≤ 1000000 ∧ i.natAbs < 2 ^ 64 then some (.int (i ^ j.toNat)) else none
  | _, _ => none
theorem lim_le {n : Nat} (h : n ≤ lim) : n ≤ sizeLine := Nat.le_trans h (by rw [sizeLine_eq]; decide)
section
variable {X : Cx}
/-- list + list, of any lists that are read -/
theorem op_catL : OpR X (binaryOp .Add) (fun x y H Q => ∃ a b xs ys, x = .ref a ∧ y = .ref b ∧ SqL X.K H a xs ∧ SqL X.K H b ys ∧ xs.length + ys.length ≤ sizeLine ∧ ∀ p, H p = none → Q (.ref p) (upd H p (.lst (xs ++ ys)))) := by
  intro pins s σ H x y v u Q I rx ry h
  obtain ⟨a, b, xs, ys, rfl, rfl, ha, hb, hz, q⟩ := h
  cases rx
  cases ry
  obtain ⟨its, r, pl, _⟩ := I.list ha
  obtain ⟨its2, r2, pl2, _⟩ := I.list hb
  obtain ⟨⟨cls, dd, data, sl⟩, ho, hc, n, hd⟩ := id pl.isList
  obtain ⟨⟨cls2, dd2, data2, sl2⟩, ho2, hc2, n2, hd2⟩ := id pl2.isList
  simp only at hc hd hc2 hd2
  subst hc hd hc2 hd2
  have e : its.toArray ++ its2.toArray = (its ++ its2).toArray := by simp
  refine concat_meets ⟨_, ho, rfl⟩ ⟨_, ho2, rfl⟩ PySem.noFill_list_add PySem.seq_list_add PySem.F.slot_list_add PySem.F.entry_list_add (PySem.F.args_list_add_2 _ _) (list_addW a b its.toArray its2.toArray n n2 dd dd2 sl sl2 (by rw [List.size_toArray, List.size_toArray, ← r.length, ← r2.length]; exact hz)) ⟨ho, ho2, ?_⟩
  rw [e]
  exact ⟨.ref _, _, I.lnew (t' := s.toks) (r.append r2) (by rw [List.length_append]; exact hz), rfl, q _ I.fresh⟩
theorem so_add : OpR X (binaryOp .Add) (F2 X.K (pf2 addP)) := by
  refine OpR.imp (op_fz (op_add.or (op_catL.or op_catA))) fun x y H Q h => ?_
  obtain ⟨d1, d2, c, r1, r2, e, q⟩ := F2_pure h
  unfold addP at e
  split at e
  · cases e
    exact .inl ⟨_, _, r1.int, r2.int, .inr (q _ H keeps_all (.int _))⟩
  · split at e
    · rename_i hz
      cases e
      obtain ⟨a, vs, rfl, h1, l1⟩ := r1.list
      obtain ⟨b, us, rfl, h2, l2⟩ := r2.list
      refine .inr (.inl ⟨a, b, vs, us, rfl, rfl, h1, h2, by rw [← l1.length, ← l2.length]; exact lim_le hz, fun p hp => .inl ⟨p, _, rfl, upd_same, fun o => ?_⟩⟩)
      rw [upd_upd]
      exact q _ _ (same_new hp) (.lst (.inl ⟨o, upd_same⟩) ((l1.append l2).mono fun a o e _ => same_new hp a o e))
    · cases e
  · split at e
    · rename_i xs ys hz
      cases e
      obtain ⟨a, vs, rfl, h1, l1⟩ := r1.tuple
      obtain ⟨b, us, rfl, h2, l2⟩ := r2.tuple
      refine .inr (.inr ⟨a, b, vs, us, rfl, rfl, h1.sq, h2.sq, by rw [← l1.length, ← l2.length]; exact lim_le hz, fun e => .inr (q _ H keeps_all (.tup h2 ?_)), fun _ e => .inr (q _ H keeps_all (.tup h1 ?_)), fun _ _ p hp => .inr ?_⟩)
      · subst e; cases l1; exact l2
      · subst e; cases l2; rw [List.append_nil]; exact l1
      · exact q _ _ (same_new hp) (.tup (.inl upd_same) ((l1.append l2).mono fun a o e _ => same_new hp a o e))
    · cases e
  · cases e
/-- list + list, a list that is changed later -/
def catP : PyData → PyData → Option (List PyData)
  | .list xs, .list ys => if xs.length + ys.length ≤ lim then some (xs ++ ys) else none
  | _, _ => none
def addM (x y : W) (S : Sto) : Option (W × Sto) := (rd S x).bind fun a => (rd S y).bind fun b => (catP a b).bind fun xs => some (.m S.length, S ++ [some xs])
theorem so_addM : OpR X (binaryOp .Add) (F2 X.K addM) := by
  refine OpR.imp op_catL fun x y H Q h => ?_
  obtain ⟨μ, S, w1, w2, w, S', ok, r1, r2, e, q⟩ := h
  unfold addM at e
  cases h1 : rd S w1 with
  | none => rw [h1] at e; cases e
  | some d1 =>
    cases h2 : rd S w2 with
    | none => rw [h1, Option.bind_some, h2] at e; cases e
    | some d2 =>
      cases h3 : catP d1 d2 with
      | none => rw [h1, Option.bind_some, h2, Option.bind_some, h3] at e; cases e
      | some c =>
        rw [h1, Option.bind_some, h2, Option.bind_some, h3, Option.bind_some] at e
        cases e
        have q1 := RdRep.of ok r1 h1
        have q2 := RdRep.of ok r2 h2
        unfold catP at h3
        split at h3
        · split at h3
          · rename_i hz
            cases h3
            obtain ⟨a, vs, rfl, g1, l1⟩ := q1.list
            obtain ⟨b, us, rfl, g2, l2⟩ := q2.list
            refine ⟨a, b, vs, us, rfl, rfl, g1, g2, by rw [← l1.length, ← l2.length]; exact lim_le hz, fun p hp => ?_⟩
            refine q _ _ _ (.cell ok hp (l1.append l2)) (.m ?_)
            rw [← ok.len, List.getElem?_append_right (Nat.le_refl _), Nat.sub_self]; rfl
          · cases h3
        · cases h3
theorem so_sub : OpR X (binaryOp .Sub) (F2 X.K (pf2 subP)) := by
  refine OpR.imp op_sub fun x y H Q h => ?_
  obtain ⟨d1, d2, c, r1, r2, e, q⟩ := F2_pure h
  unfold subP at e
  split at e
  · cases e; exact ⟨_, _, r1.int, r2.int, q _ H keeps_all (.int _)⟩
  · cases e
theorem so_mul : OpR X (binaryOp .Mult) (F2 X.K (pf2 mulP)) := by
  refine OpR.imp op_mulW fun x y H Q h => ?_
  obtain ⟨d1, d2, c, r1, r2, e, q⟩ := F2_pure h
  unfold mulP at e
  split at e
  · split at e
    · rename_i hm
      cases e; exact ⟨_, _, r1.int, r2.int, show _ < _ from of_decide_eq_true hm, q _ H keeps_all (.int _)⟩
    · cases e
  · cases e
theorem op_fdivF : OpR X (binaryOp .FloorDiv) (rI (fun _ j => j ≠ 0 ∧ j.natAbs.log2 < 9000) fun i j => .int (i.fdiv j)) := opI fun i j _ _ _ _ _ hc q =>
  floordiv_int hc.1 q (.inl (PyProof.noPylong_of_log2 hc.2))
theorem so_div : OpR X (binaryOp .FloorDiv) (F2 X.K (pf2 divP)) := by
  refine OpR.imp op_fdivF fun x y H Q h => ?_
  obtain ⟨d1, d2, c, r1, r2, e, q⟩ := F2_pure h
  unfold divP at e
  split at e
  · split at e
    · rename_i hm
      cases e; exact ⟨_, _, r1.int, r2.int, of_decide_eq_true hm, q _ H keeps_all (.int _)⟩
    · cases e
  · cases e
theorem so_mod : OpR X (binaryOp .Mod) (F2 X.K (pf2 modP)) := by
  refine OpR.imp op_modN fun x y H Q h => ?_
  obtain ⟨d1, d2, c, r1, r2, e, q⟩ := F2_pure h
  unfold modP at e
  split at e
  · split at e
    · rename_i hm
      cases e; exact ⟨_, _, r1.int, r2.int, hm, q _ H keeps_all (.int _)⟩
    · cases e
  · cases e
theorem so_pow : OpR X (binaryOp .Pow) (F2 X.K (pf2 powP)) := by
  refine OpR.imp op_pow fun x y H Q h => ?_
  obtain ⟨d1, d2, c, r1, r2, e, q⟩ := F2_pure h
  unfold powP at e
  split at e
  · split at e
    · rename_i hm
      cases e; exact ⟨_, _, r1.int, r2.int, hm, q _ H keeps_all (.int _)⟩
    · cases e
  · cases e
def binF : Operator → Option (W → W → Sto → Option (W × Sto))
  | .Add => some (pf2 addP)
  | .Sub => some (pf2 subP)
  | .Mult => some (pf2 mulP)
  | .FloorDiv => some (pf2 divP)
  | .Mod => some (pf2 modP)
  | .Pow => some (pf2 powP)
  | _ => none
theorem so_bin {op : Operator} {f : W → W → Sto → Option (W × Sto)} (h : binF op = some f) : OpR X (binaryOp op) (F2 X.K f) := by
  cases op <;> cases h <;> first | exact so_add | exact so_sub | exact so_mul | exact so_div | exact so_mod | exact so_pow
def negP : PyData → Option PyData
  | .int i => some (.int (-i))
  | _ => none
theorem so_neg : UnR X (unaryOp .USub) (F1 X.K (pf1 negP)) := by
  intro pins s σ H x v Q I r h
  refine un_neg pins s σ H x v Q I r ?_
  obtain ⟨d1, c, r1, e, q⟩ := F1_pure h
  unfold negP at e
  split at e
  · cases e; exact ⟨_, r1.int, q _ H keeps_all (.int _)⟩
  · cases e

/-! ### comparisons -/
def eqOk (a b : PyData) : Bool := a.canLay0 && b.canLay0 && decide (min a.depth b.depth ≤ 64)
def eqP (a b : PyData) : Option PyData := if eqOk a b = true then some (.bool (PyData.eqv a b)) else none
def neP (a b : PyData) : Option PyData := if eqOk a b = true then some (.bool (!PyData.eqv a b)) else none
theorem op_eqM (hu : X.A.units + 64 < cLine) : OpR X (compareOp .Eq) (fun x y H Q => ∃ d e, Dp X.K H x d ∧ Dp X.K H y e ∧ eqOk d e = true ∧ Q (.bl (PyData.eqv d e)) H) := by
  intro pins s σ H x y v u Q I rx ry h
  obtain ⟨d, e, hd, he, k, q⟩ := h
  obtain ⟨as, r1⟩ := Dp.reads I d x v hd rx
  obtain ⟨bs, r2⟩ := Dp.reads I e y u he ry
  unfold eqOk at k
  simp only [Bool.and_eq_true, decide_eq_true_eq] at k
  exact SeqAt.compareEq_reads r1 r2 k.1.1 k.1.2 (by omega) ⟨.bl _, H, I, rfl, q⟩
theorem op_neM (hu : X.A.units + 64 < cLine) : OpR X (compareOp .NotEq) (fun x y H Q => ∃ d e, Dp X.K H x d ∧ Dp X.K H y e ∧ eqOk d e = true ∧ Q (.bl (!PyData.eqv d e)) H) := by
  intro pins s σ H x y v u Q I rx ry h
  obtain ⟨d, e, hd, he, k, q⟩ := h
  obtain ⟨as, r1⟩ := Dp.reads I d x v hd rx
  obtain ⟨bs, r2⟩ := Dp.reads I e y u he ry
  unfold eqOk at k
  simp only [Bool.and_eq_true, decide_eq_true_eq] at k
  exact SeqAt.compareNe_reads r1 r2 k.1.1 k.1.2 (by omega) ⟨.bl _, H, I, rfl, q⟩
theorem so_eq (hu : X.A.units + 64 < cLine) : OpR X (compareOp .Eq) (F2 X.K (pf2 eqP)) := by
  refine OpR.imp (op_eqM hu) fun x y H Q h => ?_
  obtain ⟨d1, d2, c, r1, r2, e, q⟩ := F2_pure h
  unfold eqP at e
  split at e
  · rename_i hk
    cases e; exact ⟨_, _, r1.dp, r2.dp, hk, q _ H keeps_all (.bl _)⟩
  · cases e
theorem so_ne (hu : X.A.units + 64 < cLine) : OpR X (compareOp .NotEq) (F2 X.K (pf2 neP)) := by
  refine OpR.imp (op_neM hu) fun x y H Q h => ?_
  obtain ⟨d1, d2, c, r1, r2, e, q⟩ := F2_pure h
  unfold neP at e
  split at e
  · rename_i hk
    cases e; exact ⟨_, _, r1.dp, r2.dp, hk, q _ H keeps_all (.bl _)⟩
  · cases e
def ltP : PyData → PyData → Option PyData
  | .int i, .int j => some (.bool (decide (i < j)))
  | _, _ => none
def leP : PyData → PyData → Option PyData
  | .int i, .int j => some (.bool (decide (i ≤ j)))
  | _, _ => none
def gtP : PyData → PyData → Option PyData
  | .int i, .int j => some (.bool (decide (j < i)))
  | _, _ => none
def geP : PyData → PyData → Option PyData
  | .int i, .int j => some (.bool (decide (j ≤ i)))
  | _, _ => none
theorem so_lt : OpR X (compareOp .Lt) (F2 X.K (pf2 ltP)) := by
  refine OpR.imp op_lt fun x y H Q h => ?_
  obtain ⟨d1, d2, c, r1, r2, e, q⟩ := F2_pure h
  unfold ltP at e
  split at e
  · cases e; exact ⟨_, _, r1.int, r2.int, q _ H keeps_all (.bl _)⟩
  · cases e
theorem so_le : OpR X (compareOp .LtE) (F2 X.K (pf2 leP)) := by
  refine OpR.imp op_le fun x y H Q h => ?_
  obtain ⟨d1, d2, c, r1, r2, e, q⟩ := F2_pure h
  unfold leP at e
  split at e
  · cases e; exact ⟨_, _, r1.int, r2.int, q _ H keeps_all (.bl _)⟩
  · cases e
theorem so_gt : OpR X (compareOp .Gt) (F2 X.K (pf2 gtP)) := by
  refine OpR.imp op_gt fun x y H Q h => ?_
  obtain ⟨d1, d2, c, r1, r2, e, q⟩ := F2_pure h
  unfold gtP at e
  split at e
  · cases e; exact ⟨_, _, r1.int, r2.int, q _ H keeps_all (.bl _)⟩
  · cases e
theorem so_ge : OpR X (compareOp .GtE) (F2 X.K (pf2 geP)) := by
  refine OpR.imp op_ge fun x y H Q h => ?_
  obtain ⟨d1, d2, c, r1, r2, e, q⟩ := F2_pure h
  unfold geP at e
  split at e
  · cases e; exact ⟨_, _, r1.int, r2.int, q _ H keeps_all (.bl _)⟩
  · cases e
/-- x is None -/
def isNone : W → Bool
  | .d .none => true
  | _ => false
def isF : W → W → Sto → Option (W × Sto)
  | x, .d .none, S => some (.d (.bool (isNone x)), S)
  | _, _, _ => none
def isntF : W → W → Sto → Option (W × Sto)
  | x, .d .none, S => some (.d (.bool (!isNone x)), S)
  | _, _, _ => none
theorem isNone_eq {K : PySem.W.Frag} {H : Hp} {μ : List Addr} {w : W} {v : V} (r : WRep K H μ w v) : isNone w = decide (v = .non) := by
  cases r with
  | d r => cases r <;> simp [isNone]
  | m h => simp [isNone]
theorem so_is : OpR X (compareOp .Is) (F2 X.K isF) := by
  refine OpR.imp op_isN fun x y H Q h => ?_
  obtain ⟨μ, S, w1, w2, w, S', ok, r1, r2, e, q⟩ := h
  unfold isF at e
  split at e
  · cases e
    cases r2 with
    | d r2 =>
      cases r2
      exact ⟨rfl, q _ H μ (.refl ok) (.d (by rw [isNone_eq r1]; exact .bl _))⟩
  · cases e
theorem so_isnt : OpR X (compareOp .IsNot) (F2 X.K isntF) := by
  refine OpR.imp op_notN fun x y H Q h => ?_
  obtain ⟨μ, S, w1, w2, w, S', ok, r1, r2, e, q⟩ := h
  unfold isntF at e
  split at e
  · cases e
    cases r2 with
    | d r2 =>
      cases r2
      exact ⟨rfl, q _ H μ (.refl ok) (.d (by rw [isNone_eq r1]; exact .bl _))⟩
  · cases e
def cmpF : CmpOp → Option (W → W → Sto → Option (W × Sto))
  | .Eq => some (pf2 eqP)
  | .NotEq => some (pf2 neP)
  | .Lt => some (pf2 ltP)
  | .LtE => some (pf2 leP)
  | .Gt => some (pf2 gtP)
  | .GtE => some (pf2 geP)
  | .Is => some isF
  | .IsNot => some isntF
  | _ => none
theorem so_cmp (hu : X.A.units + 64 < cLine) {op : CmpOp} {f : W → W → Sto → Option (W × Sto)} (h : cmpF op = some f) : OpR X (compareOp op) (F2 X.K f) := by
  cases op <;> cases h <;> first | exact so_eq hu | exact so_ne hu | exact so_lt | exact so_le | exact so_gt | exact so_ge | exact so_is | exact so_isnt
theorem cmp_mark {op : CmpOp} {f : W → W → Sto → Option (W × Sto)} (h : cmpF op = some f) (b : Expr) : behindInMarks op b = false := nobehind b (by rintro rfl; cases h) (by rintro rfl; cases h)
end

/-! ### tests -/
section
variable {X : Cx} {e a b c : Expr} {ma mb mc : CE} {ta tb : CB} {pos : Pos}
theorem rd_valB {K : PySem.W.Frag} {σ : L2.St} {H : Hp} {Q : Bool → Hp → Prop} (h : rdB K (valB ma) σ H Q) : rdE K ma σ H fun x H1 => ∃ k, x = .bl k ∧ Q k H1 := by
  obtain ⟨μ, S, ρ, w, S', ok, en, e, q⟩ := h
  unfold valB at e
  cases ha : ma ρ S with
  | none => rw [ha] at e; cases e
  | some p =>
    obtain ⟨w1, S1⟩ := p
    rw [ha, Option.bind_some] at e
    cases hb : asBool w1 with
    | none => rw [hb] at e; cases e
    | some k =>
      rw [hb, Option.bind_some] at e
      cases e
      refine ⟨μ, S, ρ, w1, _, ok, en, ha, fun x H1 μ1 st1 r1 => ⟨_, ?_, q H1 μ1 st1⟩⟩
      unfold asBool at hb
      split at hb
      · cases hb
        cases r1 with | d r => cases r; rfl
      · cases hb
theorem rd_boolE {K : PySem.W.Frag} {σ : L2.St} {H : Hp} {Q : VK} (h : rdE K (boolE ta) σ H Q) : rdB K ta σ H fun k H1 => Q (.bl k) H1 := by
  obtain ⟨μ, S, ρ, w, S', ok, en, e, q⟩ := h
  unfold boolE at e
  cases ha : ta ρ S with
  | none => rw [ha] at e; cases e
  | some p =>
    obtain ⟨w1, S1⟩ := p
    rw [ha, Option.bind_some] at e
    cases e
    exact ⟨μ, S, ρ, w1, _, ok, en, ha, fun H1 μ1 st1 => q _ H1 μ1 st1 (.d (.bl _))⟩
theorem sb_val (h : SE X e ma) (he : ∀ whole, isTrue e X.env whole = (do let v ← whole; standAt e.pos; holding [v] (truthy v))) : SB X e (valB ma) :=
  PT.imp (pt_val h he) fun _ _ _ h => rd_valB h
theorem sb_cmp {op : CmpOp} {f : W → W → Sto → Option (W × Sto)} (ho : OpR X (compareOp op) (F2 X.K f)) (ha : SE X a ma) (hb : SE X b mb) (hm : behindInMarks op b = false) : SB X (.Compare a [op] [b] pos) (valB (binE f ma mb)) :=
  PT.imp (pt_cmpR ho ha hb hm) fun _ _ _ h => by
    have h1 := rd_valB h
    exact rd_bin h1
def chE (f g : W → W → Sto → Option (W × Sto)) (a b c : CE) : CE := fun ρ S => (a ρ S).bind fun p => (b ρ p.2).bind fun q => (f p.1 q.1 q.2).bind fun z => (asBool z.1).bind fun k => if k = true then (c ρ z.2).bind fun r => g q.1 r.1 r.2 else some (.d (.bool false), z.2)
theorem rd_ch {f g : W → W → Sto → Option (W × Sto)} {K : PySem.W.Frag} {σ : L2.St} {H : Hp} {Q : VK} (h : rdE K (chE f g ma mb mc) σ H Q) :
    rdE K ma σ H fun x H1 => rdE K mb σ H1 fun y H2 => F2 K f x y H2 fun z H3 => ∃ k, z = .bl k ∧ if k = true then rdE K mc σ H3 fun u H4 => F2 K g y u H4 Q else Q (.bl false) H3 := by
  obtain ⟨μ, S, ρ, w, S', ok, en, e, q⟩ := h
  unfold chE at e
  cases ha : ma ρ S with
  | none => rw [ha] at e; cases e
  | some p =>
    obtain ⟨w1, S1⟩ := p
    rw [ha, Option.bind_some] at e
    cases hb : mb ρ S1 with
    | none => rw [hb] at e; cases e
    | some p2 =>
      obtain ⟨w2, S2⟩ := p2
      rw [hb, Option.bind_some] at e
      cases hf : f w1 w2 S2 with
      | none => rw [hf] at e; cases e
      | some p3 =>
        obtain ⟨w3, S3⟩ := p3
        rw [hf, Option.bind_some] at e
        cases hk : asBool w3 with
        | none => rw [hk] at e; cases e
        | some k =>
          rw [hk, Option.bind_some] at e
          refine ⟨μ, S, ρ, w1, S1, ok, en, ha, fun x H1 μ1 st1 r1 => ⟨μ1, S1, ρ, w2, S2, st1.sto, en.step ok st1, hb, fun y H2 μ2 st2 r2 => ?_⟩⟩
          refine ⟨μ2, S2, w1, w2, w3, S3, st2.sto, r1.mono (st2.keeps st1.sto) st2.pre, r2, hf, fun z H3 μ3 st3 r3 => ?_⟩
          have s12 := st1.trans ok st2
          have s13 := s12.trans ok st3
          unfold asBool at hk
          split at hk
          · rename_i b
            cases hk
            cases r3 with | d r3 =>
            cases r3
            refine ⟨k, rfl, ?_⟩
            cases k with
            | true =>
              simp only [if_true] at e ⊢
              cases hc : mc ρ S3 with
              | none => rw [hc] at e; cases e
              | some p4 =>
                obtain ⟨w4, S4⟩ := p4
                rw [hc, Option.bind_some] at e
                refine ⟨μ3, S3, ρ, w4, S4, st3.sto, en.step ok s13, hc, fun u H4 μ4 st4 r4 => ?_⟩
                exact ⟨μ4, S4, w2, w4, w, S', st4.sto, r2.mono ((st3.trans st2.sto st4).keeps st2.sto) (st3.trans st2.sto st4).pre, r4, e, fun v H' μ' st5 r5 => q v H' μ' (s13.trans ok (st4.trans st3.sto st5)) r5⟩
            | false =>
              simp only [Bool.false_eq_true, if_false] at e ⊢
              cases e
              exact q _ H3 μ3 s13 (.d (.bl _))
          · cases hk
theorem se_chain {op op' : CmpOp} {f g : W → W → Sto → Option (W × Sto)} (ho : OpR X (compareOp op) (F2 X.K f)) (ho' : OpR X (compareOp op') (F2 X.K g)) (ha : SE X a ma) (hb : SE X b mb) (hc : SE X c mc) (hm : behindInMarks op' c = false) :
    SE X (.Compare a [op, op'] [b, c] pos) (chE f g ma mb mc) :=
  PE.imp (pe_chain ho ho' ha hb hc hm) fun _ _ _ h => rd_ch h
theorem sb_chain {op op' : CmpOp} {f g : W → W → Sto → Option (W × Sto)} (ho : OpR X (compareOp op) (F2 X.K f)) (ho' : OpR X (compareOp op') (F2 X.K g)) (ha : SE X a ma) (hb : SE X b mb) (hc : SE X c mc) (hm : behindInMarks op' c = false) :
    SB X (.Compare a [op, op'] [b, c] pos) (valB (chE f g ma mb mc)) :=
  PT.imp (pt_chain ho ho' ha hb hc hm) fun _ _ _ h => by
    have h1 := rd_valB h
    exact rd_ch h1
theorem sb_not (h : SB X a ta) : SB X (.UnaryOp .Not a pos) (notB ta) :=
  PT.imp (pt_not h) fun σ H Q ⟨μ, S, ρ, w, S', ok, en, e, q⟩ => by
    unfold notB at e
    cases ha : ta ρ S with
    | none => rw [ha] at e; cases e
    | some p =>
      obtain ⟨w1, S1⟩ := p
      rw [ha, Option.bind_some] at e
      cases e
      exact ⟨μ, S, ρ, w1, _, ok, en, ha, fun H1 μ1 st1 => q H1 μ1 st1⟩
theorem rd_andB {K : PySem.W.Frag} {σ : L2.St} {H : Hp} {Q : Bool → Hp → Prop} (h : rdB K (andB ta tb) σ H Q) : rdB K ta σ H fun k H1 => if k = true then rdB K tb σ H1 Q else Q false H1 := by
  obtain ⟨μ, S, ρ, w, S', ok, en, e, q⟩ := h
  unfold andB at e
  cases ha : ta ρ S with
  | none => rw [ha] at e; cases e
  | some p =>
    obtain ⟨k, S1⟩ := p
    rw [ha, Option.bind_some] at e
    refine ⟨μ, S, ρ, k, S1, ok, en, ha, fun H1 μ1 st1 => ?_⟩
    cases k with
    | true => exact ⟨μ1, S1, ρ, w, S', st1.sto, en.step ok st1, e, fun H2 μ2 st2 => q H2 μ2 (st1.trans ok st2)⟩
    | false => cases e; exact q H1 μ1 st1
theorem rd_orB {K : PySem.W.Frag} {σ : L2.St} {H : Hp} {Q : Bool → Hp → Prop} (h : rdB K (orB ta tb) σ H Q) : rdB K ta σ H fun k H1 => if k = true then Q true H1 else rdB K tb σ H1 Q := by
  obtain ⟨μ, S, ρ, w, S', ok, en, e, q⟩ := h
  unfold orB at e
  cases ha : ta ρ S with
  | none => rw [ha] at e; cases e
  | some p =>
    obtain ⟨k, S1⟩ := p
    rw [ha, Option.bind_some] at e
    refine ⟨μ, S, ρ, k, S1, ok, en, ha, fun H1 μ1 st1 => ?_⟩
    cases k with
    | false => exact ⟨μ1, S1, ρ, w, S', st1.sto, en.step ok st1, e, fun H2 μ2 st2 => q H2 μ2 (st1.trans ok st2)⟩
    | true => cases e; exact q H1 μ1 st1
/-! as values: the parts are bools -/
def andE (a b : CE) : CE := fun ρ S => (a ρ S).bind fun p => (asBool p.1).bind fun k => if k = true then b ρ p.2 else some (.d (.bool false), p.2)
def orE (a b : CE) : CE := fun ρ S => (a ρ S).bind fun p => (asBool p.1).bind fun k => if k = true then some (.d (.bool true), p.2) else b ρ p.2
def notE (a : CE) : CE := fun ρ S => (a ρ S).bind fun p => (asBool p.1).bind fun k => some (.d (.bool (!k)), p.2)
theorem rd_andE {K : PySem.W.Frag} {σ : L2.St} {H : Hp} {Q : VK} (h : rdE K (andE ma mb) σ H Q) : rdE K ma σ H fun x H1 => ∃ k, x = .bl k ∧ if k = true then rdE K mb σ H1 Q else Q (.bl false) H1 := by
  obtain ⟨μ, S, ρ, w, S', ok, en, e, q⟩ := h
  unfold andE at e
  cases ha : ma ρ S with
  | none => rw [ha] at e; cases e
  | some p =>
    obtain ⟨w1, S1⟩ := p
    rw [ha, Option.bind_some] at e
    cases hk : asBool w1 with
    | none => rw [hk] at e; cases e
    | some k =>
      rw [hk, Option.bind_some] at e
      refine ⟨μ, S, ρ, w1, S1, ok, en, ha, fun x H1 μ1 st1 r1 => ?_⟩
      unfold asBool at hk
      split at hk
      · cases hk
        cases r1 with | d r1 =>
        cases r1
        refine ⟨k, rfl, ?_⟩
        cases k with
        | true => exact ⟨μ1, S1, ρ, w, S', st1.sto, en.step ok st1, e, fun v H2 μ2 st2 => q v H2 μ2 (st1.trans ok st2)⟩
        | false => cases e; exact q _ H1 μ1 st1 (.d (.bl _))
      · cases hk
theorem rd_orE {K : PySem.W.Frag} {σ : L2.St} {H : Hp} {Q : VK} (h : rdE K (orE ma mb) σ H Q) : rdE K ma σ H fun x H1 => ∃ k, x = .bl k ∧ if k = true then Q (.bl true) H1 else rdE K mb σ H1 Q := by
  obtain ⟨μ, S, ρ, w, S', ok, en, e, q⟩ := h
  unfold orE at e
  cases ha : ma ρ S with
  | none => rw [ha] at e; cases e
  | some p =>
    obtain ⟨w1, S1⟩ := p
    rw [ha, Option.bind_some] at e
    cases hk : asBool w1 with
    | none => rw [hk] at e; cases e
    | some k =>
      rw [hk, Option.bind_some] at e
      refine ⟨μ, S, ρ, w1, S1, ok, en, ha, fun x H1 μ1 st1 r1 => ?_⟩
      unfold asBool at hk
      split at hk
      · cases hk
        cases r1 with | d r1 =>
        cases r1
        refine ⟨k, rfl, ?_⟩
        cases k with
        | false => exact ⟨μ1, S1, ρ, w, S', st1.sto, en.step ok st1, e, fun v H2 μ2 st2 => q v H2 μ2 (st1.trans ok st2)⟩
        | true => cases e; exact q _ H1 μ1 st1 (.d (.bl _))
      · cases hk
theorem se_not (h : SE X a ma) : SE X (.UnaryOp .Not a pos) (notE ma) :=
  PE.imp (pe_not h) fun σ H Q ⟨μ, S, ρ, w, S', ok, en, e, q⟩ => by
    unfold notE at e
    cases ha : ma ρ S with
    | none => rw [ha] at e; cases e
    | some p =>
      obtain ⟨w1, S1⟩ := p
      rw [ha, Option.bind_some] at e
      cases hk : asBool w1 with
      | none => rw [hk] at e; cases e
      | some k =>
        rw [hk, Option.bind_some] at e
        cases e
        refine ⟨μ, S, ρ, w1, _, ok, en, ha, fun x H1 μ1 st1 r1 => ?_⟩
        unfold asBool at hk
        split at hk
        · cases hk
          cases r1 with | d r1 =>
          cases r1
          exact ⟨k, rfl, q _ H1 μ1 st1 (.d (.bl _))⟩
        · cases hk
theorem se_if (hc : SB X c ta) (ha : SE X a ma) (hb : SE X b mb) : SE X (.IfExp c a b pos) (ifE ta ma mb) :=
  PE.imp (pe_ifExp hc ha hb) fun σ H Q ⟨μ, S, ρ, w, S', ok, en, e, q⟩ => by
    unfold ifE at e
    cases hx : ta ρ S with
    | none => rw [hx] at e; cases e
    | some p =>
      obtain ⟨k, S1⟩ := p
      rw [hx, Option.bind_some] at e
      refine ⟨μ, S, ρ, k, S1, ok, en, hx, fun H1 μ1 st1 => ?_⟩
      cases k with
      | true => exact ⟨μ1, S1, ρ, w, S', st1.sto, en.step ok st1, e, fun v H2 μ2 st2 => q v H2 μ2 (st1.trans ok st2)⟩
      | false => exact ⟨μ1, S1, ρ, w, S', st1.sto, en.step ok st1, e, fun v H2 μ2 st2 => q v H2 μ2 (st1.trans ok st2)⟩
end

/-! ### argument lists -/
section
variable {X : Cx} {e a b c : Expr} {es : List Expr} {ma mb mc : CE} {ml : CL} {pos : Pos}
theorem sl_nil : SL X [] nilL := PA.imp pa_nil fun σ H Q ⟨μ, S, ρ, w, S', ok, en, e, q⟩ => by
  cases e
  exact q _ H μ (.refl ok) .nil
theorem rd_cons {K : PySem.W.Frag} {σ : L2.St} {H : Hp} {Q : List V → Hp → Prop} (h : rdL K (consL ma ml) σ H Q) : rdE K ma σ H fun x H1 => rdL K ml σ H1 fun xs H2 => Q (x :: xs) H2 := by
  obtain ⟨μ, S, ρ, w, S', ok, en, e, q⟩ := h
  unfold consL at e
  cases ha : ma ρ S with
  | none => rw [ha] at e; cases e
  | some p =>
    obtain ⟨w1, S1⟩ := p
    rw [ha, Option.bind_some] at e
    cases hb : ml ρ S1 with
    | none => rw [hb] at e; cases e
    | some p2 =>
      obtain ⟨ws, S2⟩ := p2
      rw [hb, Option.bind_some] at e
      cases e
      exact ⟨μ, S, ρ, w1, S1, ok, en, ha, fun x H1 μ1 st1 r1 => ⟨μ1, S1, ρ, ws, _, st1.sto, en.step ok st1, hb, fun xs H2 μ2 st2 r2 => q _ H2 μ2 (st1.trans ok st2) (.cons (r1.mono (st2.keeps st1.sto) st2.pre) r2)⟩⟩
theorem sl_cons (ha : SE X e ma) (hr : SL X es ml) (hs : starEach (e :: es) X.env = (false, eval e X.env) :: starEach es X.env) : SL X (e :: es) (consL ma ml) :=
  PA.imp (pa_cons ha hr hs) fun _ _ _ h => rd_cons h
theorem rd_app {f : List W → Sto → Option (W × Sto)} {K : PySem.W.Frag} {σ : L2.St} {H : Hp} {Q : VK} (h : rdE K (appE f ml) σ H Q) : rdL K ml σ H fun xs H1 => FN K f xs H1 Q := by
  obtain ⟨μ, S, ρ, w, S', ok, en, e, q⟩ := h
  unfold appE at e
  cases ha : ml ρ S with
  | none => rw [ha] at e; cases e
  | some p =>
    obtain ⟨w1, S1⟩ := p
    rw [ha, Option.bind_some] at e
    exact ⟨μ, S, ρ, w1, S1, ok, en, ha, fun x H1 μ1 st1 r1 => ⟨μ1, S1, w1, w, S', st1.sto, r1, e, fun v H' μ' st3 r3 => q v H' μ' (st1.trans ok st3) r3⟩⟩
end
end PD

/-! PD, part 3: displays, subscripts, slices, calls of built-ins. -/
namespace PD
open PySem PySem.Spec PyProof.Rows L2

/-! ### plain data in a row -/
def allD : List W → Option (List PyData)
  | [] => some []
  | .d x :: r => (allD r).bind fun xs => some (x :: xs)
  | .m _ :: _ => none
theorem allD_rep {K : PySem.W.Frag} {H : Hp} {μ : List Addr} : ∀ {ws : List W} {vs : List V} {xs : List PyData}, WRepL K H μ ws vs → allD ws = some xs → RepL K H xs vs
  | _, _, _, .nil, h => by cases h; exact .nil
  | _, _, _, .cons (w := .d x) (.d r) l, h => by
    unfold allD at h
    cases e : allD _ with
    | none => rw [e] at h; cases h
    | some ys => rw [e, Option.bind_some] at h; cases h; exact .cons r (allD_rep l e)
  | _, _, _, .cons (w := .m n) _ _, h => by cases h
def tupF : List W → Sto → Option (W × Sto) := fun ws S => (allD ws).bind fun xs => if xs.length ≤ lim then some (.d (.tuple xs), S) else none
def lstF : List W → Sto → Option (W × Sto) := fun ws S => (allD ws).bind fun xs => if xs.length ≤ lim then some (.d (.list xs), S) else none
def lstM : List W → Sto → Option (W × Sto) := fun ws S => (allD ws).bind fun xs => if xs.length ≤ lim then some (.m S.length, S ++ [some xs]) else none
section
variable {X : Cx} {e a b c : Expr} {es : List Expr} {ma mb mc : CE} {ml : CL} {pos : Pos}
theorem se_tup {k : Nat} (h : SL X es ml) : SE X (.Tuple es k pos) (appE tupF ml) := PE.imp (pe_tup h) fun σ H Q h => by
  obtain ⟨μ, S, ρ, ws, S1, ok, en, e, q⟩ := rd_app h
  refine ⟨μ, S, ρ, ws, S1, ok, en, e, fun vs H1 μ1 st r => ?_⟩
  obtain ⟨μ2, S2, ws2, w, S3, ok2, r2, e2, q2⟩ := q vs H1 μ1 st r
  unfold tupF at e2
  cases ea : allD ws2 with
  | none => rw [ea] at e2; cases e2
  | some xs =>
    rw [ea, Option.bind_some] at e2
    split at e2
    · rename_i hz
      cases e2
      have rl := allD_rep r2 ea
      exact ⟨by rw [← rl.length]; exact lim_le hz, fun p hp => q2 _ _ μ2 (.new ok2 hp) (.d (.tup (.inl upd_same) (rl.mono fun a o e _ => same_new hp a o e)))⟩
    · cases e2
theorem se_lst (h : SL X es ml) : SE X (.List es pos) (appE lstF ml) := PE.imp (pe_fz (pe_lst h)) fun σ H Q h => by
  obtain ⟨μ, S, ρ, ws, S1, ok, en, e, q⟩ := rd_app h
  refine ⟨μ, S, ρ, ws, S1, ok, en, e, fun vs H1 μ1 st r => ?_⟩
  obtain ⟨μ2, S2, ws2, w, S3, ok2, r2, e2, q2⟩ := q vs H1 μ1 st r
  unfold lstF at e2
  cases ea : allD ws2 with
  | none => rw [ea] at e2; cases e2
  | some xs =>
    rw [ea, Option.bind_some] at e2
    split at e2
    · rename_i hz
      cases e2
      have rl := allD_rep r2 ea
      refine ⟨by rw [← rl.length]; exact lim_le hz, fun p hp => .inl ⟨p, _, rfl, upd_same, fun o => ?_⟩⟩
      rw [upd_upd]
      exact q2 _ _ μ2 (.new ok2 hp) (.d (.lst (.inl ⟨o, upd_same⟩) (rl.mono fun a o e _ => same_new hp a o e)))
    · cases e2
theorem se_lstM (h : SL X es ml) : SE X (.List es pos) (appE lstM ml) := PE.imp (pe_lst h) fun σ H Q h => by
  obtain ⟨μ, S, ρ, ws, S1, ok, en, e, q⟩ := rd_app h
  refine ⟨μ, S, ρ, ws, S1, ok, en, e, fun vs H1 μ1 st r => ?_⟩
  obtain ⟨μ2, S2, ws2, w, S3, ok2, r2, e2, q2⟩ := q vs H1 μ1 st r
  unfold lstM at e2
  cases ea : allD ws2 with
  | none => rw [ea] at e2; cases e2
  | some xs =>
    rw [ea, Option.bind_some] at e2
    split at e2
    · rename_i hz
      cases e2
      have rl := allD_rep r2 ea
      refine ⟨by rw [← rl.length]; exact lim_le hz, fun p hp => q2 _ _ _ (.cell ok2 hp rl) (.m ?_)⟩
      rw [← ok2.len, List.getElem?_append_right (Nat.le_refl _), Nat.sub_self]; rfl
    · cases e2

/-! ### subscripts -/
def ixP : PyData → PyData → Option PyData
  | .list xs, .int i => atI xs i
  | .tuple xs, .int i => atI xs i
  | _, _ => none
theorem ixN_len {n m : Nat} (h : n = m) (i : Int) : ixN n i = ixN m i := by rw [h]
theorem RepL.at {K : PySem.W.Frag} {H : Hp} {xs : List PyData} {vs : List V} {i : Int} {x : PyData} (l : RepL K H xs vs) (h : atI xs i = some x) : ∃ v, atI vs i = some v ∧ Rep K H x v := by
  unfold atI at h ⊢
  rw [l.length] at h
  cases e : ixN vs.length i with
  | none => rw [e] at h; cases h
  | some j =>
    rw [e] at h
    exact l.get h
theorem so_ix : IxR X (F2 X.K (pf2 ixP)) := by
  have h := (ix_list (X := X)).or (ix_tup (X := X))
  intro value slice pins s σ H x y v u Q I rx ry q0 hs
  refine h value slice pins s σ H x y v u Q I rx ry ?_ hs
  obtain ⟨d1, d2, c, r1, r2, e, q⟩ := F2_pure q0
  unfold ixP at e
  split at e
  · obtain ⟨a, vs, rfl, h1, l1⟩ := r1.list
    obtain ⟨z, hz, rz⟩ := l1.at e
    exact .inl ⟨a, vs, _, z, rfl, r2.int, h1, hz, q z H keeps_all rz⟩
  · obtain ⟨a, vs, rfl, h1, l1⟩ := r1.tuple
    obtain ⟨z, hz, rz⟩ := l1.at e
    exact .inr ⟨a, vs, _, z, rfl, r2.int, h1.sq, hz, q z H keeps_all rz⟩
  · cases e
def isSlice : Expr → Bool
  | .Slice _ _ _ _ => true
  | _ => false
theorem plainIx {b : Expr} (h : isSlice b = false) : PlainIx b := by
  intro o i
  cases b <;> first | rfl | cases h
theorem se_ix (ha : SE X a ma) (hb : SE X b mb) (hs : isSlice b = false) : SE X (.Subscript a b pos) (binE (pf2 ixP) ma mb) :=
  PE.imp (pe_ix so_ix ha hb (plainIx hs)) fun _ _ _ h => rd_bin h

/-! ### slices -/
def cutP (xs : List PyData) (lo hi : Option Int) : List PyData := (xs.drop (HT.sIx xs.length 0 lo)).take (HT.sIx xs.length xs.length hi - HT.sIx xs.length 0 lo)
def sliceP (lo hi : Option Int) : PyData → Option PyData
  | .list xs => some (.list (cutP xs lo hi))
  | .tuple xs => some (.tuple (cutP xs lo hi))
  | _ => none
theorem RepL.cut {K : PySem.W.Frag} {H : Hp} {xs : List PyData} {vs : List V} (l : RepL K H xs vs) (lo hi : Option Int) : RepL K H (cutP xs lo hi) (cutV vs lo hi) := by
  unfold cutP cutV
  rw [l.length]
  exact (l.drop _).take _
abbrev CO := Rho → Sto → Option (Option Int × Sto)
def rdO (K : PySem.W.Frag) (m : CO) : TO := fun σ H Q => ∃ μ S ρ w S', StoOk K H μ S ∧ EnvOk K H μ ρ σ ∧ m ρ S = some (w, S') ∧ ∀ H' μ', Stp K μ S H μ' S' H' → Q w H'
abbrev SO (X : Cx) (e : Option Expr) (m : CO) : Prop := PO X e (rdO X.K m)
theorem PO.imp {X : Cx} {e : Option Expr} {t t' : TO} (h : PO X e t) (i : ∀ σ H Q, t' σ H Q → t σ H Q) : PO X e t' := ⟨fun pins s σ H Q I q => h.run pins s σ H Q I (i σ H Q q)⟩
def noO : CO := fun _ S => some (none, S)
def asInt : W → Option Int
  | .d (.int i) => some i
  | _ => none
def someO (a : CE) : CO := fun ρ S => (a ρ S).bind fun p => (asInt p.1).bind fun i => some (some i, p.2)
theorem so_none : SO X none noO := PO.imp po_none fun σ H Q ⟨μ, S, ρ, w, S', ok, en, e, q⟩ => by
  cases e
  exact q H μ (.refl ok)
theorem so_some (ha : SE X a ma) : SO X (some a) (someO ma) := PO.imp (po_some ha) fun σ H Q ⟨μ, S, ρ, w, S', ok, en, e, q⟩ => by
  unfold someO at e
  cases hx : ma ρ S with
  | none => rw [hx] at e; cases e
  | some p =>
    obtain ⟨w1, S1⟩ := p
    rw [hx, Option.bind_some] at e
    cases hi : asInt w1 with
    | none => rw [hi] at e; cases e
    | some i =>
      rw [hi, Option.bind_some] at e
      cases e
      refine ⟨μ, S, ρ, w1, _, ok, en, hx, fun v H1 μ1 st r => ⟨i, ?_, q H1 μ1 st⟩⟩
      unfold asInt at hi
      split at hi
      · cases hi
        cases r with | d r => cases r; rfl
      · cases hi
def sliceE (a : CE) (lo hi : CO) : CE := fun ρ S => (a ρ S).bind fun p => (lo ρ p.2).bind fun l => (hi ρ l.2).bind fun u => (rd u.2 p.1).bind fun x => (sliceP l.1 u.1 x).bind fun y => some (.d y, u.2)
theorem se_slice {lo hi : Option Expr} {ml mh : CO} {p2 : Pos} (ha : SE X a ma) (hl : SO X lo ml) (hh : SO X hi mh) : SE X (.Subscript a (.Slice lo hi none p2) pos) (sliceE ma ml mh) :=
  PE.imp (pe_fz (pe_slice (SlR.or sl_list sl_tupA) ha hl hh)) fun σ H Q ⟨μ, S, ρ, w, S', ok, en, e, q⟩ => by
    unfold sliceE at e
    cases h1 : ma ρ S with
    | none => rw [h1] at e; cases e
    | some p =>
      obtain ⟨w1, S1⟩ := p
      rw [h1, Option.bind_some] at e
      cases h2 : ml ρ S1 with
      | none => rw [h2] at e; cases e
      | some p2 =>
        obtain ⟨l, S2⟩ := p2
        rw [h2, Option.bind_some] at e
        cases h3 : mh ρ S2 with
        | none => rw [h3] at e; cases e
        | some p3 =>
          obtain ⟨u, S3⟩ := p3
          rw [h3, Option.bind_some] at e
          cases h4 : rd S3 w1 with
          | none => rw [h4] at e; cases e
          | some x =>
            rw [h4, Option.bind_some] at e
            cases h5 : sliceP l u x with
            | none => rw [h5] at e; cases e
            | some y =>
              rw [h5, Option.bind_some] at e
              cases e
              refine ⟨μ, S, ρ, w1, S1, ok, en, h1, fun v H1 μ1 st1 r1 => ⟨μ1, S1, ρ, l, S2, st1.sto, en.step ok st1, h2, fun H2 μ2 st2 => ?_⟩⟩
              have st12 := st1.trans ok st2
              refine ⟨μ2, S2, ρ, u, S3, st2.sto, en.step ok st12, h3, fun H3 μ3 st3 => ?_⟩
              have st13 := st12.trans ok st3
              have st23 := st2.trans st1.sto st3
              have r3 := RdRep.of st13.sto (r1.mono (st23.keeps st1.sto) st23.pre) h4
              unfold sliceP at h5
              split at h5
              · cases h5
                obtain ⟨a, vs, rfl, ha, la⟩ := r3.list
                refine .inl ⟨a, vs, rfl, ha, fun p hp => .inl ⟨p, _, rfl, upd_same, fun o => ?_⟩⟩
                rw [upd_upd]
                exact q _ _ μ3 (st13.trans ok (.new st13.sto hp)) (.d (.lst (.inl ⟨o, upd_same⟩) ((la.cut l u).mono fun a o e _ => same_new hp a o e)))
              · cases h5
                obtain ⟨a, vs, rfl, ha, la⟩ := r3.tuple
                refine .inr ⟨a, vs, rfl, ha.sq, fun hw => .inr ?_, fun _ p hp => .inr ?_⟩
                · refine q _ H3 μ3 st13 (.d (.tup ha ?_))
                  have e := la.cut l u
                  have e2 : cutV vs l u = vs := by
                    unfold cutV
                    rw [hw.1, hw.2]
                    simp
                  rw [e2] at e
                  exact e
                · exact q _ _ μ3 (st13.trans ok (.new st13.sto hp)) (.d (.tup (.inl upd_same) ((la.cut l u).mono fun a o e _ => same_new hp a o e)))
              · cases h5
end

/-! ### calls of built-ins -/
def pfN (g : List PyData → Option PyData) : List W → Sto → Option (W × Sto) := fun ws S => (ws.mapM (rd S)).bind fun xs => (g xs).bind fun c => some (.d c, S)
inductive RdRepL (K : PySem.W.Frag) (H : Hp) : List PyData → List V → Prop
  | nil : RdRepL K H [] []
  | cons {x : PyData} {v : V} {xs : List PyData} {vs : List V} : RdRep K H x v → RdRepL K H xs vs → RdRepL K H (x :: xs) (v :: vs)
theorem RdRepL.of {K : PySem.W.Frag} {H : Hp} {μ : List Addr} {S : Sto} (ok : StoOk K H μ S) : ∀ {ws : List W} {vs : List V} {xs : List PyData}, WRepL K H μ ws vs → ws.mapM (rd S) = some xs → RdRepL K H xs vs
  | _, _, _, .nil, h => by cases h; exact .nil
  | _, _, _, .cons (w := w) (ws := ws) r l, h => by
    rw [List.mapM_cons] at h
    cases e : rd S w with
    | none => rw [e] at h; cases h
    | some x =>
      cases e2 : ws.mapM (rd S) with
      | none => rw [e, e2] at h; cases h
      | some ys =>
        rw [e, e2] at h
        cases h
        exact .cons (RdRep.of ok r e) (RdRepL.of ok l e2)
theorem FN_pure {K : PySem.W.Frag} {g : List PyData → Option PyData} {xs : List V} {H : Hp} {Q : VK} (h : FN K (pfN g) xs H Q) :
    ∃ ds c, RdRepL K H ds xs ∧ g ds = some c ∧ ∀ v H', (∀ a o, H a = some o → H' a = some o) → Rep K H' c v → Q v H' := by
  obtain ⟨μ, S, ws, w, S', ok, r1, e, q⟩ := h
  unfold pfN at e
  cases h1 : ws.mapM (rd S) with
  | none => rw [h1] at e; cases e
  | some ds =>
    cases h3 : g ds with
    | none => rw [h1, Option.bind_some, h3] at e; cases e
    | some c =>
      rw [h1, Option.bind_some, h3, Option.bind_some] at e
      cases e
      exact ⟨ds, c, RdRepL.of ok r1 h1, h3, fun v H' k r => q v H' μ (Stp.same ok k) (.d r)⟩
theorem RdRepL.one {K : PySem.W.Frag} {H : Hp} {x : PyData} {vs : List V} (r : RdRepL K H [x] vs) : ∃ v, vs = [v] ∧ RdRep K H x v := by
  cases r with | cons a b => cases b; exact ⟨_, rfl, a⟩
theorem RdRepL.two {K : PySem.W.Frag} {H : Hp} {x y : PyData} {vs : List V} (r : RdRepL K H [x, y] vs) : ∃ v u, vs = [v, u] ∧ RdRep K H x v ∧ RdRep K H y u := by
  cases r with | cons a b => cases b with | cons b c => cases c; exact ⟨_, _, rfl, a, b⟩
def allInt : List PyData → Option (List Int)
  | [] => some []
  | .int i :: r => (allInt r).bind fun xs => some (i :: xs)
  | _ => none
theorem allInt_eq : ∀ {xs : List PyData} {ns : List Int}, allInt xs = some ns → xs = ns.map PyData.int
  | [], _, h => by cases h; rfl
  | .int i :: r, ns, h => by
    unfold allInt at h
    cases e : allInt r with
    | none => rw [e] at h; cases h
    | some ys => rw [e, Option.bind_some] at h; cases h; rw [List.map_cons, allInt_eq e]
  | .none :: _, _, h => by cases h
  | .bool _ :: _, _, h => by cases h
  | .str _ :: _, _, h => by cases h
  | .list _ :: _, _, h => by cases h
  | .tuple _ :: _, _, h => by cases h
  | .dict _ :: _, _, h => by cases h
def allBool : List PyData → Option (List Bool)
  | [] => some []
  | .bool i :: r => (allBool r).bind fun xs => some (i :: xs)
  | _ => none
theorem allBool_eq : ∀ {xs : List PyData} {ns : List Bool}, allBool xs = some ns → xs = ns.map PyData.bool
  | [], _, h => by cases h; rfl
  | .bool i :: r, ns, h => by
    unfold allBool at h
    cases e : allBool r with
    | none => rw [e] at h; cases h
    | some ys => rw [e, Option.bind_some] at h; cases h; rw [List.map_cons, allBool_eq e]
  | .none :: _, _, h => by cases h
  | .int _ :: _, _, h => by cases h
  | .str _ :: _, _, h => by cases h
  | .list _ :: _, _, h => by cases h
  | .tuple _ :: _, _, h => by cases h
  | .dict _ :: _, _, h => by cases h
theorem RepL.ints_eq {K : PySem.W.Frag} {H : Hp} : ∀ {ns : List Int} {vs : List V}, RepL K H (ns.map PyData.int) vs → vs = ns.map V.int
  | [], _, h => by cases h; rfl
  | n :: ns, _, h => by
    rw [List.map_cons] at h
    cases h with
    | cons r l => cases r; rw [List.map_cons, RepL.ints_eq l]
theorem RepL.bools_eq {K : PySem.W.Frag} {H : Hp} : ∀ {ns : List Bool} {vs : List V}, RepL K H (ns.map PyData.bool) vs → vs = ns.map V.bl
  | [], _, h => by cases h; rfl
  | n :: ns, _, h => by
    rw [List.map_cons] at h
    cases h with
    | cons r l => cases r; rw [List.map_cons, RepL.bools_eq l]

def lenP : List PyData → Option PyData
  | [.list xs] => some (.int xs.length)
  | [.tuple xs] => some (.int xs.length)
  | _ => none
def absP : List PyData → Option PyData
  | [.int i] => some (.int (if i < 0 then -i else i))
  | _ => none
def intP : List PyData → Option PyData
  | [.int i] => some (.int i)
  | [.bool b] => some (.int (if b then 1 else 0))
  | _ => none
def maxP : List PyData → Option PyData
  | [.int i, .int j] => some (.int (if j > i then j else i))
  | _ => none
def minP : List PyData → Option PyData
  | [.int i, .int j] => some (.int (if j < i then j else i))
  | _ => none
def divmodP : List PyData → Option PyData
  | [.int i, .int j] => if 0 < j ∧ j < 1073741824 then some (.tuple [.int (i / j), .int (i % j)]) else none
  | _ => none
def sumP : List PyData → Option PyData
  | [.list xs] => (allInt xs).bind fun ns => some (.int ns.sum)
  | _ => none
def allP : List PyData → Option PyData
  | [.list xs] => (allBool xs).bind fun bs => some (.bool (bs.all id))
  | _ => none
def tupleP : List PyData → Option PyData
  | [.list xs] => some (.tuple xs)
  | [.tuple xs] => some (.tuple xs)
  | _ => none
def listP : List PyData → Option PyData
  | [.list xs] => some (.list xs)
  | [.tuple xs] => some (.list xs)
  | _ => none
def gcdP : List PyData → Option PyData
  | [.int i, .int j] => some (.int ((Nat.gcd i.natAbs j.natAbs : Nat) : Int))
  | _ => none
def reprP : List PyData → Option PyData
  | [x] => if x.showable = true ∧ x.hasDict = false ∧ x.depth ≤ 64 ∧ x.shown.length ≤ lim then some (.str x.shown) else none
  | _ => none
section
variable {X : Cx}
theorem sc_len : CallR X (.builtin "len") (FN X.K (pfN lenP)) := by
  refine CallR.imp call_len_seq fun xs H Q h => ?_
  obtain ⟨ds, c, r, e, q⟩ := FN_pure h
  unfold lenP at e
  split at e
  · cases e
    obtain ⟨v, rfl, r1⟩ := r.one
    obtain ⟨a, vs, rfl, h1, l1⟩ := r1.list
    exact ⟨a, vs, rfl, .inl h1, q _ H keeps_all (by rw [← l1.length]; exact .int _)⟩
  · cases e
    obtain ⟨v, rfl, r1⟩ := r.one
    obtain ⟨a, vs, rfl, h1, l1⟩ := r1.tuple
    exact ⟨a, vs, rfl, .inr h1.sq, q _ H keeps_all (by rw [← l1.length]; exact .int _)⟩
  · cases e
theorem sc_abs : CallR X (.builtin "abs") (FN X.K (pfN absP)) := by
  refine CallR.imp call_abs fun xs H Q h => ?_
  obtain ⟨ds, c, r, e, q⟩ := FN_pure h
  unfold absP at e
  split at e
  · cases e
    obtain ⟨v, rfl, r1⟩ := r.one
    exact ⟨_, by rw [r1.int], q _ H keeps_all (.int _)⟩
  · cases e
theorem sc_int : CallR X (.type "int") (FN X.K (pfN intP)) := by
  refine CallR.imp call_int1 fun xs H Q h => ?_
  obtain ⟨ds, c, r, e, q⟩ := FN_pure h
  unfold intP at e
  split at e
  · cases e
    obtain ⟨v, rfl, r1⟩ := r.one
    exact .inl ⟨_, by rw [r1.int], q _ H keeps_all (.int _)⟩
  · cases e
    obtain ⟨v, rfl, r1⟩ := r.one
    exact .inr ⟨_, by rw [r1.bool], q _ H keeps_all (.int _)⟩
  · cases e
theorem sc_max (hc : X.calm = true) : CallR X (.builtin "max") (FN X.K (pfN maxP)) := by
  refine CallR.imp (call_max2 hc) fun xs H Q h => ?_
  obtain ⟨ds, c, r, e, q⟩ := FN_pure h
  unfold maxP at e
  split at e
  · cases e
    obtain ⟨v, u, rfl, r1, r2⟩ := r.two
    exact ⟨_, _, by rw [r1.int, r2.int], q _ H keeps_all (.int _)⟩
  · cases e
theorem sc_min (hc : X.calm = true) : CallR X (.builtin "min") (FN X.K (pfN minP)) := by
  refine CallR.imp (call_min2 hc) fun xs H Q h => ?_
  obtain ⟨ds, c, r, e, q⟩ := FN_pure h
  unfold minP at e
  split at e
  · cases e
    obtain ⟨v, u, rfl, r1, r2⟩ := r.two
    exact ⟨_, _, by rw [r1.int, r2.int], q _ H keeps_all (.int _)⟩
  · cases e
theorem sc_divmod : CallR X (.builtin "divmod") (FN X.K (pfN divmodP)) := by
  refine CallR.imp call_divmod fun xs H Q h => ?_
  obtain ⟨ds, c, r, e, q⟩ := FN_pure h
  unfold divmodP at e
  split at e
  · split at e
    · rename_i hz
      cases e
      obtain ⟨v, u, rfl, r1, r2⟩ := r.two
      exact ⟨_, _, by rw [r1.int, r2.int], hz, fun p hp => q _ _ (same_new hp) (.tup (.inl upd_same) (.cons (.int _) (.cons (.int _) .nil)))⟩
    · cases e
  · cases e
theorem sc_sum (hc : X.calm = true) : CallR X (.builtin "sum") (FN X.K (pfN sumP)) := by
  refine CallR.imp (cr_sum hc) fun xs H Q h => ?_
  obtain ⟨ds, c, r, e, q⟩ := FN_pure h
  unfold sumP at e
  split at e
  · rename_i xs
    cases h1 : allInt xs with
    | none => rw [h1] at e; cases e
    | some ns =>
      rw [h1, Option.bind_some] at e
      cases e
      obtain ⟨v, rfl, r1⟩ := r.one
      obtain ⟨a, vs, rfl, h2, l2⟩ := r1.list
      rw [allInt_eq h1] at l2
      have ev := l2.ints_eq
      subst ev
      exact ⟨a, ns, rfl, h2, q _ H keeps_all (.int _)⟩
  · cases e
theorem sc_all (hc : X.calm = true) : CallR X (.builtin "all") (FN X.K (pfN allP)) := by
  refine CallR.imp (cr_all hc) fun xs H Q h => ?_
  obtain ⟨ds, c, r, e, q⟩ := FN_pure h
  unfold allP at e
  split at e
  · rename_i xs
    cases h1 : allBool xs with
    | none => rw [h1] at e; cases e
    | some ns =>
      rw [h1, Option.bind_some] at e
      cases e
      obtain ⟨v, rfl, r1⟩ := r.one
      obtain ⟨a, vs, rfl, h2, l2⟩ := r1.list
      rw [allBool_eq h1] at l2
      have ev := l2.bools_eq
      subst ev
      exact ⟨a, ns, rfl, h2, q _ H keeps_all (.bl _)⟩
  · cases e
theorem sc_tuple : CallR X (.type "tuple") (FN X.K (pfN tupleP)) := by
  refine CallR.imp call_tuple_of fun xs H Q h => ?_
  obtain ⟨ds, c, r, e, q⟩ := FN_pure h
  unfold tupleP at e
  split at e
  · cases e
    obtain ⟨v, rfl, r1⟩ := r.one
    obtain ⟨a, vs, rfl, h1, l1⟩ := r1.list
    exact ⟨a, vs, rfl, .inl ⟨h1, fun p hp => q _ _ (same_new hp) (.tup (.inl upd_same) (l1.mono fun a o e _ => same_new hp a o e))⟩⟩
  · cases e
    obtain ⟨v, rfl, r1⟩ := r.one
    obtain ⟨a, vs, rfl, h1, l1⟩ := r1.tuple
    exact ⟨a, vs, rfl, .inr ⟨h1.sq, q _ _ keeps_all (.tup h1 l1)⟩⟩
  · cases e
theorem sc_list : CallR X (.type "list") (FN X.K (pfN listP)) := by
  refine CallR.imp (call_fz call_list_of) fun xs H Q h => ?_
  obtain ⟨ds, c, r, e, q⟩ := FN_pure h
  unfold listP at e
  split at e
  · cases e
    obtain ⟨v, rfl, r1⟩ := r.one
    obtain ⟨a, vs, rfl, h1, l1⟩ := r1.list
    refine ⟨a, vs, rfl, .inl h1, fun p hp => .inl ⟨p, _, rfl, upd_same, fun o => ?_⟩⟩
    rw [upd_upd]
    exact q _ _ (same_new hp) (.lst (.inl ⟨o, upd_same⟩) (l1.mono fun a o e _ => same_new hp a o e))
  · cases e
    obtain ⟨v, rfl, r1⟩ := r.one
    obtain ⟨a, vs, rfl, h1, l1⟩ := r1.tuple
    refine ⟨a, vs, rfl, .inr h1.sq, fun p hp => .inl ⟨p, _, rfl, upd_same, fun o => ?_⟩⟩
    rw [upd_upd]
    exact q _ _ (same_new hp) (.lst (.inl ⟨o, upd_same⟩) (l1.mono fun a o e _ => same_new hp a o e))
  · cases e
theorem sc_gcd : CallR X (.builtin "math.gcd") (FN X.K (pfN gcdP)) := by
  refine CallR.imp cr_gcd fun xs H Q h => ?_
  obtain ⟨ds, c, r, e, q⟩ := FN_pure h
  unfold gcdP at e
  split at e
  · cases e
    obtain ⟨v, u, rfl, r1, r2⟩ := r.two
    exact ⟨_, _, by rw [r1.int, r2.int], q _ H keeps_all (.int _)⟩
  · cases e
end

/-! ### isinstance -/
def tyOf : W → Option String
  | .m _ => some "list"
  | .d .none => some "NoneType"
  | .d (.bool _) => some "bool"
  | .d (.int _) => some "int"
  | .d (.str _) => some "str"
  | .d (.list _) => some "list"
  | .d (.tuple _) => some "tuple"
  | .d (.dict _) => none
/-- isinstance with a built-in type T -/
def isiF (T : String) : W → Sto → Option (W × Sto) := fun x S => (tyOf x).bind fun t => (kitB t T).bind fun b => some (.d (.bool b), S)
section
variable {X : Cx} {K : PySem.W.Frag} {H : Hp} {μ : List Addr} {S : Sto}
theorem tyX_of (ok : StoOk K H μ S) {w : W} {v : V} {T : String} (r : WRep K H μ w v) (hl : ∀ n, w = .m n → ∃ xs, S[n]? = some (some xs)) (h : tyOf w = some T) : TyX K H v (.type T) := by
  cases r with
  | m hm =>
    rename_i n a
    cases h
    obtain ⟨xs, hs⟩ := hl n rfl
    obtain ⟨b, vs, h1, h2, _⟩ := ok.cell n xs hs
    rw [hm] at h1; cases h1
    exact .base (.lst h2)
  | d r =>
    cases r with
    | non => cases h; exact .base .non
    | bl b => cases h; exact .base (.bl b)
    | int i => cases h; exact .base (.int i)
    | str x => cases h; exact .base (.str x)
    | tup ht _ =>
      cases h
      rcases ht with ht | ⟨o, its, n, hk, hc, _⟩
      · exact .base (.tup ht)
      · exact .kTuple hk hc
    | lst ht _ =>
      cases h
      rcases ht with ⟨o, ht⟩ | ⟨o, its, n, hk, hc, _⟩
      · exact .base (.frz ht)
      · exact .kList hk hc
end
/-- isinstance(x, T): x plain or a live cell -/
def isiE (T : String) (a : CE) : CE := fun ρ S => (a ρ S).bind fun p => (rd p.2 p.1).bind fun _ => isiF T p.1 p.2
section
variable {X : Cx} {a : Expr} {ma : CE} {pos p1 p2 : Pos}
theorem rd_live {S : Sto} {w : W} {x : PyData} (h : rd S w = some x) : ∀ n, w = .m n → ∃ xs, S[n]? = some (some xs) := by
  rintro n rfl
  have h' : (match S[n]? with
    | some (some xs) => some (PyData.list xs)
    | _ => none) = some x := h
  split at h'
  · rename_i xs hs; exact ⟨xs, hs⟩
  · cases h'
theorem se_isi {T : Str} {t : String} (ha : SE X a ma) (hg : Gl X "isinstance") (hm : X.mg "isinstance" = none) (hgT : Gl X T) (hmT : X.mg T = none) (hv : bootBuiltins T = some (.type t)) (hn : T ≠ "__name__") (hd : (T == ("__debug__" : Str)) = false)
    (h1 : starEach [a, .Name T p2] X.env = (false, eval a X.env) :: starEach [.Name T p2] X.env) :
    SE X (.Call (.Name "isinstance" p1) [a, .Name T p2] [] pos) (isiE t ma) := by
  have hT : PE X (.Name T p2) (tC (.ty t)) := pe_bltn hgT hmT hv rfl hn hd
  refine PE.imp (pe_callB call_isi hg hm (by decide +kernel) (pa_cons ha (pa_cons hT pa_nil rfl) h1) (he := h1)) fun σ H Q ⟨μ, S, ρ, w, S', ok, en, e, q⟩ => ?_
  unfold isiE at e
  cases hx : ma ρ S with
  | none => rw [hx] at e; cases e
  | some p =>
    obtain ⟨w1, S1⟩ := p
    rw [hx, Option.bind_some] at e
    cases hr : rd S1 w1 with
    | none => simp only [hr] at e; cases e
    | some x =>
      simp only [hr, Option.bind_some] at e
      unfold isiF at e
      cases ht : tyOf w1 with
      | none => rw [ht] at e; cases e
      | some ty =>
        rw [ht, Option.bind_some] at e
        cases hk : kitB ty t with
        | none => rw [hk] at e; cases e
        | some b =>
          rw [hk, Option.bind_some] at e
          cases e
          refine ⟨μ, S, ρ, w1, _, ok, en, hx, fun v H1 μ1 st r => ?_⟩
          exact ⟨v, .ty t, .type ty, .type t, b, rfl, .ty t, tyX_of st.sto r (rd_live hr) ht, kit_ty hk, q _ H1 μ1 st (.d (.bl _))⟩

/-! ### repr -/
theorem sc_repr (hg : X.A.guards = some []) (hu : X.A.units + 70 < cLine) : CallR X (.builtin "repr") (FN X.K (pfN reprP)) := by
  intro pins s σ H xs us Q I r h
  obtain ⟨ds, c, rd, e, q⟩ := FN_pure h
  unfold reprP at e
  split at e
  · rename_i x
    split at e
    · rename_i hz
      cases e
      obtain ⟨h1, h2, h3, h4⟩ := hz
      obtain ⟨v, rfl, r1⟩ := rd.one
      obtain ⟨u, rfl, ru⟩ := vals1 r
      have hsz : x.shown.length ≤ sizeLine := lim_le h4
      have fin : ∀ t s', Inv X pins σ H s' → EP X pins σ Q (.str x.shown t) s' := fun t s' I' => ⟨.str x.shown, H, I', ⟨t, rfl⟩, q _ H keeps_all (.str _)⟩
      have big : ∀ a, u = .ref a → wpAny (model X.prog X.w) X.A (call (.builtin "repr") [u]) (EP X pins σ Q) X.xe s := by
        rintro a rfl
        obtain ⟨as, rr⟩ := Dp.reads I x v _ r1.dp ru
        exact repr_of_reads' rr h1 (PyData.noDict_hsm h2) hg (by omega) (fun _ _ e => e) (fun h' t tk hk => fin t _ (I.kept hk)) hsz
      cases r1 with
      | imm r1 =>
        cases r1 with
        | non => cases ru; exact PySem.P.repr_of_none (fin _ _ (I.tok _))
        | bl b =>
          cases ru
          refine PySem.P.repr_of_bool ?_
          have := fin s.toks _ (I.tok (s.toks + 1))
          simpa [PyData.shown] using this
        | int i =>
          obtain ⟨t, rfl⟩ := ru
          exact PySem.P.repr_of_int (by simpa [PyData.showable] using h1) (fin _ _ (I.tok _))
        | str z =>
          obtain ⟨t, rfl⟩ := ru
          exact PySem.P.repr_of_str (fin _ _ (I.tok _)) hsz
        | tup ht hl => exact big _ ru
        | lst ht hl => exact big _ ru
      | cell h l => exact big _ ru
    · cases e
  · cases e
end
end PD

/-! PD, part 4: what is walked, targets, statements, comprehensions. -/
namespace PD
open PySem PySem.Spec PyProof.Rows L2 RZ RT

/-! ### what is walked -/
abbrev CI := Rho → Sto → Option (List PyData × Sto)
/-- the iterator yields just these, as long as what is not live stays -/
def Yields (K : PySem.W.Frag) (μ : List Addr) (S : Sto) (H : Hp) (J : It) (xs : List PyData) : Prop :=
  ∀ H1, Ext μ S H H1 → ∀ i : Nat, (∀ x, xs[i]? = some x → J.go i H1 ∧ ∀ v H2, J.yld i H1 v H2 → (∀ a o, H1 a = some o → H2 a = some o) ∧ Rep K H2 x v) ∧ (xs[i]? = none → J.stop i H1)
def rdI (K : PySem.W.Frag) (m : CI) : TI := fun σ H R => ∃ μ S ρ xs S', StoOk K H μ S ∧ EnvOk K H μ ρ σ ∧ m ρ S = some (xs, S') ∧ ∀ J H' μ', Stp K μ S H μ' S' H' → Yields K μ' S' H' J xs → R J H'
abbrev SI (X : Cx) (tg iter : Expr) (m : CI) : Prop := PI X tg iter (rdI X.K m)
theorem PI.imp {X : Cx} {tg e : Expr} {t t' : TI} (h : PI X tg e t) (i : ∀ σ H Q, t' σ H Q → t σ H Q) : PI X tg e t' := ⟨fun pins s σ H Q I q => h.run pins s σ H Q I (i σ H Q q)⟩

section
variable {K : PySem.W.Frag} {μ : List Addr} {S : Sto} {H : Hp}
theorem fz_ext (ok : StoOk K H μ S) {H1 : Hp} (e : Ext μ S H H1) {a : Addr} {vs : List V} (h : FzL K H a vs) : FzL K H1 a vs := h.mono (ok.keeps e)
theorem tp_ext (ok : StoOk K H μ S) {H1 : Hp} (e : Ext μ S H H1) {a : Addr} {vs : List V} (h : TpT K H a vs) : TpT K H1 a vs := h.mono (ok.keeps e)
/-- two readings of one list object: known data alone -/
theorem yl_list (ok : StoOk K H μ S) {a : Addr} {vs : List V} {xs : List PyData} (h : FzL K H a vs) (l : RepL K H xs vs) : Yields K μ S H (Itl K a) xs := by
  intro H1 e i
  have h1 := (fz_ext ok e h).sq
  refine ⟨fun x hx => ?_, fun hx => ?_⟩
  · obtain ⟨v, hv, rv⟩ := l.get hx
    refine ⟨⟨vs, v, h1, hv⟩, fun u H2 y => ?_⟩
    obtain ⟨e2, y⟩ := y
    subst e2
    have hu := y vs h1
    rw [hv] at hu; cases hu
    exact ⟨fun _ _ e => e, rv.mono (ok.keeps e)⟩
  · exact ⟨vs, h1, by rw [← l.length]; exact List.getElem?_eq_none_iff.mp hx⟩
theorem yl_tup (ok : StoOk K H μ S) {a : Addr} {vs : List V} {xs : List PyData} (h : TpT K H a vs) (l : RepL K H xs vs) : Yields K μ S H (Itt K a) xs := by
  intro H1 e i
  have h1 := (tp_ext ok e h).sq
  refine ⟨fun x hx => ?_, fun hx => ?_⟩
  · obtain ⟨v, hv, rv⟩ := l.get hx
    refine ⟨⟨vs, v, h1, hv⟩, fun u H2 y => ?_⟩
    obtain ⟨e2, y⟩ := y
    subst e2
    have hu := y vs h1
    rw [hv] at hu; cases hu
    exact ⟨fun _ _ e => e, rv.mono (ok.keeps e)⟩
  · exact ⟨vs, h1, by rw [← l.length]; exact List.getElem?_eq_none_iff.mp hx⟩
/-- lo, lo + 1, .. -/
def rangeD (lo : Int) (n : Nat) : List PyData := (List.range n).map fun i => PyData.int (lo + (i : Nat))
theorem yl_range {lo : Int} {n : Nat} : Yields K μ S H (Itr lo n) (rangeD lo n) := by
  intro H1 e i
  have hl : (rangeD lo n)[i]? = if i < n then some (.int (lo + (i : Nat))) else none := by
    unfold rangeD
    rw [List.getElem?_map]
    split
    · rename_i h; rw [List.getElem?_range h]; rfl
    · rename_i h; rw [List.getElem?_eq_none (by simpa using h)]; rfl
  rw [hl]
  refine ⟨fun x hx => ?_, fun hx => ?_⟩
  · split at hx
    · rename_i hi
      cases hx
      refine ⟨hi, fun u H2 y => ?_⟩
      obtain ⟨e2, y⟩ := y
      subst e2 y
      exact ⟨fun _ _ e => e, .int _⟩
    · cases hx
  · split at hx
    · cases hx
    · rename_i hi; exact Nat.le_of_not_lt hi
def zipD : List PyData → List PyData → List PyData
  | x :: xs, y :: ys => .tuple [x, y] :: zipD xs ys
  | _, _ => []
theorem zipD_get : ∀ (xs ys : List PyData) (i : Nat), (zipD xs ys)[i]? = match xs[i]?, ys[i]? with
    | some x, some y => some (.tuple [x, y])
    | _, _ => none
  | [], _, _ => by simp [zipD]
  | x :: xs, [], i => by simp [zipD]
  | x :: xs, y :: ys, 0 => by simp [zipD]
  | x :: xs, y :: ys, i + 1 => by simpa [zipD] using zipD_get xs ys i
theorem yl_zipT (ok : StoOk K H μ S) {a b : Addr} {vs us : List V} {xs ys : List PyData} (h : TpT K H a vs) (l : RepL K H xs vs) (g : TpT K H b us) (m : RepL K H ys us) : Yields K μ S H (ItzT K a b) (zipD xs ys) := by
  intro H1 e i
  have h1 := (tp_ext ok e h).sq
  have g1 := (tp_ext ok e g).sq
  rw [zipD_get]
  refine ⟨fun z hz => ?_, fun hz => ?_⟩
  · split at hz
    · rename_i x y hx hy
      cases hz
      obtain ⟨v, hv, rv⟩ := l.get hx
      obtain ⟨u, hu, ru⟩ := m.get hy
      refine ⟨⟨vs, us, v, u, h1, g1, hv, hu⟩, fun w H2 y => ?_⟩
      obtain ⟨T, v', u', rfl, nT, rfl, f1, f2⟩ := y
      have e1 := f1 vs h1
      have e2 := f2 us g1
      rw [hv] at e1; rw [hu] at e2
      cases e1; cases e2
      have kp : Keeps H (upd H1 T (.tup [v, u])) := (ok.keeps e).trans fun a o e _ => same_new nT a o e
      exact ⟨same_new nT, .tup (.inl upd_same) (.cons (rv.mono kp) (.cons (ru.mono kp) .nil))⟩
    · cases hz
  · refine ⟨vs, us, h1, g1, ?_⟩
    rw [← l.length, ← m.length]
    cases hx : xs[i]? with
    | none => exact .inl (List.getElem?_eq_none_iff.mp hx)
    | some x =>
      cases hy : ys[i]? with
      | none => exact .inr (List.getElem?_eq_none_iff.mp hy)
      | some y => rw [hx, hy] at hz; cases hz
theorem yl_zipL (ok : StoOk K H μ S) {a b : Addr} {vs us : List V} {xs ys : List PyData} (h : FzL K H a vs) (l : RepL K H xs vs) (g : FzL K H b us) (m : RepL K H ys us) : Yields K μ S H (Itz K a b) (zipD xs ys) := by
  intro H1 e i
  have h1 := (fz_ext ok e h).sq
  have g1 := (fz_ext ok e g).sq
  rw [zipD_get]
  refine ⟨fun z hz => ?_, fun hz => ?_⟩
  · split at hz
    · rename_i x y hx hy
      cases hz
      obtain ⟨v, hv, rv⟩ := l.get hx
      obtain ⟨u, hu, ru⟩ := m.get hy
      refine ⟨⟨vs, us, v, u, h1, g1, hv, hu⟩, fun w H2 y => ?_⟩
      obtain ⟨T, v', u', rfl, nT, rfl, f1, f2⟩ := y
      have e1 := f1 vs h1
      have e2 := f2 us g1
      rw [hv] at e1; rw [hu] at e2
      cases e1; cases e2
      have kp : Keeps H (upd H1 T (.tup [v, u])) := (ok.keeps e).trans fun a o e _ => same_new nT a o e
      exact ⟨same_new nT, .tup (.inl upd_same) (.cons (rv.mono kp) (.cons (ru.mono kp) .nil))⟩
    · cases hz
  · refine ⟨vs, us, h1, g1, ?_⟩
    rw [← l.length, ← m.length]
    cases hx : xs[i]? with
    | none => exact .inl (List.getElem?_eq_none_iff.mp hx)
    | some x =>
      cases hy : ys[i]? with
      | none => exact .inr (List.getElem?_eq_none_iff.mp hy)
      | some y => rw [hx, hy] at hz; cases hz
def enumD (n : Nat) : List PyData → List PyData
  | x :: xs => .tuple [.int (n : Nat), x] :: enumD (n + 1) xs
  | [] => []
theorem enumD_get : ∀ (xs : List PyData) (n i : Nat), (enumD n xs)[i]? = match xs[i]? with
    | some x => some (.tuple [.int ((n + i : Nat) : Nat), x])
    | _ => none
  | [], _, _ => by simp [enumD]
  | x :: xs, n, 0 => by simp [enumD]
  | x :: xs, n, i + 1 => by
    have := enumD_get xs (n + 1) i
    rw [show n + 1 + i = n + (i + 1) by omega] at this
    simpa [enumD] using this
theorem yl_enum (ok : StoOk K H μ S) {a : Addr} {vs : List V} {xs : List PyData} (h : FzL K H a vs) (l : RepL K H xs vs) : Yields K μ S H (Ite K a) (enumD 0 xs) := by
  intro H1 e i
  have h1 := (fz_ext ok e h).sq
  rw [enumD_get]
  refine ⟨fun z hz => ?_, fun hz => ?_⟩
  · split at hz
    · rename_i x hx
      cases hz
      obtain ⟨v, hv, rv⟩ := l.get hx
      refine ⟨⟨vs, v, h1, hv⟩, fun w H2 y => ?_⟩
      obtain ⟨T, v', rfl, nT, rfl, f1⟩ := y
      have e1 := f1 vs h1
      rw [hv] at e1
      cases e1
      have kp : Keeps H (upd H1 T (.tup [.int (i : Nat), v])) := (ok.keeps e).trans fun a o e _ => same_new nT a o e
      refine ⟨same_new nT, .tup (.inl upd_same) (.cons ?_ (.cons (rv.mono kp) .nil))⟩
      rw [Nat.zero_add]; exact .int _
    · cases hz
  · refine ⟨vs, h1, ?_⟩
    rw [← l.length]
    cases hx : xs[i]? with
    | none => exact List.getElem?_eq_none_iff.mp hx
    | some x => rw [hx] at hz; cases hz
end

section
variable {X : Cx} {tg a b : Expr} {ma mb : CE} {pos p : Pos}
/-- a list or a tuple, walked -/
theorem pi_seq {t : TE} (h : PE X a t) : PI X tg a (fun σ H R => t σ H fun x H1 => ∃ c, x = .ref c ∧ (((∃ xs, SqL X.K H1 c xs) ∧ R (Itl X.K c) H1) ∨ ((∃ xs, SqT X.K H1 c xs) ∧ R (Itt X.K c) H1))) := by
  constructor
  intro pins s0 σ H R I0 hw
  apply thn (h.run pins s0 σ H _ I0 hw)
  rintro v s ⟨x, H1, I, r, c, rfl, q⟩
  cases r
  have new : ∀ o : Obj, FpOk X pins H1 s.heap.objs.size ∧ Inv X pins σ H1 { s with heap := s.heap.push o } := fun o =>
    ⟨I.fpOk (Nat.le_refl _) (I.hok.fresh (Nat.le_refl _)), I.kept (t' := s.toks) fun b ob z => Heap.get?_push_of_some _ z⟩
  have one : ∀ b ∈ [s.heap.objs.size], FpOk X pins H1 b := fun b z => by
    rw [List.mem_singleton.mp z]; exact (new default).1
  rcases q with ⟨⟨xs, hx⟩, q⟩ | ⟨⟨xs, hx⟩, q⟩
  · obtain ⟨its, _, pl, _⟩ := I.list hx
    exact wpAny_pyIter_list pl.isList ⟨_, [s.heap.objs.size], _, _, H1, rfl, (new _).2, turn_list c _, ⟨_, Heap.get?_push_size _ rfl, rfl, rfl⟩, one, q⟩
  · obtain ⟨its, _, pl, _⟩ := I.tuple hx
    exact wpAny_pyIter_tuple (show s.heap.IsTuple c its.toArray from pl) ⟨_, [s.heap.objs.size], _, _, H1, rfl, (new _).2, turn_tuple c _, ⟨_, Heap.get?_push_size _ rfl, rfl, rfl⟩, one, q⟩
def seqI (a : CE) : CI := fun ρ S => (a ρ S).bind fun p => match p.1 with
  | .d (.list xs) => some (xs, p.2)
  | .d (.tuple xs) => some (xs, p.2)
  | _ => none
theorem si_seq (h : SE X a ma) : SI X tg a (seqI ma) := PI.imp (pi_seq h) fun σ H R ⟨μ, S, ρ, xs, S', ok, en, e, q⟩ => by
  unfold seqI at e
  cases hx : ma ρ S with
  | none => rw [hx] at e; cases e
  | some p =>
    obtain ⟨w1, S1⟩ := p
    rw [hx, Option.bind_some] at e
    refine ⟨μ, S, ρ, w1, S1, ok, en, hx, fun v H1 μ1 st r => ?_⟩
    simp only at e
    split at e
    · cases e
      cases r with | d r =>
      cases r with | lst h1 l1 => exact ⟨_, rfl, .inl ⟨⟨_, h1.sq⟩, q _ H1 μ1 st (yl_list st.sto h1 l1)⟩⟩
    · cases e
      cases r with | d r =>
      cases r with | tup h1 l1 => exact ⟨_, rfl, .inr ⟨⟨_, h1.sq⟩, q _ H1 μ1 st (yl_tup st.sto h1 l1)⟩⟩
    · cases e
/-- an end of a range; told by a short number, for a kernel that would count down from a great one -/
def okR (j : Int) : Bool := decide (j.natAbs.log2 < 62)
theorem okR_lt {j : Int} (h : okR j = true) : -(2 ^ 62) ≤ j ∧ j < 2 ^ 62 := by
  unfold okR at h
  have h1 := of_decide_eq_true h
  have h2 : j.natAbs < 2 ^ 62 := by
    by_cases h0 : j.natAbs = 0
    · rw [h0]; decide
    · exact (Nat.log2_lt h0).mp h1
  omega
theorem okR_nat {n : Nat} (h : n < 1000000) : okR n = true := by
  unfold okR
  rw [Int.natAbs_natCast]
  refine decide_eq_true ?_
  by_cases h0 : n = 0
  · subst h0; decide
  · exact (Nat.log2_lt h0).mpr (by omega)
def range1I (a : CE) : CI := fun ρ S => (a ρ S).bind fun p => (asInt p.1).bind fun j => if okR j = true then some (rangeD 0 j.toNat, p.2) else none
def range2I (a b : CE) : CI := fun ρ S => (a ρ S).bind fun p => (b ρ p.2).bind fun z => (asInt p.1).bind fun i => (asInt z.1).bind fun j =>
  if (okR i && okR j) = true then some (rangeD i (j - i).toNat, z.2) else none
theorem asInt_of {K : PySem.W.Frag} {H : Hp} {μ : List Addr} {w : W} {v : V} {i : Int} (r : WRep K H μ w v) (h : asInt w = some i) : v = .int i := by
  unfold asInt at h
  split at h
  · cases h
    cases r with | d r => cases r; rfl
  · cases h
theorem si_range1 (h : SE X a ma) (hg : Gl X "range") (hm : X.mg "range" = none) (hs : starEach [a] X.env = [(false, eval a X.env)]) : SI X tg (.Call (.Name "range" p) [a] [] pos) (range1I ma) :=
  PI.imp (pi_range1 hg hm (pa_cons h pa_nil hs) hs) fun σ H R ⟨μ, S, ρ, xs, S', ok, en, e, q⟩ => by
    unfold range1I at e
    cases hx : ma ρ S with
    | none => rw [hx] at e; cases e
    | some p =>
      obtain ⟨w1, S1⟩ := p
      rw [hx, Option.bind_some] at e
      cases hi : asInt w1 with
      | none => simp only [hi] at e; cases e
      | some j =>
        simp only [hi, Option.bind_some] at e
        split at e
        · rename_i hz
          have hz := okR_lt hz
          cases e
          exact ⟨μ, S, ρ, w1, _, ok, en, hx, fun v H1 μ1 st r => ⟨j, by rw [asInt_of r hi], hz.1, hz.2, q _ H1 μ1 st yl_range⟩⟩
        · cases e
theorem si_range2 (h : SE X a ma) (h2 : SE X b mb) (hg : Gl X "range") (hm : X.mg "range" = none) (hs : starEach [a, b] X.env = [(false, eval a X.env), (false, eval b X.env)]) (hs2 : starEach [b] X.env = [(false, eval b X.env)]) :
    SI X tg (.Call (.Name "range" p) [a, b] [] pos) (range2I ma mb) :=
  PI.imp (pi_range2 hg hm (pa_cons h (pa_cons h2 pa_nil hs2) (by rw [hs, hs2])) hs hs2) fun σ H R ⟨μ, S, ρ, xs, S', ok, en, e, q⟩ => by
    unfold range2I at e
    cases hx : ma ρ S with
    | none => rw [hx] at e; cases e
    | some p =>
      obtain ⟨w1, S1⟩ := p
      rw [hx, Option.bind_some] at e
      cases hy : mb ρ S1 with
      | none => simp only [hy] at e; cases e
      | some p2 =>
        obtain ⟨w2, S2⟩ := p2
        simp only [hy, Option.bind_some] at e
        cases hi : asInt w1 with
        | none => simp only [hi] at e; cases e
        | some i =>
          cases hj : asInt w2 with
          | none => simp only [hi, hj, Option.bind_some] at e; cases e
          | some j =>
            simp only [hi, hj, Option.bind_some] at e
            split at e
            · rename_i hz
              have hz : (-(2 ^ 62) ≤ i ∧ i < 2 ^ 62 ∧ -(2 ^ 62) ≤ j ∧ j < 2 ^ 62) := by
                rw [Bool.and_eq_true] at hz
                exact ⟨(okR_lt hz.1).1, (okR_lt hz.1).2, (okR_lt hz.2).1, (okR_lt hz.2).2⟩
              cases e
              exact ⟨μ, S, ρ, w1, _, ok, en, hx, fun v H1 μ1 st r => ⟨μ1, S1, ρ, w2, _, st.sto, en.step ok st, hy, fun u H2 μ2 st2 r2 => ⟨i, j, by rw [asInt_of r hi, asInt_of r2 hj], hz, q _ H2 μ2 (st.trans ok st2) yl_range⟩⟩⟩
            · cases e
def zipI (a b : CE) : CI := fun ρ S => (a ρ S).bind fun p => (b ρ p.2).bind fun z => match p.1, z.1 with
  | .d (.list xs), .d (.list ys) => some (zipD xs ys, z.2)
  | .d (.tuple xs), .d (.tuple ys) => some (zipD xs ys, z.2)
  | _, _ => none
theorem si_zip {elts : List Expr} {kk : Nat} {tpos : Pos} (h : SE X a ma) (h2 : SE X b mb) (hg : Gl X "zip") (hm : X.mg "zip" = none) (hs : starEach [a, b] X.env = (false, eval a X.env) :: starEach [b] X.env) (hs2 : starEach [b] X.env = [(false, eval b X.env)]) :
    SI X (.Tuple elts kk tpos) (.Call (.Name "zip" p) [a, b] [] pos) (zipI ma mb) :=
  PI.imp (pi_zipA hg hm (pa_cons h (pa_cons h2 pa_nil hs2) hs) hs (by rw [hs2]; rfl)) fun σ H R ⟨μ, S, ρ, xs, S', ok, en, e, q⟩ => by
    unfold zipI at e
    cases hx : ma ρ S with
    | none => rw [hx] at e; cases e
    | some p =>
      obtain ⟨w1, S1⟩ := p
      rw [hx, Option.bind_some] at e
      cases hy : mb ρ S1 with
      | none => simp only [hy] at e; cases e
      | some p2 =>
        obtain ⟨w2, S2⟩ := p2
        simp only [hy, Option.bind_some] at e
        refine ⟨μ, S, ρ, w1, _, ok, en, hx, fun v H1 μ1 st r => ⟨μ1, S1, ρ, w2, _, st.sto, en.step ok st, hy, fun u H2 μ2 st2 r2 => ?_⟩⟩
        have k2 := st2.keeps st.sto
        split at e
        · cases e
          cases r with | d r =>
          cases r with | lst ha la =>
          cases r2 with | d r2 =>
          cases r2 with | lst hb lb =>
          exact ⟨_, _, _, _, rfl, .inl ⟨(ha.mono k2).sq, hb.sq, q _ H2 μ2 (st.trans ok st2) (yl_zipL st2.sto (ha.mono k2) (la.mono k2) hb lb)⟩⟩
        · cases e
          cases r with | d r =>
          cases r with | tup ha la =>
          cases r2 with | d r2 =>
          cases r2 with | tup hb lb =>
          exact ⟨_, _, _, _, rfl, .inr ⟨(ha.mono k2).sq, hb.sq, q _ H2 μ2 (st.trans ok st2) (yl_zipT st2.sto (ha.mono k2) (la.mono k2) hb lb)⟩⟩
        · cases e
def enumI (a : CE) : CI := fun ρ S => (a ρ S).bind fun p => match p.1 with
  | .d (.list xs) => some (enumD 0 xs, p.2)
  | _ => none
theorem si_enum {elts : List Expr} {kk : Nat} {tpos : Pos} (h : SE X a ma) (hg : Gl X "enumerate") (hm : X.mg "enumerate" = none) (hs : starEach [a] X.env = [(false, eval a X.env)]) :
    SI X (.Tuple elts kk tpos) (.Call (.Name "enumerate" p) [a] [] pos) (enumI ma) :=
  PI.imp (pi_enum hg hm (pa_cons h pa_nil hs) hs) fun σ H R ⟨μ, S, ρ, xs, S', ok, en, e, q⟩ => by
    unfold enumI at e
    cases hx : ma ρ S with
    | none => rw [hx] at e; cases e
    | some p =>
      obtain ⟨w1, S1⟩ := p
      rw [hx, Option.bind_some] at e
      refine ⟨μ, S, ρ, w1, S1, ok, en, hx, fun v H1 μ1 st r => ?_⟩
      simp only at e
      split at e
      · cases e
        cases r with | d r =>
        cases r with | lst h1 l1 => exact ⟨_, _, rfl, h1.sq, q _ H1 μ1 st (yl_enum st.sto h1 l1)⟩
      · cases e
end

/-! ### targets -/
abbrev CG := W → Rho → Sto → Option (Rho × Sto)
abbrev CGs := List PyData → Rho → Sto → Option (Rho × Sto)
/-- nothing but these slots is another -/
def Only (vs : List Nat) (σ σ' : L2.St) : Prop := σ'.length = σ.length ∧ ∀ i, i ∉ vs → σ'[i]? = σ[i]?
theorem Only.refl {vs : List Nat} {σ : L2.St} : Only vs σ σ := ⟨rfl, fun _ _ => rfl⟩
theorem Only.trans {vs ws : List Nat} {σ σ1 σ2 : L2.St} (h : Only vs σ σ1) (g : Only ws σ1 σ2) : Only (vs ++ ws) σ σ2 := ⟨g.1.trans h.1, fun i n => by
  rw [List.mem_append, not_or] at n
  exact (g.2 i n.2).trans (h.2 i n.1)⟩
theorem wipe_at {σ : L2.St} {i : Nat} : ∀ {vs : List Nat}, i ∈ vs → i < σ.length → (L2.wipe σ vs)[i]? = some none
  | v :: vs, h, hi => by
    unfold L2.wipe
    by_cases hv : v = i
    · subst hv
      rw [List.getElem?_set_self (by rw [L2.wipe_length]; exact hi)]
    · rw [List.getElem?_set_ne hv]
      exact wipe_at ((List.mem_cons.mp h).resolve_left fun z => hv z.symm) hi
theorem Only.wipe {vs own : List Nat} {σ σ' : L2.St} (h : Only vs (L2.wipe σ own) σ') (hs : ∀ i ∈ vs, i ∈ own) : L2.wipe σ' own = L2.wipe σ own := by
  have hl : σ'.length = σ.length := h.1.trans (L2.wipe_length _ _)
  refine List.ext_getElem? fun i => ?_
  by_cases hi : i < σ.length
  · by_cases ho : i ∈ own
    · rw [wipe_at ho (by rw [hl]; exact hi), wipe_at ho hi]
    · rw [L2.wipe_out ho]
      exact h.2 i fun z => ho (hs i z)
  · rw [List.getElem?_eq_none (by rw [L2.wipe_length, hl]; omega), List.getElem?_eq_none (by rw [L2.wipe_length]; omega)]
def rdG (K : PySem.W.Frag) (g : CG) (vs : List Nat) : TG := fun v σ H Q => ∃ μ S ρ w ρ' S', StoOk K H μ S ∧ EnvOk K H μ ρ σ ∧ WRep K H μ w v ∧ g w ρ S = some (ρ', S') ∧ ∀ σ' H' μ', Stp K μ S H μ' S' H' → EnvOk K H' μ' ρ' σ' → Only vs σ σ' → Q σ' H'
def rdGs (K : PySem.W.Frag) (g : CGs) (vs : List Nat) : TGs := fun us σ H Q => ∃ μ S ρ xs ρ' S', StoOk K H μ S ∧ EnvOk K H μ ρ σ ∧ RepL K H xs us ∧ g xs ρ S = some (ρ', S') ∧ ∀ σ' H' μ', Stp K μ S H μ' S' H' → EnvOk K H' μ' ρ' σ' → Only vs σ σ' → Q σ' H'
abbrev SG (X : Cx) (tg : Expr) (g : CG) (vs : List Nat) : Prop := PG X tg (rdG X.K g vs)
abbrev SGs (X : Cx) (tg : List Expr) (g : CGs) (vs : List Nat) : Prop := PGs X tg (rdGs X.K g vs)
theorem PG.imp {X : Cx} {tg : Expr} {t t' : TG} (h : PG X tg t) (i : ∀ v σ H Q, t' v σ H Q → t v σ H Q) : PG X tg t' := ⟨fun pins s σ H v u Q I r q => h.run pins s σ H v u Q I r (i v σ H Q q)⟩
theorem PGs.imp {X : Cx} {tg : List Expr} {t t' : TGs} (h : PGs X tg t) (i : ∀ v σ H Q, t' v σ H Q → t v σ H Q) : PGs X tg t' := ⟨fun pins s σ H v u Q I r q => h.run pins s σ H v u Q I r (i v σ H Q q)⟩
def nameG (i : Nat) : CG := fun w ρ S => some (ρ.set i (some w), S)
def nilG : CGs := fun xs ρ S => match xs with
  | [] => some (ρ, S)
  | _ => none
def consG (g : CG) (r : CGs) : CGs := fun xs ρ S => match xs with
  | [] => none
  | x :: xs => (g (.d x) ρ S).bind fun p => r xs p.1 p.2
def tupG (n : Nat) (g : CGs) : CG := fun w ρ S => match w with
  | .d (.tuple xs) => if xs.length = n then g xs ρ S else none
  | _ => none
/-- a[i] = .., a list in a cell -/
def subG (a i : CE) : CG := fun w ρ S => (a ρ S).bind fun p => (i ρ p.2).bind fun q => match w, p.1, asInt q.1 with
  | .d x, .m n, some k => match q.2[n]? with
    | some (some xs) => (ixN xs.length k).bind fun j => some (ρ, q.2.set n (some (xs.set j x)))
    | _ => none
  | _, _, _ => none
section
variable {X : Cx} {e a b : Expr} {es : List Expr} {ma mb : CE} {pos : Pos} {g : CG} {r : CGs} {vs ws : List Nat}
theorem sg_name {i : Nat} {x : Str} (hN : X.N.Nodup) (hi : X.N[i]? = some x) (hx : Loc X.env.scope x) (hf : X.fn x = true ∨ X.env.scope.names.lookup x = some .local) : SG X (.Name x pos) (nameG i) [i] :=
  PG.imp (pg_name hN hi hx hf) fun v σ H Q ⟨μ, S, ρ, w, ρ', S', ok, en, rw, e, q⟩ => by
    cases e
    refine q _ H μ (.refl ok) (en.set i rw) ⟨by simp, fun j hj => ?_⟩
    rw [List.getElem?_set_ne]
    exact fun z => hj (by simp [z])
theorem sgs_nil : SGs X [] nilG [] := PGs.imp pgs_nil fun v σ H Q ⟨μ, S, ρ, xs, ρ', S', ok, en, l, e, q⟩ => by
  unfold nilG at e
  split at e
  · cases e; cases l; exact ⟨rfl, q σ H μ (.refl ok) en .refl⟩
  · cases e
theorem sgs_cons (h1 : SG X e g vs) (h2 : SGs X es r ws) (hs : (assignEach (e :: es) X.env).map (·.2) = assign e X.env :: (assignEach es X.env).map (·.2)) : SGs X (e :: es) (consG g r) (vs ++ ws) :=
  PGs.imp (pgs_cons h1 h2 hs) fun v σ H Q ⟨μ, S, ρ, xs, ρ', S', ok, en, l, e, q⟩ => by
    unfold consG at e
    split at e
    · cases e
    · rename_i x xs
      cases l with | cons r1 l1 =>
      cases hg : g (.d x) ρ S with
      | none => rw [hg] at e; cases e
      | some p =>
        obtain ⟨ρ1, S1⟩ := p
        rw [hg, Option.bind_some] at e
        refine ⟨_, _, rfl, μ, S, ρ, _, ρ1, S1, ok, en, .d r1, hg, fun σ1 H1 μ1 st1 en1 o1 => ?_⟩
        exact ⟨μ1, S1, ρ1, xs, ρ', S', st1.sto, en1, l1.mono (st1.keeps ok), e, fun σ' H' μ' st2 en2 o2 => q σ' H' μ' (st1.trans ok st2) en2 (o1.trans o2)⟩
theorem sg_tup {n k : Nat} (hc : X.calm = true) (h : SGs X es r vs) (hn : (assignEach es X.env).length = n) (hst : (assignEach es X.env).findIdx? (·.1) = none) : SG X (.Tuple es k pos) (tupG n r) vs :=
  PG.imp (pg_tup hc h hn hst) fun v σ H Q ⟨μ, S, ρ, w, ρ', S', ok, en, rw, e, q⟩ => by
    unfold tupG at e
    split at e
    · rename_i xs
      split at e
      · rename_i hl
        cases rw with | d rw =>
        cases rw with | tup h1 l1 =>
        exact ⟨_, _, rfl, h1.sq, by rw [← l1.length]; exact hl, μ, S, ρ, xs, ρ', S', ok, en, l1, e, q⟩
      · cases e
    · cases e
theorem sg_sub (ha : SE X a ma) (hb : SE X b mb) (hs : isSlice b = false) : SG X (.Subscript a b pos) (subG ma mb) [] := by
  refine PG.imp (pg_sub ha hb set_list ?_) fun v σ H Q ⟨μ, S, ρ, w, ρ', S', ok, en, rw, e, q⟩ => ?_
  · intro v
    cases b <;> first | rfl | cases hs
  · unfold subG at e
    cases h1 : ma ρ S with
    | none => rw [h1] at e; cases e
    | some p =>
      obtain ⟨w1, S1⟩ := p
      rw [h1, Option.bind_some] at e
      cases h2 : mb ρ S1 with
      | none => simp only [h2] at e; cases e
      | some p2 =>
        obtain ⟨w2, S2⟩ := p2
        simp only [h2, Option.bind_some] at e
        refine ⟨μ, S, ρ, w1, S1, ok, en, h1, fun v1 H1 μ1 st1 r1 => ⟨μ1, S1, ρ, w2, S2, st1.sto, en.step ok st1, h2, fun v2 H2 μ2 st2 r2 => ?_⟩⟩
        have st12 := st1.trans ok st2
        have k12 := st12.keeps ok
        split at e
        · rename_i x n k hk
          split at e
          · rename_i xs hxs
            cases hj : ixN xs.length k with
            | none => rw [hj] at e; cases e
            | some j =>
              rw [hj, Option.bind_some] at e
              cases e
              cases r1 with | @m _ c1 hm =>
              obtain ⟨c, vs, hc, hH, hl⟩ := st2.sto.cell n xs hxs
              have hm2 : μ2[n]? = some c1 := by
                obtain ⟨r, hr⟩ := st2.pre
                rw [← hr, List.getElem?_append_left (List.getElem?_eq_some_iff.mp hm).1]; exact hm
              rw [hm2] at hc; cases hc
              have rx : Rep X.K H2 x v := by cases rw with | d rw => exact rw.mono k12
              refine ⟨_, vs, k, j, rfl, asInt_of r2 hk, hH, by rw [← hl.length]; exact hj, ?_⟩
              have st3 := Stp.put st2.sto hxs hm2 hH (hl.set j rx)
              exact q σ _ μ2 (st12.trans ok st3) (en.step ok (st12.trans ok st3)) .refl
          · cases e
        · cases e
end

/-! ### statements -/
inductive Fl where
  | nx | bk | ct
  | rt (w : W)
abbrev CS := Rho → Sto → Option (Fl × Rho × Sto)
def Goes (K : PySem.W.Frag) (D : Ends) (μ : List Addr) (σ : L2.St) (H : Hp) : Fl → Prop
  | .nx => D.nx σ H
  | .bk => D.bk σ H
  | .ct => D.ct σ H
  | .rt w => ∀ v, WRep K H μ w v → D.rt v H
def rdS (K : PySem.W.Frag) (m : CS) : TS := fun D σ H => ∃ μ S ρ fl ρ' S', StoOk K H μ S ∧ EnvOk K H μ ρ σ ∧ m ρ S = some (fl, ρ', S') ∧ ∀ σ' H' μ', Stp K μ S H μ' S' H' → EnvOk K H' μ' ρ' σ' → Goes K D μ' σ' H' fl
abbrev SS (X : Cx) (st : Stmt) (m : CS) : Prop := PS X st (rdS X.K m)
abbrev SSs (X : Cx) (st : List Stmt) (m : CS) : Prop := PSs X st (rdS X.K m)
def nilS : CS := fun ρ S => some (.nx, ρ, S)
def seqS (a b : CS) : CS := fun ρ S => (a ρ S).bind fun p => match p.1 with
  | .nx => b p.2.1 p.2.2
  | f => some (f, p.2.1, p.2.2)
def brkS : CS := fun ρ S => some (.bk, ρ, S)
def cntS : CS := fun ρ S => some (.ct, ρ, S)
def stuckS : CS := fun _ _ => none
def exprS (a : CE) : CS := fun ρ S => (a ρ S).bind fun p => some (.nx, ρ, p.2)
def ifS (t : CB) (a b : CS) : CS := fun ρ S => (t ρ S).bind fun p => if p.1 = true then a ρ p.2 else b ρ p.2
def asgS (a : CE) (g : CG) : CS := fun ρ S => (a ρ S).bind fun p => (g p.1 ρ p.2).bind fun q => some (.nx, q.1, q.2)
/-- a list in a cell that is handed back becomes plain data -/
def thaw (keep : Bool) : W → Sto → Option (W × Sto)
  | .d x, S => some (.d x, S)
  | .m n, S => if keep = true then some (.m n, S) else match S[n]? with
    | some (some xs) => some (.d (.list xs), S.set n none)
    | _ => none
/-- a list in a cell that goes into a display becomes plain data -/
def frzE (a : CE) : CE := fun ρ S => (a ρ S).bind fun p => thaw false p.1 p.2
def retS (keep : Bool) (a : CE) : CS := fun ρ S => (a ρ S).bind fun p => (thaw keep p.1 p.2).bind fun q => some (.rt q.1, ρ, q.2)
def retNS : CS := fun ρ S => some (.rt (.d .none), ρ, S)
def parS (i j : Nat) (l : CL) : CS := fun ρ S => (l ρ S).bind fun p => match p.1 with
  | [v, w] => some (.nx, (ρ.set i (some v)).set j (some w), p.2)
  | _ => none
def par3S (i j k : Nat) (l : CL) : CS := fun ρ S => (l ρ S).bind fun p => match p.1 with
  | [u, v, w] => some (.nx, ((ρ.set i (some u)).set j (some v)).set k (some w), p.2)
  | _ => none
def forN (g : CG) (b : CS) : List PyData → CS
  | [], ρ, S => some (.nx, ρ, S)
  | x :: xs, ρ, S => (g (.d x) ρ S).bind fun p => (b p.1 p.2).bind fun q => match q.1 with
    | .nx => forN g b xs q.2.1 q.2.2
    | .ct => forN g b xs q.2.1 q.2.2
    | .bk => some (.nx, q.2.1, q.2.2)
    | .rt w => some (.rt w, q.2.1, q.2.2)
def forS (it : CI) (g : CG) (b : CS) : CS := fun ρ S => (it ρ S).bind fun p => forN g b p.1 ρ p.2
def whileN (t : CB) (b : CS) : Nat → CS
  | 0, _, _ => none
  | n + 1, ρ, S => (t ρ S).bind fun p => if p.1 = true then (b ρ p.2).bind fun q => match q.1 with
    | .nx => whileN t b n q.2.1 q.2.2
    | .ct => whileN t b n q.2.1 q.2.2
    | .bk => some (.nx, q.2.1, q.2.2)
    | .rt w => some (.rt w, q.2.1, q.2.2)
    else some (.nx, ρ, p.2)
def fuel : Nat := 2 ^ 20000
def whileS (t : CB) (b : CS) : CS := whileN t b fuel
section
variable {X : Cx} {st : Stmt} {sts b1 b2 : List Stmt} {e c iter tg : Expr} {es : List Expr} {m n : CS} {me : CE} {mt : CB} {ml : CL} {pos : Pos} {g : CG} {vs : List Nat} {ci : CI}
theorem ss_nil : SSs X [] nilS := PSs.imp pss_nil fun D σ H ⟨μ, S, ρ, fl, ρ', S', ok, en, e, q⟩ => by cases e; exact q σ H μ (.refl ok) en
theorem ss_pass : SS X (.Pass pos) nilS := PS.imp ps_pass fun D σ H ⟨μ, S, ρ, fl, ρ', S', ok, en, e, q⟩ => by cases e; exact q σ H μ (.refl ok) en
theorem ss_break : SS X (.Break pos) brkS := PS.imp ps_break fun D σ H ⟨μ, S, ρ, fl, ρ', S', ok, en, e, q⟩ => by cases e; exact q σ H μ (.refl ok) en
theorem ss_continue : SS X (.Continue pos) cntS := PS.imp ps_continue fun D σ H ⟨μ, S, ρ, fl, ρ', S', ok, en, e, q⟩ => by cases e; exact q σ H μ (.refl ok) en
theorem ss_stuck : SS X st stuckS := PS.imp ps_never fun D σ H ⟨μ, S, ρ, fl, ρ', S', ok, en, e, q⟩ => by cases e
theorem Goes.congr {K : PySem.W.Frag} {D D' : Ends} {μ : List Addr} {σ : L2.St} {H : Hp} {fl : Fl} (h : Goes K D μ σ H fl) (h1 : fl = .nx → D.nx σ H → D'.nx σ H) (h2 : D.bk σ H → D'.bk σ H) (h3 : D.ct σ H → D'.ct σ H) (h4 : ∀ v, D.rt v H → D'.rt v H) : Goes K D' μ σ H fl := by
  cases fl with
  | nx => exact h1 rfl h
  | bk => exact h2 h
  | ct => exact h3 h
  | rt w => exact fun v r => h4 v (h v r)
theorem ss_cons (h1 : SS X st m) (h2 : SSs X sts n) : SSs X (st :: sts) (seqS m n) := PSs.imp (pss_cons h1 h2) fun D σ H ⟨μ, S, ρ, fl, ρ', S', ok, en, e, q⟩ => by
  unfold seqS at e
  cases hx : m ρ S with
  | none => rw [hx] at e; cases e
  | some p =>
    obtain ⟨f, ρ1, S1⟩ := p
    rw [hx, Option.bind_some] at e
    refine ⟨μ, S, ρ, f, ρ1, S1, ok, en, hx, fun σ1 H1 μ1 st1 en1 => ?_⟩
    cases f with
    | nx => exact ⟨μ1, S1, ρ1, fl, ρ', S', st1.sto, en1, e, fun σ2 H2 μ2 st2 en2 => q σ2 H2 μ2 (st1.trans ok st2) en2⟩
    | bk => cases e; exact q σ1 H1 μ1 st1 en1
    | ct => cases e; exact q σ1 H1 μ1 st1 en1
    | rt w => cases e; exact q σ1 H1 μ1 st1 en1
theorem ss_expr (h : SE X e me) (hs : swapsWith e none pos.line X.env = pure false) : SS X (.Expr e pos) (exprS me) := PS.imp (ps_expr h hs) fun D σ H ⟨μ, S, ρ, fl, ρ', S', ok, en, e, q⟩ => by
  unfold exprS at e
  cases hx : me ρ S with
  | none => rw [hx] at e; cases e
  | some p =>
    rw [hx, Option.bind_some] at e
    cases e
    exact ⟨μ, S, ρ, p.1, p.2, ok, en, hx, fun v H1 μ1 st1 r1 => q σ H1 μ1 st1 (en.step ok st1)⟩
theorem ss_if (h : SB X c mt) (h1 : SSs X b1 m) (h2 : SSs X b2 n) : SS X (.If c b1 b2 pos) (ifS mt m n) := PS.imp (ps_if h h1 h2) fun D σ H ⟨μ, S, ρ, fl, ρ', S', ok, en, e, q⟩ => by
  unfold ifS at e
  cases hx : mt ρ S with
  | none => rw [hx] at e; cases e
  | some p =>
    obtain ⟨k, S1⟩ := p
    rw [hx, Option.bind_some] at e
    refine ⟨μ, S, ρ, k, S1, ok, en, hx, fun H1 μ1 st1 => ?_⟩
    cases k with
    | true => exact ⟨μ1, S1, ρ, fl, ρ', S', st1.sto, en.step ok st1, e, fun σ2 H2 μ2 st2 en2 => q σ2 H2 μ2 (st1.trans ok st2) en2⟩
    | false => exact ⟨μ1, S1, ρ, fl, ρ', S', st1.sto, en.step ok st1, e, fun σ2 H2 μ2 st2 en2 => q σ2 H2 μ2 (st1.trans ok st2) en2⟩
theorem rd_asg {K : PySem.W.Frag} {D : Ends} {σ : L2.St} {H : Hp} (h : rdS K (asgS me g) D σ H) : rdE K me σ H fun x H1 => rdG K g vs x σ H1 D.nx := by
  obtain ⟨μ, S, ρ, fl, ρ', S', ok, en, e, q⟩ := h
  unfold asgS at e
  cases hx : me ρ S with
  | none => rw [hx] at e; cases e
  | some p =>
    obtain ⟨w, S1⟩ := p
    rw [hx, Option.bind_some] at e
    cases hy : g w ρ S1 with
    | none => simp only [hy] at e; cases e
    | some p2 =>
      obtain ⟨ρ2, S2⟩ := p2
      simp only [hy, Option.bind_some] at e
      cases e
      exact ⟨μ, S, ρ, w, S1, ok, en, hx, fun v H1 μ1 st1 r1 => ⟨μ1, S1, ρ, w, _, _, st1.sto, en.step ok st1, r1, hy, fun σ2 H2 μ2 st2 en2 _ => q σ2 H2 μ2 (st1.trans ok st2) en2⟩⟩
theorem ss_asg (h : SE X e me) (hg : SG X tg g vs) (hs : swapsWithSole [tg] e pos.line X.env = pure false) (hw : swappedStores [tg] e X.env = pure none) (h1 : (assignEach [tg] X.env).map (·.2) = [assign tg X.env]) : SS X (.Assign [tg] e pos) (asgS me g) :=
  PS.imp (ps_asg h hg hs hw h1) fun D σ H q => rd_asg q
theorem ss_ret {keep : Bool} (h : SE X e me) : SS X (.Return (some e) pos) (retS keep me) := PS.imp (ps_ret (pe_fz h)) fun D σ H ⟨μ, S, ρ, fl, ρ', S', ok, en, e, q⟩ => by
  unfold retS at e
  cases hx : me ρ S with
  | none => rw [hx] at e; cases e
  | some p =>
    obtain ⟨w, S1⟩ := p
    rw [hx, Option.bind_some] at e
    cases ht : thaw keep w S1 with
    | none => simp only [ht] at e; cases e
    | some p2 =>
      obtain ⟨w2, S2⟩ := p2
      simp only [ht, Option.bind_some] at e
      cases e
      refine ⟨μ, S, ρ, w, S1, ok, en, hx, fun v H1 μ1 st1 r1 => ?_⟩
      cases w with
      | d x =>
        have ht' : some (W.d x, S1) = some (w2, S') := ht
        cases ht'
        exact .inr (q σ H1 μ1 st1 (en.step ok st1) v r1)
      | m n =>
        have ht' : (if keep = true then some (W.m n, S1) else match S1[n]? with
          | some (some xs) => some (.d (.list xs), S1.set n none)
          | _ => none) = some (w2, S') := ht
        split at ht'
        · cases ht'
          exact .inr (q σ H1 μ1 st1 (en.step ok st1) v r1)
        · cases hxs : S1[n]? with
          | none => rw [hxs] at ht'; cases ht'
          | some z =>
            cases z with
            | none => rw [hxs] at ht'; cases ht'
            | some xs =>
              rw [hxs] at ht'
              cases ht'
              cases r1 with | m hm =>
              obtain ⟨c, us, hc, hH, hl⟩ := st1.sto.cell n xs hxs
              rw [hm] at hc; cases hc
              refine .inl ⟨_, us, rfl, hH, fun o => ?_⟩
              have st2 := Stp.freeze st1.sto hxs hm hH o
              have st12 := st1.trans ok st2
              refine q σ _ μ1 st12 (en.step ok st12) _ (.d (.lst (.inl ⟨o, upd_same⟩) (hl.mono (st2.keeps st1.sto))))
theorem se_frz (h : SE X e me) : SE X e (frzE me) := PE.imp (pe_fz h) fun σ H Q ⟨μ, S, ρ, w2, S2, ok, en, e, q⟩ => by
  unfold frzE at e
  cases hx : me ρ S with
  | none => rw [hx] at e; cases e
  | some p =>
    obtain ⟨w, S1⟩ := p
    rw [hx, Option.bind_some] at e
    refine ⟨μ, S, ρ, w, S1, ok, en, hx, fun v H1 μ1 st1 r1 => ?_⟩
    cases w with
    | d x =>
      have e' : some (W.d x, S1) = some (w2, S2) := e
      cases e'
      exact .inr (q v H1 μ1 st1 r1)
    | m n =>
      have e' : (match S1[n]? with
        | some (some xs) => some (.d (.list xs), S1.set n none)
        | _ => none) = some (w2, S2) := e
      cases hxs : S1[n]? with
      | none => rw [hxs] at e'; cases e'
      | some z =>
        cases z with
        | none => rw [hxs] at e'; cases e'
        | some xs =>
          rw [hxs] at e'
          cases e'
          cases r1 with | m hm =>
          obtain ⟨c, us, hc, hH, hl⟩ := st1.sto.cell n xs hxs
          rw [hm] at hc; cases hc
          refine .inl ⟨_, us, rfl, hH, fun o => ?_⟩
          have st2 := Stp.freeze st1.sto hxs hm hH o
          exact q _ _ μ1 (st1.trans ok st2) (.d (.lst (.inl ⟨o, upd_same⟩) (hl.mono (st2.keeps st1.sto))))
theorem ss_retN : SS X (.Return none pos) retNS := PS.imp ps_retN fun D σ H ⟨μ, S, ρ, fl, ρ', S', ok, en, e, q⟩ => by
  cases e
  exact q σ H μ (.refl ok) en _ (.d .non)
theorem ss_par {i j : Nat} {x y : Str} {a b : Expr} {px py pt : Pos} {kt k2 : Nat} {pt2 : Pos} (hc : X.calm = true) (hN : X.N.Nodup) (hi : X.N[i]? = some x) (hj : X.N[j]? = some y) (hij : i ≠ j)
    (hx : X.env.scope.names.lookup x = some .local) (hy : X.env.scope.names.lookup y = some .local) (ha : SL X [a, b] ml)
    (hw : swappedStores [.Tuple [.Name x px, .Name y py] kt pt] (.Tuple [a, b] k2 pt2) X.env = pure (some [x, y])) :
    SS X (.Assign [.Tuple [.Name x px, .Name y py] kt pt] (.Tuple [a, b] k2 pt2) pos) (parS i j ml) :=
  PS.imp (ps_par hc hN hi hj hij hx hy ha hw) fun D σ H ⟨μ, S, ρ, fl, ρ', S', ok, en, e, q⟩ => by
    unfold parS at e
    cases hx : ml ρ S with
    | none => rw [hx] at e; cases e
    | some p =>
      obtain ⟨ws, S1⟩ := p
      rw [hx, Option.bind_some] at e
      refine ⟨μ, S, ρ, ws, S1, ok, en, hx, fun vs H1 μ1 st1 r1 => ?_⟩
      simp only at e
      split at e
      · cases e
        cases r1 with | cons r1 l1 =>
        cases l1 with | cons r2 l2 =>
        cases l2
        exact ⟨_, _, rfl, q _ H1 μ1 st1 (((en.step ok st1).set i r1).set j r2)⟩
      · cases e
theorem ss_par3 {i j k : Nat} {x y z : Str} {a b c : Expr} {px py pz pt : Pos} {kt k2 : Nat} {pt2 : Pos} (hc : X.calm = true) (hN : X.N.Nodup) (hi : X.N[i]? = some x) (hj : X.N[j]? = some y) (hk : X.N[k]? = some z) (hij : i ≠ j) (hik : i ≠ k) (hjk : j ≠ k)
    (hx : X.env.scope.names.lookup x = some .local) (hy : X.env.scope.names.lookup y = some .local) (hz : X.env.scope.names.lookup z = some .local) (ha : SL X [a, b, c] ml)
    (hw : swappedStores [.Tuple [.Name x px, .Name y py, .Name z pz] kt pt] (.Tuple [a, b, c] k2 pt2) X.env = pure (some [x, y, z])) :
    SS X (.Assign [.Tuple [.Name x px, .Name y py, .Name z pz] kt pt] (.Tuple [a, b, c] k2 pt2) pos) (par3S i j k ml) :=
  PS.imp (ps_par3 hc hN hi hj hk hij hik hjk hx hy hz ha hw) fun D σ H ⟨μ, S, ρ, fl, ρ', S', ok, en, e, q⟩ => by
    unfold par3S at e
    cases hx : ml ρ S with
    | none => rw [hx] at e; cases e
    | some p =>
      obtain ⟨ws, S1⟩ := p
      rw [hx, Option.bind_some] at e
      refine ⟨μ, S, ρ, ws, S1, ok, en, hx, fun vs H1 μ1 st1 r1 => ?_⟩
      simp only at e
      split at e
      · cases e
        cases r1 with | cons r1 l1 =>
        cases l1 with | cons r2 l2 =>
        cases l2 with | cons r3 l3 =>
        cases l3
        exact ⟨_, _, _, rfl, q _ H1 μ1 st1 ((((en.step ok st1).set i r1).set j r2).set k r3)⟩
      · cases e
theorem ss_for (hp : PassesOwn (model X.prog X.w) X.A X.env X.xe) (hc : X.calm = true) (hi : SI X tg iter ci) (hg : SG X tg g vs) (hb : SSs X b1 m) (hs : ∀ x, foldedSetIterable iter X.env x = pure x) : SS X (.For tg iter b1 [] pos) (forS ci g m) :=
  PS.imp (ps_for hp hc hi hg hb hs) fun D σ H ⟨μ, S, ρ, fl, ρ', S', ok, en, e, q⟩ => by
    unfold forS at e
    cases hx : ci ρ S with
    | none => rw [hx] at e; cases e
    | some p =>
      obtain ⟨xs, S1⟩ := p
      rw [hx, Option.bind_some] at e
      refine ⟨μ, S, ρ, xs, S1, ok, en, hx, fun J H1 μ1 st1 yl => ?_⟩
      refine ⟨fun i mm σi Hi => mm + i = xs.length ∧ ∃ μi Si ρi, Stp X.K μ1 S1 H1 μi Si Hi ∧ EnvOk X.K Hi μi ρi σi ∧ forN g m (xs.drop i) ρi Si = some (fl, ρ', S'), ⟨xs.length, by omega, μ1, S1, ρ, .refl st1.sto, en.step ok st1, by simpa using e⟩, ?_⟩
      rintro i mm σi Hi ⟨hm, μi, Si, ρi, sti, eni, ei⟩
      have y := yl Hi sti.ext i
      cases hget : xs[i]? with
      | none =>
        refine .inl ⟨y.2 hget, ?_⟩
        have hl : xs.length ≤ i := List.getElem?_eq_none_iff.mp hget
        rw [List.drop_eq_nil_of_le hl] at ei
        unfold forN at ei
        cases ei
        exact q σi Hi μi (st1.trans ok sti) eni
      | some x =>
        have hl : i < xs.length := (List.getElem?_eq_some_iff.mp hget).1
        obtain ⟨go, yd⟩ := y.1 x hget
        rw [List.drop_eq_getElem_cons hl] at ei
        have ex : xs[i] = x := (List.getElem?_eq_some_iff.mp hget).2
        rw [ex] at ei
        unfold forN at ei
        cases hgx : g (.d x) ρi Si with
        | none => rw [hgx] at ei; cases ei
        | some pg =>
          obtain ⟨ρg, Sg⟩ := pg
          rw [hgx, Option.bind_some] at ei
          cases hbx : m ρg Sg with
          | none => simp only [hbx] at ei; cases ei
          | some pb =>
            obtain ⟨fb, ρb, Sb⟩ := pb
            simp only [hbx, Option.bind_some] at ei
            refine .inr ⟨go, fun σn Hn => ∃ μn Sn ρn, Stp X.K μ1 S1 H1 μn Sn Hn ∧ EnvOk X.K Hn μn ρn σn ∧ forN g m (xs.drop (i + 1)) ρn Sn = some (fl, ρ', S'), fun σn Hn z => ⟨mm - 1, by omega, by omega, z⟩, fun v Hv yv => ?_⟩
            obtain ⟨kv, rv⟩ := yd v Hv yv
            have stv := sti.trans st1.sto (Stp.same sti.sto kv)
            refine ⟨μi, Si, ρi, .d x, ρg, Sg, stv.sto, eni.step sti.sto (Stp.same sti.sto kv), .d rv, hgx, fun σ2 H2 μ2 st2 en2 _ => ?_⟩
            refine ⟨μ2, Sg, ρg, fb, ρb, Sb, st2.sto, en2, hbx, fun σ3 H3 μ3 st3 en3 => ?_⟩
            have stt := stv.trans st1.sto (st2.trans stv.sto st3)
            cases fb with
            | nx => exact ⟨μ3, Sb, ρb, stt, en3, ei⟩
            | ct => exact ⟨μ3, Sb, ρb, stt, en3, ei⟩
            | bk => cases ei; exact q σ3 H3 μ3 (st1.trans ok stt) en3
            | rt w => cases ei; exact q σ3 H3 μ3 (st1.trans ok stt) en3
theorem ss_while (hp : PassesOwn (model X.prog X.w) X.A X.env X.xe) (hc : SB X c mt) (hb : SSs X b1 m) : SS X (.While c b1 [] pos) (whileS mt m) :=
  PS.imp (ps_while hp hc hb) fun D σ H ⟨μ, S, ρ, fl, ρ', S', ok, en, e, q⟩ => by
    unfold whileS at e
    refine ⟨fun k σi Hi => ∃ μi Si ρi, Stp X.K μ S H μi Si Hi ∧ EnvOk X.K Hi μi ρi σi ∧ whileN mt m k ρi Si = some (fl, ρ', S'), ⟨fuel, μ, S, ρ, .refl ok, en, e⟩, ?_⟩
    rintro k σi Hi ⟨μi, Si, ρi, sti, eni, ei⟩
    cases k with
    | zero => unfold whileN at ei; cases ei
    | succ k =>
      unfold whileN at ei
      cases hx : mt ρi Si with
      | none => rw [hx] at ei; cases ei
      | some p =>
        obtain ⟨b, S1⟩ := p
        rw [hx, Option.bind_some] at ei
        refine ⟨μi, Si, ρi, b, S1, sti.sto, eni, hx, fun H1 μ1 st1 => ?_⟩
        have st01 := sti.trans ok st1
        cases b with
        | false =>
          simp only [Bool.false_eq_true, if_false] at ei ⊢
          cases ei
          exact q σi H1 μ1 st01 (eni.step sti.sto st1)
        | true =>
          simp only [if_true] at ei ⊢
          cases hbx : m ρi S1 with
          | none => simp only [hbx] at ei; cases ei
          | some pb =>
            obtain ⟨fb, ρb, Sb⟩ := pb
            simp only [hbx, Option.bind_some] at ei
            refine ⟨fun σn Hn => ∃ μn Sn ρn, Stp X.K μ S H μn Sn Hn ∧ EnvOk X.K Hn μn ρn σn ∧ whileN mt m k ρn Sn = some (fl, ρ', S'), fun σn Hn z => ⟨k, Nat.lt_succ_self _, z⟩, ?_⟩
            refine ⟨μ1, S1, ρi, fb, ρb, Sb, st1.sto, eni.step sti.sto st1, hbx, fun σ3 H3 μ3 st3 en3 => ?_⟩
            have stt := st01.trans ok st3
            cases fb with
            | nx => exact ⟨μ3, Sb, ρb, stt, en3, ei⟩
            | ct => exact ⟨μ3, Sb, ρb, stt, en3, ei⟩
            | bk => cases ei; exact q σ3 H3 μ3 stt en3
            | rt w => cases ei; exact q σ3 H3 μ3 stt en3
end
end PD

/-! PD, part 5: comprehensions, methods of lists, calls of defs, a def by its body. -/
namespace PD
open PySem PySem.Spec PyProof.Rows L2 RZ RT

/-! ### comprehensions -/
section
variable {K : PySem.W.Frag} {H H' : Hp} {μ μ' : List Addr} {S S' : Sto}
/-- something that is not the store's changes -/
theorem Stp.other (s : Stp K μ S H μ' S' H') {D : Addr} {vs : List V} (o : HO) (h : H D = none) (n : D ∉ μ') (g : H' D = some (.lst vs)) : Stp K μ S H μ' S' (upd H' D o) where
  pre := s.pre
  sto := by
    have kp : Keeps H' (upd H' D o) := fun b u e i => by
      rw [upd_ne (fun z => by subst z; rw [g] at e; cases e; exact i)]; exact e
    have ne : ∀ a ∈ μ', a ≠ D := fun a m z => n (z ▸ m)
    refine ⟨s.sto.len, s.sto.nd, fun a m => ?_, fun k xs e => ?_⟩
    · obtain ⟨u, e⟩ := s.sto.there a m
      exact ⟨u, by rw [upd_ne (ne a m)]; exact e⟩
    · obtain ⟨a, ws, h1, h2, h3⟩ := s.sto.cell k xs e
      exact ⟨a, ws, h1, by rw [upd_ne (ne a (List.mem_of_getElem? h1))]; exact h2, h3.mono kp⟩
  ext := fun a u e nl => by
    rw [upd_ne (ne_of_none e h)]
    exact s.ext a u e nl
  fresh := s.fresh
  dead := s.dead
end
def lcN (g : CG) (t : CB) (elt : CE) (ρ : Rho) : List PyData → Sto → Option (List PyData × Sto)
  | [], S => some ([], S)
  | x :: xs, S => (g (.d x) ρ S).bind fun p => (t p.1 p.2).bind fun b => if b.1 = true then (elt p.1 b.2).bind fun y => match y.1 with
      | .d d => (lcN g t elt ρ xs y.2).bind fun r => some (d :: r.1, r.2)
      | .m _ => none
    else lcN g t elt ρ xs b.2
def lcE (own : List Nat) (mu : Bool) (ci : CI) (g : CG) (t : CB) (elt : CE) : CE := fun ρ S => (ci ρ S).bind fun p => if p.1.length ≤ lim then (lcN g t elt (wipeR ρ own) p.1 p.2).bind fun q =>
  if mu = true then some (.m q.2.length, q.2 ++ [some q.1]) else some (.d (.list q.1), q.2) else none
def yesB : CB := fun _ S => some (true, S)
theorem lcN_len {g : CG} {t : CB} {elt : CE} {ρ : Rho} : ∀ {xs : List PyData} {S : Sto} {q : List PyData × Sto}, lcN g t elt ρ xs S = some q → q.1.length ≤ xs.length
  | [], S, q, h => by cases h; exact Nat.le_refl _
  | x :: xs, S, q, h => by
    unfold lcN at h
    cases h1 : g (.d x) ρ S with
    | none => rw [h1] at h; cases h
    | some p =>
      rw [h1, Option.bind_some] at h
      cases h2 : t p.1 p.2 with
      | none => rw [h2] at h; cases h
      | some b =>
        rw [h2, Option.bind_some] at h
        split at h
        · cases h3 : elt p.1 b.2 with
          | none => rw [h3] at h; cases h
          | some y =>
            rw [h3, Option.bind_some] at h
            split at h
            · cases h4 : lcN g t elt ρ xs y.2 with
              | none => rw [h4] at h; cases h
              | some r =>
                rw [h4, Option.bind_some] at h
                cases h
                exact Nat.succ_le_succ (lcN_len h4)
            · cases h
        · exact Nat.le_succ_of_le (lcN_len h)
theorem rd_lc {K : PySem.W.Frag} {own vs : List Nat} {mu : Bool} {ci : CI} {g : CG} {t : CB} {elt : CE} {σ : L2.St} {H : Hp} {Q : VK} (hv : ∀ i ∈ vs, i ∈ own) (h : rdE K (lcE own mu ci g t elt) σ H Q) :
    tLc (rdI K ci) (rdG K g vs) (rdB K t) (rdE K elt) own σ H (QFz Q) := by
  obtain ⟨μ, S, ρ, w, S', ok, en, e, q⟩ := h
  unfold lcE at e
  cases hx : ci ρ S with
  | none => rw [hx] at e; cases e
  | some p =>
    obtain ⟨xs, S1⟩ := p
    rw [hx, Option.bind_some] at e
    split at e
    rotate_left
    · cases e
    · rename_i hz
      have hzx : xs.length ≤ lim := hz
      cases hl : lcN g t elt (wipeR ρ own) xs S1 with
      | none => simp only at e; rw [hl] at e; cases e
      | some r =>
        obtain ⟨ys, S2⟩ := r
        simp only at e
        rw [hl, Option.bind_some] at e
        refine ⟨μ, S, ρ, xs, S1, ok, en, hx, fun J H1 μ1 st1 yl D hD => ?_⟩
        refine ⟨fun i mm Hi => mm + i = xs.length ∧ ∃ μi Si acc av zs, Stp K μ1 S1 H1 μi Si Hi ∧ D ∉ μi ∧ Hi D = some (.lst av) ∧ RepL K Hi acc av ∧ acc.length ≤ i ∧ lcN g t elt (wipeR ρ own) (xs.drop i) Si = some (zs, S2) ∧ acc ++ zs = ys,
          ⟨xs.length, by omega, μ1, S1, [], [], ys, Stp.new st1.sto hD, fun m => ?_, upd_same, .nil, Nat.zero_le _, by simpa using hl, rfl⟩, ?_⟩
        · obtain ⟨o, z⟩ := st1.sto.there D m; rw [hD] at z; cases z
        rintro i mm Hi ⟨hm, μi, Si, acc, av, zs, sti, nD, hDi, ra, hlen, ei, eq⟩
        have y := yl Hi sti.ext i
        have st1i := st1.trans ok sti
        cases hget : xs[i]? with
        | none =>
          have hli : xs.length ≤ i := List.getElem?_eq_none_iff.mp hget
          rw [List.drop_eq_nil_of_le hli] at ei
          unfold lcN at ei
          cases ei
          rw [List.append_nil] at eq
          subst eq
          refine .inl ⟨y.2 hget, ?_⟩
          split at e
          · cases e
            -- a cell
            have hp : H D = none := by
              cases z : H D with
              | none => rfl
              | some o =>
                by_cases lv : Live μ S D
                · obtain ⟨k, us, h1, h2⟩ := lv
                  have hm1 : D ∈ μ1 := st1.pre.subset (List.mem_of_getElem? h1)
                  obtain ⟨o', z'⟩ := st1.sto.there D hm1
                  rw [hD] at z'; cases z'
                · rw [st1.ext D o z lv] at hD; cases hD
            refine .inr (q _ Hi (μi ++ [D]) ⟨st1i.pre.trans ⟨[D], rfl⟩, ?_, st1i.ext, fun a m => ?_, fun k z => ?_⟩ (.m ?_))
            · refine ⟨by simp [sti.sto.len], ?_, fun a m => ?_, fun k us z => ?_⟩
              · rw [List.nodup_append]
                exact ⟨sti.sto.nd, by simp, fun a ha b hb e => by simp at hb; subst hb; subst e; exact nD ha⟩
              · rcases List.mem_append.mp m with m | m
                · exact sti.sto.there a m
                · simp at m; subst m; exact ⟨_, hDi⟩
              · by_cases hk : k < S2.length
                · rw [List.getElem?_append_left hk] at z
                  obtain ⟨a, ws, h1, h2, h3⟩ := sti.sto.cell k us z
                  exact ⟨a, ws, by rw [List.getElem?_append_left (by rw [sti.sto.len]; exact hk)]; exact h1, h2, h3⟩
                · rw [List.getElem?_append_right (Nat.le_of_not_lt hk)] at z
                  have e0 : k - S2.length = 0 := by
                    have := (List.getElem?_eq_some_iff.mp z).1
                    simp at this; omega
                  rw [e0] at z
                  simp at z; subst z
                  exact ⟨D, av, by rw [List.getElem?_append_right (by rw [sti.sto.len]; omega), sti.sto.len, e0]; rfl, hDi, ra⟩
            · rcases List.mem_append.mp m with m | m
              · exact st1i.fresh a m
              · simp at m; subst m; exact .inr hp
            · have := st1i.dead k z
              rw [List.getElem?_append_left (List.getElem?_eq_some_iff.mp this).1]; exact this
            · rw [← sti.sto.len, List.getElem?_append_right (Nat.le_refl _), Nat.sub_self]; rfl
          · cases e
            refine .inl ⟨D, av, rfl, hDi, fun o => ?_⟩
            have st2 := Stp.other sti (.frz o (.lst av)) hD nD hDi
            have kp : Keeps Hi (upd Hi D (.frz o (.lst av))) := fun b u e i => by
              rw [upd_ne (fun z => by subst z; rw [hDi] at e; cases e; exact i)]; exact e
            exact q _ _ μi (st1.trans ok st2) (.d (.lst (.inl ⟨o, upd_same⟩) (ra.mono kp)))
        | some x =>
          have hli : i < xs.length := (List.getElem?_eq_some_iff.mp hget).1
          obtain ⟨go, yd⟩ := y.1 x hget
          rw [List.drop_eq_getElem_cons hli] at ei
          have ex : xs[i] = x := (List.getElem?_eq_some_iff.mp hget).2
          rw [ex] at ei
          unfold lcN at ei
          cases hg : g (.d x) (wipeR ρ own) Si with
          | none => rw [hg] at ei; cases ei
          | some pg =>
            obtain ⟨ρg, Sg⟩ := pg
            rw [hg, Option.bind_some] at ei
            cases ht : t ρg Sg with
            | none => simp only [ht] at ei; cases ei
            | some pb =>
              obtain ⟨b, Sb⟩ := pb
              simp only [ht, Option.bind_some] at ei
              refine .inr ⟨go, fun Hn => ∃ μn Sn acc av zs, Stp K μ1 S1 H1 μn Sn Hn ∧ D ∉ μn ∧ Hn D = some (.lst av) ∧ RepL K Hn acc av ∧ acc.length ≤ i + 1 ∧ lcN g t elt (wipeR ρ own) (xs.drop (i + 1)) Sn = some (zs, S2) ∧ acc ++ zs = ys,
                fun Hn z => ⟨mm - 1, by omega, by omega, z⟩, fun v Hv yv => ?_⟩
              obtain ⟨kv, rv⟩ := yd v Hv yv
              have stv := Stp.same sti.sto kv
              have enw := ((en.step ok st1i).step sti.sto stv).wipe own
              refine ⟨μi, Si, wipeR ρ own, .d x, ρg, Sg, stv.sto, enw, .d rv, hg, fun σ2 H2 μ2 st2 en2 on2 => ⟨on2.wipe hv, ?_⟩⟩
              refine ⟨μ2, Sg, ρg, b, Sb, st2.sto, en2, ht, fun H3 μ3 st3 => ?_⟩
              have s23 := st2.trans stv.sto st3
              have si3 := stv.trans sti.sto s23
              have nD3 : D ∉ μ3 := fun m => by
                rcases si3.fresh D m with z | z
                · exact nD z
                · rw [hDi] at z; cases z
              have hD3 : H3 D = some (.lst av) := si3.ext D _ hDi fun ⟨k, us, h1, _⟩ => nD (List.mem_of_getElem? h1)
              have ra3 := ra.mono (si3.keeps sti.sto)
              cases b with
              | false =>
                simp only [Bool.false_eq_true, if_false] at ei ⊢
                exact ⟨μ3, Sb, acc, av, zs, sti.trans st1.sto si3, nD3, hD3, ra3, by omega, ei, eq⟩
              | true =>
                simp only [if_true] at ei ⊢
                cases he : elt ρg Sb with
                | none => rw [he] at ei; cases ei
                | some py =>
                  obtain ⟨wy, Sy⟩ := py
                  rw [he, Option.bind_some] at ei
                  cases wy with
                  | m k => cases ei
                  | d d =>
                    simp only at ei
                    cases hr : lcN g t elt (wipeR ρ own) (xs.drop (i + 1)) Sy with
                    | none => rw [hr] at ei; cases ei
                    | some r =>
                      obtain ⟨zs2, S2'⟩ := r
                      rw [hr, Option.bind_some] at ei
                      cases ei
                      refine ⟨μ3, Sb, ρg, .d d, Sy, st3.sto, en2.step st2.sto st3, he, fun yv' H4 μ4 st4 r4 => ?_⟩
                      have si4 := si3.trans sti.sto st4
                      have nD4 : D ∉ μ4 := fun m => by
                        rcases si4.fresh D m with z | z
                        · exact nD z
                        · rw [hDi] at z; cases z
                      have hD4 : H4 D = some (.lst av) := si4.ext D _ hDi fun ⟨k, us, h1, _⟩ => nD (List.mem_of_getElem? h1)
                      have s4 := sti.trans st1.sto si4
                      have kp : Keeps H4 (upd H4 D (.lst (av ++ [yv']))) := fun b u e i => by
                        rw [upd_ne (fun z => by subst z; rw [hD4] at e; cases e; exact i)]; exact e
                      have la : av.length ≤ i := by rw [← ra.length]; exact hlen
                      refine ⟨av, hD4, Nat.lt_of_lt_of_le (show av.length < lim by omega) (lim_le (Nat.le_refl _)), μ4, Sy, acc ++ [d], av ++ [yv'], zs2, Stp.other s4 _ hD nD4 hD4, nD4, upd_same, ?_, by simp; omega, hr, by simpa using eq⟩
                      cases r4 with | d r4 =>
                      exact ((ra.mono (si4.keeps sti.sto)).mono kp).append (.cons (r4.mono kp) .nil)
section
variable {X : Cx} {elt tg iter e : Expr} {ifs : List Expr} {scope : Scope} {own : List (Str × Nat)} {pos : Pos} {ci : CI} {g : CG} {t : CB} {me : CE} {vs : List Nat}
abbrev STs (X : Cx) (ifs : List Expr) (t : CB) : Prop := PTs X ifs (rdB X.K t)
theorem st_nil : STs X [] yesB := ⟨fun pins s σ H Q I ⟨μ, S, ρ, w, S', ok, en, e, q⟩ => by
  cases e
  exact (pts_nil (X := X)).run pins s σ H Q I (q H μ (.refl ok))⟩
theorem st_one {c : Expr} (h : SB X c t) : STs X [c] t := pts_one h
theorem se_lc {mu : Bool} (hc : X.calm = true) (hN : X.N.Nodup) (hi : SI X tg iter ci) (ok : BlkOk X.N X.env.scope scope own)
    (hg : ∀ (s : Shared) (H : Hp) (C : Addr) (cl : List (Str × Addr)) (fp : List Addr), SG (X.blk s H scope (compEnvC scope cl C X.env) fp) tg g vs) (ht : ∀ (s : Shared) (H : Hp) (C : Addr) (cl : List (Str × Addr)) (fp : List Addr), STs (X.blk s H scope (compEnvC scope cl C X.env) fp) ifs t)
    (he : ∀ (s : Shared) (H : Hp) (C : Addr) (cl : List (Str × Addr)) (fp : List Addr), SE (X.blk s H scope (compEnvC scope cl C X.env) fp) elt me) (hv : ∀ i ∈ vs, i ∈ own.map (·.2)) (hs : ∀ x, foldedSetIterable iter X.env x = pure x) :
    SE X (.ListComp elt [⟨tg, iter, ifs, 0⟩] scope pos) (lcE (own.map (·.2)) mu ci g t me) :=
  PE.imp (pe_fz (pe_lc hc hN hi ok hg ht he hs)) fun σ H Q h => rd_lc hv h
/-- freezing behind a statement -/
def NFz (Q : L2.St → Hp → Prop) : L2.St → Hp → Prop := fun σ H => (∃ p xs, H p = some (.lst xs) ∧ ∀ o, Q σ (upd H p (.frz o (.lst xs)))) ∨ Q σ H
theorem ps_fz {st : Stmt} {t : TS} (h : PS X st t) : PS X st (fun D σ H => t { D with nx := NFz D.nx } σ H) := by
  refine ⟨fun pins s σ H D I q => thn (h.run pins s σ H _ I q) fun f s1 z => ?_⟩
  cases f with
  | next =>
    obtain ⟨σ1, H1, I1, q1⟩ := z
    rcases q1 with ⟨p, xs, hp, q1⟩ | q1
    · obtain ⟨_, its, n, rv, e⟩ := (show ObjOk X.prog X.w H1 s1.heap p (.lst xs) from I1.hok p _ hp)
      exact ⟨σ1, _, Inv.frozen I1 hp e, q1 _⟩
    · exact ⟨σ1, H1, I1, q1⟩
  | brk => exact z
  | cont => exact z
  | ret v => exact z
theorem ss_setLc {mu : Bool} {i : Nat} {y : Str} {py spos : Pos} (hc : X.calm = true) (hN : X.N.Nodup) (hy : X.N[i]? = some y) (hyl : X.env.scope.names.lookup y = some .local)
    (hsw : swapsWith (.ListComp elt [⟨tg, iter, ifs, 0⟩] scope pos) (some (.Name y py)) spos.line X.env = pure true) (hi : SI X tg iter ci) (ok : BlkOk X.N X.env.scope scope own)
    (hg : ∀ (s : Shared) (H : Hp) (C : Addr) (cl : List (Str × Addr)) (fp : List Addr), SG (X.blk s H scope (compEnvC scope cl C X.env) fp) tg g vs) (ht : ∀ (s : Shared) (H : Hp) (C : Addr) (cl : List (Str × Addr)) (fp : List Addr), STs (X.blk s H scope (compEnvC scope cl C X.env) fp) ifs t)
    (he : ∀ (s : Shared) (H : Hp) (C : Addr) (cl : List (Str × Addr)) (fp : List Addr), SE (X.blk s H scope (compEnvC scope cl C X.env) fp) elt me) (hv : ∀ i ∈ vs, i ∈ own.map (·.2)) (hs : ∀ x, foldedSetIterable iter X.env x = pure x) :
    SS X (.Assign [.Name y py] (.ListComp elt [⟨tg, iter, ifs, 0⟩] scope pos) spos) (asgS (lcE (own.map (·.2)) mu ci g t me) (nameG i)) :=
  PS.imp (ps_fz (ps_setLc hc hN hy hyl hsw hi ok hg ht he hs)) fun D σ H h => by
    have h1 : rdE X.K (lcE (own.map (·.2)) mu ci g t me) σ H fun x H1 => D.nx (σ.set i (some x)) H1 := by
      obtain ⟨μ, S, ρ, fl, ρ', S', ok, en, e, q⟩ := h
      unfold asgS at e
      cases hx : lcE (own.map (·.2)) mu ci g t me ρ S with
      | none => rw [hx] at e; cases e
      | some p =>
        obtain ⟨w, S1⟩ := p
        rw [hx, Option.bind_some] at e
        cases e
        exact ⟨μ, S, ρ, w, _, ok, en, hx, fun v H1 μ1 st1 r1 => q _ H1 μ1 st1 ((en.step ok st1).set i r1)⟩
    have h2 := rd_lc hv h1
    have m : ∀ x H1, QFz (fun x H1 => D.nx (σ.set i (some x)) H1) x H1 → NFz D.nx (σ.set i (some x)) H1 := fun x H1 z => by
      rcases z with ⟨p, xs, rfl, hp, z⟩ | z
      · exact .inl ⟨p, xs, hp, z⟩
      · exact .inr z
    -- the reading is monotone in what is wanted at its end
    obtain ⟨μ, S, ρ, xs, S1, ok', en, hx, k⟩ := h2
    refine ⟨μ, S, ρ, xs, S1, ok', en, hx, fun J H1 μ1 st1 yl Dn hD => ?_⟩
    obtain ⟨W, w0, step⟩ := k J H1 μ1 st1 yl Dn hD
    refine ⟨W, w0, fun i' m' H' w' => ?_⟩
    rcases step i' m' H' w' with ⟨z1, z2⟩ | z
    · exact .inl ⟨z1, m _ _ z2⟩
    · exact .inr z
end

/-! ### methods of lists -/
def cellOf : W → Option Nat
  | .m n => some n
  | _ => none
def asD : W → Option PyData
  | .d x => some x
  | _ => none
def liveAt (S : Sto) (n : Nat) : Option (List PyData) := match S[n]? with
  | some (some xs) => some xs
  | _ => none
theorem liveAt_eq {S : Sto} {n : Nat} {xs : List PyData} (h : liveAt S n = some xs) : S[n]? = some (some xs) := by
  unfold liveAt at h
  split at h
  · rename_i ys hs; cases h; exact hs
  · cases h
def appendE (a b : CE) : CE := fun ρ S => (a ρ S).bind fun p => (cellOf p.1).bind fun n => (liveAt p.2 n).bind fun _ => (b ρ p.2).bind fun q => (asD q.1).bind fun x => (liveAt q.2 n).bind fun xs =>
  if xs.length < lim then some (.d .none, q.2.set n (some (xs ++ [x]))) else none
def popAtE (a b : CE) : CE := fun ρ S => (a ρ S).bind fun p => (cellOf p.1).bind fun n => (liveAt p.2 n).bind fun _ => (b ρ p.2).bind fun q => (asInt q.1).bind fun i => (liveAt q.2 n).bind fun xs =>
  if 0 ≤ i ∧ i < 2 ^ 63 then (xs[i.toNat]?).bind fun x => some (.d x, q.2.set n (some (xs.eraseIdx i.toNat))) else none
def popE (a : CE) : CE := fun ρ S => (a ρ S).bind fun p => (cellOf p.1).bind fun n => (liveAt p.2 n).bind fun xs => (xs[xs.length - 1]?).bind fun x => some (.d x, p.2.set n (some xs.dropLast))
def insertE (a b c : CE) : CE := fun ρ S => (a ρ S).bind fun p => (cellOf p.1).bind fun n => (liveAt p.2 n).bind fun _ => (b ρ p.2).bind fun q => (c ρ q.2).bind fun z => (asInt q.1).bind fun i => (asD z.1).bind fun x => (liveAt z.2 n).bind fun xs =>
  if xs.length < lim ∧ 0 ≤ i ∧ i < 2 ^ 63 then some (.d .none, z.2.set n (some (xs.take i.toNat ++ [x] ++ xs.drop i.toNat))) else none
section
variable {X : Cx} {o a b : Expr} {mo ma mb : CE} {apos cpos : Pos}
theorem cellOf_eq {w : W} {n : Nat} (h : cellOf w = some n) : w = .m n := by
  unfold cellOf at h
  split at h
  · cases h; rfl
  · cases h
theorem asD_eq {w : W} {x : PyData} (h : asD w = some x) : w = .d x := by
  unfold asD at h
  split at h
  · cases h; rfl
  · cases h
theorem tyV_cell {K : PySem.W.Frag} {H : Hp} {c : Addr} {vs : List V} (h : H c = some (.lst vs)) : tyV K "list" (.ref c) H := .inl ⟨rfl, _, SqL.of h⟩
theorem mt_up {μ μ' : List Addr} {n : Nat} {c : Addr} (p : μ <+: μ') (h : μ[n]? = some c) : μ'[n]? = some c := by
  obtain ⟨r, rfl⟩ := p
  rw [List.getElem?_append_left (List.getElem?_eq_some_iff.mp h).1]; exact h
theorem se_append (ho : SE X o mo) (ha : SE X a ma) (hbase : attributeBase o "append" X.env (eval o X.env) = eval o X.env) (hl : (apos.endLine == cpos.line) = true) (hs : starEach [a] X.env = [(false, eval a X.env)]) :
    SE X (.Call (.Attribute o "append" apos) [a] [] cpos) (appendE mo ma) :=
  PE.imp (pe_bm PySem.F.plainAttrs_list PySem.F.slot_list_append PySem.F.type_list_append mt_append ho (pa_cons ha pa_nil hs) hbase (by rw [hs]; rfl) hl hs rfl) fun σ H Q ⟨μ, S, ρ, w, S', ok, en, e, q⟩ => by
    unfold appendE at e
    cases h1 : mo ρ S with
    | none => rw [h1] at e; cases e
    | some p =>
      obtain ⟨w1, S1⟩ := p
      rw [h1, Option.bind_some] at e
      cases h2 : cellOf w1 with
      | none => simp only [h2] at e; cases e
      | some n =>
        simp only [h2, Option.bind_some] at e
        cases h3 : liveAt S1 n with
        | none => rw [h3] at e; cases e
        | some xs0 =>
          rw [h3, Option.bind_some] at e
          cases h4 : ma ρ S1 with
          | none => rw [h4] at e; cases e
          | some p2 =>
            obtain ⟨w2, S2⟩ := p2
            rw [h4, Option.bind_some] at e
            cases h5 : asD w2 with
            | none => simp only [h5] at e; cases e
            | some x =>
              simp only [h5, Option.bind_some] at e
              cases h6 : liveAt S2 n with
              | none => rw [h6] at e; cases e
              | some xs =>
                rw [h6, Option.bind_some] at e
                split at e
                · rename_i hz
                  cases e
                  rw [cellOf_eq h2] at h1
                  rw [asD_eq h5] at h4
                  refine ⟨μ, S, ρ, _, S1, ok, en, h1, fun v H1 μ1 st1 r1 => ?_⟩
                  cases r1 with | @m _ c1 hm =>
                  obtain ⟨c, us, hc, hH, _⟩ := st1.sto.cell n xs0 (liveAt_eq h3)
                  rw [hm] at hc; cases hc
                  refine ⟨tyV_cell hH, μ1, S1, ρ, _, S2, st1.sto, en.step ok st1, h4, fun y H2 μ2 st2 r2 => ?_⟩
                  have st12 := st1.trans ok st2
                  have hm2 := mt_up st2.pre hm
                  obtain ⟨c', us', hc', hH2, hl2⟩ := st2.sto.cell n xs (liveAt_eq h6)
                  rw [hm2] at hc'; cases hc'
                  cases r2 with | d r2 =>
                  refine ⟨_, us', y, rfl, rfl, hH2, Nat.lt_of_lt_of_le (by rw [← hl2.length]; exact hz) (lim_le (Nat.le_refl _)), ?_⟩
                  exact q _ _ μ2 (st12.trans ok (Stp.put st2.sto (liveAt_eq h6) hm2 hH2 (hl2.append (.cons r2 .nil)))) (.d .non)
                · cases e
theorem se_popAt (ho : SE X o mo) (ha : SE X a ma) (hbase : attributeBase o "pop" X.env (eval o X.env) = eval o X.env) (hl : (apos.endLine == cpos.line) = true) (hs : starEach [a] X.env = [(false, eval a X.env)]) :
    SE X (.Call (.Attribute o "pop" apos) [a] [] cpos) (popAtE mo ma) :=
  PE.imp (pe_bm PySem.F.plainAttrs_list PySem.F.slot_list_pop PySem.F.type_list_pop mt_popAt ho (pa_cons ha pa_nil hs) hbase (by rw [hs]; rfl) hl hs rfl) fun σ H Q ⟨μ, S, ρ, w, S', ok, en, e, q⟩ => by
    unfold popAtE at e
    cases h1 : mo ρ S with
    | none => rw [h1] at e; cases e
    | some p =>
      obtain ⟨w1, S1⟩ := p
      rw [h1, Option.bind_some] at e
      cases h2 : cellOf w1 with
      | none => simp only [h2] at e; cases e
      | some n =>
        simp only [h2, Option.bind_some] at e
        cases h3 : liveAt S1 n with
        | none => rw [h3] at e; cases e
        | some xs0 =>
          rw [h3, Option.bind_some] at e
          cases h4 : ma ρ S1 with
          | none => rw [h4] at e; cases e
          | some p2 =>
            obtain ⟨w2, S2⟩ := p2
            rw [h4, Option.bind_some] at e
            cases h5 : asInt w2 with
            | none => simp only [h5] at e; cases e
            | some i =>
              simp only [h5, Option.bind_some] at e
              cases h6 : liveAt S2 n with
              | none => rw [h6] at e; cases e
              | some xs =>
                rw [h6, Option.bind_some] at e
                split at e
                · rename_i hz
                  cases hx : xs[i.toNat]? with
                  | none => rw [hx] at e; cases e
                  | some x =>
                    rw [hx, Option.bind_some] at e
                    cases e
                    rw [cellOf_eq h2] at h1
                    refine ⟨μ, S, ρ, _, S1, ok, en, h1, fun v H1 μ1 st1 r1 => ?_⟩
                    cases r1 with | @m _ c1 hm =>
                    obtain ⟨c, us, hc, hH, _⟩ := st1.sto.cell n xs0 (liveAt_eq h3)
                    rw [hm] at hc; cases hc
                    refine ⟨tyV_cell hH, μ1, S1, ρ, _, S2, st1.sto, en.step ok st1, h4, fun y H2 μ2 st2 r2 => ?_⟩
                    have st12 := st1.trans ok st2
                    have hm2 := mt_up st2.pre hm
                    obtain ⟨c', us', hc', hH2, hl2⟩ := st2.sto.cell n xs (liveAt_eq h6)
                    rw [hm2] at hc'; cases hc'
                    obtain ⟨z, hz2, rz⟩ := hl2.get hx
                    have hlt := (List.getElem?_eq_some_iff.mp hz2).1
                    refine ⟨_, us', i, i.toNat, z, rfl, by rw [asInt_of r2 h5], hH2, by omega, hz.2, seqIndex_of hz.1 (by omega), hz2, ?_⟩
                    have st3 := Stp.put st2.sto (liveAt_eq h6) hm2 hH2 (hl2.eraseIdx i.toNat)
                    exact q _ _ μ2 (st12.trans ok st3) (.d (rz.mono (st3.keeps st2.sto)))
                · cases e
theorem se_insert (ho : SE X o mo) (ha : SE X a ma) (hb : SE X b mb) (hbase : attributeBase o "insert" X.env (eval o X.env) = eval o X.env) (hl : (apos.endLine == cpos.line) = true) (hs : starEach [a, b] X.env = [(false, eval a X.env), (false, eval b X.env)]) (hs2 : starEach [b] X.env = [(false, eval b X.env)]) :
    SE X (.Call (.Attribute o "insert" apos) [a, b] [] cpos) (insertE mo ma mb) :=
  PE.imp (pe_bm PySem.F.plainAttrs_list PySem.F.slot_list_insert PySem.F.type_list_insert mt_insert ho (pa_cons ha (pa_cons hb pa_nil hs2) (by rw [hs, hs2])) hbase (by rw [hs]; rfl) hl (by rw [hs, hs2]) (by rw [hs2]; rfl)) fun σ H Q ⟨μ, S, ρ, w, S', ok, en, e, q⟩ => by
    unfold insertE at e
    cases h1 : mo ρ S with
    | none => rw [h1] at e; cases e
    | some p =>
      obtain ⟨w1, S1⟩ := p
      rw [h1, Option.bind_some] at e
      cases h2 : cellOf w1 with
      | none => simp only [h2] at e; cases e
      | some n =>
        simp only [h2, Option.bind_some] at e
        cases h3 : liveAt S1 n with
        | none => rw [h3] at e; cases e
        | some xs0 =>
          rw [h3, Option.bind_some] at e
          cases h4 : ma ρ S1 with
          | none => rw [h4] at e; cases e
          | some p2 =>
            obtain ⟨w2, S2⟩ := p2
            rw [h4, Option.bind_some] at e
            cases h7 : mb ρ S2 with
            | none => rw [h7] at e; cases e
            | some p3 =>
              obtain ⟨w3, S3⟩ := p3
              rw [h7, Option.bind_some] at e
              cases h5 : asInt w2 with
              | none => simp only [h5] at e; cases e
              | some i =>
                simp only [h5, Option.bind_some] at e
                cases h8 : asD w3 with
                | none => simp only [h8] at e; cases e
                | some x =>
                  simp only [h8, Option.bind_some] at e
                  cases h6 : liveAt S3 n with
                  | none => rw [h6] at e; cases e
                  | some xs =>
                    rw [h6, Option.bind_some] at e
                    split at e
                    · rename_i hz
                      cases e
                      rw [cellOf_eq h2] at h1
                      rw [asD_eq h8] at h7
                      refine ⟨μ, S, ρ, _, S1, ok, en, h1, fun v H1 μ1 st1 r1 => ?_⟩
                      cases r1 with | @m _ c1 hm =>
                      obtain ⟨c, us, hc, hH, _⟩ := st1.sto.cell n xs0 (liveAt_eq h3)
                      rw [hm] at hc; cases hc
                      refine ⟨tyV_cell hH, μ1, S1, ρ, _, S2, st1.sto, en.step ok st1, h4, fun y H2 μ2 st2 r2 => ?_⟩
                      have st12 := st1.trans ok st2
                      refine ⟨μ2, S2, ρ, _, S3, st2.sto, en.step ok st12, h7, fun y3 H3 μ3 st3 r3 => ?_⟩
                      have st13 := st12.trans ok st3
                      have hm3 := mt_up st3.pre (mt_up st2.pre hm)
                      obtain ⟨c', us', hc', hH3, hl3⟩ := st3.sto.cell n xs (liveAt_eq h6)
                      rw [hm3] at hc'; cases hc'
                      cases r3 with | d r3 =>
                      have ey : y = .int i := by
                        have := asInt_of r2 h5
                        exact this
                      refine ⟨_, us', i, y3, rfl, by rw [ey], hH3, Nat.lt_of_lt_of_le (by rw [← hl3.length]; exact hz.1) (lim_le (Nat.le_refl _)), hz.2.1, hz.2.2, ?_⟩
                      exact q _ _ μ3 (st13.trans ok (Stp.put st3.sto (liveAt_eq h6) hm3 hH3 (((hl3.take i.toNat).append (.cons r3 .nil)).append (hl3.drop i.toNat)))) (.d .non)
                    · cases e
theorem se_pop (ho : SE X o mo) (hbase : attributeBase o "pop" X.env (eval o X.env) = eval o X.env) (hl : (apos.endLine == cpos.line) = true) : SE X (.Call (.Attribute o "pop" apos) [] [] cpos) (popE mo) :=
  PE.imp (pe_bm0 PySem.F.plainAttrs_list PySem.F.slot_list_pop PySem.F.type_list_pop mt_pop ho hbase hl) fun σ H Q ⟨μ, S, ρ, w, S', ok, en, e, q⟩ => by
    unfold popE at e
    cases h1 : mo ρ S with
    | none => rw [h1] at e; cases e
    | some p =>
      obtain ⟨w1, S1⟩ := p
      rw [h1, Option.bind_some] at e
      cases h2 : cellOf w1 with
      | none => simp only [h2] at e; cases e
      | some n =>
        simp only [h2, Option.bind_some] at e
        cases h3 : liveAt S1 n with
        | none => rw [h3] at e; cases e
        | some xs =>
          rw [h3, Option.bind_some] at e
          cases hx : xs[xs.length - 1]? with
          | none => rw [hx] at e; cases e
          | some x =>
            rw [hx, Option.bind_some] at e
            cases e
            rw [cellOf_eq h2] at h1
            refine ⟨μ, S, ρ, _, S1, ok, en, h1, fun v H1 μ1 st1 r1 => ?_⟩
            cases r1 with | @m _ c1 hm =>
            obtain ⟨c, us, hc, hH, hl2⟩ := st1.sto.cell n xs (liveAt_eq h3)
            rw [hm] at hc; cases hc
            obtain ⟨z, hz2, rz⟩ := hl2.get hx
            refine ⟨tyV_cell hH, _, us, z, rfl, rfl, hH, by rw [← hl2.length]; exact hz2, ?_⟩
            have st3 := Stp.put st1.sto (liveAt_eq h3) hm hH hl2.dropLast
            exact q _ _ μ1 (st1.trans ok st3) (.d (rz.mono (st3.keeps st1.sto)))
end

/-! ### what a def promises -/
structure FnG (P : Program) (w : World) (K : PySem.W.Frag) (mg : Str → Option Value) (base : Heap) (k : Nat) (f : Addr) (fd : FuncData) (ps : List Str) (run : List W → Sto → Option (W × Sto)) : Prop where
  run : ∀ (A : Around) (outer : List Env) (s : Shared) (H : Hp) (args : Args) (us : List Value) (vs : List V) (Q : VK), Room k A → A.guards = some [] → Env0 P w K mg base A outer s H → BindsTo s fd args (ps.zip us) → Vals vs us → vs.length = ps.length → FN K run vs H Q →
    codeAny (model P w) A (.call (.ref f) args) (CR CX0 outer P w H s Q E0) s
/-- a def that is called: its parameters, what it does, how keywords are put in order -/
structure Callee where
  ps : List Str
  run : List W → Sto → Option (W × Sto)
  arr : List (Nat × List Str × List Nat)
def atV (perm : List Nat) (vs : List V) : List V := perm.map fun i => vs.getD i .non
def atU (perm : List Nat) (us : List Value) : List Value := perm.map fun i => us.getD i .none
def atW (perm : List Nat) (ws : List W) : List W := perm.map fun i => ws.getD i (.d .none)
theorem vals_at {vs : List V} {us : List Value} (h : Vals vs us) : ∀ perm : List Nat, Vals (atV perm vs) (atU perm us)
  | [] => .nil
  | i :: r => by
    refine .cons ?_ (vals_at h r)
    show RelV (vs.getD i .non) (us.getD i .none)
    rw [List.getD_eq_getElem?_getD, List.getD_eq_getElem?_getD]
    cases e : vs[i]? with
    | none => rw [h.none_of e]; rfl
    | some v =>
      obtain ⟨u, hu, r⟩ := h.get e
      rw [hu]; exact r
theorem wrep_get {K : PySem.W.Frag} {H : Hp} {μ : List Addr} : ∀ {ws : List W} {vs : List V} (i : Nat), WRepL K H μ ws vs → WRep K H μ (ws.getD i (.d .none)) (vs.getD i .non)
  | _, _, i, .nil => by simpa using WRep.d .non
  | _, _, 0, .cons r _ => r
  | _, _, i + 1, .cons _ l => wrep_get i l
theorem wrep_at {K : PySem.W.Frag} {H : Hp} {μ : List Addr} {ws : List W} {vs : List V} (h : WRepL K H μ ws vs) : ∀ perm : List Nat, WRepL K H μ (atW perm ws) (atV perm vs)
  | [] => .nil
  | i :: r => .cons (wrep_get i h) (wrep_at h r)
theorem WRepL.append {K : PySem.W.Frag} {H : Hp} {μ : List Addr} : ∀ {ws zs : List W} {vs us : List V}, WRepL K H μ ws vs → WRepL K H μ zs us → WRepL K H μ (ws ++ zs) (vs ++ us)
  | _, _, _, _, .nil, h => h
  | _, _, _, _, .cons r l, h => .cons r (WRepL.append l h)
structure CalleeOk (X : Cx) (x : Str) (c : Callee) : Prop where
  ex : ∃ (f : Addr) (fd : FuncData) (k : Nat), X.mg x = some (.ref f) ∧ PySem.W.keepIn X.K (.ref f) = true ∧ Room k X.A ∧ FnG X.prog X.w X.K X.mg X.base k f fd c.ps c.run ∧
    (∀ (s : Shared) (us : List Value), us.length = c.ps.length → BindsTo s fd ⟨us, []⟩ (c.ps.zip us)) ∧
    (∀ a ∈ c.arr, ∀ (s : Shared) (us ws : List Value), us.length = a.1 → ws.length = a.2.1.length → BindsTo s fd ⟨us, a.2.1.zip ws⟩ (c.ps.zip (atU a.2.2 (us ++ ws)))) ∧ ∀ a ∈ c.arr, a.2.2.length = c.ps.length
  guards : X.A.guards = some []
def callF (c : Callee) : List W → Sto → Option (W × Sto) := fun ws S => if ws.length = c.ps.length then c.run ws S else none
section
variable {X : Cx} {x : Str} {p pos : Pos} {e : Expr} {es : List Expr} {c : Callee} {ml mk : CL} {kws : List Keyword}
theorem FN_len {K : PySem.W.Frag} {xs : List V} {H : Hp} {Q : VK} (h : FN K (callF c) xs H Q) : xs.length = c.ps.length ∧ FN K c.run xs H Q := by
  obtain ⟨μ, S, ws, w, S', ok, r, e, q⟩ := h
  unfold callF at e
  split at e
  · rename_i hl
    exact ⟨by rw [← r.length]; exact hl, μ, S, ws, w, S', ok, r, e, q⟩
  · cases e
theorem runs_to {pins : List (Addr × Obj)} {σ : L2.St} {H : Hp} {s : Shared} {Q : VK} {f : Addr} {fd : FuncData} {k : Nat} {ps : List Str} {run : List W → Sto → Option (W × Sto)} {args : Args} {us : List Value} {vs : List V} (F : FnG X.prog X.w X.K X.mg X.base k f fd ps run) (hr : Room k X.A) (hg : X.A.guards = some [])
    (I : Inv X pins σ H s) (hb : BindsTo s fd args (ps.zip us)) (r : Vals vs us) (hl : vs.length = ps.length) (h : FN X.K run vs H Q) : codeAny (model X.prog X.w) X.A (.call (.ref f) args) (fun r s' => match r with
      | .ok (.ret u) => EP X pins σ Q u s'
      | _ => False) s :=
  codeAny_mono (F.run X.A X.stack s H args us vs Q hr hg I.env0 hb r hl h) fun r s' q => by
    cases r with
    | error _ => exact q
    | ok fl =>
      cases fl with
      | ret u => exact I.after q
      | next => exact q
      | brk => exact q
      | cont => exact q
theorem se_call (C : CalleeOk X x c) (hg : Gl X x) (ha : SL X (e :: es) ml) (hdb : (x == ("__debug__" : Str)) = false) (he : starEach (e :: es) X.env = (false, eval e X.env) :: starEach es X.env) (hpl : (backTo pos (starEach es X.env)).any (·.1) = false) :
    SE X (.Call (.Name x p) (e :: es) [] pos) (appE (callF c) ml) := by
  obtain ⟨f, fd, k, hm, hk, hr, F, hb, _⟩ := C.ex
  refine ⟨fun pins s σ H Q I h => wpAny_Call_Name_kw (ld_glob I hg hm ?_ hdb)⟩
  refine PySem.W.callWith_K (h₀ := X.base) I.ok.mod.kin hk (thn (ha.run pos pins s σ H _ I (rd_app h)) fun us s1 ⟨vs, H1, I1, r, q⟩ => ⟨I1.kIn, ?_⟩) he hpl
  obtain ⟨hl, q⟩ := FN_len q
  refine wpAny_call (codeAny_mono (runs_to F hr C.guards I1 (hb s1 us (by rw [← r.length]; exact hl)) r hl q) fun r s' z => ?_)
  cases r with
  | error _ => exact z.elim
  | ok fl => cases fl <;> exact z
/-- with keywords -/
def kwE (c : Callee) (perm : List Nat) (l k : CL) : CE := fun ρ S => (l ρ S).bind fun p => (k ρ p.2).bind fun q => c.run (atW perm (p.1 ++ q.1)) q.2
abbrev SK (X : Cx) (kws : List Keyword) (m : CL) : Prop := PK X kws (rdL X.K m)
theorem PK.imp {X : Cx} {es : List Keyword} {t t' : TA} (h : PK X es t) (i : ∀ σ H Q, t' σ H Q → t σ H Q) : PK X es t' := ⟨fun pos pins s σ H Q I q => h.run pos pins s σ H Q I (i σ H Q q)⟩
theorem sk_nil : SK X [] nilL := PK.imp pk_nil fun σ H Q ⟨μ, S, ρ, w, S', ok, en, e, q⟩ => by
  cases e
  exact q _ H μ (.refl ok) .nil
theorem sk_cons {nm : Option Str} {kpos : Pos} {ma : CE} (ha : SE X e ma) (hr : SK X kws mk) : SK X (⟨nm, e, kpos⟩ :: kws) (consL ma mk) :=
  PK.imp (pk_cons ha hr) fun _ _ _ h => rd_cons h
theorem rd_kw {K : PySem.W.Frag} {σ : L2.St} {H : Hp} {Q : VK} {perm : List Nat} (h : rdE K (kwE c perm ml mk) σ H Q) : rdL K ml σ H fun vs H1 => rdL K mk σ H1 fun zs H2 => FN K c.run (atV perm (vs ++ zs)) H2 Q := by
  obtain ⟨μ, S, ρ, w, S', ok, en, e, q⟩ := h
  unfold kwE at e
  cases h1 : ml ρ S with
  | none => rw [h1] at e; cases e
  | some p =>
    obtain ⟨ws, S1⟩ := p
    rw [h1, Option.bind_some] at e
    cases h2 : mk ρ S1 with
    | none => rw [h2] at e; cases e
    | some p2 =>
      obtain ⟨zs, S2⟩ := p2
      rw [h2, Option.bind_some] at e
      refine ⟨μ, S, ρ, ws, S1, ok, en, h1, fun vs H1 μ1 st1 r1 => ⟨μ1, S1, ρ, zs, S2, st1.sto, en.step ok st1, h2, fun us H2 μ2 st2 r2 => ?_⟩⟩
      have r12 := (r1.mono (st2.keeps st1.sto) st2.pre).append r2
      exact ⟨μ2, S2, _, w, S', st2.sto, wrep_at r12 perm, e, fun v H' μ' st3 r3 => q v H' μ' ((st1.trans ok st2).trans ok st3) r3⟩
theorem rdL_len {K : PySem.W.Frag} {σ : L2.St} {H : Hp} {Q : List V → Hp → Prop} (n : Nat) (hn : ∀ ρ S r, ml ρ S = some r → r.1.length = n) (h : rdL K ml σ H Q) : rdL K ml σ H fun vs H1 => vs.length = n ∧ Q vs H1 := by
  obtain ⟨μ, S, ρ, ws, S', ok, en, e, q⟩ := h
  exact ⟨μ, S, ρ, ws, S', ok, en, e, fun vs H1 μ1 st r => ⟨by rw [← r.length]; exact hn _ _ _ e, q vs H1 μ1 st r⟩⟩
theorem se_callK {perm : List Nat} {ks : List Str} (C : CalleeOk X x c) (hg : Gl X x) (ha : SL X (e :: es) ml) (hkw : SK X kws mk) (n1 : ∀ ρ S r, ml ρ S = some r → r.1.length = (e :: es).length) (n2 : ∀ ρ S r, mk ρ S = some r → r.1.length = ks.length)
    (ho : ((e :: es).length, ks, perm) ∈ c.arr) (hall : (backToKw pos (keywordEach kws X.env)).all (·.1.isSome) = true) (hks : (backToKw pos (keywordEach kws X.env)).filterMap (·.1) = ks)
    (hdb : (x == ("__debug__" : Str)) = false) (he : starEach (e :: es) X.env = (false, eval e X.env) :: starEach es X.env)
    (hpl : ((backTo pos (starEach (e :: es) X.env)).any (·.1) || (backToKw pos (keywordEach kws X.env)).any (·.1.isNone)) = false) :
    SE X (.Call (.Name x p) (e :: es) kws pos) (kwE c perm ml mk) := by
  obtain ⟨f, fd, k, hm, hk, hr, F, _, hb, hpl2⟩ := C.ex
  refine ⟨fun pins s σ H Q I h => wpAny_Call_Name_kw (ld_glob I hg hm ?_ hdb)⟩
  refine PySem.W.callWith_KW (h₀ := X.base) I.ok.mod.kin hk hall (thn (ha.run pos pins s σ H _ I (rdL_len _ n1 (rd_kw h))) fun us s1 ⟨vs, H1, I1, r, l1, q⟩ => ?_) hpl he
  refine thn (hkw.run pos pins s1 σ H1 _ I1 (rdL_len _ n2 q)) fun ws s2 ⟨zs, H2, I2, rz, l2, q2⟩ => ⟨I2.kIn, ?_⟩
  rw [hks]
  have rr := vals_at (r.append rz) perm
  have hl : (atV perm (vs ++ zs)).length = c.ps.length := by unfold atV; rw [List.length_map]; exact hpl2 _ ho
  refine wpAny_call (codeAny_mono (runs_to F hr C.guards I2 (hb _ ho s2 us ws (by rw [← r.length]; exact l1) (by rw [← rz.length]; exact l2)) rr hl q2) fun r s' z => ?_)
  cases r with
  | error _ => exact z.elim
  | ok fl => cases fl <;> exact z
theorem se_callK0 {perm : List Nat} {ks : List Str} (C : CalleeOk X x c) (hg : Gl X x) (hkw : SK X kws mk) (n2 : ∀ ρ S r, mk ρ S = some r → r.1.length = ks.length)
    (ho : (0, ks, perm) ∈ c.arr) (hall : (backToKw pos (keywordEach kws X.env)).all (·.1.isSome) = true) (hks : (backToKw pos (keywordEach kws X.env)).filterMap (·.1) = ks)
    (hdb : (x == ("__debug__" : Str)) = false)
    (hpl : ((backTo pos (starEach [] X.env)).any (·.1) || (backToKw pos (keywordEach kws X.env)).any (·.1.isNone)) = false) :
    SE X (.Call (.Name x p) [] kws pos) (kwE c perm nilL mk) := by
  obtain ⟨f, fd, k, hm, hk, hr, F, _, hb, hpl2⟩ := C.ex
  refine ⟨fun pins s σ H Q I h => wpAny_Call_Name_kw (ld_glob I hg hm ?_ hdb)⟩
  have h1 : rdL X.K mk σ H fun zs H2 => FN X.K c.run (atV perm ([] ++ zs)) H2 Q := by
    obtain ⟨μ, S, ρ, ws, S', ok, en, e, q⟩ := rd_kw h
    cases e
    exact q [] H μ (.refl ok) .nil
  refine PySem.W.callWith_KW0 (h₀ := X.base) I.ok.mod.kin hk hall (thn (hkw.run pos pins s σ H _ I (rdL_len _ n2 h1)) fun ws s2 ⟨zs, H2, I2, rz, l2, q2⟩ => ⟨I2.kIn, ?_⟩) hpl
  rw [hks]
  have rr := vals_at rz perm
  have hl : (atV perm zs).length = c.ps.length := by unfold atV; rw [List.length_map]; exact hpl2 _ ho
  refine wpAny_call (codeAny_mono (runs_to F hr C.guards I2 (hb _ ho s2 [] ws rfl (by rw [← rz.length]; exact l2)) rr hl q2) fun r s' z => ?_)
  cases r with
  | error _ => exact z.elim
  | ok fl => cases fl <;> exact z
end

/-! ### a def by its body -/
def startR (n : Nat) (ws : List W) : Rho := ws.map some ++ List.replicate (n - ws.length) none
/-- at a def's end the cells that it made are let go; one that is handed back is the caller's -/
def leave (L : Nat) : W → Sto → Option (W × Sto)
  | .d x, S => some (.d x, S.take L)
  | .m n, S => if n < L then some (.m n, S.take L) else match S[n]? with
    | some (some xs) => some (.m L, S.take L ++ [some xs])
    | _ => none
def runD (n : Nat) (m : CS) : List W → Sto → Option (W × Sto) := fun ws S => (m (startR n ws) S).bind fun p => match p.1 with
  | .rt w => leave S.length w p.2.2
  | .nx => leave S.length (.d .none) p.2.2
  | _ => none
section
variable {K : PySem.W.Frag} {H H' : Hp} {μ μ' : List Addr} {S S' : Sto}
theorem env_start {ws : List W} {vs : List V} (N : List Str) (r : WRepL K H μ ws vs) : EnvOk K H μ (startR N.length ws) (L2.start N vs) := by
  have hl := r.length
  refine ⟨by unfold startR L2.start; simp [hl], fun i w h => ?_⟩
  unfold startR at h
  unfold L2.start
  by_cases hi : i < ws.length
  · rw [List.getElem?_append_left (by simpa using hi), List.getElem?_map] at h
    rw [List.getElem?_append_left (by simpa [← hl] using hi), List.getElem?_map]
    cases e : ws[i]? with
    | none => rw [e] at h; cases h
    | some z =>
      rw [e] at h; cases h
      have hv : i < vs.length := by rw [← hl]; exact hi
      have := wrep_get i r
      rw [List.getD_eq_getElem?_getD, List.getD_eq_getElem?_getD, e, List.getElem?_eq_getElem hv] at this
      exact ⟨vs[i], by rw [List.getElem?_eq_getElem hv]; rfl, this⟩
  · rw [List.getElem?_append_right (by simpa using hi), List.getElem?_replicate] at h
    split at h <;> cases h
theorem cut_step (ok : StoOk K H μ S) (s : Stp K μ S H μ' S' H') : Stp K μ S H μ (S'.take S.length) H' := by
  have hm : μ'.take S.length = μ := by
    obtain ⟨r, rfl⟩ := s.pre
    rw [← ok.len]; simp
  have sto := s.sto.cut S.length
  rw [hm] at sto
  refine ⟨List.prefix_rfl, sto, s.ext, fun _ h => .inl h, fun n e => ?_⟩
  rw [List.getElem?_take_of_lt (List.getElem?_eq_some_iff.mp e).1]
  exact s.dead n e
theorem leave_ok (ok : StoOk K H μ S) (s : Stp K μ S H μ' S' H') {w w' : W} {S2 : Sto} {v : V} (e : leave S.length w S' = some (w', S2)) (r : WRep K H' μ' w v) : ∃ μ2, Stp K μ S H μ2 S2 H' ∧ WRep K H' μ2 w' v := by
  have hm : μ'.take S.length = μ := by
    obtain ⟨r, rfl⟩ := s.pre
    rw [← ok.len]; simp
  have st := cut_step ok s
  cases w with
  | d x =>
    have e' : some (W.d x, S'.take S.length) = some (w', S2) := e
    cases e'
    cases r with | d r => exact ⟨μ, st, .d r⟩
  | m n =>
    have e' : (if n < S.length then some (W.m n, S'.take S.length) else match S'[n]? with
      | some (some xs) => some (.m S.length, S'.take S.length ++ [some xs])
      | _ => none) = some (w', S2) := e
    cases r with | @m _ c hc =>
    split at e'
    · rename_i hn
      cases e'
      refine ⟨μ, st, .m ?_⟩
      rw [← hm, List.getElem?_take_of_lt hn]; exact hc
    · rename_i hn
      cases hx : S'[n]? with
      | none => rw [hx] at e'; cases e'
      | some z =>
        cases z with
        | none => rw [hx] at e'; cases e'
        | some xs =>
          rw [hx] at e'
          cases e'
          obtain ⟨a, vs, h1, h2, h3⟩ := s.sto.cell n xs hx
          rw [hc] at h1; cases h1
          have nc : c ∉ μ := fun m => by
            obtain ⟨i, hi⟩ := List.getElem?_of_mem m
            have hi' := mt_up s.pre hi
            have := nd_inj s.sto.nd hi' hc
            subst this
            have := (List.getElem?_eq_some_iff.mp hi).1
            rw [ok.len] at this; omega
          have hH : H c = none := (s.fresh c (List.mem_of_getElem? hc)).resolve_left nc
          have hlt : (S'.take S.length).length = S.length := by
            rw [List.length_take]; have := s.len ok; omega
          refine ⟨μ ++ [c], ⟨⟨[c], rfl⟩, ⟨by simp [ok.len]; exact (Nat.min_eq_left (s.len ok)).symm, ?_, fun b m => ?_, fun k ys e => ?_⟩, s.ext, fun b m => ?_, fun k e => ?_⟩, .m ?_⟩
          · rw [List.nodup_append]
            exact ⟨ok.nd, by simp, fun a ha b hb e => by simp at hb; subst hb; subst e; exact nc ha⟩
          · rcases List.mem_append.mp m with m | m
            · exact st.sto.there b m
            · simp at m; subst m; exact ⟨_, h2⟩
          · by_cases hk : k < (S'.take S.length).length
            · rw [List.getElem?_append_left hk] at e
              obtain ⟨a, ws, g1, g2, g3⟩ := st.sto.cell k ys e
              exact ⟨a, ws, by rw [List.getElem?_append_left (List.getElem?_eq_some_iff.mp g1).1]; exact g1, g2, g3⟩
            · rw [List.getElem?_append_right (by omega)] at e
              have e0 : k - (S'.take S.length).length = 0 := by
                have := (List.getElem?_eq_some_iff.mp e).1
                simp only [List.length_singleton] at this
                exact Nat.lt_one_iff.mp this
              rw [e0] at e
              simp at e; subst e
              have ek : k = μ.length := by rw [ok.len, ← hlt]; omega
              exact ⟨c, vs, by rw [ek, List.getElem?_append_right (Nat.le_refl _), Nat.sub_self]; rfl, h2, h3⟩
          · rcases List.mem_append.mp m with m | m
            · exact .inl m
            · simp at m; subst m; exact .inr hH
          · rw [List.getElem?_append_left (by rw [hlt]; exact (List.getElem?_eq_some_iff.mp e).1), List.getElem?_take_of_lt (List.getElem?_eq_some_iff.mp e).1]
            exact s.dead k e
          · rw [← ok.len, List.getElem?_append_right (Nat.le_refl _), Nat.sub_self]; rfl
end
section
variable {P : Program} {w : World} {K : PySem.W.Frag} {mg : Str → Option Value} {base : Heap}
theorem fnG_of {x qual : Str} {st : Stmt} {f : Addr} {fd : FuncData} {N ps : List Str} {k : Nat} {m : CS} (F : Fun K x qual st f fd) (Sc : FnScope N ps (defScope st))
    (hb : ∀ (cdv : Value) (A : Around) (outer : List Env) (s : Shared) (H : Hp), Room k (A.deeper (envOfC qual (defScope st) s.heap.objs.size f cdv)) → A.guards = some [] →
      SSs (cxOf CX0 P w K mg base N qual (defScope st) f cdv A outer s H E0).nox (defBody st) m) : FnG P w K mg base (k + 1) f fd ps (runD N.length m) := by
  constructor
  intro A outer s H args us vs Q hr hg e0 hbi r hl ⟨μ, S, ws, w0, S', ok, rw0, e, q⟩
  obtain ⟨oc, od, kV, doc, pm, an, cdv, ct, osl, rfl, lk, hcd⟩ := F.ex
  have kp : ∀ b o, base.get? b = some o → s.heap.get? b = some o := fun b o z => (e0.bs b o z).1
  have hps : ps.length = us.length := by rw [← r.length]; exact hl.symm
  refine Att.call_fn (e0.mod.kin.keeps kp) (e0.mod.nolimit.keeps kp) lk hcd hr.depth hbi ?_ (fun s1 x => ?_) Sc.co Sc.gen Sc.kind
  · rw [List.all_eq_true]
    rintro ⟨n, v⟩ hy
    rcases Sc.par n (List.of_mem_zip hy).1 with z | z <;> simp [z]
  have I := (inv_start (CX := CX0) (N := N) (qual := qual) (f := f) (cd := cdv) (E := E0) Sc hr.hd e0 hl r x).wish (fun _ _ => False)
  unfold runD at e
  cases hx : m (startR N.length ws) S with
  | none => rw [hx] at e; cases e
  | some p =>
    obtain ⟨fl, ρ1, S1⟩ := p
    rw [hx, Option.bind_some] at e
    have en := env_start N rw0
    -- what is wanted behind the body
    have run := (hb cdv A outer s H (hr.deeper _) hg).run [] s1 (L2.start N vs) H { nx := fun _ H' => Q .non H', rt := Q } I ⟨μ, S, _, fl, ρ1, S1, ok, en, hx, fun σ1 H1 μ1 st1 en1 => ?_⟩
    · refine wpAny_mono run (fun fl' s' z => ?_) fun _ _ z => z.elim
      have fin : ∀ {σ' : L2.St} {H' : Hp} {v : V} {u : Value}, Inv (cxOf CX0 P w K mg base N qual (defScope st) f cdv A outer s H E0).nox [] σ' H' s' → RelV v u → Q v H' → L2.CE outer P w H s Q u s' :=
        fun {σ' H' v u} J rv q' => ⟨v, H', J.os, J.bare, J.base, J.hok, rv, q'⟩
      cases fl' with
      | next => obtain ⟨σ2, H2, J, q2⟩ := z; exact fin (v := .non) J rfl q2
      | brk => obtain ⟨σ2, H2, J, q2⟩ := z; exact q2.elim
      | cont => obtain ⟨σ2, H2, J, q2⟩ := z; exact q2.elim
      | ret u => obtain ⟨v, σ2, H2, J, rv, q2⟩ := z; exact fin J rv q2
    · cases fl with
      | nx =>
        obtain ⟨μ2, st2, r2⟩ := leave_ok ok st1 e (.d .non)
        exact q _ H1 μ2 st2 r2
      | bk => cases e
      | ct => cases e
      | rt wv =>
        intro v rv
        obtain ⟨μ2, st2, r2⟩ := leave_ok ok st1 e rv
        exact q _ H1 μ2 st2 r2
end
end PD

/-! PD, part 6: from the text to the functions, and that it is so. -/
namespace PD
open PySem PySem.Spec PyProof.Rows L2 RZ RT

structure Ctx where
  N : List Str
  fns : List (Str × Callee)
  cst : List (Str × PyData)
  bfn : List (Str × String)
  blts : List Str
  keep : Bool
  mu : List Pos
def vis (sc : Scope) (x : Str) : Bool := match sc.names.lookup x with
  | some .local => true
  | some .cell => true
  | some .free => true
  | _ => false
def gl (sc : Scope) (x : Str) : Bool := match sc.names.lookup x with
  | some .globalImplicit => true
  | _ => false
def lcl (sc : Scope) (x : Str) : Bool := match sc.names.lookup x with
  | some .local => true
  | _ => false
def cel (sc : Scope) (x : Str) : Bool := match sc.names.lookup x with
  | some .cell => true
  | _ => false
def okName (x : Str) : Bool := !(x == ("__debug__" : Str)) && !(x == ("__classdict__" : Str)) && !(x == ("__name__" : Str))
def slot : List Str → Str → Option Nat
  | [], _ => none
  | y :: r, x => if y == x then some 0 else (slot r x).bind fun i => some (i + 1)
def notStar : Expr → Bool
  | .Starred _ _ => false
  | _ => true
def notSet : Expr → Bool
  | .Set _ _ _ => false
  | _ => true
def notComp : Expr → Bool
  | .ListComp _ _ _ _ => false
  | .SetComp _ _ _ _ => false
  | .DictComp _ _ _ _ _ => false
  | _ => true

def binG (mu : Bool) (op : Operator) : Option (W → W → Sto → Option (W × Sto)) := if mu = true then (match op with
  | .Add => some addM
  | _ => none) else binF op
theorem so_binG {X : Cx} {mu : Bool} {op : Operator} {f : W → W → Sto → Option (W × Sto)} (h : binG mu op = some f) : OpR X (binaryOp op) (F2 X.K f) := by
  unfold binG at h
  split at h
  · cases op <;> cases h <;> exact so_addM
  · exact so_bin h
/-- a name in a display: what it holds is frozen -/
def frzO (f : Expr → Option CE) (e : Expr) : Option CE := match e with
  | .Name _ _ => (f e).bind fun m => some (frzE m)
  | _ => f e
def cArgs (f : Expr → Option CE) : List Expr → Option CL
  | [] => some nilL
  | e :: r => if notStar e = true then (f e).bind fun m => (cArgs f r).bind fun l => some (consL m l) else none
def cKws (f : Expr → Option CE) : List Keyword → Option CL
  | [] => some nilL
  | ⟨nm, e, _⟩ :: r => if nm.isSome = true then (f e).bind fun m => (cKws f r).bind fun l => some (consL m l) else none
def cAndE (f : Expr → Option CE) : List Expr → Option CE
  | [] => none
  | [a] => f a
  | a :: r => (f a).bind fun m => (cAndE f r).bind fun n => some (andE m n)
def cOrE (f : Expr → Option CE) : List Expr → Option CE
  | [] => none
  | [a] => f a
  | a :: r => (f a).bind fun m => (cOrE f r).bind fun n => some (orE m n)
def cAndB (f : Expr → Option CB) : List Expr → Option CB
  | [] => none
  | [a] => f a
  | a :: r => (f a).bind fun m => (cAndB f r).bind fun n => some (andB m n)
def cOrB (f : Expr → Option CB) : List Expr → Option CB
  | [] => none
  | [a] => f a
  | a :: r => (f a).bind fun m => (cOrB f r).bind fun n => some (orB m n)
def cOpt (f : Expr → Option CE) : Option Expr → Option CO
  | none => some noO
  | some e => (f e).bind fun m => some (someO m)
/-- a built-in: whether it is a type, its name, what it does -/
structure BSpec where
  ty : Bool
  id : String
  f : List W → Sto → Option (W × Sto)
def bOf (x : Str) : Option BSpec :=
  if x = "len" then some ⟨false, "len", pfN lenP⟩ else
  if x = "int" then some ⟨true, "int", pfN intP⟩ else
  if x = "tuple" then some ⟨true, "tuple", pfN tupleP⟩ else
  if x = "abs" then some ⟨false, "abs", pfN absP⟩ else
  if x = "repr" then some ⟨false, "repr", pfN reprP⟩ else
  if x = "max" then some ⟨false, "max", pfN maxP⟩ else
  if x = "min" then some ⟨false, "min", pfN minP⟩ else
  if x = "sum" then some ⟨false, "sum", pfN sumP⟩ else
  if x = "all" then some ⟨false, "all", pfN allP⟩ else
  if x = "list" then some ⟨true, "list", pfN listP⟩ else
  if x = "divmod" then some ⟨false, "divmod", pfN divmodP⟩ else none
def tyName (x : Str) : Option String :=
  if x = "tuple" then some "tuple" else
  if x = "int" then some "int" else
  if x = "bool" then some "bool" else
  if x = "list" then some "list" else
  if x = "str" then some "str" else none
def cCall (c : Ctx) (f : Expr → Option CE) (sc : Scope) (x : Str) (args : List Expr) (kws : List Keyword) : Option CE :=
  if (gl sc x && okName x) = true then
    match c.fns.lookup x with
    | some cal => (match kws with
      | [] => (match args with
        | [] => none
        | e :: r => (cArgs f (e :: r)).bind fun l => some (appE (callF cal) l))
      | k :: ks => (match cal.arr.find? (fun a => a.1 == args.length && a.2.1 == (k :: ks).filterMap (·.arg)) with
        | some a => (cArgs f args).bind fun l => (cKws f (k :: ks)).bind fun m => some (kwE cal a.2.2 l m)
        | none => none))
    | none => (match kws with
      | [] => (match c.bfn.lookup x with
        | some id => if id = "math.gcd" then (match args with
            | [] => none
            | e :: r => (cArgs f (e :: r)).bind fun l => some (appE (pfN gcdP) l)) else none
        | none => if c.blts.contains x = true then (
            if x = "isinstance" then (match args with
              | [a, .Name T _] => if (gl sc T && c.blts.contains T && okName T && notStar a) = true then (tyName T).bind fun t => (f a).bind fun m => some (isiE t m) else none
              | _ => none)
            else (match args with
              | [] => none
              | e :: r => (bOf x).bind fun b => (cArgs f (e :: r)).bind fun l => some (appE b.f l))) else none)
      | _ => none)
  else none
def cMeth (f : Expr → Option CE) (o : Expr) (name : Str) (apos cpos : Pos) (args : List Expr) : Option CE :=
  match o with
  | .Name _ _ => if (apos.endLine == cpos.line) = true then
      (if name = "append" then (match args with
        | [a] => if notStar a = true then (f o).bind fun m => (f a).bind fun n => some (appendE m n) else none
        | _ => none)
      else if name = "pop" then (match args with
        | [a] => if notStar a = true then (f o).bind fun m => (f a).bind fun n => some (popAtE m n) else none
        | [] => (f o).bind fun m => some (popE m)
        | _ => none)
      else if name = "insert" then (match args with
        | [a, b] => if (notStar a && notStar b) = true then (f o).bind fun m => (f a).bind fun n => (f b).bind fun k => some (insertE m n k) else none
        | _ => none) else none) else none
  | _ => none
def cIter (c : Ctx) (f : Expr → Option CE) (sc : Scope) (tg it : Expr) : Option CI :=
  match it with
  | .Call (.Name x _) args [] _ => if (gl sc x && (c.fns.lookup x).isNone && c.blts.contains x) = true then (
      if x = "range" then (match args with
        | [a] => if notStar a = true then (f a).bind fun m => some (range1I m) else none
        | [a, b] => if (notStar a && notStar b) = true then (f a).bind fun m => (f b).bind fun n => some (range2I m n) else none
        | _ => none)
      else if x = "zip" then (match tg, args with
        | .Tuple _ _ _, [a, b] => if (notStar a && notStar b) = true then (f a).bind fun m => (f b).bind fun n => some (zipI m n) else none
        | _, _ => none)
      else if x = "enumerate" then (match tg, args with
        | .Tuple _ _ _, [a] => if notStar a = true then (f a).bind fun m => some (enumI m) else none
        | _, _ => none)
      else (f it).bind fun m => some (seqI m))
      else (f it).bind fun m => some (seqI m)
  | .Name _ _ => (f it).bind fun m => some (seqI (frzE m))
  | _ => (f it).bind fun m => some (seqI m)
def cTgts (g : Expr → Option (CG × List Nat)) : List Expr → Option (CGs × List Nat)
  | [] => some (nilG, [])
  | e :: r => if notStar e = true then (g e).bind fun (p : CG × List Nat) => (cTgts g r).bind fun (q : CGs × List Nat) => some (consG p.1 q.1, p.2 ++ q.2) else none
def cTgt (c : Ctx) (f : Expr → Option CE) (df : Bool) (sc : Scope) : Nat → Expr → Option (CG × List Nat)
  | 0, _ => none
  | n + 1, .Name x _ => if (lcl sc x || (df && cel sc x)) = true then (slot c.N x).bind fun i => some (nameG i, [i]) else none
  | n + 1, .Tuple es _ _ => (cTgts (cTgt c f df sc n) es).bind fun (p : CGs × List Nat) => some (tupG es.length p.1, p.2)
  | n + 1, .Subscript a b _ => if isSlice b = false then (f a).bind fun m => (f b).bind fun k => some (subG m k, []) else none
  | _, _ => none
def ownOf (N : List Str) (scope : Scope) : List (Str × Nat) := scope.names.filterMap fun y => match y.2 with
  | .local => (slot N y.1).bind fun i => some (y.1, i)
  | .cell => (slot N y.1).bind fun i => some (y.1, i)
  | _ => none
def cIfs (t : Expr → Option CB) : List Expr → Option CB
  | [] => some yesB
  | [x] => t x
  | _ => none
def cComp (c : Ctx) (f : Scope → Expr → Option CE) (t : Scope → Expr → Option CB) (sc : Scope) (mu : Bool) (elt : Expr) (gens : List Comprehension) (scope : Scope) : Option CE :=
  match gens with
  | [⟨tg, iter, ifs, a⟩] =>
    if (decide (a = 0) && blkC c.N sc scope (ownOf c.N scope) && notSet iter) = true then
      (cIter c (f sc) sc tg iter).bind fun ci => (cTgt c (f (relS scope sc)) false (relS scope sc) 4 tg).bind fun (g : CG × List Nat) =>
        if (g.2.all fun i => ((ownOf c.N scope).map Prod.snd).contains i) = true then
          (cIfs (t (relS scope sc)) ifs).bind fun tt => (f (relS scope sc) elt).bind fun m => some (lcE ((ownOf c.N scope).map Prod.snd) mu ci g.1 tt m)
        else none
    else none
  | _ => none
def cCmp (f : Expr → Option CE) (a : Expr) (ops : List CmpOp) (bs : List Expr) : Option CE :=
  match ops, bs with
  | [op], [b] => (cmpF op).bind fun g => (f a).bind fun m => (f b).bind fun n => some (binE g m n)
  | [op, op'], [b, d] => (cmpF op).bind fun g => (cmpF op').bind fun g' => (f a).bind fun m => (f b).bind fun n => (f d).bind fun k => some (chE g g' m n k)
  | _, _ => none
def cE1 (c : Ctx) (f : Scope → Expr → Option CE) (t : Scope → Expr → Option CB) (sc : Scope) (e : Expr) : Option CE :=
  match e with
  | .Constant (.int i) _ _ => some (constE (.int i))
  | .Constant (.bool b) _ _ => some (constE (.bool b))
  | .Constant .none _ _ => some (constE .none)
  | .Constant (.str x) _ _ => some (constE (.str x))
  | .Name x _ => if okName x = true then (if vis sc x = true then (slot c.N x).bind fun i => some (varE i) else if gl sc x = true then (c.cst.lookup x).bind fun d => some (constE d) else none) else none
  | .BinOp a op b pos => (binG (c.mu.contains pos) op).bind fun g => (f sc a).bind fun m => (f sc b).bind fun n => some (binE g m n)
  | .UnaryOp .USub a _ => (f sc a).bind fun m => some (unE (pf1 negP) m)
  | .UnaryOp .Not a _ => (f sc a).bind fun m => some (notE m)
  | .BoolOp .And es _ => cAndE (f sc) es
  | .BoolOp .Or es _ => cOrE (f sc) es
  | .IfExp q a b _ => (t sc q).bind fun k => (f sc a).bind fun m => (f sc b).bind fun n => some (ifE k m n)
  | .Compare a ops bs _ => cCmp (f sc) a ops bs
  | .Call (.Name x _) args kws _ => cCall c (f sc) sc x args kws
  | .Call (.Attribute o name apos) args [] cpos => cMeth (f sc) o name apos cpos args
  | .Subscript a (.Slice lo hi none _) _ => (f sc a).bind fun m => (cOpt (f sc) lo).bind fun l => (cOpt (f sc) hi).bind fun h => some (sliceE m l h)
  | .Subscript a b _ => if isSlice b = false then (f sc a).bind fun m => (f sc b).bind fun n => some (binE (pf2 ixP) m n) else none
  | .List es pos => if c.mu.contains pos = true then (cArgs (f sc) es).bind fun l => some (appE lstM l) else (cArgs (frzO (f sc)) es).bind fun l => some (appE lstF l)
  | .Tuple es _ _ => (cArgs (frzO (f sc)) es).bind fun l => some (appE tupF l)
  | .ListComp elt gens scope pos => cComp c f t sc (c.mu.contains pos) elt gens scope
  | _ => none
def plainT : Expr → Bool
  | .UnaryOp _ _ _ => false
  | .BoolOp _ _ _ => false
  | .Compare _ _ _ _ => false
  | .IfExp _ _ _ _ => false
  | _ => true
def cT1 (f : Expr → Option CE) (t : Expr → Option CB) (e : Expr) : Option CB :=
  match e with
  | .UnaryOp .Not a _ => (t a).bind fun m => some (notB m)
  | .BoolOp .And es _ => cAndB t es
  | .BoolOp .Or es _ => cOrB t es
  | .Compare a ops bs _ => (cCmp f a ops bs).bind fun m => some (valB m)
  | e => if plainT e = true then (f e).bind fun m => some (valB m) else none
def cet (c : Ctx) : Nat → (Scope → Expr → Option CE) × (Scope → Expr → Option CB)
  | 0 => (fun _ _ => none, fun _ _ => none)
  | n + 1 => (cE1 c (cet c n).1 (cet c n).2, fun sc => cT1 ((cet c n).1 sc) ((cet c n).2 sc))

/-! ### that it is so -/
structure Agree (c : Ctx) (X : Cx) (sc : Scope) : Prop where
  N : X.N = c.N
  nd : X.N.Nodup
  sc : X.env.scope = sc
  calm : X.calm = true
  guards : X.A.guards = some []
  units : X.A.units + 70 < cLine
  fns : ∀ x cal, c.fns.lookup x = some cal → CalleeOk X x cal
  cst : ∀ x d, c.cst.lookup x = some d → ∃ u v, X.mg x = some u ∧ RelV v u ∧ ∀ H, Rep X.K H d v
  bfn : ∀ x id, c.bfn.lookup x = some id → X.mg x = some (.builtin id)
  blts : ∀ x ∈ c.blts, X.mg x = none
theorem slot_get : ∀ {N : List Str} {x : Str} {i : Nat}, slot N x = some i → N[i]? = some x
  | [], _, _, h => by cases h
  | y :: r, x, i, h => by
    unfold slot at h
    split at h
    · rename_i e
      cases h
      rw [eq_of_beq e]; rfl
    · cases e : slot r x with
      | none => rw [e] at h; cases h
      | some j =>
        rw [e, Option.bind_some] at h
        cases h
        simpa using slot_get e
theorem vis_ok {sc : Scope} {x : Str} (h : vis sc x = true) : Vis sc x := by
  unfold vis at h
  split at h
  · exact .inl (by assumption)
  · exact .inr (.inl (by assumption))
  · exact .inr (.inr (by assumption))
  · cases h
theorem lcl_ok {sc : Scope} {x : Str} (h : lcl sc x = true) : sc.names.lookup x = some .local := by
  unfold lcl at h
  split at h
  · assumption
  · cases h
theorem cel_ok {sc : Scope} {x : Str} (h : cel sc x = true) : sc.names.lookup x = some .cell := by
  unfold cel at h
  split at h
  · assumption
  · cases h
theorem gl_ok {c : Ctx} {X : Cx} {sc : Scope} (A : Agree c X sc) {x : Str} (h : gl sc x = true) : Gl X x := by
  unfold gl at h
  split at h
  · show X.env.scope.names.lookup x = _
    rw [A.sc]; assumption
  · cases h
theorem okName_ok {x : Str} (h : okName x = true) : (x == ("__debug__" : Str)) = false ∧ (x == ("__classdict__" : Str)) = false ∧ x ≠ "__name__" := by
  unfold okName at h
  simp only [Bool.and_eq_true, Bool.not_eq_true'] at h
  exact ⟨h.1.1, h.1.2, fun e => by rw [e] at h; simp at h⟩
theorem star_cons {e : Expr} (h : notStar e = true) (es : List Expr) (env : Env) : starEach (e :: es) env = (false, eval e env) :: starEach es env := by
  cases e <;> first | rfl | cases h
theorem star_one {e : Expr} (h : notStar e = true) (env : Env) : starEach [e] env = [(false, eval e env)] := star_cons h [] env
theorem cArgs_star {f : Expr → Option CE} : ∀ {es : List Expr} {l : CL}, cArgs f es = some l → ∀ (env : Env) (pos : Pos), (backTo pos (starEach es env)).any (·.1) = false
  | [], _, _, _, _ => rfl
  | e :: r, l, h, env, pos => by
    unfold cArgs at h
    split at h
    · rename_i hs
      cases h1 : f e with
      | none => rw [h1] at h; cases h
      | some m =>
        rw [h1, Option.bind_some] at h
        cases h2 : cArgs f r with
        | none => rw [h2] at h; cases h
        | some l2 =>
          rw [star_cons hs]
          show (false || (backTo pos (starEach r env)).any (·.1)) = false
          rw [cArgs_star h2, Bool.false_or]
    · cases h
theorem cArgs_head {f : Expr → Option CE} {e : Expr} {r : List Expr} {l : CL} (h : cArgs f (e :: r) = some l) : notStar e = true := by
  unfold cArgs at h
  split at h
  · assumption
  · cases h
theorem cArgs_tail {f : Expr → Option CE} {e : Expr} {r : List Expr} {l : CL} (h : cArgs f (e :: r) = some l) : ∃ l2, cArgs f r = some l2 := by
  unfold cArgs at h
  split at h
  · cases h1 : f e with
    | none => rw [h1] at h; cases h
    | some m =>
      rw [h1, Option.bind_some] at h
      cases h2 : cArgs f r with
      | none => rw [h2] at h; cases h
      | some l2 => exact ⟨l2, rfl⟩
  · cases h
theorem consL_len {m : CE} {l : CL} {n : Nat} (hl : ∀ ρ S r, l ρ S = some r → r.1.length = n) : ∀ ρ S r, consL m l ρ S = some r → r.1.length = n + 1 := by
  intro ρ S r h
  unfold consL at h
  cases h1 : m ρ S with
  | none => rw [h1] at h; cases h
  | some p =>
    rw [h1, Option.bind_some] at h
    cases h2 : l ρ p.2 with
    | none => rw [h2] at h; cases h
    | some q =>
      rw [h2, Option.bind_some] at h
      cases h
      simp [hl _ _ _ h2]
theorem cArgs_len {f : Expr → Option CE} : ∀ {es : List Expr} {l : CL}, cArgs f es = some l → ∀ ρ S r, l ρ S = some r → r.1.length = es.length
  | [], l, h, ρ, S, r, e => by cases h; cases e; rfl
  | e :: r, l, h, ρ, S, q, z => by
    unfold cArgs at h
    split at h
    · cases h1 : f e with
      | none => rw [h1] at h; cases h
      | some m =>
        rw [h1, Option.bind_some] at h
        cases h2 : cArgs f r with
        | none => rw [h2] at h; cases h
        | some l2 =>
          rw [h2, Option.bind_some] at h
          cases h
          exact consL_len (cArgs_len h2) ρ S q z
    · cases h
theorem cKws_len {f : Expr → Option CE} : ∀ {es : List Keyword} {l : CL}, cKws f es = some l → ∀ ρ S r, l ρ S = some r → r.1.length = (es.filterMap (·.arg)).length
  | [], l, h, ρ, S, r, e => by cases h; cases e; rfl
  | ⟨nm, e, _⟩ :: r, l, h, ρ, S, q, z => by
    unfold cKws at h
    split at h
    · rename_i hn
      cases h1 : f e with
      | none => rw [h1] at h; cases h
      | some m =>
        rw [h1, Option.bind_some] at h
        cases h2 : cKws f r with
        | none => rw [h2] at h; cases h
        | some l2 =>
          rw [h2, Option.bind_some] at h
          cases h
          have := consL_len (cKws_len h2) ρ S q z
          obtain ⟨k, rfl⟩ := Option.isSome_iff_exists.mp hn
          simpa using this
    · cases h
theorem kws_all {f : Expr → Option CE} : ∀ {es : List Keyword} {l : CL}, cKws f es = some l → ∀ (env : Env) (pos : Pos), (backToKw pos (keywordEach es env)).all (·.1.isSome) = true ∧ (backToKw pos (keywordEach es env)).filterMap (·.1) = es.filterMap (·.arg) ∧ (backToKw pos (keywordEach es env)).any (·.1.isNone) = false
  | [], _, _, _, _ => ⟨rfl, rfl, rfl⟩
  | ⟨nm, e, p⟩ :: r, l, h, env, pos => by
    unfold cKws at h
    split at h
    · rename_i hn
      cases h1 : f e with
      | none => rw [h1] at h; cases h
      | some m =>
        rw [h1, Option.bind_some] at h
        cases h2 : cKws f r with
        | none => rw [h2] at h; cases h
        | some l2 =>
          obtain ⟨k, rfl⟩ := Option.isSome_iff_exists.mp hn
          obtain ⟨a, b, d⟩ := kws_all h2 env pos
          refine ⟨?_, ?_, ?_⟩
          · show (true && (backToKw pos (keywordEach r env)).all (·.1.isSome)) = true
            rw [a]; rfl
          · show k :: (backToKw pos (keywordEach r env)).filterMap (·.1) = k :: r.filterMap (·.arg)
            rw [b]
          · show (false || (backToKw pos (keywordEach r env)).any (·.1.isNone)) = false
            rw [d]; rfl
    · cases h
section
variable {X : Cx} {f : Expr → Option CE} {t : Expr → Option CB}
theorem frzO_ok {f : Expr → Option CE} (hf : ∀ e m, f e = some m → SE X e m) : ∀ e m, frzO f e = some m → SE X e m := by
  intro e m h
  unfold frzO at h
  split at h
  · cases h1 : f _ with
    | none => rw [h1] at h; cases h
    | some k => rw [h1, Option.bind_some] at h; cases h; exact se_frz (hf _ _ h1)
  · exact hf _ _ h
theorem cArgs_ok (hf : ∀ e m, f e = some m → SE X e m) : ∀ {es : List Expr} {l : CL}, cArgs f es = some l → SL X es l
  | [], _, h => by cases h; exact sl_nil
  | e :: r, l, h => by
    unfold cArgs at h
    split at h
    · rename_i hs
      cases h1 : f e with
      | none => rw [h1] at h; cases h
      | some m =>
        rw [h1, Option.bind_some] at h
        cases h2 : cArgs f r with
        | none => rw [h2] at h; cases h
        | some l2 =>
          rw [h2, Option.bind_some] at h
          cases h
          exact sl_cons (hf _ _ h1) (cArgs_ok hf h2) (star_cons hs _ _)
    · cases h
theorem cKws_ok (hf : ∀ e m, f e = some m → SE X e m) : ∀ {es : List Keyword} {l : CL}, cKws f es = some l → SK X es l
  | [], _, h => by cases h; exact sk_nil
  | ⟨nm, e, p⟩ :: r, l, h => by
    unfold cKws at h
    split at h
    · cases h1 : f e with
      | none => rw [h1] at h; cases h
      | some m =>
        rw [h1, Option.bind_some] at h
        cases h2 : cKws f r with
        | none => rw [h2] at h; cases h
        | some l2 =>
          rw [h2, Option.bind_some] at h
          cases h
          exact sk_cons (hf _ _ h1) (cKws_ok hf h2)
    · cases h
theorem cAndE_ok (hf : ∀ e m, f e = some m → SE X e m) {pos : Pos} : ∀ {es : List Expr} {m : CE}, cAndE f es = some m → SE X (.BoolOp .And es pos) m
  | [], _, h => by cases h
  | [a], _, h => pe_one (hf _ _ h)
  | a :: b :: r, m, h => by
    unfold cAndE at h
    cases h1 : f a with
    | none => rw [h1] at h; cases h
    | some k =>
      rw [h1, Option.bind_some] at h
      cases h2 : cAndE f (b :: r) with
      | none => rw [h2] at h; cases h
      | some n =>
        rw [h2, Option.bind_some] at h
        cases h
        exact PE.imp (pe_and (hf _ _ h1) (cAndE_ok hf h2)) fun _ _ _ q => rd_andE q
theorem cOrE_ok (hf : ∀ e m, f e = some m → SE X e m) {pos : Pos} : ∀ {es : List Expr} {m : CE}, cOrE f es = some m → SE X (.BoolOp .Or es pos) m
  | [], _, h => by cases h
  | [a], _, h => pe_one (hf _ _ h)
  | a :: b :: r, m, h => by
    unfold cOrE at h
    cases h1 : f a with
    | none => rw [h1] at h; cases h
    | some k =>
      rw [h1, Option.bind_some] at h
      cases h2 : cOrE f (b :: r) with
      | none => rw [h2] at h; cases h
      | some n =>
        rw [h2, Option.bind_some] at h
        cases h
        exact PE.imp (pe_or (hf _ _ h1) (cOrE_ok hf h2)) fun _ _ _ q => rd_orE q
theorem cAndB_ok (ht : ∀ e m, t e = some m → SB X e m) {pos : Pos} : ∀ {es : List Expr} {m : CB}, cAndB t es = some m → PW X (.BoolOp .And es pos) (rdB X.K m)
  | [], _, h => by cases h
  | [a], _, h => pw_and1 (ht _ _ h)
  | a :: b :: r, m, h => by
    unfold cAndB at h
    cases h1 : t a with
    | none => rw [h1] at h; cases h
    | some k =>
      rw [h1, Option.bind_some] at h
      cases h2 : cAndB t (b :: r) with
      | none => rw [h2] at h; cases h
      | some n =>
        rw [h2, Option.bind_some] at h
        cases h
        exact PW.imp (pw_and (ht _ _ h1) (cAndB_ok ht h2)) fun _ _ _ q => rd_andB q
theorem cOrB_ok (ht : ∀ e m, t e = some m → SB X e m) {pos : Pos} : ∀ {es : List Expr} {m : CB}, cOrB t es = some m → PW X (.BoolOp .Or es pos) (rdB X.K m)
  | [], _, h => by cases h
  | [a], _, h => pw_or1 (ht _ _ h)
  | a :: b :: r, m, h => by
    unfold cOrB at h
    cases h1 : t a with
    | none => rw [h1] at h; cases h
    | some k =>
      rw [h1, Option.bind_some] at h
      cases h2 : cOrB t (b :: r) with
      | none => rw [h2] at h; cases h
      | some n =>
        rw [h2, Option.bind_some] at h
        cases h
        exact PW.imp (pw_or (ht _ _ h1) (cOrB_ok ht h2)) fun _ _ _ q => rd_orB q
theorem cOpt_ok (hf : ∀ e m, f e = some m → SE X e m) {o : Option Expr} {m : CO} (h : cOpt f o = some m) : SO X o m := by
  unfold cOpt at h
  split at h
  · cases h; exact so_none
  · rename_i e
    cases h1 : f e with
    | none => rw [h1] at h; cases h
    | some k => rw [h1, Option.bind_some] at h; cases h; exact so_some (hf _ _ h1)
theorem cCmp_cases {a : Expr} {ops : List CmpOp} {bs : List Expr} {m : CE} (hu : X.A.units + 64 < cLine) (hf : ∀ e m, f e = some m → SE X e m) (h : cCmp f a ops bs = some m) (pos : Pos) : SE X (.Compare a ops bs pos) m ∧ SB X (.Compare a ops bs pos) (valB m) := by
  unfold cCmp at h
  split at h
  · rename_i op b
    cases h0 : cmpF op with
    | none => rw [h0] at h; cases h
    | some g =>
      cases h1 : f a with
      | none => rw [h0, Option.bind_some, h1] at h; cases h
      | some k =>
        cases h2 : f b with
        | none => rw [h0, Option.bind_some, h1, Option.bind_some, h2] at h; cases h
        | some n =>
          rw [h0, Option.bind_some, h1, Option.bind_some, h2, Option.bind_some] at h
          cases h
          exact ⟨se_cmp (so_cmp hu h0) (hf _ _ h1) (hf _ _ h2) (cmp_mark h0 b), sb_cmp (so_cmp hu h0) (hf _ _ h1) (hf _ _ h2) (cmp_mark h0 b)⟩
  · rename_i op op' b d
    cases h0 : cmpF op with
    | none => rw [h0] at h; cases h
    | some g =>
      cases h0' : cmpF op' with
      | none => rw [h0, Option.bind_some, h0'] at h; cases h
      | some g' =>
        cases h1 : f a with
        | none => rw [h0, Option.bind_some, h0', Option.bind_some, h1] at h; cases h
        | some k =>
          cases h2 : f b with
          | none => rw [h0, Option.bind_some, h0', Option.bind_some, h1, Option.bind_some, h2] at h; cases h
          | some n =>
            cases h3 : f d with
            | none => rw [h0, Option.bind_some, h0', Option.bind_some, h1, Option.bind_some, h2, Option.bind_some, h3] at h; cases h
            | some j =>
              rw [h0, Option.bind_some, h0', Option.bind_some, h1, Option.bind_some, h2, Option.bind_some, h3, Option.bind_some] at h
              cases h
              exact ⟨se_chain (so_cmp hu h0) (so_cmp hu h0') (hf _ _ h1) (hf _ _ h2) (hf _ _ h3) (cmp_mark h0' d), sb_chain (so_cmp hu h0) (so_cmp hu h0') (hf _ _ h1) (hf _ _ h2) (hf _ _ h3) (cmp_mark h0' d)⟩
  · cases h
end
theorem mem_of_contains {α : Type} [BEq α] [LawfulBEq α] {l : List α} {x : α} (h : l.contains x = true) : x ∈ l := by simpa using h
theorem tyName_ok {T : Str} {t : String} (h : tyName T = some t) : bootBuiltins T = some (.type t) := by
  unfold tyName at h
  split at h
  · cases h; rename_i e; rw [e]; decide +kernel
  · split at h
    · cases h; rename_i e; rw [e]; decide +kernel
    · split at h
      · cases h; rename_i e; rw [e]; decide +kernel
      · split at h
        · cases h; rename_i e; rw [e]; decide +kernel
        · split at h
          · cases h; rename_i e; rw [e]; decide +kernel
          · cases h
section
variable {c : Ctx} {X : Cx} {sc : Scope} {f : Expr → Option CE}
theorem bOf_ok (A : Agree c X sc) {x : Str} {b : BSpec} (h : bOf x = some b) {e : Expr} {es : List Expr} {ml : CL} {p pos : Pos} (hg : Gl X x) (hm : X.mg x = none) (ha : SL X (e :: es) ml) (hn : x ≠ "__name__") (hdb : (x == ("__debug__" : Str)) = false)
    (he : starEach (e :: es) X.env = (false, eval e X.env) :: starEach es X.env) (hpl : (backTo pos (starEach es X.env)).any (·.1) = false) : SE X (.Call (.Name x p) (e :: es) [] pos) (appE b.f ml) := by
  have B : ∀ {id : String} {g : List W → Sto → Option (W × Sto)}, CallR X (.builtin id) (FN X.K g) → bootBuiltins x = some (.builtin id) → SE X (.Call (.Name x p) (e :: es) [] pos) (appE g ml) := fun hc hv =>
    PE.imp (pe_callB hc hg hm hv ha hn hdb he hpl) fun _ _ _ h => rd_app h
  have T : ∀ {id : String} {g : List W → Sto → Option (W × Sto)}, CallR X (.type id) (FN X.K g) → bootBuiltins x = some (.type id) → SE X (.Call (.Name x p) (e :: es) [] pos) (appE g ml) := fun hc hv =>
    PE.imp (pe_callTy hc hg hm hv ha hn hdb he hpl) fun _ _ _ h => rd_app h
  unfold bOf at h
  split at h
  · cases h; rename_i z; exact B sc_len (by rw [z]; decide +kernel)
  · split at h
    · cases h; rename_i z; exact T sc_int (by rw [z]; decide +kernel)
    · split at h
      · cases h; rename_i z; exact T sc_tuple (by rw [z]; decide +kernel)
      · split at h
        · cases h; rename_i z; exact B sc_abs (by rw [z]; decide +kernel)
        · split at h
          · cases h; rename_i z; exact B (sc_repr A.guards A.units) (by rw [z]; decide +kernel)
          · split at h
            · cases h; rename_i z; exact B (sc_max A.calm) (by rw [z]; decide +kernel)
            · split at h
              · cases h; rename_i z; exact B (sc_min A.calm) (by rw [z]; decide +kernel)
              · split at h
                · cases h; rename_i z; exact B (sc_sum A.calm) (by rw [z]; decide +kernel)
                · split at h
                  · cases h; rename_i z; exact B (sc_all A.calm) (by rw [z]; decide +kernel)
                  · split at h
                    · cases h; rename_i z; exact T sc_list (by rw [z]; decide +kernel)
                    · split at h
                      · cases h; rename_i z; exact B sc_divmod (by rw [z]; decide +kernel)
                      · cases h
theorem cCall_ok (A : Agree c X sc) (hf : ∀ e m, f e = some m → SE X e m) {x : Str} {args : List Expr} {kws : List Keyword} {m : CE} {p pos : Pos} (h : cCall c f sc x args kws = some m) : SE X (.Call (.Name x p) args kws pos) m := by
  unfold cCall at h
  split at h
  rotate_left
  · cases h
  rename_i hx
  simp only [Bool.and_eq_true] at hx
  have hg := gl_ok A hx.1
  obtain ⟨n1, n2, n3⟩ := okName_ok hx.2
  split at h
  · rename_i cal hc
    have C := A.fns _ _ hc
    split at h
    · split at h
      · cases h
      · rename_i e r
        cases h1 : cArgs f (e :: r) with
        | none => rw [h1] at h; cases h
        | some l =>
          rw [h1, Option.bind_some] at h
          cases h
          obtain ⟨l2, h2⟩ := cArgs_tail h1
          exact se_call C hg (cArgs_ok hf h1) n1 (star_cons (cArgs_head h1) _ _) (cArgs_star h2 _ _)
    · rename_i k ks
      split at h
      · rename_i a ha
        cases h1 : cArgs f args with
        | none => rw [h1] at h; cases h
        | some l =>
          rw [h1, Option.bind_some] at h
          cases h2 : cKws f (k :: ks) with
          | none => rw [h2] at h; cases h
          | some mk =>
            rw [h2, Option.bind_some] at h
            cases h
            have hin := List.mem_of_find?_eq_some ha
            have hp := List.find?_some ha
            simp only [Bool.and_eq_true, beq_iff_eq] at hp
            obtain ⟨a1, a2, a3⟩ := a
            simp only at hp hin ⊢
            obtain ⟨q1, q2, q3⟩ := kws_all h2 X.env pos
            cases args with
            | nil =>
              cases h1
              refine se_callK0 (ks := a2) C hg (cKws_ok hf h2) (fun ρ S r z => by rw [cKws_len h2 ρ S r z, ← hp.2]) (by rw [hp.1] at hin; exact hin) q1 (by rw [q2, hp.2]) n1 (by rw [q3]; rfl)
            | cons e r =>
              obtain ⟨l2, h3⟩ := cArgs_tail h1
              refine se_callK (ks := a2) C hg (cArgs_ok hf h1) (cKws_ok hf h2) (cArgs_len h1) (fun ρ S r z => by rw [cKws_len h2 ρ S r z, ← hp.2]) (by rw [hp.1] at hin; exact hin) q1 (by rw [q2, hp.2]) n1 (star_cons (cArgs_head h1) _ _) (by rw [q3, cArgs_star h1]; rfl)
      · cases h
  · split at h
    rotate_left
    · cases h
    split at h
    · rename_i id hb
      split at h
      rotate_left
      · cases h
      rename_i hid
      subst hid
      split at h
      · cases h
      · rename_i e r
        cases h1 : cArgs f (e :: r) with
        | none => rw [h1] at h; cases h
        | some l =>
          rw [h1, Option.bind_some] at h
          cases h
          obtain ⟨l2, h2⟩ := cArgs_tail h1
          exact PE.imp (pe_callBfun sc_gcd hg (A.bfn _ _ hb) (cArgs_ok hf h1) n1 (star_cons (cArgs_head h1) _ _) (cArgs_star h2 _ _)) fun _ _ _ h => rd_app h
    · split at h
      rotate_left
      · cases h
      rename_i hbl
      have hm := A.blts x (mem_of_contains hbl)
      split at h
      · rename_i hx2
        subst hx2
        split at h
        · rename_i a T pT
          split at h
          rotate_left
          · cases h
          rename_i hT
          simp only [Bool.and_eq_true] at hT
          obtain ⟨⟨⟨t1, t2⟩, t3⟩, t4⟩ := hT
          cases h1 : tyName T with
          | none => rw [h1] at h; cases h
          | some t =>
            rw [h1, Option.bind_some] at h
            cases h2 : f a with
            | none => rw [h2] at h; cases h
            | some ma =>
              rw [h2, Option.bind_some] at h
              cases h
              obtain ⟨o1, o2, o3⟩ := okName_ok t3
              exact se_isi (hf _ _ h2) hg hm (gl_ok A t1) (A.blts T (mem_of_contains t2)) (tyName_ok h1) o3 o1 (star_cons t4 _ _)
        · cases h
      · split at h
        · cases h
        · rename_i e r
          cases h0 : bOf x with
          | none => rw [h0] at h; cases h
          | some b =>
            rw [h0, Option.bind_some] at h
            cases h1 : cArgs f (e :: r) with
            | none => rw [h1] at h; cases h
            | some l =>
              rw [h1, Option.bind_some] at h
              cases h
              obtain ⟨l2, h2⟩ := cArgs_tail h1
              exact bOf_ok A h0 hg hm (cArgs_ok hf h1) n3 n1 (star_cons (cArgs_head h1) _ _) (cArgs_star h2 _ _)
theorem cMeth_ok (hf : ∀ e m, f e = some m → SE X e m) {o : Expr} {name : Str} {apos cpos : Pos} {args : List Expr} {m : CE} (h : cMeth f o name apos cpos args = some m) : SE X (.Call (.Attribute o name apos) args [] cpos) m := by
  unfold cMeth at h
  split at h
  rotate_left
  · cases h
  rename_i x px
  split at h
  rotate_left
  · cases h
  rename_i hl
  split at h
  · rename_i hn
    subst hn
    split at h
    · rename_i a
      split at h
      · rename_i hs
        cases h1 : f (.Name x px) with
        | none => rw [h1] at h; cases h
        | some mo =>
          rw [h1, Option.bind_some] at h
          cases h2 : f a with
          | none => rw [h2] at h; cases h
          | some ma =>
            rw [h2, Option.bind_some] at h
            cases h
            exact se_append (hf _ _ h1) (hf _ _ h2) rfl hl (star_one hs _)
      · cases h
    · cases h
  · split at h
    · rename_i hn
      subst hn
      split at h
      · rename_i a
        split at h
        · rename_i hs
          cases h1 : f (.Name x px) with
          | none => rw [h1] at h; cases h
          | some mo =>
            rw [h1, Option.bind_some] at h
            cases h2 : f a with
            | none => rw [h2] at h; cases h
            | some ma =>
              rw [h2, Option.bind_some] at h
              cases h
              exact se_popAt (hf _ _ h1) (hf _ _ h2) rfl hl (star_one hs _)
        · cases h
      · cases h1 : f (.Name x px) with
        | none => rw [h1] at h; cases h
        | some mo =>
          rw [h1, Option.bind_some] at h
          cases h
          exact se_pop (hf _ _ h1) rfl hl
      · cases h
    · split at h
      · rename_i hn
        subst hn
        split at h
        · rename_i a b
          split at h
          · rename_i hs
            simp only [Bool.and_eq_true] at hs
            cases h1 : f (.Name x px) with
            | none => rw [h1] at h; cases h
            | some mo =>
              rw [h1, Option.bind_some] at h
              cases h2 : f a with
              | none => rw [h2] at h; cases h
              | some ma =>
                rw [h2, Option.bind_some] at h
                cases h3 : f b with
                | none => rw [h3] at h; cases h
                | some mb =>
                  rw [h3, Option.bind_some] at h
                  cases h
                  exact se_insert (hf _ _ h1) (hf _ _ h2) (hf _ _ h3) rfl hl (by rw [star_cons hs.1, star_one hs.2]) (star_one hs.2 _)
          · cases h
        · cases h
      · cases h
theorem seq_of (hf : ∀ e m, f e = some m → SE X e m) {tg it : Expr} {ci : CI} (h : ((f it).bind fun m => some (seqI m)) = some ci) : SI X tg it ci := by
  cases h1 : f it with
  | none => rw [h1] at h; cases h
  | some m => rw [h1, Option.bind_some] at h; cases h; exact si_seq (hf _ _ h1)
theorem cIter_ok (A : Agree c X sc) (hf : ∀ e m, f e = some m → SE X e m) {tg it : Expr} {ci : CI} (h : cIter c f sc tg it = some ci) : SI X tg it ci := by
  unfold cIter at h
  split at h
  rotate_left
  · cases h1 : f _ with
    | none => rw [h1] at h; cases h
    | some m => rw [h1, Option.bind_some] at h; cases h; exact si_seq (se_frz (hf _ _ h1))
  · exact seq_of hf h
  rename_i x px args pos
  split at h
  rotate_left
  · exact seq_of hf h
  rename_i hx
  simp only [Bool.and_eq_true] at hx
  have hg := gl_ok A hx.1.1
  have hm := A.blts x (mem_of_contains hx.2)
  split at h
  · rename_i hn
    subst hn
    split at h
    · rename_i a
      split at h
      · rename_i hs
        cases h1 : f a with
        | none => rw [h1] at h; cases h
        | some m => rw [h1, Option.bind_some] at h; cases h; exact si_range1 (hf _ _ h1) hg hm (star_one hs _)
      · cases h
    · rename_i a b
      split at h
      · rename_i hs
        simp only [Bool.and_eq_true] at hs
        cases h1 : f a with
        | none => rw [h1] at h; cases h
        | some m =>
          rw [h1, Option.bind_some] at h
          cases h2 : f b with
          | none => rw [h2] at h; cases h
          | some n => rw [h2, Option.bind_some] at h; cases h; exact si_range2 (hf _ _ h1) (hf _ _ h2) hg hm (by rw [star_cons hs.1, star_one hs.2]) (star_one hs.2 _)
      · cases h
    · cases h
  · split at h
    · rename_i hn
      subst hn
      split at h
      · rename_i a b
        split at h
        · rename_i hs
          simp only [Bool.and_eq_true] at hs
          cases h1 : f a with
          | none => rw [h1] at h; cases h
          | some m =>
            rw [h1, Option.bind_some] at h
            cases h2 : f b with
            | none => rw [h2] at h; cases h
            | some n => rw [h2, Option.bind_some] at h; cases h; exact si_zip (hf _ _ h1) (hf _ _ h2) hg hm (star_cons hs.1 _ _) (star_one hs.2 _)
        · cases h
      · cases h
    · split at h
      · rename_i hn
        subst hn
        split at h
        · rename_i a
          split at h
          · rename_i hs
            cases h1 : f a with
            | none => rw [h1] at h; cases h
            | some m => rw [h1, Option.bind_some] at h; cases h; exact si_enum (hf _ _ h1) hg hm (star_one hs _)
          · cases h
        · cases h
      · exact seq_of hf h
theorem asg_each {g : Expr → Option (CG × List Nat)} : ∀ {es : List Expr} {p : CGs × List Nat}, cTgts g es = some p → ∀ env : Env, (assignEach es env).length = es.length ∧ (assignEach es env).findIdx? (·.1) = none
  | [], _, _, _ => ⟨rfl, rfl⟩
  | e :: r, p, h, env => by
    unfold cTgts at h
    split at h
    · rename_i hs
      cases h1 : g e with
      | none => rw [h1] at h; cases h
      | some q =>
        rw [h1, Option.bind_some] at h
        cases h2 : cTgts g r with
        | none => rw [h2] at h; cases h
        | some q2 =>
          obtain ⟨a, b⟩ := asg_each h2 env
          have e1 : assignEach (e :: r) env = (false, assign e env) :: assignEach r env := by cases e <;> first | rfl | cases hs
          rw [e1]
          refine ⟨by simp [a], ?_⟩
          rw [List.findIdx?_cons]
          simp [b]
    · cases h
theorem asg_one {e : Expr} (hs : notStar e = true) (es : List Expr) (env : Env) : (assignEach (e :: es) env).map (·.2) = assign e env :: (assignEach es env).map (·.2) := by
  cases e <;> first | rfl | cases hs
theorem cTgts_ok {g : Expr → Option (CG × List Nat)} (hgg : ∀ e p, g e = some p → SG X e p.1 p.2) : ∀ {es : List Expr} {p : CGs × List Nat}, cTgts g es = some p → SGs X es p.1 p.2
  | [], _, h => by cases h; exact sgs_nil
  | e :: r, p, h => by
    unfold cTgts at h
    split at h
    · rename_i hs
      cases h1 : g e with
      | none => rw [h1] at h; cases h
      | some q =>
        rw [h1, Option.bind_some] at h
        cases h2 : cTgts g r with
        | none => rw [h2] at h; cases h
        | some q2 =>
          rw [h2, Option.bind_some] at h
          cases h
          exact sgs_cons (hgg _ _ h1) (cTgts_ok hgg h2) (asg_one hs _ _)
    · cases h
theorem cTgt_ok (A : Agree c X sc) (hf : ∀ e m, f e = some m → SE X e m) {df : Bool} (hd : df = true → ∀ x, X.fn x = true) : ∀ (n : Nat) {e : Expr} {p : CG × List Nat}, cTgt c f df sc n e = some p → SG X e p.1 p.2
  | 0, _, _, h => by simp [cTgt] at h
  | n + 1, e, p, h => by
    unfold cTgt at h
    split at h
    · cases h
    · rename_i heq
      cases heq
      split at h
      · rename_i x px hx
        cases h1 : slot c.N x with
        | none => rw [h1] at h; cases h
        | some i =>
          rw [h1, Option.bind_some] at h
          cases h
          have hN : X.N[i]? = some x := by rw [A.N]; exact slot_get h1
          rcases Bool.or_eq_true_iff.mp hx with z | z
          · have e := lcl_ok z
            rw [← A.sc] at e
            exact sg_name A.nd hN (.inl e) (.inr e)
          · rw [Bool.and_eq_true] at z
            have e := cel_ok z.2
            rw [← A.sc] at e
            exact sg_name A.nd hN (.inr e) (.inl (hd z.1 x))
      · cases h
    · rename_i heq
      cases heq
      rename_i es k pos
      cases h1 : cTgts (cTgt c f df sc n) es with
      | none => rw [h1] at h; cases h
      | some q =>
        rw [h1, Option.bind_some] at h
        cases h
        obtain ⟨a, b⟩ := asg_each h1 X.env
        exact sg_tup A.calm (cTgts_ok (fun e p z => cTgt_ok A hf hd n z) h1) a b
    · rename_i heq
      cases heq
      rename_i a b pos
      split at h
      · rename_i hs
        cases h1 : f a with
        | none => rw [h1] at h; cases h
        | some m =>
          rw [h1, Option.bind_some] at h
          cases h2 : f b with
          | none => rw [h2] at h; cases h
          | some k =>
            rw [h2, Option.bind_some] at h
            cases h
            exact sg_sub (hf _ _ h1) (hf _ _ h2) hs
      · cases h
    · cases h
theorem set_fold {e : Expr} (h : notSet e = true) (env : Env) : ∀ x, foldedSetIterable e env x = pure x := by
  intro x
  cases e <;> first | rfl | cases h
end
theorem Agree.blk {c : Ctx} {X : Cx} {sc : Scope} (A : Agree c X sc) (scope : Scope) (s : Shared) (H : Hp) (C : Addr) (cl : List (Str × Addr)) (fp : List Addr) : Agree c (X.blk s H scope (compEnvC scope cl C X.env) fp) (relS scope sc) where
  N := A.N
  nd := A.nd
  sc := by rw [← A.sc]; rfl
  calm := A.calm
  guards := A.guards
  units := A.units
  fns := fun x cal h => let q := A.fns x cal h; ⟨q.ex, q.guards⟩
  cst := A.cst
  bfn := A.bfn
  blts := A.blts
theorem cComp_parts {c : Ctx} {f : Scope → Expr → Option CE} {t : Scope → Expr → Option CB} {sc : Scope} {mu : Bool} {elt : Expr} {gens : List Comprehension} {scope : Scope} {m : CE} (h : cComp c f t sc mu elt gens scope = some m) :
    ∃ tg iter ifs ci g tt me, gens = [⟨tg, iter, ifs, 0⟩] ∧ blkC c.N sc scope (ownOf c.N scope) = true ∧ notSet iter = true ∧ cIter c (f sc) sc tg iter = some ci ∧ cTgt c (f (relS scope sc)) false (relS scope sc) 4 tg = some g ∧
      (∀ i ∈ g.2, i ∈ (ownOf c.N scope).map (·.2)) ∧ ((ifs = [] ∧ tt = yesB) ∨ ∃ x, ifs = [x] ∧ t (relS scope sc) x = some tt) ∧ f (relS scope sc) elt = some me ∧ m = lcE ((ownOf c.N scope).map (·.2)) mu ci g.1 tt me := by
  unfold cComp at h
  split at h
  rotate_left
  · cases h
  rename_i tg iter ifs a
  split at h
  rotate_left
  · cases h
  rename_i hx
  simp only [Bool.and_eq_true, decide_eq_true_eq] at hx
  obtain ⟨⟨ha, hb⟩, hs⟩ := hx
  subst ha
  cases h1 : cIter c (f sc) sc tg iter with
  | none => rw [h1] at h; cases h
  | some ci =>
    rw [h1, Option.bind_some] at h
    cases h2 : cTgt c (f (relS scope sc)) false (relS scope sc) 4 tg with
    | none => rw [h2] at h; cases h
    | some g =>
      rw [h2, Option.bind_some] at h
      split at h
      rotate_left
      · cases h
      rename_i hv
      have hv' : ∀ i ∈ g.2, i ∈ (ownOf c.N scope).map (·.2) := fun i hi => mem_of_contains (List.all_eq_true.mp hv i hi)
      cases h4 : f (relS scope sc) elt with
      | none =>
        cases hq : cIfs (t (relS scope sc)) ifs with
        | none => rw [hq] at h; cases h
        | some tt => rw [hq, Option.bind_some, h4] at h; cases h
      | some me =>
        cases hq : cIfs (t (relS scope sc)) ifs with
        | none => rw [hq] at h; cases h
        | some tt =>
          rw [hq, Option.bind_some, h4, Option.bind_some] at h
          cases h
          refine ⟨tg, iter, ifs, ci, g, tt, me, rfl, hb, hs, h1, h2, hv', ?_, rfl, rfl⟩
          unfold cIfs at hq
          split at hq
          · cases hq; exact .inl ⟨rfl, rfl⟩
          · exact .inr ⟨_, rfl, hq⟩
          · cases hq
theorem plain_test {e : Expr} (env : Env) (h : plainT e = true) : ∀ whole, isTrue e env whole = (do let v ← whole; standAt e.pos; holding [v] (truthy v)) := by
  intro whole
  cases e <;> first | rfl | cases h
/-- what a compiler of parts is worth -/
structure Good (c : Ctx) (f : Scope → Expr → Option CE) (t : Scope → Expr → Option CB) : Prop where
  e : ∀ X sc, Agree c X sc → ∀ e m, f sc e = some m → SE X e m
  t : ∀ X sc, Agree c X sc → ∀ e m, t sc e = some m → SB X e m
theorem comp_parts_ok {c : Ctx} {f : Scope → Expr → Option CE} {t : Scope → Expr → Option CB} (G : Good c f t) {X : Cx} {sc : Scope} (A : Agree c X sc) {scope : Scope} {tg elt : Expr} {ifs : List Expr} {g : CG × List Nat} {tt : CB} {me : CE}
    (h2 : cTgt c (f (relS scope sc)) false (relS scope sc) 4 tg = some g) (h3 : (ifs = [] ∧ tt = yesB) ∨ ∃ x, ifs = [x] ∧ t (relS scope sc) x = some tt) (h4 : f (relS scope sc) elt = some me) (s : Shared) (H : Hp) (C : Addr) (cl : List (Str × Addr)) (fp : List Addr) :
    SG (X.blk s H scope (compEnvC scope cl C X.env) fp) tg g.1 g.2 ∧ STs (X.blk s H scope (compEnvC scope cl C X.env) fp) ifs tt ∧ SE (X.blk s H scope (compEnvC scope cl C X.env) fp) elt me := by
  have B := A.blk scope s H C cl fp
  refine ⟨cTgt_ok (df := false) B (G.e _ _ B) (fun z => Bool.noConfusion z) 4 h2, ?_, G.e _ _ B _ _ h4⟩
  rcases h3 with ⟨rfl, rfl⟩ | ⟨x, rfl, h3⟩
  · exact st_nil
  · exact st_one (G.t _ _ B _ _ h3)
theorem cE1_ok {c : Ctx} {f : Scope → Expr → Option CE} {t : Scope → Expr → Option CB} (G : Good c f t) {X : Cx} {sc : Scope} (A : Agree c X sc) {e : Expr} {m : CE} (h : cE1 c f t sc e = some m) : SE X e m := by
  have hf := G.e X sc A
  have hu : X.A.units + 64 < cLine := by have := A.units; omega
  unfold cE1 at h
  split at h
  · cases h; exact se_int
  · cases h; exact se_bool
  · cases h; exact se_none
  · cases h; exact se_str
  · rename_i x px
    split at h
    rotate_left
    · cases h
    rename_i hn
    obtain ⟨n1, n2, n3⟩ := okName_ok hn
    split at h
    · rename_i hv
      cases h1 : slot c.N x with
      | none => rw [h1] at h; cases h
      | some i =>
        rw [h1, Option.bind_some] at h
        cases h
        exact se_var (by rw [A.N]; exact slot_get h1) (by rw [A.sc]; exact vis_ok hv) n1 n2
    · split at h
      · rename_i hg
        cases h1 : c.cst.lookup x with
        | none => rw [h1] at h; cases h
        | some d =>
          rw [h1, Option.bind_some] at h
          cases h
          obtain ⟨u, v, q1, q2, q3⟩ := A.cst _ _ h1
          exact se_glob (gl_ok A hg) q1 q2 q3 n1
      · cases h
  · rename_i a op b px
    cases h0 : binG (c.mu.contains px) op with
    | none => rw [h0] at h; cases h
    | some g =>
      rw [h0, Option.bind_some] at h
      cases h1 : f sc a with
      | none => rw [h1] at h; cases h
      | some k =>
        rw [h1, Option.bind_some] at h
        cases h2 : f sc b with
        | none => rw [h2] at h; cases h
        | some n =>
          rw [h2, Option.bind_some] at h
          cases h
          exact se_bin (so_binG h0) (hf _ _ h1) (hf _ _ h2)
  · rename_i a px
    cases h1 : f sc a with
    | none => rw [h1] at h; cases h
    | some k => rw [h1, Option.bind_some] at h; cases h; exact se_un so_neg (hf _ _ h1)
  · rename_i a px
    cases h1 : f sc a with
    | none => rw [h1] at h; cases h
    | some k => rw [h1, Option.bind_some] at h; cases h; exact se_not (hf _ _ h1)
  · exact cAndE_ok hf h
  · exact cOrE_ok hf h
  · rename_i q a b px
    cases h0 : t sc q with
    | none => rw [h0] at h; cases h
    | some k0 =>
      rw [h0, Option.bind_some] at h
      cases h1 : f sc a with
      | none => rw [h1] at h; cases h
      | some k =>
        rw [h1, Option.bind_some] at h
        cases h2 : f sc b with
        | none => rw [h2] at h; cases h
        | some n =>
          rw [h2, Option.bind_some] at h
          cases h
          exact se_if (G.t X sc A _ _ h0) (hf _ _ h1) (hf _ _ h2)
  · exact (cCmp_cases hu hf h _).1
  · exact cCall_ok A hf h
  · exact cMeth_ok hf h
  · rename_i a lo hi p2 px
    cases h1 : f sc a with
    | none => rw [h1] at h; cases h
    | some k =>
      rw [h1, Option.bind_some] at h
      cases h2 : cOpt (f sc) lo with
      | none => rw [h2] at h; cases h
      | some l =>
        rw [h2, Option.bind_some] at h
        cases h3 : cOpt (f sc) hi with
        | none => rw [h3] at h; cases h
        | some u =>
          rw [h3, Option.bind_some] at h
          cases h
          exact se_slice (hf _ _ h1) (cOpt_ok hf h2) (cOpt_ok hf h3)
  · rename_i a b px _
    split at h
    · rename_i hs
      cases h1 : f sc a with
      | none => rw [h1] at h; cases h
      | some k =>
        rw [h1, Option.bind_some] at h
        cases h2 : f sc b with
        | none => rw [h2] at h; cases h
        | some n =>
          rw [h2, Option.bind_some] at h
          cases h
          exact se_ix (hf _ _ h1) (hf _ _ h2) hs
    · cases h
  · rename_i es px
    split at h
    · cases h1 : cArgs (f sc) es with
      | none => rw [h1] at h; cases h
      | some l => rw [h1, Option.bind_some] at h; cases h; exact se_lstM (cArgs_ok hf h1)
    · cases h1 : cArgs (frzO (f sc)) es with
      | none => rw [h1] at h; cases h
      | some l => rw [h1, Option.bind_some] at h; cases h; exact se_lst (cArgs_ok (frzO_ok hf) h1)
  · rename_i es k px
    cases h1 : cArgs (frzO (f sc)) es with
    | none => rw [h1] at h; cases h
    | some l =>
      rw [h1, Option.bind_some] at h
      cases h; exact se_tup (cArgs_ok (frzO_ok hf) h1)
  · obtain ⟨tg, iter, ifs, ci, g, tt, me, rfl, hb, hs, h1, h2, hv, h3, h4, rfl⟩ := cComp_parts h
    have P := comp_parts_ok G A h2 h3 h4
    exact se_lc A.calm A.nd (cIter_ok A hf h1) (by rw [A.N, A.sc]; exact blkOk_by hb) (fun s H C cl fp => (P s H C cl fp).1) (fun s H C cl fp => (P s H C cl fp).2.1) (fun s H C cl fp => (P s H C cl fp).2.2) hv (set_fold hs _)
  · cases h
theorem cT1_ok {c : Ctx} {f : Scope → Expr → Option CE} {t : Scope → Expr → Option CB} (G : Good c f t) {X : Cx} {sc : Scope} (A : Agree c X sc) {e : Expr} {m : CB} (h : cT1 (f sc) (t sc) e = some m) : SB X e m := by
  have hf := G.e X sc A
  have ht := G.t X sc A
  have hu : X.A.units + 64 < cLine := by have := A.units; omega
  unfold cT1 at h
  split at h
  · rename_i a px
    cases h1 : t sc a with
    | none => rw [h1] at h; cases h
    | some k => rw [h1, Option.bind_some] at h; cases h; exact sb_not (ht _ _ h1)
  · exact (cAndB_ok ht h).pt
  · exact (cOrB_ok ht h).pt
  · rename_i a ops bs px
    cases h1 : cCmp (f sc) a ops bs with
    | none => rw [h1] at h; cases h
    | some k => rw [h1, Option.bind_some] at h; cases h; exact (cCmp_cases hu hf h1 _).2
  · split at h
    · rename_i hp
      cases h1 : f sc e with
      | none => rw [h1] at h; cases h
      | some k =>
        rw [h1, Option.bind_some] at h
        cases h
        exact sb_val (hf _ _ h1) (plain_test _ hp)
    · cases h
theorem cet_ok (c : Ctx) : ∀ n, Good c (cet c n).1 (cet c n).2
  | 0 => ⟨fun _ _ _ _ _ h => (by cases h), fun _ _ _ _ _ h => (by cases h)⟩
  | n + 1 => ⟨fun X sc A e m h => cE1_ok (cet_ok c n) A h, fun X sc A e m h => cT1_ok (cet_ok c n) A h⟩
end PD

/-! PD, part 7: statements from the text, the table of defs, the law's end. -/
namespace PD
open PySem PySem.Spec PyProof.Rows L2 RZ RT

def isStarE : Expr → Bool
  | .Starred _ _ => true
  | _ => false
/-- whether the stores of a, b = x, y are exchanged -/
def swp (sc : Scope) (ts vs : List Expr) : Option (Option (List Str)) :=
  if (!(ts.length == 2 || ts.length == 3) || vs.length != ts.length) = true then some none
  else if (vs.any isStarE) = true then some none
  else
    let names := ts.filterMap fun
      | .Name id pos => if (sc.names.lookup id == some .local && pos.line == (ts.head?.map (·.pos.line)).getD 0) = true then some id else none
      | _ => none
    if (names.length != ts.length || names.eraseDups.length != names.length) = true then some none
    else if (vs.all (foldedForSure 8)) = true then some none
    else if (vs.all (constantsAlone 8)) = true then none
    else some (some names)
theorem swp_ok {env : Env} {sc : Scope} (hs : env.scope = sc) (hk : sc.kind = .function) {ts vs : List Expr} {r : Option (List Str)} (h : swp sc ts vs = some r) (k k2 : Nat) (p p2 : Pos) : swappedStores [.Tuple ts k p] (.Tuple vs k2 p2) env = pure r := by
  have hb : env.blockKind = .function := by unfold Env.blockKind; rw [hs, hk]; rfl
  have hkk : ∀ id, env.kindOf id = sc.names.lookup id := fun id => by unfold Env.kindOf; rw [hs]
  unfold swp at h
  unfold swappedStores
  simp only [hb, hkk]
  by_cases h1 : (!(ts.length == 2 || ts.length == 3) || vs.length != ts.length) = true
  · rw [if_pos h1] at h; cases h
    have h1' : (!(ts.length == 2 || ts.length == 3) || vs.length != ts.length || ScopeKind.function != ScopeKind.function) = true := by rw [h1]; rfl
    exact (if_pos h1').trans rfl
  · rw [if_neg h1] at h
    have h1' : ¬ (!(ts.length == 2 || ts.length == 3) || vs.length != ts.length || ScopeKind.function != ScopeKind.function) = true := by
      intro z; apply h1; revert z; simp
    rw [if_neg h1']
    by_cases h2 : (vs.any isStarE) = true
    · rw [if_pos h2] at h; cases h
      refine (if_pos ?_).trans rfl
      refine Eq.trans (congrArg (List.any vs) (funext fun e => ?_)) h2
      cases e <;> rfl
    · rw [if_neg h2] at h
      have hq : ∀ q : Expr → Bool, (∀ e, q e = isStarE e) → ¬ (vs.any q = true) := fun q hq z => h2 (by rw [← funext hq]; exact z)
      refine (if_neg (hq _ fun e => ?_)).trans ?_
      · cases e <;> rfl
      · simp only at h ⊢
        split at h
        · rename_i h3; cases h; exact (if_pos h3).trans rfl
        · rename_i h3
          refine (if_neg h3).trans ?_
          split at h
          · rename_i h4; cases h; exact (if_pos h4).trans rfl
          · rename_i h4
            refine (if_neg h4).trans ?_
            split at h
            · cases h
            · rename_i h5
              cases h
              exact (if_neg h5).trans rfl
theorem swapsNo {e : Expr} (h : notComp e = true) (t : Option Expr) (l : Nat) (env : Env) : swapsWith e t l env = pure false := by
  cases e <;> first | rfl | cases h
def isTupE : Expr → Bool
  | .Tuple _ _ _ => true
  | _ => false
def isLstE : Expr → Bool
  | .List _ _ => true
  | _ => false
def notTupTup (tg e : Expr) : Bool := !isLstE tg && (!isTupE tg || !isTupE e)
theorem storesNo {tg e : Expr} (h : notTupTup tg e = true) (env : Env) : swappedStores [tg] e env = pure none := by
  unfold notTupTup at h
  cases tg with
  | List a b => simp [isLstE] at h
  | Tuple a b d =>
    cases e with
    | Tuple a b d => simp [isLstE, isTupE] at h
    | _ => rfl
  | _ => rfl

def cBlk (g : Stmt → Option CS) : List Stmt → Option CS
  | [] => some nilS
  | st :: r => (g st).bind fun a => (cBlk g r).bind fun b => some (seqS a b)
def cGen (c : Ctx) (f : Expr → Option CE) (sc : Scope) (tg e : Expr) : Option CS :=
  if notStar tg = true then (f e).bind fun m => (cTgt c f true sc 4 tg).bind fun (g : CG × List Nat) => some (asgS m g.1) else none
def cPar (c : Ctx) (f : Expr → Option CE) (sc : Scope) (names : List Str) (ts vs : List Expr) : Option CS :=
  match ts, vs with
  | [.Name x _, .Name y _], [a, b] => if (names == [x, y] && lcl sc x && lcl sc y) = true then (slot c.N x).bind fun i => (slot c.N y).bind fun j => if i = j then none else (cArgs f [a, b]).bind fun l => some (parS i j l) else none
  | [.Name x _, .Name y _, .Name z _], [a, b, d] => if (names == [x, y, z] && lcl sc x && lcl sc y && lcl sc z) = true then (slot c.N x).bind fun i => (slot c.N y).bind fun j => (slot c.N z).bind fun k => if i = j ∨ i = k ∨ j = k then none else (cArgs f [a, b, d]).bind fun l => some (par3S i j k l) else none
  | _, _ => none
def cAsg (c : Ctx) (f : Expr → Option CE) (sc : Scope) (tg e : Expr) : Option CS :=
  match tg, e with
  | .Name y py, .ListComp elt gens scope p =>
    if cel sc y = true then cGen c f sc tg e
    else if (lcl sc y && (py.line == p.line) && !(scope.names.any fun (n, k) => n == y && (k == .local || k == .cell))) = true then (f e).bind fun m => (slot c.N y).bind fun i => some (asgS m (nameG i)) else none
  | .Tuple ts _ _, .Tuple vs _ _ => (match swp sc ts vs with
    | some none => cGen c f sc tg e
    | some (some names) => cPar c f sc names ts vs
    | none => none)
  | _, _ => if (notComp e && notTupTup tg e) = true then cGen c f sc tg e else none
def cS (c : Ctx) (f : Expr → Option CE) (t : Expr → Option CB) (sc : Scope) : Nat → Stmt → Option CS
  | 0, _ => none
  | n + 1, st => match st with
    | .Return (some e) _ => (f e).bind fun m => some (retS c.keep m)
    | .Return none _ => some retNS
    | .Expr e _ => if notComp e = true then (f e).bind fun m => some (exprS m) else none
    | .If q a b _ => (t q).bind fun k => (cBlk (cS c f t sc n) a).bind fun m => (cBlk (cS c f t sc n) b).bind fun m2 => some (ifS k m m2)
    | .For tg iter b [] _ => if notSet iter = true then (cIter c f sc tg iter).bind fun ci => (cTgt c f true sc 4 tg).bind fun (g : CG × List Nat) => (cBlk (cS c f t sc n) b).bind fun m => some (forS ci g.1 m) else none
    | .While q b [] _ => (t q).bind fun k => (cBlk (cS c f t sc n) b).bind fun m => some (whileS k m)
    | .Break _ => some brkS
    | .Continue _ => some cntS
    | .Pass _ => some nilS
    | .Raise _ _ _ => some stuckS
    | .Assign [tg] e _ => cAsg c f sc tg e
    | _ => none
theorem cBlk_ok {X : Cx} {g : Stmt → Option CS} (hg : ∀ st m, g st = some m → SS X st m) : ∀ {sts : List Stmt} {m : CS}, cBlk g sts = some m → SSs X sts m
  | [], _, h => by cases h; exact ss_nil
  | st :: r, m, h => by
    unfold cBlk at h
    cases h1 : g st with
    | none => rw [h1] at h; cases h
    | some a =>
      rw [h1, Option.bind_some] at h
      cases h2 : cBlk g r with
      | none => rw [h2] at h; cases h
      | some b =>
        rw [h2, Option.bind_some] at h
        cases h
        exact ss_cons (hg _ _ h1) (cBlk_ok hg h2)
section
variable {c : Ctx} {X : Cx} {sc : Scope} {k : Nat}
theorem cGen_ok (A : Agree c X sc) (hd : ∀ x, X.fn x = true) {f : Expr → Option CE} (hf : ∀ e m, f e = some m → SE X e m) {tg e : Expr} {m : CS} {pos : Pos} (h : cGen c f sc tg e = some m) (h1 : swapsWithSole [tg] e pos.line X.env = pure false) (h2 : swappedStores [tg] e X.env = pure none) :
    SS X (.Assign [tg] e pos) m := by
  unfold cGen at h
  split at h
  · rename_i hs
    cases z1 : f e with
    | none => rw [z1] at h; cases h
    | some me =>
      rw [z1, Option.bind_some] at h
      cases z2 : cTgt c f true sc 4 tg with
      | none => rw [z2] at h; cases h
      | some g =>
        rw [z2, Option.bind_some] at h
        cases h
        exact ss_asg (hf _ _ z1) (cTgt_ok A hf (fun _ => hd) 4 z2) h1 h2 (asg_one hs [] _)
  · cases h
theorem cAsg_ok (A : Agree c X sc) (hk : sc.kind = .function) (hd : ∀ x, X.fn x = true) {tg e : Expr} {m : CS} {pos : Pos} (h : cAsg c ((cet c (k + 1)).1 sc) sc tg e = some m) : SS X (.Assign [tg] e pos) m := by
  have hf := (cet_ok c (k + 1)).e X sc A
  unfold cAsg at h
  split at h
  · rename_i y py elt gens scope p
    split at h
    · rename_i hc
      refine cGen_ok A hd hf h ?_ (storesNo rfl _)
      have e := cel_ok hc
      show swapsWith (.ListComp elt gens scope p) (some (.Name y py)) pos.line X.env = pure false
      unfold swapsWith
      have ek : X.env.kindOf y = some .cell := by unfold Env.kindOf; rw [A.sc]; exact e
      have e0 : ((some NameKind.cell : Option NameKind) == some NameKind.local) = false := rfl
      simp only [ek, e0, Bool.and_false, Bool.false_and]
    · split at h
      · rename_i hc
        simp only [Bool.and_eq_true, Bool.not_eq_true'] at hc
        obtain ⟨⟨hl, hline⟩, hany⟩ := hc
        cases z1 : (cet c (k + 1)).1 sc (.ListComp elt gens scope p) with
        | none => rw [z1] at h; cases h
        | some me =>
          rw [z1, Option.bind_some] at h
          cases z2 : slot c.N y with
          | none => rw [z2] at h; cases h
          | some i =>
            rw [z2, Option.bind_some] at h
            cases h
            have z1' : cComp c (cet c k).1 (cet c k).2 sc (c.mu.contains p) elt gens scope = some me := z1
            obtain ⟨tg, iter, ifs, ci, g, tt, me2, rfl, hb, hs, h1, h2, hv, h3, h4, rfl⟩ := cComp_parts z1'
            have G := cet_ok c k
            have P := comp_parts_ok G A h2 h3 h4
            have el := lcl_ok hl
            have el' : X.env.scope.names.lookup y = some .local := by rw [A.sc]; exact el
            exact ss_setLc A.calm A.nd (by rw [A.N]; exact slot_get z2) el' (sw_true (by rw [A.sc]; exact hk) el' hline hany) (cIter_ok A (G.e X sc A) h1) (by rw [A.N, A.sc]; exact blkOk_by hb) (fun s H C cl fp => (P s H C cl fp).1) (fun s H C cl fp => (P s H C cl fp).2.1) (fun s H C cl fp => (P s H C cl fp).2.2) hv (set_fold hs _)
      · cases h
  · rename_i ts k1 p1 vs k2 p2
    split at h
    · rename_i hw
      exact cGen_ok A hd hf h (show swapsWith (.Tuple vs k2 p2) (some (.Tuple ts k1 p1)) pos.line X.env = pure false from swapsNo rfl _ _ _) (swp_ok A.sc hk hw _ _ _ _)
    · rename_i names hw
      have w := fun k k2 p p2 => swp_ok (env := X.env) A.sc hk hw k k2 p p2
      unfold cPar at h
      split at h
      · rename_i x px y py a b
        split at h
        · rename_i hn
          simp only [Bool.and_eq_true, beq_iff_eq] at hn
          obtain ⟨⟨rfl, l1⟩, l2⟩ := hn
          cases z1 : slot c.N x with
          | none => rw [z1] at h; cases h
          | some i =>
            rw [z1, Option.bind_some] at h
            cases z2 : slot c.N y with
            | none => rw [z2] at h; cases h
            | some j =>
              rw [z2, Option.bind_some] at h
              split at h
              · cases h
              · rename_i hij
                cases z3 : cArgs ((cet c (k + 1)).1 sc) [a, b] with
                | none => rw [z3] at h; cases h
                | some l =>
                  rw [z3, Option.bind_some] at h
                  cases h
                  have e1 := lcl_ok l1
                  have e2 := lcl_ok l2
                  rw [← A.sc] at e1 e2
                  exact ss_par A.calm A.nd (by rw [A.N]; exact slot_get z1) (by rw [A.N]; exact slot_get z2) hij e1 e2 (cArgs_ok hf z3) (w _ _ _ _)
        · cases h
      · rename_i x px y py z pz a b d
        split at h
        · rename_i hn
          simp only [Bool.and_eq_true, beq_iff_eq] at hn
          obtain ⟨⟨⟨rfl, l1⟩, l2⟩, l3⟩ := hn
          cases z1 : slot c.N x with
          | none => rw [z1] at h; cases h
          | some i =>
            rw [z1, Option.bind_some] at h
            cases z2 : slot c.N y with
            | none => rw [z2] at h; cases h
            | some j =>
              rw [z2, Option.bind_some] at h
              cases z3 : slot c.N z with
              | none => rw [z3] at h; cases h
              | some q =>
                rw [z3, Option.bind_some] at h
                split at h
                · cases h
                · rename_i hij
                  cases z4 : cArgs ((cet c (k + 1)).1 sc) [a, b, d] with
                  | none => rw [z4] at h; cases h
                  | some l =>
                    rw [z4, Option.bind_some] at h
                    cases h
                    have e1 := lcl_ok l1
                    have e2 := lcl_ok l2
                    have e3 := lcl_ok l3
                    rw [← A.sc] at e1 e2 e3
                    exact ss_par3 A.calm A.nd (by rw [A.N]; exact slot_get z1) (by rw [A.N]; exact slot_get z2) (by rw [A.N]; exact slot_get z3) (fun z => hij (.inl z)) (fun z => hij (.inr (.inl z))) (fun z => hij (.inr (.inr z))) e1 e2 e3 (cArgs_ok hf z4) (w _ _ _ _)
        · cases h
      · cases h
    · cases h
  · split at h
    · rename_i hn
      simp only [Bool.and_eq_true] at hn
      exact cGen_ok A hd hf h (swapsNo hn.1 (some _) pos.line X.env) (storesNo hn.2 _)
    · cases h
theorem cS_ok (A : Agree c X sc) (hk : sc.kind = .function) (hd : ∀ x, X.fn x = true) (hp : PassesOwn (model X.prog X.w) X.A X.env X.xe) : ∀ (n : Nat) {st : Stmt} {m : CS}, cS c ((cet c (k + 1)).1 sc) ((cet c (k + 1)).2 sc) sc n st = some m → SS X st m
  | 0, _, _, h => by simp [cS] at h
  | n + 1, st, m, h => by
    have hf := (cet_ok c (k + 1)).e X sc A
    have ht := (cet_ok c (k + 1)).t X sc A
    have ih := fun st m => cS_ok A hk hd hp n (st := st) (m := m)
    unfold cS at h
    split at h
    · rename_i e p
      cases h1 : (cet c (k + 1)).1 sc e with
      | none => rw [h1] at h; cases h
      | some me => rw [h1, Option.bind_some] at h; cases h; exact ss_ret (hf _ _ h1)
    · cases h; exact ss_retN
    · rename_i e p
      split at h
      · rename_i hn
        cases h1 : (cet c (k + 1)).1 sc e with
        | none => rw [h1] at h; cases h
        | some me => rw [h1, Option.bind_some] at h; cases h; exact ss_expr (hf _ _ h1) (swapsNo hn _ _ _)
      · cases h
    · rename_i q a b p
      cases h1 : (cet c (k + 1)).2 sc q with
      | none => rw [h1] at h; cases h
      | some mq =>
        rw [h1, Option.bind_some] at h
        cases h2 : cBlk (cS c ((cet c (k + 1)).1 sc) ((cet c (k + 1)).2 sc) sc n) a with
        | none => rw [h2] at h; cases h
        | some ma =>
          rw [h2, Option.bind_some] at h
          cases h3 : cBlk (cS c ((cet c (k + 1)).1 sc) ((cet c (k + 1)).2 sc) sc n) b with
          | none => rw [h3] at h; cases h
          | some mb => rw [h3, Option.bind_some] at h; cases h; exact ss_if (ht _ _ h1) (cBlk_ok ih h2) (cBlk_ok ih h3)
    · rename_i tg iter b p
      split at h
      · rename_i hn
        cases h1 : cIter c ((cet c (k + 1)).1 sc) sc tg iter with
        | none => rw [h1] at h; cases h
        | some ci =>
          rw [h1, Option.bind_some] at h
          cases h2 : cTgt c ((cet c (k + 1)).1 sc) true sc 4 tg with
          | none => rw [h2] at h; cases h
          | some g =>
            rw [h2, Option.bind_some] at h
            cases h3 : cBlk (cS c ((cet c (k + 1)).1 sc) ((cet c (k + 1)).2 sc) sc n) b with
            | none => rw [h3] at h; cases h
            | some mb => rw [h3, Option.bind_some] at h; cases h; exact ss_for hp A.calm (cIter_ok A hf h1) (cTgt_ok A hf (fun _ => hd) 4 h2) (cBlk_ok ih h3) (set_fold hn _)
      · cases h
    · rename_i q b p
      cases h1 : (cet c (k + 1)).2 sc q with
      | none => rw [h1] at h; cases h
      | some mq =>
        rw [h1, Option.bind_some] at h
        cases h3 : cBlk (cS c ((cet c (k + 1)).1 sc) ((cet c (k + 1)).2 sc) sc n) b with
        | none => rw [h3] at h; cases h
        | some mb => rw [h3, Option.bind_some] at h; cases h; exact ss_while hp (ht _ _ h1) (cBlk_ok ih h3)
    · cases h; exact ss_break
    · cases h; exact ss_continue
    · cases h; exact ss_pass
    · cases h; exact ss_stuck
    · exact cAsg_ok A hk hd h
    · cases h
end

/-! ### the table -/
abbrev Runs := Str → List W → Sto → Option (W × Sto)
structure Info where
  /-- the def's names, its parameters first -/
  N : List Str
  ps : List Str
  arr : List (Nat × List Str × List Nat)
  keep : Bool
  mu : List Pos
  body : Runs → CS
abbrev Tbl := List (Str × Info)
def run (T : Tbl) : Nat → Runs
  | 0, _ => fun _ _ => none
  | k + 1, x => match T.lookup x with
    | some d => runD d.N.length (d.body (run T k))
    | none => fun _ _ => none
/-- what is the same for all defs: the module's constants, imported built-ins, the built-ins that are not shadowed -/
structure Glb where
  cst : List (Str × PyData)
  bfn : List (Str × String)
  blts : List Str
def ctxOf (g : Glb) (T : Tbl) (r : Runs) (d : Info) : Ctx := ⟨d.N, T.map fun y => (y.1, ⟨y.2.ps, r y.1, y.2.arr⟩), g.cst, g.bfn, g.blts, d.keep, d.mu⟩
def cDef (c : Ctx) (st : Stmt) : Option CS := cBlk (cS c ((cet c 24).1 (defScope st)) ((cet c 24).2 (defScope st)) (defScope st) 12) (defBody st)
theorem lookup_map {α β : Type} (f : Str × α → β) : ∀ (l : List (Str × α)) (x : Str), (l.map fun y => (y.1, f y)).lookup x = (l.find? fun y => x == y.1).map f
  | [], _ => rfl
  | y :: r, x => by
    rw [List.map_cons, List.lookup_cons, List.find?_cons]
    cases h : x == y.1 with
    | true => rfl
    | false => exact lookup_map f r x
theorem find_lookup {α : Type} : ∀ (l : List (Str × α)) (x : Str) (y : Str × α), (l.find? fun y => x == y.1) = some y → l.lookup x = some y.2 ∧ y ∈ l ∧ x = y.1
  | [], _, _, h => by cases h
  | z :: r, x, y, h => by
    rw [List.find?_cons] at h
    rw [List.lookup_cons]
    cases e : x == z.1 with
    | true => rw [e] at h; cases h; exact ⟨rfl, List.mem_cons_self, eq_of_beq e⟩
    | false =>
      rw [e] at h
      obtain ⟨a, b, d⟩ := find_lookup r x y h
      exact ⟨a, List.mem_cons_of_mem _ b, d⟩
/-- the def as the top has left it -/
structure Stands (K : PySem.W.Frag) (mg : Str → Option Value) (g : Glb) (T : Tbl) (x : Str) (d : Info) : Prop where
  ex : ∃ (st : Stmt) (f : Addr) (fd : FuncData), mg x = some (.ref f) ∧ Fun K x x st f fd ∧ FnScope d.N d.ps (defScope st) ∧
    (∀ (s : Shared) (us : List Value), us.length = d.ps.length → BindsTo s fd ⟨us, []⟩ (d.ps.zip us)) ∧
    (∀ a ∈ d.arr, ∀ (s : Shared) (us ws : List Value), us.length = a.1 → ws.length = a.2.1.length → BindsTo s fd ⟨us, a.2.1.zip ws⟩ (d.ps.zip (atU a.2.2 (us ++ ws)))) ∧ (∀ a ∈ d.arr, a.2.2.length = d.ps.length) ∧
    ∀ r : Runs, cDef (ctxOf g T r d) st = some (d.body r)
structure Sound (K : PySem.W.Frag) (mg : Str → Option Value) (g : Glb) (T : Tbl) : Prop where
  defs : ∀ y ∈ T, Stands K mg g T y.1 y.2
  cst : ∀ x d, g.cst.lookup x = some d → ∃ u v, mg x = some u ∧ RelV v u ∧ ∀ H, Rep K H d v
  bfn : ∀ x id, g.bfn.lookup x = some id → mg x = some (.builtin id)
  blts : ∀ x ∈ g.blts, mg x = none
theorem fn_all {P : Program} {w : World} {K : PySem.W.Frag} {mg : Str → Option Value} {base : Heap} {g : Glb} {T : Tbl} (So : Sound K mg g T) : ∀ (k : Nat) (x : Str) (d : Info), T.lookup x = some d → (x, d) ∈ T →
    ∃ (st : Stmt) (f : Addr) (fd : FuncData), mg x = some (.ref f) ∧ Fun K x x st f fd ∧ (∀ (s : Shared) (us : List Value), us.length = d.ps.length → BindsTo s fd ⟨us, []⟩ (d.ps.zip us)) ∧
      (∀ a ∈ d.arr, ∀ (s : Shared) (us ws : List Value), us.length = a.1 → ws.length = a.2.1.length → BindsTo s fd ⟨us, a.2.1.zip ws⟩ (d.ps.zip (atU a.2.2 (us ++ ws)))) ∧ (∀ a ∈ d.arr, a.2.2.length = d.ps.length) ∧
      FnG P w K mg base k f fd d.ps (run T k x)
  | 0, x, d, hx, hm => by
    obtain ⟨st, f, fd, h1, h2, h3, h4, h5, h6, h7⟩ := (So.defs _ hm).ex
    exact ⟨st, f, fd, h1, h2, h4, h5, h6, ⟨fun A outer s H args us vs Q _ _ _ _ _ _ ⟨μ, S, ws, w0, S', _, _, e, _⟩ => by cases e⟩⟩
  | k + 1, x, d, hx, hm => by
    obtain ⟨st, f, fd, h1, h2, h3, h4, h5, h6, h7⟩ := (So.defs _ hm).ex
    refine ⟨st, f, fd, h1, h2, h4, h5, h6, ?_⟩
    have er : run T (k + 1) x = runD d.N.length (d.body (run T k)) := by
      unfold run
      simp only [hx]
    rw [er]
    refine fnG_of h2 h3 fun cdv A outer s H hr hg => ?_
    have Ag : Agree (ctxOf g T (run T k) d) (cxOf CX0 P w K mg base d.N x (defScope st) f cdv A outer s H E0).nox (defScope st) := by
      refine ⟨rfl, h3.nd, rfl, rfl, hg, ?_, fun y cal hy => ?_, So.cst, So.bfn, So.blts⟩
      · have h9 : A.units + 3 + 16 * k + 200 < cLine := hr.un
        show A.units + 3 + 70 < cLine
        omega
      · have hy' : (T.map fun y => (y.1, (⟨y.2.ps, run T k y.1, y.2.arr⟩ : Callee))).lookup y = some cal := hy
        rw [lookup_map (fun y : Str × Info => (⟨y.2.ps, run T k y.1, y.2.arr⟩ : Callee))] at hy'
        cases hf : (T.find? fun z => y == z.1) with
        | none => rw [hf] at hy'; cases hy'
        | some z =>
          rw [hf] at hy'
          cases hy'
          obtain ⟨a, b, e⟩ := find_lookup T y z hf
          subst e
          obtain ⟨st2, f2, fd2, g1, g2, g3, g4, g5, g6⟩ := fn_all (P := P) (w := w) (base := base) So k z.1 z.2 a b
          exact ⟨⟨f2, fd2, k, g1, g2.kp, hr, g6, g3, g4, g5⟩, hg⟩
    exact cBlk_ok (fun st m z => cS_ok Ag h3.kind (fun _ => rfl) PassesOwn.never 12 z) (h7 (run T k))
end PD

/-! PD, part 8: the law's end. -/
namespace PD
open PySem PySem.Spec PyProof.Rows L2 RZ RT

/-- the script as the law's call finds it -/
def scriptH (K : PySem.W.Frag) (a : Addr) (vs : List Value) (ns : List Int) : Hp := fun b => if b = a ∧ K.lookup a = none then some (.frz { cls := .type "list", data := .seq vs.toArray } (.lst (ns.map V.int))) else none
theorem scriptH_some {K : PySem.W.Frag} {a b : Addr} {vs : List Value} {ns : List Int} {o : HO} (h : scriptH K a vs ns b = some o) : b = a ∧ K.lookup a = none ∧ o = .frz { cls := .type "list", data := .seq vs.toArray } (.lst (ns.map V.int)) := by
  unfold scriptH at h
  split at h
  · rename_i z; cases h; exact ⟨z.1, z.2, rfl⟩
  · cases h
theorem law_runs {P : Program} {w : World} {K : PySem.W.Frag} {mg mb : Str → Option Value} {k : Nat} {fa a : Addr} {fd : FuncData} {x : Str} {s : Shared} {vs : List Value} {ns : List Int} {run : List W → Sto → Option (W × Sto)}
    (hK : K.In s.heap) (hmg : s.heap.Ns mainGlobals mg) (hmb : s.heap.Ns builtinsNs mb) (hbb : ∀ x : Str, x ≠ "__name__" → mb x = bootBuiltins x) (hlim : s.heap.NoLimit) (hgen : s.gens = #[])
    (ha : s.heap.get? a = some { cls := .type "list", data := .seq vs.toArray }) (hi : IntsAre vs ns) (hl : ns.length ≤ sizeLine) (hr : Room k callerA)
    (F : ∀ base : Heap, K.In base → base.Ns mainGlobals mg → FnG P w K mg base k fa fd [x] run) (hb : ∀ (s : Shared) (u : Value), BindsTo s fd ⟨[u], []⟩ [(x, u)])
    (law : run [.d (.list (ns.map PyData.int))] [] = some (.d (.bool true), [])) :
    codeAny (model P w) callerA (.call (.ref fa) ⟨[.ref a], []⟩) (fun r s' => r = .ok (.ret (.bool true)) ∧ OldK s.heap s'.heap ∧ s'.os = s.os ∧ AllBare s'.gens) s := by
  have rv := vals_ints hi
  have hnl : vs.length = ns.length := hi.length
  have h1 : ∀ {b : Addr} {o : HO}, scriptH K a vs ns b = some o → b = a := fun h => (scriptH_some h).1
  -- what stands in the heap and is no part of the tracked one
  have stay : ∀ {b : Addr} {o : Obj}, s.heap.get? b = some o → (b = a → K.lookup a = none → False) → (hidT s.heap (scriptH K a vs ns)).get? b = some o := fun {b o} e n => hidT_get e (by
    cases q : scriptH K a vs ns b with
    | none => rfl
    | some u => exact (n (scriptH_some q).1 (scriptH_some q).2.1).elim)
  have stayNs : ∀ {b : Addr} {m : Str → Option Value}, s.heap.Ns b m → (hidT s.heap (scriptH K a vs ns)).Ns b m := fun {b m} ⟨o, es, ep, e, d, r⟩ =>
    ⟨o, es, ep, stay e (fun z _ => by subst z; rw [ha] at e; cases e; cases d), d, r⟩
  have stayK : K.In (hidT s.heap (scriptH K a vs ns)) := fun b o e => stay (hK b o e) fun z z2 => by subst z; rw [z2] at e; cases e
  have hok : HOk P w (scriptH K a vs ns) s.heap := fun b u q => by
    obtain ⟨rfl, _, rfl⟩ := scriptH_some q
    exact ⟨ha, by rw [List.length_map]; exact hl, vs, _, rv, ha⟩
  have md : Mod K mg (hidT s.heap (scriptH K a vs ns)) := ⟨stayK, stayNs hmg, ⟨mb, stayNs hmb, hbb⟩, let ⟨mc, q1, q2⟩ := hlim; ⟨mc, stayNs q1, q2⟩⟩
  have e0 : Env0 P w K mg (hidT s.heap (scriptH K a vs ns)) callerA [] s (scriptH K a vs ns) := by
    refine ⟨rfl, md, fun b o e => of_hidT e, ?_, trivial, fun b hb => ?_, hok, .of_eq hgen⟩
    · rw [hidT_size]; exact Nat.le_refl _
    · exact absurd (show b ∈ ([] : List Addr) from hb) (by simp)
  have rep : Rep K (scriptH K a vs ns) (.list (ns.map PyData.int)) (.ref a) := by
    refine .lst (vs := ns.map V.int) ?_ (RepL.ints ns)
    cases q : K.lookup a with
    | none => exact .inl ⟨_, if_pos ⟨rfl, q⟩⟩
    | some o =>
      have e := hK a o q
      rw [ha] at e
      cases e
      exact .inr ⟨_, vs.toArray, _, q, rfl, rfl, rfl, by rw [List.size_toArray, hnl]; exact hl, by simpa using rv⟩
  have want : FN K run [.ref a] (scriptH K a vs ns) (fun v _ => v = .bl true) := by
    refine ⟨[], [], [.d (.list (ns.map PyData.int))], .d (.bool true), [], ⟨rfl, List.nodup_nil, fun _ m => (nomatch m), fun n xs e => by simp at e⟩, .cons (.d rep) .nil, law, fun v H' μ' _ r => ?_⟩
    cases r with | d r => cases r; rfl
  refine codeAny_mono ((F _ stayK (stayNs hmg)).run callerA [] s _ ⟨[.ref a], []⟩ [.ref a] [.ref a] _ hr rfl e0 (hb s (.ref a)) (.cons rfl .nil) rfl want) fun r s' h => ?_
  cases r with
  | error e => exact h.elim
  | ok fl =>
    cases fl with
    | next => exact False.elim h
    | brk => exact False.elim h
    | cont => exact False.elim h
    | ret u =>
      obtain ⟨v, H', os, bare, un, hok', rr, q⟩ := h
      subst q
      cases rr
      refine ⟨rfl, OldK.of_keep fun b o e => ?_, os, bare⟩
      cases q : scriptH K a vs ns b with
      | none => exact un.keep b o e q (fun z => absurd (show b ∈ ([] : List Addr) from z) (by simp)) (by simp)
      | some u =>
        obtain ⟨rfl, _, rfl⟩ := scriptH_some q
        obtain ⟨e2, _⟩ := hok' b _ (un.frzs b _ _ q)
        rw [ha] at e; cases e
        exact e2
/-- the walk that k_head leaves, from the law's function -/
theorem walkG {l : PySem.W.OpenLaw} {n k : Nat} {q : Program} {loose : List Str} {XP : (Str → Option Value) → Heap → Prop} {YP : World → Heap → Prop} {d : DefRec} {K : Params → PySem.W.Frag} {g : Glb} {T : Tbl} {i : Info} {x : Str}
    (hn : l.most = some n) (hn2 : n ≤ sizeLine) (hdf : d.params.defaults = []) (hr : Room k callerA) (hT : T.lookup d.name = some i) (hM : (d.name, i) ∈ T) (hp : i.ps = [x])
    (hY : ∀ (w : World) (h : Heap), YP w h → (K w.params).In h)
    (F : ∀ (w : World) (mg : Str → Option Value) (h : Heap), (K w.params).In h → h.Ns mainGlobals mg → Sound (K w.params) mg g T)
    (law : ∀ ns : List Int, ns.length ≤ n → (∀ z ∈ ns, Builtin.Int.intBits z ≤ 1048576) → run T k d.name [.d (.list (ns.map PyData.int))] [] = some (.d (.bool true), [])) :
    PySem.W.WalkO q loose XP YP l.row.toRowW d [] (fun f vs => PySem.call f vs) := by
  refine Att.attach_callB hn hdf fun w s0 s1 mg mb fa o pm cd doc a vs ns G Y ho hd hcd hmg hobj hints hlen hbits hg => ?_
  have KX := hY w _ Y
  have So := F w mg _ KX G.T.g
  obtain ⟨st, f, fd, h1, h2, h3, h4, h5, _⟩ := fn_all (P := l.prog) (w := w) (base := s1.heap) So k d.name i hT hM
  have ef : f = fa := by
    have := h1.symm.trans hmg
    injection this with this
    injection this
  subst ef
  refine law_runs (x := x) (fd := fd) KX G.T.g G.T.b G.T.builtins G.T.nolimit hg hobj hints (Nat.le_trans hlen hn2) hr (fun base kb nb => ?_) (fun s u => ?_) (law ns hlen hbits)
  · obtain ⟨st', f', fd', q1, q2, q3, q4, q5, q6⟩ := fn_all (P := l.prog) (w := w) (base := base) So k d.name i hT hM
    have ef : f' = f := by
      have := q1.symm.trans h1
      injection this with this
      injection this
    subst ef
    have efd : fd' = fd := by
      obtain ⟨_, _, _, _, _, _, _, _, _, _, lk, _⟩ := q2.ex
      obtain ⟨_, _, _, _, _, _, _, _, _, _, lk', _⟩ := h2.ex
      rw [lk] at lk'
      injection lk' with e1
      injection e1 with _ _ e2 _
      injection e2
    subst efd
    rw [hp] at q6
    exact q6
  · have := h3 s [u] (by rw [hp]; rfl)
    rw [hp] at this
    exact this
end PD

/-! PD, part 9: how the functions are reckoned (for simp), sizes of numbers, fractions. -/
namespace PD
open PySem PySem.Spec PyProof.Rows L2

/-- a range from nought, of a number that is not too great -/
def rangeU (j : Int) (S : Sto) : Option (List PyData × Sto) := if okR j = true then some (rangeD 0 j.toNat, S) else none
theorem rangeU_nat (n : Nat) (S : Sto) (h : n < 1000000) : rangeU n S = some (rangeD 0 n, S) := by
  unfold rangeU
  rw [if_pos (okR_nat h), Int.toNat_natCast]
section
variable {ρ : Rho} {S : Sto} {a b c : CE} {l : CL} {t u : CB} {s s' : CS}
@[simp] theorem x_const (x : PyData) : constE x ρ S = some (.d x, S) := rfl
@[simp] theorem x_var (i : Nat) : varE i ρ S = match ρ[i]? with
  | some (some w) => some (w, S)
  | _ => none := rfl
@[simp] theorem x_bin (f : W → W → Sto → Option (W × Sto)) : binE f a b ρ S = (a ρ S).bind fun p => (b ρ p.2).bind fun q => f p.1 q.1 q.2 := rfl
@[simp] theorem x_un (f : W → Sto → Option (W × Sto)) : unE f a ρ S = (a ρ S).bind fun p => f p.1 p.2 := rfl
@[simp] theorem x_if : ifE t a b ρ S = (t ρ S).bind fun p => if p.1 = true then a ρ p.2 else b ρ p.2 := rfl
@[simp] theorem x_nil : nilL ρ S = some ([], S) := rfl
@[simp] theorem x_cons : consL a l ρ S = (a ρ S).bind fun p => (l ρ p.2).bind fun q => some (p.1 :: q.1, q.2) := rfl
@[simp] theorem x_app (f : List W → Sto → Option (W × Sto)) : appE f l ρ S = (l ρ S).bind fun p => f p.1 p.2 := rfl
@[simp] theorem x_andB : andB t u ρ S = (t ρ S).bind fun p => if p.1 = true then u ρ p.2 else some (false, p.2) := rfl
@[simp] theorem x_orB : orB t u ρ S = (t ρ S).bind fun p => if p.1 = true then some (true, p.2) else u ρ p.2 := rfl
@[simp] theorem x_notB : notB t ρ S = (t ρ S).bind fun p => some (!p.1, p.2) := rfl
@[simp] theorem x_valB : valB a ρ S = (a ρ S).bind fun p => (asBool p.1).bind fun b => some (b, p.2) := rfl
@[simp] theorem x_andE : andE a b ρ S = (a ρ S).bind fun p => (asBool p.1).bind fun k => if k = true then b ρ p.2 else some (.d (.bool false), p.2) := rfl
@[simp] theorem x_orE : orE a b ρ S = (a ρ S).bind fun p => (asBool p.1).bind fun k => if k = true then some (.d (.bool true), p.2) else b ρ p.2 := rfl
@[simp] theorem x_notE : notE a ρ S = (a ρ S).bind fun p => (asBool p.1).bind fun k => some (.d (.bool (!k)), p.2) := rfl
@[simp] theorem x_ch (f g : W → W → Sto → Option (W × Sto)) : chE f g a b c ρ S = (a ρ S).bind fun p => (b ρ p.2).bind fun q => (f p.1 q.1 q.2).bind fun z => (asBool z.1).bind fun k => if k = true then (c ρ z.2).bind fun r => g q.1 r.1 r.2 else some (.d (.bool false), z.2) := rfl
@[simp] theorem x_asBool (b : Bool) : asBool (.d (.bool b)) = some b := rfl
@[simp] theorem x_asInt (i : Int) : asInt (.d (.int i)) = some i := rfl
@[simp] theorem x_rdd (x : PyData) : rd S (.d x) = some x := rfl
@[simp] theorem x_rdm (n : Nat) : rd S (.m n) = match S[n]? with
  | some (some xs) => some (.list xs)
  | _ => none := rfl
@[simp] theorem x_pf1 (g : PyData → Option PyData) (x : W) : pf1 g x S = (rd S x).bind fun a => (g a).bind fun c => some (.d c, S) := rfl
@[simp] theorem x_pf2 (g : PyData → PyData → Option PyData) (x y : W) : pf2 g x y S = (rd S x).bind fun a => (rd S y).bind fun b => (g a b).bind fun c => some (.d c, S) := rfl
theorem x_pfN (g : List PyData → Option PyData) (ws : List W) : pfN g ws S = (ws.mapM (rd S)).bind fun xs => (g xs).bind fun c => some (.d c, S) := rfl
@[simp] theorem x_pfN1 (g : List PyData → Option PyData) (x : W) : pfN g [x] S = (rd S x).bind fun a => (g [a]).bind fun c => some (.d c, S) := by
  unfold pfN
  rw [List.mapM_cons, List.mapM_nil]
  cases rd S x <;> rfl
@[simp] theorem x_pfN2 (g : List PyData → Option PyData) (x y : W) : pfN g [x, y] S = (rd S x).bind fun a => (rd S y).bind fun b => (g [a, b]).bind fun c => some (.d c, S) := by
  unfold pfN
  rw [List.mapM_cons, List.mapM_cons, List.mapM_nil]
  cases rd S x <;> cases rd S y <;> rfl
@[simp] theorem x_add (i j : Int) : addP (.int i) (.int j) = some (.int (i + j)) := rfl
@[simp] theorem x_addL (xs ys : List PyData) : addP (.list xs) (.list ys) = if xs.length + ys.length ≤ lim then some (.list (xs ++ ys)) else none := rfl
@[simp] theorem x_addT (xs ys : List PyData) : addP (.tuple xs) (.tuple ys) = if xs.length + ys.length ≤ lim then some (.tuple (xs ++ ys)) else none := rfl
@[simp] theorem x_sub (i j : Int) : subP (.int i) (.int j) = some (.int (i - j)) := rfl
@[simp] theorem x_mul (i j : Int) : mulP (.int i) (.int j) = if mulOk i j = true then some (.int (i * j)) else none := rfl
@[simp] theorem x_div (i j : Int) : divP (.int i) (.int j) = if divOk j = true then some (.int (i.fdiv j)) else none := rfl
@[simp] theorem x_mod (i j : Int) : modP (.int i) (.int j) = if j ≠ 0 then some (.int (i.fmod j)) else none := rfl
@[simp] theorem x_neg (i : Int) : negP (.int i) = some (.int (-i)) := rfl
@[simp] theorem x_lt (i j : Int) : ltP (.int i) (.int j) = some (.bool (decide (i < j))) := rfl
@[simp] theorem x_le (i j : Int) : leP (.int i) (.int j) = some (.bool (decide (i ≤ j))) := rfl
@[simp] theorem x_gt (i j : Int) : gtP (.int i) (.int j) = some (.bool (decide (j < i))) := rfl
@[simp] theorem x_ge (i j : Int) : geP (.int i) (.int j) = some (.bool (decide (j ≤ i))) := rfl
@[simp] theorem x_eqI (i j : Int) : eqP (.int i) (.int j) = some (.bool (i == j)) := by
  unfold eqP eqOk
  rw [if_pos (by simp [PyData.canLay0, PyData.depth])]
  rfl
@[simp] theorem x_neI (i j : Int) : neP (.int i) (.int j) = some (.bool (!(i == j))) := by
  unfold neP eqOk
  rw [if_pos (by simp [PyData.canLay0, PyData.depth])]
  rfl
@[simp] theorem x_isN (w : W) : isF w (.d .none) S = some (.d (.bool (isNone w)), S) := rfl
@[simp] theorem x_isntN (w : W) : isntF w (.d .none) S = some (.d (.bool (!isNone w)), S) := rfl
@[simp] theorem x_ixL (xs : List PyData) (i : Int) : ixP (.list xs) (.int i) = atI xs i := rfl
@[simp] theorem x_ixT (xs : List PyData) (i : Int) : ixP (.tuple xs) (.int i) = atI xs i := rfl
@[simp] theorem x_lenL (xs : List PyData) : lenP [.list xs] = some (.int xs.length) := rfl
@[simp] theorem x_lenT (xs : List PyData) : lenP [.tuple xs] = some (.int xs.length) := rfl
@[simp] theorem x_abs (i : Int) : absP [.int i] = some (.int (if i < 0 then -i else i)) := rfl
@[simp] theorem x_int (i : Int) : intP [.int i] = some (.int i) := rfl
@[simp] theorem x_max (i j : Int) : maxP [.int i, .int j] = some (.int (if j > i then j else i)) := rfl
@[simp] theorem x_min (i j : Int) : minP [.int i, .int j] = some (.int (if j < i then j else i)) := rfl
@[simp] theorem x_tupL (xs : List PyData) : tupleP [.list xs] = some (.tuple xs) := rfl
@[simp] theorem x_tupT (xs : List PyData) : tupleP [.tuple xs] = some (.tuple xs) := rfl
@[simp] theorem x_gcd (i j : Int) : gcdP [.int i, .int j] = some (.int ((Nat.gcd i.natAbs j.natAbs : Nat) : Int)) := rfl
@[simp] theorem x_call (c : PD.Callee) (ws : List W) : callF c ws S = if ws.length = c.ps.length then c.run ws S else none := rfl
@[simp] theorem x_kw (c : PD.Callee) (perm : List Nat) (l k : CL) : kwE c perm l k ρ S = (l ρ S).bind fun p => (k ρ p.2).bind fun q => c.run (atW perm (p.1 ++ q.1)) q.2 := rfl
@[simp] theorem x_tup (ws : List W) : tupF ws S = (allD ws).bind fun xs => if xs.length ≤ lim then some (.d (.tuple xs), S) else none := rfl
@[simp] theorem x_lst (ws : List W) : lstF ws S = (allD ws).bind fun xs => if xs.length ≤ lim then some (.d (.list xs), S) else none := rfl
@[simp] theorem x_lstM (ws : List W) : lstM ws S = (allD ws).bind fun xs => if xs.length ≤ lim then some (.m S.length, S ++ [some xs]) else none := rfl
@[simp] theorem x_allD0 : allD [] = some [] := rfl
@[simp] theorem x_allD (x : PyData) (r : List W) : allD (.d x :: r) = (allD r).bind fun xs => some (x :: xs) := rfl
@[simp] theorem x_nilS : nilS ρ S = some (.nx, ρ, S) := rfl
@[simp] theorem x_seq (s s' : CS) : seqS s s' ρ S = (s ρ S).bind fun p => match p.1 with
  | .nx => s' p.2.1 p.2.2
  | f => some (f, p.2.1, p.2.2) := rfl
@[simp] theorem x_ifS (t : CB) (s s' : CS) : ifS t s s' ρ S = (t ρ S).bind fun p => if p.1 = true then s ρ p.2 else s' ρ p.2 := rfl
@[simp] theorem x_asg (a : CE) (g : CG) : asgS a g ρ S = (a ρ S).bind fun p => (g p.1 ρ p.2).bind fun q => some (.nx, q.1, q.2) := rfl
@[simp] theorem x_expr (a : CE) : exprS a ρ S = (a ρ S).bind fun p => some (.nx, ρ, p.2) := rfl
@[simp] theorem x_ret (k : Bool) (a : CE) : retS k a ρ S = (a ρ S).bind fun p => (thaw k p.1 p.2).bind fun q => some (.rt q.1, ρ, q.2) := rfl
@[simp] theorem x_frz (a : CE) : frzE a ρ S = (a ρ S).bind fun p => thaw false p.1 p.2 := rfl
@[simp] theorem x_thawD (k : Bool) (x : PyData) : thaw k (.d x) S = some (.d x, S) := rfl
@[simp] theorem x_thawK (n : Nat) : thaw true (.m n) S = some (.m n, S) := rfl
@[simp] theorem x_thawF (n : Nat) : thaw false (.m n) S = match S[n]? with
  | some (some xs) => some (.d (.list xs), S.set n none)
  | _ => none := rfl
@[simp] theorem x_nameG (i : Nat) (w : W) : nameG i w ρ S = some (ρ.set i (some w), S) := rfl
@[simp] theorem x_tupG (n : Nat) (g : CGs) (xs : List PyData) : tupG n g (.d (.tuple xs)) ρ S = if xs.length = n then g xs ρ S else none := rfl
@[simp] theorem x_nilG : nilG [] ρ S = some (ρ, S) := rfl
@[simp] theorem x_consG (g : CG) (r : CGs) (x : PyData) (xs : List PyData) : consG g r (x :: xs) ρ S = (g (.d x) ρ S).bind fun p => r xs p.1 p.2 := rfl
@[simp] theorem x_par (i j : Nat) (l : CL) : parS i j l ρ S = (l ρ S).bind fun p => match p.1 with
  | [v, w] => some (.nx, (ρ.set i (some v)).set j (some w), p.2)
  | _ => none := rfl
@[simp] theorem x_par3 (i j k : Nat) (l : CL) : par3S i j k l ρ S = (l ρ S).bind fun p => match p.1 with
  | [u, v, w] => some (.nx, ((ρ.set i (some u)).set j (some v)).set k (some w), p.2)
  | _ => none := rfl
@[simp] theorem x_forS (it : CI) (g : CG) (s : CS) : forS it g s ρ S = (it ρ S).bind fun p => forN g s p.1 ρ p.2 := rfl
@[simp] theorem x_forN0 (g : CG) (s : CS) : forN g s [] ρ S = some (.nx, ρ, S) := rfl
theorem x_forN (g : CG) (s : CS) (x : PyData) (xs : List PyData) : forN g s (x :: xs) ρ S = (g (.d x) ρ S).bind fun p => (s p.1 p.2).bind fun q => match q.1 with
    | .nx => forN g s xs q.2.1 q.2.2
    | .ct => forN g s xs q.2.1 q.2.2
    | .bk => some (.nx, q.2.1, q.2.2)
    | .rt w => some (.rt w, q.2.1, q.2.2) := rfl
@[simp] theorem x_seqI (a : CE) : seqI a ρ S = (a ρ S).bind fun p => match p.1 with
  | .d (.list xs) => some (xs, p.2)
  | .d (.tuple xs) => some (xs, p.2)
  | _ => none := rfl
@[simp] theorem x_range1 (a : CE) : range1I a ρ S = (a ρ S).bind fun p => (asInt p.1).bind fun j => rangeU j p.2 := rfl
@[simp] theorem x_zipI (a b : CE) : zipI a b ρ S = (a ρ S).bind fun p => (b ρ p.2).bind fun z => match p.1, z.1 with
  | .d (.list xs), .d (.list ys) => some (zipD xs ys, z.2)
  | .d (.tuple xs), .d (.tuple ys) => some (zipD xs ys, z.2)
  | _, _ => none := rfl
@[simp] theorem x_slice (a : CE) (lo hi : CO) : sliceE a lo hi ρ S = (a ρ S).bind fun p => (lo ρ p.2).bind fun l => (hi ρ l.2).bind fun u => (rd u.2 p.1).bind fun x => (sliceP l.1 u.1 x).bind fun y => some (.d y, u.2) := rfl
@[simp] theorem x_noO : noO ρ S = some (none, S) := rfl
@[simp] theorem x_someO (a : CE) : someO a ρ S = (a ρ S).bind fun p => (asInt p.1).bind fun i => some (some i, p.2) := rfl
@[simp] theorem x_sliceL (lo hi : Option Int) (xs : List PyData) : sliceP lo hi (.list xs) = some (.list (cutP xs lo hi)) := rfl
@[simp] theorem x_sliceT (lo hi : Option Int) (xs : List PyData) : sliceP lo hi (.tuple xs) = some (.tuple (cutP xs lo hi)) := rfl
@[simp] theorem x_yes : yesB ρ S = some (true, S) := rfl
theorem x_lc (own : List Nat) (mu : Bool) (ci : CI) (g : CG) (t : CB) (elt : CE) : lcE own mu ci g t elt ρ S = (ci ρ S).bind fun p => if p.1.length ≤ lim then (lcN g t elt (wipeR ρ own) p.1 p.2).bind fun q =>
  if mu = true then some (.m q.2.length, q.2 ++ [some q.1]) else some (.d (.list q.1), q.2) else none := rfl
@[simp] theorem x_lcN0 (g : CG) (t : CB) (elt : CE) : lcN g t elt ρ [] S = some ([], S) := rfl
theorem x_lcN (g : CG) (t : CB) (elt : CE) (x : PyData) (xs : List PyData) : lcN g t elt ρ (x :: xs) S = (g (.d x) ρ S).bind fun p => (t p.1 p.2).bind fun b => if b.1 = true then (elt p.1 b.2).bind fun y => match y.1 with
      | .d d => (lcN g t elt ρ xs y.2).bind fun r => some (d :: r.1, r.2)
      | .m _ => none
    else lcN g t elt ρ xs b.2 := rfl
theorem x_run (n : Nat) (m : CS) (ws : List W) : runD n m ws S = (m (startR n ws) S).bind fun p => match p.1 with
  | .rt w => leave S.length w p.2.2
  | .nx => leave S.length (.d .none) p.2.2
  | _ => none := rfl
@[simp] theorem x_leaveD (x : PyData) : leave S.length (.d x) S = some (.d x, S) := by
  show some (W.d x, S.take S.length) = _
  rw [List.take_length]
@[simp] theorem x_leaveD' (L : Nat) (x : PyData) (S' : Sto) : leave L (.d x) S' = some (.d x, S'.take L) := rfl
theorem x_sub1 (a i : CE) (w : W) : subG a i w ρ S = (a ρ S).bind fun p => (i ρ p.2).bind fun q => match w, p.1, asInt q.1 with
  | .d x, .m n, some k => (match q.2[n]? with
    | some (some xs) => (ixN xs.length k).bind fun j => some (ρ, q.2.set n (some (xs.set j x)))
    | _ => none)
  | _, _, _ => none := rfl
end
/-- a def at an end that hands back plain data and leaves the store -/
theorem run_ret {n : Nat} {m : CS} {ws : List W} {S : Sto} {x : PyData} {ρ : Rho} (h : m (startR n ws) S = some (.rt (.d x), ρ, S)) : runD n m ws S = some (.d x, S) := by
  rw [x_run, h]
  show leave S.length (.d x) S = _
  simp
theorem run_nx {n : Nat} {m : CS} {ws : List W} {S : Sto} {ρ : Rho} (h : m (startR n ws) S = some (.nx, ρ, S)) : runD n m ws S = some (.d .none, S) := by
  rw [x_run, h]
  show leave S.length (.d .none) S = _
  simp
@[simp] theorem start1 (n : Nat) (a : W) : startR (n + 1) [a] = some a :: List.replicate n none := by simp [startR]
@[simp] theorem start2 (n : Nat) (a b : W) : startR (n + 2) [a, b] = some a :: some b :: List.replicate n none := by simp [startR]
@[simp] theorem start3 (n : Nat) (a b c : W) : startR (n + 3) [a, b, c] = some a :: some b :: some c :: List.replicate n none := by simp [startR]
@[simp] theorem at0 {α : Type} (x : α) (r : List α) : atI (x :: r) 0 = some x := atI_nat (j := 0) rfl
@[simp] theorem at1 {α : Type} (x y : α) (r : List α) : atI (x :: y :: r) 1 = some y := atI_nat (j := 1) rfl
@[simp] theorem at2 {α : Type} (x y z : α) (r : List α) : atI (x :: y :: z :: r) 2 = some z := atI_nat (j := 2) rfl

@[simp] theorem lim_eq : lim = 100000 := rfl
/-! ### sizes -/
def Lt2 (n : Nat) (i : Int) : Prop := i.natAbs < 2 ^ n
theorem Lt2.mono {n m : Nat} {i : Int} (h : Lt2 n i) (l : n ≤ m) : Lt2 m i := Nat.lt_of_lt_of_le h (Nat.pow_le_pow_right (by decide) l)
theorem Lt2.mul {n m : Nat} {i j : Int} (h : Lt2 n i) (g : Lt2 m j) : Lt2 (n + m) (i * j) := wide_lt h g
theorem Lt2.add {n m : Nat} {i j : Int} (h : Lt2 n i) (g : Lt2 m j) : Lt2 (max n m + 1) (i + j) := by
  have h' := h.mono (Nat.le_max_left n m)
  have g' := g.mono (Nat.le_max_right n m)
  unfold Lt2 at h' g' ⊢
  rw [Nat.pow_succ]
  have := Int.natAbs_add_le i j
  omega
theorem Lt2.neg {n : Nat} {i : Int} (h : Lt2 n i) : Lt2 n (-i) := by unfold Lt2 at *; rw [Int.natAbs_neg]; exact h
theorem Lt2.sub {n m : Nat} {i j : Int} (h : Lt2 n i) (g : Lt2 m j) : Lt2 (max n m + 1) (i - j) := by rw [Int.sub_eq_add_neg]; exact h.add g.neg
theorem Lt2.log {n : Nat} {i : Int} (h : Lt2 n i) : i.natAbs.log2 ≤ n := by
  cases n with
  | zero =>
    have : i.natAbs = 0 := by unfold Lt2 at h; omega
    rw [this]; simp
  | succ n => exact Nat.le_of_lt (PySem.Flt.log2_lt_of (Nat.succ_pos n) h)
theorem mulOk_of {n m : Nat} {i j : Int} (h : Lt2 n i) (g : Lt2 m j) (l : n + m < 1000000 := by omega) : mulOk i j = true := by
  unfold mulOk
  have := h.log
  have := g.log
  exact decide_eq_true (by omega)
theorem divOk_of {n : Nat} {j : Int} (h0 : j ≠ 0) (h : Lt2 n j) (l : n < 9000 := by omega) : divOk j = true := by
  unfold divOk
  have := h.log
  exact decide_eq_true ⟨h0, by omega⟩
theorem Lt2.of {i : Int} (n : Nat) (h : i.natAbs < 2 ^ n) : Lt2 n i := h
/-- a quotient is no greater -/
theorem Lt2.ediv {n : Nat} {i : Int} (h : Lt2 n i) (d : Nat) : Lt2 n (i / (d : Int)) := by
  unfold Lt2 at *
  refine Nat.lt_of_le_of_lt ?_ h
  exact Int.natAbs_ediv_le_natAbs i d

/-! ### fractions -/
def fr (q : Rat) : PyData := .tuple [.int q.num, .int q.den]
/-- the size of a fraction -/
def Sz (n : Nat) (q : Rat) : Prop := Lt2 n q.num ∧ Lt2 n (q.den : Int)
theorem Sz.mono {n m : Nat} {q : Rat} (h : Sz n q) (l : n ≤ m) : Sz m q := ⟨h.1.mono l, h.2.mono l⟩
theorem sz_divInt {n : Nat} {a b : Int} (h0 : b ≠ 0) (ha : Lt2 n a) (hb : Lt2 n b) : Sz n (Rat.divInt a b) := by
  refine ⟨?_, ?_⟩
  · rw [Rat.num_divInt]
    refine Lt2.ediv ?_ _
    unfold Lt2 at *
    rw [Int.natAbs_mul]
    have : b.sign.natAbs = 1 := by
      rcases Int.lt_trichotomy b 0 with h | h | h
      · rw [Int.sign_eq_neg_one_of_neg h]; rfl
      · exact absurd h h0
      · rw [Int.sign_eq_one_of_pos h]; rfl
    rw [this, Nat.one_mul]; exact ha
  · rw [Rat.den_divInt, if_neg h0]
    unfold Lt2 at *
    rw [Int.natAbs_natCast]
    exact Nat.lt_of_le_of_lt (Nat.div_le_self _ _) hb
end PD
namespace PD
open PySem PySem.Spec PyProof.Rows L2
@[simp] def isIntD : PyData → Bool
  | .none => false
  | .bool _ => false
  | .int _ => true
  | .str _ => false
  | .list _ => false
  | .tuple _ => false
  | .dict _ => false
theorem kii : kitB "int" "int" = some true := by decide +kernel
theorem kib : kitB "int" "bool" = some false := by decide +kernel
theorem kbi : kitB "bool" "int" = some true := by decide +kernel
theorem kbb : kitB "bool" "bool" = some true := by decide +kernel
theorem ksi : kitB "str" "int" = some false := by decide +kernel
theorem kni : kitB "NoneType" "int" = some false := by decide +kernel
theorem kti : kitB "tuple" "int" = some false := by decide +kernel
theorem kli : kitB "list" "int" = some false := by decide +kernel
theorem kit : kitB "int" "tuple" = some false := by decide +kernel
theorem kbt : kitB "bool" "tuple" = some false := by decide +kernel
theorem kst : kitB "str" "tuple" = some false := by decide +kernel
theorem knt : kitB "NoneType" "tuple" = some false := by decide +kernel
theorem ktt : kitB "tuple" "tuple" = some true := by decide +kernel
theorem klt : kitB "list" "tuple" = some false := by decide +kernel
@[simp] def isTupD : PyData → Bool
  | .none => false
  | .bool _ => false
  | .int _ => false
  | .str _ => false
  | .list _ => false
  | .tuple _ => true
  | .dict _ => false
@[simp] def isBoolD : PyData → Bool
  | .none => false
  | .bool _ => true
  | .int _ => false
  | .str _ => false
  | .list _ => false
  | .tuple _ => false
  | .dict _ => false
@[simp] def isDictD : PyData → Bool
  | .none => false
  | .bool _ => false
  | .int _ => false
  | .str _ => false
  | .list _ => false
  | .tuple _ => false
  | .dict _ => true
section
variable {ρ : Rho} {S : Sto} {a : CE} {S' : Sto} {x : PyData}
@[simp] theorem x_isi (T : String) : isiE T a ρ S = (a ρ S).bind fun p => (rd p.2 p.1).bind fun _ => isiF T p.1 p.2 := rfl
@[simp] theorem isi_int_none  : isiF "int" (.d .none) S = some (.d (.bool false), S) := by simp [isiF, tyOf, kni]
@[simp] theorem isi_int_bool (b : Bool) : isiF "int" (.d (.bool b)) S = some (.d (.bool true), S) := by simp [isiF, tyOf, kbi]
@[simp] theorem isi_int_int (i : Int) : isiF "int" (.d (.int i)) S = some (.d (.bool true), S) := by simp [isiF, tyOf, kii]
@[simp] theorem isi_int_str (z : Str) : isiF "int" (.d (.str z)) S = some (.d (.bool false), S) := by simp [isiF, tyOf, ksi]
@[simp] theorem isi_int_list (xs : List PyData) : isiF "int" (.d (.list xs)) S = some (.d (.bool false), S) := by simp [isiF, tyOf, kli]
@[simp] theorem isi_int_tuple (xs : List PyData) : isiF "int" (.d (.tuple xs)) S = some (.d (.bool false), S) := by simp [isiF, tyOf, kti]
@[simp] theorem isi_tuple_none  : isiF "tuple" (.d .none) S = some (.d (.bool false), S) := by simp [isiF, tyOf, knt]
@[simp] theorem isi_tuple_bool (b : Bool) : isiF "tuple" (.d (.bool b)) S = some (.d (.bool false), S) := by simp [isiF, tyOf, kbt]
@[simp] theorem isi_tuple_int (i : Int) : isiF "tuple" (.d (.int i)) S = some (.d (.bool false), S) := by simp [isiF, tyOf, kit]
@[simp] theorem isi_tuple_str (z : Str) : isiF "tuple" (.d (.str z)) S = some (.d (.bool false), S) := by simp [isiF, tyOf, kst]
@[simp] theorem isi_tuple_list (xs : List PyData) : isiF "tuple" (.d (.list xs)) S = some (.d (.bool false), S) := by simp [isiF, tyOf, klt]
@[simp] theorem isi_tuple_tuple (xs : List PyData) : isiF "tuple" (.d (.tuple xs)) S = some (.d (.bool true), S) := by simp [isiF, tyOf, ktt]
@[simp] theorem isi_bool_bool (b : Bool) : isiF "bool" (.d (.bool b)) S = some (.d (.bool true), S) := by simp [isiF, tyOf, kbb]
@[simp] theorem isi_bool_int (i : Int) : isiF "bool" (.d (.int i)) S = some (.d (.bool false), S) := by simp [isiF, tyOf, kib]
end
end PD
namespace PD
open PySem PySem.Spec PyProof.Rows L2
/-! ### comprehensions and loops over mapped lists -/
theorem lcN_map {α : Type} {g : CG} {t : CB} {elt : CE} {ρ : Rho} {S : Sto} (e : α → PyData) (f : α → Rho) (p : α → Bool) (h : α → PyData) : ∀ (l : List α), (∀ x ∈ l, g (.d (e x)) ρ S = some (f x, S)) → (∀ x ∈ l, t (f x) S = some (p x, S)) →
    (∀ x ∈ l, p x = true → elt (f x) S = some (.d (h x), S)) → lcN g t elt ρ (l.map e) S = some ((l.filter p).map h, S)
  | [], _, _, _ => rfl
  | x :: l, hg, ht, he => by
    have ih := lcN_map e f p h l (fun y m => hg y (List.mem_cons_of_mem _ m)) (fun y m => ht y (List.mem_cons_of_mem _ m)) fun y m => he y (List.mem_cons_of_mem _ m)
    rw [List.map_cons, x_lcN, hg x List.mem_cons_self, Option.bind_some, ht x List.mem_cons_self, Option.bind_some, List.filter_cons]
    cases hp : p x with
    | true =>
      simp only [if_true]
      rw [he x List.mem_cons_self hp, Option.bind_some]
      show (lcN g t elt ρ (l.map e) S).bind _ = _
      rw [ih]; rfl
    | false =>
      simp only [Bool.false_eq_true, if_false]
      exact ih
/-- all of them -/
theorem lcN_each {α : Type} {g : CG} {elt : CE} {ρ : Rho} {S : Sto} (e : α → PyData) (f : α → Rho) (h : α → PyData) (l : List α) (hg : ∀ x ∈ l, g (.d (e x)) ρ S = some (f x, S)) (he : ∀ x ∈ l, elt (f x) S = some (.d (h x), S)) :
    lcN g yesB elt ρ (l.map e) S = some (l.map h, S) := by
  rw [lcN_map e f (fun _ => true) h l hg (fun _ _ => rfl) fun x m _ => he x m, List.filter_eq_self.mpr fun _ _ => rfl]
@[simp] theorem x_eqNil : eqP (.list []) (.list []) = some (.bool true) := by unfold eqP; rw [if_pos (by rfl)]; rfl
@[simp] theorem x_neNil : neP (.list []) (.list []) = some (.bool false) := by unfold neP; rw [if_pos (by rfl)]; rfl
@[simp] theorem cut1 (x : PyData) (xs : List PyData) : cutP (x :: xs) (some 1) none = xs := by
  unfold cutP
  rw [show (some (1 : Int)) = some ((1 : Nat) : Int) from rfl, HT.sIx_nat, HT.sIx_none]
  simp
def prs {α : Type} : List α → List (α × α)
  | x :: y :: r => (x, y) :: prs (y :: r)
  | _ => []
theorem zipD_prs {α : Type} (f : α → PyData) : ∀ (l : List α), zipD (l.map f) ((l.map f).drop 1) = (prs l).map fun p => .tuple [f p.1, f p.2]
  | [] => rfl
  | [_] => rfl
  | x :: y :: r => by
    have ih := zipD_prs f (y :: r)
    show PyData.tuple [f x, f y] :: zipD ((y :: r).map f) (r.map f) = _
    rw [show r.map f = ((y :: r).map f).drop 1 from rfl, ih]
    rfl
theorem prs_len {α : Type} : ∀ l : List α, (prs l).length = l.length - 1
  | [] => rfl
  | [_] => rfl
  | x :: y :: r => by
    show (prs (y :: r)).length + 1 = _
    rw [prs_len (y :: r)]
    simp
theorem prs_mem {α : Type} : ∀ {l : List α} {p : α × α}, p ∈ prs l → p.1 ∈ l ∧ p.2 ∈ l
  | [], _, h => by cases h
  | [_], _, h => by cases h
  | x :: y :: r, p, h => by
    rcases List.mem_cons.mp h with rfl | h
    · exact ⟨List.mem_cons_self, List.mem_cons_of_mem _ List.mem_cons_self⟩
    · have := prs_mem h
      exact ⟨List.mem_cons_of_mem _ this.1, List.mem_cons_of_mem _ this.2⟩
theorem drop1_cut (xs : List PyData) (h : xs ≠ []) : cutP xs (some 1) none = xs.drop 1 := by
  cases xs with
  | nil => exact absurd rfl h
  | cons x r => rw [cut1]; rfl
theorem lcN_none {α : Type} {g : CG} {t : CB} {elt : CE} {ρ : Rho} {S : Sto} (e : α → PyData) (f : α → Rho) (l : List α) (hg : ∀ x ∈ l, g (.d (e x)) ρ S = some (f x, S)) (ht : ∀ x ∈ l, t (f x) S = some (false, S)) :
    lcN g t elt ρ (l.map e) S = some ([], S) := by
  rw [lcN_map e f (fun _ => false) (fun _ => PyData.none) l hg ht (fun x m h => absurd h (by simp))]
  have : l.filter (fun _ => false) = [] := List.filter_eq_nil_iff.mpr fun _ _ => by simp
  rw [this]; rfl
theorem at_last {α : Type} (xs : List α) (x : α) : atI (xs ++ [x]) (-1) = some x := by
  unfold atI ixN
  rw [if_neg (by omega), if_pos (by simp; omega)]
  simp
  rw [show ((-1 : Int) + ((xs.length : Int) + 1)).toNat = xs.length by omega]
  simp
theorem cut_mid (xs : List PyData) (h : 2 ≤ xs.length) : cutP xs (some 1) (some (-1)) = xs.tail.dropLast := by
  unfold cutP HT.sIx
  simp
  cases xs with
  | nil => simp at h
  | cons x r =>
    simp [List.dropLast_eq_take] at h ⊢
    congr 1
    omega
theorem cut_to (xs : List PyData) (k : Nat) : cutP xs none (some (k : Int)) = xs.take k := by
  unfold cutP
  rw [HT.sIx_nat, HT.sIx_none]
  simp
theorem cut_of (xs : List PyData) (k : Nat) : cutP xs (some (k : Int)) none = xs.drop k := by
  unfold cutP
  rw [HT.sIx_nat, HT.sIx_none]
  rw [List.take_of_length_le (by simp)]
  by_cases h : k ≤ xs.length
  · rw [Nat.min_eq_left h]
  · rw [Nat.min_eq_right (by omega), List.drop_length, List.drop_eq_nil_of_le (by omega)]
/-- one round of a loop: what it leads to -/
inductive Step {β : Type} (R : β → Rho) (V : β → Sto) (J : β → Prop) (out : Fl → Rho → Sto → Prop) : Option (Fl × Rho × Sto) → Prop where
  | nx (s' : β) (h : J s') : Step R V J out (some (.nx, R s', V s'))
  | ct (s' : β) (h : J s') : Step R V J out (some (.ct, R s', V s'))
  | bk {ρ : Rho} {S : Sto} (h : out .nx ρ S) : Step R V J out (some (.bk, ρ, S))
  | rt {w : W} {ρ : Rho} {S : Sto} (h : out (.rt w) ρ S) : Step R V J out (some (.rt w, ρ, S))
theorem Step.nx' {β : Type} {R : β → Rho} {V : β → Sto} {J : β → Prop} {out : Fl → Rho → Sto → Prop} {o : Option (Fl × Rho × Sto)} (s' : β) (h : J s') (e : o = some (.nx, R s', V s')) : Step R V J out o := e ▸ .nx s' h
theorem Step.rt' {β : Type} {R : β → Rho} {V : β → Sto} {J : β → Prop} {out : Fl → Rho → Sto → Prop} {o : Option (Fl × Rho × Sto)} {w : W} {ρ : Rho} {S : Sto} (h : out (.rt w) ρ S) (e : o = some (.rt w, ρ, S)) : Step R V J out o := e ▸ .rt h
theorem Step.bk' {β : Type} {R : β → Rho} {V : β → Sto} {J : β → Prop} {out : Fl → Rho → Sto → Prop} {o : Option (Fl × Rho × Sto)} {ρ : Rho} {S : Sto} (h : out .nx ρ S) (e : o = some (.bk, ρ, S)) : Step R V J out o := e ▸ .bk h
/-- a loop over a mapped list: an invariant I of what is still to go and of the state, and what it may end in -/
theorem forN_loop {α β : Type} {g : CG} {b : CS} (e : α → PyData) (R : β → Rho) (V : β → Sto) (I : List α → β → Prop) (out : Fl → Rho → Sto → Prop)
    (h0 : ∀ s, I [] s → out .nx (R s) (V s))
    (h1 : ∀ x l s, I (x :: l) s → Step R V (I l) out ((g (.d (e x)) (R s) (V s)).bind fun p => b p.1 p.2)) : ∀ (l : List α) (s : β), I l s → ∃ fl ρ S, forN g b (l.map e) (R s) (V s) = some (fl, ρ, S) ∧ out fl ρ S
  | [], s, h => ⟨_, _, _, rfl, h0 s h⟩
  | x :: l, s, h => by
    have st := h1 x l s h
    rw [List.map_cons, x_forN]
    generalize hg : g (.d (e x)) (R s) (V s) = gg at st
    cases gg with
    | none => cases st
    | some p =>
      rw [Option.bind_some] at st ⊢
      generalize b p.1 p.2 = o at st
      cases st with
      | nx s' h3 => exact forN_loop e R V I out h0 h1 l s' h3
      | ct s' h3 => exact forN_loop e R V I out h0 h1 l s' h3
      | bk h2 => exact ⟨_, _, _, rfl, h2⟩
      | rt h2 => exact ⟨_, _, _, rfl, h2⟩
theorem forN_bind {α β γ : Type} {g : CG} {b : CS} {ρ0 : Rho} {S0 : Sto} {K : Fl × Rho × Sto → Option γ} (P : Option γ → Prop) (e : α → PyData) (R : β → Rho) (V : β → Sto) (I : List α → β → Prop) (out : Fl → Rho → Sto → Prop)
    (l : List α) (s : β) (hI : I l s) (hρ : ρ0 = R s) (hS : S0 = V s)
    (h0 : ∀ s, I [] s → out .nx (R s) (V s))
    (h1 : ∀ x l s, I (x :: l) s → Step R V (I l) out ((g (.d (e x)) (R s) (V s)).bind fun p => b p.1 p.2))
    (hK : ∀ fl ρ S, out fl ρ S → P (K (fl, ρ, S))) : P ((forN g b (l.map e) ρ0 S0).bind K) := by
  subst hρ hS
  obtain ⟨fl, ρ, S, h, o⟩ := forN_loop (g := g) (b := b) e R V I out h0 h1 l s hI
  rw [h, Option.bind_some]
  exact hK _ _ _ o
end PD

/-! PD, part 10: while loops, tests of values, ranges. -/
namespace PD
open PySem PySem.Spec PyProof.Rows L2
theorem whileN_loop {β : Type} {t : CB} {b : CS} (R : β → Rho) (V : β → Sto) (I : Nat → β → Prop) (out : Fl → Rho → Sto → Prop) (h0 : ∀ s, ¬ I 0 s)
    (h1 : ∀ n s, I (n + 1) s → (t (R s) (V s) = some (false, V s) ∧ out .nx (R s) (V s)) ∨ (t (R s) (V s) = some (true, V s) ∧ Step R V (I n) out (b (R s) (V s)))) : ∀ (n : Nat) (s : β), I n s → ∃ fl ρ S, whileN t b n (R s) (V s) = some (fl, ρ, S) ∧ out fl ρ S
  | 0, s, h => absurd h (h0 s)
  | n + 1, s, h => by
    show ∃ fl ρ S, ((t (R s) (V s)).bind _) = _ ∧ _
    rcases h1 n s h with ⟨e, o⟩ | ⟨e, st⟩
    · rw [e]; exact ⟨_, _, _, rfl, o⟩
    · rw [e, Option.bind_some, if_pos rfl]
      generalize b (R s) (V s) = q at st
      cases st with
      | nx s' h3 => exact whileN_loop R V I out h0 h1 n s' h3
      | ct s' h3 => exact whileN_loop R V I out h0 h1 n s' h3
      | bk h2 => exact ⟨_, _, _, rfl, h2⟩
      | rt h2 => exact ⟨_, _, _, rfl, h2⟩
theorem whileS_bind {β γ : Type} {t : CB} {b : CS} {ρ0 : Rho} {S0 : Sto} {K : Fl × Rho × Sto → Option γ} (P : Option γ → Prop) (R : β → Rho) (V : β → Sto) (I : Nat → β → Prop) (out : Fl → Rho → Sto → Prop)
    (s : β) (hI : I fuel s) (hρ : ρ0 = R s) (hS : S0 = V s) (h0 : ∀ s, ¬ I 0 s)
    (h1 : ∀ n s, I (n + 1) s → (t (R s) (V s) = some (false, V s) ∧ out .nx (R s) (V s)) ∨ (t (R s) (V s) = some (true, V s) ∧ Step R V (I n) out (b (R s) (V s))))
    (hK : ∀ fl ρ S, out fl ρ S → P (K (fl, ρ, S))) : P ((whileS t b ρ0 S0).bind K) := by
  subst hρ hS
  obtain ⟨fl, ρ, S, h, o⟩ := whileN_loop (t := t) (b := b) R V I out h0 h1 fuel s hI
  unfold whileS
  rw [h, Option.bind_some]
  exact hK _ _ _ o
theorem canLay_frs : ∀ l : List Rat, PyData.canLayAll0 (l.map fr) = true
  | [] => rfl
  | q :: l => by
    have := canLay_frs l
    simp [PyData.canLayAll0, fr, PyData.canLay0, this]
theorem neP_frs (l : List Rat) : neP (.list (l.map fr)) (.list []) = some (.bool (!l.isEmpty)) := by
  unfold neP eqOk
  rw [if_pos (by simp [PyData.canLay0, canLay_frs, PyData.depth, PyData.canLayAll0, PyData.depthAll])]
  cases l with
  | nil => rfl
  | cons q l => simp [PyData.eqv, PyData.eqvAll]
theorem eqP_fr (q : Rat) : eqP (fr q) (fr q) = some (.bool true) := by
  unfold eqP eqOk
  rw [if_pos (by simp [fr, PyData.canLay0, PyData.canLayAll0, PyData.depth, PyData.depthAll])]
  simp [fr, PyData.eqv, PyData.eqvAll]
theorem reprP_bool (b : Bool) : ∃ z, reprP [.bool b] = some (.str z) ∧ neP (.str z) (.str z) = some (.bool false) := by
  refine ⟨(PyData.bool b).shown, ?_, ?_⟩
  · show (if _ then _ else _) = _
    rw [if_pos (by cases b <;> decide +kernel)]
  · unfold neP eqOk
    rw [if_pos (by cases b <;> decide +kernel)]
    simp [PyData.eqv]
theorem eqP_bool (a b : Bool) : eqP (.bool a) (.bool b) = some (.bool (a == b)) := by
  unfold eqP eqOk
  rw [if_pos (by simp [PyData.canLay0, PyData.depth])]
  simp [PyData.eqv]
/-- numbers from nought up, beside a list -/
theorem range_zip {α : Type} (l : List α) : rangeD 0 l.length = l.zipIdx.map fun t => PyData.int (t.2 : Nat) := by
  unfold rangeD
  apply List.ext_getElem
  · simp
  · intro i h1 h2; simp
theorem x_pow (i j : Int) : powP (.int i) (.int j) = if 0 ≤ j ∧ j ≤ 1000000 ∧ i.natAbs < 2 ^ 64 then some (.int (i ^ j.toNat)) else none := rfl
@[simp] theorem x_dm (i j : Int) : divmodP [.int i, .int j] = if 0 < j ∧ j < 1073741824 then some (.tuple [.int (i / j), .int (i % j)]) else none := rfl
@[simp] theorem x_append (a e : CE) (ρ : Rho) (S : Sto) : appendE a e ρ S = (a ρ S).bind fun p => (cellOf p.1).bind fun n => (liveAt p.2 n).bind fun _ => (e ρ p.2).bind fun q => (asD q.1).bind fun x => (liveAt q.2 n).bind fun xs =>
  if xs.length < lim then some (.d .none, q.2.set n (some (xs ++ [x]))) else none := rfl
@[simp] theorem x_brk (ρ : Rho) (S : Sto) : brkS ρ S = some (.bk, ρ, S) := rfl
@[simp] theorem x_cnt (ρ : Rho) (S : Sto) : cntS ρ S = some (.ct, ρ, S) := rfl
@[simp] theorem x_cellOf (n : Nat) : cellOf (.m n) = some n := rfl
@[simp] theorem x_asD (x : PyData) : asD (.d x) = some x := rfl
@[simp] theorem x_live (S : Sto) (n : Nat) : liveAt S n = match S[n]? with
  | some (some xs) => some xs
  | _ => none := rfl
section
variable {S0 r : Sto} {a b x : Option (List PyData)}
@[simp] theorem st_get0 : (S0 ++ a :: r)[S0.length]? = some a := by simp
@[simp] theorem st_get1 : (S0 ++ a :: b :: r)[S0.length + 1]? = some b := by simp
@[simp] theorem st_set0 : (S0 ++ a :: r).set S0.length x = S0 ++ x :: r := by simp
@[simp] theorem st_set1 : (S0 ++ a :: b :: r).set (S0.length + 1) x = S0 ++ a :: x :: r := by rw [List.set_append_right _ _ (by omega)]; simp
@[simp] theorem st_take : (S0 ++ a :: r).take (S0.length + 1) = S0 ++ [a] := by
  rw [show S0 ++ a :: r = (S0 ++ [a]) ++ r by simp]
  exact List.take_left' (by simp)
@[simp] theorem st_all : (S0 ++ a :: r).take (S0.length + (r.length + 1)) = S0 ++ a :: r := List.take_of_length_le (by simp)
end
end PD

/-! PD, part 11: repr of nested data, told alike. -/
namespace PD
open PySem PySem.Spec PyProof.Rows L2
open PySem.PyData (strOk)
theorem len_append (a b : Str) : (a ++ b).length = a.length + b.length := by
  show (Str.append a b).cps.size = _
  unfold Str.append Str.length; simp
theorem ok_append (a b : Str) : strOk (a ++ b) = (strOk a && strOk b) := by
  show strOk (Str.append a b) = _
  unfold Str.append PyData.strOk; simp [Array.all_append]
theorem len_ofString (s : String) : (Str.ofString s).length = s.toList.length := by
  rw [Str.ofString_eq_toList]; unfold Str.length; simp
theorem ok_ofString (s : String) : strOk (Str.ofString s) = true := by
  rw [Str.ofString_eq_toList]
  unfold PyData.strOk
  simp only [List.all_toArray, List.all_map, List.all_eq_true]
  intro c _
  have := c.valid
  simp only [Function.comp, decide_eq_true_eq]
  rcases this with h | ⟨_, h⟩
  · show c.val.toNat < _
    omega
  · exact h
/-- text of no more than L signs -/
def Tx (L : Nat) (s : Str) : Prop := s.length ≤ L ∧ strOk s = true
theorem Tx.mono {L M : Nat} {s : Str} (h : Tx L s) (l : L ≤ M) : Tx M s := ⟨Nat.le_trans h.1 l, h.2⟩
theorem Tx.app {L M : Nat} {a b : Str} (h : Tx L a) (g : Tx M b) : Tx (L + M) (a ++ b) := ⟨by rw [len_append]; exact Nat.add_le_add h.1 g.1, by rw [ok_append, h.2, g.2]; rfl⟩
theorem tx_str (s : String) {L : Nat} (h : s.toList.length ≤ L) : Tx L (Str.ofString s) := ⟨by rw [len_ofString]; exact h, ok_ofString s⟩
theorem tx_int {n : Nat} {i : Int} (h : Lt2 n i) : Tx (n + 2) (PyData.int i).shown := by
  have e : (PyData.int i).shown = Str.ofString (toString i) := by simp [PyData.shown]
  rw [e]
  refine tx_str _ ?_
  have key : ∀ m : Nat, m < 2 ^ n → (Nat.toDigits 10 m).length ≤ n + 1 := fun m hm => by
    rw [Nat.length_toDigits_le_iff (by decide) (by omega)]
    refine Nat.lt_of_lt_of_le hm ?_
    exact Nat.le_trans (Nat.pow_le_pow_left (by decide) n) (Nat.pow_le_pow_right (by decide) (by omega))
  unfold Lt2 at h
  cases i with
  | ofNat m =>
    have h2 := key m h
    have e2 : (toString (Int.ofNat m)).toList = Nat.toDigits 10 m := by
      show (Nat.repr m).toList = _
      simp [Nat.repr]
    rw [e2]; omega
  | negSucc m =>
    have h2 := key (m + 1) h
    have e2 : (toString (Int.negSucc m)).toList = '-' :: Nat.toDigits 10 (m + 1) := by
      show ("-" ++ Nat.repr (m + 1)).toList = _
      simp [Nat.repr]
    rw [e2]; simp; omega
theorem tx_text {L : Nat} : ∀ (ts : List Str) (k M : Nat) (acc : Str), (∀ t ∈ ts, Tx L t) → Tx M acc → Tx (M + ts.length * (L + 2)) (textFrom k acc ts)
  | [], k, M, acc, _, h => by unfold textFrom; exact h.mono (by simp)
  | t :: ts, k, M, acc, ht, h => by
    unfold textFrom
    have h1 : Tx 2 (Str.ofString (if k > 0 then ", " else "" : String)) := by
      split
      · exact tx_str _ (by decide)
      · exact tx_str _ (by decide)
    refine (tx_text ts (k + 1) (M + 2 + L) _ (fun u m => ht u (List.mem_cons_of_mem _ m)) ((h.app h1).app (ht t List.mem_cons_self))).mono ?_
    simp only [List.length_cons, Nat.add_mul]
    omega
theorem tx_list {L : Nat} (ts : List Str) (h : ∀ t ∈ ts, Tx L t) : Tx (ts.length * (L + 2) + 2) (listText ts) := by
  unfold listText
  refine ((tx_text ts 0 1 _ h (tx_str _ (by decide))).app (tx_str (L := 1) _ (by decide))).mono (by omega)
theorem tx_join {L : Nat} {sep : Str} (hs : Tx 2 sep) : ∀ (ts : List Str), (∀ t ∈ ts, Tx L t) → Tx (ts.length * (L + 2)) (sep.join ts)
  | [], _ => by unfold Str.join; exact ⟨by simp [Str.empty, Str.length], by decide +kernel⟩
  | [t], h => by unfold Str.join; exact (h t List.mem_cons_self).mono (by simp)
  | t :: u :: ts, h => by
    unfold Str.join
    refine (((h t List.mem_cons_self).app hs).app (tx_join hs (u :: ts) fun v m => h v (List.mem_cons_of_mem _ m))).mono ?_
    simp only [List.length_cons, Nat.add_mul]; omega
theorem tx_tuple {L : Nat} (ts : List Str) (h : ∀ t ∈ ts, Tx L t) : Tx (ts.length * (L + 2) + 3) (tupleText ts) := by
  unfold tupleText
  have h2 : Tx 2 (Str.ofString (if (ts.length == 1) = true then ",)" else ")")) := by
    split
    · exact tx_str _ (by decide)
    · exact tx_str _ (by decide)
  refine (((tx_str (L := 1) "(" (by decide)).app (tx_join (tx_str _ (by decide)) ts h)).app h2).mono (by omega)
/-- data that repr tells: depth and length -/
structure Shw (D L : Nat) (x : PyData) : Prop where
  sh : x.showable = true
  nd : x.hasDict = false
  dp : x.depth ≤ D
  tx : Tx L x.shown
theorem Shw.mono {D L D' L' : Nat} {x : PyData} (h : Shw D L x) (d : D ≤ D') (l : L ≤ L') : Shw D' L' x := ⟨h.sh, h.nd, Nat.le_trans h.dp d, h.tx.mono l⟩
theorem shw_int {n : Nat} {i : Int} (h : Lt2 n i) (hn : n < 1920) : Shw 0 (n + 2) (.int i) :=
  ⟨by unfold PyData.showable; exact decide_eq_true (Nat.lt_of_le_of_lt h.log hn), by simp [PyData.hasDict], by simp [PyData.depth], tx_int h⟩
theorem shw_bool (b : Bool) : Shw 0 5 (.bool b) := ⟨rfl, rfl, by simp [PyData.depth], by cases b <;> exact tx_str _ (by decide)⟩
theorem shw_none : Shw 0 4 .none := ⟨rfl, rfl, by simp [PyData.depth], tx_str _ (by decide)⟩
theorem shownAll_eq : ∀ xs : List PyData, PyData.shownAll xs = xs.map PyData.shown
  | [] => rfl
  | x :: xs => by simp [PyData.shownAll, shownAll_eq xs]
theorem showableAll_of : ∀ {xs : List PyData}, (∀ x ∈ xs, x.showable = true) → PyData.showableAll xs = true
  | [], _ => rfl
  | x :: xs, h => by simp [PyData.showableAll, h x List.mem_cons_self, showableAll_of fun y m => h y (List.mem_cons_of_mem _ m)]
theorem hasDictAll_of : ∀ {xs : List PyData}, (∀ x ∈ xs, x.hasDict = false) → PyData.hasDictAll xs = false
  | [], _ => rfl
  | x :: xs, h => by simp [PyData.hasDictAll, h x List.mem_cons_self, hasDictAll_of fun y m => h y (List.mem_cons_of_mem _ m)]
theorem depthAll_of {D : Nat} : ∀ {xs : List PyData}, (∀ x ∈ xs, x.depth ≤ D) → PyData.depthAll xs ≤ D
  | [], _ => by simp [PyData.depthAll]
  | x :: xs, h => by
    have h1 := h x List.mem_cons_self
    have h2 := depthAll_of fun y m => h y (List.mem_cons_of_mem _ m)
    simp only [PyData.depthAll]; omega
theorem shw_list {D L : Nat} {xs : List PyData} (h : ∀ x ∈ xs, Shw D L x) : Shw (D + 1) (xs.length * (L + 2) + 2) (.list xs) :=
  ⟨by unfold PyData.showable; exact showableAll_of fun x m => (h x m).sh, by unfold PyData.hasDict; exact hasDictAll_of fun x m => (h x m).nd,
    by have := depthAll_of fun x m => (h x m).dp; simp only [PyData.depth]; omega, by
    unfold PyData.shown
    rw [shownAll_eq]
    refine (tx_list (L := L) (xs.map PyData.shown) fun t m => ?_).mono (by simp)
    obtain ⟨x, mx, rfl⟩ := List.mem_map.mp m
    exact (h x mx).tx⟩
theorem shw_tuple {D L : Nat} {xs : List PyData} (h : ∀ x ∈ xs, Shw D L x) : Shw (D + 1) (xs.length * (L + 2) + 3) (.tuple xs) :=
  ⟨by unfold PyData.showable; exact showableAll_of fun x m => (h x m).sh, by unfold PyData.hasDict; exact hasDictAll_of fun x m => (h x m).nd,
    by have := depthAll_of fun x m => (h x m).dp; simp only [PyData.depth]; omega, by
    unfold PyData.shown
    rw [shownAll_eq]
    refine (tx_tuple (L := L) (xs.map PyData.shown) fun t m => ?_).mono (by simp)
    obtain ⟨x, mx, rfl⟩ := List.mem_map.mp m
    exact (h x mx).tx⟩
theorem shw_fr {n : Nat} {q : Rat} (h : Sz n q) (hn : n < 1920) : Shw 1 (2 * n + 11) (fr q) := by
  refine (shw_tuple (D := 0) (L := n + 2) (xs := [.int q.num, .int q.den]) fun x m => ?_).mono (by omega) (by simp; omega)
  simp at m
  rcases m with rfl | rfl
  · exact shw_int h.1 hn
  · exact shw_int h.2 hn
/-- repr of the same thing twice -/
theorem repr_ok {x : PyData} {D L : Nat} (h : Shw D L x) (hd : D ≤ 64) (hl : L ≤ 100000) : reprP [x] = some (.str x.shown) := by
  show (if _ then _ else _) = _
  rw [if_pos ⟨h.sh, h.nd, Nat.le_trans h.dp hd, Nat.le_trans h.tx.1 hl⟩]
theorem neP_str {D L : Nat} {x : PyData} (h : Shw D L x) : neP (.str x.shown) (.str x.shown) = some (.bool false) := by
  unfold neP eqOk
  rw [if_pos (by simp [PyData.canLay0, h.tx.2, PyData.depth])]
  simp [PyData.eqv]
theorem eqP_str {D L : Nat} {x : PyData} (h : Shw D L x) : eqP (.str x.shown) (.str x.shown) = some (.bool true) := by
  unfold eqP eqOk
  rw [if_pos (by simp [PyData.canLay0, h.tx.2, PyData.depth])]
  simp [PyData.eqv]
end PD

namespace Prog
open PySem PySem.Spec PyProof.Rows L2 PD
def topS (i : Nat) : Stmt := PySem.Challenge.pw_roadcrowds_k49_whole_scenes_that_part_ki.main.body.getD i (.Pass ⟨0, 0, 0, 0⟩)
abbrev s_is_whole : Stmt := topS 2
abbrev p_is_whole : List Str := ["value"]
abbrev a_is_whole : List (Nat × List Str × List Nat) := []
abbrev c_is_whole (r : Runs) : PD.Callee := ⟨p_is_whole, r "is_whole", a_is_whole⟩
abbrev s_are_wholes : Stmt := topS 3
abbrev p_are_wholes : List Str := ["value", "many"]
abbrev a_are_wholes : List (Nat × List Str × List Nat) := []
abbrev c_are_wholes (r : Runs) : PD.Callee := ⟨p_are_wholes, r "are_wholes", a_are_wholes⟩
abbrev s_common_part : Stmt := topS 4
abbrev p_common_part : List Str := ["numbers"]
abbrev a_common_part : List (Nat × List Str × List Nat) := []
abbrev c_common_part (r : Runs) : PD.Callee := ⟨p_common_part, r "common_part", a_common_part⟩
abbrev s_lowest : Stmt := topS 5
abbrev p_lowest : List Str := ["numbers"]
abbrev a_lowest : List (Nat × List Str × List Nat) := []
abbrev c_lowest (r : Runs) : PD.Callee := ⟨p_lowest, r "lowest", a_lowest⟩
abbrev s_lowest_over : Stmt := topS 6
abbrev p_lowest_over : List Str := ["numbers", "below"]
abbrev a_lowest_over : List (Nat × List Str × List Nat) := []
abbrev c_lowest_over (r : Runs) : PD.Callee := ⟨p_lowest_over, r "lowest_over", a_lowest_over⟩
abbrev s_ratio : Stmt := topS 7
abbrev p_ratio : List Str := ["top", "below"]
abbrev a_ratio : List (Nat × List Str × List Nat) := []
abbrev c_ratio (r : Runs) : PD.Callee := ⟨p_ratio, r "ratio", a_ratio⟩
abbrev s_plus : Stmt := topS 10
abbrev p_plus : List Str := ["one", "other"]
abbrev a_plus : List (Nat × List Str × List Nat) := []
abbrev c_plus (r : Runs) : PD.Callee := ⟨p_plus, r "plus", a_plus⟩
abbrev s_minus : Stmt := topS 11
abbrev p_minus : List Str := ["one", "other"]
abbrev a_minus : List (Nat × List Str × List Nat) := []
abbrev c_minus (r : Runs) : PD.Callee := ⟨p_minus, r "minus", a_minus⟩
abbrev s_times : Stmt := topS 12
abbrev p_times : List Str := ["one", "other"]
abbrev a_times : List (Nat × List Str × List Nat) := []
abbrev c_times (r : Runs) : PD.Callee := ⟨p_times, r "times", a_times⟩
abbrev s_divided : Stmt := topS 13
abbrev p_divided : List Str := ["one", "other"]
abbrev a_divided : List (Nat × List Str × List Nat) := []
abbrev c_divided (r : Runs) : PD.Callee := ⟨p_divided, r "divided", a_divided⟩
abbrev s_is_below : Stmt := topS 14
abbrev p_is_below : List Str := ["one", "other"]
abbrev a_is_below : List (Nat × List Str × List Nat) := []
abbrev c_is_below (r : Runs) : PD.Callee := ⟨p_is_below, r "is_below", a_is_below⟩
abbrev s_is_fraction : Stmt := topS 20
abbrev p_is_fraction : List Str := ["value"]
abbrev a_is_fraction : List (Nat × List Str × List Nat) := []
abbrev c_is_fraction (r : Runs) : PD.Callee := ⟨p_is_fraction, r "is_fraction", a_is_fraction⟩
abbrev s_is_amount : Stmt := topS 21
abbrev p_is_amount : List Str := ["value"]
abbrev a_is_amount : List (Nat × List Str × List Nat) := []
abbrev c_is_amount (r : Runs) : PD.Callee := ⟨p_is_amount, r "is_amount", a_is_amount⟩
abbrev s_are_fractions : Stmt := topS 22
abbrev p_are_fractions : List Str := ["value", "many"]
abbrev a_are_fractions : List (Nat × List Str × List Nat) := []
abbrev c_are_fractions (r : Runs) : PD.Callee := ⟨p_are_fractions, r "are_fractions", a_are_fractions⟩
abbrev s_check_amount : Stmt := topS 23
abbrev p_check_amount : List Str := ["value"]
abbrev a_check_amount : List (Nat × List Str × List Nat) := []
abbrev c_check_amount (r : Runs) : PD.Callee := ⟨p_check_amount, r "check_amount", a_check_amount⟩
abbrev s_slope_of : Stmt := topS 27
abbrev p_slope_of : List Str := ["corner", "other"]
abbrev a_slope_of : List (Nat × List Str × List Nat) := []
abbrev c_slope_of (r : Runs) : PD.Callee := ⟨p_slope_of, r "slope_of", a_slope_of⟩
abbrev s_kind_speeds : Stmt := topS 28
abbrev p_kind_speeds : List Str := ["kind"]
abbrev a_kind_speeds : List (Nat × List Str × List Nat) := []
abbrev c_kind_speeds (r : Runs) : PD.Callee := ⟨p_kind_speeds, r "kind_speeds", a_kind_speeds⟩
abbrev s_is_kind : Stmt := topS 29
abbrev p_is_kind : List Str := ["value"]
abbrev a_is_kind : List (Nat × List Str × List Nat) := []
abbrev c_is_kind (r : Runs) : PD.Callee := ⟨p_is_kind, r "is_kind", a_is_kind⟩
abbrev s_is_corner : Stmt := topS 30
abbrev p_is_corner : List Str := ["value"]
abbrev a_is_corner : List (Nat × List Str × List Nat) := []
abbrev c_is_corner (r : Runs) : PD.Callee := ⟨p_is_corner, r "is_corner", a_is_corner⟩
abbrev s_check_kind : Stmt := topS 31
abbrev p_check_kind : List Str := ["value"]
abbrev a_check_kind : List (Nat × List Str × List Nat) := []
abbrev c_check_kind (r : Runs) : PD.Callee := ⟨p_check_kind, r "check_kind", a_check_kind⟩
abbrev s_full_density : Stmt := topS 32
abbrev p_full_density : List Str := ["kind"]
abbrev a_full_density : List (Nat × List Str × List Nat) := []
abbrev c_full_density (r : Runs) : PD.Callee := ⟨p_full_density, r "full_density", a_full_density⟩
abbrev s_flow_by : Stmt := topS 33
abbrev p_flow_by : List Str := ["kind", "density"]
abbrev a_flow_by : List (Nat × List Str × List Nat) := []
abbrev c_flow_by (r : Runs) : PD.Callee := ⟨p_flow_by, r "flow_by", a_flow_by⟩
abbrev s_check_kinds : Stmt := topS 36
abbrev p_check_kinds : List Str := ["kind", "other"]
abbrev a_check_kinds : List (Nat × List Str × List Nat) := []
abbrev c_check_kinds (r : Runs) : PD.Callee := ⟨p_check_kinds, r "check_kinds", a_check_kinds⟩
abbrev s_bare_by : Stmt := topS 37
abbrev p_bare_by : List Str := ["kind", "other"]
abbrev a_bare_by : List (Nat × List Str × List Nat) := []
abbrev c_bare_by (r : Runs) : PD.Callee := ⟨p_bare_by, r "bare_by", a_bare_by⟩
abbrev s_scene_parted : Stmt := topS 38
abbrev p_scene_parted : List Str := ["kind", "other", "length"]
abbrev a_scene_parted : List (Nat × List Str × List Nat) := []
abbrev c_scene_parted (r : Runs) : PD.Callee := ⟨p_scene_parted, r "scene_parted", a_scene_parted⟩
abbrev s_parting_scene : Stmt := topS 39
abbrev p_parting_scene : List Str := ["kind", "other", "length"]
abbrev a_parting_scene : List (Nat × List Str × List Nat) := [(0, ["length", "other", "kind"], [2, 1, 0])]
abbrev c_parting_scene (r : Runs) : PD.Callee := ⟨p_parting_scene, r "parting_scene", a_parting_scene⟩
abbrev s_L_cask : Stmt := topS 41
abbrev p_L_cask : List Str := ["script", "turn"]
abbrev a_L_cask : List (Nat × List Str × List Nat) := []
abbrev c_L_cask (r : Runs) : PD.Callee := ⟨p_L_cask, r "_law_cask", a_L_cask⟩
abbrev s_L_tap : Stmt := topS 42
abbrev p_L_tap : List Str := ["cask", "top"]
abbrev a_L_tap : List (Nat × List Str × List Nat) := []
abbrev c_L_tap (r : Runs) : PD.Callee := ⟨p_L_tap, r "_law_tap", a_L_tap⟩
abbrev s_L_of : Stmt := topS 43
abbrev p_L_of : List Str := ["cask", "some"]
abbrev a_L_of : List (Nat × List Str × List Nat) := []
abbrev c_L_of (r : Runs) : PD.Callee := ⟨p_L_of, r "_law_of", a_L_of⟩
abbrev s_L_cut : Stmt := topS 44
abbrev p_L_cut : List Str := ["up", "low"]
abbrev a_L_cut : List (Nat × List Str × List Nat) := []
abbrev c_L_cut (r : Runs) : PD.Callee := ⟨p_L_cut, r "_law_cut", a_L_cut⟩
abbrev s_L_even : Stmt := topS 45
abbrev p_L_even : List Str := ["a"]
abbrev a_L_even : List (Nat × List Str × List Nat) := []
abbrev c_L_even (r : Runs) : PD.Callee := ⟨p_L_even, r "_law_even", a_L_even⟩
abbrev s_L_sum : Stmt := topS 46
abbrev p_L_sum : List Str := ["a", "b"]
abbrev a_L_sum : List (Nat × List Str × List Nat) := []
abbrev c_L_sum (r : Runs) : PD.Callee := ⟨p_L_sum, r "_law_sum", a_L_sum⟩
abbrev s_L_gap : Stmt := topS 47
abbrev p_L_gap : List Str := ["a", "b"]
abbrev a_L_gap : List (Nat × List Str × List Nat) := []
abbrev c_L_gap (r : Runs) : PD.Callee := ⟨p_L_gap, r "_law_gap", a_L_gap⟩
abbrev s_L_by : Stmt := topS 48
abbrev p_L_by : List Str := ["a", "b"]
abbrev a_L_by : List (Nat × List Str × List Nat) := []
abbrev c_L_by (r : Runs) : PD.Callee := ⟨p_L_by, r "_law_by", a_L_by⟩
abbrev s_L_per : Stmt := topS 49
abbrev p_L_per : List Str := ["a", "b"]
abbrev a_L_per : List (Nat × List Str × List Nat) := []
abbrev c_L_per (r : Runs) : PD.Callee := ⟨p_L_per, r "_law_per", a_L_per⟩
abbrev s_L_kind : Stmt := topS 50
abbrev p_L_kind : List Str := ["cask"]
abbrev a_L_kind : List (Nat × List Str × List Nat) := []
abbrev c_L_kind (r : Runs) : PD.Callee := ⟨p_L_kind, r "_law_kind", a_L_kind⟩
abbrev s_L_speeds : Stmt := topS 51
abbrev p_L_speeds : List Str := ["line"]
abbrev a_L_speeds : List (Nat × List Str × List Nat) := []
abbrev c_L_speeds (r : Runs) : PD.Callee := ⟨p_L_speeds, r "_law_speeds", a_L_speeds⟩
abbrev s_L_along : Stmt := topS 52
abbrev p_L_along : List Str := ["corners", "at"]
abbrev a_L_along : List (Nat × List Str × List Nat) := []
abbrev c_L_along (r : Runs) : PD.Callee := ⟨p_L_along, r "_law_along", a_L_along⟩
abbrev s_L_kin : Stmt := topS 53
abbrev p_L_kin : List Str := ["cask", "line"]
abbrev a_L_kin : List (Nat × List Str × List Nat) := []
abbrev c_L_kin (r : Runs) : PD.Callee := ⟨p_L_kin, r "_law_kin", a_L_kin⟩
abbrev s_L_bare : Stmt := topS 54
abbrev p_L_bare : List Str := ["line", "mate"]
abbrev a_L_bare : List (Nat × List Str × List Nat) := []
abbrev c_L_bare (r : Runs) : PD.Callee := ⟨p_L_bare, r "_law_bare", a_L_bare⟩
abbrev s_L_is_fraction : Stmt := topS 55
abbrev p_L_is_fraction : List Str := ["value"]
abbrev a_L_is_fraction : List (Nat × List Str × List Nat) := []
abbrev c_L_is_fraction (r : Runs) : PD.Callee := ⟨p_L_is_fraction, r "_law_is_fraction", a_L_is_fraction⟩
abbrev s_L_toll : Stmt := topS 56
abbrev p_L_toll : List Str := ["own", "far", "lasts"]
abbrev a_L_toll : List (Nat × List Str × List Nat) := []
abbrev c_L_toll (r : Runs) : PD.Callee := ⟨p_L_toll, r "_law_toll", a_L_toll⟩
abbrev s_L_least : Stmt := topS 57
abbrev p_L_least : List Str := ["some"]
abbrev a_L_least : List (Nat × List Str × List Nat) := []
abbrev c_L_least (r : Runs) : PD.Callee := ⟨p_L_least, r "_law_least", a_L_least⟩
abbrev s_L_own : Stmt := topS 58
abbrev p_L_own : List Str := ["line", "begin", "come"]
abbrev a_L_own : List (Nat × List Str × List Nat) := []
abbrev c_L_own (r : Runs) : PD.Callee := ⟨p_L_own, r "_law_own", a_L_own⟩
abbrev s_L_number : Stmt := topS 59
abbrev p_L_number : List Str := ["own", "x", "t"]
abbrev a_L_number : List (Nat × List Str × List Nat) := []
abbrev c_L_number (r : Runs) : PD.Callee := ⟨p_L_number, r "_law_number", a_L_number⟩
abbrev s_L_is_begin : Stmt := topS 60
abbrev p_L_is_begin : List Str := ["told", "room", "one", "two"]
abbrev a_L_is_begin : List (Nat × List Str × List Nat) := []
abbrev c_L_is_begin (r : Runs) : PD.Callee := ⟨p_L_is_begin, r "_law_is_begin", a_L_is_begin⟩
abbrev s_L_is_parted : Stmt := topS 61
abbrev p_L_is_parted : List Str := ["told", "room", "one", "two"]
abbrev a_L_is_parted : List (Nat × List Str × List Nat) := []
abbrev c_L_is_parted (r : Runs) : PD.Callee := ⟨p_L_is_parted, r "_law_is_parted", a_L_is_parted⟩
abbrev s_L_right : Stmt := topS 62
abbrev p_L_right : List Str := ["cask"]
abbrev a_L_right : List (Nat × List Str × List Nat) := []
abbrev c_L_right (r : Runs) : PD.Callee := ⟨p_L_right, r "_law_right", a_L_right⟩
abbrev s_law : Stmt := topS 63
abbrev p_law : List Str := ["script"]
abbrev a_law : List (Nat × List Str × List Nat) := []
abbrev c_law (r : Runs) : PD.Callee := ⟨p_law, r "law", a_law⟩
def b_is_whole (r : Runs) : CS := (seqS (retS false (andE (isiE "int" (varE 0)) (notE (isiE "bool" (varE 0))))) nilS)
abbrev N_is_whole : List Str := ["value"]
abbrev i_is_whole : Info := ⟨N_is_whole, p_is_whole, a_is_whole, false, [], b_is_whole⟩
def b_are_wholes (r : Runs) : CS := (seqS (retS false (andE (isiE "tuple" (varE 0)) (andE (binE (pf2 eqP) (appE (pfN lenP) (consL (varE 0) nilL)) (varE 1)) (binE (pf2 eqP) (lcE [2] false (seqI (frzE (varE 0))) (nameG 2) (notB (valB (appE (callF (c_is_whole r)) (consL (varE 2) nilL)))) (varE 2)) (appE lstF nilL))))) nilS)
abbrev N_are_wholes : List Str := ["value", "many", "each"]
abbrev i_are_wholes : Info := ⟨N_are_wholes, p_are_wholes, a_are_wholes, false, [], b_are_wholes⟩
def b_common_part (r : Runs) : CS := (seqS (asgS (constE (.int 0)) (nameG 1)) (seqS (forS (seqI (frzE (varE 0))) (nameG 2) (seqS (asgS (appE (pfN gcdP) (consL (varE 1) (consL (varE 2) nilL))) (nameG 1)) nilS)) (seqS (retS false (varE 1)) nilS)))
abbrev N_common_part : List Str := ["numbers", "found", "number"]
abbrev i_common_part : Info := ⟨N_common_part, p_common_part, a_common_part, false, [], b_common_part⟩
def b_lowest (r : Runs) : CS := (seqS (asgS (appE (callF (c_common_part r)) (consL (varE 0) nilL)) (nameG 1)) (seqS (retS false (appE (pfN tupleP) (consL (lcE [2] false (seqI (frzE (varE 0))) (nameG 2) yesB (binE (pf2 divP) (varE 2) (varE 1))) nilL))) nilS))
abbrev N_lowest : List Str := ["numbers", "part", "number"]
abbrev i_lowest : Info := ⟨N_lowest, p_lowest, a_lowest, false, [], b_lowest⟩
def b_lowest_over (r : Runs) : CS := (seqS (asgS (ifE (valB (binE (pf2 gtP) (varE 1) (constE (.int 0)))) (constE (.int 1)) (unE (pf1 negP) (constE (.int 1)))) (nameG 2)) (seqS (retS false (appE (callF (c_lowest r)) (consL (binE (pf2 addP) (lcE [3] false (seqI (frzE (varE 0))) (nameG 3) yesB (binE (pf2 mulP) (varE 2) (varE 3))) (appE lstF (consL (binE (pf2 mulP) (varE 2) (varE 1)) nilL))) nilL))) nilS))
abbrev N_lowest_over : List Str := ["numbers", "below", "factor", "number"]
abbrev i_lowest_over : Info := ⟨N_lowest_over, p_lowest_over, a_lowest_over, false, [], b_lowest_over⟩
def b_ratio (r : Runs) : CS := (seqS (retS false (appE (callF (c_lowest_over r)) (consL (appE lstF (consL (frzE (varE 0)) nilL)) (consL (varE 1) nilL)))) nilS)
abbrev N_ratio : List Str := ["top", "below"]
abbrev i_ratio : Info := ⟨N_ratio, p_ratio, a_ratio, false, [], b_ratio⟩
def b_plus (r : Runs) : CS := (seqS (retS false (appE (callF (c_ratio r)) (consL (binE (pf2 addP) (binE (pf2 mulP) (binE (pf2 ixP) (varE 0) (constE (.int 0))) (binE (pf2 ixP) (varE 1) (constE (.int 1)))) (binE (pf2 mulP) (binE (pf2 ixP) (varE 1) (constE (.int 0))) (binE (pf2 ixP) (varE 0) (constE (.int 1))))) (consL (binE (pf2 mulP) (binE (pf2 ixP) (varE 0) (constE (.int 1))) (binE (pf2 ixP) (varE 1) (constE (.int 1)))) nilL)))) nilS)
abbrev N_plus : List Str := ["one", "other"]
abbrev i_plus : Info := ⟨N_plus, p_plus, a_plus, false, [], b_plus⟩
def b_minus (r : Runs) : CS := (seqS (retS false (appE (callF (c_ratio r)) (consL (binE (pf2 subP) (binE (pf2 mulP) (binE (pf2 ixP) (varE 0) (constE (.int 0))) (binE (pf2 ixP) (varE 1) (constE (.int 1)))) (binE (pf2 mulP) (binE (pf2 ixP) (varE 1) (constE (.int 0))) (binE (pf2 ixP) (varE 0) (constE (.int 1))))) (consL (binE (pf2 mulP) (binE (pf2 ixP) (varE 0) (constE (.int 1))) (binE (pf2 ixP) (varE 1) (constE (.int 1)))) nilL)))) nilS)
abbrev N_minus : List Str := ["one", "other"]
abbrev i_minus : Info := ⟨N_minus, p_minus, a_minus, false, [], b_minus⟩
def b_times (r : Runs) : CS := (seqS (retS false (appE (callF (c_ratio r)) (consL (binE (pf2 mulP) (binE (pf2 ixP) (varE 0) (constE (.int 0))) (binE (pf2 ixP) (varE 1) (constE (.int 0)))) (consL (binE (pf2 mulP) (binE (pf2 ixP) (varE 0) (constE (.int 1))) (binE (pf2 ixP) (varE 1) (constE (.int 1)))) nilL)))) nilS)
abbrev N_times : List Str := ["one", "other"]
abbrev i_times : Info := ⟨N_times, p_times, a_times, false, [], b_times⟩
def b_divided (r : Runs) : CS := (seqS (retS false (appE (callF (c_ratio r)) (consL (binE (pf2 mulP) (binE (pf2 ixP) (varE 0) (constE (.int 0))) (binE (pf2 ixP) (varE 1) (constE (.int 1)))) (consL (binE (pf2 mulP) (binE (pf2 ixP) (varE 0) (constE (.int 1))) (binE (pf2 ixP) (varE 1) (constE (.int 0)))) nilL)))) nilS)
abbrev N_divided : List Str := ["one", "other"]
abbrev i_divided : Info := ⟨N_divided, p_divided, a_divided, false, [], b_divided⟩
def b_is_below (r : Runs) : CS := (seqS (retS false (binE (pf2 ltP) (binE (pf2 mulP) (binE (pf2 ixP) (varE 0) (constE (.int 0))) (binE (pf2 ixP) (varE 1) (constE (.int 1)))) (binE (pf2 mulP) (binE (pf2 ixP) (varE 1) (constE (.int 0))) (binE (pf2 ixP) (varE 0) (constE (.int 1)))))) nilS)
abbrev N_is_below : List Str := ["one", "other"]
abbrev i_is_below : Info := ⟨N_is_below, p_is_below, a_is_below, false, [], b_is_below⟩
def b_is_fraction (r : Runs) : CS := (seqS (retS false (andE (appE (callF (c_are_wholes r)) (consL (varE 0) (consL (constE (.int 2)) nilL))) (andE (binE (pf2 gtP) (binE (pf2 ixP) (varE 0) (constE (.int 1))) (constE (.int 0))) (binE (pf2 eqP) (appE (pfN gcdP) (consL (binE (pf2 ixP) (varE 0) (constE (.int 0))) (consL (binE (pf2 ixP) (varE 0) (constE (.int 1))) nilL))) (constE (.int 1)))))) nilS)
abbrev N_is_fraction : List Str := ["value"]
abbrev i_is_fraction : Info := ⟨N_is_fraction, p_is_fraction, a_is_fraction, false, [], b_is_fraction⟩
def b_is_amount (r : Runs) : CS := (seqS (retS false (andE (appE (callF (c_is_fraction r)) (consL (varE 0) nilL)) (binE (pf2 gtP) (binE (pf2 ixP) (varE 0) (constE (.int 0))) (constE (.int 0))))) nilS)
abbrev N_is_amount : List Str := ["value"]
abbrev i_is_amount : Info := ⟨N_is_amount, p_is_amount, a_is_amount, false, [], b_is_amount⟩
def b_are_fractions (r : Runs) : CS := (seqS (retS false (andE (isiE "tuple" (varE 0)) (andE (binE (pf2 eqP) (appE (pfN lenP) (consL (varE 0) nilL)) (varE 1)) (binE (pf2 eqP) (lcE [2] false (seqI (frzE (varE 0))) (nameG 2) (notB (valB (appE (callF (c_is_fraction r)) (consL (varE 2) nilL)))) (varE 2)) (appE lstF nilL))))) nilS)
abbrev N_are_fractions : List Str := ["value", "many", "each"]
abbrev i_are_fractions : Info := ⟨N_are_fractions, p_are_fractions, a_are_fractions, false, [], b_are_fractions⟩
def b_check_amount (r : Runs) : CS := (seqS (ifS (notB (valB (appE (callF (c_is_amount r)) (consL (varE 0) nilL)))) (seqS stuckS nilS) nilS) nilS)
abbrev N_check_amount : List Str := ["value"]
abbrev i_check_amount : Info := ⟨N_check_amount, p_check_amount, a_check_amount, false, [], b_check_amount⟩
def b_slope_of (r : Runs) : CS := (seqS (retS false (appE (callF (c_divided r)) (consL (appE (callF (c_minus r)) (consL (binE (pf2 ixP) (varE 1) (constE (.int 1))) (consL (binE (pf2 ixP) (varE 0) (constE (.int 1))) nilL))) (consL (appE (callF (c_minus r)) (consL (binE (pf2 ixP) (varE 1) (constE (.int 0))) (consL (binE (pf2 ixP) (varE 0) (constE (.int 0))) nilL))) nilL)))) nilS)
abbrev N_slope_of : List Str := ["corner", "other"]
abbrev i_slope_of : Info := ⟨N_slope_of, p_slope_of, a_slope_of, false, [], b_slope_of⟩
def b_kind_speeds (r : Runs) : CS := (seqS (retS false (appE (pfN tupleP) (consL (lcE [1, 2] false (zipI (varE 0) (sliceE (varE 0) (someO (constE (.int 1))) noO)) (tupG 2 (consG (nameG 1) (consG (nameG 2) nilG))) yesB (appE (callF (c_slope_of r)) (consL (varE 1) (consL (varE 2) nilL)))) nilL))) nilS)
abbrev N_kind_speeds : List Str := ["kind", "corner", "other"]
abbrev i_kind_speeds : Info := ⟨N_kind_speeds, p_kind_speeds, a_kind_speeds, false, [], b_kind_speeds⟩
def b_is_kind (r : Runs) : CS := (seqS (ifS (orB (notB (valB (isiE "tuple" (varE 0)))) (notB (valB (chE (pf2 leP) (pf2 leP) (constE (.int 3)) (appE (pfN lenP) (consL (varE 0) nilL)) (constE (.int 12)))))) (seqS (retS false (constE (.bool false))) nilS) nilS) (seqS (ifS (valB (binE (pf2 neP) (lcE [2] false (seqI (frzE (varE 0))) (nameG 2) (notB (valB (appE (callF (c_is_corner r)) (consL (varE 2) nilL)))) (varE 2)) (appE lstF nilL))) (seqS (retS false (constE (.bool false))) nilS) nilS) (seqS (ifS (orB (valB (binE (pf2 neP) (binE (pf2 ixP) (varE 0) (constE (.int 0))) (appE tupF (consL (frzE (constE (.tuple [(.int 0), (.int 1)]))) (consL (frzE (constE (.tuple [(.int 0), (.int 1)]))) nilL))))) (valB (binE (pf2 neP) (binE (pf2 ixP) (binE (pf2 ixP) (varE 0) (unE (pf1 negP) (constE (.int 1)))) (constE (.int 1))) (constE (.tuple [(.int 0), (.int 1)]))))) (seqS (retS false (constE (.bool false))) nilS) nilS) (seqS (ifS (valB (binE (pf2 neP) (lcE [2] false (seqI (sliceE (varE 0) (someO (constE (.int 1))) (someO (unE (pf1 negP) (constE (.int 1)))))) (nameG 2) (valB (binE (pf2 leP) (binE (pf2 ixP) (binE (pf2 ixP) (varE 2) (constE (.int 1))) (constE (.int 0))) (constE (.int 0)))) (varE 2)) (appE lstF nilL))) (seqS (retS false (constE (.bool false))) nilS) nilS) (seqS (ifS (valB (binE (pf2 neP) (lcE [2, 3] false (zipI (varE 0) (sliceE (varE 0) (someO (constE (.int 1))) noO)) (tupG 2 (consG (nameG 2) (consG (nameG 3) nilG))) (notB (valB (appE (callF (c_is_below r)) (consL (binE (pf2 ixP) (varE 2) (constE (.int 0))) (consL (binE (pf2 ixP) (varE 3) (constE (.int 0))) nilL))))) (constE (.int 1))) (appE lstF nilL))) (seqS (retS false (constE (.bool false))) nilS) nilS) (seqS (asgS (appE (callF (c_kind_speeds r)) (consL (varE 0) nilL)) (nameG 1)) (seqS (retS false (binE (pf2 eqP) (lcE [4, 3] false (zipI (varE 1) (sliceE (varE 1) (someO (constE (.int 1))) noO)) (tupG 2 (consG (nameG 4) (consG (nameG 3) nilG))) (notB (valB (appE (callF (c_is_below r)) (consL (varE 3) (consL (varE 4) nilL))))) (constE (.int 1))) (appE lstF nilL))) nilS)))))))
abbrev N_is_kind : List Str := ["value", "speeds", "corner", "other", "speed"]
abbrev i_is_kind : Info := ⟨N_is_kind, p_is_kind, a_is_kind, false, [], b_is_kind⟩
def b_is_corner (r : Runs) : CS := (seqS (retS false (appE (callF (c_are_fractions r)) (consL (varE 0) (consL (constE (.int 2)) nilL)))) nilS)
abbrev N_is_corner : List Str := ["value"]
abbrev i_is_corner : Info := ⟨N_is_corner, p_is_corner, a_is_corner, false, [], b_is_corner⟩
def b_check_kind (r : Runs) : CS := (seqS (ifS (notB (valB (appE (callF (c_is_kind r)) (consL (varE 0) nilL)))) (seqS stuckS nilS) nilS) nilS)
abbrev N_check_kind : List Str := ["value"]
abbrev i_check_kind : Info := ⟨N_check_kind, p_check_kind, a_check_kind, false, [], b_check_kind⟩
def b_full_density (r : Runs) : CS := (seqS (retS false (binE (pf2 ixP) (binE (pf2 ixP) (varE 0) (unE (pf1 negP) (constE (.int 1)))) (constE (.int 0)))) nilS)
abbrev N_full_density : List Str := ["kind"]
abbrev i_full_density : Info := ⟨N_full_density, p_full_density, a_full_density, false, [], b_full_density⟩
def b_flow_by (r : Runs) : CS := (seqS (asgS (binE (pf2 ixP) (varE 0) (constE (.int 0))) (nameG 2)) (seqS (forS (seqI (sliceE (varE 0) (someO (constE (.int 1))) noO)) (nameG 3) (seqS (ifS (notB (valB (appE (callF (c_is_below r)) (consL (binE (pf2 ixP) (varE 3) (constE (.int 0))) (consL (varE 1) nilL))))) (seqS (retS false (appE (callF (c_plus r)) (consL (binE (pf2 ixP) (varE 2) (constE (.int 1))) (consL (appE (callF (c_times r)) (consL (appE (callF (c_slope_of r)) (consL (varE 2) (consL (varE 3) nilL))) (consL (appE (callF (c_minus r)) (consL (varE 1) (consL (binE (pf2 ixP) (varE 2) (constE (.int 0))) nilL))) nilL))) nilL)))) nilS) nilS) (seqS (asgS (varE 3) (nameG 2)) nilS))) (seqS (retS false (constE (.tuple [(.int 0), (.int 1)]))) nilS)))
abbrev N_flow_by : List Str := ["kind", "density", "last", "corner"]
abbrev i_flow_by : Info := ⟨N_flow_by, p_flow_by, a_flow_by, false, [], b_flow_by⟩
def b_check_kinds (r : Runs) : CS := (seqS (exprS (appE (callF (c_check_kind r)) (consL (varE 0) nilL))) (seqS (exprS (appE (callF (c_check_kind r)) (consL (varE 1) nilL))) nilS))
abbrev N_check_kinds : List Str := ["kind", "other"]
abbrev i_check_kinds : Info := ⟨N_check_kinds, p_check_kinds, a_check_kinds, false, [], b_check_kinds⟩
def b_bare_by (r : Runs) : CS := (seqS (forS (seqI (lcE [4] false (seqI (binE (pf2 addP) (varE 0) (varE 1))) (nameG 4) yesB (binE (pf2 ixP) (varE 4) (constE (.int 0))))) (nameG 2) (seqS (asgS (andE (notE (appE (callF (c_is_below r)) (consL (appE (callF (c_full_density r)) (consL (varE 0) nilL)) (consL (varE 2) nilL)))) (notE (appE (callF (c_is_below r)) (consL (appE (callF (c_full_density r)) (consL (varE 1) nilL)) (consL (varE 2) nilL))))) (nameG 3)) (seqS (ifS (andB (valB (varE 3)) (valB (appE (callF (c_is_below r)) (consL (appE (callF (c_flow_by r)) (consL (varE 0) (consL (varE 2) nilL))) (consL (appE (callF (c_flow_by r)) (consL (varE 1) (consL (varE 2) nilL))) nilL))))) (seqS (retS false (varE 2)) nilS) nilS) nilS))) (seqS (retS false (constE .none)) nilS))
abbrev N_bare_by : List Str := ["kind", "other", "density", "is_common", "corner"]
abbrev i_bare_by : Info := ⟨N_bare_by, p_bare_by, a_bare_by, false, [], b_bare_by⟩
def b_scene_parted (r : Runs) : CS := (seqS (asgS (appE (callF (c_bare_by r)) (consL (varE 0) (consL (varE 1) nilL))) (nameG 3)) (seqS (ifS (valB (binE isF (varE 3) (constE .none))) (seqS (retS false (constE .none)) nilS) nilS) (seqS (asgS (constE (.tuple [(.int 0), (.int 1)])) (nameG 4)) (seqS (forS (seqI (binE (pf2 addP) (appE (callF (c_kind_speeds r)) (consL (varE 0) nilL)) (appE (callF (c_kind_speeds r)) (consL (varE 1) nilL)))) (nameG 5) (seqS (asgS (ifE (valB (binE (pf2 gtP) (binE (pf2 ixP) (varE 5) (constE (.int 0))) (constE (.int 0)))) (varE 5) (appE (callF (c_minus r)) (consL (constE (.tuple [(.int 0), (.int 1)])) (consL (varE 5) nilL)))) (nameG 7)) (seqS (asgS (ifE (valB (appE (callF (c_is_below r)) (consL (varE 4) (consL (varE 7) nilL)))) (varE 7) (varE 4)) (nameG 4)) nilS))) (seqS (asgS (appE (callF (c_times r)) (consL (constE (.tuple [(.int 1), (.int 2)])) (consL (varE 2) nilL))) (nameG 6)) (seqS (retS false (appE tupF (consL (appE tupF (consL (appE tupF (consL (frzE (varE 2)) (consL (frzE (varE 3)) nilL))) nilL)) (consL (frzE (varE 6)) (consL (appE (callF (c_divided r)) (consL (varE 6) (consL (varE 4) nilL))) nilL))))) nilS))))))
abbrev N_scene_parted : List Str := ["kind", "other", "length", "density", "fastest", "speed", "place", "size"]
abbrev i_scene_parted : Info := ⟨N_scene_parted, p_scene_parted, a_scene_parted, false, [], b_scene_parted⟩
def b_parting_scene (r : Runs) : CS := (seqS (exprS (appE (callF (c_check_kinds r)) (consL (varE 0) (consL (varE 1) nilL)))) (seqS (exprS (appE (callF (c_check_amount r)) (consL (varE 2) nilL))) (seqS (retS false (appE (callF (c_scene_parted r)) (consL (varE 0) (consL (varE 1) (consL (varE 2) nilL))))) nilS)))
abbrev N_parting_scene : List Str := ["kind", "other", "length"]
abbrev i_parting_scene : Info := ⟨N_parting_scene, p_parting_scene, a_parting_scene, false, [], b_parting_scene⟩
def b_L_cask (r : Runs) : CS := (seqS (asgS (ifE (valB (binE (pf2 ltP) (varE 1) (appE (pfN lenP) (consL (varE 0) nilL)))) (appE (pfN intP) (consL (binE (pf2 ixP) (varE 0) (varE 1)) nilL)) (binE (pf2 addP) (binE (pf2 mulP) (constE (.int 31)) (varE 1)) (constE (.int 7)))) (nameG 2)) (seqS (asgS (binE (pf2 addP) (constE (.int 77017)) (binE (pf2 mulP) (constE (.int 6007)) (varE 1))) (nameG 3)) (seqS (forS (seqI (sliceE (varE 0) noO (someO (constE (.int 9))))) (nameG 4) (seqS (asgS (binE (pf2 modP) (appE (pfN intP) (consL (binE (pf2 addP) (binE (pf2 addP) (binE (pf2 mulP) (varE 3) (constE (.int 60013))) (binE (pf2 modP) (appE (pfN intP) (consL (varE 4) nilL)) (constE (.int 2147483587)))) (constE (.int 19))) nilL)) (constE (.int 2147483629))) (nameG 3)) nilS)) (seqS (asgS (binE (pf2 modP) (appE (pfN intP) (consL (binE (pf2 addP) (binE (pf2 mulP) (varE 3) (constE (.int 41))) (binE (pf2 mulP) (binE (pf2 modP) (appE (pfN intP) (consL (varE 2) nilL)) (constE (.int 2147483587))) (constE (.int 20011)))) nilL)) (constE (.int 2147483629))) (nameG 5)) (seqS (retS true (appE lstM (consL (ifE (orB (valB (binE (pf2 ltP) (varE 2) (constE (.int 0)))) (valB (binE (pf2 geP) (varE 2) (binE (pf2 powP) (constE (.int 10)) (constE (.int 16)))))) (appE (pfN absP) (consL (varE 2) nilL)) (constE (.int 0))) (consL (varE 5) (consL (constE (.int 0)) nilL))))) nilS)))))
abbrev N_L_cask : List Str := ["script", "turn", "own", "mixed", "cell", "seed"]
abbrev i_L_cask : Info := ⟨N_L_cask, p_L_cask, a_L_cask, true, [⟨119, 11, 119, 67⟩], b_L_cask⟩
def b_L_tap (r : Runs) : CS := (seqS (ifS (valB (binE (pf2 gtP) (binE (pf2 ixP) (varE 0) (constE (.int 0))) (constE (.int 0)))) (seqS (asgS (appE (pfN divmodP) (consL (binE (pf2 ixP) (varE 0) (constE (.int 0))) (consL (varE 1) nilL))) (tupG 2 (consG (subG (varE 0) (constE (.int 0))) (consG (nameG 3) nilG)))) (seqS (retS false (varE 3)) nilS)) nilS) (seqS (asgS (binE (pf2 addP) (binE (pf2 ixP) (varE 0) (constE (.int 2))) (constE (.int 1))) (subG (varE 0) (constE (.int 2)))) (seqS (asgS (binE (pf2 addP) (binE (pf2 modP) (appE (pfN intP) (consL (binE (pf2 ixP) (varE 0) (constE (.int 1))) nilL)) (constE (.int 30011))) (constE (.int 20011))) (nameG 2)) (seqS (asgS (binE (pf2 modP) (appE (pfN intP) (consL (binE (pf2 addP) (binE (pf2 addP) (binE (pf2 mulP) (binE (pf2 ixP) (varE 0) (constE (.int 1))) (varE 2)) (binE (pf2 mulP) (constE (.int 50021)) (binE (pf2 ixP) (varE 0) (constE (.int 2))))) (constE (.int 3))) nilL)) (constE (.int 2147483629))) (subG (varE 0) (constE (.int 1)))) (seqS (retS false (binE (pf2 modP) (appE (pfN intP) (consL (binE (pf2 divP) (binE (pf2 ixP) (varE 0) (constE (.int 1))) (constE (.int 97))) nilL)) (varE 1))) nilS)))))
abbrev N_L_tap : List Str := ["cask", "top", "step", "digit"]
abbrev i_L_tap : Info := ⟨N_L_tap, p_L_tap, a_L_tap, false, [], b_L_tap⟩
def b_L_of (r : Runs) : CS := (seqS (retS false (binE (pf2 ixP) (varE 1) (appE (callF (c_L_tap r)) (consL (varE 0) (consL (appE (pfN lenP) (consL (varE 1) nilL)) nilL))))) nilS)
abbrev N_L_of : List Str := ["cask", "some"]
abbrev i_L_of : Info := ⟨N_L_of, p_L_of, a_L_of, false, [], b_L_of⟩
def b_L_cut (r : Runs) : CS := (seqS (ifS (valB (binE (pf2 ltP) (varE 1) (constE (.int 0)))) (seqS (parS 0 1 (consL (binE (pf2 subP) (constE (.int 0)) (varE 0)) (consL (binE (pf2 subP) (constE (.int 0)) (varE 1)) nilL))) nilS) nilS) (seqS (parS 2 3 (consL (appE (pfN absP) (consL (varE 0) nilL)) (consL (varE 1) nilL))) (seqS (whileS (valB (binE (pf2 gtP) (varE 3) (constE (.int 0)))) (seqS (parS 2 3 (consL (varE 3) (consL (binE (pf2 modP) (appE (pfN intP) (consL (varE 2) nilL)) (varE 3)) nilL))) nilS)) (seqS (retS false (appE tupF (consL (binE (pf2 divP) (varE 0) (varE 2)) (consL (binE (pf2 divP) (varE 1) (varE 2)) nilL)))) nilS))))
abbrev N_L_cut : List Str := ["up", "low", "one", "two"]
abbrev i_L_cut : Info := ⟨N_L_cut, p_L_cut, a_L_cut, false, [], b_L_cut⟩
def b_L_even (r : Runs) : CS := (seqS (retS false (appE (callF (c_L_cut r)) (consL (binE (pf2 ixP) (varE 0) (constE (.int 0))) (consL (binE (pf2 ixP) (varE 0) (constE (.int 1))) nilL)))) nilS)
abbrev N_L_even : List Str := ["a"]
abbrev i_L_even : Info := ⟨N_L_even, p_L_even, a_L_even, false, [], b_L_even⟩
def b_L_sum (r : Runs) : CS := (seqS (retS false (appE tupF (consL (binE (pf2 addP) (binE (pf2 mulP) (binE (pf2 ixP) (varE 0) (constE (.int 0))) (binE (pf2 ixP) (varE 1) (constE (.int 1)))) (binE (pf2 mulP) (binE (pf2 ixP) (varE 1) (constE (.int 0))) (binE (pf2 ixP) (varE 0) (constE (.int 1))))) (consL (binE (pf2 mulP) (binE (pf2 ixP) (varE 0) (constE (.int 1))) (binE (pf2 ixP) (varE 1) (constE (.int 1)))) nilL)))) nilS)
abbrev N_L_sum : List Str := ["a", "b"]
abbrev i_L_sum : Info := ⟨N_L_sum, p_L_sum, a_L_sum, false, [], b_L_sum⟩
def b_L_gap (r : Runs) : CS := (seqS (retS false (appE tupF (consL (binE (pf2 subP) (binE (pf2 mulP) (binE (pf2 ixP) (varE 0) (constE (.int 0))) (binE (pf2 ixP) (varE 1) (constE (.int 1)))) (binE (pf2 mulP) (binE (pf2 ixP) (varE 1) (constE (.int 0))) (binE (pf2 ixP) (varE 0) (constE (.int 1))))) (consL (binE (pf2 mulP) (binE (pf2 ixP) (varE 0) (constE (.int 1))) (binE (pf2 ixP) (varE 1) (constE (.int 1)))) nilL)))) nilS)
abbrev N_L_gap : List Str := ["a", "b"]
abbrev i_L_gap : Info := ⟨N_L_gap, p_L_gap, a_L_gap, false, [], b_L_gap⟩
def b_L_by (r : Runs) : CS := (seqS (retS false (appE tupF (consL (binE (pf2 mulP) (binE (pf2 ixP) (varE 0) (constE (.int 0))) (binE (pf2 ixP) (varE 1) (constE (.int 0)))) (consL (binE (pf2 mulP) (binE (pf2 ixP) (varE 0) (constE (.int 1))) (binE (pf2 ixP) (varE 1) (constE (.int 1)))) nilL)))) nilS)
abbrev N_L_by : List Str := ["a", "b"]
abbrev i_L_by : Info := ⟨N_L_by, p_L_by, a_L_by, false, [], b_L_by⟩
def b_L_per (r : Runs) : CS := (seqS (retS false (ifE (valB (binE (pf2 gtP) (binE (pf2 ixP) (varE 1) (constE (.int 0))) (constE (.int 0)))) (appE tupF (consL (binE (pf2 mulP) (binE (pf2 ixP) (varE 0) (constE (.int 0))) (binE (pf2 ixP) (varE 1) (constE (.int 1)))) (consL (binE (pf2 mulP) (binE (pf2 ixP) (varE 0) (constE (.int 1))) (binE (pf2 ixP) (varE 1) (constE (.int 0)))) nilL))) (appE tupF (consL (binE (pf2 subP) (constE (.int 0)) (binE (pf2 mulP) (binE (pf2 ixP) (varE 0) (constE (.int 0))) (binE (pf2 ixP) (varE 1) (constE (.int 1))))) (consL (binE (pf2 subP) (constE (.int 0)) (binE (pf2 mulP) (binE (pf2 ixP) (varE 0) (constE (.int 1))) (binE (pf2 ixP) (varE 1) (constE (.int 0))))) nilL))))) nilS)
abbrev N_L_per : List Str := ["a", "b"]
abbrev i_L_per : Info := ⟨N_L_per, p_L_per, a_L_per, false, [], b_L_per⟩
def b_L_kind (r : Runs) : CS := (seqS (par3S 4 5 6 (consL (appE tupF (consL (constE (.int 0)) (consL (constE (.int 1)) nilL))) (consL (appE tupF (consL (constE (.int 0)) (consL (constE (.int 1)) nilL))) (consL (appE (callF (c_L_cut r)) (consL (binE (pf2 addP) (constE (.int 1)) (appE (callF (c_L_tap r)) (consL (varE 0) (consL (constE (.int 4)) nilL)))) (consL (binE (pf2 addP) (constE (.int 1)) (appE (callF (c_L_tap r)) (consL (varE 0) (consL (constE (.int 3)) nilL)))) nilL))) nilL)))) (seqS (asgS (appE lstM (consL (appE tupF (consL (frzE (varE 4)) (consL (frzE (varE 5)) nilL))) nilL)) (nameG 1)) (seqS (forS (range1I (appE (callF (c_L_of r)) (consL (varE 0) (consL (appE lstF (consL (constE (.int 1)) (consL (constE (.int 2)) (consL (constE (.int 1)) (consL (constE (.int 2)) (consL (constE (.int 3)) (consL (constE (.int 4)) (consL (constE (.int 6)) (consL (constE (.int 10)) nilL))))))))) nilL)))) (nameG 2) (seqS (asgS (appE (callF (c_L_cut r)) (consL (binE (pf2 addP) (constE (.int 1)) (appE (callF (c_L_tap r)) (consL (varE 0) (consL (constE (.int 3)) nilL)))) (consL (binE (pf2 addP) (constE (.int 1)) (appE (callF (c_L_tap r)) (consL (varE 0) (consL (constE (.int 2)) nilL)))) nilL))) (nameG 7)) (seqS (asgS (appE (callF (c_L_sum r)) (consL (varE 5) (consL (appE (callF (c_L_by r)) (consL (varE 6) (consL (varE 7) nilL))) nilL))) (nameG 8)) (seqS (ifS (valB (binE (pf2 leP) (binE (pf2 ixP) (varE 8) (constE (.int 0))) (constE (.int 0)))) (seqS brkS nilS) nilS) (seqS (parS 4 5 (consL (appE (callF (c_L_even r)) (consL (appE (callF (c_L_sum r)) (consL (varE 4) (consL (varE 7) nilL))) nilL)) (consL (appE (callF (c_L_even r)) (consL (varE 8) nilL)) nilL))) (seqS (exprS (appendE (varE 1) (appE tupF (consL (frzE (varE 4)) (consL (frzE (varE 5)) nilL))))) (seqS (asgS (appE (callF (c_L_even r)) (consL (appE (callF (c_L_gap r)) (consL (varE 6) (consL (appE (callF (c_L_cut r)) (consL (binE (pf2 addP) (constE (.int 1)) (appE (callF (c_L_tap r)) (consL (varE 0) (consL (constE (.int 4)) nilL)))) (consL (binE (pf2 addP) (constE (.int 1)) (appE (callF (c_L_tap r)) (consL (varE 0) (consL (constE (.int 2)) nilL)))) nilL))) nilL))) nilL)) (nameG 6)) nilS))))))) (seqS (ifS (valB (binE (pf2 geP) (binE (pf2 ixP) (varE 6) (constE (.int 0))) (constE (.int 0)))) (seqS (asgS (appE (callF (c_L_cut r)) (consL (binE (pf2 subP) (binE (pf2 subP) (constE (.int 0)) (constE (.int 1))) (appE (callF (c_L_tap r)) (consL (varE 0) (consL (constE (.int 3)) nilL)))) (consL (binE (pf2 addP) (constE (.int 1)) (appE (callF (c_L_tap r)) (consL (varE 0) (consL (constE (.int 2)) nilL)))) nilL))) (nameG 6)) nilS) nilS) (seqS (asgS (appE (callF (c_L_even r)) (consL (appE (callF (c_L_sum r)) (consL (varE 4) (consL (appE (callF (c_L_per r)) (consL (varE 5) (consL (appE tupF (consL (binE (pf2 subP) (constE (.int 0)) (binE (pf2 ixP) (varE 6) (constE (.int 0)))) (consL (binE (pf2 ixP) (varE 6) (constE (.int 1))) nilL))) nilL))) nilL))) nilL)) (nameG 3)) (seqS (retS false (appE (pfN tupleP) (consL (binE (pf2 addP) (varE 1) (appE lstF (consL (appE tupF (consL (frzE (varE 3)) (consL (appE tupF (consL (constE (.int 0)) (consL (constE (.int 1)) nilL))) nilL))) nilL))) nilL))) nilS))))))
abbrev N_L_kind : List Str := ["cask", "found", "turn", "full", "k", "q", "slope", "wide", "more"]
abbrev i_L_kind : Info := ⟨N_L_kind, p_L_kind, a_L_kind, false, [⟨149, 12, 149, 20⟩], b_L_kind⟩
def b_L_speeds (r : Runs) : CS := (seqS (asgS (appE lstM nilL) (nameG 1)) (seqS (forS (range1I (binE (pf2 subP) (appE (pfN lenP) (consL (varE 0) nilL)) (constE (.int 1)))) (nameG 2) (seqS (asgS (appE tupF (consL (binE (pf2 ixP) (varE 0) (varE 2)) (consL (binE (pf2 ixP) (varE 0) (binE (pf2 addP) (varE 2) (constE (.int 1)))) nilL))) (tupG 2 (consG (tupG 2 (consG (nameG 3) (consG (nameG 4) nilG))) (consG (tupG 2 (consG (nameG 5) (consG (nameG 6) nilG))) nilG)))) (seqS (exprS (appendE (varE 1) (appE (callF (c_L_even r)) (consL (appE (callF (c_L_per r)) (consL (appE (callF (c_L_gap r)) (consL (varE 6) (consL (varE 4) nilL))) (consL (appE (callF (c_L_gap r)) (consL (varE 5) (consL (varE 3) nilL))) nilL))) nilL)))) nilS))) (seqS (retS false (varE 1)) nilS)))
abbrev N_L_speeds : List Str := ["line", "found", "one", "k", "q", "l", "r"]
abbrev i_L_speeds : Info := ⟨N_L_speeds, p_L_speeds, a_L_speeds, false, [⟨163, 12, 163, 14⟩], b_L_speeds⟩
def b_L_along (r : Runs) : CS := (seqS (asgS (binE (pf2 ixP) (binE (pf2 ixP) (varE 0) (constE (.int 0))) (constE (.int 1))) (nameG 2)) (seqS (forS (range1I (binE (pf2 subP) (appE (pfN lenP) (consL (varE 0) nilL)) (constE (.int 1)))) (nameG 3) (seqS (asgS (appE tupF (consL (binE (pf2 ixP) (varE 0) (varE 3)) (consL (binE (pf2 ixP) (varE 0) (binE (pf2 addP) (varE 3) (constE (.int 1)))) nilL))) (tupG 2 (consG (tupG 2 (consG (nameG 5) (consG (nameG 6) nilG))) (consG (tupG 2 (consG (nameG 7) (consG (nameG 8) nilG))) nilG)))) (seqS (ifS (valB (binE (pf2 geP) (binE (pf2 ixP) (appE (callF (c_L_gap r)) (consL (varE 1) (consL (varE 5) nilL))) (constE (.int 0))) (constE (.int 0)))) (seqS (asgS (ifE (valB (binE (pf2 gtP) (binE (pf2 ixP) (appE (callF (c_L_gap r)) (consL (varE 7) (consL (varE 1) nilL))) (constE (.int 0))) (constE (.int 0)))) (appE (callF (c_L_gap r)) (consL (varE 1) (consL (varE 5) nilL))) (appE (callF (c_L_gap r)) (consL (varE 7) (consL (varE 5) nilL)))) (nameG 4)) (seqS (asgS (appE (callF (c_L_sum r)) (consL (varE 6) (consL (appE (callF (c_L_per r)) (consL (appE (callF (c_L_by r)) (consL (appE (callF (c_L_gap r)) (consL (varE 8) (consL (varE 6) nilL))) (consL (varE 4) nilL))) (consL (appE (callF (c_L_gap r)) (consL (varE 7) (consL (varE 5) nilL))) nilL))) nilL))) (nameG 2)) nilS)) nilS) nilS))) (seqS (retS false (varE 2)) nilS)))
abbrev N_L_along : List Str := ["corners", "at", "found", "one", "part", "u", "n", "v", "m"]
abbrev i_L_along : Info := ⟨N_L_along, p_L_along, a_L_along, false, [], b_L_along⟩
def b_L_kin (r : Runs) : CS := (seqS (asgS (appE (callF (c_L_tap r)) (consL (varE 0) (consL (constE (.int 6)) nilL))) (nameG 2)) (seqS (asgS (appE (callF (c_L_cut r)) (consL (binE (pf2 addP) (constE (.int 1)) (appE (callF (c_L_tap r)) (consL (varE 0) (consL (constE (.int 7)) nilL)))) (consL (constE (.int 4)) nilL))) (nameG 3)) (seqS (ifS (valB (binE (pf2 eqP) (varE 2) (constE (.int 0)))) (seqS (retS false (appE (pfN tupleP) (consL (lcE [5, 6] false (seqI (frzE (varE 1))) (tupG 2 (consG (nameG 5) (consG (nameG 6) nilG))) yesB (appE tupF (consL (frzE (varE 5)) (consL (appE (callF (c_L_even r)) (consL (appE (callF (c_L_by r)) (consL (varE 6) (consL (varE 3) nilL))) nilL)) nilL)))) nilL))) nilS) nilS) (seqS (ifS (valB (binE (pf2 eqP) (varE 2) (constE (.int 1)))) (seqS (retS false (appE (pfN tupleP) (consL (lcE [5, 6] false (seqI (frzE (varE 1))) (tupG 2 (consG (nameG 5) (consG (nameG 6) nilG))) yesB (appE tupF (consL (appE (callF (c_L_even r)) (consL (appE (callF (c_L_by r)) (consL (varE 5) (consL (varE 3) nilL))) nilL)) (consL (frzE (varE 6)) nilL)))) nilL))) nilS) nilS) (seqS (ifS (andB (valB (binE (pf2 eqP) (varE 2) (constE (.int 2)))) (valB (binE (pf2 gtP) (appE (pfN lenP) (consL (varE 1) nilL)) (constE (.int 3))))) (seqS (asgS (binE (pf2 addP) (constE (.int 1)) (appE (callF (c_L_tap r)) (consL (varE 0) (consL (binE (pf2 subP) (appE (pfN lenP) (consL (varE 1) nilL)) (constE (.int 2))) nilL)))) (nameG 4)) (seqS (retS false (binE (pf2 addP) (sliceE (varE 1) noO (someO (varE 4))) (sliceE (varE 1) (someO (binE (pf2 addP) (varE 4) (constE (.int 1)))) noO))) nilS)) nilS) (seqS (retS false (ifE (valB (binE (pf2 eqP) (varE 2) (constE (.int 3)))) (varE 1) (appE (callF (c_L_kind r)) (consL (varE 0) nilL)))) nilS))))))
abbrev N_L_kin : List Str := ["cask", "line", "way", "part", "at", "k", "q"]
abbrev i_L_kin : Info := ⟨N_L_kin, p_L_kin, a_L_kin, false, [], b_L_kin⟩
def b_L_bare (r : Runs) : CS := (seqS (asgS (appE lstM nilL) (nameG 2)) (seqS (forS (seqI (binE (pf2 addP) (varE 0) (varE 1))) (tupG 2 (consG (nameG 3) (consG (nameG 4) nilG))) (seqS (ifS (andB (valB (binE (pf2 geP) (binE (pf2 ixP) (appE (callF (c_L_gap r)) (consL (binE (pf2 ixP) (binE (pf2 ixP) (varE 0) (unE (pf1 negP) (constE (.int 1)))) (constE (.int 0))) (consL (varE 3) nilL))) (constE (.int 0))) (constE (.int 0)))) (valB (binE (pf2 geP) (binE (pf2 ixP) (appE (callF (c_L_gap r)) (consL (binE (pf2 ixP) (binE (pf2 ixP) (varE 1) (unE (pf1 negP) (constE (.int 1)))) (constE (.int 0))) (consL (varE 3) nilL))) (constE (.int 0))) (constE (.int 0))))) (seqS (ifS (valB (binE (pf2 ltP) (binE (pf2 ixP) (appE (callF (c_L_gap r)) (consL (appE (callF (c_L_along r)) (consL (varE 0) (consL (varE 3) nilL))) (consL (appE (callF (c_L_along r)) (consL (varE 1) (consL (varE 3) nilL))) nilL))) (constE (.int 0))) (constE (.int 0)))) (seqS (exprS (appendE (varE 2) (varE 3))) nilS) nilS) nilS) nilS) nilS)) (seqS (retS false (varE 2)) nilS)))
abbrev N_L_bare : List Str := ["line", "mate", "found", "k", "q"]
abbrev i_L_bare : Info := ⟨N_L_bare, p_L_bare, a_L_bare, false, [⟨188, 12, 188, 14⟩], b_L_bare⟩
def b_L_is_fraction (r : Runs) : CS := (seqS (ifS (orB (notB (valB (isiE "tuple" (varE 0)))) (valB (binE (pf2 neP) (appE (pfN lenP) (consL (varE 0) nilL)) (constE (.int 2))))) (seqS (retS false (constE (.bool false))) nilS) nilS) (seqS (ifS (orB (valB (binE (pf2 neP) (lcE [1] false (seqI (frzE (varE 0))) (nameG 1) (orB (notB (valB (isiE "int" (varE 1)))) (valB (isiE "bool" (varE 1)))) (varE 1)) (appE lstF nilL))) (valB (binE (pf2 leP) (binE (pf2 ixP) (varE 0) (constE (.int 1))) (constE (.int 0))))) (seqS (retS false (constE (.bool false))) nilS) nilS) (seqS (retS false (binE (pf2 eqP) (appE (callF (c_L_cut r)) (consL (binE (pf2 ixP) (varE 0) (constE (.int 0))) (consL (binE (pf2 ixP) (varE 0) (constE (.int 1))) nilL))) (varE 0))) nilS)))
abbrev N_L_is_fraction : List Str := ["value", "one"]
abbrev i_L_is_fraction : Info := ⟨N_L_is_fraction, p_L_is_fraction, a_L_is_fraction, false, [], b_L_is_fraction⟩
def b_L_toll (r : Runs) : CS := (seqS (par3S 3 4 5 (consL (appE tupF (consL (constE (.int 0)) (consL (constE (.int 1)) nilL))) (consL (appE (callF (c_L_by r)) (consL (binE (pf2 ixP) (binE (pf2 ixP) (varE 0) (constE (.int 1))) (constE (.int 0))) (consL (varE 2) nilL))) (consL (appE (callF (c_L_by r)) (consL (binE (pf2 ixP) (binE (pf2 ixP) (varE 0) (constE (.int 1))) (unE (pf1 negP) (constE (.int 1)))) (consL (varE 2) nilL))) nilL)))) (seqS (ifS (orB (valB (binE (pf2 ltP) (binE (pf2 ixP) (varE 2) (constE (.int 0))) (constE (.int 0)))) (orB (valB (binE (pf2 gtP) (binE (pf2 ixP) (appE (callF (c_L_gap r)) (consL (varE 1) (consL (varE 4) nilL))) (constE (.int 0))) (constE (.int 0)))) (valB (binE (pf2 gtP) (binE (pf2 ixP) (appE (callF (c_L_gap r)) (consL (varE 5) (consL (varE 1) nilL))) (constE (.int 0))) (constE (.int 0)))))) (seqS (retS false (constE .none)) nilS) nilS) (seqS (forS (seqI (binE (pf2 ixP) (varE 0) (constE (.int 0)))) (tupG 2 (consG (nameG 6) (consG (nameG 7) nilG))) (seqS (asgS (appE (callF (c_L_gap r)) (consL (appE (callF (c_L_by r)) (consL (varE 7) (consL (varE 2) nilL))) (consL (appE (callF (c_L_by r)) (consL (varE 6) (consL (varE 1) nilL))) nilL))) (nameG 8)) (seqS (ifS (valB (binE (pf2 gtP) (binE (pf2 ixP) (appE (callF (c_L_gap r)) (consL (varE 8) (consL (varE 3) nilL))) (constE (.int 0))) (constE (.int 0)))) (seqS (asgS (varE 8) (nameG 3)) nilS) nilS) nilS))) (seqS (retS false (varE 3)) nilS))))
abbrev N_L_toll : List Str := ["own", "far", "lasts", "best", "first", "last", "k", "q", "some"]
abbrev i_L_toll : Info := ⟨N_L_toll, p_L_toll, a_L_toll, false, [], b_L_toll⟩
def b_L_least (r : Runs) : CS := (seqS (asgS (constE .none) (nameG 1)) (seqS (forS (seqI (frzE (varE 0))) (tupG 2 (consG (nameG 2) (consG (nameG 3) nilG))) (seqS (ifS (andB (valB (binE isntF (varE 3) (constE .none))) (orB (valB (binE isF (varE 1) (constE .none))) (valB (binE (pf2 ltP) (binE (pf2 ixP) (appE (callF (c_L_gap r)) (consL (appE (callF (c_L_sum r)) (consL (varE 2) (consL (varE 3) nilL))) (consL (varE 1) nilL))) (constE (.int 0))) (constE (.int 0)))))) (seqS (asgS (appE (callF (c_L_sum r)) (consL (varE 2) (consL (varE 3) nilL))) (nameG 1)) nilS) nilS) nilS)) (seqS (retS false (appE (callF (c_L_even r)) (consL (varE 1) nilL))) nilS)))
abbrev N_L_least : List Str := ["some", "best", "n", "cost"]
abbrev i_L_least : Info := ⟨N_L_least, p_L_least, a_L_least, false, [], b_L_least⟩
def b_L_own (r : Runs) : CS := (seqS (parS 3 4 (consL (appE lstM (consL (appE tupF (consL (appE tupF (consL (constE (.int 0)) (consL (constE (.int 1)) nilL))) (consL (appE tupF (consL (constE (.int 0)) (consL (constE (.int 1)) nilL))) nilL))) nilL)) (consL (appE lstM (consL (appE tupF (consL (appE tupF (consL (constE (.int 0)) (consL (constE (.int 1)) nilL))) (consL (binE (pf2 ixP) (varE 2) (constE (.int 0))) nilL))) nilL)) nilL))) (seqS (forS (seqI (frzE (varE 1))) (tupG 2 (consG (nameG 5) (consG (nameG 6) nilG))) (seqS (asgS (binE (pf2 ixP) (varE 3) (unE (pf1 negP) (constE (.int 1)))) (tupG 2 (consG (nameG 9) (consG (nameG 10) nilG)))) (seqS (exprS (appendE (varE 3) (appE tupF (consL (appE (callF (c_L_even r)) (consL (appE (callF (c_L_sum r)) (consL (varE 9) (consL (varE 5) nilL))) nilL)) (consL (appE (callF (c_L_even r)) (consL (appE (callF (c_L_gap r)) (consL (varE 10) (consL (appE (callF (c_L_by r)) (consL (varE 6) (consL (varE 5) nilL))) nilL))) nilL)) nilL))))) nilS))) (seqS (forS (seqI (binE (pf2 ixP) (varE 2) (constE (.int 1)))) (tupG 2 (consG (nameG 7) (consG (nameG 8) nilG))) (seqS (asgS (binE (pf2 ixP) (varE 4) (unE (pf1 negP) (constE (.int 1)))) (tupG 2 (consG (nameG 11) (consG (nameG 10) nilG)))) (seqS (exprS (appendE (varE 4) (appE tupF (consL (appE (callF (c_L_even r)) (consL (appE (callF (c_L_sum r)) (consL (varE 11) (consL (varE 7) nilL))) nilL)) (consL (appE (callF (c_L_even r)) (consL (appE (callF (c_L_sum r)) (consL (varE 10) (consL (appE (callF (c_L_by r)) (consL (varE 7) (consL (varE 8) nilL))) nilL))) nilL)) nilL))))) nilS))) (seqS (retS false (appE lstF (consL (frzE (varE 0)) (consL (appE (callF (c_L_speeds r)) (consL (varE 0) nilL)) (consL (binE (pf2 ixP) (binE (pf2 ixP) (varE 3) (unE (pf1 negP) (constE (.int 1)))) (constE (.int 0))) (consL (frzE (varE 3)) (consL (frzE (varE 4)) nilL))))))) nilS))))
abbrev N_L_own : List Str := ["line", "begin", "come", "start", "came", "wide", "k", "lasts", "rate", "x", "n", "t"]
abbrev i_L_own : Info := ⟨N_L_own, p_L_own, a_L_own, false, [⟨216, 19, 216, 37⟩, ⟨216, 39, 216, 58⟩], b_L_own⟩
def b_L_number (r : Runs) : CS := (seqS (par3S 4 5 6 (consL (binE (pf2 ixP) (varE 0) (constE (.int 3))) (consL (binE (pf2 ixP) (varE 0) (constE (.int 4))) (consL (appE lstM nilL) nilL)))) (seqS (forS (seqI (frzE (varE 4))) (tupG 2 (consG (nameG 7) (consG (nameG 8) nilG))) (seqS (exprS (appendE (varE 6) (appE tupF (consL (frzE (varE 8)) (consL (appE (callF (c_L_toll r)) (consL (varE 0) (consL (appE (callF (c_L_gap r)) (consL (varE 1) (consL (varE 7) nilL))) (consL (varE 2) nilL)))) nilL))))) nilS)) (seqS (forS (seqI (frzE (varE 5))) (tupG 2 (consG (nameG 9) (consG (nameG 8) nilG))) (seqS (exprS (appendE (varE 6) (appE tupF (consL (frzE (varE 8)) (consL (appE (callF (c_L_toll r)) (consL (varE 0) (consL (varE 1) (consL (appE (callF (c_L_gap r)) (consL (varE 2) (consL (varE 9) nilL))) nilL)))) nilL))))) nilS)) (seqS (forS (seqI (binE (pf2 ixP) (varE 0) (constE (.int 1)))) (nameG 3) (seqS (asgS (appE (callF (c_L_gap r)) (consL (varE 1) (consL (appE (callF (c_L_by r)) (consL (varE 3) (consL (varE 2) nilL))) nilL))) (nameG 7)) (seqS (ifS (andB (valB (binE (pf2 geP) (binE (pf2 ixP) (varE 7) (constE (.int 0))) (constE (.int 0)))) (valB (binE (pf2 geP) (binE (pf2 ixP) (appE (callF (c_L_gap r)) (consL (binE (pf2 ixP) (varE 0) (constE (.int 2))) (consL (varE 7) nilL))) (constE (.int 0))) (constE (.int 0))))) (seqS (exprS (appendE (varE 6) (appE tupF (consL (appE (callF (c_L_along r)) (consL (varE 4) (consL (varE 7) nilL))) (consL (appE (callF (c_L_toll r)) (consL (varE 0) (consL (appE (callF (c_L_by r)) (consL (varE 3) (consL (varE 2) nilL))) (consL (varE 2) nilL)))) nilL))))) nilS) nilS) (seqS (asgS (ifE (valB (binE (pf2 gtP) (binE (pf2 ixP) (varE 3) (constE (.int 0))) (constE (.int 0)))) (appE (callF (c_L_gap r)) (consL (varE 2) (consL (appE (callF (c_L_per r)) (consL (varE 1) (consL (varE 3) nilL))) nilL))) (appE tupF (consL (binE (pf2 subP) (constE (.int 0)) (constE (.int 1))) (consL (constE (.int 1)) nilL)))) (nameG 9)) (seqS (ifS (valB (binE (pf2 geP) (binE (pf2 ixP) (varE 9) (constE (.int 0))) (constE (.int 0)))) (seqS (exprS (appendE (varE 6) (appE tupF (consL (appE (callF (c_L_along r)) (consL (varE 5) (consL (varE 9) nilL))) (consL (appE (callF (c_L_toll r)) (consL (varE 0) (consL (varE 1) (consL (appE (callF (c_L_gap r)) (consL (varE 2) (consL (varE 9) nilL))) nilL)))) nilL))))) nilS) nilS) nilS))))) (seqS (ifS (valB (binE (pf2 eqP) (binE (pf2 ixP) (varE 1) (constE (.int 0))) (constE (.int 0)))) (seqS (exprS (appendE (varE 6) (appE tupF (consL (appE (callF (c_L_along r)) (consL (varE 5) (consL (varE 2) nilL))) (consL (appE tupF (consL (constE (.int 0)) (consL (constE (.int 1)) nilL))) nilL))))) nilS) nilS) (seqS (retS false (appE (callF (c_L_least r)) (consL (varE 6) nilL))) nilS))))))
abbrev N_L_number : List Str := ["own", "x", "t", "v", "start", "came", "found", "y", "n", "s"]
abbrev i_L_number : Info := ⟨N_L_number, p_L_number, a_L_number, false, [⟨225, 42, 225, 44⟩], b_L_number⟩
def b_L_is_begin (r : Runs) : CS := (seqS (ifS (orB (notB (valB (isiE "tuple" (varE 0)))) (orB (valB (binE (pf2 eqP) (varE 0) (appE tupF nilL))) (valB (binE (pf2 gtP) (appE (pfN lenP) (consL (varE 0) nilL)) (constE (.int 40)))))) (seqS (retS false (constE (.bool false))) nilS) nilS) (seqS (asgS (appE tupF (consL (constE (.int 0)) (consL (constE (.int 1)) nilL))) (nameG 4)) (seqS (forS (seqI (frzE (varE 0))) (nameG 5) (seqS (ifS (orB (notB (valB (isiE "tuple" (varE 5)))) (valB (binE (pf2 neP) (appE (pfN lenP) (consL (varE 5) nilL)) (constE (.int 2))))) (seqS (retS false (constE (.bool false))) nilS) nilS) (seqS (ifS (orB (notB (valB (appE (callF (c_L_is_fraction r)) (consL (binE (pf2 ixP) (varE 5) (constE (.int 0))) nilL)))) (notB (valB (appE (callF (c_L_is_fraction r)) (consL (binE (pf2 ixP) (varE 5) (constE (.int 1))) nilL))))) (seqS (retS false (constE (.bool false))) nilS) nilS) (seqS (asgS (varE 5) (tupG 2 (consG (nameG 6) (consG (nameG 7) nilG)))) (seqS (ifS (orB (valB (binE (pf2 leP) (binE (pf2 ixP) (varE 6) (constE (.int 0))) (constE (.int 0)))) (orB (valB (binE (pf2 ltP) (binE (pf2 ixP) (varE 7) (constE (.int 0))) (constE (.int 0)))) (orB (valB (binE (pf2 ltP) (binE (pf2 ixP) (appE (callF (c_L_gap r)) (consL (binE (pf2 ixP) (binE (pf2 ixP) (varE 2) (unE (pf1 negP) (constE (.int 1)))) (constE (.int 0))) (consL (varE 7) nilL))) (constE (.int 0))) (constE (.int 0)))) (valB (binE (pf2 ltP) (binE (pf2 ixP) (appE (callF (c_L_gap r)) (consL (binE (pf2 ixP) (binE (pf2 ixP) (varE 3) (unE (pf1 negP) (constE (.int 1)))) (constE (.int 0))) (consL (varE 7) nilL))) (constE (.int 0))) (constE (.int 0))))))) (seqS (retS false (constE (.bool false))) nilS) nilS) (seqS (asgS (appE (callF (c_L_sum r)) (consL (varE 4) (consL (varE 6) nilL))) (nameG 4)) nilS)))))) (seqS (retS false (binE (pf2 eqP) (binE (pf2 ixP) (appE (callF (c_L_gap r)) (consL (varE 4) (consL (varE 1) nilL))) (constE (.int 0))) (constE (.int 0)))) nilS))))
abbrev N_L_is_begin : List Str := ["told", "room", "one", "two", "far", "piece", "wide", "k"]
abbrev i_L_is_begin : Info := ⟨N_L_is_begin, p_L_is_begin, a_L_is_begin, false, [], b_L_is_begin⟩
def b_L_is_parted (r : Runs) : CS := (seqS (ifS (orB (notB (valB (isiE "tuple" (varE 0)))) (orB (valB (binE (pf2 neP) (appE (pfN lenP) (consL (varE 0) nilL)) (constE (.int 3)))) (notB (valB (appE (callF (c_L_is_begin r)) (consL (binE (pf2 ixP) (varE 0) (constE (.int 0))) (consL (varE 1) (consL (varE 2) (consL (varE 3) nilL))))))))) (seqS (retS false (constE (.bool false))) nilS) nilS) (seqS (asgS (varE 0) (tupG 3 (consG (nameG 6) (consG (nameG 7) (consG (nameG 8) nilG))))) (seqS (ifS (orB (notB (valB (appE (callF (c_L_is_fraction r)) (consL (varE 7) nilL)))) (orB (notB (valB (appE (callF (c_L_is_fraction r)) (consL (varE 8) nilL)))) (orB (valB (binE (pf2 ltP) (binE (pf2 ixP) (varE 7) (constE (.int 0))) (constE (.int 0)))) (orB (valB (binE (pf2 ltP) (binE (pf2 ixP) (varE 8) (constE (.int 0))) (constE (.int 0)))) (valB (binE (pf2 ltP) (binE (pf2 ixP) (appE (callF (c_L_gap r)) (consL (varE 1) (consL (varE 7) nilL))) (constE (.int 0))) (constE (.int 0)))))))) (seqS (retS false (constE (.bool false))) nilS) nilS) (seqS (asgS (appE (callF (c_L_number r)) (consL (appE (callF (c_L_own r)) (consL (varE 2) (consL (varE 6) (consL (appE tupF (consL (appE tupF (consL (constE (.int 0)) (consL (constE (.int 1)) nilL))) (consL (appE tupF nilL) nilL))) nilL)))) (consL (varE 7) (consL (varE 8) nilL)))) (nameG 4)) (seqS (asgS (appE (callF (c_L_number r)) (consL (appE (callF (c_L_own r)) (consL (varE 3) (consL (varE 6) (consL (appE tupF (consL (appE tupF (consL (constE (.int 0)) (consL (constE (.int 1)) nilL))) (consL (appE tupF nilL) nilL))) nilL)))) (consL (varE 7) (consL (varE 8) nilL)))) (nameG 5)) (seqS (retS false (binE (pf2 ltP) (binE (pf2 ixP) (appE (callF (c_L_gap r)) (consL (varE 4) (consL (varE 5) nilL))) (constE (.int 0))) (constE (.int 0)))) nilS))))))
abbrev N_L_is_parted : List Str := ["told", "room", "one", "two", "n", "m", "begin", "x", "t"]
abbrev i_L_is_parted : Info := ⟨N_L_is_parted, p_L_is_parted, a_L_is_parted, false, [], b_L_is_parted⟩
def b_L_right (r : Runs) : CS := (seqS (asgS (appE (callF (c_L_kind r)) (consL (varE 0) nilL)) (nameG 1)) (seqS (parS 2 3 (consL (appE (callF (c_L_kin r)) (consL (varE 0) (consL (varE 1) nilL))) (consL (appE (callF (c_L_cut r)) (consL (binE (pf2 addP) (constE (.int 1)) (appE (callF (c_L_tap r)) (consL (varE 0) (consL (constE (.int 9)) nilL)))) (consL (binE (pf2 addP) (constE (.int 1)) (appE (callF (c_L_tap r)) (consL (varE 0) (consL (constE (.int 5)) nilL)))) nilL))) nilL))) (seqS (forS (seqI (appE lstF (consL (appE tupF (consL (frzE (varE 1)) (consL (frzE (varE 2)) nilL))) (consL (appE tupF (consL (frzE (varE 2)) (consL (frzE (varE 1)) nilL))) (consL (appE tupF (consL (frzE (varE 1)) (consL (frzE (varE 1)) nilL))) nilL))))) (tupG 2 (consG (nameG 4) (consG (nameG 5) nilG))) (seqS (asgS (binE (pf2 neP) (appE (callF (c_L_bare r)) (consL (varE 4) (consL (varE 5) nilL))) (appE lstF nilL)) (nameG 6)) (seqS (asgS (binE (pf2 eqP) (appE (callF (c_L_tap r)) (consL (varE 0) (consL (constE (.int 2)) nilL))) (constE (.int 0))) (nameG 7)) (seqS (asgS (ifE (valB (varE 7)) (kwE (c_parting_scene r) [2, 1, 0] nilL (consL (varE 3) (consL (varE 5) (consL (varE 4) nilL)))) (appE (callF (c_parting_scene r)) (consL (varE 4) (consL (varE 5) (consL (varE 3) nilL))))) (nameG 8)) (seqS (ifS (orB (valB (binE (pf2 eqP) (binE isF (varE 8) (constE .none)) (varE 6))) (andB (valB (varE 6)) (notB (valB (appE (callF (c_L_is_parted r)) (consL (varE 8) (consL (varE 3) (consL (varE 4) (consL (varE 5) nilL))))))))) (seqS (retS false (constE (.bool false))) nilS) nilS) nilS))))) (seqS (retS false (constE (.bool true))) nilS))))
abbrev N_L_right : List Str := ["cask", "line", "mate", "wide", "one", "two", "is_less", "named", "told"]
abbrev i_L_right : Info := ⟨N_L_right, p_L_right, a_L_right, false, [], b_L_right⟩
def b_law (r : Runs) : CS := (seqS (retS false (appE (pfN allP) (consL (lcE [1] false (range1I (appE (pfN maxP) (consL (constE (.int 2)) (consL (appE (pfN minP) (consL (appE (pfN lenP) (consL (varE 0) nilL)) (consL (constE (.int 3)) nilL))) nilL)))) (nameG 1) yesB (appE (callF (c_L_right r)) (consL (appE (callF (c_L_cask r)) (consL (varE 0) (consL (varE 1) nilL))) nilL))) nilL))) nilS)
abbrev N_law : List Str := ["script", "turn"]
abbrev i_law : Info := ⟨N_law, p_law, a_law, false, [], b_law⟩
abbrev T : Tbl := [(("is_whole" : Str), i_is_whole), (("are_wholes" : Str), i_are_wholes), (("common_part" : Str), i_common_part), (("lowest" : Str), i_lowest), (("lowest_over" : Str), i_lowest_over), (("ratio" : Str), i_ratio), (("plus" : Str), i_plus), (("minus" : Str), i_minus), (("times" : Str), i_times), (("divided" : Str), i_divided), (("is_below" : Str), i_is_below), (("is_fraction" : Str), i_is_fraction), (("is_amount" : Str), i_is_amount), (("are_fractions" : Str), i_are_fractions), (("check_amount" : Str), i_check_amount), (("slope_of" : Str), i_slope_of), (("kind_speeds" : Str), i_kind_speeds), (("is_kind" : Str), i_is_kind), (("is_corner" : Str), i_is_corner), (("check_kind" : Str), i_check_kind), (("full_density" : Str), i_full_density), (("flow_by" : Str), i_flow_by), (("check_kinds" : Str), i_check_kinds), (("bare_by" : Str), i_bare_by), (("scene_parted" : Str), i_scene_parted), (("parting_scene" : Str), i_parting_scene), (("_law_cask" : Str), i_L_cask), (("_law_tap" : Str), i_L_tap), (("_law_of" : Str), i_L_of), (("_law_cut" : Str), i_L_cut), (("_law_even" : Str), i_L_even), (("_law_sum" : Str), i_L_sum), (("_law_gap" : Str), i_L_gap), (("_law_by" : Str), i_L_by), (("_law_per" : Str), i_L_per), (("_law_kind" : Str), i_L_kind), (("_law_speeds" : Str), i_L_speeds), (("_law_along" : Str), i_L_along), (("_law_kin" : Str), i_L_kin), (("_law_bare" : Str), i_L_bare), (("_law_is_fraction" : Str), i_L_is_fraction), (("_law_toll" : Str), i_L_toll), (("_law_least" : Str), i_L_least), (("_law_own" : Str), i_L_own), (("_law_number" : Str), i_L_number), (("_law_is_begin" : Str), i_L_is_begin), (("_law_is_parted" : Str), i_L_is_parted), (("_law_right" : Str), i_L_right), (("law" : Str), i_law)]
abbrev G : Glb := ⟨[(("NOUGHT" : Str), (.tuple [(.int 0), (.int 1)])), (("LEAST_CORNERS" : Str), (.int 3)), (("MOST_CORNERS" : Str), (.int 12)), (("HALF" : Str), (.tuple [(.int 1), (.int 2)]))], [(("gcd" : Str), "math.gcd")], [("len" : Str), ("int" : Str), ("tuple" : Str), ("abs" : Str), ("max" : Str), ("min" : Str), ("all" : Str), ("divmod" : Str), ("isinstance" : Str), ("bool" : Str), ("range" : Str), ("zip" : Str)]⟩
set_option maxHeartbeats 0 in
theorem k_is_whole (r : Runs) : cDef (ctxOf G T r i_is_whole) s_is_whole = some (b_is_whole r) := by kernel_rfl
theorem f_is_whole : FnScope N_is_whole p_is_whole (defScope s_is_whole) := ⟨rfl, rfl, rfl, by decide +kernel, rfl, by decide +kernel, by decide +kernel⟩
set_option maxHeartbeats 0 in
theorem k_are_wholes (r : Runs) : cDef (ctxOf G T r i_are_wholes) s_are_wholes = some (b_are_wholes r) := by kernel_rfl
theorem f_are_wholes : FnScope N_are_wholes p_are_wholes (defScope s_are_wholes) := ⟨rfl, rfl, rfl, by decide +kernel, rfl, by decide +kernel, by decide +kernel⟩
set_option maxHeartbeats 0 in
theorem k_common_part (r : Runs) : cDef (ctxOf G T r i_common_part) s_common_part = some (b_common_part r) := by kernel_rfl
theorem f_common_part : FnScope N_common_part p_common_part (defScope s_common_part) := ⟨rfl, rfl, rfl, by decide +kernel, rfl, by decide +kernel, by decide +kernel⟩
set_option maxHeartbeats 0 in
theorem k_lowest (r : Runs) : cDef (ctxOf G T r i_lowest) s_lowest = some (b_lowest r) := by kernel_rfl
theorem f_lowest : FnScope N_lowest p_lowest (defScope s_lowest) := ⟨rfl, rfl, rfl, by decide +kernel, rfl, by decide +kernel, by decide +kernel⟩
set_option maxHeartbeats 0 in
theorem k_lowest_over (r : Runs) : cDef (ctxOf G T r i_lowest_over) s_lowest_over = some (b_lowest_over r) := by kernel_rfl
theorem f_lowest_over : FnScope N_lowest_over p_lowest_over (defScope s_lowest_over) := ⟨rfl, rfl, rfl, by decide +kernel, rfl, by decide +kernel, by decide +kernel⟩
set_option maxHeartbeats 0 in
theorem k_ratio (r : Runs) : cDef (ctxOf G T r i_ratio) s_ratio = some (b_ratio r) := by kernel_rfl
theorem f_ratio : FnScope N_ratio p_ratio (defScope s_ratio) := ⟨rfl, rfl, rfl, by decide +kernel, rfl, by decide +kernel, by decide +kernel⟩
set_option maxHeartbeats 0 in
theorem k_plus (r : Runs) : cDef (ctxOf G T r i_plus) s_plus = some (b_plus r) := by kernel_rfl
theorem f_plus : FnScope N_plus p_plus (defScope s_plus) := ⟨rfl, rfl, rfl, by decide +kernel, rfl, by decide +kernel, by decide +kernel⟩
set_option maxHeartbeats 0 in
theorem k_minus (r : Runs) : cDef (ctxOf G T r i_minus) s_minus = some (b_minus r) := by kernel_rfl
theorem f_minus : FnScope N_minus p_minus (defScope s_minus) := ⟨rfl, rfl, rfl, by decide +kernel, rfl, by decide +kernel, by decide +kernel⟩
set_option maxHeartbeats 0 in
theorem k_times (r : Runs) : cDef (ctxOf G T r i_times) s_times = some (b_times r) := by kernel_rfl
theorem f_times : FnScope N_times p_times (defScope s_times) := ⟨rfl, rfl, rfl, by decide +kernel, rfl, by decide +kernel, by decide +kernel⟩
set_option maxHeartbeats 0 in
theorem k_divided (r : Runs) : cDef (ctxOf G T r i_divided) s_divided = some (b_divided r) := by kernel_rfl
theorem f_divided : FnScope N_divided p_divided (defScope s_divided) := ⟨rfl, rfl, rfl, by decide +kernel, rfl, by decide +kernel, by decide +kernel⟩
set_option maxHeartbeats 0 in
theorem k_is_below (r : Runs) : cDef (ctxOf G T r i_is_below) s_is_below = some (b_is_below r) := by kernel_rfl
theorem f_is_below : FnScope N_is_below p_is_below (defScope s_is_below) := ⟨rfl, rfl, rfl, by decide +kernel, rfl, by decide +kernel, by decide +kernel⟩
set_option maxHeartbeats 0 in
theorem k_is_fraction (r : Runs) : cDef (ctxOf G T r i_is_fraction) s_is_fraction = some (b_is_fraction r) := by kernel_rfl
theorem f_is_fraction : FnScope N_is_fraction p_is_fraction (defScope s_is_fraction) := ⟨rfl, rfl, rfl, by decide +kernel, rfl, by decide +kernel, by decide +kernel⟩
set_option maxHeartbeats 0 in
theorem k_is_amount (r : Runs) : cDef (ctxOf G T r i_is_amount) s_is_amount = some (b_is_amount r) := by kernel_rfl
theorem f_is_amount : FnScope N_is_amount p_is_amount (defScope s_is_amount) := ⟨rfl, rfl, rfl, by decide +kernel, rfl, by decide +kernel, by decide +kernel⟩
set_option maxHeartbeats 0 in
theorem k_are_fractions (r : Runs) : cDef (ctxOf G T r i_are_fractions) s_are_fractions = some (b_are_fractions r) := by kernel_rfl
theorem f_are_fractions : FnScope N_are_fractions p_are_fractions (defScope s_are_fractions) := ⟨rfl, rfl, rfl, by decide +kernel, rfl, by decide +kernel, by decide +kernel⟩
set_option maxHeartbeats 0 in
theorem k_check_amount (r : Runs) : cDef (ctxOf G T r i_check_amount) s_check_amount = some (b_check_amount r) := by kernel_rfl
theorem f_check_amount : FnScope N_check_amount p_check_amount (defScope s_check_amount) := ⟨rfl, rfl, rfl, by decide +kernel, rfl, by decide +kernel, by decide +kernel⟩
set_option maxHeartbeats 0 in
theorem k_slope_of (r : Runs) : cDef (ctxOf G T r i_slope_of) s_slope_of = some (b_slope_of r) := by kernel_rfl
theorem f_slope_of : FnScope N_slope_of p_slope_of (defScope s_slope_of) := ⟨rfl, rfl, rfl, by decide +kernel, rfl, by decide +kernel, by decide +kernel⟩
set_option maxHeartbeats 0 in
theorem k_kind_speeds (r : Runs) : cDef (ctxOf G T r i_kind_speeds) s_kind_speeds = some (b_kind_speeds r) := by kernel_rfl
theorem f_kind_speeds : FnScope N_kind_speeds p_kind_speeds (defScope s_kind_speeds) := ⟨rfl, rfl, rfl, by decide +kernel, rfl, by decide +kernel, by decide +kernel⟩
set_option maxHeartbeats 0 in
theorem k_is_kind (r : Runs) : cDef (ctxOf G T r i_is_kind) s_is_kind = some (b_is_kind r) := by kernel_rfl
theorem f_is_kind : FnScope N_is_kind p_is_kind (defScope s_is_kind) := ⟨rfl, rfl, rfl, by decide +kernel, rfl, by decide +kernel, by decide +kernel⟩
set_option maxHeartbeats 0 in
theorem k_is_corner (r : Runs) : cDef (ctxOf G T r i_is_corner) s_is_corner = some (b_is_corner r) := by kernel_rfl
theorem f_is_corner : FnScope N_is_corner p_is_corner (defScope s_is_corner) := ⟨rfl, rfl, rfl, by decide +kernel, rfl, by decide +kernel, by decide +kernel⟩
set_option maxHeartbeats 0 in
theorem k_check_kind (r : Runs) : cDef (ctxOf G T r i_check_kind) s_check_kind = some (b_check_kind r) := by kernel_rfl
theorem f_check_kind : FnScope N_check_kind p_check_kind (defScope s_check_kind) := ⟨rfl, rfl, rfl, by decide +kernel, rfl, by decide +kernel, by decide +kernel⟩
set_option maxHeartbeats 0 in
theorem k_full_density (r : Runs) : cDef (ctxOf G T r i_full_density) s_full_density = some (b_full_density r) := by kernel_rfl
theorem f_full_density : FnScope N_full_density p_full_density (defScope s_full_density) := ⟨rfl, rfl, rfl, by decide +kernel, rfl, by decide +kernel, by decide +kernel⟩
set_option maxHeartbeats 0 in
theorem k_flow_by (r : Runs) : cDef (ctxOf G T r i_flow_by) s_flow_by = some (b_flow_by r) := by kernel_rfl
theorem f_flow_by : FnScope N_flow_by p_flow_by (defScope s_flow_by) := ⟨rfl, rfl, rfl, by decide +kernel, rfl, by decide +kernel, by decide +kernel⟩
set_option maxHeartbeats 0 in
theorem k_check_kinds (r : Runs) : cDef (ctxOf G T r i_check_kinds) s_check_kinds = some (b_check_kinds r) := by kernel_rfl
theorem f_check_kinds : FnScope N_check_kinds p_check_kinds (defScope s_check_kinds) := ⟨rfl, rfl, rfl, by decide +kernel, rfl, by decide +kernel, by decide +kernel⟩
set_option maxHeartbeats 0 in
theorem k_bare_by (r : Runs) : cDef (ctxOf G T r i_bare_by) s_bare_by = some (b_bare_by r) := by kernel_rfl
theorem f_bare_by : FnScope N_bare_by p_bare_by (defScope s_bare_by) := ⟨rfl, rfl, rfl, by decide +kernel, rfl, by decide +kernel, by decide +kernel⟩
set_option maxHeartbeats 0 in
theorem k_scene_parted (r : Runs) : cDef (ctxOf G T r i_scene_parted) s_scene_parted = some (b_scene_parted r) := by kernel_rfl
theorem f_scene_parted : FnScope N_scene_parted p_scene_parted (defScope s_scene_parted) := ⟨rfl, rfl, rfl, by decide +kernel, rfl, by decide +kernel, by decide +kernel⟩
set_option maxHeartbeats 0 in
theorem k_parting_scene (r : Runs) : cDef (ctxOf G T r i_parting_scene) s_parting_scene = some (b_parting_scene r) := by kernel_rfl
theorem f_parting_scene : FnScope N_parting_scene p_parting_scene (defScope s_parting_scene) := ⟨rfl, rfl, rfl, by decide +kernel, rfl, by decide +kernel, by decide +kernel⟩
set_option maxHeartbeats 0 in
theorem k_L_cask (r : Runs) : cDef (ctxOf G T r i_L_cask) s_L_cask = some (b_L_cask r) := by kernel_rfl
theorem f_L_cask : FnScope N_L_cask p_L_cask (defScope s_L_cask) := ⟨rfl, rfl, rfl, by decide +kernel, rfl, by decide +kernel, by decide +kernel⟩
set_option maxHeartbeats 0 in
theorem k_L_tap (r : Runs) : cDef (ctxOf G T r i_L_tap) s_L_tap = some (b_L_tap r) := by kernel_rfl
theorem f_L_tap : FnScope N_L_tap p_L_tap (defScope s_L_tap) := ⟨rfl, rfl, rfl, by decide +kernel, rfl, by decide +kernel, by decide +kernel⟩
set_option maxHeartbeats 0 in
theorem k_L_of (r : Runs) : cDef (ctxOf G T r i_L_of) s_L_of = some (b_L_of r) := by kernel_rfl
theorem f_L_of : FnScope N_L_of p_L_of (defScope s_L_of) := ⟨rfl, rfl, rfl, by decide +kernel, rfl, by decide +kernel, by decide +kernel⟩
set_option maxHeartbeats 0 in
theorem k_L_cut (r : Runs) : cDef (ctxOf G T r i_L_cut) s_L_cut = some (b_L_cut r) := by kernel_rfl
theorem f_L_cut : FnScope N_L_cut p_L_cut (defScope s_L_cut) := ⟨rfl, rfl, rfl, by decide +kernel, rfl, by decide +kernel, by decide +kernel⟩
set_option maxHeartbeats 0 in
theorem k_L_even (r : Runs) : cDef (ctxOf G T r i_L_even) s_L_even = some (b_L_even r) := by kernel_rfl
theorem f_L_even : FnScope N_L_even p_L_even (defScope s_L_even) := ⟨rfl, rfl, rfl, by decide +kernel, rfl, by decide +kernel, by decide +kernel⟩
set_option maxHeartbeats 0 in
theorem k_L_sum (r : Runs) : cDef (ctxOf G T r i_L_sum) s_L_sum = some (b_L_sum r) := by kernel_rfl
theorem f_L_sum : FnScope N_L_sum p_L_sum (defScope s_L_sum) := ⟨rfl, rfl, rfl, by decide +kernel, rfl, by decide +kernel, by decide +kernel⟩
set_option maxHeartbeats 0 in
theorem k_L_gap (r : Runs) : cDef (ctxOf G T r i_L_gap) s_L_gap = some (b_L_gap r) := by kernel_rfl
theorem f_L_gap : FnScope N_L_gap p_L_gap (defScope s_L_gap) := ⟨rfl, rfl, rfl, by decide +kernel, rfl, by decide +kernel, by decide +kernel⟩
set_option maxHeartbeats 0 in
theorem k_L_by (r : Runs) : cDef (ctxOf G T r i_L_by) s_L_by = some (b_L_by r) := by kernel_rfl
theorem f_L_by : FnScope N_L_by p_L_by (defScope s_L_by) := ⟨rfl, rfl, rfl, by decide +kernel, rfl, by decide +kernel, by decide +kernel⟩
set_option maxHeartbeats 0 in
theorem k_L_per (r : Runs) : cDef (ctxOf G T r i_L_per) s_L_per = some (b_L_per r) := by kernel_rfl
theorem f_L_per : FnScope N_L_per p_L_per (defScope s_L_per) := ⟨rfl, rfl, rfl, by decide +kernel, rfl, by decide +kernel, by decide +kernel⟩
set_option maxHeartbeats 0 in
theorem k_L_kind (r : Runs) : cDef (ctxOf G T r i_L_kind) s_L_kind = some (b_L_kind r) := by kernel_rfl
theorem f_L_kind : FnScope N_L_kind p_L_kind (defScope s_L_kind) := ⟨rfl, rfl, rfl, by decide +kernel, rfl, by decide +kernel, by decide +kernel⟩
set_option maxHeartbeats 0 in
theorem k_L_speeds (r : Runs) : cDef (ctxOf G T r i_L_speeds) s_L_speeds = some (b_L_speeds r) := by kernel_rfl
theorem f_L_speeds : FnScope N_L_speeds p_L_speeds (defScope s_L_speeds) := ⟨rfl, rfl, rfl, by decide +kernel, rfl, by decide +kernel, by decide +kernel⟩
set_option maxHeartbeats 0 in
theorem k_L_along (r : Runs) : cDef (ctxOf G T r i_L_along) s_L_along = some (b_L_along r) := by kernel_rfl
theorem f_L_along : FnScope N_L_along p_L_along (defScope s_L_along) := ⟨rfl, rfl, rfl, by decide +kernel, rfl, by decide +kernel, by decide +kernel⟩
set_option maxHeartbeats 0 in
theorem k_L_kin (r : Runs) : cDef (ctxOf G T r i_L_kin) s_L_kin = some (b_L_kin r) := by kernel_rfl
theorem f_L_kin : FnScope N_L_kin p_L_kin (defScope s_L_kin) := ⟨rfl, rfl, rfl, by decide +kernel, rfl, by decide +kernel, by decide +kernel⟩
set_option maxHeartbeats 0 in
theorem k_L_bare (r : Runs) : cDef (ctxOf G T r i_L_bare) s_L_bare = some (b_L_bare r) := by kernel_rfl
theorem f_L_bare : FnScope N_L_bare p_L_bare (defScope s_L_bare) := ⟨rfl, rfl, rfl, by decide +kernel, rfl, by decide +kernel, by decide +kernel⟩
set_option maxHeartbeats 0 in
theorem k_L_is_fraction (r : Runs) : cDef (ctxOf G T r i_L_is_fraction) s_L_is_fraction = some (b_L_is_fraction r) := by kernel_rfl
theorem f_L_is_fraction : FnScope N_L_is_fraction p_L_is_fraction (defScope s_L_is_fraction) := ⟨rfl, rfl, rfl, by decide +kernel, rfl, by decide +kernel, by decide +kernel⟩
set_option maxHeartbeats 0 in
theorem k_L_toll (r : Runs) : cDef (ctxOf G T r i_L_toll) s_L_toll = some (b_L_toll r) := by kernel_rfl
theorem f_L_toll : FnScope N_L_toll p_L_toll (defScope s_L_toll) := ⟨rfl, rfl, rfl, by decide +kernel, rfl, by decide +kernel, by decide +kernel⟩
set_option maxHeartbeats 0 in
theorem k_L_least (r : Runs) : cDef (ctxOf G T r i_L_least) s_L_least = some (b_L_least r) := by kernel_rfl
theorem f_L_least : FnScope N_L_least p_L_least (defScope s_L_least) := ⟨rfl, rfl, rfl, by decide +kernel, rfl, by decide +kernel, by decide +kernel⟩
set_option maxHeartbeats 0 in
theorem k_L_own (r : Runs) : cDef (ctxOf G T r i_L_own) s_L_own = some (b_L_own r) := by kernel_rfl
theorem f_L_own : FnScope N_L_own p_L_own (defScope s_L_own) := ⟨rfl, rfl, rfl, by decide +kernel, rfl, by decide +kernel, by decide +kernel⟩
set_option maxHeartbeats 0 in
theorem k_L_number (r : Runs) : cDef (ctxOf G T r i_L_number) s_L_number = some (b_L_number r) := by kernel_rfl
theorem f_L_number : FnScope N_L_number p_L_number (defScope s_L_number) := ⟨rfl, rfl, rfl, by decide +kernel, rfl, by decide +kernel, by decide +kernel⟩
set_option maxHeartbeats 0 in
theorem k_L_is_begin (r : Runs) : cDef (ctxOf G T r i_L_is_begin) s_L_is_begin = some (b_L_is_begin r) := by kernel_rfl
theorem f_L_is_begin : FnScope N_L_is_begin p_L_is_begin (defScope s_L_is_begin) := ⟨rfl, rfl, rfl, by decide +kernel, rfl, by decide +kernel, by decide +kernel⟩
set_option maxHeartbeats 0 in
theorem k_L_is_parted (r : Runs) : cDef (ctxOf G T r i_L_is_parted) s_L_is_parted = some (b_L_is_parted r) := by kernel_rfl
theorem f_L_is_parted : FnScope N_L_is_parted p_L_is_parted (defScope s_L_is_parted) := ⟨rfl, rfl, rfl, by decide +kernel, rfl, by decide +kernel, by decide +kernel⟩
set_option maxHeartbeats 0 in
theorem k_L_right (r : Runs) : cDef (ctxOf G T r i_L_right) s_L_right = some (b_L_right r) := by kernel_rfl
theorem f_L_right : FnScope N_L_right p_L_right (defScope s_L_right) := ⟨rfl, rfl, rfl, by decide +kernel, rfl, by decide +kernel, by decide +kernel⟩
set_option maxHeartbeats 0 in
theorem k_law (r : Runs) : cDef (ctxOf G T r i_law) s_law = some (b_law r) := by kernel_rfl
theorem f_law : FnScope N_law p_law (defScope s_law) := ⟨rfl, rfl, rfl, by decide +kernel, rfl, by decide +kernel, by decide +kernel⟩
theorem u_is_whole (k : Nat) : run T (k + 1) "is_whole" = runD 1 (b_is_whole (run T k)) := by kernel_rfl
theorem u_are_wholes (k : Nat) : run T (k + 1) "are_wholes" = runD 3 (b_are_wholes (run T k)) := by kernel_rfl
theorem u_common_part (k : Nat) : run T (k + 1) "common_part" = runD 3 (b_common_part (run T k)) := by kernel_rfl
theorem u_lowest (k : Nat) : run T (k + 1) "lowest" = runD 3 (b_lowest (run T k)) := by kernel_rfl
theorem u_lowest_over (k : Nat) : run T (k + 1) "lowest_over" = runD 4 (b_lowest_over (run T k)) := by kernel_rfl
theorem u_ratio (k : Nat) : run T (k + 1) "ratio" = runD 2 (b_ratio (run T k)) := by kernel_rfl
theorem u_plus (k : Nat) : run T (k + 1) "plus" = runD 2 (b_plus (run T k)) := by kernel_rfl
theorem u_minus (k : Nat) : run T (k + 1) "minus" = runD 2 (b_minus (run T k)) := by kernel_rfl
theorem u_times (k : Nat) : run T (k + 1) "times" = runD 2 (b_times (run T k)) := by kernel_rfl
theorem u_divided (k : Nat) : run T (k + 1) "divided" = runD 2 (b_divided (run T k)) := by kernel_rfl
theorem u_is_below (k : Nat) : run T (k + 1) "is_below" = runD 2 (b_is_below (run T k)) := by kernel_rfl
theorem u_is_fraction (k : Nat) : run T (k + 1) "is_fraction" = runD 1 (b_is_fraction (run T k)) := by kernel_rfl
theorem u_is_amount (k : Nat) : run T (k + 1) "is_amount" = runD 1 (b_is_amount (run T k)) := by kernel_rfl
theorem u_are_fractions (k : Nat) : run T (k + 1) "are_fractions" = runD 3 (b_are_fractions (run T k)) := by kernel_rfl
theorem u_check_amount (k : Nat) : run T (k + 1) "check_amount" = runD 1 (b_check_amount (run T k)) := by kernel_rfl
theorem u_slope_of (k : Nat) : run T (k + 1) "slope_of" = runD 2 (b_slope_of (run T k)) := by kernel_rfl
theorem u_kind_speeds (k : Nat) : run T (k + 1) "kind_speeds" = runD 3 (b_kind_speeds (run T k)) := by kernel_rfl
theorem u_is_kind (k : Nat) : run T (k + 1) "is_kind" = runD 5 (b_is_kind (run T k)) := by kernel_rfl
theorem u_is_corner (k : Nat) : run T (k + 1) "is_corner" = runD 1 (b_is_corner (run T k)) := by kernel_rfl
theorem u_check_kind (k : Nat) : run T (k + 1) "check_kind" = runD 1 (b_check_kind (run T k)) := by kernel_rfl
theorem u_full_density (k : Nat) : run T (k + 1) "full_density" = runD 1 (b_full_density (run T k)) := by kernel_rfl
theorem u_flow_by (k : Nat) : run T (k + 1) "flow_by" = runD 4 (b_flow_by (run T k)) := by kernel_rfl
theorem u_check_kinds (k : Nat) : run T (k + 1) "check_kinds" = runD 2 (b_check_kinds (run T k)) := by kernel_rfl
theorem u_bare_by (k : Nat) : run T (k + 1) "bare_by" = runD 5 (b_bare_by (run T k)) := by kernel_rfl
theorem u_scene_parted (k : Nat) : run T (k + 1) "scene_parted" = runD 8 (b_scene_parted (run T k)) := by kernel_rfl
theorem u_parting_scene (k : Nat) : run T (k + 1) "parting_scene" = runD 3 (b_parting_scene (run T k)) := by kernel_rfl
theorem u_L_cask (k : Nat) : run T (k + 1) "_law_cask" = runD 6 (b_L_cask (run T k)) := by kernel_rfl
theorem u_L_tap (k : Nat) : run T (k + 1) "_law_tap" = runD 4 (b_L_tap (run T k)) := by kernel_rfl
theorem u_L_of (k : Nat) : run T (k + 1) "_law_of" = runD 2 (b_L_of (run T k)) := by kernel_rfl
theorem u_L_cut (k : Nat) : run T (k + 1) "_law_cut" = runD 4 (b_L_cut (run T k)) := by kernel_rfl
theorem u_L_even (k : Nat) : run T (k + 1) "_law_even" = runD 1 (b_L_even (run T k)) := by kernel_rfl
theorem u_L_sum (k : Nat) : run T (k + 1) "_law_sum" = runD 2 (b_L_sum (run T k)) := by kernel_rfl
theorem u_L_gap (k : Nat) : run T (k + 1) "_law_gap" = runD 2 (b_L_gap (run T k)) := by kernel_rfl
theorem u_L_by (k : Nat) : run T (k + 1) "_law_by" = runD 2 (b_L_by (run T k)) := by kernel_rfl
theorem u_L_per (k : Nat) : run T (k + 1) "_law_per" = runD 2 (b_L_per (run T k)) := by kernel_rfl
theorem u_L_kind (k : Nat) : run T (k + 1) "_law_kind" = runD 9 (b_L_kind (run T k)) := by kernel_rfl
theorem u_L_speeds (k : Nat) : run T (k + 1) "_law_speeds" = runD 7 (b_L_speeds (run T k)) := by kernel_rfl
theorem u_L_along (k : Nat) : run T (k + 1) "_law_along" = runD 9 (b_L_along (run T k)) := by kernel_rfl
theorem u_L_kin (k : Nat) : run T (k + 1) "_law_kin" = runD 7 (b_L_kin (run T k)) := by kernel_rfl
theorem u_L_bare (k : Nat) : run T (k + 1) "_law_bare" = runD 5 (b_L_bare (run T k)) := by kernel_rfl
theorem u_L_is_fraction (k : Nat) : run T (k + 1) "_law_is_fraction" = runD 2 (b_L_is_fraction (run T k)) := by kernel_rfl
theorem u_L_toll (k : Nat) : run T (k + 1) "_law_toll" = runD 9 (b_L_toll (run T k)) := by kernel_rfl
theorem u_L_least (k : Nat) : run T (k + 1) "_law_least" = runD 4 (b_L_least (run T k)) := by kernel_rfl
theorem u_L_own (k : Nat) : run T (k + 1) "_law_own" = runD 12 (b_L_own (run T k)) := by kernel_rfl
theorem u_L_number (k : Nat) : run T (k + 1) "_law_number" = runD 10 (b_L_number (run T k)) := by kernel_rfl
theorem u_L_is_begin (k : Nat) : run T (k + 1) "_law_is_begin" = runD 8 (b_L_is_begin (run T k)) := by kernel_rfl
theorem u_L_is_parted (k : Nat) : run T (k + 1) "_law_is_parted" = runD 9 (b_L_is_parted (run T k)) := by kernel_rfl
theorem u_L_right (k : Nat) : run T (k + 1) "_law_right" = runD 9 (b_L_right (run T k)) := by kernel_rfl
theorem u_law (k : Nat) : run T (k + 1) "law" = runD 2 (b_law (run T k)) := by kernel_rfl
end Prog

/-! M1: the program's fractions (over Prog.T with the defs is_whole .. is_below). -/
namespace Prog
open PySem PySem.Spec PyProof.Rows L2 PD
theorem r_is_whole (k : Nat) (x : PyData) (S : Sto) (h : isDictD x = false) : run T (k + 1) "is_whole" [.d x] S = some (.d (.bool (isIntD x)), S) := by
  rw [u_is_whole]
  refine run_ret (ρ := [some (.d x)]) ?_
  cases x <;> first | (simp [isDictD] at h; done) | simp [b_is_whole, startR]
theorem r_common2 (k : Nat) (a b : Int) (S : Sto) : run T (k + 1) "common_part" [.d (.list [.int a, .int b])] S = some (.d (.int ((Int.gcd a b : Nat) : Int)), S) := by
  rw [u_common_part]
  refine run_ret (ρ := [some (.d (.list [.int a, .int b])), some (.d (.int ((Int.gcd a b : Nat) : Int))), some (.d (.int b))]) ?_
  simp [b_common_part, startR, x_forN, Int.gcd]
theorem r_lowest2 (k : Nat) (a b : Int) (S : Sto) (h : divOk ((Int.gcd a b : Nat) : Int) = true) : run T (k + 2) "lowest" [.d (.list [.int a, .int b])] S = some (.d (.tuple [.int (a.fdiv (Int.gcd a b : Nat)), .int (b.fdiv (Int.gcd a b : Nat))]), S) := by
  rw [u_lowest]
  refine run_ret (ρ := [some (.d (.list [.int a, .int b])), some (.d (.int ((Int.gcd a b : Nat) : Int))), none]) ?_
  simp [b_lowest, startR, r_common2, x_lc, x_lcN, wipeR, h]
theorem sign_cases {b : Int} (hb : b ≠ 0) : (0 < b ∧ b.sign = 1) ∨ (b < 0 ∧ b.sign = -1) := by
  rcases Int.lt_trichotomy b 0 with h | h | h
  · exact .inr ⟨h, Int.sign_eq_neg_one_of_neg h⟩
  · exact absurd h hb
  · exact .inl ⟨h, Int.sign_eq_one_of_pos h⟩
theorem mulOk_one (f a : Int) {n : Nat} (hf : f = 1 ∨ f = -1) (ha : Lt2 n a) (hn : n < 9000) : mulOk f a = true :=
  mulOk_of (n := 1) (m := n) (by rcases hf with rfl | rfl <;> (unfold Lt2; decide)) ha
theorem r_lowest_over {n : Nat} (k : Nat) {a b : Int} (hb : b ≠ 0) (ha : Lt2 n a) (hb' : Lt2 n b) (hn : n < 9000) (S : Sto) :
    run T (k + 3) "lowest_over" [.d (.list [.int a]), .d (.int b)] S = some (.d (fr (Rat.divInt a b)), S) := by
  rw [u_lowest_over]
  have hg0 : Int.gcd a b ≠ 0 := fun e => hb (Int.gcd_eq_zero_iff.mp e).2
  have hgl : Lt2 n ((Int.gcd a b : Nat) : Int) := by
    unfold Lt2
    rw [Int.natAbs_natCast]
    exact Nat.lt_of_le_of_lt (Nat.gcd_le_right _ (Int.natAbs_pos.mpr hb)) hb'
  have hdo : divOk ((Int.gcd a b : Nat) : Int) = true := divOk_of (by omega) hgl hn
  have fdv : ∀ z : Int, z.fdiv ((Int.gcd a b : Nat) : Int) = z / ((Int.gcd a b : Nat) : Int) := fun z => Int.fdiv_eq_ediv_of_nonneg z (by omega)
  have res : ∀ f : Int, f = b.sign → (f * a).fdiv ((Int.gcd a b : Nat) : Int) = (Rat.divInt a b).num ∧ (f * b).fdiv ((Int.gcd a b : Nat) : Int) = ((Rat.divInt a b).den : Int) := by
    rintro f rfl
    have es : b.sign * b = (b.natAbs : Int) := by
      rcases sign_cases hb with ⟨h, e⟩ | ⟨h, e⟩ <;> rw [e] <;> omega
    rw [fdv, fdv, Rat.num_divInt, Rat.den_divInt, if_neg hb, Int.gcd_comm b a, es]
    exact ⟨rfl, (Int.natCast_ediv _ _).symm⟩
  have go : ∀ f : Int, f = b.sign → (f = 1 ∨ f = -1) → run T (k + 2) "lowest" [.d (.list [.int (f * a), .int (f * b)])] S = some (.d (fr (Rat.divInt a b)), S) := by
    intro f hf hf1
    have hgg : Int.gcd (f * a) (f * b) = Int.gcd a b := by
      rcases hf1 with rfl | rfl
      · rw [Int.one_mul, Int.one_mul]
      · rw [Int.neg_mul, Int.one_mul, Int.neg_mul, Int.one_mul, Int.neg_gcd, Int.gcd_neg]
    rw [r_lowest2 k _ _ S (by rw [hgg]; exact hdo), hgg, (res f hf).1, (res f hf).2]
    rfl
  rcases sign_cases hb with ⟨h, hs⟩ | ⟨h, hs⟩
  · refine run_ret (ρ := [some (.d (.list [.int a])), some (.d (.int b)), some (.d (.int 1)), none]) ?_
    have g1 := go 1 hs.symm (.inl rfl)
    have m1 := mulOk_one 1 a (.inl rfl) ha hn
    have m2 := mulOk_one 1 b (.inl rfl) hb' hn
    rw [Int.one_mul, Int.one_mul] at g1
    simp [b_lowest_over, startR, h, x_lc, x_lcN, wipeR, m1, m2, g1]
  · refine run_ret (ρ := [some (.d (.list [.int a])), some (.d (.int b)), some (.d (.int (-1))), none]) ?_
    have hn' : ¬ 0 < b := by omega
    have g1 := go (-1) hs.symm (.inr rfl)
    have m1 := mulOk_one (-1) a (.inr rfl) ha hn
    have m2 := mulOk_one (-1) b (.inr rfl) hb' hn
    rw [Int.neg_mul, Int.one_mul, Int.neg_mul, Int.one_mul] at g1
    simp [b_lowest_over, startR, hn', x_lc, x_lcN, wipeR, m1, m2, g1]
theorem r_ratio {n : Nat} (k : Nat) {a b : Int} (hb : b ≠ 0) (ha : Lt2 n a) (hb' : Lt2 n b) (hn : n < 9000) (S : Sto) :
    run T (k + 4) "ratio" [.d (.int a), .d (.int b)] S = some (.d (fr (Rat.divInt a b)), S) := by
  rw [u_ratio]
  refine run_ret (ρ := [some (.d (.int a)), some (.d (.int b))]) ?_
  simp [b_ratio, startR, r_lowest_over k hb ha hb' hn]
theorem q_add (a b : Rat) : Rat.divInt (a.num * b.den + b.num * a.den) (a.den * b.den) = a + b := by
  have := Rat.divInt_add_divInt a.num b.num (d₁ := a.den) (d₂ := b.den) (by have := a.den_nz; omega) (by have := b.den_nz; omega)
  rw [Rat.num_divInt_den, Rat.num_divInt_den] at this
  exact this.symm
theorem q_sub (a b : Rat) : Rat.divInt (a.num * b.den - b.num * a.den) (a.den * b.den) = a - b := by
  have := Rat.divInt_sub_divInt a.num b.num (d₁ := a.den) (d₂ := b.den) (by have := a.den_nz; omega) (by have := b.den_nz; omega)
  rw [Rat.num_divInt_den, Rat.num_divInt_den] at this
  exact this.symm
theorem q_mul (a b : Rat) : Rat.divInt (a.num * b.num) (a.den * b.den) = a * b := by
  have := Rat.divInt_mul_divInt a.num b.num (d₁ := a.den) (d₂ := b.den)
  rw [Rat.num_divInt_den, Rat.num_divInt_den] at this
  exact this.symm
theorem q_div (a b : Rat) : Rat.divInt (a.num * b.den) (a.den * b.num) = a / b := by
  have := Rat.divInt_mul_divInt a.num b.den (d₁ := a.den) (d₂ := b.num)
  rw [Rat.num_divInt_den, ← Rat.inv_divInt, Rat.num_divInt_den, ← Rat.div_def] at this
  exact this.symm
section
variable {n m : Nat} {a b : Rat}
theorem den_ne (a : Rat) : (a.den : Int) ≠ 0 := by have := a.den_nz; omega
theorem den2_ne (a b : Rat) : (a.den : Int) * b.den ≠ 0 := Int.mul_ne_zero (den_ne a) (den_ne b)
theorem cross_add (ha : Sz n a) (hb : Sz m b) : Lt2 (n + m + 1) (a.num * b.den + b.num * a.den) := by
  have := (ha.1.mul hb.2).add (hb.1.mul ha.2)
  exact this.mono (by omega)
theorem cross_sub (ha : Sz n a) (hb : Sz m b) : Lt2 (n + m + 1) (a.num * b.den - b.num * a.den) := by
  have := (ha.1.mul hb.2).sub (hb.1.mul ha.2)
  exact this.mono (by omega)
theorem r_plus (k : Nat) (ha : Sz n a) (hb : Sz m b) (hn : n + m < 8990) (S : Sto) : run T (k + 5) "plus" [.d (fr a), .d (fr b)] S = some (.d (fr (a + b)), S) := by
  rw [u_plus]
  refine run_ret (ρ := [some (.d (fr a)), some (.d (fr b))]) ?_
  have r1 := r_ratio k (den2_ne a b) (cross_add ha hb) ((ha.2.mul hb.2).mono (by omega)) (by omega) S
  rw [q_add] at r1
  simp [b_plus, startR, fr, mulOk_of ha.1 hb.2, mulOk_of hb.1 ha.2, mulOk_of ha.2 hb.2, r1]
theorem r_minus (k : Nat) (ha : Sz n a) (hb : Sz m b) (hn : n + m < 8990) (S : Sto) : run T (k + 5) "minus" [.d (fr a), .d (fr b)] S = some (.d (fr (a - b)), S) := by
  rw [u_minus]
  refine run_ret (ρ := [some (.d (fr a)), some (.d (fr b))]) ?_
  have r1 := r_ratio k (den2_ne a b) (cross_sub ha hb) ((ha.2.mul hb.2).mono (by omega)) (by omega) S
  rw [q_sub] at r1
  simp [b_minus, startR, fr, mulOk_of ha.1 hb.2, mulOk_of hb.1 ha.2, mulOk_of ha.2 hb.2, r1]
theorem r_times (k : Nat) (ha : Sz n a) (hb : Sz m b) (hn : n + m < 8990) (S : Sto) : run T (k + 5) "times" [.d (fr a), .d (fr b)] S = some (.d (fr (a * b)), S) := by
  rw [u_times]
  refine run_ret (ρ := [some (.d (fr a)), some (.d (fr b))]) ?_
  have r1 := r_ratio k (den2_ne a b) (ha.1.mul hb.1) (ha.2.mul hb.2) (by omega) S
  rw [q_mul] at r1
  simp [b_times, startR, fr, mulOk_of ha.1 hb.1, mulOk_of ha.2 hb.2, r1]
theorem r_divided (k : Nat) (h0 : b ≠ 0) (ha : Sz n a) (hb : Sz m b) (hn : n + m < 8990) (S : Sto) : run T (k + 5) "divided" [.d (fr a), .d (fr b)] S = some (.d (fr (a / b)), S) := by
  rw [u_divided]
  refine run_ret (ρ := [some (.d (fr a)), some (.d (fr b))]) ?_
  have hbn : b.num ≠ 0 := fun e => h0 (Rat.num_eq_zero.mp e)
  have r1 := r_ratio k (Int.mul_ne_zero (den_ne a) hbn) (ha.1.mul hb.2) (ha.2.mul hb.1) (by omega) S
  rw [q_div] at r1
  simp [b_divided, startR, fr, mulOk_of ha.1 hb.2, mulOk_of ha.2 hb.1, r1]
theorem r_is_below (k : Nat) (ha : Sz n a) (hb : Sz m b) (hn : n + m < 8990) (S : Sto) : run T (k + 1) "is_below" [.d (fr a), .d (fr b)] S = some (.d (.bool (decide (a < b))), S) := by
  rw [u_is_below]
  refine run_ret (ρ := [some (.d (fr a)), some (.d (fr b))]) ?_
  simp [b_is_below, startR, fr, mulOk_of ha.1 hb.2, mulOk_of hb.1 ha.2, Rat.lt_iff]
theorem sz_add (ha : Sz n a) (hb : Sz m b) : Sz (n + m + 1) (a + b) := by
  rw [← q_add]; exact sz_divInt (den2_ne a b) (cross_add ha hb) ((ha.2.mul hb.2).mono (by omega))
theorem sz_sub (ha : Sz n a) (hb : Sz m b) : Sz (n + m + 1) (a - b) := by
  rw [← q_sub]; exact sz_divInt (den2_ne a b) (cross_sub ha hb) ((ha.2.mul hb.2).mono (by omega))
theorem sz_mul (ha : Sz n a) (hb : Sz m b) : Sz (n + m) (a * b) := by
  rw [← q_mul]; exact sz_divInt (den2_ne a b) (ha.1.mul hb.1) (ha.2.mul hb.2)
theorem sz_div (h0 : b ≠ 0) (ha : Sz n a) (hb : Sz m b) : Sz (n + m) (a / b) := by
  rw [← q_div]; exact sz_divInt (Int.mul_ne_zero (den_ne a) fun e => h0 (Rat.num_eq_zero.mp e)) (ha.1.mul hb.2) (ha.2.mul hb.1)
end
end Prog

/-! M2: the program's kinds (is_fraction .. flow_by). -/
namespace Prog
open PySem PySem.Spec PyProof.Rows L2 PD
abbrev Cr := Rat × Rat
def co (c : Cr) : PyData := .tuple [fr c.1, fr c.2]
def kd (ks : List Cr) : PyData := .tuple (ks.map co)
theorem r_are_wholes (k : Nat) (i j : Int) (S : Sto) : run T (k + 2) "are_wholes" [.d (.tuple [.int i, .int j]), .d (.int 2)] S = some (.d (.bool true), S) := by
  rw [u_are_wholes]
  refine run_ret (ρ := [some (.d (.tuple [.int i, .int j])), some (.d (.int 2)), none]) ?_
  have w : ∀ z : Int, run T (k + 1) "is_whole" [.d (.int z)] S = some (.d (.bool true), S) := fun z => r_is_whole k (.int z) S rfl
  simp [b_are_wholes, startR, x_lc, x_lcN, wipeR, w]
theorem r_is_fraction (k : Nat) (q : Rat) (S : Sto) : run T (k + 3) "is_fraction" [.d (fr q)] S = some (.d (.bool true), S) := by
  rw [u_is_fraction]
  refine run_ret (ρ := [some (.d (fr q))]) ?_
  have h1 : (0 : Int) < (q.den : Int) := by have := q.den_pos; omega
  have h2 : (Nat.gcd q.num.natAbs ((q.den : Int).natAbs) : Nat) = 1 := by rw [Int.natAbs_natCast]; exact q.reduced
  simp [b_is_fraction, startR, fr, r_are_wholes, h1, h2]
  have := q.reduced
  have h3 := q.den_pos
  unfold Nat.Coprime at this
  simp [this, h3]
theorem r_are_fractions (k : Nat) (c : Cr) (S : Sto) : run T (k + 4) "are_fractions" [.d (co c), .d (.int 2)] S = some (.d (.bool true), S) := by
  rw [u_are_fractions]
  refine run_ret (ρ := [some (.d (co c)), some (.d (.int 2)), none]) ?_
  simp [b_are_fractions, startR, co, x_lc, x_lcN, wipeR, r_is_fraction]
theorem r_is_corner (k : Nat) (c : Cr) (S : Sto) : run T (k + 5) "is_corner" [.d (co c)] S = some (.d (.bool true), S) := by
  rw [u_is_corner]
  refine run_ret (ρ := [some (.d (co c))]) ?_
  simp [b_is_corner, startR, r_are_fractions]
def slope (c d : Cr) : Rat := (d.2 - c.2) / (d.1 - c.1)
def speeds (ks : List Cr) : List Rat := (prs ks).map fun p => slope p.1 p.2
def CSz (n : Nat) (c : Cr) : Prop := Sz n c.1 ∧ Sz n c.2
theorem r_slope_of {n : Nat} (k : Nat) {c d : Cr} (hc : CSz n c) (hd : CSz n d) (h : c.1 < d.1) (hn : n < 2000) (S : Sto) : run T (k + 6) "slope_of" [.d (co c), .d (co d)] S = some (.d (fr (slope c d)), S) := by
  rw [u_slope_of]
  refine run_ret (ρ := [some (.d (co c)), some (.d (co d))]) ?_
  have h0 : d.1 - c.1 ≠ 0 := by grind
  have m1 := r_minus k hd.2 hc.2 (by omega) S
  have m2 := r_minus k hd.1 hc.1 (by omega) S
  have m3 := r_divided k h0 (sz_sub hd.2 hc.2) (sz_sub hd.1 hc.1) (by omega) S
  simp [b_slope_of, startR, co, m1, m2, m3, slope]
theorem sz_slope {n : Nat} {c d : Cr} (hc : CSz n c) (hd : CSz n d) (h : c.1 < d.1) : Sz (4 * n + 2) (slope c d) := by
  have h0 : d.1 - c.1 ≠ 0 := by grind
  exact (sz_div h0 (sz_sub hd.2 hc.2) (sz_sub hd.1 hc.1)).mono (by omega)
/-- a kind of road, its numbers of a size -/
structure Kd (n : Nat) (ks : List Cr) : Prop where
  len3 : 3 ≤ ks.length
  len12 : ks.length ≤ 12
  size : ∀ c ∈ ks, CSz n c
  head : ∃ r, ks = (0, 0) :: r
  last : ∃ r d, ks = r ++ [(d, 0)]
  pos : ∀ c ∈ ks.tail.dropLast, 0 < c.2
  asc : ∀ p ∈ prs ks, p.1.1 < p.2.1
  conc : ∀ p ∈ prs (speeds ks), p.2 < p.1
theorem fr0 : fr 0 = .tuple [.int 0, .int 1] := rfl
theorem r_kind_speeds {n : Nat} (k : Nat) {ks : List Cr} (h : Kd n ks) (hn : n < 2000) (S : Sto) : run T (k + 7) "kind_speeds" [.d (kd ks)] S = some (.d (.tuple ((speeds ks).map fr)), S) := by
  rw [u_kind_speeds]
  refine run_ret (ρ := [some (.d (kd ks)), none, none]) ?_
  have hne : ks.map co ≠ [] := by have := h.len3; intro e; rw [List.map_eq_nil_iff] at e; subst e; simp at this
  have hz : zipD (ks.map co) (cutP (ks.map co) (some 1) none) = (prs ks).map fun p => .tuple [co p.1, co p.2] := by rw [drop1_cut _ hne, zipD_prs]
  have hl : (prs ks).length ≤ 100000 := by rw [prs_len]; have := h.len12; omega
  have lc := lcN_each (g := tupG 2 (consG (nameG 1) (consG (nameG 2) nilG))) (elt := appE (callF (c_slope_of (PD.run T (k + 6)))) (consL (varE 1) (consL (varE 2) nilL))) (ρ := [some (.d (kd ks)), none, none]) (S := S)
    (fun p : Cr × Cr => PyData.tuple [co p.1, co p.2]) (fun p => [some (.d (kd ks)), some (.d (co p.1)), some (.d (co p.2))]) (fun p => fr (slope p.1 p.2)) (prs ks) (fun p m => by simp) (fun p m => by
      have q := prs_mem m
      simp [r_slope_of k (h.size _ q.1) (h.size _ q.2) (h.asc p m) hn])
  simp [b_kind_speeds, startR, x_lc, wipeR, kd] at lc ⊢
  simp [hz, hl, lc, speeds]
theorem eqv_co0 : neP (co (0, 0)) (.tuple [.tuple [.int 0, .int 1], .tuple [.int 0, .int 1]]) = some (.bool false) := by unfold neP; rw [if_pos (by rfl)]; rfl
theorem eqv_q0 : neP (.tuple [.int 0, .int 1]) (.tuple [.int 0, .int 1]) = some (.bool false) := by unfold neP; rw [if_pos (by rfl)]; rfl
theorem prs_zip {α : Type} (f : α → PyData) (l : List α) (h : 1 ≤ l.length) : zipD (l.map f) (cutP (l.map f) (some 1) none) = (prs l).map fun p => .tuple [f p.1, f p.2] := by
  rw [drop1_cut _ (by intro e; rw [List.map_eq_nil_iff] at e; subst e; simp at h), zipD_prs]
theorem sz_speed {n : Nat} {ks : List Cr} (h : Kd n ks) : ∀ q ∈ speeds ks, Sz (4 * n + 2) q := by
  intro q m
  obtain ⟨p, m', rfl⟩ := List.mem_map.mp m
  have := prs_mem m'
  exact sz_slope (h.size _ this.1) (h.size _ this.2) (h.asc p m')
theorem r_is_kind {n : Nat} (k : Nat) {ks : List Cr} (h : Kd n ks) (hn : n < 1000) (S : Sto) : run T (k + 8) "is_kind" [.d (kd ks)] S = some (.d (.bool true), S) := by
  rw [u_is_kind]
  have l3 := h.len3
  have l12 := h.len12
  have a0 : atI (ks.map co) 0 = some (co (0, 0)) := by obtain ⟨r, rfl⟩ := h.head; rw [List.map_cons]; exact at0 _ _
  obtain ⟨d, a1⟩ : ∃ d, atI (ks.map co) (-1) = some (co (d, 0)) := by obtain ⟨r, d, rfl⟩ := h.last; exact ⟨d, by rw [List.map_append]; exact at_last _ _⟩
  have z1 := prs_zip co ks (by omega)
  have z2 := prs_zip fr (speeds ks) (by unfold speeds; rw [List.length_map, prs_len]; omega)
  have lp : (prs ks).length ≤ 100000 := by rw [prs_len]; omega
  have ls : (prs (speeds ks)).length ≤ 100000 := by rw [prs_len]; unfold speeds; rw [List.length_map, prs_len]; omega
  have cm : cutP (ks.map co) (some 1) (some (-1)) = ks.tail.dropLast.map co := by rw [cut_mid _ (by simp; omega)]; simp
  have lm : (ks.tail.dropLast).length ≤ 100000 := by simp; omega
  have rest : ∀ c ∈ ks.tail.dropLast, ¬ c.2.num ≤ 0 := fun c m => by have := h.pos c m; rw [Rat.lt_iff] at this; simpa using this
  generalize ks.tail.dropLast = mid at cm lm rest
  have lk : ks.length ≤ 100000 := by omega
  have c1 : (3 : Int) ≤ ks.length := by omega
  have c2 : (ks.length : Int) ≤ 12 := by omega
  have hk := r_kind_speeds k h (by omega) S
  refine run_ret (ρ := [some (.d (kd ks)), some (.d (.tuple ((speeds ks).map fr))), none, none, none]) ?_
  simp only [kd] at hk ⊢
  simp [b_is_kind, startR, kd, x_lc, wipeR, lk, c1, c2]
  rw [lcN_none co (fun c => [some (.d (.tuple (ks.map co))), none, some (.d (co c)), none, none]) ks (fun c m => by simp) (fun c m => by simp [r_is_corner])]
  simp [x_lc, wipeR, a0, a1, cm, eqv_co0]
  simp [co, fr0, eqv_q0, lm, cm]
  rw [lcN_none co (fun c => [some (.d (.tuple (ks.map co))), none, some (.d (co c)), none, none]) mid (fun c m => by simp [co]) (fun c m => by simp [co, fr]; have := rest c m; omega)]
  simp [x_lc, wipeR, z1, lp]
  rw [lcN_none (fun p : Cr × Cr => PyData.tuple [co p.1, co p.2]) (fun p => [some (.d (.tuple (ks.map co))), none, some (.d (co p.1)), some (.d (co p.2)), none]) (prs ks) (fun p m => by simp) (fun p m => by
    have q := prs_mem m
    have b := r_is_below (k + 6) (h.size _ q.1).1 (h.size _ q.2).1 (by omega) S
    simp [co, b, h.asc p m])]
  simp [x_lc, wipeR, hk, z2, ls]
  rw [lcN_none (fun p : Rat × Rat => PyData.tuple [fr p.1, fr p.2]) (fun p => [some (.d (.tuple (ks.map co))), some (.d (.tuple ((speeds ks).map fr))), none, some (.d (fr p.2)), some (.d (fr p.1))]) (prs (speeds ks)) (fun p m => by simp) (fun p m => by
    have q := prs_mem m
    have b := r_is_below (k + 6) (sz_speed h _ q.2) (sz_speed h _ q.1) (by omega) S
    simp [b, h.conc p m])]
  simp
theorem r_check_kind {n : Nat} (k : Nat) {ks : List Cr} (h : Kd n ks) (hn : n < 1000) (S : Sto) : run T (k + 9) "check_kind" [.d (kd ks)] S = some (.d .none, S) := by
  rw [u_check_kind]
  refine run_nx (ρ := [some (.d (kd ks))]) ?_
  simp [b_check_kind, startR, r_is_kind k h hn]
theorem r_check_kinds {n : Nat} (k : Nat) {ks js : List Cr} (h : Kd n ks) (g : Kd n js) (hn : n < 1000) (S : Sto) : run T (k + 10) "check_kinds" [.d (kd ks), .d (kd js)] S = some (.d .none, S) := by
  rw [u_check_kinds]
  refine run_nx (ρ := [some (.d (kd ks)), some (.d (kd js))]) ?_
  simp [b_check_kinds, startR, r_check_kind k h hn, r_check_kind k g hn]
/-- the full density of a kind -/
def fullD (ks : List Cr) : Rat := (ks.getLast?.getD (0, 0)).1
theorem at_lastD {ks : List Cr} (h : ks ≠ []) : atI (ks.map co) (-1) = some (co (ks.getLast?.getD (0, 0))) := by
  obtain ⟨r, c, rfl⟩ : ∃ r c, ks = r ++ [c] := ⟨_, _, (List.dropLast_concat_getLast h).symm⟩
  rw [List.map_append, List.map_singleton, at_last]
  simp
theorem r_full_density (k : Nat) {ks : List Cr} (h : ks ≠ []) (S : Sto) : run T (k + 1) "full_density" [.d (kd ks)] S = some (.d (fr (fullD ks)), S) := by
  rw [u_full_density]
  refine run_ret (ρ := [some (.d (kd ks))]) ?_
  simp [b_full_density, startR, kd, at_lastD h]
  simp [co, fullD]
/-- the flow at a density, by the corners -/
def flowL : Cr → List Cr → Rat → Rat
  | _, [], _ => 0
  | last, c :: r, d => if c.1 < d then flowL c r d else last.2 + slope last c * (d - last.1)
def flow : List Cr → Rat → Rat
  | [], _ => 0
  | c :: r, d => flowL c r d
theorem sz_piece {n m : Nat} {c d : Cr} {q : Rat} (hc : CSz n c) (hd : CSz n d) (h : c.1 < d.1) (hq : Sz m q) : Sz (6 * n + m + 4) (c.2 + slope c d * (q - c.1)) :=
  (sz_add hc.2 (sz_mul (sz_slope hc hd h) (sz_sub hq hc.1))).mono (by omega)
theorem r_flow_by {n m : Nat} (k : Nat) {ks : List Cr} {q : Rat} (h : Kd n ks) (hn : n < 640) (hq : Sz m q) (hm : m < 640) (S : Sto) : run T (k + 7) "flow_by" [.d (kd ks), .d (fr q)] S = some (.d (fr (flow ks q)), S) := by
  rw [u_flow_by]
  obtain ⟨r, hr⟩ := h.head
  have hs := h.size
  have ha := h.asc
  have hf : ks = ((0, 0) : Cr) :: r := hr
  rw [hf] at hs ha
  have a0 : atI (ks.map co) 0 = some (co (0, 0)) := by rw [hr, List.map_cons]; exact at0 _ _
  have ct : cutP (ks.map co) (some 1) none = r.map co := by rw [hr, List.map_cons, cut1]
  have hfl : flow ks q = flowL (0, 0) r q := by rw [hr]; rfl
  rw [x_run]
  simp [b_flow_by, startR, Option.bind_assoc, kd, a0, ct]
  refine forN_bind (fun o => o = some (W.d (fr (flow ks q)), S)) co (fun s : Cr × Option W => [some (.d (.tuple (ks.map co))), some (.d (fr q)), some (.d (co s.1)), s.2]) (fun _ => S)
    (fun l s => (∀ c ∈ s.1 :: l, CSz n c) ∧ (∀ p ∈ prs (s.1 :: l), p.1.1 < p.2.1) ∧ flow ks q = flowL s.1 l q)
    (fun fl ρ S' => S' = S ∧ (fl = .nx ∧ flow ks q = 0 ∨ fl = .rt (.d (fr (flow ks q))))) r ((0, 0), none) ⟨hs, ha, hfl⟩ rfl rfl (fun s h => ⟨rfl, .inl ⟨rfl, h.2.2⟩⟩) ?_ ?_
  · rintro c l ⟨last, w⟩ ⟨h1, h2, h3⟩
    simp only at h1 h2 h3
    have sl := h1 last List.mem_cons_self
    have sc := h1 c (List.mem_cons_of_mem _ List.mem_cons_self)
    have lt : last.1 < c.1 := h2 (last, c) List.mem_cons_self
    have b := r_is_below (k + 5) sc.1 hq (by omega) S
    by_cases hc : c.1 < q
    · rw [decide_eq_true hc] at b
      refine .nx' (c, some (.d (co c))) ⟨fun d m => h1 d (List.mem_cons_of_mem _ m), fun p m => h2 p (List.mem_cons_of_mem _ m), ?_⟩ ?_
      · rw [h3]; simp [flowL, hc]
      · simp [co, b]
    · rw [decide_eq_false hc] at b
      have m1 := r_minus (k + 1) hq sl.1 (by omega) S
      have m2 := r_slope_of k sl sc lt (by omega) S
      have m3 := r_times (k + 1) (sz_slope sl sc lt) (sz_sub hq sl.1) (by omega) S
      have m4 := r_plus (k + 1) sl.2 (sz_mul (sz_slope sl sc lt) (sz_sub hq sl.1)) (by omega) S
      simp only [co] at m2
      refine .rt' (w := .d (fr (flow ks q))) (S := S) (ρ := [some (.d (.tuple (ks.map co))), some (.d (fr q)), some (.d (co last)), some (.d (co c))]) ⟨rfl, .inr rfl⟩ ?_
      rw [h3]
      simp [co, b, m1, m2, m3, m4, flowL, hc]
  · rintro fl ρ S' ⟨rfl, ⟨rfl, h0⟩ | rfl⟩
    · simp [h0, fr0]
    · simp
theorem sz_flowL {n m : Nat} {q : Rat} (hq : Sz m q) : ∀ (r : List Cr) (last : Cr), (∀ c ∈ last :: r, CSz n c) → (∀ p ∈ prs (last :: r), p.1.1 < p.2.1) → Sz (6 * n + m + 4) (flowL last r q)
  | [], _, _, _ => ⟨(show Lt2 1 0 by unfold Lt2; decide).mono (by omega), (show Lt2 1 1 by unfold Lt2; decide).mono (by omega)⟩
  | c :: r, last, h1, h2 => by
    unfold flowL
    by_cases hc : c.1 < q
    · rw [if_pos hc]; exact sz_flowL hq r c (fun d m => h1 d (List.mem_cons_of_mem _ m)) (fun p m => h2 p (List.mem_cons_of_mem _ m))
    · rw [if_neg hc]; exact sz_piece (h1 last List.mem_cons_self) (h1 c (List.mem_cons_of_mem _ List.mem_cons_self)) (h2 (last, c) List.mem_cons_self) hq
theorem Kd.ne {n : Nat} {ks : List Cr} (h : Kd n ks) : ks ≠ [] := by have := h.len3; intro e; subst e; simp at this
theorem sz_flow {n m : Nat} {ks : List Cr} {q : Rat} (h : Kd n ks) (hq : Sz m q) : Sz (6 * n + m + 4) (flow ks q) := by
  cases ks with
  | nil => exact absurd rfl h.ne
  | cons c r => exact sz_flowL hq r c h.size h.asc
theorem Kd.fullsz {n : Nat} {ks : List Cr} (h : Kd n ks) : Sz n (fullD ks) := by
  obtain ⟨r, d, e⟩ := h.last
  have := h.size (d, 0) (by rw [e]; simp)
  subst e
  simpa [fullD] using this.1
/-- the road is bare there -/
def Bare (ks js : List Cr) (d : Rat) : Prop := ¬ fullD ks < d ∧ ¬ fullD js < d ∧ flow ks d < flow js d
instance (ks js : List Cr) (d : Rat) : Decidable (Bare ks js d) := by unfold Bare; infer_instance
def bare (ks js : List Cr) : Option Rat := ((ks ++ js).map Prod.fst).find? fun d => decide (Bare ks js d)
def bareD : Option Rat → PyData
  | none => .none
  | some q => fr q
theorem r_bare_by {n : Nat} (k : Nat) {ks js : List Cr} (h : Kd n ks) (g : Kd n js) (hn : n < 640) (S : Sto) : run T (k + 8) "bare_by" [.d (kd ks), .d (kd js)] S = some (.d (bareD (bare ks js)), S) := by
  rw [u_bare_by]
  have l1 := h.len12
  have l2 := g.len12
  have ln : ks.length + js.length ≤ 100000 := by omega
  have szs : ∀ c ∈ ks ++ js, CSz n c := fun c m => (List.mem_append.mp m).elim (h.size c) (g.size c)
  have e1 : ks.map co ++ js.map co = (ks ++ js).map co := List.map_append.symm
  have ln2 : (ks ++ js).length ≤ 100000 := by simp; omega
  have hb : bare ks js = ((ks ++ js).map Prod.fst).find? fun d => decide (Bare ks js d) := rfl
  generalize hx : bare ks js = x at hb
  generalize ks ++ js = al at e1 ln2 szs hb
  rw [x_run]
  simp [b_bare_by, startR, Option.bind_assoc, kd, x_lc, wipeR, ln, e1, ln2]
  rw [lcN_each co (fun c => [some (.d (.tuple (ks.map co))), some (.d (.tuple (js.map co))), none, none, some (.d (co c))]) (fun c => fr c.1) al (fun c m => by simp) (fun c m => by simp [co])]
  simp
  rw [show al.map (fun c => fr c.1) = (al.map Prod.fst).map fr by simp]
  have szd : ∀ d ∈ al.map Prod.fst, Sz n d := fun d m => by obtain ⟨c, m', rfl⟩ := List.mem_map.mp m; exact (szs c m').1
  generalize al.map Prod.fst = ds at hb szd
  refine forN_bind (fun o => o = some (W.d (bareD x), S)) fr (fun s : Option W × Option W => [some (.d (.tuple (ks.map co))), some (.d (.tuple (js.map co))), s.1, s.2, none]) (fun _ => S)
    (fun l s => (∀ d ∈ l, Sz n d) ∧ x = l.find? fun d => decide (Bare ks js d))
    (fun fl ρ S' => S' = S ∧ (fl = .nx ∧ x = none ∨ fl = .rt (.d (bareD x)))) ds (none, none) ⟨szd, hb⟩ rfl rfl (fun s h => ⟨rfl, .inl ⟨rfl, h.2⟩⟩) ?_ ?_
  · rintro d l ⟨w1, w2⟩ ⟨h1, h2⟩
    have sd := h1 d List.mem_cons_self
    have b1 := r_is_below (k + 6) h.fullsz sd (by omega) S
    have b2 := r_is_below (k + 6) g.fullsz sd (by omega) S
    have f1 := r_full_density (k + 6) h.ne S
    have f2 := r_full_density (k + 6) g.ne S
    have v1 := r_flow_by k h hn sd (by omega) S
    have v2 := r_flow_by k g hn sd (by omega) S
    have b3 := r_is_below (k + 6) (sz_flow h sd) (sz_flow g sd) (by omega) S
    simp only [kd] at f1 f2 v1 v2
    rw [List.find?_cons] at h2
    have noB : ¬ Bare ks js d → x = l.find? fun d => decide (Bare ks js d) := fun hB => by rw [decide_eq_false hB] at h2; exact h2
    have nx : ∀ b : Bool, ¬ Bare ks js d → Step (fun s : Option W × Option W => [some (.d (.tuple (ks.map co))), some (.d (.tuple (js.map co))), s.1, s.2, none]) (fun _ => S) (fun s => (∀ d ∈ l, Sz n d) ∧ x = l.find? fun d => decide (Bare ks js d)) (fun fl ρ S' => S' = S ∧ (fl = .nx ∧ x = none ∨ fl = .rt (.d (bareD x)))) (some (.nx, [some (.d (.tuple (ks.map co))), some (.d (.tuple (js.map co))), some (.d (fr d)), some (.d (.bool b)), none], S)) :=
      fun b hB => Step.nx' (some (W.d (fr d)), some (W.d (.bool b))) ⟨fun d m => h1 d (List.mem_cons_of_mem _ m), noB hB⟩ rfl
    by_cases c1 : fullD ks < d
    · have := nx false (fun hB => hB.1 c1)
      simpa [f1, f2, b1, b2, c1] using this
    · by_cases c2 : fullD js < d
      · have := nx false (fun hB => hB.2.1 c2)
        simpa [f1, f2, b1, b2, c1, c2] using this
      · by_cases c3 : flow ks d < flow js d
        · rw [decide_eq_true (show Bare ks js d from ⟨c1, c2, c3⟩)] at h2
          simp only at h2
          refine .rt' (w := .d (bareD x)) (S := S) (ρ := [some (.d (.tuple (ks.map co))), some (.d (.tuple (js.map co))), some (.d (fr d)), some (.d (.bool true)), none]) ⟨rfl, .inr rfl⟩ ?_
          simp [f1, f2, b1, b2, c1, c2, v1, v2, b3, c3, h2, bareD]
        · have := nx true (fun hB => c3 hB.2.2)
          simpa [f1, f2, b1, b2, c1, c2, v1, v2, b3, c3] using this
  · rintro fl ρ S' ⟨rfl, ⟨rfl, h0⟩ | rfl⟩
    · simp [h0, bareD]
    · simp
theorem isNone_bareD (o : Option Rat) : isNone (.d (bareD o)) = o.isNone := by cases o <;> rfl
end Prog

/-! M3: the law's own dice, fractions and kinds. -/
namespace Prog
open PySem PySem.Spec PyProof.Rows L2 PD
/-! ### the dice -/
abbrev Dice := Int × Int × Int
def cellD (t : Dice) : Option (List PyData) := some [.int t.1, .int t.2.1, .int t.2.2]
def Dok (m : Nat) (t : Dice) : Prop := 0 ≤ t.2.1 ∧ t.2.1 < 2147483629 ∧ 0 ≤ t.2.2 ∧ t.2.2 ≤ m
theorem Dok.mono {m n : Nat} {t : Dice} (h : Dok m t) (l : m ≤ n) : Dok n t := ⟨h.1, h.2.1, h.2.2.1, by have := h.2.2.2; omega⟩
theorem mulOk_small {i j : Int} (hi : i.natAbs < 2 ^ 64) (hj : j.natAbs < 2 ^ 64) : mulOk i j = true := mulOk_of (n := 64) (m := 64) hi hj
theorem divOk_small {j : Int} (h0 : j ≠ 0) (hj : j.natAbs < 2 ^ 64) : divOk j = true := divOk_of (n := 64) h0 hj
theorem tap_lt (a b : Int) (hb : 0 < b) : 0 ≤ a.fmod b ∧ a.fmod b < b := by
  rw [Int.fmod_eq_emod_of_nonneg a (by omega)]
  exact ⟨Int.emod_nonneg a (by omega), Int.emod_lt_of_pos a hb⟩
theorem r_tap {m : Nat} (k : Nat) {t : Dice} (h : Dok m t) (hm : m < 1000000) (top : Int) (ht : 0 < top) (ht2 : top < 1073741824) (S0 r : Sto) : ∃ d t', 0 ≤ d ∧ d < top ∧ Dok (m + 1) t' ∧
    run T (k + 1) "_law_tap" [.m S0.length, .d (.int top)] (S0 ++ cellD t :: r) = some (.d (.int d), S0 ++ cellD t' :: r) := by
  obtain ⟨a, b, c⟩ := t
  obtain ⟨h1, h2, h3, h4⟩ := h
  simp only at h1 h2 h3 h4
  rw [u_L_tap]
  by_cases ha : 0 < a
  · refine ⟨a % top, (a / top, b, c), Int.emod_nonneg a (by omega), Int.emod_lt_of_pos a ht, ⟨h1, h2, h3, by simp only; omega⟩, ?_⟩
    rw [x_run]
    simp [b_L_tap, startR, cellD, ha, ht, ht2, x_sub1, ixN]
  · have s1 := tap_lt b 30011 (by omega)
    have s2 := tap_lt (b * (b.fmod 30011 + 20011) + 50021 * (c + 1) + 3) 2147483629 (by omega)
    have s3 := tap_lt (((b * (b.fmod 30011 + 20011) + 50021 * (c + 1) + 3).fmod 2147483629).fdiv 97) top ht
    refine ⟨_, (a, (b * (b.fmod 30011 + 20011) + 50021 * (c + 1) + 3).fmod 2147483629, c + 1), s3.1, s3.2, ⟨s2.1, s2.2, by simp only; omega, by simp only; omega⟩, ?_⟩
    have k1 : mulOk b (b.fmod 30011 + 20011) = true := mulOk_small (by omega) (by omega)
    have k2 : mulOk 50021 (c + 1) = true := mulOk_small (by omega) (by omega)
    have k3 : divOk 97 = true := divOk_small (by omega) (by omega)
    have t0 : top ≠ 0 := by omega
    rw [x_run]
    simp [b_L_tap, startR, cellD, ha, x_sub1, ixN, k1, k2, k3, t0]
theorem r_of {m : Nat} (k : Nat) {t : Dice} (h : Dok m t) (hm : m < 1000000) (xs : List PyData) (h0 : 0 < xs.length) (h1 : xs.length < 1000) (S0 r : Sto) : ∃ x ∈ xs, ∃ t', Dok (m + 1) t' ∧
    run T (k + 2) "_law_of" [.m S0.length, .d (.list xs)] (S0 ++ cellD t :: r) = some (.d x, S0 ++ cellD t' :: r) := by
  obtain ⟨d, t', d0, d1, ht, hr⟩ := r_tap k h hm xs.length (by omega) (by omega) S0 r
  obtain ⟨n, rfl⟩ : ∃ n : Nat, d = n := ⟨d.toNat, by omega⟩
  have hn : n < xs.length := by omega
  refine ⟨xs[n], List.getElem_mem hn, t', ht, ?_⟩
  have ha : atI xs (n : Int) = some xs[n] := atI_nat (List.getElem?_eq_getElem hn)
  rw [u_L_of, x_run]
  simp [b_L_of, startR, hr, ha]
/-! ### cutting -/
theorem gcd_step (x y : Int) (hy : 0 < y) (hx : 0 ≤ x) : Int.gcd y (x.fmod y) = Int.gcd x y := by
  rw [Int.fmod_eq_emod_of_nonneg x (by omega)]
  obtain ⟨a, rfl⟩ := Int.eq_ofNat_of_zero_le hx
  obtain ⟨b, rfl⟩ := Int.eq_ofNat_of_zero_le (show 0 ≤ y by omega)
  rw [← Int.natCast_emod, Int.gcd_natCast_natCast, Int.gcd_natCast_natCast, Nat.gcd_comm, ← Nat.gcd_rec, Nat.gcd_comm]
theorem r_cut {n : Nat} (k : Nat) {a b : Int} (hb : 0 < b) (ha : Lt2 n a) (hb' : Lt2 n b) (hn : n < 9000) (S : Sto) : run T (k + 1) "_law_cut" [.d (.int a), .d (.int b)] S = some (.d (fr (Rat.divInt a b)), S) := by
  have hb0 : b ≠ 0 := by omega
  have hg0 : Int.gcd a b ≠ 0 := fun e => hb0 (Int.gcd_eq_zero_iff.mp e).2
  have hgl : Lt2 n ((Int.gcd a b : Nat) : Int) := by
    unfold Lt2
    rw [Int.natAbs_natCast]
    exact Nat.lt_of_le_of_lt (Nat.gcd_le_right _ (Int.natAbs_pos.mpr hb0)) hb'
  have hdo : divOk ((Int.gcd a b : Nat) : Int) = true := divOk_of (by omega) hgl hn
  have fdv : ∀ z : Int, z.fdiv ((Int.gcd a b : Nat) : Int) = z / ((Int.gcd a b : Nat) : Int) := fun z => Int.fdiv_eq_ediv_of_nonneg z (by omega)
  have hnb : ¬ b < 0 := by omega
  have hres : fr (Rat.divInt a b) = .tuple [.int (a.fdiv (Int.gcd a b : Nat)), .int (b.fdiv (Int.gcd a b : Nat))] := by
    unfold fr
    rw [fdv, fdv, Rat.num_divInt, Rat.den_divInt, if_neg hb0, Int.gcd_comm b a, Int.sign_eq_one_of_pos hb, Int.one_mul]
    have : ((b.natAbs / Int.gcd a b : Nat) : Int) = b / (Int.gcd a b : Nat) := by rw [Int.natCast_ediv]; congr 1; omega
    rw [← this]
  rw [u_L_cut, x_run]
  simp [b_L_cut, startR, Option.bind_assoc, hnb]
  refine whileS_bind (fun o => o = some (W.d (fr (Rat.divInt a b)), S)) (fun s : Int × Int => [some (.d (.int a)), some (.d (.int b)), some (.d (.int s.1)), some (.d (.int s.2))]) (fun _ => S)
    (fun n s => 0 ≤ s.1 ∧ 0 ≤ s.2 ∧ s.2 < n ∧ Int.gcd s.1 s.2 = Int.gcd a b)
    (fun fl ρ S' => S' = S ∧ fl = .nx ∧ ρ = [some (.d (.int a)), some (.d (.int b)), some (.d (.int ((Int.gcd a b : Nat) : Int))), some (.d (.int 0))]) (if a < 0 then -a else a, b) ?_ rfl rfl ?_ ?_ ?_
  · refine ⟨by simp only; split <;> omega, by simp only; omega, ?_, ?_⟩
    · simp only
      have h2 : b.natAbs < fuel := Nat.lt_of_lt_of_le hb' (by unfold fuel; exact Nat.pow_le_pow_right (by decide) (by omega))
      generalize fuel = f at h2
      omega
    · simp only
      split
      · rw [Int.neg_gcd]
      · rfl
  · rintro ⟨x, y⟩ ⟨_, h2, h3, _⟩
    simp only at h2 h3
    omega
  · rintro j ⟨x, y⟩ ⟨h1, h2, h3, h4⟩
    simp only at h1 h2 h3 h4
    by_cases hy : 0 < y
    · refine .inr ⟨by simp [hy], .nx' (y, x.fmod y) ⟨by simp only; omega, (tap_lt x y hy).1, ?_, ?_⟩ ?_⟩
      · have := (tap_lt x y hy).2
        simp only; omega
      · simp only; rw [gcd_step x y hy h1, h4]
      · have : y ≠ 0 := by omega
        simp [this]
    · have hy0 : y = 0 := by omega
      subst hy0
      refine .inl ⟨by simp, rfl, rfl, ?_⟩
      rw [← h4]
      simp
      omega
  · rintro fl ρ S' ⟨rfl, rfl, rfl⟩
    simp [hdo, hres]
/-! ### pairs, not cut -/
abbrev P2 := Int × Int
def pr (p : P2) : PyData := .tuple [.int p.1, .int p.2]
def val (p : P2) : Rat := Rat.divInt p.1 p.2
def nd (q : Rat) : P2 := (q.num, q.den)
def Ok (n : Nat) (p : P2) : Prop := 0 < p.2 ∧ Lt2 n p.1 ∧ Lt2 n p.2
theorem fr_nd (q : Rat) : fr q = pr (nd q) := rfl
theorem val_nd (q : Rat) : val (nd q) = q := Rat.num_divInt_den q
theorem ok_nd {n : Nat} {q : Rat} (h : Sz n q) : Ok n (nd q) := ⟨by have := q.den_pos; simp only [nd]; omega, h.1, h.2⟩
theorem Ok.mono {n m : Nat} {p : P2} (h : Ok n p) (l : n ≤ m) : Ok m p := ⟨h.1, h.2.1.mono l, h.2.2.mono l⟩
def sumP2 (p q : P2) : P2 := (p.1 * q.2 + q.1 * p.2, p.2 * q.2)
def gapP2 (p q : P2) : P2 := (p.1 * q.2 - q.1 * p.2, p.2 * q.2)
def byP2 (p q : P2) : P2 := (p.1 * q.1, p.2 * q.2)
def perP2 (p q : P2) : P2 := (p.1 * q.2, p.2 * q.1)
section
variable {n m : Nat} {p q : P2}
theorem ok_sum (h : Ok n p) (g : Ok m q) : Ok (n + m + 1) (sumP2 p q) := ⟨Int.mul_pos h.1 g.1, ((h.2.1.mul g.2.2).add (g.2.1.mul h.2.2)).mono (by omega), (h.2.2.mul g.2.2).mono (by omega)⟩
theorem ok_gap (h : Ok n p) (g : Ok m q) : Ok (n + m + 1) (gapP2 p q) := ⟨Int.mul_pos h.1 g.1, ((h.2.1.mul g.2.2).sub (g.2.1.mul h.2.2)).mono (by omega), (h.2.2.mul g.2.2).mono (by omega)⟩
theorem ok_by (h : Ok n p) (g : Ok m q) : Ok (n + m) (byP2 p q) := ⟨Int.mul_pos h.1 g.1, h.2.1.mul g.2.1, h.2.2.mul g.2.2⟩
theorem ok_per (h : Ok n p) (g : Ok m q) (g1 : 0 < q.1) : Ok (n + m) (perP2 p q) := ⟨Int.mul_pos h.1 g1, h.2.1.mul g.2.2, h.2.2.mul g.2.1⟩
theorem Ok.ne (h : Ok n p) : p.2 ≠ 0 := by have := h.1; omega
theorem val_sum (h : Ok n p) (g : Ok m q) : val (sumP2 p q) = val p + val q := (Rat.divInt_add_divInt p.1 q.1 h.ne g.ne).symm
theorem val_gap (h : Ok n p) (g : Ok m q) : val (gapP2 p q) = val p - val q := (Rat.divInt_sub_divInt p.1 q.1 h.ne g.ne).symm
theorem val_by : val (byP2 p q) = val p * val q := (Rat.divInt_mul_divInt p.1 q.1).symm
theorem val_per : val (perP2 p q) = val p / val q := by
  unfold val perP2
  rw [Rat.div_def, Rat.inv_divInt, Rat.divInt_mul_divInt]
theorem val_nonneg (h : Ok n p) : 0 ≤ val p ↔ 0 ≤ p.1 := Rat.divInt_nonneg_iff_of_pos_right h.1
theorem val_neg (h : Ok n p) : val p < 0 ↔ p.1 < 0 := by have := val_nonneg h; constructor <;> intro _ <;> grind
theorem val_nonpos (h : Ok n p) : val p ≤ 0 ↔ p.1 ≤ 0 := by
  have h2 : Ok n (-p.1, p.2) := ⟨h.1, h.2.1.neg, h.2.2⟩
  have := val_nonneg h2
  have e : val (-p.1, p.2) = - val p := (Rat.neg_divInt p.1 p.2).symm
  rw [e] at this
  constructor <;> intro _ <;> grind
theorem val_pos (h : Ok n p) : 0 < val p ↔ 0 < p.1 := by have := val_nonpos h; constructor <;> intro _ <;> grind
variable (h : Ok n p) (g : Ok m q) (hn : n + m < 900000)
include h g hn
theorem r_sum (k : Nat) (S : Sto) : run T (k + 1) "_law_sum" [.d (pr p), .d (pr q)] S = some (.d (pr (sumP2 p q)), S) := by
  rw [u_L_sum]
  refine run_ret (ρ := [some (.d (pr p)), some (.d (pr q))]) ?_
  simp [b_L_sum, startR, pr, sumP2, mulOk_of h.2.1 g.2.2, mulOk_of g.2.1 h.2.2, mulOk_of h.2.2 g.2.2]
theorem r_gap (k : Nat) (S : Sto) : run T (k + 1) "_law_gap" [.d (pr p), .d (pr q)] S = some (.d (pr (gapP2 p q)), S) := by
  rw [u_L_gap]
  refine run_ret (ρ := [some (.d (pr p)), some (.d (pr q))]) ?_
  simp [b_L_gap, startR, pr, gapP2, mulOk_of h.2.1 g.2.2, mulOk_of g.2.1 h.2.2, mulOk_of h.2.2 g.2.2]
theorem r_by (k : Nat) (S : Sto) : run T (k + 1) "_law_by" [.d (pr p), .d (pr q)] S = some (.d (pr (byP2 p q)), S) := by
  rw [u_L_by]
  refine run_ret (ρ := [some (.d (pr p)), some (.d (pr q))]) ?_
  simp [b_L_by, startR, pr, byP2, mulOk_of h.2.1 g.2.1, mulOk_of h.2.2 g.2.2]
theorem r_per (g1 : 0 < q.1) (k : Nat) (S : Sto) : run T (k + 1) "_law_per" [.d (pr p), .d (pr q)] S = some (.d (pr (perP2 p q)), S) := by
  rw [u_L_per]
  refine run_ret (ρ := [some (.d (pr p)), some (.d (pr q))]) ?_
  simp [b_L_per, startR, pr, perP2, g1, mulOk_of h.2.1 g.2.2, mulOk_of h.2.2 g.2.1]
end
theorem r_even {n : Nat} {p : P2} (h : Ok n p) (hn : n < 9000) (k : Nat) (S : Sto) : run T (k + 2) "_law_even" [.d (pr p)] S = some (.d (fr (val p)), S) := by
  rw [u_L_even]
  refine run_ret (ρ := [some (.d (pr p))]) ?_
  simp [b_L_even, startR, pr, r_cut k h.1 h.2.1 h.2.2 hn, val]
end Prog

/-! M4: the law's own kinds. -/
namespace Prog
open PySem PySem.Spec PyProof.Rows L2 PD
theorem prs_snoc {α : Type} : ∀ (r : List α) (a b : α), prs ((r ++ [a]) ++ [b]) = prs (r ++ [a]) ++ [(a, b)]
  | [], a, b => rfl
  | [x], a, b => rfl
  | x :: y :: r, a, b => by
    have := prs_snoc (y :: r) a b
    show (x, y) :: prs (((y :: r) ++ [a]) ++ [b]) = (x, y) :: (prs ((y :: r) ++ [a]) ++ [(a, b)])
    rw [this]
theorem prs_snoc_mem {α : Type} {l : List α} {v : α} {p : α × α} (h : p ∈ prs (l ++ [v])) : p ∈ prs l ∨ (p.1 ∈ l ∧ p.2 = v) := by
  rcases List.eq_nil_or_concat l with rfl | ⟨r, a, rfl⟩
  · cases h
  · rw [List.concat_eq_append] at h ⊢
    rw [prs_snoc] at h
    rcases List.mem_append.mp h with h | h
    · exact .inl h
    · rw [List.mem_singleton.mp h]; exact .inr ⟨by simp, rfl⟩
theorem speeds_snoc (r : List Cr) (a b : Cr) : speeds ((r ++ [a]) ++ [b]) = speeds (r ++ [a]) ++ [slope a b] := by
  unfold speeds
  rw [prs_snoc, List.map_append]; rfl
theorem slope_step (k q s w : Rat) (hw : 0 < w) : slope (k, q) (k + w, q + s * w) = s := by
  have : w ≠ 0 := by grind
  simp only [slope]
  rw [show q + s * w - q = s * w by grind, show k + w - k = w by grind, Rat.mul_div_cancel this]
theorem slope_close (k q s : Rat) (hq : 0 < q) (hs : s < 0) : slope (k, q) (k + q / (-s), 0) = s := by
  have h1 : q ≠ 0 := by grind
  have h2 : s ≠ 0 := by grind
  simp only [slope]
  rw [show k + q / (-s) - k = q / (-s) by grind]
  grind
theorem sz0 : Sz 1 0 := ⟨by unfold Lt2; decide, by unfold Lt2; decide⟩
/-- corners so far, and the slope that is next -/
structure Acc (i : Nat) (acc : List Cr) (k q s : Rat) : Prop where
  len : acc.length = i + 1
  head : ∃ r, acc = (0, 0) :: r
  last : ∃ r, acc = r ++ [(k, q)]
  szk : Sz (3 * i + 1) k
  szq : Sz (2 * (i * i) + 4 * i + 1) q
  szs : Sz (4 * i + 3) s
  size : ∀ c ∈ acc, CSz 320 c
  pos : ∀ c ∈ acc.tail, 0 < c.2
  asc : ∀ p ∈ prs acc, p.1.1 < p.2.1
  conc : ∀ p ∈ prs (speeds acc), p.2 < p.1
  low : ∀ v ∈ speeds acc, s < v
  beg : i = 0 → q = 0 ∧ 0 < s
theorem Acc.snoc {i : Nat} {acc : List Cr} {k q s w s' : Rat} (h : Acc i acc k q s) (hi : i < 10) (hw : 0 < w) (zw : Sz 2 w) (hq : 0 < q + s * w) (hs : s' < s) (zs : Sz (4 * (i + 1) + 3) s') : Acc (i + 1) (acc ++ [(k + w, q + s * w)]) (k + w) (q + s * w) s' := by
  have zk : Sz (3 * (i + 1) + 1) (k + w) := (sz_add h.szk zw).mono (by omega)
  have sq : (i + 1) * (i + 1) = i * i + 2 * i + 1 := by grind
  have zq : Sz (2 * ((i + 1) * (i + 1)) + 4 * (i + 1) + 1) (q + s * w) := (sz_add h.szq (sz_mul h.szs zw)).mono (by omega)
  have ib : i * i ≤ 9 * 9 := Nat.mul_le_mul (by omega) (by omega)
  obtain ⟨r, hr⟩ := h.last
  obtain ⟨r2, hr2⟩ := h.head
  refine ⟨by rw [List.length_append, h.len]; rfl, ⟨r2 ++ [(k + w, q + s * w)], by rw [hr2]; rfl⟩, ⟨acc, rfl⟩, zk, zq, zs, ?_, ?_, ?_, ?_, ?_, fun e => by omega⟩
  · intro c m
    rcases List.mem_append.mp m with m | m
    · exact h.size c m
    · rw [List.mem_singleton.mp m]; exact ⟨zk.mono (by omega), zq.mono (by omega)⟩
  · intro c m
    rw [hr2] at m
    rcases List.mem_append.mp (show c ∈ r2 ++ [(k + w, q + s * w)] from m) with m | m
    · exact h.pos c (by rw [hr2]; exact m)
    · rw [List.mem_singleton.mp m]; exact hq
  · intro p m
    rw [hr, prs_snoc, ← hr] at m
    rcases List.mem_append.mp m with m | m
    · exact h.asc p m
    · rw [List.mem_singleton.mp m]; show k < k + w; grind
  · intro p m
    rw [hr, speeds_snoc, ← hr, slope_step _ _ _ _ hw] at m
    rcases prs_snoc_mem m with m | ⟨m, e⟩
    · exact h.conc p m
    · rw [e]; exact h.low _ m
  · intro v m
    rw [hr, speeds_snoc, ← hr, slope_step _ _ _ _ hw] at m
    rcases List.mem_append.mp m with m | m
    · have := h.low v m; grind
    · rw [List.mem_singleton.mp m]; exact hs
theorem Acc.qpos {i : Nat} {acc : List Cr} {k q s : Rat} (h : Acc i acc k q s) (hi : 1 ≤ i) : 0 < q := by
  obtain ⟨r, hr⟩ := h.last
  have l := h.len
  refine h.pos (k, q) ?_
  subst hr
  cases r with
  | nil => simp at l; omega
  | cons x r => simp
theorem Acc.close {i : Nat} {acc : List Cr} {k q s s' : Rat} (h : Acc i acc k q s) (hi : 1 ≤ i) (hj : i ≤ 10) (hs : s' < 0) (hl : ∀ v ∈ speeds acc, s' < v) (zs : Sz (4 * i + 3) s') : Kd 320 (acc ++ [(k + q / (-s'), 0)]) := by
  have q0 := h.qpos hi
  obtain ⟨r, hr⟩ := h.last
  obtain ⟨r2, hr2⟩ := h.head
  have hd : 0 < q / (-s') := by rw [Rat.div_def]; exact Rat.mul_pos q0 (Rat.inv_pos.mpr (by grind))
  have zn : Sz (4 * i + 3) (-s') := ⟨zs.1.neg, zs.2⟩
  have ib : i * i ≤ 10 * 10 := Nat.mul_le_mul hj hj
  have zf : Sz 320 (k + q / (-s')) := (sz_add h.szk (sz_div (by grind) h.szq zn)).mono (by omega)
  have sl := slope_close k q s' q0 hs
  have hkf : k < k + q / (-s') := by grind
  generalize k + q / (-s') = f at zf hkf sl
  have l := h.len
  have hne : r2 ≠ [] := by intro e; rw [hr2, e] at l; simp at l; omega
  refine ⟨by rw [List.length_append, l]; show 3 ≤ i + 1 + 1; omega, by rw [List.length_append, l]; show i + 1 + 1 ≤ 12; omega, ?_, ⟨r2 ++ [(f, 0)], by rw [hr2]; rfl⟩, ⟨acc, f, rfl⟩, ?_, ?_, ?_⟩
  · intro c m
    rcases List.mem_append.mp m with m | m
    · exact h.size c m
    · rw [List.mem_singleton.mp m]; exact ⟨zf, sz0.mono (by omega)⟩
  · intro c m
    have e : (acc ++ [(f, (0 : Rat))]).tail.dropLast = acc.tail := by rw [hr2]; show (r2 ++ [(f, 0)]).dropLast = r2; exact List.dropLast_concat
    rw [e] at m
    exact h.pos c m
  · intro p m
    rw [hr, prs_snoc, ← hr] at m
    rcases List.mem_append.mp m with m | m
    · exact h.asc p m
    · rw [List.mem_singleton.mp m]; exact hkf
  · intro p m
    rw [hr, speeds_snoc, ← hr, sl] at m
    rcases prs_snoc_mem m with m | ⟨m, e⟩
    · exact h.conc p m
    · rw [e]; exact hl _ m
theorem Acc.start {s : Rat} (h0 : 0 < s) (zs : Sz 3 s) : Acc 0 [(0, 0)] 0 0 s := by
  refine ⟨rfl, ⟨[], rfl⟩, ⟨[], rfl⟩, sz0, sz0, zs, ?_, ?_, ?_, ?_, ?_, fun _ => ⟨rfl, h0⟩⟩
  · intro c m; rw [List.mem_singleton.mp m]; exact ⟨sz0.mono (by omega), sz0.mono (by omega)⟩
  · intro c m; cases m
  · intro c m; cases m
  · intro c m; cases m
  · intro c m; cases m
/-! ### the walk -/
theorem lt2_small {n : Nat} {a : Int} (h0 : -(2 ^ n) < a) (h : a < 2 ^ n) : Lt2 n a := by
  unfold Lt2
  have : ((2 ^ n : Nat) : Int) = 2 ^ n := by simp
  omega
theorem divInt_pos' {a b : Int} (ha : 0 < a) (hb : 0 < b) : 0 < Rat.divInt a b := by
  have ok : Ok (a.natAbs + b.natAbs) (a, b) := ⟨hb, ⟨Nat.lt_of_le_of_lt (by simp only; omega) Nat.lt_two_pow_self, Nat.lt_of_le_of_lt (by simp only; omega) Nat.lt_two_pow_self⟩⟩
  exact (val_pos ok).mpr ha
theorem divInt_neg' {a b : Int} (ha : a < 0) (hb : 0 < b) : Rat.divInt a b < 0 := by
  have ok : Ok (a.natAbs + b.natAbs) (a, b) := ⟨hb, ⟨Nat.lt_of_le_of_lt (by simp only; omega) Nat.lt_two_pow_self, Nat.lt_of_le_of_lt (by simp only; omega) Nat.lt_two_pow_self⟩⟩
  exact (val_neg ok).mpr ha
@[simp] theorem pr_at0 (p : P2) : ixP (pr p) (.int 0) = some (.int p.1) := by simp [pr]
@[simp] theorem pr_at1 (p : P2) : ixP (pr p) (.int 1) = some (.int p.2) := by simp [pr]
@[simp] theorem fr_at0 (q : Rat) : ixP (fr q) (.int 0) = some (.int q.num) := by simp [fr]
@[simp] theorem fr_at1 (q : Rat) : ixP (fr q) (.int 1) = some (.int q.den) := by simp [fr]
/-- two throws cut: a small fraction -/
theorem r_cut2 {n : Nat} (k : Nat) {a b : Int} (hb : 0 < b) (ha : a.natAbs < 2 ^ n) (hb2 : b.natAbs < 2 ^ n) (hn : n < 9000) (S : Sto) : run T (k + 1) "_law_cut" [.d (.int a), .d (.int b)] S = some (.d (fr (Rat.divInt a b)), S) ∧ Sz n (Rat.divInt a b) :=
  ⟨r_cut k hb ha hb2 hn S, sz_divInt (by omega) ha hb2⟩
structure KSt where
  t : Dice
  acc : List Cr
  k : Rat
  q : Rat
  s : Rat
  i : Nat
  w2 : Option W
  w7 : Option W
  w8 : Option W
theorem r_law_kind {m : Nat} (k : Nat) {t : Dice} (h : Dok m t) (hm : m < 900000) (S0 : Sto) : ∃ ks t', Kd 320 ks ∧ Dok (m + 60) t' ∧ run T (k + 3) "_law_kind" [.m S0.length] (S0 ++ [cellD t]) = some (.d (kd ks), S0 ++ [cellD t']) := by
  obtain ⟨d1, t1, d10, d11, h1, e1⟩ := r_tap (k + 1) h (by omega) 4 (by omega) (by omega) S0 []
  obtain ⟨d2, t2, d20, d21, h2, e2⟩ := r_tap (k + 1) h1 (by omega) 3 (by omega) (by omega) S0 []
  obtain ⟨c1, z1⟩ := r_cut2 (n := 3) (k + 1) (a := 1 + d1) (b := 1 + d2) (by omega) (by omega) (by omega) (by omega) (S0 ++ [cellD t2])
  have p1 : 0 < Rat.divInt (1 + d1) (1 + d2) := divInt_pos' (by omega) (by omega)
  generalize Rat.divInt (1 + d1) (1 + d2) = s at c1 z1 p1
  obtain ⟨x, hx, t3, h3, e3⟩ := r_of k h2 (by omega) [.int 1, .int 2, .int 1, .int 2, .int 3, .int 4, .int 6, .int 10] (by simp) (by simp) S0 [some [co (0, 0)]]
  obtain ⟨n, hn1, hn2, rfl⟩ : ∃ n : Nat, 1 ≤ n ∧ n ≤ 10 ∧ x = .int n := by
    simp at hx
    rcases hx with rfl | rfl | rfl | rfl | rfl | rfl | rfl | rfl
    · exact ⟨1, by omega, by omega, rfl⟩
    · exact ⟨2, by omega, by omega, rfl⟩
    · exact ⟨1, by omega, by omega, rfl⟩
    · exact ⟨2, by omega, by omega, rfl⟩
    · exact ⟨3, by omega, by omega, rfl⟩
    · exact ⟨4, by omega, by omega, rfl⟩
    · exact ⟨6, by omega, by omega, rfl⟩
    · exact ⟨10, by omega, by omega, rfl⟩
  have rg := rangeU_nat n (S0 ++ [cellD t3, some [co (0, 0)]]) (by omega)
  simp only [co, fr0] at e3 rg
  rw [u_L_kind, x_run]
  refine (?_ : (fun o => ∃ ks t', Kd 320 ks ∧ Dok (m + 60) t' ∧ o = some (W.d (kd ks), S0 ++ [cellD t'])) _)
  generalize hP : (fun o => ∃ ks t', Kd 320 ks ∧ Dok (m + 60) t' ∧ o = some (W.d (kd ks), S0 ++ [cellD t'])) = P
  simp [b_L_kind, startR, Option.bind_assoc, e1, e2, c1, e3, rg]
  have ini : Acc 0 [(0, 0)] 0 0 s := Acc.start p1 z1
  refine forN_bind P (fun i : Nat => PyData.int (0 + (i : Nat))) (fun s : KSt => [some (.m S0.length), some (.m (S0.length + 1)), s.w2, none, some (.d (fr s.k)), some (.d (fr s.q)), some (.d (fr s.s)), s.w7, s.w8])
    (fun s => S0 ++ [cellD s.t, some (s.acc.map co)]) (fun l s => s.i + l.length = n ∧ Acc s.i s.acc s.k s.q s.s ∧ Dok (m + 3 + 4 * s.i) s.t)
    (fun fl ρ S => ∃ s : KSt, fl = .nx ∧ ρ = [some (.m S0.length), some (.m (S0.length + 1)), s.w2, none, some (.d (fr s.k)), some (.d (fr s.q)), some (.d (fr s.s)), s.w7, s.w8] ∧ S = S0 ++ [cellD s.t, some (s.acc.map co)] ∧ 1 ≤ s.i ∧ s.i ≤ 10 ∧ Acc s.i s.acc s.k s.q s.s ∧ Dok (m + 50) s.t)
    (List.range n) ⟨t3, [(0, 0)], 0, 0, s, 0, none, none, none⟩ ⟨by simp, ini, h3⟩ rfl rfl ?_ ?_ ?_
  · rintro s ⟨hl, ha, hd⟩
    simp at hl
    exact ⟨s, rfl, rfl, rfl, by omega, by omega, ha, hd.mono (by omega)⟩
  · rintro x l ⟨t, acc, kk, q, s, i, w2, w7, w8⟩ ⟨hl, ha, hd⟩
    simp only at hl ha hd ⊢
    simp only [List.length_cons] at hl
    obtain ⟨d1, t1, d10, d11, h1, e1⟩ := r_tap (k + 1) hd (by omega) 3 (by omega) (by omega) S0 [some (acc.map co)]
    obtain ⟨d2, t2, d20, d21, h2, e2⟩ := r_tap (k + 1) h1 (by omega) 2 (by omega) (by omega) S0 [some (acc.map co)]
    obtain ⟨c1, zw⟩ := r_cut2 (n := 2) (k + 1) (a := 1 + d1) (b := 1 + d2) (by omega) (by omega) (by omega) (by omega) (S0 ++ [cellD t2, some (acc.map co)])
    have w0 : 0 < Rat.divInt (1 + d1) (1 + d2) := divInt_pos' (by omega) (by omega)
    generalize Rat.divInt (1 + d1) (1 + d2) = w at c1 zw w0
    have ib : i * i ≤ 9 * 9 := Nat.mul_le_mul (by omega) (by omega)
    have b1 := r_by (ok_nd ha.szs) (ok_nd zw) (by omega) (k + 1) (S0 ++ [cellD t2, some (acc.map co)])
    have okM := ok_sum (ok_nd ha.szq) (ok_by (ok_nd ha.szs) (ok_nd zw))
    have b2 := r_sum (ok_nd ha.szq) (ok_by (ok_nd ha.szs) (ok_nd zw)) (by omega) (k + 1) (S0 ++ [cellD t2, some (acc.map co)])
    have vM : val (sumP2 (nd q) (byP2 (nd s) (nd w))) = q + s * w := by rw [val_sum (ok_nd ha.szq) (ok_by (ok_nd ha.szs) (ok_nd zw)), val_by, val_nd, val_nd, val_nd]
    simp only [← fr_nd] at b1 b2
    generalize byP2 (nd s) (nd w) = M1 at b1 b2 okM vM
    generalize sumP2 (nd q) M1 = M at b2 okM vM
    by_cases hm0 : M.1 ≤ 0
    · have hle := (val_nonpos okM).mpr hm0
      rw [vM] at hle
      have hi : i ≠ 0 := fun e => by
        obtain ⟨q0, s0⟩ := ha.beg e
        have := Rat.mul_pos s0 w0
        grind
      refine .bk' ⟨⟨t2, acc, kk, q, s, i, some (.d (.int (0 + (x : Nat)))), some (.d (fr w)), some (.d (pr M))⟩, rfl, rfl, rfl, by simp only; omega, by simp only; omega, ha, h2.mono (by omega)⟩ ?_
      simp [e1, e2, c1, b1, b2, hm0]
    · have hgt : 0 < q + s * w := by
        have := val_nonpos okM
        rw [vM] at this
        grind
      have okK := ok_sum (ok_nd ha.szk) (ok_nd zw)
      have b3 := r_sum (ok_nd ha.szk) (ok_nd zw) (by omega) (k + 1) (S0 ++ [cellD t2, some (acc.map co)])
      have b4 := r_even okK (by omega) k (S0 ++ [cellD t2, some (acc.map co)])
      have b5 := r_even okM (by omega) k (S0 ++ [cellD t2, some (acc.map co)])
      rw [val_sum (ok_nd ha.szk) (ok_nd zw), val_nd, val_nd] at b4
      rw [vM] at b5
      simp only [← fr_nd] at b3
      obtain ⟨d3, t3, d30, d31, h3, e3⟩ := r_tap (k + 1) h2 (by omega) 4 (by omega) (by omega) S0 [some (acc.map co ++ [.tuple [fr (kk + w), fr (q + s * w)]])]
      obtain ⟨d4, t4, d40, d41, h4, e4⟩ := r_tap (k + 1) h3 (by omega) 2 (by omega) (by omega) S0 [some (acc.map co ++ [.tuple [fr (kk + w), fr (q + s * w)]])]
      obtain ⟨c2, zv⟩ := r_cut2 (n := 3) (k + 1) (a := 1 + d3) (b := 1 + d4) (by omega) (by omega) (by omega) (by omega) (S0 ++ [cellD t4, some (acc.map co ++ [.tuple [fr (kk + w), fr (q + s * w)]])])
      have v0 : 0 < Rat.divInt (1 + d3) (1 + d4) := divInt_pos' (by omega) (by omega)
      generalize Rat.divInt (1 + d3) (1 + d4) = v at c2 zv v0
      have b6 := r_gap (ok_nd ha.szs) (ok_nd zv) (by omega) (k + 1) (S0 ++ [cellD t4, some (acc.map co ++ [.tuple [fr (kk + w), fr (q + s * w)]])])
      have b7 := r_even (ok_gap (ok_nd ha.szs) (ok_nd zv)) (by omega) k (S0 ++ [cellD t4, some (acc.map co ++ [.tuple [fr (kk + w), fr (q + s * w)]])])
      rw [val_gap (ok_nd ha.szs) (ok_nd zv), val_nd, val_nd] at b7
      simp only [← fr_nd] at b6
      have hal : acc.length < 100000 := by rw [ha.len]; omega
      refine .nx' ⟨t4, acc ++ [(kk + w, q + s * w)], kk + w, q + s * w, s - v, i + 1, some (.d (.int (0 + (x : Nat)))), some (.d (fr w)), some (.d (pr M))⟩ ⟨by simp only; omega, ha.snoc (by omega) w0 zw hgt (by grind) ((sz_sub ha.szs zv).mono (by omega)), h4.mono (by simp only; omega)⟩ ?_
      simp [e1, e2, c1, b1, b2, hm0, b3, b4, b5, e3, e4, c2, b6, b7, hal, co]
  · rintro fl ρ S ⟨⟨t, acc, kk, q, s, i, w2, w7, w8⟩, rfl, rfl, rfl, hi1, hi2, ha, hd⟩
    simp only at hi1 hi2 ha hd ⊢
    have fin : ∀ (s' : Rat), s' < 0 → Sz (4 * i + 3) s' → ∀ S, ∃ P1 P2, run T (k + 2) "_law_per" [.d (fr q), .d (.tuple [.int (-s'.num), .int s'.den])] S = some (.d P1, S) ∧ run T (k + 2) "_law_sum" [.d (fr kk), .d P1] S = some (.d P2, S) ∧ run T (k + 2) "_law_even" [.d P2] S = some (.d (fr (kk + q / (-s'))), S) := by
      intro s' hs zs S
      have ib : i * i ≤ 10 * 10 := Nat.mul_le_mul hi2 hi2
      have ok2 : Ok (4 * i + 3) (nd (-s')) := ok_nd ⟨zs.1.neg, zs.2⟩
      have n0 : 0 < (nd (-s')).1 := (val_pos ok2).mp (by rw [val_nd]; grind)
      have b1 := r_per (ok_nd ha.szq) ok2 (by omega) n0 (k + 1) S
      have okP := ok_per (ok_nd ha.szq) ok2 n0
      have b2 := r_sum (ok_nd ha.szk) okP (by omega) (k + 1) S
      have b3 := r_even (ok_sum (ok_nd ha.szk) okP) (by omega) k S
      rw [val_sum (ok_nd ha.szk) okP, val_per, val_nd, val_nd, val_nd] at b3
      exact ⟨_, _, b1, b2, b3⟩
    have hal : acc.length + 1 ≤ 100000 := by rw [ha.len]; omega
    by_cases hs : 0 ≤ s
    · obtain ⟨d1, t1, d10, d11, h1, e1⟩ := r_tap (k + 1) hd (by omega) 3 (by omega) (by omega) S0 [some (acc.map co)]
      obtain ⟨d2, t2, d20, d21, h2, e2⟩ := r_tap (k + 1) h1 (by omega) 2 (by omega) (by omega) S0 [some (acc.map co)]
      obtain ⟨c1, zw⟩ := r_cut2 (n := 2) (k + 1) (a := -1 - d1) (b := 1 + d2) (by omega) (by omega) (by omega) (by omega) (S0 ++ [cellD t2, some (acc.map co)])
      have w0 : Rat.divInt (-1 - d1) (1 + d2) < 0 := divInt_neg' (by omega) (by omega)
      generalize Rat.divInt (-1 - d1) (1 + d2) = w at c1 zw w0
      obtain ⟨P1, P2, f1, f2, f3⟩ := fin w w0 (zw.mono (by omega)) (S0 ++ [cellD t2, some (acc.map co)])
      rw [← hP]
      refine ⟨acc ++ [(kk + q / (-w), 0)], t2, ha.close hi1 hi2 w0 (fun v hv => by have := ha.low v hv; grind) (zw.mono (by omega)), h2.mono (by omega), ?_⟩
      simp [hs, e1, e2, c1, f1, f2, f3, hal, kd, co, fr0]
    · obtain ⟨P1, P2, f1, f2, f3⟩ := fin s (by grind) ha.szs (S0 ++ [cellD t, some (acc.map co)])
      rw [← hP]
      refine ⟨acc ++ [(kk + q / (-s), 0)], t, ha.close hi1 hi2 (by grind) ha.low ha.szs, hd.mono (by omega), ?_⟩
      simp [hs, f1, f2, f3, hal, kd, co, fr0]
end Prog

/-! M5: along, bare, the law's tests. -/
namespace Prog
open PySem PySem.Spec PyProof.Rows L2 PD
def alongP : List (Cr × Cr) → Rat → Rat → Rat
  | [], _, acc => acc
  | p :: r, d, acc => alongP r d (if p.1.1 ≤ d then p.1.2 + (p.2.2 - p.1.2) * (if d < p.2.1 then d - p.1.1 else p.2.1 - p.1.1) / (p.2.1 - p.1.1) else acc)
theorem along_past {d : Rat} : ∀ (r : List Cr) (last : Cr) (acc : Rat), (∀ p ∈ prs (last :: r), p.1.1 < p.2.1) → d < last.1 → alongP (prs (last :: r)) d acc = acc
  | [], last, acc, _, _ => rfl
  | c :: r, last, acc, h, hd => by
    have h1 : last.1 < c.1 := h (last, c) List.mem_cons_self
    show alongP (prs (c :: r)) d (if last.1 ≤ d then _ else acc) = acc
    rw [if_neg (by grind)]
    exact along_past r c acc (fun p m => h p (List.mem_cons_of_mem _ m)) (by grind)
theorem along_at {d : Rat} (r : List Cr) (last : Cr) (acc : Rat) (h : ∀ p ∈ prs (last :: r), p.1.1 < p.2.1) (hd : last.1 = d) (ha : acc = last.2) : alongP (prs (last :: r)) d acc = last.2 := by
  cases r with
  | nil => exact ha
  | cons c r =>
    have h1 : last.1 < c.1 := h (last, c) List.mem_cons_self
    show alongP (prs (c :: r)) d _ = _
    rw [along_past r c _ (fun p m => h p (List.mem_cons_of_mem _ m)) (by grind)]
    simp only
    rw [if_pos (by grind), if_pos (by grind)]
    grind
theorem along_flowL {d : Rat} : ∀ (r : List Cr) (last : Cr) (acc : Rat), (∀ p ∈ prs (last :: r), p.1.1 < p.2.1) → last.1 ≤ d → d ≤ (((last :: r).getLast?).getD (0, 0)).1 → r ≠ [] → alongP (prs (last :: r)) d acc = flowL last r d
  | [], _, _, _, _, _, hn => absurd rfl hn
  | c :: r, last, acc, h, hd, hf, _ => by
    have h1 : last.1 < c.1 := h (last, c) List.mem_cons_self
    have h2 := fun p m => h p (List.mem_cons_of_mem (last, c) m)
    show alongP (prs (c :: r)) d (if last.1 ≤ d then last.2 + (c.2 - last.2) * (if d < c.1 then d - last.1 else c.1 - last.1) / (c.1 - last.1) else acc) = if c.1 < d then flowL c r d else last.2 + slope last c * (d - last.1)
    rw [if_pos hd]
    rw [List.getLast?_cons_cons] at hf
    by_cases hc : c.1 < d
    · rw [if_pos hc]
      refine along_flowL r c _ h2 (by grind) hf ?_
      rintro rfl
      simp at hf
      grind
    · rw [if_neg hc]
      unfold slope
      by_cases hc2 : d < c.1
      · rw [if_pos hc2, along_past r c _ h2 hc2]
        grind
      · have e : d = c.1 := by grind
        rw [if_neg hc2, along_at r c _ h2 e.symm (by grind)]
        grind
theorem along_flow {n : Nat} {ks : List Cr} {d : Rat} (h : Kd n ks) (h0 : 0 ≤ d) (h1 : ¬ fullD ks < d) : alongP (prs ks) d 0 = flow ks d := by
  obtain ⟨r, hr⟩ := h.head
  have l := h.len3
  have a := h.asc
  subst hr
  unfold fullD at h1
  exact along_flowL r (0, 0) 0 a h0 (by grind) (by rintro rfl; simp at l)
theorem prs_get {α : Type} : ∀ {l : List α} {i : Nat} {p : α × α}, (prs l)[i]? = some p → l[i]? = some p.1 ∧ l[i + 1]? = some p.2
  | [], i, p, h => by simp [prs] at h
  | [x], i, p, h => by simp [prs] at h
  | x :: y :: r, 0, p, h => by
    have : (x, y) = p := by simpa [prs] using h
    subst this
    exact ⟨rfl, rfl⟩
  | x :: y :: r, i + 1, p, h => by
    have h' : (prs (y :: r))[i]? = some p := by simpa [prs] using h
    have := prs_get h'
    simpa using this
structure ASt where
  F : P2
  w3 : Option W
  w4 : Option W
  w5 : Option W
  w6 : Option W
  w7 : Option W
  w8 : Option W
theorem r_along {ks : List Cr} {d : Rat} (k : Nat) (h : Kd 330 ks) (zd : Sz 330 d) (S : Sto) : ∃ F, Ok 4000 F ∧ val F = alongP (prs ks) d 0 ∧ run T (k + 2) "_law_along" [.d (kd ks), .d (fr d)] S = some (.d (pr F), S) := by
  have a0 : atI (ks.map co) 0 = some (co (0, 0)) := by obtain ⟨r, rfl⟩ := h.head; rw [List.map_cons]; exact at0 _ _
  have l3 := h.len3
  have l12 := h.len12
  have hlen : (ks.length : Int) - 1 = ((prs ks).length : Nat) := by rw [prs_len]; omega
  have rg := rangeU_nat (prs ks).length S (by rw [prs_len]; omega)
  rw [range_zip] at rg
  rw [u_L_along, x_run]
  refine (?_ : (fun o => ∃ F, Ok 4000 F ∧ val F = alongP (prs ks) d 0 ∧ o = some (W.d (pr F), S)) _)
  generalize hP : (fun o => ∃ F, Ok 4000 F ∧ val F = alongP (prs ks) d 0 ∧ o = some (W.d (pr F), S)) = P
  simp [b_L_along, startR, Option.bind_assoc, kd, a0, co, hlen, rg]
  refine forN_bind P (fun t : (Cr × Cr) × Nat => PyData.int (t.2 : Nat)) (fun s : ASt => [some (.d (.tuple (ks.map co))), some (.d (fr d)), some (.d (pr s.F)), s.w3, s.w4, s.w5, s.w6, s.w7, s.w8]) (fun _ => S)
    (fun l s => (∀ t ∈ l, atI (ks.map co) (t.2 : Nat) = some (co t.1.1) ∧ atI (ks.map co) ((t.2 : Nat) + 1) = some (co t.1.2) ∧ CSz 330 t.1.1 ∧ CSz 330 t.1.2 ∧ t.1.1.1 < t.1.2.1) ∧ Ok 4000 s.F ∧ alongP (l.map Prod.fst) d (val s.F) = alongP (prs ks) d 0)
    (fun fl ρ S' => ∃ F w3 w4 w5 w6 w7 w8, fl = .nx ∧ S' = S ∧ Ok 4000 F ∧ val F = alongP (prs ks) d 0 ∧ ρ = [some (.d (.tuple (ks.map co))), some (.d (fr d)), some (.d (pr F)), w3, w4, w5, w6, w7, w8])
    ((prs ks).zipIdx) ⟨nd 0, none, none, none, none, none, none⟩ ⟨?_, (ok_nd sz0).mono (by omega), ?_⟩ rfl rfl ?_ ?_ ?_
  · rintro ⟨p, i⟩ m
    have g1 := List.mk_mem_zipIdx_iff_getElem?.mp m
    have g2 := prs_get g1
    have g3 := List.mem_of_getElem? g1
    have g4 := prs_mem g3
    refine ⟨atI_nat (by rw [List.getElem?_map, g2.1]; rfl), ?_, h.size _ g4.1, h.size _ g4.2, h.asc p g3⟩
    have := atI_nat (xs := ks.map co) (j := i + 1) (v := co p.2) (by rw [List.getElem?_map, g2.2]; rfl)
    exact this
  · simp only [val_nd]
    rw [show ((prs ks).zipIdx).map Prod.fst = prs ks from List.zipIdx_map_fst _ _]
  · rintro s ⟨_, h1, h2⟩
    exact ⟨s.F, _, _, _, _, _, _, rfl, rfl, h1, h2, rfl⟩
  · rintro ⟨⟨⟨u, n⟩, ⟨v, m⟩⟩, i⟩ l ⟨F, w3, w4, w5, w6, w7, w8⟩ ⟨hl, hF, hv⟩
    obtain ⟨g1, g2, ⟨zu, zn⟩, ⟨zv, zm⟩, huv⟩ := hl _ List.mem_cons_self
    have hl' := fun t m => hl t (List.mem_cons_of_mem _ m)
    simp only at g1 g2 zu zn zv zm huv hF hv ⊢
    simp only [co] at g1 g2
    rw [List.map_cons] at hv
    have o1 := ok_gap (ok_nd zd) (ok_nd zu)
    have o2 := ok_gap (ok_nd zv) (ok_nd zd)
    have o3 := ok_gap (ok_nd zv) (ok_nd zu)
    have o4 := ok_gap (ok_nd zm) (ok_nd zn)
    have b1 := r_gap (ok_nd zd) (ok_nd zu) (by omega) k S
    have b2 := r_gap (ok_nd zv) (ok_nd zd) (by omega) k S
    have b3 := r_gap (ok_nd zv) (ok_nd zu) (by omega) k S
    have b4 := r_gap (ok_nd zm) (ok_nd zn) (by omega) k S
    have v1 := val_gap (ok_nd zd) (ok_nd zu)
    have v2 := val_gap (ok_nd zv) (ok_nd zd)
    have v3 := val_gap (ok_nd zv) (ok_nd zu)
    have v4 := val_gap (ok_nd zm) (ok_nd zn)
    simp only [← fr_nd, val_nd] at b1 b2 b3 b4 v1 v2 v3 v4
    generalize gapP2 (nd d) (nd u) = G1 at *
    generalize gapP2 (nd v) (nd d) = G2 at *
    generalize gapP2 (nd v) (nd u) = G3 at *
    generalize gapP2 (nd m) (nd n) = G4 at *
    by_cases hu : u ≤ d
    · have t1 : 0 ≤ G1.1 := (val_nonneg o1).mp (by rw [v1]; grind)
      have t3 : 0 < G3.1 := (val_pos o3).mp (by rw [v3]; grind)
      have go : ∀ X : P2, Ok 1101 X → ∃ Y Z R, run T (k + 1) "_law_by" [.d (pr G4), .d (pr X)] S = some (.d (pr Y), S) ∧ run T (k + 1) "_law_per" [.d (pr Y), .d (pr G3)] S = some (.d (pr Z), S) ∧ run T (k + 1) "_law_sum" [.d (fr n), .d (pr Z)] S = some (.d (pr R), S) ∧ Ok 4000 R ∧ val R = n + (m - n) * val X / (v - u) := by
        intro X oX
        have oY := ok_by o4 oX
        have oZ := ok_per oY o3 t3
        refine ⟨_, _, _, r_by o4 oX (by omega) k S, r_per oY o3 (by omega) t3 k S, r_sum (ok_nd zn) oZ (by omega) k S, (ok_sum (ok_nd zn) oZ).mono (by omega), ?_⟩
        rw [val_sum (ok_nd zn) oZ, val_per, val_by, val_nd, v4, v3]
      by_cases hd : d < v
      · have t2 : 0 < G2.1 := (val_pos o2).mp (by rw [v2]; grind)
        obtain ⟨Y, Z, R, f1, f2, f3, oR, vR⟩ := go G1 (o1.mono (by omega))
        refine .nx' ⟨R, some (.d (.int (i : Nat))), some (.d (pr G1)), some (.d (fr u)), some (.d (fr n)), some (.d (fr v)), some (.d (fr m))⟩ ⟨hl', oR, ?_⟩ ?_
        · rw [← hv]
          show _ = alongP _ _ (if u ≤ d then n + (m - n) * (if d < v then d - u else v - u) / (v - u) else _)
          rw [if_pos hu, if_pos hd, vR, v1]
        · simp [g1, g2, b1, b2, b3, b4, t1, t2, f1, f2, f3]
      · have t2 : ¬ 0 < G2.1 := fun e => by have := (val_pos o2).mpr e; rw [v2] at this; grind
        obtain ⟨Y, Z, R, f1, f2, f3, oR, vR⟩ := go G3 (o3.mono (by omega))
        refine .nx' ⟨R, some (.d (.int (i : Nat))), some (.d (pr G3)), some (.d (fr u)), some (.d (fr n)), some (.d (fr v)), some (.d (fr m))⟩ ⟨hl', oR, ?_⟩ ?_
        · rw [← hv]
          show _ = alongP _ _ (if u ≤ d then n + (m - n) * (if d < v then d - u else v - u) / (v - u) else _)
          rw [if_pos hu, if_neg hd, vR, v3]
        · simp [g1, g2, b1, b2, b3, b4, t1, t2, f1, f2, f3]
    · have t1 : ¬ 0 ≤ G1.1 := fun e => by have := (val_nonneg o1).mpr e; rw [v1] at this; grind
      refine .nx' ⟨F, some (.d (.int (i : Nat))), w4, some (.d (fr u)), some (.d (fr n)), some (.d (fr v)), some (.d (fr m))⟩ ⟨hl', hF, ?_⟩ ?_
      · rw [← hv]
        show _ = alongP _ _ (if u ≤ d then _ else val F)
        rw [if_neg hu]
      · simp [g1, g2, b1, t1]
  · rintro fl ρ S' ⟨F, w3, w4, w5, w6, w7, w8, rfl, rfl, h1, h2, rfl⟩
    rw [← hP]
    exact ⟨F, h1, h2, by simp⟩
end Prog

/-! M6: the law's tests of the roads. -/
namespace Prog
open PySem PySem.Spec PyProof.Rows L2 PD
theorem asc_nonneg : ∀ (r : List Cr) (last : Cr), 0 ≤ last.1 → (∀ p ∈ prs (last :: r), p.1.1 < p.2.1) → ∀ c ∈ last :: r, 0 ≤ c.1
  | [], last, h0, _, c, m => by rw [List.mem_singleton.mp m]; exact h0
  | b :: r, last, h0, h, c, m => by
    have h1 : last.1 < b.1 := h (last, b) List.mem_cons_self
    rcases List.mem_cons.mp m with rfl | m
    · exact h0
    · exact asc_nonneg r b (by grind) (fun p m => h p (List.mem_cons_of_mem _ m)) c m
theorem Kd.nonneg {n : Nat} {ks : List Cr} (h : Kd n ks) : ∀ c ∈ ks, 0 ≤ c.1 := by
  obtain ⟨r, hr⟩ := h.head
  have a := h.asc
  subst hr
  exact asc_nonneg r (0, 0) (by grind) a
def bares (ks js : List Cr) : List Rat := ((ks ++ js).map Prod.fst).filter fun d => decide (Bare ks js d)
theorem bare_head (ks js : List Cr) : bare ks js = (bares ks js).head? := by unfold bare bares; rw [List.head?_filter]
/-- what is below on the law's own road -/
theorem r_less {ks js : List Cr} {d : Rat} (k : Nat) (h : Kd 330 ks) (g : Kd 330 js) (zd : Sz 330 d) (h0 : 0 ≤ d) (h1 : ¬ fullD ks < d) (h2 : ¬ fullD js < d) (S : Sto) : ∃ F G L, run T (k + 2) "_law_along" [.d (kd ks), .d (fr d)] S = some (.d F, S) ∧ run T (k + 2) "_law_along" [.d (kd js), .d (fr d)] S = some (.d G, S) ∧ run T (k + 2) "_law_gap" [.d F, .d G] S = some (.d (pr L), S) ∧ (L.1 < 0 ↔ flow ks d < flow js d) := by
  obtain ⟨F, oF, vF, rF⟩ := r_along k h zd S
  obtain ⟨G, oG, vG, rG⟩ := r_along k g zd S
  rw [along_flow h h0 h1] at vF
  rw [along_flow g h0 h2] at vG
  refine ⟨_, _, _, rF, rG, r_gap oF oG (by omega) (k + 1) S, ?_⟩
  rw [← val_neg (ok_gap oF oG), val_gap oF oG, vF, vG]
  grind
theorem r_full {ks : List Cr} {d : Rat} (k : Nat) (h : Kd 330 ks) (zd : Sz 330 d) (S : Sto) : ∃ L, run T (k + 1) "_law_gap" [.d (fr (ks.getLast?.getD (0, 0)).1), .d (fr d)] S = some (.d (pr L), S) ∧ (0 ≤ L.1 ↔ ¬ fullD ks < d) ∧ (L.1 < 0 ↔ fullD ks < d) := by
  have b := r_gap (ok_nd h.fullsz) (ok_nd zd) (by omega) k S
  have v := val_gap (ok_nd h.fullsz) (ok_nd zd)
  have o := ok_gap (ok_nd h.fullsz) (ok_nd zd)
  simp only [val_nd] at v
  refine ⟨_, b, ?_, ?_⟩
  · rw [← val_nonneg o, v]; constructor <;> intro _ <;> grind
  · rw [← val_neg o, v]; constructor <;> intro _ <;> grind
theorem r_law_bare {ks js : List Cr} (k : Nat) (h : Kd 330 ks) (g : Kd 330 js) (S : Sto) : run T (k + 3) "_law_bare" [.d (kd ks), .d (kd js)] S = some (.d (.list ((bares ks js).map fr)), S) := by
  have l1 := h.len12
  have l2 := g.len12
  have ln : ks.length + js.length ≤ 100000 := by omega
  have szs : ∀ c ∈ ks ++ js, CSz 330 c := fun c m => (List.mem_append.mp m).elim (h.size c) (g.size c)
  have nns : ∀ c ∈ ks ++ js, 0 ≤ c.1 := fun c m => (List.mem_append.mp m).elim (h.nonneg c) (g.nonneg c)
  have e1 : ks.map co ++ js.map co = (ks ++ js).map co := List.map_append.symm
  have hal : (ks ++ js).length ≤ 24 := by simp; omega
  have hb : bares ks js = ((ks ++ js).map Prod.fst).filter fun d => decide (Bare ks js d) := rfl
  generalize bares ks js = bs at hb
  generalize ks ++ js = al at *
  rw [u_L_bare, x_run]
  simp [b_L_bare, startR, Option.bind_assoc, kd, ln, e1]
  refine forN_bind (fun o => o = some (W.d (.list (bs.map fr)), S)) co (fun s : List Rat × Option W × Option W => [some (.d (.tuple (ks.map co))), some (.d (.tuple (js.map co))), some (.m S.length), s.2.1, s.2.2]) (fun s => S ++ [some (s.1.map fr)])
    (fun l s => (∀ c ∈ l, CSz 330 c ∧ 0 ≤ c.1) ∧ s.1 ++ ((l.map Prod.fst).filter fun d => decide (Bare ks js d)) = bs ∧ s.1.length + l.length ≤ 24)
    (fun fl ρ S' => ∃ w3 w4, fl = .nx ∧ S' = S ++ [some (bs.map fr)] ∧ ρ = [some (.d (.tuple (ks.map co))), some (.d (.tuple (js.map co))), some (.m S.length), w3, w4]) al ([], none, none) ⟨fun c m => ⟨szs c m, nns c m⟩, by simp [hb], by simpa using hal⟩ rfl rfl ?_ ?_ ?_
  · rintro ⟨b, w3, w4⟩ ⟨_, h1, _⟩
    simp at h1
    subst h1
    exact ⟨_, _, rfl, rfl, rfl⟩
  · rintro ⟨d, f⟩ l ⟨b, w3, w4⟩ ⟨h1, h2, h3⟩
    obtain ⟨⟨zd, zf⟩, d0⟩ := h1 _ List.mem_cons_self
    have h1' := fun t m => h1 t (List.mem_cons_of_mem _ m)
    simp only at zd d0 h2 h3 ⊢
    rw [List.map_cons, List.filter_cons] at h2
    simp only [List.length_cons] at h3
    have m1 := at_lastD h.ne
    have m2 := at_lastD g.ne
    obtain ⟨A, fA, iA, _⟩ := r_full (k + 1) h zd (S ++ [some (b.map fr)])
    obtain ⟨B, fB, iB, _⟩ := r_full (k + 1) g zd (S ++ [some (b.map fr)])
    have go : ¬ Bare ks js d → b ++ ((l.map Prod.fst).filter fun d => decide (Bare ks js d)) = bs := fun hn => by
      rw [decide_eq_false hn] at h2; simpa using h2
    by_cases c1 : fullD ks < d
    · have c1' : ¬ 0 ≤ A.1 := fun e => iA.mp e c1
      refine .nx' (b, some (.d (fr d)), some (.d (fr f))) ⟨h1', go fun hB => hB.1 c1, by simp only; omega⟩ ?_
      simp [m1, m2, co, fA, c1']
    · have c1' : 0 ≤ A.1 := iA.mpr c1
      by_cases c2 : fullD js < d
      · have c2' : ¬ 0 ≤ B.1 := fun e => iB.mp e c2
        refine .nx' (b, some (.d (fr d)), some (.d (fr f))) ⟨h1', go fun hB => hB.2.1 c2, by simp only; omega⟩ ?_
        simp [m1, m2, co, fA, fB, c1', c2']
      · have c2' : 0 ≤ B.1 := iB.mpr c2
        obtain ⟨F, G, L, rF, rG, rL, iL⟩ := r_less k h g zd d0 c1 c2 (S ++ [some (b.map fr)])
        simp only [kd] at rF rG
        by_cases c3 : flow ks d < flow js d
        · have c3' : L.1 < 0 := iL.mpr c3
          rw [decide_eq_true (show Bare ks js d from ⟨c1, c2, c3⟩)] at h2
          have hbl : b.length < 100000 := by omega
          refine .nx' (b ++ [d], some (.d (fr d)), some (.d (fr f))) ⟨h1', by simpa using h2, by simp only [List.length_append, List.length_singleton]; omega⟩ ?_
          simp [m1, m2, co, fA, fB, c1', c2', rF, rG, rL, c3', hbl]
        · have c3' : ¬ L.1 < 0 := fun e => c3 (iL.mp e)
          refine .nx' (b, some (.d (fr d)), some (.d (fr f))) ⟨h1', go fun hB => c3 hB.2.2, by simp only; omega⟩ ?_
          simp [m1, m2, co, fA, fB, c1', c2', rF, rG, rL, c3']
  · rintro fl ρ S' ⟨w3, w4, rfl, rfl, rfl⟩
    simp
theorem r_law_is_fraction {q : Rat} (k : Nat) (zq : Sz 330 q) (S : Sto) : run T (k + 2) "_law_is_fraction" [.d (fr q)] S = some (.d (.bool true), S) := by
  have hc := r_cut k (n := 330) (a := q.num) (b := q.den) (by have := q.den_pos; omega) zq.1 zq.2 (by omega) S
  rw [Rat.num_divInt_den] at hc
  have hd : ¬ (q.den : Int) ≤ 0 := by have := q.den_pos; omega
  have e := eqP_fr q
  have hd2 : q.den ≠ 0 := q.den_nz
  rw [u_L_is_fraction]
  refine run_ret (ρ := [some (.d (fr q)), none]) ?_
  simp only [fr] at hc e ⊢
  simp [b_L_is_fraction, startR, x_lc, x_lcN, wipeR, hc, hd, hd2, e]
end Prog

/-! M7: kin of a kind. -/
namespace Prog
open PySem PySem.Spec PyProof.Rows L2 PD
theorem Kd.mono {n m : Nat} {ks : List Cr} (h : Kd n ks) (l : n ≤ m) : Kd m ks := ⟨h.len3, h.len12, fun c i => ⟨(h.size c i).1.mono l, (h.size c i).2.mono l⟩, h.head, h.last, h.pos, h.asc, h.conc⟩
theorem prs_map {α β : Type} (f : α → β) : ∀ l : List α, prs (l.map f) = (prs l).map fun p => (f p.1, f p.2)
  | [] => rfl
  | [_] => rfl
  | x :: y :: r => by
    show (f x, f y) :: prs ((y :: r).map f) = _
    rw [prs_map f (y :: r)]; rfl
theorem rlt_trans {a b c : Rat} (h : a < b) (g : b < c) : a < c := by grind
theorem prs_pairwise {α : Type} {R : α → α → Prop} (tr : ∀ a b c, R a b → R b c → R a c) : ∀ {l : List α}, (∀ p ∈ prs l, R p.1 p.2) ↔ l.Pairwise R
  | [] => by simp [prs]
  | [x] => by simp [prs]
  | x :: y :: r => by
    have ih := prs_pairwise (R := R) tr (l := y :: r)
    show (∀ p ∈ (x, y) :: prs (y :: r), R p.1 p.2) ↔ _
    rw [List.forall_mem_cons, ih, List.pairwise_cons (a := x)]
    constructor
    · rintro ⟨h1, h2⟩
      refine ⟨fun z m => ?_, h2⟩
      rcases List.mem_cons.mp m with rfl | m
      · exact h1
      · exact tr _ _ _ h1 ((List.pairwise_cons.mp h2).1 z m)
    · rintro ⟨h1, h2⟩
      exact ⟨h1 y List.mem_cons_self, h2⟩
theorem prs_app {α : Type} : ∀ (A : List α) (a : α) (B : List α), prs (A ++ a :: B) = prs (A ++ [a]) ++ prs (a :: B)
  | [], a, B => rfl
  | [x], a, B => rfl
  | x :: y :: A, a, B => by
    have := prs_app (y :: A) a B
    show (x, y) :: prs ((y :: A) ++ a :: B) = (x, y) :: (prs ((y :: A) ++ [a]) ++ prs (a :: B))
    rw [this]
theorem speeds_app (A : List Cr) (a : Cr) (B : List Cr) : speeds (A ++ a :: B) = speeds (A ++ [a]) ++ speeds (a :: B) := by
  unfold speeds; rw [prs_app, List.map_append]
/-- flows by a part -/
theorem Kd.flows {n m : Nat} {ks : List Cr} {w : Rat} (h : Kd n ks) (w0 : 0 < w) (zw : Sz m w) : Kd (n + m) (ks.map fun c => (c.1, c.2 * w)) := by
  have wn : w ≠ 0 := by grind
  have sp : speeds (ks.map fun c => (c.1, c.2 * w)) = (speeds ks).map fun v => v * w := by
    unfold speeds
    rw [prs_map, List.map_map, List.map_map]
    refine List.map_congr_left fun p m => ?_
    have := h.asc p m
    have : p.2.1 - p.1.1 ≠ 0 := by grind
    simp only [Function.comp, slope]
    grind
  refine ⟨by rw [List.length_map]; exact h.len3, by rw [List.length_map]; exact h.len12, ?_, ?_, ?_, ?_, ?_, ?_⟩
  · intro c m
    obtain ⟨b, m', rfl⟩ := List.mem_map.mp m
    have := h.size b m'
    exact ⟨this.1.mono (by omega), sz_mul this.2 zw⟩
  · obtain ⟨r, rfl⟩ := h.head
    exact ⟨r.map fun c => (c.1, c.2 * w), by rw [List.map_cons]; simp only; rw [Rat.zero_mul]⟩
  · obtain ⟨r, d, rfl⟩ := h.last
    exact ⟨r.map fun c => (c.1, c.2 * w), d, by rw [List.map_append, List.map_singleton]; simp only; rw [Rat.zero_mul]⟩
  · intro c m
    rw [← List.map_tail, ← List.map_dropLast] at m
    obtain ⟨b, m', rfl⟩ := List.mem_map.mp m
    exact Rat.mul_pos (h.pos b m') w0
  · intro p m
    rw [prs_map] at m
    obtain ⟨b, m', rfl⟩ := List.mem_map.mp m
    exact h.asc b m'
  · intro p m
    rw [sp, prs_map] at m
    obtain ⟨b, m', rfl⟩ := List.mem_map.mp m
    have := h.conc b m'
    exact (Rat.mul_lt_mul_right w0).mpr this
/-- densities by a part -/
theorem Kd.densities {n m : Nat} {ks : List Cr} {w : Rat} (h : Kd n ks) (w0 : 0 < w) (zw : Sz m w) : Kd (n + m) (ks.map fun c => (c.1 * w, c.2)) := by
  have wn : w ≠ 0 := by grind
  have i0 : 0 < w⁻¹ := Rat.inv_pos.mpr w0
  have sp : speeds (ks.map fun c => (c.1 * w, c.2)) = (speeds ks).map fun v => v * w⁻¹ := by
    unfold speeds
    rw [prs_map, List.map_map, List.map_map]
    refine List.map_congr_left fun p m => ?_
    have := h.asc p m
    have : p.2.1 - p.1.1 ≠ 0 := by grind
    simp only [Function.comp, slope]
    grind
  refine ⟨by rw [List.length_map]; exact h.len3, by rw [List.length_map]; exact h.len12, ?_, ?_, ?_, ?_, ?_, ?_⟩
  · intro c m
    obtain ⟨b, m', rfl⟩ := List.mem_map.mp m
    have := h.size b m'
    exact ⟨sz_mul this.1 zw, this.2.mono (by omega)⟩
  · obtain ⟨r, rfl⟩ := h.head
    exact ⟨r.map fun c => (c.1 * w, c.2), by rw [List.map_cons]; simp only; rw [Rat.zero_mul]⟩
  · obtain ⟨r, d, rfl⟩ := h.last
    exact ⟨r.map fun c => (c.1 * w, c.2), d * w, by rw [List.map_append, List.map_singleton]⟩
  · intro c m
    rw [← List.map_tail, ← List.map_dropLast] at m
    obtain ⟨b, m', rfl⟩ := List.mem_map.mp m
    exact h.pos b m'
  · intro p m
    rw [prs_map] at m
    obtain ⟨b, m', rfl⟩ := List.mem_map.mp m
    exact (Rat.mul_lt_mul_right w0).mpr (h.asc b m')
  · intro p m
    rw [sp, prs_map] at m
    obtain ⟨b, m', rfl⟩ := List.mem_map.mp m
    exact (Rat.mul_lt_mul_right i0).mpr (h.conc b m')
theorem chord {a b c : Cr} (h1 : a.1 < b.1) (h2 : b.1 < c.1) (h : slope b c < slope a b) : slope b c < slope a c ∧ slope a c < slope a b := by
  have e1 : b.2 - a.2 = slope a b * (b.1 - a.1) := by unfold slope; rw [Rat.div_mul_cancel (by grind)]
  have e2 : c.2 - b.2 = slope b c * (c.1 - b.1) := by unfold slope; rw [Rat.div_mul_cancel (by grind)]
  have e3 : c.2 - a.2 = slope a c * (c.1 - a.1) := by unfold slope; rw [Rat.div_mul_cancel (by grind)]
  generalize slope a b = s at *
  generalize slope b c = t at *
  generalize slope a c = v at *
  have k : v * (c.1 - a.1) = s * (b.1 - a.1) + t * (c.1 - b.1) := by grind
  have p1 : 0 < (s - t) * (b.1 - a.1) := Rat.mul_pos (by grind) (by grind)
  have p2 : 0 < (s - t) * (c.1 - b.1) := Rat.mul_pos (by grind) (by grind)
  have ca : 0 < c.1 - a.1 := by grind
  constructor
  · have : t * (c.1 - a.1) < v * (c.1 - a.1) := by grind
    exact (Rat.mul_lt_mul_right ca).mp this
  · have : v * (c.1 - a.1) < s * (c.1 - a.1) := by grind
    exact (Rat.mul_lt_mul_right ca).mp this
theorem Kd.drop {n : Nat} {A C : List Cr} {a b c : Cr} (h : Kd n (A ++ a :: b :: c :: C)) (l : 1 ≤ A.length + C.length) : Kd n (A ++ a :: c :: C) := by
  have hlen := h.len12
  simp only [List.length_append, List.length_cons] at hlen
  have ab : a.1 < b.1 := h.asc (a, b) (by rw [prs_app]; exact List.mem_append_right _ List.mem_cons_self)
  have bc : b.1 < c.1 := h.asc (b, c) (by rw [prs_app]; exact List.mem_append_right _ (List.mem_cons_of_mem _ List.mem_cons_self))
  have sub : ∀ x, x ∈ A ++ a :: c :: C → x ∈ A ++ a :: b :: c :: C := fun x m => by simp at m ⊢; grind
  have cc := (prs_pairwise (R := fun x y : Rat => y < x) (fun _ _ _ h g => rlt_trans g h)).mp h.conc
  rw [speeds_app] at cc
  have e1 : speeds (a :: b :: c :: C) = slope a b :: slope b c :: speeds (c :: C) := rfl
  have e2 : speeds (a :: c :: C) = slope a c :: speeds (c :: C) := rfl
  rw [e1, List.pairwise_append, List.pairwise_cons, List.pairwise_cons] at cc
  obtain ⟨q1, ⟨q2, q3, q4⟩, q5⟩ := cc
  obtain ⟨k1, k2⟩ := chord ab bc (q2 _ List.mem_cons_self)
  refine ⟨by simp only [List.length_append, List.length_cons]; omega, by simp only [List.length_append, List.length_cons]; omega, fun x m => h.size x (sub x m), ?_, ?_, ?_, ?_, ?_⟩
  · obtain ⟨r, e⟩ := h.head
    cases A with
    | nil => exact ⟨c :: C, by rw [List.nil_append] at e ⊢; rw [(List.cons.inj e).1]⟩
    | cons x A => exact ⟨A ++ a :: c :: C, by rw [List.cons_append] at e ⊢; rw [(List.cons.inj e).1]⟩
  · obtain ⟨r, d, e⟩ := h.last
    have gl : (A ++ a :: b :: c :: C).getLast? = some (d, 0) := by rw [e]; simp
    have gl2 : (A ++ a :: c :: C).getLast? = some (d, 0) := by
      rw [← gl]; simp
    obtain ⟨r', e'⟩ := List.getLast?_eq_some_iff.mp gl2
    exact ⟨r', d, e'⟩
  · intro x m
    refine h.pos x ?_
    cases A with
    | nil =>
      simp only [List.nil_append, List.tail_cons] at m ⊢
      rw [List.dropLast_cons_of_ne_nil (by simp)]
      exact List.mem_cons_of_mem _ m
    | cons y A =>
      simp only [List.cons_append, List.tail_cons] at m ⊢
      rw [List.dropLast_append_of_ne_nil (by simp)] at m ⊢
      rw [List.dropLast_cons_of_ne_nil (by simp)] at m ⊢
      rw [List.dropLast_cons_of_ne_nil (by simp)]
      simp only [List.mem_append, List.mem_cons] at m ⊢
      grind
  · refine (prs_pairwise (R := fun x y : Cr => x.1 < y.1) (fun _ _ _ h g => rlt_trans h g)).mpr ?_
    have := (prs_pairwise (R := fun x y : Cr => x.1 < y.1) (fun _ _ _ h g => rlt_trans h g)).mp h.asc
    refine this.sublist ?_
    refine List.Sublist.append_left ?_ A
    exact .cons₂ _ (.cons _ (List.Sublist.refl _))
  · refine (prs_pairwise (R := fun x y : Rat => y < x) (fun _ _ _ h g => rlt_trans g h)).mpr ?_
    rw [speeds_app, e2, List.pairwise_append, List.pairwise_cons]
    refine ⟨q1, ⟨fun v m => rlt_trans (q3 v m) k1, q4⟩, fun x m y m2 => ?_⟩
    have x1 := q5 x m _ List.mem_cons_self
    rcases List.mem_cons.mp m2 with rfl | m2
    · exact rlt_trans k2 x1
    · exact q5 x m y (List.mem_cons_of_mem _ (List.mem_cons_of_mem _ m2))
theorem split_at {α : Type} (l : List α) (i : Nat) (h1 : 1 ≤ i) (h2 : i + 1 < l.length) : ∃ A a b c C, l = A ++ a :: b :: c :: C ∧ l.take i ++ l.drop (i + 1) = A ++ a :: c :: C ∧ A.length + C.length + 3 = l.length := by
  refine ⟨l.take (i - 1), l[i - 1], l[i], l[i + 1], l.drop (i + 2), ?_, ?_, ?_⟩
  · conv => lhs; rw [← List.take_append_drop (i - 1) l]
    congr 1
    rw [List.drop_eq_getElem_cons (show i - 1 < l.length by omega)]
    congr 1
    rw [show i - 1 + 1 = i by omega, List.drop_eq_getElem_cons (show i < l.length by omega)]
    congr 1
    rw [List.drop_eq_getElem_cons (show i + 1 < l.length by omega)]
  · have e : l.take i = l.take (i - 1) ++ [l[i - 1]] := by
      have := List.take_append_getElem (l := l) (i := i - 1) (by omega)
      rw [show i - 1 + 1 = i by omega] at this
      exact this.symm
    rw [e, List.append_assoc, List.drop_eq_getElem_cons h2]
    rfl
  · simp; omega
theorem r_kin {m : Nat} (k : Nat) {t : Dice} {ks : List Cr} (h : Dok m t) (hm : m < 800000) (g : Kd 320 ks) (S0 : Sto) : ∃ js t', Kd 330 js ∧ Dok (m + 70) t' ∧ run T (k + 4) "_law_kin" [.m S0.length, .d (kd ks)] (S0 ++ [cellD t]) = some (.d (kd js), S0 ++ [cellD t']) := by
  have l3 := g.len3
  have l12 := g.len12
  obtain ⟨d1, t1, d10, d11, h1, e1⟩ := r_tap (k + 2) h (by omega) 6 (by omega) (by omega) S0 []
  obtain ⟨d2, t2, d20, d21, h2, e2⟩ := r_tap (k + 2) h1 (by omega) 7 (by omega) (by omega) S0 []
  obtain ⟨c1, zw⟩ := r_cut2 (n := 3) (k + 2) (a := 1 + d2) (b := 4) (by omega) (by omega) (by omega) (by omega) (S0 ++ [cellD t2])
  have w0 : 0 < Rat.divInt (1 + d2) 4 := divInt_pos' (by omega) (by omega)
  generalize Rat.divInt (1 + d2) 4 = w at c1 zw w0
  have lk : ks.length ≤ 100000 := by omega
  by_cases y0 : d1 = 0
  · subst y0
    refine ⟨_, t2, (g.flows w0 zw).mono (by omega), h2.mono (by omega), ?_⟩
    rw [u_L_kin, x_run]
    simp [b_L_kin, startR, Option.bind_assoc, e1, e2, c1, kd, x_lc, wipeR, lk]
    rw [lcN_each co (fun c => [some (.m S0.length), some (.d (.tuple (ks.map co))), some (.d (.int 0)), some (.d (fr w)), none, some (.d (fr c.1)), some (.d (fr c.2))]) (fun c => co (c.1, c.2 * w)) ks (fun c m => by simp [co]) (fun c m => by
      have z := g.size c m
      have b1 := r_by (ok_nd z.2) (ok_nd zw) (by omega) (k + 2) (S0 ++ [cellD t2])
      have b2 := r_even (ok_by (ok_nd z.2) (ok_nd zw)) (by omega) (k + 1) (S0 ++ [cellD t2])
      rw [val_by, val_nd, val_nd] at b2
      simp only [← fr_nd] at b1
      simp [b1, b2, co])]
    simp
  · by_cases y1 : d1 = 1
    · subst y1
      refine ⟨_, t2, (g.densities w0 zw).mono (by omega), h2.mono (by omega), ?_⟩
      rw [u_L_kin, x_run]
      simp [b_L_kin, startR, Option.bind_assoc, e1, e2, c1, kd, x_lc, wipeR, lk]
      rw [lcN_each co (fun c => [some (.m S0.length), some (.d (.tuple (ks.map co))), some (.d (.int 1)), some (.d (fr w)), none, some (.d (fr c.1)), some (.d (fr c.2))]) (fun c => co (c.1 * w, c.2)) ks (fun c m => by simp [co]) (fun c m => by
        have z := g.size c m
        have b1 := r_by (ok_nd z.1) (ok_nd zw) (by omega) (k + 2) (S0 ++ [cellD t2])
        have b2 := r_even (ok_by (ok_nd z.1) (ok_nd zw)) (by omega) (k + 1) (S0 ++ [cellD t2])
        rw [val_by, val_nd, val_nd] at b2
        simp only [← fr_nd] at b1
        simp [b1, b2, co])]
      simp
    · have rest : (d1 = 3 → ∃ js t', Kd 330 js ∧ Dok (m + 70) t' ∧ run T (k + 4) "_law_kin" [.m S0.length, .d (kd ks)] (S0 ++ [cellD t]) = some (.d (kd js), S0 ++ [cellD t'])) := by
        rintro rfl
        refine ⟨ks, t2, g.mono (by omega), h2.mono (by omega), ?_⟩
        rw [u_L_kin, x_run]
        simp [b_L_kin, startR, Option.bind_assoc, e1, e2, c1, kd]
      by_cases y3 : d1 = 3
      · exact rest y3
      · by_cases y2 : d1 = 2 ∧ (3 : Int) < ks.length
        · obtain ⟨rfl, hl⟩ := y2
          obtain ⟨d3, t3, d30, d31, h3, e3⟩ := r_tap (k + 2) h2 (by omega) ((ks.length : Int) - 2) (by omega) (by omega) S0 []
          obtain ⟨i, hi⟩ : ∃ i : Nat, 1 + d3 = (i : Nat) := ⟨(1 + d3).toNat, by omega⟩
          obtain ⟨A, a, b, c, C, s1, s2, s3⟩ := split_at ks i (by omega) (by omega)
          have ct := cut_to (ks.map co) i
          have cf := cut_of (ks.map co) (i + 1)
          have hii : (i : Int) + 1 = ((i + 1 : Nat) : Int) := by omega
          have kd' := (s1 ▸ g : Kd 320 (A ++ a :: b :: c :: C)).drop (by omega)
          rw [← s2] at kd'
          refine ⟨_, t3, kd'.mono (by omega), h3.mono (by omega), ?_⟩
          have ll : (List.take i ks).length + (List.drop (i + 1) ks).length ≤ 100000 := by simp; omega
          rw [u_L_kin, x_run]
          simp [b_L_kin, startR, Option.bind_assoc, e1, e2, c1, kd, hl, e3, hi]
          rw [hii, cf, ct]
          simp at ll
          simp [ll]
        · obtain ⟨js, t3, gk, h3, e3⟩ := r_law_kind k h2 (by omega) S0
          refine ⟨js, t3, gk.mono (by omega), h3.mono (by omega), ?_⟩
          have y2' : d1 = 2 → ks.length ≤ 3 := fun e => by
            have : ¬ (3 : Int) < ks.length := fun e2 => y2 ⟨e, e2⟩
            omega
          rw [u_L_kin, x_run]
          simp only [kd] at e3 ⊢
          by_cases y22 : d1 = 2
          · have := y2' y22
            have n3 : ¬ (3 : Int) < ks.length := by omega
            subst y22
            simp [b_L_kin, startR, Option.bind_assoc, e1, e2, c1, n3, e3]
          · simp [b_L_kin, startR, Option.bind_assoc, e1, e2, c1, y0, y1, y22, y3, e3]
end Prog

/-! M8: the cask. -/
namespace Prog
open PySem PySem.Spec PyProof.Rows L2 PD
theorem r_cask (k : Nat) (ns : List Int) (turn : Nat) (ht : turn < 1000) (S : Sto) : ∃ t, Dok 0 t ∧ run T (k + 1) "_law_cask" [.d (.list (ns.map PyData.int)), .d (.int turn)] S = some (.m S.length, S ++ [cellD t]) := by
  obtain ⟨own, hown⟩ : ∃ own : Int, ∀ ρ : Rho, ρ[0]? = some (some (.d (.list (ns.map PyData.int)))) → ρ[1]? = some (some (.d (.int turn))) → ifE (valB (binE (pf2 ltP) (varE 1) (appE (pfN lenP) (consL (varE 0) nilL)))) (appE (pfN intP) (consL (binE (pf2 ixP) (varE 0) (varE 1)) nilL)) (binE (pf2 addP) (binE (pf2 mulP) (constE (.int 31)) (varE 1)) (constE (.int 7))) ρ S = some (.d (.int own), S) := by
    by_cases h : turn < ns.length
    · refine ⟨ns[turn], fun ρ h0 h1 => ?_⟩
      have a : atI (ns.map PyData.int) (turn : Int) = some (.int ns[turn]) := atI_nat (by rw [List.getElem?_map, List.getElem?_eq_getElem h]; rfl)
      simp [h0, h1, h, a]
    · refine ⟨31 * turn + 7, fun ρ h0 h1 => ?_⟩
      have : mulOk 31 turn = true := mulOk_small (by omega) (by omega)
      simp [h0, h1, h, this]
  have ct := cut_to (ns.map PyData.int) 9
  rw [← List.map_take] at ct
  have ct' : cutP (ns.map PyData.int) none (some 9) = (ns.take 9).map PyData.int := ct
  have k0 : mulOk 6007 turn = true := mulOk_small (by omega) (by omega)
  rw [u_L_cask, x_run]
  refine (?_ : (fun o => ∃ t, Dok 0 t ∧ o = some (W.m S.length, S ++ [cellD t])) _)
  generalize hP : (fun o => ∃ t, Dok 0 t ∧ o = some (W.m S.length, S ++ [cellD t])) = P
  unfold b_L_cask
  rw [x_seq, x_asg, hown _ rfl rfl]
  simp [startR, Option.bind_assoc, ct', k0]
  rw [← List.map_take]
  refine forN_bind P PyData.int (fun s : Int × Option W => [some (.d (.list (ns.map PyData.int))), some (.d (.int turn)), some (.d (.int own)), some (.d (.int s.1)), s.2, none]) (fun _ => S)
    (fun l s => 0 ≤ s.1 ∧ s.1 < 2 ^ 40)
    (fun fl ρ S' => ∃ (a : Int) (w : Option W), 0 ≤ a ∧ a < 2 ^ 40 ∧ fl = .nx ∧ S' = S ∧ ρ = [some (.d (.list (ns.map PyData.int))), some (.d (.int turn)), some (.d (.int own)), some (.d (.int a)), w, none]) (ns.take 9) (77017 + 6007 * turn, none) ⟨by simp only; omega, by simp only; omega⟩ rfl rfl ?_ ?_ ?_
  · rintro ⟨a, w⟩ ⟨h1, h2⟩
    exact ⟨a, w, h1, h2, rfl, rfl, rfl⟩
  · rintro z l ⟨a, w⟩ ⟨h1, h2⟩
    simp only at h1 h2
    have k1 : mulOk a 60013 = true := mulOk_small (by omega) (by omega)
    have b := tap_lt (a * 60013 + z.fmod 2147483587 + 19) 2147483629 (by omega)
    refine .nx' ((a * 60013 + z.fmod 2147483587 + 19).fmod 2147483629, some (.d (.int z))) ⟨b.1, by simp only; omega⟩ ?_
    simp [k1]
  · rintro fl ρ S' ⟨a, w, h1, h2, rfl, rfl, rfl⟩
    have b1 := tap_lt own 2147483587 (by omega)
    have k1 : mulOk a 41 = true := mulOk_small (by omega) (by omega)
    have k2 : mulOk (own.fmod 2147483587) 20011 = true := mulOk_small (by omega) (by omega)
    have b2 := tap_lt (a * 41 + own.fmod 2147483587 * 20011) 2147483629 (by omega)
    rw [← hP]
    by_cases n0 : own < 0
    · refine ⟨(-own, (a * 41 + own.fmod 2147483587 * 20011).fmod 2147483629, 0), ⟨b2.1, b2.2, Int.le_refl _, Int.le_refl _⟩, ?_⟩
      simp [k1, k2, n0, cellD, leave]
    · by_cases n1 : (10 : Int) ^ 16 ≤ own
      · refine ⟨(own, (a * 41 + own.fmod 2147483587 * 20011).fmod 2147483629, 0), ⟨b2.1, b2.2, Int.le_refl _, Int.le_refl _⟩, ?_⟩
        simp at n1
        simp [k1, k2, n0, n1, cellD, leave, x_pow]
      · refine ⟨(0, (a * 41 + own.fmod 2147483587 * 20011).fmod 2147483629, 0), ⟨b2.1, b2.2, Int.le_refl _, Int.le_refl _⟩, ?_⟩
        simp at n1
        have n1' : ¬ 10000000000000000 ≤ own := by omega
        simp [k1, k2, n0, n1', cellD, leave, x_pow]
theorem lcN_st {α : Type} {g : CG} {elt : CE} {ρ : Rho} (e : α → PyData) (f : α → Rho) (h : α → PyData) : ∀ (l : List α), (∀ x ∈ l, ∀ S, g (.d (e x)) ρ S = some (f x, S)) → (∀ x ∈ l, ∀ S, ∃ S', elt (f x) S = some (.d (h x), S')) → ∀ S, ∃ S', lcN g yesB elt ρ (l.map e) S = some (l.map h, S')
  | [], _, _, S => ⟨S, rfl⟩
  | x :: l, hg, he, S => by
    obtain ⟨S1, e1⟩ := he x List.mem_cons_self S
    obtain ⟨S2, e2⟩ := lcN_st e f h l (fun y m => hg y (List.mem_cons_of_mem _ m)) (fun y m => he y (List.mem_cons_of_mem _ m)) S1
    refine ⟨S2, ?_⟩
    rw [List.map_cons, x_lcN, hg x List.mem_cons_self, Option.bind_some, x_yes, Option.bind_some, if_pos rfl, e1, Option.bind_some]
    show (lcN g yesB elt ρ (l.map e) S1).bind _ = _
    rw [e2]; rfl
end Prog

/-! N1: plain law of the least number over a beginning of one density (for k49). -/
namespace Prog
open PySem PySem.Spec PyProof.Rows L2 PD
def tollL (ks : List Cr) (x t b : Rat) : Rat := ks.foldl (fun b c => if b < c.2 * t - c.1 * x then c.2 * t - c.1 * x else b) b
theorem tollL_ge {x t : Rat} : ∀ (l : List Cr) (b : Rat), b ≤ tollL l x t b ∧ ∀ c ∈ l, c.2 * t - c.1 * x ≤ tollL l x t b
  | [], b => ⟨Rat.le_refl, fun c m => by cases m⟩
  | c :: l, b => by
    have ih := tollL_ge (x := x) (t := t) l (if b < c.2 * t - c.1 * x then c.2 * t - c.1 * x else b)
    have e : tollL (c :: l) x t b = tollL l x t (if b < c.2 * t - c.1 * x then c.2 * t - c.1 * x else b) := rfl
    rw [e]
    refine ⟨?_, fun a m => ?_⟩
    · have := ih.1; split at this <;> grind
    · rcases List.mem_cons.mp m with rfl | m
      · have := ih.1; split at this <;> grind
      · exact ih.2 a m
theorem tollL_le {x t B : Rat} : ∀ (l : List Cr) (b : Rat), b ≤ B → (∀ c ∈ l, c.2 * t - c.1 * x ≤ B) → tollL l x t b ≤ B
  | [], b, h, _ => h
  | c :: l, b, h, hl => by
    show tollL l x t (if b < c.2 * t - c.1 * x then c.2 * t - c.1 * x else b) ≤ B
    refine tollL_le l _ ?_ fun a m => hl a (List.mem_cons_of_mem _ m)
    split
    · exact hl c List.mem_cons_self
    · exact h
theorem prs_split {α : Type} : ∀ {l : List α} {p : α × α}, p ∈ prs l → ∃ A C, l = A ++ p.1 :: p.2 :: C
  | [], _, h => by cases h
  | [_], _, h => by cases h
  | x :: y :: r, p, h => by
    rcases List.mem_cons.mp h with rfl | h
    · exact ⟨[], r, rfl⟩
    · obtain ⟨A, C, e⟩ := prs_split h
      exact ⟨x :: A, C, by rw [e]; rfl⟩
theorem seg_flowL {d : Rat} : ∀ (r : List Cr) (last : Cr), last.1 ≤ d → d ≤ (((last :: r).getLast?).getD (0, 0)).1 → r ≠ [] → ∃ p ∈ prs (last :: r), p.1.1 ≤ d ∧ d ≤ p.2.1 ∧ flowL last r d = p.1.2 + slope p.1 p.2 * (d - p.1.1)
  | [], _, _, _, hn => absurd rfl hn
  | c :: r, last, hd, hf, _ => by
    rw [List.getLast?_cons_cons] at hf
    show ∃ p ∈ (last, c) :: prs (c :: r), _ ∧ _ ∧ (if c.1 < d then flowL c r d else last.2 + slope last c * (d - last.1)) = _
    by_cases hc : c.1 < d
    · obtain ⟨p, m, h1, h2, h3⟩ := seg_flowL r c (by grind) hf (by rintro rfl; simp at hf; grind)
      exact ⟨p, List.mem_cons_of_mem _ m, h1, h2, by rw [if_pos hc]; exact h3⟩
    · exact ⟨(last, c), List.mem_cons_self, hd, by simp only; grind, by rw [if_neg hc]⟩
theorem seg_flow {n : Nat} {ks : List Cr} {d : Rat} (h : Kd n ks) (h0 : 0 ≤ d) (h1 : ¬ fullD ks < d) : ∃ p ∈ prs ks, p.1.1 ≤ d ∧ d ≤ p.2.1 ∧ flow ks d = p.1.2 + slope p.1 p.2 * (d - p.1.1) := by
  obtain ⟨r, hr⟩ := h.head
  have l := h.len3
  subst hr
  unfold fullD at h1
  exact seg_flowL r (0, 0) h0 (by grind) (by rintro rfl; simp at l)
theorem slope_mul {a b : Cr} (h : a.1 < b.1) : slope a b * (b.1 - a.1) = b.2 - a.2 := by unfold slope; rw [Rat.div_mul_cancel (by grind)]
/-- no toll is less than by the flow at any density -/
theorem toll_weak {n : Nat} {ks : List Cr} {d x t : Rat} (h : Kd n ks) (h0 : 0 ≤ d) (h1 : ¬ fullD ks < d) (ht : 0 ≤ t) : flow ks d * t - d * x ≤ tollL ks x t 0 := by
  obtain ⟨⟨a, b⟩, m, h2, h3, h4⟩ := seg_flow h h0 h1
  simp only at h2 h3 h4
  have ab : a.1 < b.1 := h.asc _ m
  have s := slope_mul ab
  have mm := prs_mem m
  have A := (tollL_ge (x := x) (t := t) ks 0).2 a mm.1
  have B := (tollL_ge (x := x) (t := t) ks 0).2 b mm.2
  generalize tollL ks x t 0 = M at *
  have w0 : 0 < b.1 - a.1 := by grind
  have p1 : 0 ≤ (b.1 - d) * (M - (a.2 * t - a.1 * x)) := Rat.mul_nonneg (by grind) (by grind)
  have p2 : 0 ≤ (d - a.1) * (M - (b.2 * t - b.1 * x)) := Rat.mul_nonneg (by grind) (by grind)
  have e : (b.1 - a.1) * (M - (flow ks d * t - d * x)) = (b.1 - d) * (M - (a.2 * t - a.1 * x)) + (d - a.1) * (M - (b.2 * t - b.1 * x)) := by
    rw [h4]
    have : b.2 = a.2 + slope a b * (b.1 - a.1) := by grind
    rw [this]
    grind
  have p3 : 0 ≤ (b.1 - a.1) * (M - (flow ks d * t - d * x)) := by grind
  refine Rat.not_lt.mp fun hlt => ?_
  have p4 := Rat.mul_pos w0 (show 0 < (flow ks d * t - d * x) - M by grind)
  grind
theorem right_of {s : Rat} : ∀ (C : List Cr) (b : Cr), (∀ p ∈ prs (b :: C), p.1.1 < p.2.1) → (∀ v ∈ speeds (b :: C), v ≤ s) → ∀ c ∈ b :: C, c.2 ≤ b.2 + s * (c.1 - b.1)
  | [], b, _, _, c, m => by rw [List.mem_singleton.mp m]; grind
  | e :: C, b, h1, h2, c, m => by
    have be : b.1 < e.1 := h1 (b, e) List.mem_cons_self
    have sb : slope b e ≤ s := h2 _ List.mem_cons_self
    have sm := slope_mul be
    have k : 0 ≤ (s - slope b e) * (e.1 - b.1) := Rat.mul_nonneg (by grind) (by grind)
    rcases List.mem_cons.mp m with rfl | m
    · grind
    · have := right_of C e (fun p m => h1 p (List.mem_cons_of_mem _ m)) (fun v m => h2 v (List.mem_cons_of_mem _ m)) c m
      grind
theorem left_of {s : Rat} (a : Cr) : ∀ (A : List Cr), (∀ p ∈ prs (A ++ [a]), p.1.1 < p.2.1) → (∀ v ∈ speeds (A ++ [a]), s ≤ v) → ∀ c ∈ A ++ [a], c.2 ≤ a.2 + s * (c.1 - a.1)
  | [], _, _, c, m => by rw [List.mem_singleton.mp m]; grind
  | [e], h1, h2, c, m => by
    have be : e.1 < a.1 := h1 (e, a) List.mem_cons_self
    have sb : s ≤ slope e a := h2 _ List.mem_cons_self
    have sm := slope_mul be
    have k : 0 ≤ (slope e a - s) * (a.1 - e.1) := Rat.mul_nonneg (by grind) (by grind)
    rcases List.mem_cons.mp m with rfl | m
    · grind
    · rw [List.mem_singleton.mp m]; grind
  | e :: f :: A, h1, h2, c, m => by
    have be : e.1 < f.1 := h1 (e, f) List.mem_cons_self
    have sb : s ≤ slope e f := h2 _ List.mem_cons_self
    have sm := slope_mul be
    have k : 0 ≤ (slope e f - s) * (f.1 - e.1) := Rat.mul_nonneg (by grind) (by grind)
    have ih := left_of a (f :: A) (fun p m => h1 p (List.mem_cons_of_mem _ m)) (fun v m => h2 v (List.mem_cons_of_mem _ m))
    rcases List.mem_cons.mp m with rfl | m
    · have := ih f List.mem_cons_self
      grind
    · exact ih c m
theorem under_chord {n : Nat} {ks : List Cr} (h : Kd n ks) {p : Cr × Cr} (m : p ∈ prs ks) : ∀ c ∈ ks, c.2 ≤ p.1.2 + slope p.1 p.2 * (c.1 - p.1.1) := by
  obtain ⟨a, b⟩ := p
  have ab : a.1 < b.1 := h.asc _ m
  have sm := slope_mul ab
  obtain ⟨A, C, e⟩ := prs_split m
  simp only at e ⊢
  have cc := (prs_pairwise (R := fun x y : Rat => y < x) (fun _ _ _ h g => rlt_trans g h)).mp h.conc
  have asc := h.asc
  subst e
  rw [prs_app] at asc
  rw [speeds_app] at cc
  have e1 : speeds (a :: b :: C) = slope a b :: speeds (b :: C) := rfl
  rw [e1, List.pairwise_append, List.pairwise_cons] at cc
  obtain ⟨q1, ⟨q2, q3⟩, q5⟩ := cc
  intro c mc
  have mc' : c ∈ A ++ [a] ∨ c ∈ b :: C := by simp at mc ⊢; grind
  rcases mc' with mc | mc
  · exact left_of a A (fun p m => asc p (List.mem_append_left _ m)) (fun v m => by have := q5 v m _ List.mem_cons_self; grind) c mc
  · have := right_of (s := slope a b) C b (fun p m => asc p (List.mem_append_right _ (List.mem_cons_of_mem _ m))) (fun v m => by have := q2 v m; grind) c mc
    grind
/-- some speed's toll is just by the flow at the density -/
theorem toll_strong {n : Nat} {ks : List Cr} {d t : Rat} (h : Kd n ks) (h0 : 0 ≤ d) (h1 : ¬ fullD ks < d) (ht : 0 ≤ t) : ∃ v ∈ speeds ks, tollL ks (v * t) t 0 + d * (v * t) = flow ks d * t := by
  obtain ⟨⟨a, b⟩, m, h2, h3, h4⟩ := seg_flow h h0 h1
  simp only at h2 h3 h4
  refine ⟨slope a b, List.mem_map.mpr ⟨(a, b), m, rfl⟩, ?_⟩
  have uc := under_chord h m
  have mm := prs_mem m
  have A := (tollL_ge (x := slope a b * t) (t := t) ks 0).2 a mm.1
  have le : tollL ks (slope a b * t) t 0 ≤ (a.2 - slope a b * a.1) * t := by
    have key : ∀ c ∈ ks, c.2 * t - c.1 * (slope a b * t) ≤ (a.2 - slope a b * a.1) * t := fun c mc => by
      have := uc c mc
      simp only at this
      have k : 0 ≤ (a.2 + slope a b * (c.1 - a.1) - c.2) * t := Rat.mul_nonneg (by grind) ht
      grind
    refine tollL_le ks 0 ?_ key
    obtain ⟨r, hr⟩ := h.head
    have := key (0, 0) (by rw [hr]; exact List.mem_cons_self)
    grind
  rw [h4]
  grind
end Prog

/-! N2: the scene that parts kinds (program), for k49. -/
namespace Prog
open PySem PySem.Spec PyProof.Rows L2 PD
theorem first_speed {n : Nat} {ks : List Cr} (h : Kd n ks) : ∃ v ∈ speeds ks, 0 < v := by
  obtain ⟨r, hr⟩ := h.head
  have l := h.len3
  have a := h.asc
  have p := h.pos
  subst hr
  match r, l, a, p with
  | [], l, _, _ => simp at l
  | [_], l, _, _ => simp at l
  | c :: e :: r, _, a, p =>
    have c1 : (0 : Rat) < c.1 := a ((0, 0), c) List.mem_cons_self
    have c2 : 0 < c.2 := p c (by
      show c ∈ (c :: e :: r).dropLast
      rw [List.dropLast_cons_of_ne_nil (by simp)]; exact List.mem_cons_self)
    refine ⟨slope (0, 0) c, List.mem_cons_self, ?_⟩
    unfold slope
    rw [Rat.div_def]
    exact Rat.mul_pos (by grind) (Rat.inv_pos.mpr (by grind))
/-- a pace that is no less than any of either -/
structure Fast (n : Nat) (vs : List Rat) (f : Rat) : Prop where
  sz : Sz n f
  nn : 0 ≤ f
  up : ∀ v ∈ vs, v ≤ f ∧ -v ≤ f
def sceneD (w : Rat) (f : Rat) : Option Rat → PyData
  | none => .none
  | some d => .tuple [.tuple [.tuple [fr w, fr d]], fr (w / 2), fr (w / 2 / f)]
theorem r_scene_none {n : Nat} (k : Nat) {ks js : List Cr} {w : Rat} (h : Kd n ks) (g : Kd n js) (hn : n < 640) (hb : bare ks js = none) (S : Sto) : run T (k + 9) "scene_parted" [.d (kd ks), .d (kd js), .d (fr w)] S = some (.d .none, S) := by
  rw [u_scene_parted, x_run]
  have b0 := r_bare_by k h g hn S
  rw [hb] at b0
  simp [b_scene_parted, startR, Option.bind_assoc, b0, bareD, isNone]
theorem r_scene_some {n : Nat} (k : Nat) {ks js : List Cr} {w d : Rat} (h : Kd n ks) (g : Kd n js) (hn : n < 640) (zw : Sz 4 w) (hb : bare ks js = some d) (S : Sto) : ∃ f, Fast (4 * n + 5) (speeds ks ++ speeds js) f ∧ 0 < f ∧ run T (k + 9) "scene_parted" [.d (kd ks), .d (kd js), .d (fr w)] S = some (.d (sceneD w f (some d)), S) := by
  rw [u_scene_parted, x_run]
  have b0 := r_bare_by k h g hn S
  obtain ⟨v0, hv0, v0p⟩ := first_speed h
  rw [hb] at b0
  have s1 := r_kind_speeds (k + 1) h (by omega) S
  have s2 := r_kind_speeds (k + 1) g (by omega) S
  have ln : (speeds ks).length + (speeds js).length ≤ 100000 := by
    unfold speeds
    rw [List.length_map, List.length_map, prs_len, prs_len]
    have := h.len12; have := g.len12; omega
  have e1 : (speeds ks).map fr ++ (speeds js).map fr = (speeds ks ++ speeds js).map fr := List.map_append.symm
  have hv1 : v0 ∈ speeds ks ++ speeds js := List.mem_append_left _ hv0
  have szs : ∀ v ∈ speeds ks ++ speeds js, Sz (4 * n + 2) v := fun v m => (List.mem_append.mp m).elim (sz_speed h v) (sz_speed g v)
  generalize speeds ks ++ speeds js = vs at *
  refine (?_ : (fun o => ∃ f, Fast (4 * n + 5) vs f ∧ 0 < f ∧ o = some (W.d (sceneD w f (some d)), S)) _)
  generalize hP : (fun o => ∃ f, Fast (4 * n + 5) vs f ∧ 0 < f ∧ o = some (W.d (sceneD w f (some d)), S)) = P
  have i1 : isNone (.d (fr d)) = false := rfl
  simp [b_scene_parted, startR, Option.bind_assoc, b0, bareD, i1, s1, s2, ln, e1]
  refine forN_bind P fr (fun s : Rat × Option W × Option W => [some (.d (kd ks)), some (.d (kd js)), some (.d (fr w)), some (.d (fr d)), some (.d (fr s.1)), s.2.1, none, s.2.2]) (fun _ => S)
    (fun l s => Sz (4 * n + 5) s.1 ∧ 0 ≤ s.1 ∧ (∀ v ∈ l, Sz (4 * n + 2) v) ∧ ∀ v ∈ vs, v ∈ l ∨ (v ≤ s.1 ∧ -v ≤ s.1))
    (fun fl ρ S' => ∃ f w5 w7, Fast (4 * n + 5) vs f ∧ fl = .nx ∧ S' = S ∧ ρ = [some (.d (kd ks)), some (.d (kd js)), some (.d (fr w)), some (.d (fr d)), some (.d (fr f)), w5, none, w7])
    vs (0, none, none) ⟨sz0.mono (by omega), Rat.le_refl, szs, fun v m => .inl m⟩ rfl rfl ?_ ?_ ?_
  · rintro ⟨f, w5, w7⟩ ⟨h1, h2, _, h3⟩
    exact ⟨f, w5, w7, ⟨h1, h2, fun v m => (h3 v m).elim (fun m => by cases m) id⟩, rfl, rfl, rfl⟩
  · rintro v l ⟨f, w5, w7⟩ ⟨h1, h2, h3, h4⟩
    simp only at h1 h2 h4
    have zv := h3 v List.mem_cons_self
    have m1 := r_minus (k + 3) sz0 zv (by omega) S
    have zm := sz_sub sz0 zv
    have key : ∀ z : Rat, Sz (4 * n + 5) z → v ≤ z → -v ≤ z → (if f < z then f < z else z ≤ f) → True := fun _ _ _ _ _ => trivial
    have up : ∀ z : Rat, Sz (4 * n + 5) z → v ≤ z → -v ≤ z → Sz (4 * n + 5) (if f < z then z else f) ∧ 0 ≤ (if f < z then z else f) ∧ (∀ v ∈ l, Sz (4 * n + 2) v) ∧ ∀ u ∈ vs, u ∈ l ∨ (u ≤ (if f < z then z else f) ∧ -u ≤ (if f < z then z else f)) := by
      intro z zz z1 z2
      refine ⟨by split <;> assumption, by split <;> grind, fun u m => h3 u (List.mem_cons_of_mem _ m), fun u m => ?_⟩
      rcases h4 u m with m | ⟨a1, a2⟩
      · rcases List.mem_cons.mp m with rfl | m
        · refine .inr ?_; split <;> grind
        · exact .inl m
      · refine .inr ?_; split <;> grind
    by_cases c1 : 0 < v
    · have n1 : 0 < v.num := by rw [Rat.lt_iff] at c1; simpa using c1
      have b1 := r_is_below (k + 7) h1 zv (by omega) S
      by_cases c2 : f < v
      · have := up v (zv.mono (by omega)) (by grind) (by grind)
        rw [if_pos c2] at this
        refine .nx' (v, some (.d (fr v)), some (.d (fr v))) this ?_
        simp [n1, b1, c2]
      · have := up v (zv.mono (by omega)) (by grind) (by grind)
        rw [if_neg c2] at this
        refine .nx' (f, some (.d (fr v)), some (.d (fr v))) this ?_
        simp [n1, b1, c2]
    · have n1 : ¬ 0 < v.num := by rw [Rat.lt_iff] at c1; simpa using c1
      have b1 := r_is_below (k + 7) h1 zm (by omega) S
      rw [fr0] at m1
      by_cases c2 : f < 0 - v
      · have := up (0 - v) (zm.mono (by omega)) (by grind) (by grind)
        rw [if_pos c2] at this
        refine .nx' (0 - v, some (.d (fr v)), some (.d (fr (0 - v)))) this ?_
        simp [n1, m1, b1, c2]
      · have := up (0 - v) (zm.mono (by omega)) (by grind) (by grind)
        rw [if_neg c2] at this
        refine .nx' (f, some (.d (fr v)), some (.d (fr (0 - v)))) this ?_
        simp [n1, m1, b1, c2]
  · rintro fl ρ S' ⟨f, w5, w7, hF, rfl, rfl, rfl⟩
    have f0 : 0 < f := by have := (hF.up v0 hv1).1; grind
    have half : fr (1 / 2) = .tuple [.int 1, .int 2] := by unfold fr; rw [show (1 / 2 : Rat).num = 1 by decide +kernel, show (1 / 2 : Rat).den = 2 by decide +kernel]; rfl
    have zh : Sz 2 (1 / 2 : Rat) := ⟨by unfold Lt2; decide +kernel, by unfold Lt2; decide +kernel⟩
    have t1 := r_times (k + 3) zh zw (by omega) S'
    rw [half, show (1 / 2 : Rat) * w = w / 2 by grind] at t1
    have zp : Sz 6 (w / 2) := by have := sz_mul zh zw; rw [show (1 / 2 : Rat) * w = w / 2 by grind] at this; exact this
    have t2 := r_divided (k + 3) (by grind) zp hF.sz (by omega) S'
    rw [← hP]
    refine ⟨f, hF, f0, ?_⟩
    simp [t1, t2, sceneD]
end Prog

/-! N3: the law's own speeds and tolls (k49). -/
namespace Prog
open PySem PySem.Spec PyProof.Rows L2 PD
theorem r_law_speeds {ks : List Cr} (k : Nat) (h : Kd 330 ks) (S : Sto) : run T (k + 3) "_law_speeds" [.d (kd ks)] S = some (.d (.list ((speeds ks).map fr)), S) := by
  have l3 := h.len3
  have l12 := h.len12
  have hlen : (ks.length : Int) - 1 = ((prs ks).length : Nat) := by rw [prs_len]; omega
  have rg := rangeU_nat (prs ks).length (S ++ [some []]) (by rw [prs_len]; omega)
  rw [range_zip] at rg
  have hsl : (prs ks).length ≤ 11 := by rw [prs_len]; omega
  rw [u_L_speeds, x_run]
  simp [b_L_speeds, startR, Option.bind_assoc, kd, hlen, rg]
  refine forN_bind (fun o => o = some (W.d (.list ((speeds ks).map fr)), S)) (fun t : (Cr × Cr) × Nat => PyData.int (t.2 : Nat)) (fun s : List Rat × Option W × Option W × Option W × Option W × Option W => [some (.d (.tuple (ks.map co))), some (.m S.length), s.2.1, s.2.2.1, s.2.2.2.1, s.2.2.2.2.1, s.2.2.2.2.2]) (fun s => S ++ [some (s.1.map fr)])
    (fun l s => (∀ t ∈ l, atI (ks.map co) (t.2 : Nat) = some (co t.1.1) ∧ atI (ks.map co) ((t.2 : Nat) + 1) = some (co t.1.2) ∧ CSz 330 t.1.1 ∧ CSz 330 t.1.2 ∧ t.1.1.1 < t.1.2.1) ∧ s.1 ++ (l.map fun t => slope t.1.1 t.1.2) = speeds ks ∧ s.1.length + l.length ≤ 11)
    (fun fl ρ S' => fl = .nx ∧ S' = S ++ [some ((speeds ks).map fr)] ∧ ∃ w2 w3 w4 w5 w6, ρ = [some (.d (.tuple (ks.map co))), some (.m S.length), w2, w3, w4, w5, w6])
    ((prs ks).zipIdx) ([], none, none, none, none, none) ⟨?_, ?_, by simpa using hsl⟩ rfl rfl ?_ ?_ ?_
  · rintro ⟨p, i⟩ m
    have g1 := List.mk_mem_zipIdx_iff_getElem?.mp m
    have g2 := prs_get g1
    have g3 := List.mem_of_getElem? g1
    have g4 := prs_mem g3
    refine ⟨atI_nat (by rw [List.getElem?_map, g2.1]; rfl), ?_, h.size _ g4.1, h.size _ g4.2, h.asc p g3⟩
    have := atI_nat (xs := ks.map co) (j := i + 1) (v := co p.2) (by rw [List.getElem?_map, g2.2]; rfl)
    exact this
  · show (((prs ks).zipIdx).map fun t => slope t.1.1 t.1.2) = speeds ks
    unfold speeds
    conv => rhs; rw [← List.zipIdx_map_fst 0 (prs ks)]
    rw [List.map_map]; rfl
  · rintro s ⟨_, h1, _⟩
    simp at h1
    exact ⟨rfl, by rw [h1], _, _, _, _, _, rfl⟩
  · rintro ⟨⟨⟨u, n⟩, ⟨v, m⟩⟩, i⟩ l ⟨acc, w2, w3, w4, w5, w6⟩ ⟨hl, hv, hs⟩
    obtain ⟨g1, g2, ⟨zu, zn⟩, ⟨zv, zm⟩, huv⟩ := hl _ List.mem_cons_self
    have hl' := fun t m => hl t (List.mem_cons_of_mem _ m)
    simp only at g1 g2 zu zn zv zm huv hv hs ⊢
    simp only [co] at g1 g2
    simp only [List.length_cons] at hs
    have o1 := ok_gap (ok_nd zm) (ok_nd zn)
    have o2 := ok_gap (ok_nd zv) (ok_nd zu)
    have b1 := r_gap (ok_nd zm) (ok_nd zn) (by omega) (k + 1) (S ++ [some (acc.map fr)])
    have b2 := r_gap (ok_nd zv) (ok_nd zu) (by omega) (k + 1) (S ++ [some (acc.map fr)])
    have v1 := val_gap (ok_nd zm) (ok_nd zn)
    have v2 := val_gap (ok_nd zv) (ok_nd zu)
    simp only [← fr_nd, val_nd] at b1 b2 v1 v2
    generalize gapP2 (nd m) (nd n) = G1 at *
    generalize gapP2 (nd v) (nd u) = G2 at *
    have t2 : 0 < G2.1 := (val_pos o2).mp (by rw [v2]; grind)
    have b3 := r_per o1 o2 (by omega) t2 (k + 1) (S ++ [some (acc.map fr)])
    have b4 := r_even (ok_per o1 o2 t2) (by omega) k (S ++ [some (acc.map fr)])
    rw [val_per, v1, v2] at b4
    have e : (m - n) / (v - u) = slope (u, n) (v, m) := rfl
    rw [e] at b4
    have ha : acc.length < 100000 := by omega
    refine .nx' (acc ++ [slope (u, n) (v, m)], some (.d (.int (i : Nat))), some (.d (fr u)), some (.d (fr n)), some (.d (fr v)), some (.d (fr m))) ⟨hl', ?_, by simp only [List.length_append, List.length_singleton]; omega⟩ ?_
    · rw [← hv]; simp
    · simp [g1, g2, b1, b2, b3, b4, ha]
  · rintro fl ρ S' ⟨rfl, rfl, w2, w3, w4, w5, w6, rfl⟩
    simp
def ownD (ks : List Cr) (rest : List PyData) : PyData := .list (kd ks :: .list ((speeds ks).map fr) :: rest)
def optD : Option P2 → PyData
  | none => .none
  | some p => pr p
theorem r_law_toll {ks : List Cr} {rest : List PyData} {a b : Nat} {X Y : P2} {vf vl : Rat} (k : Nat) (h : Kd 330 ks) (oX : Ok a X) (oY : Ok b Y) (ha : a < 10000) (hb : b < 10000) (hf : ∃ r, speeds ks = vf :: r) (hl : ∃ r, speeds ks = r ++ [vl]) (S : Sto) :
    ∃ c : Option P2, run T (k + 2) "_law_toll" [.d (ownD ks rest), .d (pr X), .d (pr Y)] S = some (.d (optD c), S) ∧ (∀ B, c = some B → 0 ≤ val Y ∧ Ok (661 + a + b) B ∧ val B = tollL ks (val X) (val Y) 0) ∧ (0 ≤ val Y → val X ≤ vf * val Y → vl * val Y ≤ val X → ∃ B, c = some B) := by
  have szs := sz_speed h
  have zf : Sz 1322 vf := szs vf (by obtain ⟨r, e⟩ := hf; rw [e]; exact List.mem_cons_self)
  have zl : Sz 1322 vl := szs vl (by obtain ⟨r, e⟩ := hl; rw [e]; simp)
  have a0 : atI ((speeds ks).map fr) 0 = some (fr vf) := by obtain ⟨r, e⟩ := hf; rw [e, List.map_cons]; exact at0 _ _
  have a1 : atI ((speeds ks).map fr) (-1) = some (fr vl) := by obtain ⟨r, e⟩ := hl; rw [e, List.map_append]; exact at_last _ _
  have f1 := r_by (ok_nd zf) oY (by omega) k S
  have f2 := r_by (ok_nd zl) oY (by omega) k S
  have o1 := ok_by (ok_nd zf) oY
  have o2 := ok_by (ok_nd zl) oY
  have v1 : val (byP2 (nd vf) Y) = vf * val Y := by rw [val_by, val_nd]
  have v2 : val (byP2 (nd vl) Y) = vl * val Y := by rw [val_by, val_nd]
  simp only [← fr_nd] at f1 f2
  generalize byP2 (nd vf) Y = F1 at *
  generalize byP2 (nd vl) Y = F2 at *
  have g1 := r_gap oX o1 (by omega) k S
  have g2 := r_gap o2 oX (by omega) k S
  have c1 := val_pos (ok_gap oX o1)
  have c2 := val_pos (ok_gap o2 oX)
  rw [val_gap oX o1, v1] at c1
  rw [val_gap o2 oX, v2] at c2
  have c0 := val_neg oY
  generalize gapP2 X F1 = G1 at *
  generalize gapP2 F2 X = G2 at *
  by_cases n0 : Y.1 < 0
  · refine ⟨none, ?_, fun B e => (by cases e), fun q1 _ _ => absurd (c0.mpr n0) (by grind)⟩
    rw [u_L_toll, x_run]
    simp [b_L_toll, startR, Option.bind_assoc, ownD, a0, a1, f1, f2, n0, optD]
  · by_cases n1 : 0 < G1.1
    · refine ⟨none, ?_, fun B e => (by cases e), fun q1 q2 _ => absurd (c1.mpr n1) (by grind)⟩
      rw [u_L_toll, x_run]
      simp [b_L_toll, startR, Option.bind_assoc, ownD, a0, a1, f1, f2, n0, n1, g1, optD]
    · by_cases n2 : 0 < G2.1
      · refine ⟨none, ?_, fun B e => (by cases e), fun q1 _ q3 => absurd (c2.mpr n2) (by grind)⟩
        rw [u_L_toll, x_run]
        simp [b_L_toll, startR, Option.bind_assoc, ownD, a0, a1, f1, f2, n0, n1, n2, g1, g2, optD]
      · have hy : 0 ≤ val Y := by grind
        rw [u_L_toll, x_run]
        refine (?_ : (fun o => ∃ c : Option P2, o = some (W.d (optD c), S) ∧ (∀ B, c = some B → 0 ≤ val Y ∧ Ok (661 + a + b) B ∧ val B = tollL ks (val X) (val Y) 0) ∧ (0 ≤ val Y → val X ≤ vf * val Y → vl * val Y ≤ val X → ∃ B, c = some B)) _)
        generalize hP : (fun o => ∃ c : Option P2, o = some (W.d (optD c), S) ∧ (∀ B, c = some B → 0 ≤ val Y ∧ Ok (661 + a + b) B ∧ val B = tollL ks (val X) (val Y) 0) ∧ (0 ≤ val Y → val X ≤ vf * val Y → vl * val Y ≤ val X → ∃ B, c = some B)) = P
        simp [b_L_toll, startR, Option.bind_assoc, ownD, kd, a0, a1, f1, f2, n0, n1, n2, g1, g2]
        refine forN_bind P co (fun s : P2 × Option W × Option W × Option W => [some (.d (.list (.tuple (ks.map co) :: .list ((speeds ks).map fr) :: rest))), some (.d (pr X)), some (.d (pr Y)), some (.d (pr s.1)), some (.d (pr F1)), some (.d (pr F2)), s.2.1, s.2.2.1, s.2.2.2]) (fun _ => S)
          (fun l s => (∀ c ∈ l, CSz 330 c) ∧ Ok (661 + a + b) s.1 ∧ tollL l (val X) (val Y) (val s.1) = tollL ks (val X) (val Y) 0)
          (fun fl ρ S' => ∃ B w6 w7 w8, fl = .nx ∧ S' = S ∧ Ok (661 + a + b) B ∧ val B = tollL ks (val X) (val Y) 0 ∧ ρ = [some (.d (.list (.tuple (ks.map co) :: .list ((speeds ks).map fr) :: rest))), some (.d (pr X)), some (.d (pr Y)), some (.d (pr B)), some (.d (pr F1)), some (.d (pr F2)), w6, w7, w8])
          ks (nd 0, none, none, none) ⟨h.size, (ok_nd sz0).mono (by omega), by rw [val_nd]⟩ rfl rfl ?_ ?_ ?_
        · rintro ⟨B, w6, w7, w8⟩ ⟨_, h1, h2⟩
          exact ⟨B, w6, w7, w8, rfl, rfl, h1, h2, rfl⟩
        · rintro ⟨d, q⟩ l ⟨B, w6, w7, w8⟩ ⟨h1, h2, h3⟩
          obtain ⟨zd, zq⟩ := h1 _ List.mem_cons_self
          have h1' := fun t m => h1 t (List.mem_cons_of_mem _ m)
          simp only at zd zq h2 h3
          have m1 := r_by (ok_nd zq) oY (by omega) k S
          have m2 := r_by (ok_nd zd) oX (by omega) k S
          have p1 := ok_by (ok_nd zq) oY
          have p2 := ok_by (ok_nd zd) oX
          have m3 := r_gap p1 p2 (by omega) k S
          have p3 := ok_gap p1 p2
          have w3 : val (gapP2 (byP2 (nd q) Y) (byP2 (nd d) X)) = q * val Y - d * val X := by rw [val_gap p1 p2, val_by, val_by, val_nd, val_nd]
          simp only [← fr_nd] at m1 m2
          generalize byP2 (nd q) Y = A1 at *
          generalize byP2 (nd d) X = A2 at *
          generalize gapP2 A1 A2 = A3 at *
          have m4 := r_gap p3 h2 (by omega) k S
          have q4 := val_pos (ok_gap p3 h2)
          rw [val_gap p3 h2, w3] at q4
          generalize gapP2 A3 B = A4 at *
          have un : tollL ((d, q) :: l) (val X) (val Y) (val B) = tollL l (val X) (val Y) (if val B < q * val Y - d * val X then q * val Y - d * val X else val B) := rfl
          rw [un] at h3
          by_cases n4 : 0 < A4.1
          · rw [if_pos (by have := q4.mpr n4; grind), ← w3] at h3
            refine .nx' (A3, some (.d (fr d)), some (.d (fr q)), some (.d (pr A3))) ⟨h1', p3.mono (by omega), h3⟩ ?_
            simp [co, m1, m2, m3, m4, n4]
          · rw [if_neg (by intro e; exact n4 (q4.mp (by grind)))] at h3
            refine .nx' (B, some (.d (fr d)), some (.d (fr q)), some (.d (pr A3))) ⟨h1', h2, h3⟩ ?_
            simp [co, m1, m2, m3, m4, n4]
        · rintro fl ρ S' ⟨B, w6, w7, w8, rfl, rfl, h1, h2, rfl⟩
          rw [← hP]
          exact ⟨some B, by simp [optD], fun B' e => by cases e; exact ⟨hy, h1, h2⟩, fun _ _ _ => ⟨B, rfl⟩⟩
end Prog

/-! N4: the least of some, the law's own beginning (k49). -/
namespace Prog
open PySem PySem.Spec PyProof.Rows L2 PD
abbrev Cand := P2 × Option P2
def cd (c : Cand) : PyData := .tuple [pr c.1, optD c.2]
structure Good (M : Nat) (V : Rat) (c : Cand) : Prop where
  ok : ∀ B, c.2 = some B → Ok M (sumP2 c.1 B) ∧ V ≤ val (sumP2 c.1 B)
  run : ∀ B, c.2 = some B → ∃ a b, Ok a c.1 ∧ Ok b B ∧ a + b < 900000
theorem r_law_least {M : Nat} {V : Rat} (k : Nat) (l : List Cand) (hg : ∀ c ∈ l, Good M V c) (hit : ∃ c ∈ l, ∃ B, c.2 = some B ∧ val (sumP2 c.1 B) = V) (hM : M < 9000) (S : Sto) : run T (k + 3) "_law_least" [.m S.length] (S ++ [some (l.map cd)]) = some (.d (fr V), S ++ [none]) := by
  rw [u_L_least, x_run]
  simp [b_L_least, startR, Option.bind_assoc]
  refine forN_bind (fun o => o = some (W.d (fr V), S ++ [none])) cd (fun s : Option P2 × Option W × Option W => [some (.m S.length), some (.d (optD s.1)), s.2.1, s.2.2]) (fun _ => S ++ [none])
    (fun r s => (∀ c ∈ r, Good M V c) ∧ (∀ B, s.1 = some B → Ok M B ∧ V ≤ val B) ∧ ((∃ c ∈ r, ∃ B, c.2 = some B ∧ val (sumP2 c.1 B) = V) ∨ ∃ B, s.1 = some B ∧ val B = V))
    (fun fl ρ S' => ∃ B w2 w3, fl = .nx ∧ S' = S ++ [none] ∧ Ok M B ∧ val B = V ∧ ρ = [some (.m S.length), some (.d (pr B)), w2, w3])
    l (none, none, none) ⟨hg, fun B e => (by cases e), .inl hit⟩ rfl rfl ?_ ?_ ?_
  · rintro ⟨best, w2, w3⟩ ⟨_, h2, h3⟩
    rcases h3 with ⟨c, m, _⟩ | ⟨B, e, hB⟩
    · cases m
    · simp only at e h2
      subst e
      exact ⟨B, w2, w3, rfl, rfl, (h2 B rfl).1, hB, rfl⟩
  · rintro ⟨n, cost⟩ r ⟨best, w2, w3⟩ ⟨h1, h2, h3⟩
    have g := h1 _ List.mem_cons_self
    have h1' := fun t m => h1 t (List.mem_cons_of_mem _ m)
    simp only at h2 h3
    have i1 : ∀ p : P2, isNone (.d (pr p)) = false := fun _ => rfl
    have i0 : isNone (.d PyData.none) = true := rfl
    cases cost with
    | none =>
      refine .nx' (best, some (.d (pr n)), some (.d .none)) ⟨h1', h2, ?_⟩ ?_
      · rcases h3 with ⟨c, m, B, e, hB⟩ | h3
        · rcases List.mem_cons.mp m with rfl | m
          · cases e
          · exact .inl ⟨c, m, B, e, hB⟩
        · exact .inr h3
      · simp [cd, optD, i0]
    | some C =>
      obtain ⟨k1, k2⟩ := g.ok C rfl
      obtain ⟨a, b, oa, ob, hab⟩ := g.run C rfl
      simp only at k1 k2 oa
      have s1 := r_sum oa ob hab (k + 1) (S ++ [none])
      have hitV : ∀ c : Cand, c = (n, some C) → ∀ B, c.2 = some B → val (sumP2 c.1 B) = V → val (sumP2 n C) = V := by
        rintro c rfl B e hB
        cases e
        exact hB
      generalize sumP2 n C = N at *
      cases best with
      | none =>
        refine .nx' (some N, some (.d (pr n)), some (.d (pr C))) ⟨h1', fun B e => by cases e; exact ⟨k1, k2⟩, ?_⟩ ?_
        · rcases h3 with ⟨c, m, B, e, hB⟩ | ⟨B, e, _⟩
          · rcases List.mem_cons.mp m with hc | m
            · exact .inr ⟨N, rfl, hitV c hc B e hB⟩
            · exact .inl ⟨c, m, B, e, hB⟩
          · cases e
        · simp [cd, optD, i0, i1, s1]
      | some D =>
        obtain ⟨q1, q2⟩ := h2 D rfl
        have s2 := r_gap k1 q1 (by omega) (k + 1) (S ++ [none])
        have q3 := val_neg (ok_gap k1 q1)
        rw [val_gap k1 q1] at q3
        generalize gapP2 N D = G at *
        by_cases n1 : G.1 < 0
        · have lt := q3.mpr n1
          refine .nx' (some N, some (.d (pr n)), some (.d (pr C))) ⟨h1', fun B e => by cases e; exact ⟨k1, k2⟩, ?_⟩ ?_
          · rcases h3 with ⟨c, m, B, e, hB⟩ | ⟨B, e, hB⟩
            · rcases List.mem_cons.mp m with hc | m
              · exact .inr ⟨N, rfl, hitV c hc B e hB⟩
              · exact .inl ⟨c, m, B, e, hB⟩
            · cases e
              exact absurd lt (by grind)
          · simp [cd, optD, i1, s1, s2, n1]
        · have nlt : ¬ val N - val D < 0 := fun e => n1 (q3.mp e)
          refine .nx' (some D, some (.d (pr n)), some (.d (pr C))) ⟨h1', fun B e => by cases e; exact ⟨q1, q2⟩, ?_⟩ ?_
          · rcases h3 with ⟨c, m, B, e, hB⟩ | ⟨B, e, hB⟩
            · rcases List.mem_cons.mp m with hc | m
              · have := hitV c hc B e hB
                exact .inr ⟨D, rfl, by grind⟩
              · exact .inl ⟨c, m, B, e, hB⟩
            · exact .inr ⟨B, e, hB⟩
          · simp [cd, optD, i1, s1, s2, n1]
  · rintro fl ρ S' ⟨B, w2, w3, rfl, rfl, h1, h2, rfl⟩
    have b := r_even h1 hM k (S ++ [none])
    rw [h2] at b
    simp [b]
@[simp] theorem at_m1 {α : Type} (x : α) : atI [x] (-1) = some x := at_last [] x
@[simp] theorem at_m2 {α : Type} (x y : α) : atI [x, y] (-1) = some y := at_last [x] y
def beginD (w d : Rat) : PyData := .tuple [.tuple [fr w, fr d]]
theorem r_law_own {ks : List Cr} {w d : Rat} (k : Nat) (h : Kd 330 ks) (zw : Sz 4 w) (zd : Sz 330 d) (S : Sto) : run T (k + 4) "_law_own" [.d (kd ks), .d (beginD w d), .d (.tuple [.tuple [.int 0, .int 1], .tuple []])] S = some (.d (ownD ks [fr w, .list [co (0, 0), co (w, -(d * w))], .list [co (0, 0)]]), S) := by
  have s0 : Sto := S
  have e1 := fun S => r_sum (ok_nd sz0) (ok_nd zw) (by omega) (k + 2) S
  have e2 := fun S => r_even (ok_sum (ok_nd sz0) (ok_nd zw)) (by omega) (k + 1) S
  have e3 := fun S => r_by (ok_nd zd) (ok_nd zw) (by omega) (k + 2) S
  have e4 := fun S => r_gap (ok_nd sz0) (ok_by (ok_nd zd) (ok_nd zw)) (by omega) (k + 2) S
  have e5 := fun S => r_even (ok_gap (ok_nd sz0) (ok_by (ok_nd zd) (ok_nd zw))) (by omega) (k + 1) S
  simp only [val_sum (ok_nd sz0) (ok_nd zw), val_gap (ok_nd sz0) (ok_by (ok_nd zd) (ok_nd zw)), val_by, val_nd] at e2 e5
  rw [show (0 : Rat) + w = w by grind] at e2
  rw [show (0 : Rat) - d * w = -(d * w) by grind] at e5
  simp only [← fr_nd] at e1 e3 e4
  generalize sumP2 (nd 0) (nd w) = P1 at *
  generalize byP2 (nd d) (nd w) = P3 at *
  generalize gapP2 (nd 0) P3 = P4 at *
  have e6 := fun S => r_law_speeds (k := k) h S
  rw [fr0] at e1 e4
  rw [u_L_own, x_run]
  simp [b_L_own, startR, Option.bind_assoc, beginD, x_forN, e1, e2, e3, e4, e5, e6, ownD, co, fr0]
end Prog

/-! N5: the law's own number at the place and moment (k49). -/
namespace Prog
open PySem PySem.Spec PyProof.Rows L2 PD
@[simp] theorem at3 {α : Type} (a b c x : α) (r : List α) : atI (a :: b :: c :: x :: r) 3 = some x := atI_nat (j := 3) rfl
@[simp] theorem at4 {α : Type} (a b c d x : α) (r : List α) : atI (a :: b :: c :: d :: x :: r) 4 = some x := atI_nat (j := 4) rfl
theorem rangeU1 (S : Sto) : rangeU 1 S = some ([.int 0], S) := rangeU_nat 1 S (by omega)
theorem rangeU0 (S : Sto) : rangeU 0 S = some ([], S) := rangeU_nat 0 S (by omega)
theorem r_along0 (k : Nat) (Y : PyData) (S : Sto) : run T (k + 2) "_law_along" [.d (.list [co (0, 0)]), .d Y] S = some (.d (fr 0), S) := by
  rw [u_L_along, x_run]
  simp [b_L_along, startR, Option.bind_assoc, co, rangeU0]
theorem r_alongS {c : Nat} {w d : Rat} {Y : P2} (k : Nat) (zw : Sz 4 w) (zd : Sz 330 d) (w0 : 0 < w) (oY : Ok c Y) (hc : c < 10000) (y0 : 0 ≤ val Y) (y1 : val Y ≤ w) (S : Sto) : ∃ F, Ok (c + 350) F ∧ val F = -(d * val Y) ∧ run T (k + 2) "_law_along" [.d (.list [co (0, 0), co (w, -(d * w))]), .d (pr Y)] S = some (.d (pr F), S) := by
  have zm : Sz 334 (-(d * w)) := by have := sz_mul zd zw; exact ⟨this.1.neg, this.2⟩
  have o1 := ok_gap oY (ok_nd sz0)
  have o2 := ok_gap (ok_nd zw) oY
  have o3 := ok_gap (ok_nd zw) (ok_nd sz0)
  have o4 := ok_gap (ok_nd zm) (ok_nd sz0)
  have b1 := r_gap oY (ok_nd sz0) (by omega) k S
  have b2 := r_gap (ok_nd zw) oY (by omega) k S
  have b3 := r_gap (ok_nd zw) (ok_nd sz0) (by omega) k S
  have b4 := r_gap (ok_nd zm) (ok_nd sz0) (by omega) k S
  have v1 := val_gap oY (ok_nd sz0)
  have v2 := val_gap (ok_nd zw) oY
  have v3 := val_gap (ok_nd zw) (ok_nd sz0)
  have v4 := val_gap (ok_nd zm) (ok_nd sz0)
  simp only [← fr_nd, val_nd] at b1 b2 b3 b4 v1 v2 v3 v4
  generalize gapP2 Y (nd 0) = G1 at *
  generalize gapP2 (nd w) Y = G2 at *
  generalize gapP2 (nd w) (nd 0) = G3 at *
  generalize gapP2 (nd (-(d * w))) (nd 0) = G4 at *
  have t1 : 0 ≤ G1.1 := (val_nonneg o1).mp (by rw [v1]; grind)
  have t3 : 0 < G3.1 := (val_pos o3).mp (by rw [v3]; grind)
  have go : ∀ X : P2, Ok (c + 6) X → ∃ Q Z R, run T (k + 1) "_law_by" [.d (pr G4), .d (pr X)] S = some (.d (pr Q), S) ∧ run T (k + 1) "_law_per" [.d (pr Q), .d (pr G3)] S = some (.d (pr Z), S) ∧ run T (k + 1) "_law_sum" [.d (fr 0), .d (pr Z)] S = some (.d (pr R), S) ∧ Ok (c + 350) R ∧ val R = 0 + (-(d * w) - 0) * val X / (w - 0) := by
    intro X oX
    have oQ := ok_by o4 oX
    have oZ := ok_per oQ o3 t3
    refine ⟨_, _, _, r_by o4 oX (by omega) k S, r_per oQ o3 (by omega) t3 k S, r_sum (ok_nd sz0) oZ (by omega) k S, (ok_sum (ok_nd sz0) oZ).mono (by omega), ?_⟩
    rw [val_sum (ok_nd sz0) oZ, val_per, val_by, val_nd, v4, v3]
  rw [u_L_along, x_run]
  by_cases hd : val Y < w
  · have t2 : 0 < G2.1 := (val_pos o2).mp (by rw [v2]; grind)
    obtain ⟨Q, Z, R, f1, f2, f3, oR, vR⟩ := go G1 (o1.mono (by omega))
    refine ⟨R, oR, by rw [vR, v1]; grind, ?_⟩
    simp [b_L_along, startR, Option.bind_assoc, co, rangeU1, x_forN, b1, b2, b3, b4, t1, t2, f1, f2, f3]
  · have t2 : ¬ 0 < G2.1 := fun e => by have := (val_pos o2).mpr e; rw [v2] at this; grind
    obtain ⟨Q, Z, R, f1, f2, f3, oR, vR⟩ := go G3 (o3.mono (by omega))
    refine ⟨R, oR, by rw [vR, v3]; grind, ?_⟩
    simp [b_L_along, startR, Option.bind_assoc, co, rangeU1, x_forN, b1, b2, b3, b4, t1, t2, f1, f2, f3]
theorem speeds_ends {n : Nat} {ks : List Cr} (h : Kd n ks) : ∃ vf vl, (∃ r, speeds ks = vf :: r) ∧ (∃ r, speeds ks = r ++ [vl]) ∧ ∀ v ∈ speeds ks, vl ≤ v ∧ v ≤ vf := by
  have cc := (prs_pairwise (R := fun x y : Rat => y < x) (fun _ _ _ h g => rlt_trans g h)).mp h.conc
  obtain ⟨v0, m0, _⟩ := first_speed h
  generalize speeds ks = vs at *
  have hne : vs ≠ [] := by rintro rfl; cases m0
  obtain ⟨vf, r, e⟩ := List.exists_cons_of_ne_nil hne
  refine ⟨vf, vs.getLast hne, ⟨r, e⟩, ⟨vs.dropLast, (List.dropLast_concat_getLast hne).symm⟩, fun v m => ⟨?_, ?_⟩⟩
  · have e2 := (List.dropLast_concat_getLast hne).symm
    generalize vs.getLast hne = z at *
    rw [e2] at m cc
    rcases List.mem_append.mp m with m | m
    · have := (List.pairwise_append.mp cc).2.2 v m z (by simp); grind
    · rw [List.mem_singleton.mp m]; exact Rat.le_refl
  · rw [e] at m cc
    rcases List.mem_cons.mp m with rfl | m
    · exact Rat.le_refl
    · have := (List.pairwise_cons.mp cc).1 v m; grind
end Prog

/-! N6: the number (k49). -/
namespace Prog
open PySem PySem.Spec PyProof.Rows L2 PD
theorem good_of {ks : List Cr} {d x t y xx : Rat} {a b : Nat} {N : P2} {c : Option P2} (h : Kd 330 ks) (d0 : 0 ≤ d) (df : ¬ fullD ks < d) (oN : Ok a N) (vN : val N = -(d * y)) (hx : xx = x - y) (hc : ∀ B, c = some B → 0 ≤ t ∧ Ok b B ∧ val B = tollL ks xx t 0) (hab : a + b + 1 ≤ 8000) : Good 8000 (flow ks d * t - d * x) (N, c) where
  ok := fun B e => by
    obtain ⟨t0, oB, vB⟩ := hc B e
    refine ⟨(ok_sum oN oB).mono hab, ?_⟩
    simp only
    rw [val_sum oN oB, vN, vB]
    have := toll_weak (x := xx) h d0 df t0
    subst hx
    have e : d * (x - y) = d * x - d * y := by grind
    rw [e] at this
    generalize tollL ks (x - y) t 0 = M at *
    grind
  run := fun B e => ⟨a, b, oN, (hc B e).2.1, by omega⟩
@[simp] theorem tupG_co (n : Nat) (g : CGs) (c : Cr) (ρ : Rho) (S : Sto) : tupG n g (.d (co c)) ρ S = if 2 = n then g [fr c.1, fr c.2] ρ S else none := rfl
theorem cd_fr (q : Rat) (c : Option P2) : PyData.tuple [fr q, optD c] = cd (nd q, c) := rfl
theorem r_law_number {ks : List Cr} {d w f : Rat} (k : Nat) (h : Kd 330 ks) (zw : Sz 4 w) (w0 : 0 < w) (zd : Sz 330 d) (d0 : 0 ≤ d) (df : ¬ fullD ks < d) (zf : Sz 1325 f) (f0 : 0 < f) (hv : ∀ v ∈ speeds ks, v ≤ f ∧ -v ≤ f) (S : Sto) :
    run T (k + 5) "_law_number" [.d (ownD ks [fr w, .list [co (0, 0), co (w, -(d * w))], .list [co (0, 0)]]), .d (fr (w / 2)), .d (fr (w / 2 / f))] S = some (.d (fr (flow ks d * (w / 2 / f) - d * (w / 2))), S) := by
  have zh : Sz 2 (1 / 2 : Rat) := ⟨by unfold Lt2; decide +kernel, by unfold Lt2; decide +kernel⟩
  have zx : Sz 6 (w / 2) := by have := sz_mul zh zw; rw [show (1 / 2 : Rat) * w = w / 2 by grind] at this; exact this
  have zt : Sz 1331 (w / 2 / f) := (sz_div (by grind) zx zf).mono (by omega)
  have x0 : 0 < w / 2 := by grind
  have xw : w - w / 2 = w / 2 := by grind
  have fne : f ≠ 0 := by grind
  have tx : f * (w / 2 / f) = w / 2 := by grind
  have t0 : 0 < w / 2 / f := by rw [Rat.div_def]; exact Rat.mul_pos x0 (Rat.inv_pos.mpr f0)
  have xw2 : w / 2 ≤ w := by grind
  generalize w / 2 = x at *
  generalize x / f = t at *
  obtain ⟨vf, vl, hf, hl, hvv⟩ := speeds_ends h
  obtain ⟨vs, ms, hs⟩ := toll_strong (t := t) h d0 df (by grind)
  have zm : Sz 334 (-(d * w)) := by have := sz_mul zd zw; exact ⟨this.1.neg, this.2⟩
  -- from the beginning
  have g1 := fun S => r_gap (ok_nd zx) (ok_nd sz0) (by omega) (k + 3) S
  have p1 := ok_gap (ok_nd zx) (ok_nd sz0)
  have u1 := val_gap (ok_nd zx) (ok_nd sz0)
  have g2 := fun S => r_gap (ok_nd zx) (ok_nd zw) (by omega) (k + 3) S
  have p2 := ok_gap (ok_nd zx) (ok_nd zw)
  have u2 := val_gap (ok_nd zx) (ok_nd zw)
  have g3 := fun S => r_gap (ok_nd zt) (ok_nd sz0) (by omega) (k + 3) S
  have p3 := ok_gap (ok_nd zt) (ok_nd sz0)
  have u3 := val_gap (ok_nd zt) (ok_nd sz0)
  simp only [← fr_nd, val_nd] at g1 g2 g3 u1 u2 u3
  generalize gapP2 (nd x) (nd 0) = X1 at *
  generalize gapP2 (nd x) (nd w) = X2 at *
  generalize gapP2 (nd t) (nd 0) = T3 at *
  obtain ⟨c1, r1, a1, _⟩ := r_law_toll (rest := [fr w, .list [co (0, 0), co (w, -(d * w))], .list [co (0, 0)]]) (k + 2) h p1 (ok_nd zt) (by omega) (by omega) hf hl (S ++ [some []])
  obtain ⟨c2, r2, a2, _⟩ := r_law_toll (rest := [fr w, .list [co (0, 0), co (w, -(d * w))], .list [co (0, 0)]]) (k + 2) h p2 (ok_nd zt) (by omega) (by omega) hf hl (S ++ [some [.tuple [fr 0, optD c1]]])
  obtain ⟨c3, r3, a3, _⟩ := r_law_toll (rest := [fr w, .list [co (0, 0), co (w, -(d * w))], .list [co (0, 0)]]) (k + 2) h (ok_nd zx) p3 (by omega) (by omega) hf hl (S ++ [some [.tuple [fr 0, optD c1], .tuple [fr (-(d * w)), optD c2]]])
  rw [val_nd] at a1 a2 a3
  simp only [← fr_nd] at r1 r2 r3
  have G1 : Good 8000 (flow ks d * t - d * x) (nd 0, c1) := good_of (y := 0) h d0 df (ok_nd sz0) (by rw [val_nd]; grind) (by rw [u1]) a1 (by omega)
  have G2 : Good 8000 (flow ks d * t - d * x) (nd (-(d * w)), c2) := good_of (y := w) h d0 df (ok_nd zm) (by rw [val_nd]) (by rw [u2]) a2 (by omega)
  rw [u3, show t - 0 = t by rw [Rat.sub_eq_add_neg, Rat.neg_zero, Rat.add_zero]] at a3
  have G3 : Good 8000 (flow ks d * t - d * x) (nd 0, c3) := good_of (y := 0) h d0 df (ok_nd sz0) (by rw [val_nd]; grind) (show x = x - 0 by rw [Rat.sub_eq_add_neg, Rat.neg_zero, Rat.add_zero]) a3 (by omega)
  have szs := sz_speed h
  have sl : (speeds ks).length ≤ 11 := by unfold speeds; rw [List.length_map, prs_len]; have := h.len12; omega
  have xn : ¬ x.num = 0 := fun e => by have := Rat.num_eq_zero.mp e; grind
  rw [u_L_number, x_run]
  simp only [ownD] at r1 r2 r3 ⊢
  simp [b_L_number, startR, Option.bind_assoc, x_forN, g1, g2, g3, r1, r2, r3]
  clear r1 r2 r3 g1 g2 g3
  generalize hO : PyData.list [kd ks, PyData.list ((speeds ks).map fr), fr w, PyData.list [co (0, 0), co (w, -(d * w))], PyData.list [co (0, 0)]] = own
  rw [show [PyData.tuple [fr 0, optD c1], PyData.tuple [fr (-(d * w)), optD c2], PyData.tuple [fr 0, optD c3]] = [(nd 0, c1), (nd (-(d * w)), c2), (nd 0, c3)].map cd from rfl]
  refine forN_bind (fun o => o = some (W.d (fr (flow ks d * t - d * x)), S)) fr (fun s : List Cand × Option W × Option W × Option W => [some (.d own), some (.d (fr x)), some (.d (fr t)), s.2.1, some (.d (.list [co (0, 0), co (w, -(d * w))])), some (.d (.list [co (0, 0)])), some (.m S.length), s.2.2.1, some (.d (fr 0)), s.2.2.2]) (fun s => S ++ [some (s.1.map cd)])
    (fun l s => (∀ c ∈ s.1, Good 8000 (flow ks d * t - d * x) c) ∧ s.1.length + 2 * l.length ≤ 40 ∧ (∀ v ∈ l, v ∈ speeds ks) ∧ (vs ∈ l ∨ ∃ c ∈ s.1, ∃ B, c.2 = some B ∧ val (sumP2 c.1 B) = flow ks d * t - d * x))
    (fun fl ρ S' => ∃ (cs : List Cand) (w3 w7 w9 : Option W), fl = .nx ∧ S' = S ++ [some (cs.map cd)] ∧ ρ = [some (.d own), some (.d (fr x)), some (.d (fr t)), w3, some (.d (.list [co (0, 0), co (w, -(d * w))])), some (.d (.list [co (0, 0)])), some (.m S.length), w7, some (.d (fr 0)), w9] ∧ (∀ c ∈ cs, Good 8000 (flow ks d * t - d * x) c) ∧ ∃ c ∈ cs, ∃ B, c.2 = some B ∧ val (sumP2 c.1 B) = flow ks d * t - d * x)
    (speeds ks) ([(nd 0, c1), (nd (-(d * w)), c2), (nd 0, c3)], none, some (.d (fr w)), some (.d (fr 0))) ⟨?_, by simp only [List.length_cons, List.length_nil]; omega, fun v m => m, .inl ms⟩ rfl rfl ?_ ?_ ?_
  · intro c m
    simp at m
    rcases m with rfl | rfl | rfl <;> assumption
  · rintro ⟨cs, w3, w7, w9⟩ ⟨i1, _, _, i3⟩
    exact ⟨cs, w3, w7, w9, rfl, rfl, rfl, i1, i3.elim (fun m => by cases m) id⟩
  · rintro v l ⟨cs, w3, w7, w9⟩ ⟨i1, i2, i3, i4⟩
    have mv := i3 v List.mem_cons_self
    have i3' := fun u m => i3 u (List.mem_cons_of_mem v m)
    simp only at i1 i2 i4
    simp only [List.length_cons] at i2
    have zv := szs v mv
    obtain ⟨v1, v2⟩ := hv v mv
    have vt : v * t ≤ x ∧ -(v * t) ≤ x := by
      have q1 : 0 ≤ (f - v) * t := Rat.mul_nonneg (by grind) (by grind)
      have q2 : 0 ≤ (f + v) * t := Rat.mul_nonneg (by grind) (by grind)
      constructor <;> grind
    have e1 := fun S => r_by (ok_nd zv) (ok_nd zt) (by omega) (k + 3) S
    have p1 := ok_by (ok_nd zv) (ok_nd zt)
    have e2 := fun S => r_gap (ok_nd zx) p1 (by omega) (k + 3) S
    have p2 := ok_gap (ok_nd zx) p1
    have w1 : val (byP2 (nd v) (nd t)) = v * t := by rw [val_by, val_nd, val_nd]
    have w2 := val_gap (ok_nd zx) p1
    rw [val_nd, w1] at w2
    simp only [← fr_nd] at e1 e2
    generalize byP2 (nd v) (nd t) = VT at *
    generalize gapP2 (nd x) VT = Y at *
    have e3 := fun S => r_gap (ok_nd zw) p2 (by omega) (k + 3) S
    have p3 := ok_gap (ok_nd zw) p2
    have w3' := val_gap (ok_nd zw) p2
    rw [val_nd, w2] at w3'
    simp only [← fr_nd] at e3
    generalize gapP2 (nd w) Y = Z at *
    have y1 : 0 ≤ Y.1 := (val_nonneg p2).mp (by rw [w2]; grind)
    have y2 : 0 ≤ Z.1 := (val_nonneg p3).mp (by rw [w3']; grind)
    obtain ⟨F, oF, vF, rF⟩ := r_alongS (k + 2) zw zd w0 p2 (by omega) (by rw [w2]; grind) (by rw [w2]; grind) (S ++ [some (cs.map cd)])
    obtain ⟨c, rc, ac, bc⟩ := r_law_toll (rest := [fr w, .list [co (0, 0), co (w, -(d * w))], .list [co (0, 0)]]) (k + 2) h p1 (ok_nd zt) (by omega) (by omega) hf hl (S ++ [some (cs.map cd)])
    rw [val_nd, w1] at ac bc
    simp only [← fr_nd, ownD, hO] at rc
    have Gc : Good 8000 (flow ks d * t - d * x) (F, c) := good_of (y := x - v * t) h d0 df oF (by rw [vF, w2]) (show v * t = x - (x - v * t) by grind) ac (by omega)
    have hitc : v = vs → ∃ B, c = some B ∧ val (sumP2 F B) = flow ks d * t - d * x := by
      rintro rfl
      obtain ⟨l1, l2⟩ := hvv v mv
      have q1 : 0 ≤ (vf - v) * t := Rat.mul_nonneg (by grind) (by grind)
      have q2 : 0 ≤ (v - vl) * t := Rat.mul_nonneg (by grind) (by grind)
      obtain ⟨B, rfl⟩ := bc (by grind) (by grind) (by grind)
      obtain ⟨_, oB, vB⟩ := ac B rfl
      refine ⟨B, rfl, ?_⟩
      rw [val_sum oF oB, vF, vB, w2]
      generalize tollL ks (v * t) t 0 = M at *
      grind
    have cl : cs.length < 100000 := by omega
    have cl2 : cs.length + 1 < 100000 := by omega
    have keep : ∀ more : List Cand, (v = vs → ∃ c ∈ more, ∃ B, c.2 = some B ∧ val (sumP2 c.1 B) = flow ks d * t - d * x) → (vs ∈ l ∨ ∃ c ∈ cs ++ more, ∃ B, c.2 = some B ∧ val (sumP2 c.1 B) = flow ks d * t - d * x) := by
      intro more hm
      rcases i4 with m | ⟨c', m, hB⟩
      · rcases List.mem_cons.mp m with e | m
        · obtain ⟨c', m', hB⟩ := hm e.symm
          exact .inr ⟨c', List.mem_append_right _ m', hB⟩
        · exact .inl m
      · exact .inr ⟨c', List.mem_append_left _ m, hB⟩
    have cdF : PyData.tuple [pr F, optD c] = cd (F, c) := rfl
    have s0 : (0 < v) = (0 < v.num) := by rw [Rat.lt_iff]; simp
    by_cases v0 : 0 < v
    · have vn : 0 < v.num := s0 ▸ v0
      have e4 := fun S => r_per (ok_nd zx) (ok_nd zv) (by omega) vn (k + 3) S
      have p4 := ok_per (ok_nd zx) (ok_nd zv) vn
      have e5 := fun S => r_gap (ok_nd zt) p4 (by omega) (k + 3) S
      have p5 := ok_gap (ok_nd zt) p4
      have w5 := val_gap (ok_nd zt) p4
      rw [val_per, val_nd, val_nd, val_nd] at w5
      simp only [← fr_nd] at e4 e5
      generalize perP2 (nd x) (nd v) = Q at *
      generalize gapP2 (nd t) Q = R at *
      by_cases n5 : 0 ≤ R.1
      · have r0 := (val_nonneg p5).mpr n5
        rw [w5] at r0
        have rz : t - x / v = 0 := by
          have q3 : 0 ≤ (t - x / v) * v := Rat.mul_nonneg r0 (by grind)
          have q4 : (t - x / v) * v = t * v - x := by grind
          have q5 : (t - x / v) * v = 0 := by grind
          grind
        have e6 := fun S => r_gap (ok_nd zt) p5 (by omega) (k + 3) S
        have p6 := ok_gap (ok_nd zt) p5
        have w6 := val_gap (ok_nd zt) p5
        rw [val_nd, w5, rz] at w6
        simp only [← fr_nd] at e6
        generalize gapP2 (nd t) R = U at *
        obtain ⟨c', rc', ac', _⟩ := r_law_toll (rest := [fr w, .list [co (0, 0), co (w, -(d * w))], .list [co (0, 0)]]) (k + 2) h (ok_nd zx) p6 (by omega) (by omega) hf hl (S ++ [some (cs.map cd ++ [cd (F, c)])])
        rw [val_nd, w6, show t - 0 = t by rw [Rat.sub_eq_add_neg, Rat.neg_zero, Rat.add_zero]] at ac'
        simp only [← fr_nd, ownD, hO] at rc'
        have ra := fun S => r_along0 (k + 2) (pr R) S
        have G2' : Good 8000 (flow ks d * t - d * x) (nd 0, c') := good_of (y := 0) h d0 df (ok_nd sz0) (by rw [val_nd]; grind) (show x = x - 0 by rw [Rat.sub_eq_add_neg, Rat.neg_zero, Rat.add_zero]) ac' (by omega)
        refine .nx' (cs ++ [(F, c), (nd 0, c')], some (.d (fr v)), some (.d (pr Y)), some (.d (pr R))) ⟨?_, by simp only [List.length_append, List.length_cons, List.length_nil]; omega, i3', keep _ fun e => ⟨_, List.mem_cons_self, hitc e⟩⟩ ?_
        · intro c0 m
          rcases List.mem_append.mp m with m | m
          · exact i1 c0 m
          · simp at m
            rcases m with rfl | rfl <;> assumption
        · subst hO
          simp [e1, e2, e3, y1, y2, rF, rc, vn, e4, e5, n5, e6, ra, rc', cl, cl2, cd_fr, cdF]
      · refine .nx' (cs ++ [(F, c)], some (.d (fr v)), some (.d (pr Y)), some (.d (pr R))) ⟨?_, by simp only [List.length_append, List.length_cons, List.length_nil]; omega, i3', keep _ fun e => ⟨_, List.mem_cons_self, hitc e⟩⟩ ?_
        · intro c0 m
          rcases List.mem_append.mp m with m | m
          · exact i1 c0 m
          · rw [List.mem_singleton.mp m]; exact Gc
        · subst hO
          simp [e1, e2, e3, y1, y2, rF, rc, vn, e4, e5, n5, cl, cdF]
    · have vn : ¬ 0 < v.num := fun e => v0 (s0 ▸ e)
      refine .nx' (cs ++ [(F, c)], some (.d (fr v)), some (.d (pr Y)), some (.d (.tuple [.int (-1), .int 1]))) ⟨?_, by simp only [List.length_append, List.length_cons, List.length_nil]; omega, i3', keep _ fun e => ⟨_, List.mem_cons_self, hitc e⟩⟩ ?_
      · intro c0 m
        rcases List.mem_append.mp m with m | m
        · exact i1 c0 m
        · rw [List.mem_singleton.mp m]; exact Gc
      · subst hO
        simp [e1, e2, e3, y1, y2, rF, rc, vn, cl, cdF]
  · rintro fl ρ S' ⟨cs, w3, w7, w9, rfl, rfl, rfl, i1, i2⟩
    have b := r_law_least (k + 1) cs i1 i2 (by omega) S
    simp [xn, b]
end Prog

/-! N7: the parting scene told, the law's test of it (k49). -/
namespace Prog
open PySem PySem.Spec PyProof.Rows L2 PD
theorem r_check_amount {q : Rat} (k : Nat) (h : 0 < q) (S : Sto) : run T (k + 5) "check_amount" [.d (fr q)] S = some (.d .none, S) := by
  have n0 : 0 < q.num := by rw [Rat.lt_iff] at h; simpa using h
  have e1 : run T (k + 4) "is_amount" [.d (fr q)] S = some (.d (.bool true), S) := by
    rw [u_is_amount]
    refine run_ret (ρ := [some (.d (fr q))]) ?_
    simp [b_is_amount, startR, r_is_fraction, n0]
  rw [u_check_amount]
  refine run_nx (ρ := [some (.d (fr q))]) ?_
  simp [b_check_amount, startR, e1]
theorem r_parting_none {n : Nat} (k : Nat) {ks js : List Cr} {w : Rat} (h : Kd n ks) (g : Kd n js) (hn : n < 640) (w0 : 0 < w) (hb : bare ks js = none) (S : Sto) : run T (k + 11) "parting_scene" [.d (kd ks), .d (kd js), .d (fr w)] S = some (.d .none, S) := by
  rw [u_parting_scene]
  refine run_ret (ρ := [some (.d (kd ks)), some (.d (kd js)), some (.d (fr w))]) ?_
  simp [b_parting_scene, startR, r_check_kinds k h g (by omega), r_check_amount (k + 5) w0, r_scene_none (k + 1) h g hn hb]
theorem r_parting_some {n : Nat} (k : Nat) {ks js : List Cr} {w d : Rat} (h : Kd n ks) (g : Kd n js) (hn : n < 640) (w0 : 0 < w) (zw : Sz 4 w) (hb : bare ks js = some d) (S : Sto) : ∃ f, Fast (4 * n + 5) (speeds ks ++ speeds js) f ∧ 0 < f ∧ run T (k + 11) "parting_scene" [.d (kd ks), .d (kd js), .d (fr w)] S = some (.d (sceneD w f (some d)), S) := by
  obtain ⟨f, hF, f0, e⟩ := r_scene_some (k + 1) h g hn zw hb S
  refine ⟨f, hF, f0, ?_⟩
  rw [u_parting_scene]
  refine run_ret (ρ := [some (.d (kd ks)), some (.d (kd js)), some (.d (fr w))]) ?_
  simp [b_parting_scene, startR, r_check_kinds k h g (by omega), r_check_amount (k + 5) w0, e]
end Prog

/-! N8: the law's test of a scene (k49). -/
namespace Prog
open PySem PySem.Spec PyProof.Rows L2 PD
theorem eq_begin (w d : Rat) : eqP (beginD w d) (.tuple []) = some (.bool false) := by
  unfold eqP eqOk
  rw [if_pos (by simp [beginD, fr, PyData.canLay0, PyData.canLayAll0, PyData.depth, PyData.depthAll])]
  simp [beginD, PyData.eqv, PyData.eqvAll]
theorem r_law_is_begin {ks js : List Cr} {w d : Rat} (k : Nat) (h : Kd 330 ks) (g : Kd 330 js) (zw : Sz 4 w) (w0 : 0 < w) (zd : Sz 330 d) (d0 : 0 ≤ d) (h1 : ¬ fullD ks < d) (h2 : ¬ fullD js < d) (S : Sto) : run T (k + 4) "_law_is_begin" [.d (beginD w d), .d (fr w), .d (kd ks), .d (kd js)] S = some (.d (.bool true), S) := by
  have m1 := at_lastD h.ne
  have m2 := at_lastD g.ne
  obtain ⟨A, fA, _, iA⟩ := r_full (k + 2) h zd S
  obtain ⟨B, fB, _, iB⟩ := r_full (k + 2) g zd S
  have c1 : ¬ A.1 < 0 := fun e => h1 (iA.mp e)
  have c2 : ¬ B.1 < 0 := fun e => h2 (iB.mp e)
  have f1 := r_law_is_fraction (k + 1) (zw.mono (show 4 ≤ 330 by omega)) S
  have f2 := r_law_is_fraction (k + 1) zd S
  have wn : ¬ w.num ≤ 0 := by rw [Rat.lt_iff] at w0; simp at w0; omega
  have dn : ¬ d.num < 0 := by have := Rat.num_nonneg.mpr d0; omega
  have e1 := r_sum (ok_nd sz0) (ok_nd zw) (by omega) (k + 2) S
  have o1 := ok_sum (ok_nd sz0) (ok_nd zw)
  have e2 := r_gap o1 (ok_nd zw) (by omega) (k + 2) S
  have v2 := val_gap o1 (ok_nd zw)
  have o2 := ok_gap o1 (ok_nd zw)
  rw [val_sum (ok_nd sz0) (ok_nd zw), val_nd, val_nd, show (0 : Rat) + w - w = 0 by grind] at v2
  simp only [← fr_nd] at e1 e2
  generalize sumP2 (nd 0) (nd w) = P1 at *
  generalize gapP2 P1 (nd w) = P2 at *
  have z : P2.1 = 0 := by
    have a := (val_nonneg o2).mp (by rw [v2]; exact Rat.le_refl)
    have b := (val_nonpos o2).mp (by rw [v2]; exact Rat.le_refl)
    omega
  have eb := eq_begin w d
  rw [fr0] at e1
  rw [u_L_is_begin, x_run]
  simp only [beginD] at eb ⊢
  simp [b_L_is_begin, startR, Option.bind_assoc, eb, x_forN, f1, f2, wn, dn, kd, m1, m2, co, fA, fB, c1, c2, e1, e2, z]
end Prog

/-! N9: told apart (k49). -/
namespace Prog
open PySem PySem.Spec PyProof.Rows L2 PD
theorem r_law_is_fractionN {n : Nat} {q : Rat} (k : Nat) (zq : Sz n q) (hn : n < 9000) (S : Sto) : run T (k + 2) "_law_is_fraction" [.d (fr q)] S = some (.d (.bool true), S) := by
  have hc := r_cut k (n := n) (a := q.num) (b := q.den) (by have := q.den_pos; omega) zq.1 zq.2 hn S
  rw [Rat.num_divInt_den] at hc
  have hd : ¬ (q.den : Int) ≤ 0 := by have := q.den_pos; omega
  have e := eqP_fr q
  have hd2 : q.den ≠ 0 := q.den_nz
  rw [u_L_is_fraction]
  refine run_ret (ρ := [some (.d (fr q)), none]) ?_
  simp only [fr] at hc e ⊢
  simp [b_L_is_fraction, startR, x_lc, x_lcN, wipeR, hc, hd, hd2, e]

theorem r_law_is_parted {ks js : List Cr} {w d f : Rat} (k : Nat) (h : Kd 330 ks) (g : Kd 330 js) (zw : Sz 4 w) (w0 : 0 < w) (zd : Sz 330 d) (d0 : 0 ≤ d) (hb : Bare ks js d) (hF : Fast 1325 (speeds ks ++ speeds js) f) (f0 : 0 < f) (S : Sto) : run T (k + 6) "_law_is_parted" [.d (sceneD w f (some d)), .d (fr w), .d (kd ks), .d (kd js)] S = some (.d (.bool true), S) := by
  obtain ⟨h1, h2, h3⟩ := hb
  have zh : Sz 2 (1 / 2 : Rat) := ⟨by unfold Lt2; decide +kernel, by unfold Lt2; decide +kernel⟩
  have zx : Sz 6 (w / 2) := by have := sz_mul zh zw; rw [show (1 / 2 : Rat) * w = w / 2 by grind] at this; exact this
  have zt : Sz 1331 (w / 2 / f) := (sz_div (by grind) zx hF.sz).mono (by omega)
  have x0 : 0 < w / 2 := by grind
  have t0 : 0 < w / 2 / f := by rw [Rat.div_def]; exact Rat.mul_pos x0 (Rat.inv_pos.mpr f0)
  have a1 := r_law_is_begin (k + 1) h g zw w0 zd d0 h1 h2 S
  have a2 := r_law_is_fractionN (k + 3) zx (by omega) S
  have a3 := r_law_is_fractionN (k + 3) zt (by omega) S
  have xn : ¬ (w / 2).num < 0 := by have := Rat.num_nonneg.mpr (show 0 ≤ w / 2 by grind); omega
  have tn : ¬ (w / 2 / f).num < 0 := by have := Rat.num_nonneg.mpr (show 0 ≤ w / 2 / f by grind); omega
  have b1 := r_gap (ok_nd zw) (ok_nd zx) (by omega) (k + 4) S
  have o1 := ok_gap (ok_nd zw) (ok_nd zx)
  have v1 := val_gap (ok_nd zw) (ok_nd zx)
  simp only [← fr_nd, val_nd] at b1 v1
  generalize gapP2 (nd w) (nd (w / 2)) = G1 at *
  have g1 : ¬ G1.1 < 0 := fun e => by have := (val_neg o1).mpr e; rw [v1] at this; grind
  have c1 := r_law_own (k + 1) h zw zd S
  have c2 := r_law_own (k + 1) g zw zd S
  have n1 := r_law_number k h zw w0 zd d0 h1 hF.sz f0 (fun v m => hF.up v (List.mem_append_left _ m)) S
  have n2 := r_law_number k g zw w0 zd d0 h2 hF.sz f0 (fun v m => hF.up v (List.mem_append_right _ m)) S
  have z1 := sz_sub (sz_mul (sz_flow h zd) zt) (sz_mul zd zx)
  have z2 := sz_sub (sz_mul (sz_flow g zd) zt) (sz_mul zd zx)
  have b2 := r_gap (ok_nd z1) (ok_nd z2) (by omega) (k + 4) S
  have o2 := ok_gap (ok_nd z1) (ok_nd z2)
  have v2 := val_gap (ok_nd z1) (ok_nd z2)
  simp only [← fr_nd, val_nd] at b2 v2
  have lt : (flow ks d * (w / 2 / f) - d * (w / 2)) - (flow js d * (w / 2 / f) - d * (w / 2)) < 0 := by
    have := Rat.mul_pos (show 0 < flow js d - flow ks d by grind) t0
    grind
  generalize gapP2 _ _ = G2 at b2 o2 v2
  have g2 : G2.1 < 0 := (val_neg o2).mp (by rw [v2]; exact lt)
  rw [u_L_is_parted, x_run]
  simp only [beginD] at a1 c1 c2
  simp [b_L_is_parted, startR, Option.bind_assoc, sceneD, a1, a2, a3, xn, tn, b1, g1, c1, c2, n1, n2, b2, g2]
end Prog

/-! K49: the law of k49. -/
namespace Prog
open PySem PySem.Spec PyProof.Rows L2 PD
theorem r_right {m : Nat} (k : Nat) {t : Dice} (h : Dok m t) (hm : m < 700000) (S0 : Sto) : ∃ S', run T (k + 13) "_law_right" [.m S0.length] (S0 ++ [cellD t]) = some (.d (.bool true), S') := by
  obtain ⟨ks, t1, g, h1, e1⟩ := r_law_kind (k + 9) h (by omega) S0
  obtain ⟨js, t2, g2, h2, e2⟩ := r_kin (k + 8) h1 (by omega) g S0
  have g1 : Kd 330 ks := g.mono (by omega)
  obtain ⟨d1, t3, d10, d11, h3, e3⟩ := r_tap (k + 11) h2 (by omega) 9 (by omega) (by omega) S0 []
  obtain ⟨d2, t4, d20, d21, h4, e4⟩ := r_tap (k + 11) h3 (by omega) 5 (by omega) (by omega) S0 []
  obtain ⟨c1, zw⟩ := r_cut2 (n := 4) (k + 11) (a := 1 + d1) (b := 1 + d2) (by omega) (by omega) (by omega) (by omega) (S0 ++ [cellD t4])
  have w0 : 0 < Rat.divInt (1 + d1) (1 + d2) := divInt_pos' (by omega) (by omega)
  generalize Rat.divInt (1 + d1) (1 + d2) = w at c1 zw w0
  obtain ⟨R, hR⟩ : ∃ R, R = run T (k + 12) := ⟨_, rfl⟩
  rw [u_L_right, x_run]
  simp only [Nat.add_assoc, Nat.reduceAdd, ← hR] at e1 e2 e3 e4 c1 ⊢
  refine (?_ : (fun o => ∃ S', o = some (W.d (.bool true), S')) _)
  generalize hP : (fun o => ∃ S', o = some (W.d (.bool true), S')) = P
  simp [b_L_right, startR, e1, e2, e3, e4, c1]
  simp only [Option.bind_assoc]
  rw [show [PyData.tuple [kd ks, kd js], PyData.tuple [kd js, kd ks], PyData.tuple [kd ks, kd ks]] = [(ks, js), (js, ks), (ks, ks)].map fun p : List Cr × List Cr => PyData.tuple [kd p.1, kd p.2] from rfl]
  refine forN_bind P (fun p : List Cr × List Cr => PyData.tuple [kd p.1, kd p.2]) (fun s : Nat × Dice × Option W × Option W × Option W × Option W × Option W => [some (.m S0.length), some (.d (kd ks)), some (.d (kd js)), some (.d (fr w)), s.2.2.1, s.2.2.2.1, s.2.2.2.2.1, s.2.2.2.2.2.1, s.2.2.2.2.2.2]) (fun s => S0 ++ [cellD s.2.1])
    (fun l s => (∀ p ∈ l, Kd 330 p.1 ∧ Kd 330 p.2) ∧ Dok (m + 60 + 70 + 1 + 1 + s.1) s.2.1 ∧ s.1 + l.length = 3) (fun fl ρ S' => fl = .nx) _ (0, t4, none, none, none, none, none) ⟨(by intro p m; simp at m; rcases m with rfl | rfl | rfl <;> exact ⟨by assumption, by assumption⟩), h4, by simp⟩ rfl rfl (fun _ _ => rfl) ?_ ?_
  · rintro ⟨as, bs⟩ l ⟨i, t, w4, w5, w6, w7, w8⟩ ⟨hl, hd, hn⟩
    obtain ⟨ga, gb⟩ := hl _ List.mem_cons_self
    have hl' := fun p m => hl p (List.mem_cons_of_mem _ m)
    simp only [List.length_cons] at ga gb hd hn
    obtain ⟨d, t', d0, d1, hd', et⟩ := r_tap (k + 11) hd (by omega) 2 (by omega) (by omega) S0 []
    have hd2 : Dok (m + 60 + 70 + 1 + 1 + (i + 1)) t' := hd'
    have f1 := r_law_bare (k + 9) ga gb (S0 ++ [cellD t])
    have nf := neP_frs (bares as bs)
    cases hb : bare as bs with
    | none =>
      have hbs : bares as bs = [] := by rw [bare_head] at hb; exact List.head?_eq_none_iff.mp hb
      rw [hbs] at f1 nf
      have f2 := r_parting_none (k + 1) ga gb (by omega) w0 hb (S0 ++ [cellD t'])
      simp only [Nat.add_assoc, Nat.reduceAdd, ← hR] at f1 f2 et
      simp at nf f1
      refine .nx' (i + 1, t', some (.d (kd as)), some (.d (kd bs)), some (.d (.bool false)), some (.d (.bool (d == 0))), some (.d .none)) ⟨hl', hd2, by simp only; omega⟩ ?_
      by_cases z : d = 0 <;> simp [f1, nf, et, z, f2, eqP_bool, isNone, atW]
    | some q =>
      have hbs : ∃ r, bares as bs = q :: r := by rw [bare_head] at hb; exact List.head?_eq_some_iff.mp hb
      obtain ⟨r, hbs⟩ := hbs
      have mq : q ∈ bares as bs := by rw [hbs]; exact List.mem_cons_self
      obtain ⟨mq1, mq2⟩ := List.mem_filter.mp mq
      obtain ⟨c, mq3, ec⟩ := List.mem_map.mp mq1
      have hc := (List.mem_append.mp mq3).elim (fun m => And.intro (ga.size c m) (ga.nonneg c m)) (fun m => And.intro (gb.size c m) (gb.nonneg c m))
      rw [← ec] at mq2
      have hB : Bare as bs c.1 := by simpa using mq2
      subst ec
      rw [hbs] at f1 nf
      obtain ⟨f, hF, f0, f2⟩ := r_parting_some (k + 1) ga gb (by omega) w0 zw hb (S0 ++ [cellD t'])
      have f3 := r_law_is_parted (k + 6) ga gb zw w0 hc.1.1 hc.2 hB hF f0 (S0 ++ [cellD t'])
      have i1 : isNone (.d (sceneD w f (some c.1))) = false := rfl
      simp only [Nat.add_assoc, Nat.reduceAdd, ← hR] at f1 f2 f3 et
      simp at nf f1
      refine .nx' (i + 1, t', some (.d (kd as)), some (.d (kd bs)), some (.d (.bool true)), some (.d (.bool (d == 0))), some (.d (sceneD w f (some c.1)))) ⟨hl', hd2, by simp only; omega⟩ ?_
      by_cases z : d = 0 <;> simp [f1, nf, et, z, f2, f3, eqP_bool, i1, atW]
  · rintro fl ρ S' rfl
    rw [← hP]
    simp
theorem law_k49 (k : Nat) (ns : List Int) : run T (k + 14) "law" [.d (.list (ns.map PyData.int))] [] = some (.d (.bool true), []) := by
  obtain ⟨n, hn, hn3, e⟩ : ∃ n : Nat, 2 ≤ n ∧ n ≤ 3 ∧ (if (if (3 : Int) < ns.length then 3 else (ns.length : Int)) > 2 then (if (3 : Int) < ns.length then 3 else (ns.length : Int)) else 2) = (n : Nat) := by
    by_cases h : (3 : Int) < ns.length
    · exact ⟨3, by omega, by omega, by rw [if_pos h]; rfl⟩
    · rw [if_neg h]
      by_cases h2 : (ns.length : Int) > 2
      · exact ⟨ns.length, by omega, by omega, by rw [if_pos h2]⟩
      · exact ⟨2, by omega, by omega, by rw [if_neg h2]; rfl⟩
  have rg := rangeU_nat n [] (by omega)
  obtain ⟨S', hl⟩ := lcN_st (g := nameG 1) (elt := appE (callF (c_L_right (PD.run T (k + 13)))) (consL (appE (callF (c_L_cask (PD.run T (k + 13)))) (consL (varE 0) (consL (varE 1) nilL))) nilL)) (ρ := [some (.d (.list (ns.map PyData.int))), none])
    (fun i : Nat => PyData.int (0 + (i : Nat))) (fun i => [some (.d (.list (ns.map PyData.int))), some (.d (.int (0 + (i : Nat))))]) (fun _ => PyData.bool true) (List.range n) (fun i _ S => by simp) (fun i m S => by
      have hi := List.mem_range.mp m
      obtain ⟨t, ht, e1⟩ := r_cask (k + 12) ns i (by omega) S
      obtain ⟨S2, e2⟩ := r_right k ht (by omega) S
      exact ⟨S2, by simp [e1, e2]⟩) []
  rw [u_law, x_run]
  simp [b_law, startR, Option.bind_assoc, x_lc, wipeR, e, rg]
  rw [show rangeD 0 n = (List.range n).map fun i => PyData.int (0 + (i : Nat)) from rfl, hl]
  have ln : n ≤ 100000 := by omega
  have ab : ∀ l : List Nat, allBool (l.map fun _ => PyData.bool true) = some (l.map fun _ => true) := fun l => by
    induction l with
    | nil => rfl
    | cons x l ih => rw [List.map_cons]; unfold allBool; rw [ih]; rfl
  simp [ln, allP, ab]
end Prog

namespace Prog
open PySem PySem.Spec PyProof.Rows L2 PD
theorem stands_mk {K : PySem.W.Frag} {h : Heap} {mg : Str → Option Value} (X : K.In h) (Gn : h.Ns mainGlobals mg) {x : Str} {st : Stmt} {d : Info} {F : Addr} {od an : Option Addr} {sl : Array (Option Value)} {oc kV dc pm cd ct : Value}
    (n : PySem.W.nsIn K mainGlobals x = some (some (.ref F))) (l : K.lookup F = some ⟨oc, od, .func (PySem.W.fnOf x x (defArgs st) (defBody st) (defScope st) .none kV dc pm an cd ct), sl⟩) (q : PySem.W.codeIn K cd x = true) (t : PySem.W.keepIn K (.ref F) = true)
    (f : FnScope d.N d.ps (defScope st)) (k : ∀ r : Runs, cDef (ctxOf G T r d) st = some (d.body r)) (ha : ∀ a ∈ d.arr, a.2.2.length = d.ps.length)
    (b1 : ∀ (s : Shared) (us : List Value), us.length = d.ps.length → BindsTo s (PySem.W.fnOf x x (defArgs st) (defBody st) (defScope st) .none kV dc pm an cd ct) ⟨us, []⟩ (d.ps.zip us))
    (b2 : ∀ a ∈ d.arr, ∀ (s : Shared) (us ws : List Value), us.length = a.1 → ws.length = a.2.1.length → BindsTo s (PySem.W.fnOf x x (defArgs st) (defBody st) (defScope st) .none kV dc pm an cd ct) ⟨us, a.2.1.zip ws⟩ (d.ps.zip (atU a.2.2 (us ++ ws)))) : Stands K mg G T x d :=
  ⟨⟨st, F, _, PySem.W.mg_of X Gn n, fun_mk (st := st) l q t, f, b1, b2, ha, k⟩⟩
theorem sound {K : PySem.W.Frag} {h : Heap} {mg : Str → Option Value} (X : K.In h) (Gn : h.Ns mainGlobals mg)
    {F_is_whole : Addr} {od_is_whole an_is_whole : Option Addr} {sl_is_whole : Array (Option Value)} {oc_is_whole kV_is_whole dc_is_whole pm_is_whole cd_is_whole ct_is_whole : Value}
    {F_are_wholes : Addr} {od_are_wholes an_are_wholes : Option Addr} {sl_are_wholes : Array (Option Value)} {oc_are_wholes kV_are_wholes dc_are_wholes pm_are_wholes cd_are_wholes ct_are_wholes : Value}
    {F_common_part : Addr} {od_common_part an_common_part : Option Addr} {sl_common_part : Array (Option Value)} {oc_common_part kV_common_part dc_common_part pm_common_part cd_common_part ct_common_part : Value}
    {F_lowest : Addr} {od_lowest an_lowest : Option Addr} {sl_lowest : Array (Option Value)} {oc_lowest kV_lowest dc_lowest pm_lowest cd_lowest ct_lowest : Value}
    {F_lowest_over : Addr} {od_lowest_over an_lowest_over : Option Addr} {sl_lowest_over : Array (Option Value)} {oc_lowest_over kV_lowest_over dc_lowest_over pm_lowest_over cd_lowest_over ct_lowest_over : Value}
    {F_ratio : Addr} {od_ratio an_ratio : Option Addr} {sl_ratio : Array (Option Value)} {oc_ratio kV_ratio dc_ratio pm_ratio cd_ratio ct_ratio : Value}
    {F_plus : Addr} {od_plus an_plus : Option Addr} {sl_plus : Array (Option Value)} {oc_plus kV_plus dc_plus pm_plus cd_plus ct_plus : Value}
    {F_minus : Addr} {od_minus an_minus : Option Addr} {sl_minus : Array (Option Value)} {oc_minus kV_minus dc_minus pm_minus cd_minus ct_minus : Value}
    {F_times : Addr} {od_times an_times : Option Addr} {sl_times : Array (Option Value)} {oc_times kV_times dc_times pm_times cd_times ct_times : Value}
    {F_divided : Addr} {od_divided an_divided : Option Addr} {sl_divided : Array (Option Value)} {oc_divided kV_divided dc_divided pm_divided cd_divided ct_divided : Value}
    {F_is_below : Addr} {od_is_below an_is_below : Option Addr} {sl_is_below : Array (Option Value)} {oc_is_below kV_is_below dc_is_below pm_is_below cd_is_below ct_is_below : Value}
    {F_is_fraction : Addr} {od_is_fraction an_is_fraction : Option Addr} {sl_is_fraction : Array (Option Value)} {oc_is_fraction kV_is_fraction dc_is_fraction pm_is_fraction cd_is_fraction ct_is_fraction : Value}
    {F_is_amount : Addr} {od_is_amount an_is_amount : Option Addr} {sl_is_amount : Array (Option Value)} {oc_is_amount kV_is_amount dc_is_amount pm_is_amount cd_is_amount ct_is_amount : Value}
    {F_are_fractions : Addr} {od_are_fractions an_are_fractions : Option Addr} {sl_are_fractions : Array (Option Value)} {oc_are_fractions kV_are_fractions dc_are_fractions pm_are_fractions cd_are_fractions ct_are_fractions : Value}
    {F_check_amount : Addr} {od_check_amount an_check_amount : Option Addr} {sl_check_amount : Array (Option Value)} {oc_check_amount kV_check_amount dc_check_amount pm_check_amount cd_check_amount ct_check_amount : Value}
    {F_slope_of : Addr} {od_slope_of an_slope_of : Option Addr} {sl_slope_of : Array (Option Value)} {oc_slope_of kV_slope_of dc_slope_of pm_slope_of cd_slope_of ct_slope_of : Value}
    {F_kind_speeds : Addr} {od_kind_speeds an_kind_speeds : Option Addr} {sl_kind_speeds : Array (Option Value)} {oc_kind_speeds kV_kind_speeds dc_kind_speeds pm_kind_speeds cd_kind_speeds ct_kind_speeds : Value}
    {F_is_kind : Addr} {od_is_kind an_is_kind : Option Addr} {sl_is_kind : Array (Option Value)} {oc_is_kind kV_is_kind dc_is_kind pm_is_kind cd_is_kind ct_is_kind : Value}
    {F_is_corner : Addr} {od_is_corner an_is_corner : Option Addr} {sl_is_corner : Array (Option Value)} {oc_is_corner kV_is_corner dc_is_corner pm_is_corner cd_is_corner ct_is_corner : Value}
    {F_check_kind : Addr} {od_check_kind an_check_kind : Option Addr} {sl_check_kind : Array (Option Value)} {oc_check_kind kV_check_kind dc_check_kind pm_check_kind cd_check_kind ct_check_kind : Value}
    {F_full_density : Addr} {od_full_density an_full_density : Option Addr} {sl_full_density : Array (Option Value)} {oc_full_density kV_full_density dc_full_density pm_full_density cd_full_density ct_full_density : Value}
    {F_flow_by : Addr} {od_flow_by an_flow_by : Option Addr} {sl_flow_by : Array (Option Value)} {oc_flow_by kV_flow_by dc_flow_by pm_flow_by cd_flow_by ct_flow_by : Value}
    {F_check_kinds : Addr} {od_check_kinds an_check_kinds : Option Addr} {sl_check_kinds : Array (Option Value)} {oc_check_kinds kV_check_kinds dc_check_kinds pm_check_kinds cd_check_kinds ct_check_kinds : Value}
    {F_bare_by : Addr} {od_bare_by an_bare_by : Option Addr} {sl_bare_by : Array (Option Value)} {oc_bare_by kV_bare_by dc_bare_by pm_bare_by cd_bare_by ct_bare_by : Value}
    {F_scene_parted : Addr} {od_scene_parted an_scene_parted : Option Addr} {sl_scene_parted : Array (Option Value)} {oc_scene_parted kV_scene_parted dc_scene_parted pm_scene_parted cd_scene_parted ct_scene_parted : Value}
    {F_parting_scene : Addr} {od_parting_scene an_parting_scene : Option Addr} {sl_parting_scene : Array (Option Value)} {oc_parting_scene kV_parting_scene dc_parting_scene pm_parting_scene cd_parting_scene ct_parting_scene : Value}
    {F_L_cask : Addr} {od_L_cask an_L_cask : Option Addr} {sl_L_cask : Array (Option Value)} {oc_L_cask kV_L_cask dc_L_cask pm_L_cask cd_L_cask ct_L_cask : Value}
    {F_L_tap : Addr} {od_L_tap an_L_tap : Option Addr} {sl_L_tap : Array (Option Value)} {oc_L_tap kV_L_tap dc_L_tap pm_L_tap cd_L_tap ct_L_tap : Value}
    {F_L_of : Addr} {od_L_of an_L_of : Option Addr} {sl_L_of : Array (Option Value)} {oc_L_of kV_L_of dc_L_of pm_L_of cd_L_of ct_L_of : Value}
    {F_L_cut : Addr} {od_L_cut an_L_cut : Option Addr} {sl_L_cut : Array (Option Value)} {oc_L_cut kV_L_cut dc_L_cut pm_L_cut cd_L_cut ct_L_cut : Value}
    {F_L_even : Addr} {od_L_even an_L_even : Option Addr} {sl_L_even : Array (Option Value)} {oc_L_even kV_L_even dc_L_even pm_L_even cd_L_even ct_L_even : Value}
    {F_L_sum : Addr} {od_L_sum an_L_sum : Option Addr} {sl_L_sum : Array (Option Value)} {oc_L_sum kV_L_sum dc_L_sum pm_L_sum cd_L_sum ct_L_sum : Value}
    {F_L_gap : Addr} {od_L_gap an_L_gap : Option Addr} {sl_L_gap : Array (Option Value)} {oc_L_gap kV_L_gap dc_L_gap pm_L_gap cd_L_gap ct_L_gap : Value}
    {F_L_by : Addr} {od_L_by an_L_by : Option Addr} {sl_L_by : Array (Option Value)} {oc_L_by kV_L_by dc_L_by pm_L_by cd_L_by ct_L_by : Value}
    {F_L_per : Addr} {od_L_per an_L_per : Option Addr} {sl_L_per : Array (Option Value)} {oc_L_per kV_L_per dc_L_per pm_L_per cd_L_per ct_L_per : Value}
    {F_L_kind : Addr} {od_L_kind an_L_kind : Option Addr} {sl_L_kind : Array (Option Value)} {oc_L_kind kV_L_kind dc_L_kind pm_L_kind cd_L_kind ct_L_kind : Value}
    {F_L_speeds : Addr} {od_L_speeds an_L_speeds : Option Addr} {sl_L_speeds : Array (Option Value)} {oc_L_speeds kV_L_speeds dc_L_speeds pm_L_speeds cd_L_speeds ct_L_speeds : Value}
    {F_L_along : Addr} {od_L_along an_L_along : Option Addr} {sl_L_along : Array (Option Value)} {oc_L_along kV_L_along dc_L_along pm_L_along cd_L_along ct_L_along : Value}
    {F_L_kin : Addr} {od_L_kin an_L_kin : Option Addr} {sl_L_kin : Array (Option Value)} {oc_L_kin kV_L_kin dc_L_kin pm_L_kin cd_L_kin ct_L_kin : Value}
    {F_L_bare : Addr} {od_L_bare an_L_bare : Option Addr} {sl_L_bare : Array (Option Value)} {oc_L_bare kV_L_bare dc_L_bare pm_L_bare cd_L_bare ct_L_bare : Value}
    {F_L_is_fraction : Addr} {od_L_is_fraction an_L_is_fraction : Option Addr} {sl_L_is_fraction : Array (Option Value)} {oc_L_is_fraction kV_L_is_fraction dc_L_is_fraction pm_L_is_fraction cd_L_is_fraction ct_L_is_fraction : Value}
    {F_L_toll : Addr} {od_L_toll an_L_toll : Option Addr} {sl_L_toll : Array (Option Value)} {oc_L_toll kV_L_toll dc_L_toll pm_L_toll cd_L_toll ct_L_toll : Value}
    {F_L_least : Addr} {od_L_least an_L_least : Option Addr} {sl_L_least : Array (Option Value)} {oc_L_least kV_L_least dc_L_least pm_L_least cd_L_least ct_L_least : Value}
    {F_L_own : Addr} {od_L_own an_L_own : Option Addr} {sl_L_own : Array (Option Value)} {oc_L_own kV_L_own dc_L_own pm_L_own cd_L_own ct_L_own : Value}
    {F_L_number : Addr} {od_L_number an_L_number : Option Addr} {sl_L_number : Array (Option Value)} {oc_L_number kV_L_number dc_L_number pm_L_number cd_L_number ct_L_number : Value}
    {F_L_is_begin : Addr} {od_L_is_begin an_L_is_begin : Option Addr} {sl_L_is_begin : Array (Option Value)} {oc_L_is_begin kV_L_is_begin dc_L_is_begin pm_L_is_begin cd_L_is_begin ct_L_is_begin : Value}
    {F_L_is_parted : Addr} {od_L_is_parted an_L_is_parted : Option Addr} {sl_L_is_parted : Array (Option Value)} {oc_L_is_parted kV_L_is_parted dc_L_is_parted pm_L_is_parted cd_L_is_parted ct_L_is_parted : Value}
    {F_L_right : Addr} {od_L_right an_L_right : Option Addr} {sl_L_right : Array (Option Value)} {oc_L_right kV_L_right dc_L_right pm_L_right cd_L_right ct_L_right : Value}
    {F_law : Addr} {od_law an_law : Option Addr} {sl_law : Array (Option Value)} {oc_law kV_law dc_law pm_law cd_law ct_law : Value}
    {A_NOUGHT : Addr} {aod_NOUGHT : Option Addr} {asl_NOUGHT : Array (Option Value)} {an_NOUGHT : Nat} {at_NOUGHT_0 : Tok} {at_NOUGHT_1 : Tok}
    {tk_LEAST_CORNERS : Tok}
    {tk_MOST_CORNERS : Tok}
    {A_HALF : Addr} {aod_HALF : Option Addr} {asl_HALF : Array (Option Value)} {an_HALF : Nat} {at_HALF_0 : Tok} {at_HALF_1 : Tok}
    (n_is_whole : PySem.W.nsIn K mainGlobals "is_whole" = some (some (.ref F_is_whole))) (l_is_whole : K.lookup F_is_whole = some ⟨oc_is_whole, od_is_whole, .func (PySem.W.fnOf "is_whole" "is_whole" (defArgs s_is_whole) (defBody s_is_whole) (defScope s_is_whole) .none kV_is_whole dc_is_whole pm_is_whole an_is_whole cd_is_whole ct_is_whole), sl_is_whole⟩) (q_is_whole : PySem.W.codeIn K cd_is_whole "is_whole" = true) (t_is_whole : PySem.W.keepIn K (.ref F_is_whole) = true)
    (n_are_wholes : PySem.W.nsIn K mainGlobals "are_wholes" = some (some (.ref F_are_wholes))) (l_are_wholes : K.lookup F_are_wholes = some ⟨oc_are_wholes, od_are_wholes, .func (PySem.W.fnOf "are_wholes" "are_wholes" (defArgs s_are_wholes) (defBody s_are_wholes) (defScope s_are_wholes) .none kV_are_wholes dc_are_wholes pm_are_wholes an_are_wholes cd_are_wholes ct_are_wholes), sl_are_wholes⟩) (q_are_wholes : PySem.W.codeIn K cd_are_wholes "are_wholes" = true) (t_are_wholes : PySem.W.keepIn K (.ref F_are_wholes) = true)
    (n_common_part : PySem.W.nsIn K mainGlobals "common_part" = some (some (.ref F_common_part))) (l_common_part : K.lookup F_common_part = some ⟨oc_common_part, od_common_part, .func (PySem.W.fnOf "common_part" "common_part" (defArgs s_common_part) (defBody s_common_part) (defScope s_common_part) .none kV_common_part dc_common_part pm_common_part an_common_part cd_common_part ct_common_part), sl_common_part⟩) (q_common_part : PySem.W.codeIn K cd_common_part "common_part" = true) (t_common_part : PySem.W.keepIn K (.ref F_common_part) = true)
    (n_lowest : PySem.W.nsIn K mainGlobals "lowest" = some (some (.ref F_lowest))) (l_lowest : K.lookup F_lowest = some ⟨oc_lowest, od_lowest, .func (PySem.W.fnOf "lowest" "lowest" (defArgs s_lowest) (defBody s_lowest) (defScope s_lowest) .none kV_lowest dc_lowest pm_lowest an_lowest cd_lowest ct_lowest), sl_lowest⟩) (q_lowest : PySem.W.codeIn K cd_lowest "lowest" = true) (t_lowest : PySem.W.keepIn K (.ref F_lowest) = true)
    (n_lowest_over : PySem.W.nsIn K mainGlobals "lowest_over" = some (some (.ref F_lowest_over))) (l_lowest_over : K.lookup F_lowest_over = some ⟨oc_lowest_over, od_lowest_over, .func (PySem.W.fnOf "lowest_over" "lowest_over" (defArgs s_lowest_over) (defBody s_lowest_over) (defScope s_lowest_over) .none kV_lowest_over dc_lowest_over pm_lowest_over an_lowest_over cd_lowest_over ct_lowest_over), sl_lowest_over⟩) (q_lowest_over : PySem.W.codeIn K cd_lowest_over "lowest_over" = true) (t_lowest_over : PySem.W.keepIn K (.ref F_lowest_over) = true)
    (n_ratio : PySem.W.nsIn K mainGlobals "ratio" = some (some (.ref F_ratio))) (l_ratio : K.lookup F_ratio = some ⟨oc_ratio, od_ratio, .func (PySem.W.fnOf "ratio" "ratio" (defArgs s_ratio) (defBody s_ratio) (defScope s_ratio) .none kV_ratio dc_ratio pm_ratio an_ratio cd_ratio ct_ratio), sl_ratio⟩) (q_ratio : PySem.W.codeIn K cd_ratio "ratio" = true) (t_ratio : PySem.W.keepIn K (.ref F_ratio) = true)
    (n_plus : PySem.W.nsIn K mainGlobals "plus" = some (some (.ref F_plus))) (l_plus : K.lookup F_plus = some ⟨oc_plus, od_plus, .func (PySem.W.fnOf "plus" "plus" (defArgs s_plus) (defBody s_plus) (defScope s_plus) .none kV_plus dc_plus pm_plus an_plus cd_plus ct_plus), sl_plus⟩) (q_plus : PySem.W.codeIn K cd_plus "plus" = true) (t_plus : PySem.W.keepIn K (.ref F_plus) = true)
    (n_minus : PySem.W.nsIn K mainGlobals "minus" = some (some (.ref F_minus))) (l_minus : K.lookup F_minus = some ⟨oc_minus, od_minus, .func (PySem.W.fnOf "minus" "minus" (defArgs s_minus) (defBody s_minus) (defScope s_minus) .none kV_minus dc_minus pm_minus an_minus cd_minus ct_minus), sl_minus⟩) (q_minus : PySem.W.codeIn K cd_minus "minus" = true) (t_minus : PySem.W.keepIn K (.ref F_minus) = true)
    (n_times : PySem.W.nsIn K mainGlobals "times" = some (some (.ref F_times))) (l_times : K.lookup F_times = some ⟨oc_times, od_times, .func (PySem.W.fnOf "times" "times" (defArgs s_times) (defBody s_times) (defScope s_times) .none kV_times dc_times pm_times an_times cd_times ct_times), sl_times⟩) (q_times : PySem.W.codeIn K cd_times "times" = true) (t_times : PySem.W.keepIn K (.ref F_times) = true)
    (n_divided : PySem.W.nsIn K mainGlobals "divided" = some (some (.ref F_divided))) (l_divided : K.lookup F_divided = some ⟨oc_divided, od_divided, .func (PySem.W.fnOf "divided" "divided" (defArgs s_divided) (defBody s_divided) (defScope s_divided) .none kV_divided dc_divided pm_divided an_divided cd_divided ct_divided), sl_divided⟩) (q_divided : PySem.W.codeIn K cd_divided "divided" = true) (t_divided : PySem.W.keepIn K (.ref F_divided) = true)
    (n_is_below : PySem.W.nsIn K mainGlobals "is_below" = some (some (.ref F_is_below))) (l_is_below : K.lookup F_is_below = some ⟨oc_is_below, od_is_below, .func (PySem.W.fnOf "is_below" "is_below" (defArgs s_is_below) (defBody s_is_below) (defScope s_is_below) .none kV_is_below dc_is_below pm_is_below an_is_below cd_is_below ct_is_below), sl_is_below⟩) (q_is_below : PySem.W.codeIn K cd_is_below "is_below" = true) (t_is_below : PySem.W.keepIn K (.ref F_is_below) = true)
    (n_is_fraction : PySem.W.nsIn K mainGlobals "is_fraction" = some (some (.ref F_is_fraction))) (l_is_fraction : K.lookup F_is_fraction = some ⟨oc_is_fraction, od_is_fraction, .func (PySem.W.fnOf "is_fraction" "is_fraction" (defArgs s_is_fraction) (defBody s_is_fraction) (defScope s_is_fraction) .none kV_is_fraction dc_is_fraction pm_is_fraction an_is_fraction cd_is_fraction ct_is_fraction), sl_is_fraction⟩) (q_is_fraction : PySem.W.codeIn K cd_is_fraction "is_fraction" = true) (t_is_fraction : PySem.W.keepIn K (.ref F_is_fraction) = true)
    (n_is_amount : PySem.W.nsIn K mainGlobals "is_amount" = some (some (.ref F_is_amount))) (l_is_amount : K.lookup F_is_amount = some ⟨oc_is_amount, od_is_amount, .func (PySem.W.fnOf "is_amount" "is_amount" (defArgs s_is_amount) (defBody s_is_amount) (defScope s_is_amount) .none kV_is_amount dc_is_amount pm_is_amount an_is_amount cd_is_amount ct_is_amount), sl_is_amount⟩) (q_is_amount : PySem.W.codeIn K cd_is_amount "is_amount" = true) (t_is_amount : PySem.W.keepIn K (.ref F_is_amount) = true)
    (n_are_fractions : PySem.W.nsIn K mainGlobals "are_fractions" = some (some (.ref F_are_fractions))) (l_are_fractions : K.lookup F_are_fractions = some ⟨oc_are_fractions, od_are_fractions, .func (PySem.W.fnOf "are_fractions" "are_fractions" (defArgs s_are_fractions) (defBody s_are_fractions) (defScope s_are_fractions) .none kV_are_fractions dc_are_fractions pm_are_fractions an_are_fractions cd_are_fractions ct_are_fractions), sl_are_fractions⟩) (q_are_fractions : PySem.W.codeIn K cd_are_fractions "are_fractions" = true) (t_are_fractions : PySem.W.keepIn K (.ref F_are_fractions) = true)
    (n_check_amount : PySem.W.nsIn K mainGlobals "check_amount" = some (some (.ref F_check_amount))) (l_check_amount : K.lookup F_check_amount = some ⟨oc_check_amount, od_check_amount, .func (PySem.W.fnOf "check_amount" "check_amount" (defArgs s_check_amount) (defBody s_check_amount) (defScope s_check_amount) .none kV_check_amount dc_check_amount pm_check_amount an_check_amount cd_check_amount ct_check_amount), sl_check_amount⟩) (q_check_amount : PySem.W.codeIn K cd_check_amount "check_amount" = true) (t_check_amount : PySem.W.keepIn K (.ref F_check_amount) = true)
    (n_slope_of : PySem.W.nsIn K mainGlobals "slope_of" = some (some (.ref F_slope_of))) (l_slope_of : K.lookup F_slope_of = some ⟨oc_slope_of, od_slope_of, .func (PySem.W.fnOf "slope_of" "slope_of" (defArgs s_slope_of) (defBody s_slope_of) (defScope s_slope_of) .none kV_slope_of dc_slope_of pm_slope_of an_slope_of cd_slope_of ct_slope_of), sl_slope_of⟩) (q_slope_of : PySem.W.codeIn K cd_slope_of "slope_of" = true) (t_slope_of : PySem.W.keepIn K (.ref F_slope_of) = true)
    (n_kind_speeds : PySem.W.nsIn K mainGlobals "kind_speeds" = some (some (.ref F_kind_speeds))) (l_kind_speeds : K.lookup F_kind_speeds = some ⟨oc_kind_speeds, od_kind_speeds, .func (PySem.W.fnOf "kind_speeds" "kind_speeds" (defArgs s_kind_speeds) (defBody s_kind_speeds) (defScope s_kind_speeds) .none kV_kind_speeds dc_kind_speeds pm_kind_speeds an_kind_speeds cd_kind_speeds ct_kind_speeds), sl_kind_speeds⟩) (q_kind_speeds : PySem.W.codeIn K cd_kind_speeds "kind_speeds" = true) (t_kind_speeds : PySem.W.keepIn K (.ref F_kind_speeds) = true)
    (n_is_kind : PySem.W.nsIn K mainGlobals "is_kind" = some (some (.ref F_is_kind))) (l_is_kind : K.lookup F_is_kind = some ⟨oc_is_kind, od_is_kind, .func (PySem.W.fnOf "is_kind" "is_kind" (defArgs s_is_kind) (defBody s_is_kind) (defScope s_is_kind) .none kV_is_kind dc_is_kind pm_is_kind an_is_kind cd_is_kind ct_is_kind), sl_is_kind⟩) (q_is_kind : PySem.W.codeIn K cd_is_kind "is_kind" = true) (t_is_kind : PySem.W.keepIn K (.ref F_is_kind) = true)
    (n_is_corner : PySem.W.nsIn K mainGlobals "is_corner" = some (some (.ref F_is_corner))) (l_is_corner : K.lookup F_is_corner = some ⟨oc_is_corner, od_is_corner, .func (PySem.W.fnOf "is_corner" "is_corner" (defArgs s_is_corner) (defBody s_is_corner) (defScope s_is_corner) .none kV_is_corner dc_is_corner pm_is_corner an_is_corner cd_is_corner ct_is_corner), sl_is_corner⟩) (q_is_corner : PySem.W.codeIn K cd_is_corner "is_corner" = true) (t_is_corner : PySem.W.keepIn K (.ref F_is_corner) = true)
    (n_check_kind : PySem.W.nsIn K mainGlobals "check_kind" = some (some (.ref F_check_kind))) (l_check_kind : K.lookup F_check_kind = some ⟨oc_check_kind, od_check_kind, .func (PySem.W.fnOf "check_kind" "check_kind" (defArgs s_check_kind) (defBody s_check_kind) (defScope s_check_kind) .none kV_check_kind dc_check_kind pm_check_kind an_check_kind cd_check_kind ct_check_kind), sl_check_kind⟩) (q_check_kind : PySem.W.codeIn K cd_check_kind "check_kind" = true) (t_check_kind : PySem.W.keepIn K (.ref F_check_kind) = true)
    (n_full_density : PySem.W.nsIn K mainGlobals "full_density" = some (some (.ref F_full_density))) (l_full_density : K.lookup F_full_density = some ⟨oc_full_density, od_full_density, .func (PySem.W.fnOf "full_density" "full_density" (defArgs s_full_density) (defBody s_full_density) (defScope s_full_density) .none kV_full_density dc_full_density pm_full_density an_full_density cd_full_density ct_full_density), sl_full_density⟩) (q_full_density : PySem.W.codeIn K cd_full_density "full_density" = true) (t_full_density : PySem.W.keepIn K (.ref F_full_density) = true)
    (n_flow_by : PySem.W.nsIn K mainGlobals "flow_by" = some (some (.ref F_flow_by))) (l_flow_by : K.lookup F_flow_by = some ⟨oc_flow_by, od_flow_by, .func (PySem.W.fnOf "flow_by" "flow_by" (defArgs s_flow_by) (defBody s_flow_by) (defScope s_flow_by) .none kV_flow_by dc_flow_by pm_flow_by an_flow_by cd_flow_by ct_flow_by), sl_flow_by⟩) (q_flow_by : PySem.W.codeIn K cd_flow_by "flow_by" = true) (t_flow_by : PySem.W.keepIn K (.ref F_flow_by) = true)
    (n_check_kinds : PySem.W.nsIn K mainGlobals "check_kinds" = some (some (.ref F_check_kinds))) (l_check_kinds : K.lookup F_check_kinds = some ⟨oc_check_kinds, od_check_kinds, .func (PySem.W.fnOf "check_kinds" "check_kinds" (defArgs s_check_kinds) (defBody s_check_kinds) (defScope s_check_kinds) .none kV_check_kinds dc_check_kinds pm_check_kinds an_check_kinds cd_check_kinds ct_check_kinds), sl_check_kinds⟩) (q_check_kinds : PySem.W.codeIn K cd_check_kinds "check_kinds" = true) (t_check_kinds : PySem.W.keepIn K (.ref F_check_kinds) = true)
    (n_bare_by : PySem.W.nsIn K mainGlobals "bare_by" = some (some (.ref F_bare_by))) (l_bare_by : K.lookup F_bare_by = some ⟨oc_bare_by, od_bare_by, .func (PySem.W.fnOf "bare_by" "bare_by" (defArgs s_bare_by) (defBody s_bare_by) (defScope s_bare_by) .none kV_bare_by dc_bare_by pm_bare_by an_bare_by cd_bare_by ct_bare_by), sl_bare_by⟩) (q_bare_by : PySem.W.codeIn K cd_bare_by "bare_by" = true) (t_bare_by : PySem.W.keepIn K (.ref F_bare_by) = true)
    (n_scene_parted : PySem.W.nsIn K mainGlobals "scene_parted" = some (some (.ref F_scene_parted))) (l_scene_parted : K.lookup F_scene_parted = some ⟨oc_scene_parted, od_scene_parted, .func (PySem.W.fnOf "scene_parted" "scene_parted" (defArgs s_scene_parted) (defBody s_scene_parted) (defScope s_scene_parted) .none kV_scene_parted dc_scene_parted pm_scene_parted an_scene_parted cd_scene_parted ct_scene_parted), sl_scene_parted⟩) (q_scene_parted : PySem.W.codeIn K cd_scene_parted "scene_parted" = true) (t_scene_parted : PySem.W.keepIn K (.ref F_scene_parted) = true)
    (n_parting_scene : PySem.W.nsIn K mainGlobals "parting_scene" = some (some (.ref F_parting_scene))) (l_parting_scene : K.lookup F_parting_scene = some ⟨oc_parting_scene, od_parting_scene, .func (PySem.W.fnOf "parting_scene" "parting_scene" (defArgs s_parting_scene) (defBody s_parting_scene) (defScope s_parting_scene) .none kV_parting_scene dc_parting_scene pm_parting_scene an_parting_scene cd_parting_scene ct_parting_scene), sl_parting_scene⟩) (q_parting_scene : PySem.W.codeIn K cd_parting_scene "parting_scene" = true) (t_parting_scene : PySem.W.keepIn K (.ref F_parting_scene) = true)
    (n_L_cask : PySem.W.nsIn K mainGlobals "_law_cask" = some (some (.ref F_L_cask))) (l_L_cask : K.lookup F_L_cask = some ⟨oc_L_cask, od_L_cask, .func (PySem.W.fnOf "_law_cask" "_law_cask" (defArgs s_L_cask) (defBody s_L_cask) (defScope s_L_cask) .none kV_L_cask dc_L_cask pm_L_cask an_L_cask cd_L_cask ct_L_cask), sl_L_cask⟩) (q_L_cask : PySem.W.codeIn K cd_L_cask "_law_cask" = true) (t_L_cask : PySem.W.keepIn K (.ref F_L_cask) = true)
    (n_L_tap : PySem.W.nsIn K mainGlobals "_law_tap" = some (some (.ref F_L_tap))) (l_L_tap : K.lookup F_L_tap = some ⟨oc_L_tap, od_L_tap, .func (PySem.W.fnOf "_law_tap" "_law_tap" (defArgs s_L_tap) (defBody s_L_tap) (defScope s_L_tap) .none kV_L_tap dc_L_tap pm_L_tap an_L_tap cd_L_tap ct_L_tap), sl_L_tap⟩) (q_L_tap : PySem.W.codeIn K cd_L_tap "_law_tap" = true) (t_L_tap : PySem.W.keepIn K (.ref F_L_tap) = true)
    (n_L_of : PySem.W.nsIn K mainGlobals "_law_of" = some (some (.ref F_L_of))) (l_L_of : K.lookup F_L_of = some ⟨oc_L_of, od_L_of, .func (PySem.W.fnOf "_law_of" "_law_of" (defArgs s_L_of) (defBody s_L_of) (defScope s_L_of) .none kV_L_of dc_L_of pm_L_of an_L_of cd_L_of ct_L_of), sl_L_of⟩) (q_L_of : PySem.W.codeIn K cd_L_of "_law_of" = true) (t_L_of : PySem.W.keepIn K (.ref F_L_of) = true)
    (n_L_cut : PySem.W.nsIn K mainGlobals "_law_cut" = some (some (.ref F_L_cut))) (l_L_cut : K.lookup F_L_cut = some ⟨oc_L_cut, od_L_cut, .func (PySem.W.fnOf "_law_cut" "_law_cut" (defArgs s_L_cut) (defBody s_L_cut) (defScope s_L_cut) .none kV_L_cut dc_L_cut pm_L_cut an_L_cut cd_L_cut ct_L_cut), sl_L_cut⟩) (q_L_cut : PySem.W.codeIn K cd_L_cut "_law_cut" = true) (t_L_cut : PySem.W.keepIn K (.ref F_L_cut) = true)
    (n_L_even : PySem.W.nsIn K mainGlobals "_law_even" = some (some (.ref F_L_even))) (l_L_even : K.lookup F_L_even = some ⟨oc_L_even, od_L_even, .func (PySem.W.fnOf "_law_even" "_law_even" (defArgs s_L_even) (defBody s_L_even) (defScope s_L_even) .none kV_L_even dc_L_even pm_L_even an_L_even cd_L_even ct_L_even), sl_L_even⟩) (q_L_even : PySem.W.codeIn K cd_L_even "_law_even" = true) (t_L_even : PySem.W.keepIn K (.ref F_L_even) = true)
    (n_L_sum : PySem.W.nsIn K mainGlobals "_law_sum" = some (some (.ref F_L_sum))) (l_L_sum : K.lookup F_L_sum = some ⟨oc_L_sum, od_L_sum, .func (PySem.W.fnOf "_law_sum" "_law_sum" (defArgs s_L_sum) (defBody s_L_sum) (defScope s_L_sum) .none kV_L_sum dc_L_sum pm_L_sum an_L_sum cd_L_sum ct_L_sum), sl_L_sum⟩) (q_L_sum : PySem.W.codeIn K cd_L_sum "_law_sum" = true) (t_L_sum : PySem.W.keepIn K (.ref F_L_sum) = true)
    (n_L_gap : PySem.W.nsIn K mainGlobals "_law_gap" = some (some (.ref F_L_gap))) (l_L_gap : K.lookup F_L_gap = some ⟨oc_L_gap, od_L_gap, .func (PySem.W.fnOf "_law_gap" "_law_gap" (defArgs s_L_gap) (defBody s_L_gap) (defScope s_L_gap) .none kV_L_gap dc_L_gap pm_L_gap an_L_gap cd_L_gap ct_L_gap), sl_L_gap⟩) (q_L_gap : PySem.W.codeIn K cd_L_gap "_law_gap" = true) (t_L_gap : PySem.W.keepIn K (.ref F_L_gap) = true)
    (n_L_by : PySem.W.nsIn K mainGlobals "_law_by" = some (some (.ref F_L_by))) (l_L_by : K.lookup F_L_by = some ⟨oc_L_by, od_L_by, .func (PySem.W.fnOf "_law_by" "_law_by" (defArgs s_L_by) (defBody s_L_by) (defScope s_L_by) .none kV_L_by dc_L_by pm_L_by an_L_by cd_L_by ct_L_by), sl_L_by⟩) (q_L_by : PySem.W.codeIn K cd_L_by "_law_by" = true) (t_L_by : PySem.W.keepIn K (.ref F_L_by) = true)
    (n_L_per : PySem.W.nsIn K mainGlobals "_law_per" = some (some (.ref F_L_per))) (l_L_per : K.lookup F_L_per = some ⟨oc_L_per, od_L_per, .func (PySem.W.fnOf "_law_per" "_law_per" (defArgs s_L_per) (defBody s_L_per) (defScope s_L_per) .none kV_L_per dc_L_per pm_L_per an_L_per cd_L_per ct_L_per), sl_L_per⟩) (q_L_per : PySem.W.codeIn K cd_L_per "_law_per" = true) (t_L_per : PySem.W.keepIn K (.ref F_L_per) = true)
    (n_L_kind : PySem.W.nsIn K mainGlobals "_law_kind" = some (some (.ref F_L_kind))) (l_L_kind : K.lookup F_L_kind = some ⟨oc_L_kind, od_L_kind, .func (PySem.W.fnOf "_law_kind" "_law_kind" (defArgs s_L_kind) (defBody s_L_kind) (defScope s_L_kind) .none kV_L_kind dc_L_kind pm_L_kind an_L_kind cd_L_kind ct_L_kind), sl_L_kind⟩) (q_L_kind : PySem.W.codeIn K cd_L_kind "_law_kind" = true) (t_L_kind : PySem.W.keepIn K (.ref F_L_kind) = true)
    (n_L_speeds : PySem.W.nsIn K mainGlobals "_law_speeds" = some (some (.ref F_L_speeds))) (l_L_speeds : K.lookup F_L_speeds = some ⟨oc_L_speeds, od_L_speeds, .func (PySem.W.fnOf "_law_speeds" "_law_speeds" (defArgs s_L_speeds) (defBody s_L_speeds) (defScope s_L_speeds) .none kV_L_speeds dc_L_speeds pm_L_speeds an_L_speeds cd_L_speeds ct_L_speeds), sl_L_speeds⟩) (q_L_speeds : PySem.W.codeIn K cd_L_speeds "_law_speeds" = true) (t_L_speeds : PySem.W.keepIn K (.ref F_L_speeds) = true)
    (n_L_along : PySem.W.nsIn K mainGlobals "_law_along" = some (some (.ref F_L_along))) (l_L_along : K.lookup F_L_along = some ⟨oc_L_along, od_L_along, .func (PySem.W.fnOf "_law_along" "_law_along" (defArgs s_L_along) (defBody s_L_along) (defScope s_L_along) .none kV_L_along dc_L_along pm_L_along an_L_along cd_L_along ct_L_along), sl_L_along⟩) (q_L_along : PySem.W.codeIn K cd_L_along "_law_along" = true) (t_L_along : PySem.W.keepIn K (.ref F_L_along) = true)
    (n_L_kin : PySem.W.nsIn K mainGlobals "_law_kin" = some (some (.ref F_L_kin))) (l_L_kin : K.lookup F_L_kin = some ⟨oc_L_kin, od_L_kin, .func (PySem.W.fnOf "_law_kin" "_law_kin" (defArgs s_L_kin) (defBody s_L_kin) (defScope s_L_kin) .none kV_L_kin dc_L_kin pm_L_kin an_L_kin cd_L_kin ct_L_kin), sl_L_kin⟩) (q_L_kin : PySem.W.codeIn K cd_L_kin "_law_kin" = true) (t_L_kin : PySem.W.keepIn K (.ref F_L_kin) = true)
    (n_L_bare : PySem.W.nsIn K mainGlobals "_law_bare" = some (some (.ref F_L_bare))) (l_L_bare : K.lookup F_L_bare = some ⟨oc_L_bare, od_L_bare, .func (PySem.W.fnOf "_law_bare" "_law_bare" (defArgs s_L_bare) (defBody s_L_bare) (defScope s_L_bare) .none kV_L_bare dc_L_bare pm_L_bare an_L_bare cd_L_bare ct_L_bare), sl_L_bare⟩) (q_L_bare : PySem.W.codeIn K cd_L_bare "_law_bare" = true) (t_L_bare : PySem.W.keepIn K (.ref F_L_bare) = true)
    (n_L_is_fraction : PySem.W.nsIn K mainGlobals "_law_is_fraction" = some (some (.ref F_L_is_fraction))) (l_L_is_fraction : K.lookup F_L_is_fraction = some ⟨oc_L_is_fraction, od_L_is_fraction, .func (PySem.W.fnOf "_law_is_fraction" "_law_is_fraction" (defArgs s_L_is_fraction) (defBody s_L_is_fraction) (defScope s_L_is_fraction) .none kV_L_is_fraction dc_L_is_fraction pm_L_is_fraction an_L_is_fraction cd_L_is_fraction ct_L_is_fraction), sl_L_is_fraction⟩) (q_L_is_fraction : PySem.W.codeIn K cd_L_is_fraction "_law_is_fraction" = true) (t_L_is_fraction : PySem.W.keepIn K (.ref F_L_is_fraction) = true)
    (n_L_toll : PySem.W.nsIn K mainGlobals "_law_toll" = some (some (.ref F_L_toll))) (l_L_toll : K.lookup F_L_toll = some ⟨oc_L_toll, od_L_toll, .func (PySem.W.fnOf "_law_toll" "_law_toll" (defArgs s_L_toll) (defBody s_L_toll) (defScope s_L_toll) .none kV_L_toll dc_L_toll pm_L_toll an_L_toll cd_L_toll ct_L_toll), sl_L_toll⟩) (q_L_toll : PySem.W.codeIn K cd_L_toll "_law_toll" = true) (t_L_toll : PySem.W.keepIn K (.ref F_L_toll) = true)
    (n_L_least : PySem.W.nsIn K mainGlobals "_law_least" = some (some (.ref F_L_least))) (l_L_least : K.lookup F_L_least = some ⟨oc_L_least, od_L_least, .func (PySem.W.fnOf "_law_least" "_law_least" (defArgs s_L_least) (defBody s_L_least) (defScope s_L_least) .none kV_L_least dc_L_least pm_L_least an_L_least cd_L_least ct_L_least), sl_L_least⟩) (q_L_least : PySem.W.codeIn K cd_L_least "_law_least" = true) (t_L_least : PySem.W.keepIn K (.ref F_L_least) = true)
    (n_L_own : PySem.W.nsIn K mainGlobals "_law_own" = some (some (.ref F_L_own))) (l_L_own : K.lookup F_L_own = some ⟨oc_L_own, od_L_own, .func (PySem.W.fnOf "_law_own" "_law_own" (defArgs s_L_own) (defBody s_L_own) (defScope s_L_own) .none kV_L_own dc_L_own pm_L_own an_L_own cd_L_own ct_L_own), sl_L_own⟩) (q_L_own : PySem.W.codeIn K cd_L_own "_law_own" = true) (t_L_own : PySem.W.keepIn K (.ref F_L_own) = true)
    (n_L_number : PySem.W.nsIn K mainGlobals "_law_number" = some (some (.ref F_L_number))) (l_L_number : K.lookup F_L_number = some ⟨oc_L_number, od_L_number, .func (PySem.W.fnOf "_law_number" "_law_number" (defArgs s_L_number) (defBody s_L_number) (defScope s_L_number) .none kV_L_number dc_L_number pm_L_number an_L_number cd_L_number ct_L_number), sl_L_number⟩) (q_L_number : PySem.W.codeIn K cd_L_number "_law_number" = true) (t_L_number : PySem.W.keepIn K (.ref F_L_number) = true)
    (n_L_is_begin : PySem.W.nsIn K mainGlobals "_law_is_begin" = some (some (.ref F_L_is_begin))) (l_L_is_begin : K.lookup F_L_is_begin = some ⟨oc_L_is_begin, od_L_is_begin, .func (PySem.W.fnOf "_law_is_begin" "_law_is_begin" (defArgs s_L_is_begin) (defBody s_L_is_begin) (defScope s_L_is_begin) .none kV_L_is_begin dc_L_is_begin pm_L_is_begin an_L_is_begin cd_L_is_begin ct_L_is_begin), sl_L_is_begin⟩) (q_L_is_begin : PySem.W.codeIn K cd_L_is_begin "_law_is_begin" = true) (t_L_is_begin : PySem.W.keepIn K (.ref F_L_is_begin) = true)
    (n_L_is_parted : PySem.W.nsIn K mainGlobals "_law_is_parted" = some (some (.ref F_L_is_parted))) (l_L_is_parted : K.lookup F_L_is_parted = some ⟨oc_L_is_parted, od_L_is_parted, .func (PySem.W.fnOf "_law_is_parted" "_law_is_parted" (defArgs s_L_is_parted) (defBody s_L_is_parted) (defScope s_L_is_parted) .none kV_L_is_parted dc_L_is_parted pm_L_is_parted an_L_is_parted cd_L_is_parted ct_L_is_parted), sl_L_is_parted⟩) (q_L_is_parted : PySem.W.codeIn K cd_L_is_parted "_law_is_parted" = true) (t_L_is_parted : PySem.W.keepIn K (.ref F_L_is_parted) = true)
    (n_L_right : PySem.W.nsIn K mainGlobals "_law_right" = some (some (.ref F_L_right))) (l_L_right : K.lookup F_L_right = some ⟨oc_L_right, od_L_right, .func (PySem.W.fnOf "_law_right" "_law_right" (defArgs s_L_right) (defBody s_L_right) (defScope s_L_right) .none kV_L_right dc_L_right pm_L_right an_L_right cd_L_right ct_L_right), sl_L_right⟩) (q_L_right : PySem.W.codeIn K cd_L_right "_law_right" = true) (t_L_right : PySem.W.keepIn K (.ref F_L_right) = true)
    (n_law : PySem.W.nsIn K mainGlobals "law" = some (some (.ref F_law))) (l_law : K.lookup F_law = some ⟨oc_law, od_law, .func (PySem.W.fnOf "law" "law" (defArgs s_law) (defBody s_law) (defScope s_law) .none kV_law dc_law pm_law an_law cd_law ct_law), sl_law⟩) (q_law : PySem.W.codeIn K cd_law "law" = true) (t_law : PySem.W.keepIn K (.ref F_law) = true)
    (n_NOUGHT : PySem.W.nsIn K mainGlobals "NOUGHT" = some (some (.ref A_NOUGHT))) (l_NOUGHT : K.lookup A_NOUGHT = some ⟨.type "tuple", aod_NOUGHT, .seq #[.int 0 at_NOUGHT_0, .int 1 at_NOUGHT_1] an_NOUGHT, asl_NOUGHT⟩)
    (n_LEAST_CORNERS : PySem.W.nsIn K mainGlobals "LEAST_CORNERS" = some (some (.int 3 tk_LEAST_CORNERS)))
    (n_MOST_CORNERS : PySem.W.nsIn K mainGlobals "MOST_CORNERS" = some (some (.int 12 tk_MOST_CORNERS)))
    (n_HALF : PySem.W.nsIn K mainGlobals "HALF" = some (some (.ref A_HALF))) (l_HALF : K.lookup A_HALF = some ⟨.type "tuple", aod_HALF, .seq #[.int 1 at_HALF_0, .int 2 at_HALF_1] an_HALF, asl_HALF⟩)
    (n_gcd : PySem.W.nsIn K mainGlobals "gcd" = some (some (.builtin "math.gcd")))
    (z_len : PySem.W.nsIn K mainGlobals "len" = some none)
    (z_int : PySem.W.nsIn K mainGlobals "int" = some none)
    (z_tuple : PySem.W.nsIn K mainGlobals "tuple" = some none)
    (z_abs : PySem.W.nsIn K mainGlobals "abs" = some none)
    (z_max : PySem.W.nsIn K mainGlobals "max" = some none)
    (z_min : PySem.W.nsIn K mainGlobals "min" = some none)
    (z_all : PySem.W.nsIn K mainGlobals "all" = some none)
    (z_divmod : PySem.W.nsIn K mainGlobals "divmod" = some none)
    (z_isinstance : PySem.W.nsIn K mainGlobals "isinstance" = some none)
    (z_bool : PySem.W.nsIn K mainGlobals "bool" = some none)
    (z_range : PySem.W.nsIn K mainGlobals "range" = some none)
    (z_zip : PySem.W.nsIn K mainGlobals "zip" = some none) : Sound K mg G T := by
  refine ⟨fun y hy => ?_, fun x d hx => ?_, fun x d hx => ?_, fun x hx => ?_⟩
  · simp only [T, List.mem_cons, List.not_mem_nil, or_false] at hy
    rcases hy with rfl | rfl | rfl | rfl | rfl | rfl | rfl | rfl | rfl | rfl | rfl | rfl | rfl | rfl | rfl | rfl | rfl | rfl | rfl | rfl | rfl | rfl | rfl | rfl | rfl | rfl | rfl | rfl | rfl | rfl | rfl | rfl | rfl | rfl | rfl | rfl | rfl | rfl | rfl | rfl | rfl | rfl | rfl | rfl | rfl | rfl | rfl | rfl | rfl
    · exact stands_mk X Gn n_is_whole l_is_whole q_is_whole t_is_whole f_is_whole k_is_whole (fun _ z => nomatch z) (fun _ us h => match us, h with | [_], _ => .of_eq rfl) (fun _ z => nomatch z)
    · exact stands_mk X Gn n_are_wholes l_are_wholes q_are_wholes t_are_wholes f_are_wholes k_are_wholes (fun _ z => nomatch z) (fun _ us h => match us, h with | [_, _], _ => .of_eq rfl) (fun _ z => nomatch z)
    · exact stands_mk X Gn n_common_part l_common_part q_common_part t_common_part f_common_part k_common_part (fun _ z => nomatch z) (fun _ us h => match us, h with | [_], _ => .of_eq rfl) (fun _ z => nomatch z)
    · exact stands_mk X Gn n_lowest l_lowest q_lowest t_lowest f_lowest k_lowest (fun _ z => nomatch z) (fun _ us h => match us, h with | [_], _ => .of_eq rfl) (fun _ z => nomatch z)
    · exact stands_mk X Gn n_lowest_over l_lowest_over q_lowest_over t_lowest_over f_lowest_over k_lowest_over (fun _ z => nomatch z) (fun _ us h => match us, h with | [_, _], _ => .of_eq rfl) (fun _ z => nomatch z)
    · exact stands_mk X Gn n_ratio l_ratio q_ratio t_ratio f_ratio k_ratio (fun _ z => nomatch z) (fun _ us h => match us, h with | [_, _], _ => .of_eq rfl) (fun _ z => nomatch z)
    · exact stands_mk X Gn n_plus l_plus q_plus t_plus f_plus k_plus (fun _ z => nomatch z) (fun _ us h => match us, h with | [_, _], _ => .of_eq rfl) (fun _ z => nomatch z)
    · exact stands_mk X Gn n_minus l_minus q_minus t_minus f_minus k_minus (fun _ z => nomatch z) (fun _ us h => match us, h with | [_, _], _ => .of_eq rfl) (fun _ z => nomatch z)
    · exact stands_mk X Gn n_times l_times q_times t_times f_times k_times (fun _ z => nomatch z) (fun _ us h => match us, h with | [_, _], _ => .of_eq rfl) (fun _ z => nomatch z)
    · exact stands_mk X Gn n_divided l_divided q_divided t_divided f_divided k_divided (fun _ z => nomatch z) (fun _ us h => match us, h with | [_, _], _ => .of_eq rfl) (fun _ z => nomatch z)
    · exact stands_mk X Gn n_is_below l_is_below q_is_below t_is_below f_is_below k_is_below (fun _ z => nomatch z) (fun _ us h => match us, h with | [_, _], _ => .of_eq rfl) (fun _ z => nomatch z)
    · exact stands_mk X Gn n_is_fraction l_is_fraction q_is_fraction t_is_fraction f_is_fraction k_is_fraction (fun _ z => nomatch z) (fun _ us h => match us, h with | [_], _ => .of_eq rfl) (fun _ z => nomatch z)
    · exact stands_mk X Gn n_is_amount l_is_amount q_is_amount t_is_amount f_is_amount k_is_amount (fun _ z => nomatch z) (fun _ us h => match us, h with | [_], _ => .of_eq rfl) (fun _ z => nomatch z)
    · exact stands_mk X Gn n_are_fractions l_are_fractions q_are_fractions t_are_fractions f_are_fractions k_are_fractions (fun _ z => nomatch z) (fun _ us h => match us, h with | [_, _], _ => .of_eq rfl) (fun _ z => nomatch z)
    · exact stands_mk X Gn n_check_amount l_check_amount q_check_amount t_check_amount f_check_amount k_check_amount (fun _ z => nomatch z) (fun _ us h => match us, h with | [_], _ => .of_eq rfl) (fun _ z => nomatch z)
    · exact stands_mk X Gn n_slope_of l_slope_of q_slope_of t_slope_of f_slope_of k_slope_of (fun _ z => nomatch z) (fun _ us h => match us, h with | [_, _], _ => .of_eq rfl) (fun _ z => nomatch z)
    · exact stands_mk X Gn n_kind_speeds l_kind_speeds q_kind_speeds t_kind_speeds f_kind_speeds k_kind_speeds (fun _ z => nomatch z) (fun _ us h => match us, h with | [_], _ => .of_eq rfl) (fun _ z => nomatch z)
    · exact stands_mk X Gn n_is_kind l_is_kind q_is_kind t_is_kind f_is_kind k_is_kind (fun _ z => nomatch z) (fun _ us h => match us, h with | [_], _ => .of_eq rfl) (fun _ z => nomatch z)
    · exact stands_mk X Gn n_is_corner l_is_corner q_is_corner t_is_corner f_is_corner k_is_corner (fun _ z => nomatch z) (fun _ us h => match us, h with | [_], _ => .of_eq rfl) (fun _ z => nomatch z)
    · exact stands_mk X Gn n_check_kind l_check_kind q_check_kind t_check_kind f_check_kind k_check_kind (fun _ z => nomatch z) (fun _ us h => match us, h with | [_], _ => .of_eq rfl) (fun _ z => nomatch z)
    · exact stands_mk X Gn n_full_density l_full_density q_full_density t_full_density f_full_density k_full_density (fun _ z => nomatch z) (fun _ us h => match us, h with | [_], _ => .of_eq rfl) (fun _ z => nomatch z)
    · exact stands_mk X Gn n_flow_by l_flow_by q_flow_by t_flow_by f_flow_by k_flow_by (fun _ z => nomatch z) (fun _ us h => match us, h with | [_, _], _ => .of_eq rfl) (fun _ z => nomatch z)
    · exact stands_mk X Gn n_check_kinds l_check_kinds q_check_kinds t_check_kinds f_check_kinds k_check_kinds (fun _ z => nomatch z) (fun _ us h => match us, h with | [_, _], _ => .of_eq rfl) (fun _ z => nomatch z)
    · exact stands_mk X Gn n_bare_by l_bare_by q_bare_by t_bare_by f_bare_by k_bare_by (fun _ z => nomatch z) (fun _ us h => match us, h with | [_, _], _ => .of_eq rfl) (fun _ z => nomatch z)
    · exact stands_mk X Gn n_scene_parted l_scene_parted q_scene_parted t_scene_parted f_scene_parted k_scene_parted (fun _ z => nomatch z) (fun _ us h => match us, h with | [_, _, _], _ => .of_eq rfl) (fun _ z => nomatch z)
    · have b2 : ∀ a ∈ a_parting_scene, ∀ (s : Shared) (us ws : List Value), us.length = a.1 → ws.length = a.2.1.length → BindsTo s (PySem.W.fnOf "parting_scene" "parting_scene" (defArgs s_parting_scene) (defBody s_parting_scene) (defScope s_parting_scene) .none kV_parting_scene dc_parting_scene pm_parting_scene an_parting_scene cd_parting_scene ct_parting_scene) ⟨us, a.2.1.zip ws⟩ (p_parting_scene.zip (atU a.2.2 (us ++ ws))) := by
        intro a ha
        simp only [a_parting_scene, List.mem_cons, List.not_mem_nil, or_false] at ha
        rcases ha with rfl
        · intro s us ws h1 h2; exact match us, h1, ws, h2 with | [], _, [_, _, _], _ => .of_eq rfl
      exact stands_mk X Gn n_parting_scene l_parting_scene q_parting_scene t_parting_scene f_parting_scene k_parting_scene (by decide) (fun _ us h => match us, h with | [_, _, _], _ => .of_eq rfl) b2
    · exact stands_mk X Gn n_L_cask l_L_cask q_L_cask t_L_cask f_L_cask k_L_cask (fun _ z => nomatch z) (fun _ us h => match us, h with | [_, _], _ => .of_eq rfl) (fun _ z => nomatch z)
    · exact stands_mk X Gn n_L_tap l_L_tap q_L_tap t_L_tap f_L_tap k_L_tap (fun _ z => nomatch z) (fun _ us h => match us, h with | [_, _], _ => .of_eq rfl) (fun _ z => nomatch z)
    · exact stands_mk X Gn n_L_of l_L_of q_L_of t_L_of f_L_of k_L_of (fun _ z => nomatch z) (fun _ us h => match us, h with | [_, _], _ => .of_eq rfl) (fun _ z => nomatch z)
    · exact stands_mk X Gn n_L_cut l_L_cut q_L_cut t_L_cut f_L_cut k_L_cut (fun _ z => nomatch z) (fun _ us h => match us, h with | [_, _], _ => .of_eq rfl) (fun _ z => nomatch z)
    · exact stands_mk X Gn n_L_even l_L_even q_L_even t_L_even f_L_even k_L_even (fun _ z => nomatch z) (fun _ us h => match us, h with | [_], _ => .of_eq rfl) (fun _ z => nomatch z)
    · exact stands_mk X Gn n_L_sum l_L_sum q_L_sum t_L_sum f_L_sum k_L_sum (fun _ z => nomatch z) (fun _ us h => match us, h with | [_, _], _ => .of_eq rfl) (fun _ z => nomatch z)
    · exact stands_mk X Gn n_L_gap l_L_gap q_L_gap t_L_gap f_L_gap k_L_gap (fun _ z => nomatch z) (fun _ us h => match us, h with | [_, _], _ => .of_eq rfl) (fun _ z => nomatch z)
    · exact stands_mk X Gn n_L_by l_L_by q_L_by t_L_by f_L_by k_L_by (fun _ z => nomatch z) (fun _ us h => match us, h with | [_, _], _ => .of_eq rfl) (fun _ z => nomatch z)
    · exact stands_mk X Gn n_L_per l_L_per q_L_per t_L_per f_L_per k_L_per (fun _ z => nomatch z) (fun _ us h => match us, h with | [_, _], _ => .of_eq rfl) (fun _ z => nomatch z)
    · exact stands_mk X Gn n_L_kind l_L_kind q_L_kind t_L_kind f_L_kind k_L_kind (fun _ z => nomatch z) (fun _ us h => match us, h with | [_], _ => .of_eq rfl) (fun _ z => nomatch z)
    · exact stands_mk X Gn n_L_speeds l_L_speeds q_L_speeds t_L_speeds f_L_speeds k_L_speeds (fun _ z => nomatch z) (fun _ us h => match us, h with | [_], _ => .of_eq rfl) (fun _ z => nomatch z)
    · exact stands_mk X Gn n_L_along l_L_along q_L_along t_L_along f_L_along k_L_along (fun _ z => nomatch z) (fun _ us h => match us, h with | [_, _], _ => .of_eq rfl) (fun _ z => nomatch z)
    · exact stands_mk X Gn n_L_kin l_L_kin q_L_kin t_L_kin f_L_kin k_L_kin (fun _ z => nomatch z) (fun _ us h => match us, h with | [_, _], _ => .of_eq rfl) (fun _ z => nomatch z)
    · exact stands_mk X Gn n_L_bare l_L_bare q_L_bare t_L_bare f_L_bare k_L_bare (fun _ z => nomatch z) (fun _ us h => match us, h with | [_, _], _ => .of_eq rfl) (fun _ z => nomatch z)
    · exact stands_mk X Gn n_L_is_fraction l_L_is_fraction q_L_is_fraction t_L_is_fraction f_L_is_fraction k_L_is_fraction (fun _ z => nomatch z) (fun _ us h => match us, h with | [_], _ => .of_eq rfl) (fun _ z => nomatch z)
    · exact stands_mk X Gn n_L_toll l_L_toll q_L_toll t_L_toll f_L_toll k_L_toll (fun _ z => nomatch z) (fun _ us h => match us, h with | [_, _, _], _ => .of_eq rfl) (fun _ z => nomatch z)
    · exact stands_mk X Gn n_L_least l_L_least q_L_least t_L_least f_L_least k_L_least (fun _ z => nomatch z) (fun _ us h => match us, h with | [_], _ => .of_eq rfl) (fun _ z => nomatch z)
    · exact stands_mk X Gn n_L_own l_L_own q_L_own t_L_own f_L_own k_L_own (fun _ z => nomatch z) (fun _ us h => match us, h with | [_, _, _], _ => .of_eq rfl) (fun _ z => nomatch z)
    · exact stands_mk X Gn n_L_number l_L_number q_L_number t_L_number f_L_number k_L_number (fun _ z => nomatch z) (fun _ us h => match us, h with | [_, _, _], _ => .of_eq rfl) (fun _ z => nomatch z)
    · exact stands_mk X Gn n_L_is_begin l_L_is_begin q_L_is_begin t_L_is_begin f_L_is_begin k_L_is_begin (fun _ z => nomatch z) (fun _ us h => match us, h with | [_, _, _, _], _ => .of_eq rfl) (fun _ z => nomatch z)
    · exact stands_mk X Gn n_L_is_parted l_L_is_parted q_L_is_parted t_L_is_parted f_L_is_parted k_L_is_parted (fun _ z => nomatch z) (fun _ us h => match us, h with | [_, _, _, _], _ => .of_eq rfl) (fun _ z => nomatch z)
    · exact stands_mk X Gn n_L_right l_L_right q_L_right t_L_right f_L_right k_L_right (fun _ z => nomatch z) (fun _ us h => match us, h with | [_], _ => .of_eq rfl) (fun _ z => nomatch z)
    · exact stands_mk X Gn n_law l_law q_law t_law f_law k_law (fun _ z => nomatch z) (fun _ us h => match us, h with | [_], _ => .of_eq rfl) (fun _ z => nomatch z)
  · have hx := PySem.mem_of_lookup hx
    simp only [G, List.mem_cons, List.not_mem_nil, or_false, Prod.mk.injEq] at hx
    rcases hx with ⟨rfl, rfl⟩ | ⟨rfl, rfl⟩ | ⟨rfl, rfl⟩ | ⟨rfl, rfl⟩
    · exact ⟨_, .ref A_NOUGHT, PySem.W.mg_of X Gn n_NOUGHT, rfl, fun H => .tup (vs := [.int 0, .int 1]) (.inr ⟨_, _, _, l_NOUGHT, rfl, rfl, show (2 : Nat) ≤ sizeLine by rw [sizeLine_eq]; decide, .cons ⟨_, rfl⟩ (.cons ⟨_, rfl⟩ (.nil))⟩) (.cons (.int _) (.cons (.int _) (.nil)))⟩
    · exact ⟨_, .int 3, PySem.W.mg_of X Gn n_LEAST_CORNERS, ⟨_, rfl⟩, fun H => .int _⟩
    · exact ⟨_, .int 12, PySem.W.mg_of X Gn n_MOST_CORNERS, ⟨_, rfl⟩, fun H => .int _⟩
    · exact ⟨_, .ref A_HALF, PySem.W.mg_of X Gn n_HALF, rfl, fun H => .tup (vs := [.int 1, .int 2]) (.inr ⟨_, _, _, l_HALF, rfl, rfl, show (2 : Nat) ≤ sizeLine by rw [sizeLine_eq]; decide, .cons ⟨_, rfl⟩ (.cons ⟨_, rfl⟩ (.nil))⟩) (.cons (.int _) (.cons (.int _) (.nil)))⟩
  · have hx := PySem.mem_of_lookup hx
    simp only [G, List.mem_cons, List.not_mem_nil, or_false, Prod.mk.injEq] at hx
    rcases hx with ⟨rfl, rfl⟩
    · exact PySem.W.mg_of X Gn n_gcd
  · simp only [G, List.mem_cons, List.not_mem_nil, or_false] at hx
    rcases hx with rfl | rfl | rfl | rfl | rfl | rfl | rfl | rfl | rfl | rfl | rfl | rfl
    · exact PySem.W.mg_none_of X Gn z_len
    · exact PySem.W.mg_none_of X Gn z_int
    · exact PySem.W.mg_none_of X Gn z_tuple
    · exact PySem.W.mg_none_of X Gn z_abs
    · exact PySem.W.mg_none_of X Gn z_max
    · exact PySem.W.mg_none_of X Gn z_min
    · exact PySem.W.mg_none_of X Gn z_all
    · exact PySem.W.mg_none_of X Gn z_divmod
    · exact PySem.W.mg_none_of X Gn z_isinstance
    · exact PySem.W.mg_none_of X Gn z_bool
    · exact PySem.W.mg_none_of X Gn z_range
    · exact PySem.W.mg_none_of X Gn z_zip
end Prog

theorem Prog.law_true : ∀ ns : List Int, ns.length ≤ 63 → (∀ z ∈ ns, PySem.Builtin.Int.intBits z ≤ 1048576) → PD.run Prog.T 40 "law" [.d (.list (ns.map PySem.PyData.int))] [] = some (.d (.bool true), []) := fun ns _ _ => Prog.law_k49 26 ns

open PySem PySem.W PyProof.Rows
set_option maxRecDepth 100000 in
set_option maxHeartbeats 0 in
theorem PySem.Challenge.cw_roadcrowds_k49_whole_scenes_that_part_ki_holds : PySem.Challenge.rw_roadcrowds_k49_whole_scenes_that_part_ki.Holds := by
  w_on; o_law; k_head; (case hw => w_witness2)
  k_fill
  refine PD.walkG (l := PySem.Challenge.rw_roadcrowds_k49_whole_scenes_that_part_ki) (n := 63) (k := 40) (T := Prog.T) (g := Prog.G) (i := Prog.i_law) (x := "script") rfl (by decide) rfl ⟨rfl, by decide, by decide⟩ (by rfl) (by simp [Prog.T]) rfl (fun w h Y => PySem.W.kIn_of Y) ?F Prog.law_true
  case F =>
    intro w mg h KX G
    refine' Prog.sound KX G ?n_is_whole ?l_is_whole ?q_is_whole ?t_is_whole ?n_are_wholes ?l_are_wholes ?q_are_wholes ?t_are_wholes ?n_common_part ?l_common_part ?q_common_part ?t_common_part ?n_lowest ?l_lowest ?q_lowest ?t_lowest ?n_lowest_over ?l_lowest_over ?q_lowest_over ?t_lowest_over ?n_ratio ?l_ratio ?q_ratio ?t_ratio ?n_plus ?l_plus ?q_plus ?t_plus ?n_minus ?l_minus ?q_minus ?t_minus ?n_times ?l_times ?q_times ?t_times ?n_divided ?l_divided ?q_divided ?t_divided ?n_is_below ?l_is_below ?q_is_below ?t_is_below ?n_is_fraction ?l_is_fraction ?q_is_fraction ?t_is_fraction ?n_is_amount ?l_is_amount ?q_is_amount ?t_is_amount ?n_are_fractions ?l_are_fractions ?q_are_fractions ?t_are_fractions ?n_check_amount ?l_check_amount ?q_check_amount ?t_check_amount ?n_slope_of ?l_slope_of ?q_slope_of ?t_slope_of ?n_kind_speeds ?l_kind_speeds ?q_kind_speeds ?t_kind_speeds ?n_is_kind ?l_is_kind ?q_is_kind ?t_is_kind ?n_is_corner ?l_is_corner ?q_is_corner ?t_is_corner ?n_check_kind ?l_check_kind ?q_check_kind ?t_check_kind ?n_full_density ?l_full_density ?q_full_density ?t_full_density ?n_flow_by ?l_flow_by ?q_flow_by ?t_flow_by ?n_check_kinds ?l_check_kinds ?q_check_kinds ?t_check_kinds ?n_bare_by ?l_bare_by ?q_bare_by ?t_bare_by ?n_scene_parted ?l_scene_parted ?q_scene_parted ?t_scene_parted ?n_parting_scene ?l_parting_scene ?q_parting_scene ?t_parting_scene ?n_L_cask ?l_L_cask ?q_L_cask ?t_L_cask ?n_L_tap ?l_L_tap ?q_L_tap ?t_L_tap ?n_L_of ?l_L_of ?q_L_of ?t_L_of ?n_L_cut ?l_L_cut ?q_L_cut ?t_L_cut ?n_L_even ?l_L_even ?q_L_even ?t_L_even ?n_L_sum ?l_L_sum ?q_L_sum ?t_L_sum ?n_L_gap ?l_L_gap ?q_L_gap ?t_L_gap ?n_L_by ?l_L_by ?q_L_by ?t_L_by ?n_L_per ?l_L_per ?q_L_per ?t_L_per ?n_L_kind ?l_L_kind ?q_L_kind ?t_L_kind ?n_L_speeds ?l_L_speeds ?q_L_speeds ?t_L_speeds ?n_L_along ?l_L_along ?q_L_along ?t_L_along ?n_L_kin ?l_L_kin ?q_L_kin ?t_L_kin ?n_L_bare ?l_L_bare ?q_L_bare ?t_L_bare ?n_L_is_fraction ?l_L_is_fraction ?q_L_is_fraction ?t_L_is_fraction ?n_L_toll ?l_L_toll ?q_L_toll ?t_L_toll ?n_L_least ?l_L_least ?q_L_least ?t_L_least ?n_L_own ?l_L_own ?q_L_own ?t_L_own ?n_L_number ?l_L_number ?q_L_number ?t_L_number ?n_L_is_begin ?l_L_is_begin ?q_L_is_begin ?t_L_is_begin ?n_L_is_parted ?l_L_is_parted ?q_L_is_parted ?t_L_is_parted ?n_L_right ?l_L_right ?q_L_right ?t_L_right ?n_law ?l_law ?q_law ?t_law ?n_NOUGHT ?l_NOUGHT ?n_LEAST_CORNERS ?n_MOST_CORNERS ?n_HALF ?l_HALF ?n_gcd ?z_len ?z_int ?z_tuple ?z_abs ?z_max ?z_min ?z_all ?z_divmod ?z_isinstance ?z_bool ?z_range ?z_zip
    (case n_is_whole => k_is)
    (case l_is_whole => k_is)
    (case q_is_whole => k_is)
    (case t_is_whole => k_is)
    (case n_are_wholes => k_is)
    (case l_are_wholes => k_is)
    (case q_are_wholes => k_is)
    (case t_are_wholes => k_is)
    (case n_common_part => k_is)
    (case l_common_part => k_is)
    (case q_common_part => k_is)
    (case t_common_part => k_is)
    (case n_lowest => k_is)
    (case l_lowest => k_is)
    (case q_lowest => k_is)
    (case t_lowest => k_is)
    (case n_lowest_over => k_is)
    (case l_lowest_over => k_is)
    (case q_lowest_over => k_is)
    (case t_lowest_over => k_is)
    (case n_ratio => k_is)
    (case l_ratio => k_is)
    (case q_ratio => k_is)
    (case t_ratio => k_is)
    (case n_plus => k_is)
    (case l_plus => k_is)
    (case q_plus => k_is)
    (case t_plus => k_is)
    (case n_minus => k_is)
    (case l_minus => k_is)
    (case q_minus => k_is)
    (case t_minus => k_is)
    (case n_times => k_is)
    (case l_times => k_is)
    (case q_times => k_is)
    (case t_times => k_is)
    (case n_divided => k_is)
    (case l_divided => k_is)
    (case q_divided => k_is)
    (case t_divided => k_is)
    (case n_is_below => k_is)
    (case l_is_below => k_is)
    (case q_is_below => k_is)
    (case t_is_below => k_is)
    (case n_is_fraction => k_is)
    (case l_is_fraction => k_is)
    (case q_is_fraction => k_is)
    (case t_is_fraction => k_is)
    (case n_is_amount => k_is)
    (case l_is_amount => k_is)
    (case q_is_amount => k_is)
    (case t_is_amount => k_is)
    (case n_are_fractions => k_is)
    (case l_are_fractions => k_is)
    (case q_are_fractions => k_is)
    (case t_are_fractions => k_is)
    (case n_check_amount => k_is)
    (case l_check_amount => k_is)
    (case q_check_amount => k_is)
    (case t_check_amount => k_is)
    (case n_slope_of => k_is)
    (case l_slope_of => k_is)
    (case q_slope_of => k_is)
    (case t_slope_of => k_is)
    (case n_kind_speeds => k_is)
    (case l_kind_speeds => k_is)
    (case q_kind_speeds => k_is)
    (case t_kind_speeds => k_is)
    (case n_is_kind => k_is)
    (case l_is_kind => k_is)
    (case q_is_kind => k_is)
    (case t_is_kind => k_is)
    (case n_is_corner => k_is)
    (case l_is_corner => k_is)
    (case q_is_corner => k_is)
    (case t_is_corner => k_is)
    (case n_check_kind => k_is)
    (case l_check_kind => k_is)
    (case q_check_kind => k_is)
    (case t_check_kind => k_is)
    (case n_full_density => k_is)
    (case l_full_density => k_is)
    (case q_full_density => k_is)
    (case t_full_density => k_is)
    (case n_flow_by => k_is)
    (case l_flow_by => k_is)
    (case q_flow_by => k_is)
    (case t_flow_by => k_is)
    (case n_check_kinds => k_is)
    (case l_check_kinds => k_is)
    (case q_check_kinds => k_is)
    (case t_check_kinds => k_is)
    (case n_bare_by => k_is)
    (case l_bare_by => k_is)
    (case q_bare_by => k_is)
    (case t_bare_by => k_is)
    (case n_scene_parted => k_is)
    (case l_scene_parted => k_is)
    (case q_scene_parted => k_is)
    (case t_scene_parted => k_is)
    (case n_parting_scene => k_is)
    (case l_parting_scene => k_is)
    (case q_parting_scene => k_is)
    (case t_parting_scene => k_is)
    (case n_L_cask => k_is)
    (case l_L_cask => k_is)
    (case q_L_cask => k_is)
    (case t_L_cask => k_is)
    (case n_L_tap => k_is)
    (case l_L_tap => k_is)
    (case q_L_tap => k_is)
    (case t_L_tap => k_is)
    (case n_L_of => k_is)
    (case l_L_of => k_is)
    (case q_L_of => k_is)
    (case t_L_of => k_is)
    (case n_L_cut => k_is)
    (case l_L_cut => k_is)
    (case q_L_cut => k_is)
    (case t_L_cut => k_is)
    (case n_L_even => k_is)
    (case l_L_even => k_is)
    (case q_L_even => k_is)
    (case t_L_even => k_is)
    (case n_L_sum => k_is)
    (case l_L_sum => k_is)
    (case q_L_sum => k_is)
    (case t_L_sum => k_is)
    (case n_L_gap => k_is)
    (case l_L_gap => k_is)
    (case q_L_gap => k_is)
    (case t_L_gap => k_is)
    (case n_L_by => k_is)
    (case l_L_by => k_is)
    (case q_L_by => k_is)
    (case t_L_by => k_is)
    (case n_L_per => k_is)
    (case l_L_per => k_is)
    (case q_L_per => k_is)
    (case t_L_per => k_is)
    (case n_L_kind => k_is)
    (case l_L_kind => k_is)
    (case q_L_kind => k_is)
    (case t_L_kind => k_is)
    (case n_L_speeds => k_is)
    (case l_L_speeds => k_is)
    (case q_L_speeds => k_is)
    (case t_L_speeds => k_is)
    (case n_L_along => k_is)
    (case l_L_along => k_is)
    (case q_L_along => k_is)
    (case t_L_along => k_is)
    (case n_L_kin => k_is)
    (case l_L_kin => k_is)
    (case q_L_kin => k_is)
    (case t_L_kin => k_is)
    (case n_L_bare => k_is)
    (case l_L_bare => k_is)
    (case q_L_bare => k_is)
    (case t_L_bare => k_is)
    (case n_L_is_fraction => k_is)
    (case l_L_is_fraction => k_is)
    (case q_L_is_fraction => k_is)
    (case t_L_is_fraction => k_is)
    (case n_L_toll => k_is)
    (case l_L_toll => k_is)
    (case q_L_toll => k_is)
    (case t_L_toll => k_is)
    (case n_L_least => k_is)
    (case l_L_least => k_is)
    (case q_L_least => k_is)
    (case t_L_least => k_is)
    (case n_L_own => k_is)
    (case l_L_own => k_is)
    (case q_L_own => k_is)
    (case t_L_own => k_is)
    (case n_L_number => k_is)
    (case l_L_number => k_is)
    (case q_L_number => k_is)
    (case t_L_number => k_is)
    (case n_L_is_begin => k_is)
    (case l_L_is_begin => k_is)
    (case q_L_is_begin => k_is)
    (case t_L_is_begin => k_is)
    (case n_L_is_parted => k_is)
    (case l_L_is_parted => k_is)
    (case q_L_is_parted => k_is)
    (case t_L_is_parted => k_is)
    (case n_L_right => k_is)
    (case l_L_right => k_is)
    (case q_L_right => k_is)
    (case t_L_right => k_is)
    (case n_law => k_is)
    (case l_law => k_is)
    (case q_law => k_is)
    (case t_law => k_is)
    (case n_NOUGHT => k_is)
    (case l_NOUGHT => k_is)
    (case n_LEAST_CORNERS => k_is)
    (case n_MOST_CORNERS => k_is)
    (case n_HALF => k_is)
    (case l_HALF => k_is)
    (case n_gcd => k_is)
    (case z_len => k_is)
    (case z_int => k_is)
    (case z_tuple => k_is)
    (case z_abs => k_is)
    (case z_max => k_is)
    (case z_min => k_is)
    (case z_all => k_is)
    (case z_divmod => k_is)
    (case z_isinstance => k_is)
    (case z_bool => k_is)
    (case z_range => k_is)
    (case z_zip => k_is)
#print axioms PySem.Challenge.cw_roadcrowds_k49_whole_scenes_that_part_ki_holds
