import PyProof.Rows.All
import HandS.ForMost
import HandS.Gcd
import HandS.Wide
import HandS.IsInst
import HandS.Conv
import HandS.Zip
import HandS.Rev
import HandS.Flow
import HandS.Style
import HandS.TupAny
import HandS.EndBits
import PyProof.ReprReads
import HandS.Exc
import HandS.ExcOwn
import HandS.TryMany
import HandS.ExcIs
import HandS.ExcField
import KE.KExcIs
import PyProof.RowDictHeap
import KE.GoesEnum
import KE.GoesZip
import HandS.More
import HandS.ForSpec
import HandS.Small
import PySem.Challenge.RW_roadcrowds_k02_whole_kinds_told_of_anyth
set_option Elab.async false
set_option linter.all false
set_option autoImplicit false
set_option maxRecDepth 100000
set_option maxHeartbeats 4000000
/-! PD: a small functional reading of the Python that the laws use: values as PyData, mutable lists as cells of a store.
    Part 1: values, what represents them, steps of the store. -/
namespace PD
open PySem PySem.Spec PyProof.Rows L2

/-- a value: plain data, or the mutable list in a cell of the store -/
inductive W where
  | d (x : PyData)
  | m (n : Nat)
/-- the mutable lists; none: dead (let go, or locked by a loop) -/
abbrev Sto := List (Option (List PyData))
abbrev Rho := List (Option W)

/-! ### what represents what -/
/-- a list that is not changed any more -/
def FzL (K : PySem.W.Frag) (H : Hp) (a : Addr) (vs : List V) : Prop :=
  (∃ o, H a = some (.frz o (.lst vs))) ∨
    ∃ (o : Obj) (its : Array Value) (n : Nat), K.lookup a = some o ∧ o.cls = .type "list" ∧ o.dict = none ∧ o.data = .seq its n ∧ its.size ≤ sizeLine ∧ Vals vs its.toList
/-- a tuple (no known object of another kind) -/
def TpT (K : PySem.W.Frag) (H : Hp) (a : Addr) (vs : List V) : Prop :=
  (H a = some (.tup vs)) ∨
    ∃ (o : Obj) (its : Array Value) (n : Nat), K.lookup a = some o ∧ o.cls = .type "tuple" ∧ o.data = .seq its n ∧ its.size ≤ sizeLine ∧ Vals vs its.toList
theorem FzL.sq {K : PySem.W.Frag} {H : Hp} {a : Addr} {vs : List V} (h : FzL K H a vs) : SqL K H a vs := by
  rcases h with ⟨o, h⟩ | h
  · exact .inl (.inr ⟨o, h⟩)
  · exact .inr h
theorem TpT.sq {K : PySem.W.Frag} {H : Hp} {a : Addr} {vs : List V} (h : TpT K H a vs) : SqT K H a vs := by
  rcases h with h | h
  · exact .inl (.inl h)
  · exact .inr h

/-- a dict's key as data -/
def keyD : Key → PyData
  | .inl i => .int i
  | .inr x => .str x
mutual
inductive Rep (K : PySem.W.Frag) (H : Hp) : PyData → V → Prop
  | non : Rep K H .none .non
  | bl (b : Bool) : Rep K H (.bool b) (.bl b)
  | int (i : Int) : Rep K H (.int i) (.int i)
  | str (x : Str) : Rep K H (.str x) (.str x)
  | tup {a : Addr} {vs : List V} {xs : List PyData} : TpT K H a vs → RepL K H xs vs → Rep K H (.tuple xs) (.ref a)
  | lst {a : Addr} {vs : List V} {xs : List PyData} : FzL K H a vs → RepL K H xs vs → Rep K H (.list xs) (.ref a)
  | dct {a : Addr} {ks : List Key} {vs : List V} {xs : List PyData} : H a = some (.dK (ks.zip vs)) → ks.length = xs.length → RepL K H xs vs → Rep K H (.dict ((ks.map keyD).zip xs)) (.ref a)
inductive RepL (K : PySem.W.Frag) (H : Hp) : List PyData → List V → Prop
  | nil : RepL K H [] []
  | cons {x : PyData} {v : V} {xs : List PyData} {vs : List V} : Rep K H x v → RepL K H xs vs → RepL K H (x :: xs) (v :: vs)
end

/-- never changed: tuples and known things -/
def Imm : HO → Prop
  | .tup _ => True
  | .frz _ _ => True
  | .dK _ => True
  | _ => False
/-- what is never changed stays -/
def Keeps (H H' : Hp) : Prop := ∀ a o, H a = some o → Imm o → H' a = some o
theorem Keeps.refl {H : Hp} : Keeps H H := fun _ _ h _ => h
theorem Keeps.trans {H H1 H2 : Hp} (h : Keeps H H1) (g : Keeps H1 H2) : Keeps H H2 := fun a o e i => g a o (h a o e i) i
theorem FzL.mono {K : PySem.W.Frag} {H H' : Hp} {a : Addr} {vs : List V} (k : Keeps H H') (h : FzL K H a vs) : FzL K H' a vs := by
  rcases h with ⟨o, h⟩ | h
  · exact .inl ⟨o, k _ _ h trivial⟩
  · exact .inr h
theorem TpT.mono {K : PySem.W.Frag} {H H' : Hp} {a : Addr} {vs : List V} (k : Keeps H H') (h : TpT K H a vs) : TpT K H' a vs := by
  rcases h with h | h
  · exact .inl (k _ _ h trivial)
  · exact .inr h
mutual
theorem Rep.mono {K : PySem.W.Frag} {H H' : Hp} (k : Keeps H H') : ∀ {d : PyData} {v : V}, Rep K H d v → Rep K H' d v
  | _, _, .non => .non
  | _, _, .bl b => .bl b
  | _, _, .int i => .int i
  | _, _, .str x => .str x
  | _, _, .tup h l => .tup (h.mono k) (RepL.mono k l)
  | _, _, .lst h l => .lst (h.mono k) (RepL.mono k l)
  | _, _, .dct h e l => .dct (k _ _ h trivial) e (RepL.mono k l)
theorem RepL.mono {K : PySem.W.Frag} {H H' : Hp} (k : Keeps H H') : ∀ {xs : List PyData} {vs : List V}, RepL K H xs vs → RepL K H' xs vs
  | _, _, .nil => .nil
  | _, _, .cons h l => .cons (Rep.mono k h) (RepL.mono k l)
end
mutual
theorem Rep.dp {K : PySem.W.Frag} {H : Hp} : ∀ {d : PyData} {v : V}, d.canLay0 = true → Rep K H d v → Dp K H v d
  | _, _, _, .non => .non
  | _, _, _, .bl b => .bl b
  | _, _, _, .int i => .int i
  | _, _, _, .str x => .str x
  | _, _, c, .tup h l => .tup h.sq (RepL.dp (by simpa [PyData.canLay0] using c) l)
  | _, _, c, .lst h l => .lst h.sq (RepL.dp (by simpa [PyData.canLay0] using c) l)
  | _, _, c, .dct _ _ _ => by simp [PyData.canLay0] at c
theorem RepL.dp {K : PySem.W.Frag} {H : Hp} : ∀ {xs : List PyData} {vs : List V}, PyData.canLayAll0 xs = true → RepL K H xs vs → DpAll K H vs xs
  | _, _, _, .nil => .nil
  | _, _, c, .cons h l => by
    rw [PyData.canLayAll0, Bool.and_eq_true] at c
    exact .cons (Rep.dp c.1 h) (RepL.dp c.2 l)
end
section
variable {K : PySem.W.Frag} {H : Hp}
theorem RepL.length : ∀ {xs : List PyData} {vs : List V}, RepL K H xs vs → xs.length = vs.length
  | _, _, .nil => rfl
  | _, _, .cons _ l => by rw [List.length_cons, List.length_cons, RepL.length l]
theorem RepL.get : ∀ {xs : List PyData} {vs : List V} {i : Nat} {x : PyData}, RepL K H xs vs → xs[i]? = some x → ∃ v, vs[i]? = some v ∧ Rep K H x v
  | _, _, _, _, .nil, h => by simp at h
  | _, _, 0, _, .cons r _, h => by simp at h; subst h; exact ⟨_, rfl, r⟩
  | _, _, i + 1, _, .cons _ l, h => by simpa using RepL.get (i := i) l (by simpa using h)
theorem RepL.get' : ∀ {xs : List PyData} {vs : List V} {i : Nat} {v : V}, RepL K H xs vs → vs[i]? = some v → ∃ x, xs[i]? = some x ∧ Rep K H x v
  | _, _, _, _, .nil, h => by simp at h
  | _, _, 0, _, .cons r _, h => by simp at h; subst h; exact ⟨_, rfl, r⟩
  | _, _, i + 1, _, .cons _ l, h => by simpa using RepL.get' (i := i) l (by simpa using h)
theorem RepL.append : ∀ {xs ys : List PyData} {vs ws : List V}, RepL K H xs vs → RepL K H ys ws → RepL K H (xs ++ ys) (vs ++ ws)
  | _, _, _, _, .nil, h => h
  | _, _, _, _, .cons r l, h => .cons r (RepL.append l h)
theorem RepL.drop : ∀ {xs : List PyData} {vs : List V} (n : Nat), RepL K H xs vs → RepL K H (xs.drop n) (vs.drop n)
  | _, _, 0, h => by simpa using h
  | _, _, _ + 1, .nil => by simpa using RepL.nil
  | _, _, n + 1, .cons _ l => by simpa using RepL.drop n l
theorem RepL.take : ∀ {xs : List PyData} {vs : List V} (n : Nat), RepL K H xs vs → RepL K H (xs.take n) (vs.take n)
  | _, _, 0, _ => by simpa using RepL.nil
  | _, _, _ + 1, .nil => by simpa using RepL.nil
  | _, _, n + 1, .cons r l => by simpa using RepL.cons r (RepL.take n l)
theorem RepL.set : ∀ {xs : List PyData} {vs : List V} (i : Nat) {x : PyData} {v : V}, RepL K H xs vs → Rep K H x v → RepL K H (xs.set i x) (vs.set i v)
  | _, _, _, _, _, .nil, _ => by simpa using RepL.nil
  | _, _, 0, _, _, .cons _ l, h => by simpa using RepL.cons h l
  | _, _, i + 1, _, _, .cons r l, h => by simpa using RepL.cons r (RepL.set i l h)
theorem RepL.reverse : ∀ {xs : List PyData} {vs : List V}, RepL K H xs vs → RepL K H xs.reverse vs.reverse
  | _, _, .nil => by simpa using RepL.nil
  | _, _, .cons r l => by simpa using RepL.append (RepL.reverse l) (.cons r .nil)
theorem RepL.eraseIdx : ∀ {xs : List PyData} {vs : List V} (i : Nat), RepL K H xs vs → RepL K H (xs.eraseIdx i) (vs.eraseIdx i)
  | _, _, _, .nil => by simpa using RepL.nil
  | _, _, 0, .cons _ l => by simpa using l
  | _, _, i + 1, .cons r l => by simpa using RepL.cons r (RepL.eraseIdx i l)
theorem RepL.dropLast : ∀ {xs : List PyData} {vs : List V}, RepL K H xs vs → RepL K H xs.dropLast vs.dropLast
  | _, _, .nil => .nil
  | _, _, .cons r .nil => .nil
  | _, _, .cons r (.cons q l) => by simpa using RepL.cons r (RepL.dropLast (.cons q l))
theorem RepL.ints : ∀ (ns : List Int), RepL K H (ns.map PyData.int) (ns.map V.int)
  | [] => .nil
  | n :: ns => .cons (.int n) (RepL.ints ns)
end

/-- a value of either kind -/
inductive WRep (K : PySem.W.Frag) (H : Hp) (μ : List Addr) : W → V → Prop
  | d {x : PyData} {v : V} : Rep K H x v → WRep K H μ (.d x) v
  | m {n : Nat} {a : Addr} : μ[n]? = some a → WRep K H μ (.m n) (.ref a)
inductive WRepL (K : PySem.W.Frag) (H : Hp) (μ : List Addr) : List W → List V → Prop
  | nil : WRepL K H μ [] []
  | cons {w : W} {v : V} {ws : List W} {vs : List V} : WRep K H μ w v → WRepL K H μ ws vs → WRepL K H μ (w :: ws) (v :: vs)
theorem WRep.mono {K : PySem.W.Frag} {H H' : Hp} {μ μ' : List Addr} (k : Keeps H H') (p : μ <+: μ') {w : W} {v : V} (h : WRep K H μ w v) : WRep K H' μ' w v := by
  cases h with
  | d h => exact .d (h.mono k)
  | m h =>
    obtain ⟨r, rfl⟩ := p
    exact .m (by rw [List.getElem?_append_left (List.getElem?_eq_some_iff.mp h).1]; exact h)
theorem WRepL.mono {K : PySem.W.Frag} {H H' : Hp} {μ μ' : List Addr} (k : Keeps H H') (p : μ <+: μ') : ∀ {ws : List W} {vs : List V}, WRepL K H μ ws vs → WRepL K H' μ' ws vs
  | _, _, .nil => .nil
  | _, _, .cons h l => .cons (h.mono k p) (WRepL.mono k p l)
theorem WRepL.length {K : PySem.W.Frag} {H : Hp} {μ : List Addr} : ∀ {ws : List W} {vs : List V}, WRepL K H μ ws vs → ws.length = vs.length
  | _, _, .nil => rfl
  | _, _, .cons _ l => by rw [List.length_cons, List.length_cons, WRepL.length l]

theorem nd_inj {α : Type} : ∀ {l : List α} {i j : Nat} {a : α}, l.Nodup → l[i]? = some a → l[j]? = some a → i = j
  | [], _, _, _, _, h, _ => by simp at h
  | _ :: _, 0, 0, _, _, _, _ => rfl
  | x :: l, 0, j + 1, a, nd, h, g => by
    simp at h g
    subst h
    exact absurd (List.mem_of_getElem? g) (List.nodup_cons.mp nd).1
  | x :: l, i + 1, 0, a, nd, h, g => by
    simp at h g
    subst g
    exact absurd (List.mem_of_getElem? h) (List.nodup_cons.mp nd).1
  | x :: l, i + 1, j + 1, a, nd, h, g => by
    simp at h g
    rw [nd_inj (List.nodup_cons.mp nd).2 h g]
/-! ### the store -/
structure StoOk (K : PySem.W.Frag) (H : Hp) (μ : List Addr) (S : Sto) : Prop where
  len : μ.length = S.length
  nd : μ.Nodup
  there : ∀ a ∈ μ, ∃ o, H a = some o
  cell : ∀ (n : Nat) (xs : List PyData), S[n]? = some (some xs) → ∃ a vs, μ[n]? = some a ∧ H a = some (.lst vs) ∧ RepL K H xs vs
/-- the address of a list that may be changed -/
def Live (μ : List Addr) (S : Sto) (a : Addr) : Prop := ∃ (n : Nat) (xs : List PyData), μ[n]? = some a ∧ S[n]? = some (some xs)
/-- all that is tracked stays, but the lists of the store -/
def Ext (μ : List Addr) (S : Sto) (H H' : Hp) : Prop := ∀ a o, H a = some o → ¬ Live μ S a → H' a = some o
structure Stp (K : PySem.W.Frag) (μ : List Addr) (S : Sto) (H : Hp) (μ' : List Addr) (S' : Sto) (H' : Hp) : Prop where
  pre : μ <+: μ'
  sto : StoOk K H' μ' S'
  ext : Ext μ S H H'
  fresh : ∀ a ∈ μ', a ∈ μ ∨ H a = none
  dead : ∀ n : Nat, S[n]? = some none → S'[n]? = some none
section
variable {K : PySem.W.Frag} {H H1 H2 : Hp} {μ μ1 μ2 : List Addr} {S S1 S2 : Sto}
theorem StoOk.live_lst (ok : StoOk K H μ S) {a : Addr} (l : Live μ S a) : ∃ vs, H a = some (.lst vs) := by
  obtain ⟨n, xs, h1, h2⟩ := l
  obtain ⟨b, vs, h3, h4, _⟩ := ok.cell n xs h2
  rw [h1] at h3; cases h3
  exact ⟨vs, h4⟩
theorem StoOk.keeps (ok : StoOk K H μ S) (e : Ext μ S H H1) : Keeps H H1 := fun a o h i => e a o h fun l => by
  obtain ⟨vs, h'⟩ := ok.live_lst l
  rw [h] at h'; cases h'; exact i
theorem Stp.refl (ok : StoOk K H μ S) : Stp K μ S H μ S H := ⟨List.prefix_rfl, ok, fun _ _ h _ => h, fun _ h => .inl h, fun _ h => h⟩
theorem Stp.keeps (ok : StoOk K H μ S) (s : Stp K μ S H μ1 S1 H1) : Keeps H H1 := ok.keeps s.ext
theorem Stp.trans (ok : StoOk K H μ S) (s : Stp K μ S H μ1 S1 H1) (t : Stp K μ1 S1 H1 μ2 S2 H2) : Stp K μ S H μ2 S2 H2 where
  pre := s.pre.trans t.pre
  sto := t.sto
  ext := fun a o h nl => by
    refine t.ext a o (s.ext a o h nl) fun ⟨n, xs, h1, h2⟩ => ?_
    rcases s.fresh a (List.mem_of_getElem? h1) with m | m
    · obtain ⟨i, hi⟩ := List.getElem?_of_mem m
      have hi1 : μ1[i]? = some a := by
        obtain ⟨r, e⟩ := s.pre
        rw [← e, List.getElem?_append_left (List.getElem?_eq_some_iff.mp hi).1]; exact hi
      have en : n = i := nd_inj s.sto.nd h1 hi1
      subst en
      have hlt : n < S.length := by rw [← ok.len]; exact (List.getElem?_eq_some_iff.mp hi).1
      cases hS : S[n]? with
      | none => exact absurd (List.getElem?_eq_none_iff.mp hS) (Nat.not_le_of_lt hlt)
      | some c =>
        cases c with
        | none => rw [s.dead n hS] at h2; cases h2
        | some ys => exact nl ⟨n, ys, hi, hS⟩
    · rw [m] at h; cases h
  fresh := fun a h => by
    rcases t.fresh a h with m | m
    · exact s.fresh a m
    · cases e : H a with
      | none => exact .inr rfl
      | some o =>
        by_cases nl : Live μ S a
        · obtain ⟨n, xs, h1, _⟩ := nl
          exact .inl (List.mem_of_getElem? h1)
        · rw [s.ext a o e nl] at m; cases m
  dead := fun n h => t.dead n (s.dead n h)
theorem Stp.len (s : Stp K μ S H μ1 S1 H1) (ok : StoOk K H μ S) : S.length ≤ S1.length := by
  rw [← ok.len, ← s.sto.len]; exact s.pre.length_le
/-- something new, or untouched things changed: the store as it is -/
theorem Stp.same (ok : StoOk K H μ S) (e : ∀ a o, H a = some o → H1 a = some o) : Stp K μ S H μ S H1 where
  pre := List.prefix_rfl
  sto := ⟨ok.len, ok.nd, fun a m => let ⟨o, h⟩ := ok.there a m; ⟨o, e a o h⟩, fun n xs h => by
    obtain ⟨a, vs, h1, h2, h3⟩ := ok.cell n xs h
    exact ⟨a, vs, h1, e _ _ h2, h3.mono fun a o h _ => e a o h⟩⟩
  ext := fun a o h _ => e a o h
  fresh := fun _ h => .inl h
  dead := fun _ h => h
theorem same_new {p : Addr} {o : HO} (h : H p = none) : ∀ a u, H a = some u → (upd H p o) a = some u := fun a u e => by
  rw [upd_ne (ne_of_none e h)]; exact e
/-- a new object that is no cell -/
theorem Stp.new (ok : StoOk K H μ S) {p : Addr} {o : HO} (h : H p = none) : Stp K μ S H μ S (upd H p o) := Stp.same ok (same_new h)
/-- a new cell -/
theorem Stp.cell (ok : StoOk K H μ S) {p : Addr} {vs : List V} {xs : List PyData} (h : H p = none) (r : RepL K H xs vs) : Stp K μ S H (μ ++ [p]) (S ++ [some xs]) (upd H p (.lst vs)) where
  pre := ⟨[p], rfl⟩
  sto := by
    have hp : p ∉ μ := fun m => by obtain ⟨o, e⟩ := ok.there p m; rw [h] at e; cases e
    refine ⟨by simp [ok.len], ?_, fun a m => ?_, fun n ys e => ?_⟩
    · rw [List.nodup_append]
      exact ⟨ok.nd, by simp, fun a ha b hb e => by simp at hb; subst hb; subst e; exact hp ha⟩
    · rcases List.mem_append.mp m with m | m
      · obtain ⟨o, e⟩ := ok.there a m
        exact ⟨o, same_new h a o e⟩
      · simp at m; subst m; exact ⟨_, upd_same⟩
    · have kp : Keeps H (upd H p (.lst vs)) := fun a o e _ => same_new h a o e
      by_cases hn : n < S.length
      · rw [List.getElem?_append_left hn] at e
        obtain ⟨a, ws, h1, h2, h3⟩ := ok.cell n ys e
        exact ⟨a, ws, by rw [List.getElem?_append_left (by rw [ok.len]; exact hn)]; exact h1, same_new h _ _ h2, h3.mono kp⟩
      · rw [List.getElem?_append_right (by omega)] at e
        have e0 : n - S.length = 0 := by
          have := (List.getElem?_eq_some_iff.mp e).1
          simp at this; omega
        rw [e0] at e
        simp at e; subst e
        exact ⟨p, vs, by rw [List.getElem?_append_right (by rw [ok.len]; omega), ok.len, e0]; rfl, upd_same, r.mono kp⟩
  ext := fun a o e _ => same_new h a o e
  fresh := fun a m => by
    rcases List.mem_append.mp m with m | m
    · exact .inl m
    · simp at m; subst m; exact .inr h
  dead := fun n e => by rw [List.getElem?_append_left (List.getElem?_eq_some_iff.mp e).1]; exact e
/-- a cell is written -/
theorem Stp.put (ok : StoOk K H μ S) {n : Nat} {a : Addr} {us vs : List V} {xs ys : List PyData} (hn : S[n]? = some (some xs)) (ha : μ[n]? = some a) (hu : H a = some (.lst us)) (r : RepL K H ys vs) :
    Stp K μ S H μ (S.set n (some ys)) (upd H a (.lst vs)) where
  pre := List.prefix_rfl
  sto := by
    have kp : Keeps H (upd H a (.lst vs)) := fun b o e i => by
      rw [upd_ne (fun z => by subst z; rw [hu] at e; cases e; exact i)]; exact e
    refine ⟨by simp [ok.len], ok.nd, fun b m => ?_, fun k zs e => ?_⟩
    · by_cases hb : b = a
      · subst hb; exact ⟨_, upd_same⟩
      · obtain ⟨o, e⟩ := ok.there b m
        exact ⟨o, by rw [upd_ne hb]; exact e⟩
    · by_cases hk : k = n
      · subst hk
        rw [List.getElem?_set_self (List.getElem?_eq_some_iff.mp hn).1] at e
        cases e
        exact ⟨a, vs, ha, upd_same, r.mono kp⟩
      · rw [List.getElem?_set_ne (Ne.symm hk)] at e
        obtain ⟨b, ws, h1, h2, h3⟩ := ok.cell k zs e
        have hb : b ≠ a := fun z => by
          subst z
          exact hk (nd_inj ok.nd h1 ha)
        exact ⟨b, ws, h1, by rw [upd_ne hb]; exact h2, h3.mono kp⟩
  ext := fun b o e nl => by
    rw [upd_ne (fun z => by subst z; exact nl ⟨n, xs, ha, hn⟩)]; exact e
  fresh := fun _ h => .inl h
  dead := fun k e => by
    rw [List.getElem?_set_ne (fun z => by subst z; rw [hn] at e; cases e)]; exact e
/-- a cell is frozen: its list becomes plain data, the cell is dead -/
theorem Stp.freeze (ok : StoOk K H μ S) {n : Nat} {a : Addr} {us : List V} {xs : List PyData} (hn : S[n]? = some (some xs)) (ha : μ[n]? = some a) (hu : H a = some (.lst us)) (o : Obj) :
    Stp K μ S H μ (S.set n none) (upd H a (.frz o (.lst us))) where
  pre := List.prefix_rfl
  sto := by
    have kp : Keeps H (upd H a (.frz o (.lst us))) := fun b o e i => by
      rw [upd_ne (fun z => by subst z; rw [hu] at e; cases e; exact i)]; exact e
    refine ⟨by simp [ok.len], ok.nd, fun b m => ?_, fun k zs e => ?_⟩
    · by_cases hb : b = a
      · subst hb; exact ⟨_, upd_same⟩
      · obtain ⟨o, e⟩ := ok.there b m
        exact ⟨o, by rw [upd_ne hb]; exact e⟩
    · have hk : k ≠ n := fun z => by
        subst z
        rw [List.getElem?_set_self (List.getElem?_eq_some_iff.mp hn).1] at e; cases e
      rw [List.getElem?_set_ne (Ne.symm hk)] at e
      obtain ⟨b, ws, h1, h2, h3⟩ := ok.cell k zs e
      have hb : b ≠ a := fun z => by
        subst z
        exact hk (nd_inj ok.nd h1 ha)
      exact ⟨b, ws, h1, by rw [upd_ne hb]; exact h2, h3.mono kp⟩
  ext := fun b o e nl => by
    rw [upd_ne (fun z => by subst z; exact nl ⟨n, xs, ha, hn⟩)]; exact e
  fresh := fun _ h => .inl h
  dead := fun k e => by
    by_cases hk : k = n
    · subst hk; rw [hn] at e; cases e
    · rw [List.getElem?_set_ne (Ne.symm hk)]; exact e
/-- the cells behind the first ones are forgotten -/
theorem StoOk.cut (ok : StoOk K H μ S) (n : Nat) : StoOk K H (μ.take n) (S.take n) where
  len := by simp [ok.len]
  nd := ok.nd.sublist (List.take_sublist _ _)
  there := fun a m => ok.there a (List.mem_of_mem_take m)
  cell := fun k xs e => by
    have hk : k < n := by
      have := (List.getElem?_eq_some_iff.mp e).1
      simp at this; omega
    rw [List.getElem?_take_of_lt hk] at e
    obtain ⟨a, vs, h1, h2, h3⟩ := ok.cell k xs e
    exact ⟨a, vs, by rw [List.getElem?_take_of_lt hk]; exact h1, h2, h3⟩
end

/-! ### the names -/
structure EnvOk (K : PySem.W.Frag) (H : Hp) (μ : List Addr) (ρ : Rho) (σ : L2.St) : Prop where
  len : ρ.length = σ.length
  get : ∀ (i : Nat) (w : W), ρ[i]? = some (some w) → ∃ v, σ[i]? = some (some v) ∧ WRep K H μ w v
section
variable {K : PySem.W.Frag} {H H' : Hp} {μ μ' : List Addr} {ρ : Rho} {σ : L2.St}
theorem EnvOk.mono (k : Keeps H H') (p : μ <+: μ') (e : EnvOk K H μ ρ σ) : EnvOk K H' μ' ρ σ := ⟨e.len, fun i w h => let ⟨v, h1, h2⟩ := e.get i w h; ⟨v, h1, h2.mono k p⟩⟩
theorem EnvOk.step {S S' : Sto} (ok : StoOk K H μ S) (s : Stp K μ S H μ' S' H') (e : EnvOk K H μ ρ σ) : EnvOk K H' μ' ρ σ := e.mono (s.keeps ok) s.pre
theorem EnvOk.set {w : W} {v : V} (e : EnvOk K H μ ρ σ) (i : Nat) (r : WRep K H μ w v) : EnvOk K H μ (ρ.set i (some w)) (σ.set i (some v)) := by
  refine ⟨by simp [e.len], fun j w' h => ?_⟩
  by_cases hj : j = i
  · subst hj
    have hl : j < ρ.length := by
      have := (List.getElem?_eq_some_iff.mp h).1
      simpa using this
    rw [List.getElem?_set_self hl] at h
    cases h
    exact ⟨v, by rw [List.getElem?_set_self (by rw [← e.len]; exact hl)], r⟩
  · rw [List.getElem?_set_ne (Ne.symm hj)] at h ⊢
    exact e.get j w' h
/-- the slots of a comprehension's own names forgotten -/
def wipeR (ρ : Rho) : List Nat → Rho
  | [] => ρ
  | v :: vs => (wipeR ρ vs).set v none
theorem wipeR_length : ∀ vs : List Nat, (wipeR ρ vs).length = ρ.length
  | [] => rfl
  | v :: vs => by unfold wipeR; rw [List.length_set, wipeR_length vs]
theorem EnvOk.wipe (e : EnvOk K H μ ρ σ) : ∀ vs : List Nat, EnvOk K H μ (wipeR ρ vs) (L2.wipe σ vs)
  | [] => e
  | v :: vs => by
    have ih := EnvOk.wipe e vs
    refine ⟨by unfold wipeR L2.wipe; rw [List.length_set, List.length_set, ih.len], fun j w h => ?_⟩
    unfold wipeR at h
    unfold L2.wipe
    by_cases hj : j = v
    · subst hj
      by_cases hl : j < (wipeR ρ vs).length
      · rw [List.getElem?_set_self hl] at h; cases h
      · rw [List.getElem?_eq_none (by simpa using hl)] at h; cases h
    · rw [List.getElem?_set_ne (Ne.symm hj)] at h ⊢
      exact ih.get j w h
end
end PD

/-! PD, part 2: readings by functions; names, constants, operators, comparisons, tests. -/
namespace PD
open PySem PySem.Spec PyProof.Rows L2

theorem PE.imp {X : Cx} {e : Expr} {t t' : TE} (h : PE X e t) (i : ∀ σ H Q, t' σ H Q → t σ H Q) : PE X e t' := ⟨fun pins s σ H Q I q => h.run pins s σ H Q I (i σ H Q q)⟩
theorem PT.imp {X : Cx} {e : Expr} {t t' : TT} (h : PT X e t) (i : ∀ σ H Q, t' σ H Q → t σ H Q) : PT X e t' := ⟨fun pins s σ H Q I q => h.run pins s σ H Q I (i σ H Q q)⟩
theorem PW.imp {X : Cx} {e : Expr} {t t' : TT} (h : PW X e t) (i : ∀ σ H Q, t' σ H Q → t σ H Q) : PW X e t' := ⟨fun wh pins s σ H Q I q => h.run wh pins s σ H Q I (i σ H Q q)⟩
theorem PA.imp {X : Cx} {es : List Expr} {t t' : TA} (h : PA X es t) (i : ∀ σ H Q, t' σ H Q → t σ H Q) : PA X es t' := ⟨fun pos pins s σ H Q I q => h.run pos pins s σ H Q I (i σ H Q q)⟩
theorem PSs.imp {X : Cx} {e : List Stmt} {t t' : TS} (h : PSs X e t) (i : ∀ D σ H, t' D σ H → t D σ H) : PSs X e t' := ⟨fun pins s σ H D I q => h.run pins s σ H D I (i D σ H q)⟩
theorem PS.imp {X : Cx} {e : Stmt} {t t' : TS} (h : PS X e t) (i : ∀ D σ H, t' D σ H → t D σ H) : PS X e t' := ⟨fun pins s σ H D I q => h.run pins s σ H D I (i D σ H q)⟩
theorem OpR.imp {X : Cx} {f : Value → Value → Sem Value} {r r' : R2} (h : OpR X f r) (i : ∀ x y H Q, r' x y H Q → r x y H Q) : OpR X f r' := fun pins s σ H x y v u Q I rx ry q => h pins s σ H x y v u Q I rx ry (i _ _ _ _ q)
theorem CallR.imp {X : Cx} {f : Value} {r r' : List V → Hp → VK → Prop} (h : CallR X f r) (i : ∀ xs H Q, r' xs H Q → r xs H Q) : CallR X f r' := fun pins s σ H xs us Q I rx q => h pins s σ H xs us Q I rx (i _ _ _ q)

/-! ### a list that has just been laid becomes plain data -/
section
variable {X : Cx} {pins : List (Addr × Obj)} {σ : L2.St} {H : Hp} {s : Shared}
theorem Inv.frozen {p : Addr} {xs : List V} {o : Obj} (I : Inv X pins σ H s) (hp : H p = some (.lst xs)) (ho : s.heap.get? p = some o) : Inv X pins σ (upd H p (.frz o (.lst xs))) s := by
  have ne : ∀ b u, H b = some u → u ≠ .lst xs → b ≠ p := fun b u e n z => by subst z; rw [hp] at e; cases e; exact n rfl
  have nn : ∀ b, H b = none → b ≠ p := fun b e z => by subst z; rw [hp] at e; cases e
  have hok : HOk X.prog X.w (upd H p (.frz o (.lst xs))) s.heap := fun b u e => by
    by_cases hb : b = p
    · subst hb
      rw [upd_same] at e; cases e
      refine ⟨ho, ?_⟩
      have q := I.hok b _ hp
      exact q
    · rw [upd_ne hb] at e
      refine (I.hok b u e).stay (fun c w _ q => q) (fun c q => ?_) fun c ys q => ?_
      · rw [upd_ne (ne c _ q (by intro z; cases z))]; exact q
      · rw [upd_ne (ne c _ q (by intro z; cases z))]; exact q
  have := I.un (t' := s.toks) (h' := s.heap) (H' := upd H p (.frz o (.lst xs))) ?_ hok
  · exact this
  · exact ⟨fun _ _ e _ _ _ => e, fun _ ob e _ _ _ => ⟨ob.slots, e⟩, fun b _ _ n _ => by rw [upd_ne (nn b n)]; exact n, fun b ob e _ => ⟨ob, e⟩,
      fun b ys e => by rw [upd_ne (ne b _ e (by intro z; cases z))]; exact e, fun b ob u e => by rw [upd_ne (ne b _ e (by intro z; cases z))]; exact e,
      fun b ps e => ⟨#[], by rw [upd_ne (ne b _ e (by intro z; cases z)), e]; simp⟩⟩
/-- the wish behind a list that may be frozen -/
def QFz (Q : VK) : VK := fun v H1 => (∃ p xs, v = .ref p ∧ H1 p = some (.lst xs) ∧ ∀ o, Q v (upd H1 p (.frz o (.lst xs)))) ∨ Q v H1
theorem ep_fz {Q : VK} {u : Value} (h : EP X pins σ (QFz Q) u s) : EP X pins σ Q u s := by
  obtain ⟨v, H1, I, r, q⟩ := h
  rcases q with ⟨p, xs, rfl, hp, q⟩ | q
  · obtain ⟨_, its, n, rv, e⟩ := (show ObjOk X.prog X.w H1 s.heap p (.lst xs) from I.hok p _ hp)
    exact ⟨_, _, Inv.frozen I hp e, r, q _⟩
  · exact ⟨v, H1, I, r, q⟩
end
theorem pe_fz {X : Cx} {e : Expr} {t : TE} (h : PE X e t) : PE X e (fun σ H Q => t σ H (QFz Q)) := ⟨fun pins s σ H Q I q => thn (h.run pins s σ H _ I q) fun _ _ z => ep_fz z⟩
theorem op_fz {X : Cx} {f : Value → Value → Sem Value} {r : R2} (h : OpR X f r) : OpR X f (fun x y H Q => r x y H (QFz Q)) := fun pins s σ H x y v u Q I rx ry q => thn (h pins s σ H x y v u _ I rx ry q) fun _ _ z => ep_fz z
theorem call_fz {X : Cx} {f : Value} {r : List V → Hp → VK → Prop} (h : CallR X f r) : CallR X f (fun xs H Q => r xs H (QFz Q)) := fun pins s σ H xs us Q I rx q => thn (h pins s σ H xs us _ I rx q) fun _ _ z => ep_fz z

/-! ### reading by functions -/
abbrev CE := Rho → Sto → Option (W × Sto)
abbrev CB := Rho → Sto → Option (Bool × Sto)
abbrev CL := Rho → Sto → Option (List W × Sto)
section
variable (K : PySem.W.Frag)
def rdE (m : CE) : TE := fun σ H Q => ∃ μ S ρ w S', StoOk K H μ S ∧ EnvOk K H μ ρ σ ∧ m ρ S = some (w, S') ∧ ∀ v H' μ', Stp K μ S H μ' S' H' → WRep K H' μ' w v → Q v H'
def rdB (m : CB) : TT := fun σ H Q => ∃ μ S ρ w S', StoOk K H μ S ∧ EnvOk K H μ ρ σ ∧ m ρ S = some (w, S') ∧ ∀ H' μ', Stp K μ S H μ' S' H' → Q w H'
def rdL (m : CL) : TA := fun σ H Q => ∃ μ S ρ ws S', StoOk K H μ S ∧ EnvOk K H μ ρ σ ∧ m ρ S = some (ws, S') ∧ ∀ vs H' μ', Stp K μ S H μ' S' H' → WRepL K H' μ' ws vs → Q vs H'
/-- what an operation of two values is to reach -/
def F2 (f : W → W → Sto → Option (W × Sto)) : R2 := fun x y H Q => ∃ μ S w1 w2 w S', StoOk K H μ S ∧ WRep K H μ w1 x ∧ WRep K H μ w2 y ∧ f w1 w2 S = some (w, S') ∧ ∀ v H' μ', Stp K μ S H μ' S' H' → WRep K H' μ' w v → Q v H'
def F1 (f : W → Sto → Option (W × Sto)) : V → Hp → VK → Prop := fun x H Q => ∃ μ S w1 w S', StoOk K H μ S ∧ WRep K H μ w1 x ∧ f w1 S = some (w, S') ∧ ∀ v H' μ', Stp K μ S H μ' S' H' → WRep K H' μ' w v → Q v H'
def FN (f : List W → Sto → Option (W × Sto)) : List V → Hp → VK → Prop := fun xs H Q => ∃ μ S ws w S', StoOk K H μ S ∧ WRepL K H μ ws xs ∧ f ws S = some (w, S') ∧ ∀ v H' μ', Stp K μ S H μ' S' H' → WRep K H' μ' w v → Q v H'
end
abbrev SE (X : Cx) (e : Expr) (m : CE) : Prop := PE X e (rdE X.K m)
abbrev SB (X : Cx) (e : Expr) (m : CB) : Prop := PT X e (rdB X.K m)
abbrev SL (X : Cx) (es : List Expr) (m : CL) : Prop := PA X es (rdL X.K m)

/-! ### the functions -/
def constE (x : PyData) : CE := fun _ S => some (.d x, S)
def varE (i : Nat) : CE := fun ρ S => match ρ[i]? with
  | some (some w) => some (w, S)
  | _ => none
def binE (f : W → W → Sto → Option (W × Sto)) (a b : CE) : CE := fun ρ S => (a ρ S).bind fun p => (b ρ p.2).bind fun q => f p.1 q.1 q.2
def unE (f : W → Sto → Option (W × Sto)) (a : CE) : CE := fun ρ S => (a ρ S).bind fun p => f p.1 p.2
def ifE (t : CB) (a b : CE) : CE := fun ρ S => (t ρ S).bind fun p => if p.1 = true then a ρ p.2 else b ρ p.2
def nilL : CL := fun _ S => some ([], S)
def consL (a : CE) (r : CL) : CL := fun ρ S => (a ρ S).bind fun p => (r ρ p.2).bind fun q => some (p.1 :: q.1, q.2)
def appE (f : List W → Sto → Option (W × Sto)) (r : CL) : CE := fun ρ S => (r ρ S).bind fun p => f p.1 p.2
def andB (a b : CB) : CB := fun ρ S => (a ρ S).bind fun p => if p.1 = true then b ρ p.2 else some (false, p.2)
def orB (a b : CB) : CB := fun ρ S => (a ρ S).bind fun p => if p.1 = true then some (true, p.2) else b ρ p.2
def notB (a : CB) : CB := fun ρ S => (a ρ S).bind fun p => some (!p.1, p.2)
def asBool : W → Option Bool
  | .d (.bool b) => some b
  | _ => none
/-- a bool's test -/
def valB (a : CE) : CB := fun ρ S => (a ρ S).bind fun p => (asBool p.1).bind fun b => some (b, p.2)
/-- a test as a value -/
def boolE (t : CB) : CE := fun ρ S => (t ρ S).bind fun p => some (.d (.bool p.1), p.2)
/-- what a value is read as -/
def rd (S : Sto) : W → Option PyData
  | .d x => some x
  | .m n => match S[n]? with
    | some (some xs) => some (.list xs)
    | _ => none
def pf1 (g : PyData → Option PyData) : W → Sto → Option (W × Sto) := fun x S => (rd S x).bind fun a => (g a).bind fun c => some (.d c, S)
def pf2 (g : PyData → PyData → Option PyData) : W → W → Sto → Option (W × Sto) := fun x y S => (rd S x).bind fun a => (rd S y).bind fun b => (g a b).bind fun c => some (.d c, S)

section
variable {K : PySem.W.Frag} {H : Hp} {μ : List Addr} {S : Sto}
/-- read: plain data, or a list that stands in a cell -/
inductive RdRep (K : PySem.W.Frag) (H : Hp) : PyData → V → Prop
  | imm {x : PyData} {v : V} : Rep K H x v → RdRep K H x v
  | cell {a : Addr} {vs : List V} {xs : List PyData} : H a = some (.lst vs) → RepL K H xs vs → RdRep K H (.list xs) (.ref a)
theorem RdRep.of {w : W} {v : V} {x : PyData} (ok : StoOk K H μ S) (r : WRep K H μ w v) (h : rd S w = some x) : RdRep K H x v := by
  cases r with
  | d r => cases h; exact .imm r
  | m hm =>
    rename_i n a
    have h' : (match S[n]? with
      | some (some xs) => some (PyData.list xs)
      | _ => none) = some x := h
    split at h'
    · rename_i xs hs
      cases h'
      obtain ⟨b, vs, h1, h2, h3⟩ := ok.cell _ _ hs
      rw [hm] at h1; cases h1
      exact .cell h2 h3
    · cases h'
theorem RdRep.dp {x : PyData} {v : V} (c : x.canLay0 = true) (r : RdRep K H x v) : Dp K H v x := by
  cases r with
  | imm r => exact r.dp c
  | cell h l => exact .lst (SqL.of h) (l.dp (by simpa [PyData.canLay0] using c))
theorem RdRep.list {xs : List PyData} {v : V} (r : RdRep K H (.list xs) v) : ∃ a vs, v = .ref a ∧ SqL K H a vs ∧ RepL K H xs vs := by
  cases r with
  | imm r => cases r with | lst h l => exact ⟨_, _, rfl, h.sq, l⟩
  | cell h l => exact ⟨_, _, rfl, SqL.of h, l⟩
theorem RdRep.tuple {xs : List PyData} {v : V} (r : RdRep K H (.tuple xs) v) : ∃ a vs, v = .ref a ∧ TpT K H a vs ∧ RepL K H xs vs := by
  cases r with
  | imm r => cases r with | tup h l => exact ⟨_, _, rfl, h, l⟩
theorem RdRep.int {i : Int} {v : V} (r : RdRep K H (.int i) v) : v = .int i := by cases r with | imm r => cases r; rfl
theorem RdRep.bool {b : Bool} {v : V} (r : RdRep K H (.bool b) v) : v = .bl b := by cases r with | imm r => cases r; rfl
theorem RdRep.str {b : Str} {v : V} (r : RdRep K H (.str b) v) : v = .str b := by cases r with | imm r => cases r; rfl
theorem RdRep.none {v : V} (r : RdRep K H .none v) : v = .non := by cases r with | imm r => cases r; rfl
end

/-! ### names and constants -/
section
variable {X : Cx} {e a b : Expr} {ma mb : CE} {pos : Pos}
theorem se_const {x : PyData} {v : V} {j : Nat} {c : Const} (h : PE X (.Constant c j pos) (tC v)) (r : ∀ H, Rep X.K H x v) : SE X (.Constant c j pos) (constE x) :=
  PE.imp h fun σ H Q ⟨μ, S, ρ, w, S', ok, en, e, q⟩ => by
    cases e
    exact q v H μ (.refl ok) (.d (r H))
theorem se_int {i : Int} {j : Nat} : SE X (.Constant (.int i) j pos) (constE (.int i)) := se_const pe_int fun _ => .int i
theorem se_bool {i : Bool} {j : Nat} : SE X (.Constant (.bool i) j pos) (constE (.bool i)) := se_const pe_bl fun _ => .bl i
theorem se_none {j : Nat} : SE X (.Constant .none j pos) (constE .none) := se_const pe_non fun _ => .non
theorem se_str {i : Str} {j : Nat} : SE X (.Constant (.str i) j pos) (constE (.str i)) := se_const pe_str fun _ => .str i
theorem se_var {i : Nat} {x : Str} (hN : X.N[i]? = some x) (hv : Vis X.env.scope x) (hd : (x == ("__debug__" : Str)) = false) (hcd : (x == ("__classdict__" : Str)) = false) : SE X (.Name x pos) (varE i) :=
  PE.imp (pe_var hN hv hd hcd) fun σ H Q ⟨μ, S, ρ, w, S', ok, en, e, q⟩ => by
    unfold varE at e
    split at e
    · rename_i w' h
      cases e
      obtain ⟨v, h1, h2⟩ := en.get i _ h
      exact ⟨v, h1, q v H μ (.refl ok) h2⟩
    · cases e
theorem se_glob {x : Str} {d : PyData} {v : V} {u : Value} (hg : Gl X x) (hm : X.mg x = some u) (r : RelV v u) (rp : ∀ H, Rep X.K H d v) (hd : (x == ("__debug__" : Str)) = false) : SE X (.Name x pos) (constE d) :=
  PE.imp (pe_glob hg hm r hd) fun σ H Q ⟨μ, S, ρ, w, S', ok, en, e, q⟩ => by
    cases e
    exact q v H μ (.refl ok) (.d (rp H))

/-! ### operators -/
theorem rd_bin {f : W → W → Sto → Option (W × Sto)} {K : PySem.W.Frag} {σ : L2.St} {H : Hp} {Q : VK} (h : rdE K (binE f ma mb) σ H Q) :
    rdE K ma σ H fun x H1 => rdE K mb σ H1 fun y H2 => F2 K f x y H2 Q := by
  obtain ⟨μ, S, ρ, w, S', ok, en, e, q⟩ := h
  unfold binE at e
  cases ha : ma ρ S with
  | none => rw [ha] at e; cases e
  | some p =>
    obtain ⟨w1, S1⟩ := p
    rw [ha] at e
    cases hb : mb ρ S1 with
    | none => rw [Option.bind_some, hb] at e; cases e
    | some p2 =>
      obtain ⟨w2, S2⟩ := p2
      rw [Option.bind_some, hb, Option.bind_some] at e
      refine ⟨μ, S, ρ, w1, S1, ok, en, ha, fun x H1 μ1 st1 r1 => ⟨μ1, S1, ρ, w2, S2, st1.sto, en.step ok st1, hb, fun y H2 μ2 st2 r2 => ?_⟩⟩
      exact ⟨μ2, S2, w1, w2, w, S', st2.sto, r1.mono (st2.keeps st1.sto) st2.pre, r2, e, fun v H' μ' st3 r3 => q v H' μ' (st1.trans ok (st2.trans st1.sto st3)) r3⟩
theorem rd_un {f : W → Sto → Option (W × Sto)} {K : PySem.W.Frag} {σ : L2.St} {H : Hp} {Q : VK} (h : rdE K (unE f ma) σ H Q) : rdE K ma σ H fun x H1 => F1 K f x H1 Q := by
  obtain ⟨μ, S, ρ, w, S', ok, en, e, q⟩ := h
  unfold unE at e
  cases ha : ma ρ S with
  | none => rw [ha] at e; cases e
  | some p =>
    obtain ⟨w1, S1⟩ := p
    rw [ha] at e
    exact ⟨μ, S, ρ, w1, S1, ok, en, ha, fun x H1 μ1 st1 r1 => ⟨μ1, S1, w1, w, S', st1.sto, r1, e, fun v H' μ' st3 r3 => q v H' μ' (st1.trans ok st3) r3⟩⟩
theorem se_bin {op : Operator} {f : W → W → Sto → Option (W × Sto)} (ho : OpR X (binaryOp op) (F2 X.K f)) (ha : SE X a ma) (hb : SE X b mb) : SE X (.BinOp a op b pos) (binE f ma mb) :=
  PE.imp (pe_op ho ha hb) fun _ _ _ h => rd_bin h
theorem se_un {op : UnaryOp} {f : W → Sto → Option (W × Sto)} (ho : UnR X (unaryOp op) (F1 X.K f)) (ha : SE X a ma) : SE X (.UnaryOp op a pos) (unE f ma) :=
  PE.imp (pe_un ho ha) fun _ _ _ h => rd_un h
theorem se_cmp {op : CmpOp} {f : W → W → Sto → Option (W × Sto)} (ho : OpR X (compareOp op) (F2 X.K f)) (ha : SE X a ma) (hb : SE X b mb) (hm : behindInMarks op b = false) : SE X (.Compare a [op] [b] pos) (binE f ma mb) :=
  PE.imp (pe_cmpR ho ha hb hm) fun _ _ _ h => rd_bin h

/-- a pure operation's reading, from its rule on values -/
theorem F2_pure {K : PySem.W.Frag} {g : PyData → PyData → Option PyData} {x y : V} {H : Hp} {Q : VK} (h : F2 K (pf2 g) x y H Q) :
    ∃ d1 d2 c, RdRep K H d1 x ∧ RdRep K H d2 y ∧ g d1 d2 = some c ∧ ∀ v H', (∀ a o, H a = some o → H' a = some o) → Rep K H' c v → Q v H' := by
  obtain ⟨μ, S, w1, w2, w, S', ok, r1, r2, e, q⟩ := h
  unfold pf2 at e
  cases h1 : rd S w1 with
  | none => rw [h1] at e; cases e
  | some d1 =>
    cases h2 : rd S w2 with
    | none => rw [h1, Option.bind_some, h2] at e; cases e
    | some d2 =>
      cases h3 : g d1 d2 with
      | none => rw [h1, Option.bind_some, h2, Option.bind_some, h3] at e; cases e
      | some c =>
        rw [h1, Option.bind_some, h2, Option.bind_some, h3, Option.bind_some] at e
        cases e
        exact ⟨d1, d2, c, RdRep.of ok r1 h1, RdRep.of ok r2 h2, h3, fun v H' k r => q v H' μ (Stp.same ok k) (.d r)⟩
theorem F1_pure {K : PySem.W.Frag} {g : PyData → Option PyData} {x : V} {H : Hp} {Q : VK} (h : F1 K (pf1 g) x H Q) :
    ∃ d1 c, RdRep K H d1 x ∧ g d1 = some c ∧ ∀ v H', (∀ a o, H a = some o → H' a = some o) → Rep K H' c v → Q v H' := by
  obtain ⟨μ, S, w1, w, S', ok, r1, e, q⟩ := h
  unfold pf1 at e
  cases h1 : rd S w1 with
  | none => rw [h1] at e; cases e
  | some d1 =>
    cases h3 : g d1 with
    | none => rw [h1, Option.bind_some, h3] at e; cases e
    | some c =>
      rw [h1, Option.bind_some, h3, Option.bind_some] at e
      cases e
      exact ⟨d1, c, RdRep.of ok r1 h1, h3, fun v H' k r => q v H' μ (Stp.same ok k) (.d r)⟩
end
theorem keeps_all {H : Hp} : ∀ a o, H a = some o → H a = some o := fun _ _ h => h

/-! ### + - * // % ** -/
def mulOk (i j : Int) : Bool := decide (i.natAbs.log2 + j.natAbs.log2 < 1000000)
def divOk (j : Int) : Bool := decide (j ≠ 0 ∧ j.natAbs.log2 < 9000)
/-- the greatest length of a list, of a tuple that is made -/
abbrev lim : Nat := 100000
def addP : PyData → PyData → Option PyData
  | .int i, .int j => some (.int (i + j))
  | .list xs, .list ys => if xs.length + ys.length ≤ lim then some (.list (xs ++ ys)) else none
  | .tuple xs, .tuple ys => if xs.length + ys.length ≤ lim then some (.tuple (xs ++ ys)) else none
  | _, _ => none
def subP : PyData → PyData → Option PyData
  | .int i, .int j => some (.int (i - j))
  | _, _ => none
def mulP : PyData → PyData → Option PyData
  | .int i, .int j => if mulOk i j = true then some (.int (i * j)) else none
  | _, _ => none
def divP : PyData → PyData → Option PyData
  | .int i, .int j => if divOk j = true then some (.int (i.fdiv j)) else none
  | _, _ => none
def modP : PyData → PyData → Option PyData
  | .int i, .int j => if j ≠ 0 then some (.int (i.fmod j)) else none
  | _, _ => none
def powP : PyData → PyData → Option PyData
  | .int i, .int j => if 0 ≤ j ∧ j ≤ 1000000 ∧ i.natAbs < 2 ^ 64 then some (.int (i ^ j.toNat)) else none
  | _, _ => none
theorem lim_le {n : Nat} (h : n ≤ lim) : n ≤ sizeLine := Nat.le_trans h (by rw [sizeLine_eq]; decide)
section
variable {X : Cx}
/-- list + list, of any lists that are read -/
theorem op_catL : OpR X (binaryOp .Add) (fun x y H Q => ∃ a b xs ys, x = .ref a ∧ y = .ref b ∧ SqL X.K H a xs ∧ SqL X.K H b ys ∧ xs.length + ys.length ≤ sizeLine ∧ ∀ p, H p = none → Q (.ref p) (upd H p (.lst (xs ++ ys)))) := by
  intro pins s σ H x y v u Q I rx ry h
  obtain ⟨a, b, xs, ys, rfl, rfl, ha, hb, hz, q⟩ := h
  cases rx
  cases ry
  obtain ⟨its, r, pl, _⟩ := I.list ha
  obtain ⟨its2, r2, pl2, _⟩ := I.list hb
  obtain ⟨⟨cls, dd, data, sl⟩, ho, hc, n, hd⟩ := id pl.isList
  obtain ⟨⟨cls2, dd2, data2, sl2⟩, ho2, hc2, n2, hd2⟩ := id pl2.isList
  simp only at hc hd hc2 hd2
  subst hc hd hc2 hd2
  have e : its.toArray ++ its2.toArray = (its ++ its2).toArray := by simp
  refine concat_meets ⟨_, ho, rfl⟩ ⟨_, ho2, rfl⟩ PySem.noFill_list_add PySem.seq_list_add PySem.F.slot_list_add PySem.F.entry_list_add (PySem.F.args_list_add_2 _ _) (list_addW a b its.toArray its2.toArray n n2 dd dd2 sl sl2 (by rw [List.size_toArray, List.size_toArray, ← r.length, ← r2.length]; exact hz)) ⟨ho, ho2, ?_⟩
  rw [e]
  exact ⟨.ref _, _, I.lnew (t' := s.toks) (r.append r2) (by rw [List.length_append]; exact hz), rfl, q _ I.fresh⟩
theorem so_add : OpR X (binaryOp .Add) (F2 X.K (pf2 addP)) := by
  refine OpR.imp (op_fz (op_add.or (op_catL.or op_catA))) fun x y H Q h => ?_
  obtain ⟨d1, d2, c, r1, r2, e, q⟩ := F2_pure h
  unfold addP at e
  split at e
  · cases e
    exact .inl ⟨_, _, r1.int, r2.int, .inr (q _ H keeps_all (.int _))⟩
  · split at e
    · rename_i hz
      cases e
      obtain ⟨a, vs, rfl, h1, l1⟩ := r1.list
      obtain ⟨b, us, rfl, h2, l2⟩ := r2.list
      refine .inr (.inl ⟨a, b, vs, us, rfl, rfl, h1, h2, by rw [← l1.length, ← l2.length]; exact lim_le hz, fun p hp => .inl ⟨p, _, rfl, upd_same, fun o => ?_⟩⟩)
      rw [upd_upd]
      exact q _ _ (same_new hp) (.lst (.inl ⟨o, upd_same⟩) ((l1.append l2).mono fun a o e _ => same_new hp a o e))
    · cases e
  · split at e
    · rename_i xs ys hz
      cases e
      obtain ⟨a, vs, rfl, h1, l1⟩ := r1.tuple
      obtain ⟨b, us, rfl, h2, l2⟩ := r2.tuple
      refine .inr (.inr ⟨a, b, vs, us, rfl, rfl, h1.sq, h2.sq, by rw [← l1.length, ← l2.length]; exact lim_le hz, fun e => .inr (q _ H keeps_all (.tup h2 ?_)), fun _ e => .inr (q _ H keeps_all (.tup h1 ?_)), fun _ _ p hp => .inr ?_⟩)
      · subst e; cases l1; exact l2
      · subst e; cases l2; rw [List.append_nil]; exact l1
      · exact q _ _ (same_new hp) (.tup (.inl upd_same) ((l1.append l2).mono fun a o e _ => same_new hp a o e))
    · cases e
  · cases e
/-- list + list, a list that is changed later -/
def catP : PyData → PyData → Option (List PyData)
  | .list xs, .list ys => if xs.length + ys.length ≤ lim then some (xs ++ ys) else none
  | _, _ => none
def addM (x y : W) (S : Sto) : Option (W × Sto) := (rd S x).bind fun a => (rd S y).bind fun b => (catP a b).bind fun xs => some (.m S.length, S ++ [some xs])
theorem so_addM : OpR X (binaryOp .Add) (F2 X.K addM) := by
  refine OpR.imp op_catL fun x y H Q h => ?_
  obtain ⟨μ, S, w1, w2, w, S', ok, r1, r2, e, q⟩ := h
  unfold addM at e
  cases h1 : rd S w1 with
  | none => rw [h1] at e; cases e
  | some d1 =>
    cases h2 : rd S w2 with
    | none => rw [h1, Option.bind_some, h2] at e; cases e
    | some d2 =>
      cases h3 : catP d1 d2 with
      | none => rw [h1, Option.bind_some, h2, Option.bind_some, h3] at e; cases e
      | some c =>
        rw [h1, Option.bind_some, h2, Option.bind_some, h3, Option.bind_some] at e
        cases e
        have q1 := RdRep.of ok r1 h1
        have q2 := RdRep.of ok r2 h2
        unfold catP at h3
        split at h3
        · split at h3
          · rename_i hz
            cases h3
            obtain ⟨a, vs, rfl, g1, l1⟩ := q1.list
            obtain ⟨b, us, rfl, g2, l2⟩ := q2.list
            refine ⟨a, b, vs, us, rfl, rfl, g1, g2, by rw [← l1.length, ← l2.length]; exact lim_le hz, fun p hp => ?_⟩
            refine q _ _ _ (.cell ok hp (l1.append l2)) (.m ?_)
            rw [← ok.len, List.getElem?_append_right (Nat.le_refl _), Nat.sub_self]; rfl
          · cases h3
        · cases h3
/-- [..] * n, the display a cell -/
def repM (x y : W) (S : Sto) : Option (W × Sto) := match x, y with
  | .m n, .d (.int k) => (match S[n]? with
    | some (some xs) => if 0 ≤ k ∧ k ≤ 100000 ∧ xs.length * k.toNat ≤ lim then some (.d (.list (List.replicate k.toNat xs).flatten), S) else none
    | _ => none)
  | _, _ => none
theorem RepL.rep {K : PySem.W.Frag} {H : Hp} {xs : List PyData} {vs : List V} (l : RepL K H xs vs) : ∀ n : Nat, RepL K H (List.replicate n xs).flatten (List.replicate n vs).flatten
  | 0 => .nil
  | n + 1 => by rw [List.replicate_succ, List.replicate_succ, List.flatten_cons, List.flatten_cons]; exact l.append (RepL.rep l n)
theorem so_repM : OpR X (binaryOp .Mult) (F2 X.K repM) := by
  refine OpR.imp (op_fz op_rep) fun x y H Q h => ?_
  obtain ⟨μ, S, w1, w2, w, S', ok, r1, r2, e, q⟩ := h
  unfold repM at e
  split at e
  · rename_i n k
    split at e
    · rename_i xs hx
      split at e
      · rename_i hz
        cases e
        cases r1 with
        | m hm =>
          cases r2 with
          | d r2 =>
            cases r2
            obtain ⟨a, vs, h1, h2, l⟩ := ok.cell _ _ hx
            rw [hm] at h1; cases h1
            refine ⟨_, k, vs, rfl, rfl, h2, by omega, by omega, by rw [← l.length]; exact lim_le hz.2.2, fun p hp => .inl ⟨p, _, rfl, upd_same, fun o => ?_⟩⟩
            rw [upd_upd]
            exact q _ _ μ (.new ok hp) (.d (.lst (.inl ⟨o, upd_same⟩) ((l.rep _).mono fun a o e _ => same_new hp a o e)))
      · cases e
    · cases e
  · cases e
theorem so_sub : OpR X (binaryOp .Sub) (F2 X.K (pf2 subP)) := by
  refine OpR.imp op_sub fun x y H Q h => ?_
  obtain ⟨d1, d2, c, r1, r2, e, q⟩ := F2_pure h
  unfold subP at e
  split at e
  · cases e; exact ⟨_, _, r1.int, r2.int, q _ H keeps_all (.int _)⟩
  · cases e
theorem so_mul : OpR X (binaryOp .Mult) (F2 X.K (pf2 mulP)) := by
  refine OpR.imp op_mulW fun x y H Q h => ?_
  obtain ⟨d1, d2, c, r1, r2, e, q⟩ := F2_pure h
  unfold mulP at e
  split at e
  · split at e
    · rename_i hm
      cases e; exact ⟨_, _, r1.int, r2.int, show _ < _ from of_decide_eq_true hm, q _ H keeps_all (.int _)⟩
    · cases e
  · cases e
theorem op_fdivF : OpR X (binaryOp .FloorDiv) (rI (fun _ j => j ≠ 0 ∧ j.natAbs.log2 < 9000) fun i j => .int (i.fdiv j)) := opI fun i j _ _ _ _ _ hc q =>
  floordiv_int hc.1 q (.inl (PyProof.noPylong_of_log2 hc.2))
theorem so_div : OpR X (binaryOp .FloorDiv) (F2 X.K (pf2 divP)) := by
  refine OpR.imp op_fdivF fun x y H Q h => ?_
  obtain ⟨d1, d2, c, r1, r2, e, q⟩ := F2_pure h
  unfold divP at e
  split at e
  · split at e
    · rename_i hm
      cases e; exact ⟨_, _, r1.int, r2.int, of_decide_eq_true hm, q _ H keeps_all (.int _)⟩
    · cases e
  · cases e
theorem so_mod : OpR X (binaryOp .Mod) (F2 X.K (pf2 modP)) := by
  refine OpR.imp op_modN fun x y H Q h => ?_
  obtain ⟨d1, d2, c, r1, r2, e, q⟩ := F2_pure h
  unfold modP at e
  split at e
  · split at e
    · rename_i hm
      cases e; exact ⟨_, _, r1.int, r2.int, hm, q _ H keeps_all (.int _)⟩
    · cases e
  · cases e
theorem so_pow : OpR X (binaryOp .Pow) (F2 X.K (pf2 powP)) := by
  refine OpR.imp op_pow fun x y H Q h => ?_
  obtain ⟨d1, d2, c, r1, r2, e, q⟩ := F2_pure h
  unfold powP at e
  split at e
  · split at e
    · rename_i hm
      cases e; exact ⟨_, _, r1.int, r2.int, hm, q _ H keeps_all (.int _)⟩
    · cases e
  · cases e
def binF : Operator → Option (W → W → Sto → Option (W × Sto))
  | .Add => some (pf2 addP)
  | .Sub => some (pf2 subP)
  | .Mult => some (pf2 mulP)
  | .FloorDiv => some (pf2 divP)
  | .Mod => some (pf2 modP)
  | .Pow => some (pf2 powP)
  | _ => none
theorem so_bin {op : Operator} {f : W → W → Sto → Option (W × Sto)} (h : binF op = some f) : OpR X (binaryOp op) (F2 X.K f) := by
  cases op <;> cases h <;> first | exact so_add | exact so_sub | exact so_mul | exact so_div | exact so_mod | exact so_pow
def negP : PyData → Option PyData
  | .int i => some (.int (-i))
  | _ => none
theorem so_neg : UnR X (unaryOp .USub) (F1 X.K (pf1 negP)) := by
  intro pins s σ H x v Q I r h
  refine un_neg pins s σ H x v Q I r ?_
  obtain ⟨d1, c, r1, e, q⟩ := F1_pure h
  unfold negP at e
  split at e
  · cases e; exact ⟨_, r1.int, q _ H keeps_all (.int _)⟩
  · cases e

/-! ### comparisons -/
def eqOk (a b : PyData) : Bool := a.canLay0 && b.canLay0 && decide (min a.depth b.depth ≤ 64)
/-- lists of unlike lengths, tuples of which just one is () -/
def unlen : PyData → PyData → Bool
  | .list xs, .list ys => xs.length != ys.length
  | .tuple xs, .tuple ys => xs.length != ys.length && (xs.isEmpty || ys.isEmpty)
  | _, _ => false
def eqX (a b : PyData) (r : Bool) : Option PyData := if unlen a b = true then some (.bool r) else none
def eqP (a b : PyData) : Option PyData := if eqOk a b = true then some (.bool (PyData.eqv a b)) else eqX a b false
def neP (a b : PyData) : Option PyData := if eqOk a b = true then some (.bool (!PyData.eqv a b)) else eqX a b true
theorem unlen_seq {a b : PyData} {x y : V} {H : Hp} (hx : RdRep X.K H a x) (hy : RdRep X.K H b y) (h : unlen a b = true) :
    (∃ p q xs ys, x = .ref p ∧ y = .ref q ∧ SqL X.K H p xs ∧ SqL X.K H q ys ∧ xs.length ≠ ys.length) ∨ ∃ p q xs ys, x = .ref p ∧ y = .ref q ∧ SqT X.K H p xs ∧ SqT X.K H q ys ∧ xs.length ≠ ys.length ∧ (xs.length = 0 ∨ ys.length = 0) := by
  unfold unlen at h
  split at h
  · obtain ⟨p, vs, rfl, h1, l1⟩ := hx.list
    obtain ⟨q, us, rfl, h2, l2⟩ := hy.list
    refine .inl ⟨p, q, vs, us, rfl, rfl, h1, h2, ?_⟩
    rw [← l1.length, ← l2.length]
    simpa using h
  · obtain ⟨p, vs, rfl, h1, l1⟩ := hx.tuple
    obtain ⟨q, us, rfl, h2, l2⟩ := hy.tuple
    rw [Bool.and_eq_true, Bool.or_eq_true] at h
    refine .inr ⟨p, q, vs, us, rfl, rfl, h1.sq, h2.sq, ?_, ?_⟩
    · rw [← l1.length, ← l2.length]
      simpa using h.1
    · rw [← l1.length, ← l2.length]
      simpa using h.2
  · cases h
theorem plainL_is {h : Heap} {a : Addr} {its : Array Value} (p : PlainL h a its) : h.IsList a its := by
  obtain ⟨o, n, h1, h2, h3, h4⟩ := p
  exact ⟨o, h1, h2, n, h4⟩
theorem isTup_is {h : Heap} {a : Addr} {its : Array Value} (p : IsTup h a its) : h.IsTuple a its := p
theorem op_eqM (hu : X.A.units + 64 < cLine) : OpR X (compareOp .Eq) (fun x y H Q => ∃ d e, RdRep X.K H d x ∧ RdRep X.K H e y ∧ ((eqOk d e = true ∧ Q (.bl (PyData.eqv d e)) H) ∨ (unlen d e = true ∧ Q (.bl false) H))) := by
  intro pins s σ H x y v u Q I rx ry h
  obtain ⟨d, e, hd, he, ⟨k, q⟩ | ⟨k, q⟩⟩ := h
  · unfold eqOk at k
    simp only [Bool.and_eq_true, decide_eq_true_eq] at k
    obtain ⟨as, r1⟩ := Dp.reads I d x v (hd.dp k.1.1) rx
    obtain ⟨bs, r2⟩ := Dp.reads I e y u (he.dp k.1.2) ry
    exact SeqAt.compareEq_reads r1 r2 k.1.1 k.1.2 (by omega) ⟨.bl _, H, I, rfl, q⟩
  · rcases unlen_seq hd he k with ⟨p, p', xs, ys, rfl, rfl, h1, h2, ne⟩ | ⟨p, p', xs, ys, rfl, rfl, h1, h2, ne, z⟩
    · obtain ⟨its, r1, l1, _⟩ := I.list h1
      obtain ⟨its', r2, l2, _⟩ := I.list h2
      cases rx; cases ry
      refine SeqAt.eq_list_lengthsAt (plainL_is l1) (plainL_is l2) ?_ (by omega) ⟨.bl _, H, I, rfl, q⟩
      have e1 := r1.length
      have e2 := r2.length
      simp only [List.size_toArray, bne_iff_ne]
      omega
    · obtain ⟨its, r1, l1, _⟩ := I.tuple h1
      obtain ⟨its', r2, l2, _⟩ := I.tuple h2
      cases rx; cases ry
      have e1 := r1.length
      have e2 := r2.length
      refine SeqAt.eq_tupleAt (e := fun _ => true) (isTup_is l1) (isTup_is l2) (by omega) (fun j h1 h2 => ?_) ?_
      · simp only [List.size_toArray] at h1 h2; omega
      · have : ((List.range (min its.toArray.size its'.toArray.size)).all (fun _ => true) && its.toArray.size == its'.toArray.size) = false := by
          rw [Bool.and_eq_false_iff]; right
          simp only [List.size_toArray, beq_eq_false_iff_ne]; omega
        rw [this]
        exact ⟨.bl _, H, I, rfl, q⟩
theorem op_neM (hu : X.A.units + 64 < cLine) : OpR X (compareOp .NotEq) (fun x y H Q => ∃ d e, RdRep X.K H d x ∧ RdRep X.K H e y ∧ ((eqOk d e = true ∧ Q (.bl (!PyData.eqv d e)) H) ∨ (unlen d e = true ∧ Q (.bl true) H))) := by
  intro pins s σ H x y v u Q I rx ry h
  obtain ⟨d, e, hd, he, ⟨k, q⟩ | ⟨k, q⟩⟩ := h
  · unfold eqOk at k
    simp only [Bool.and_eq_true, decide_eq_true_eq] at k
    obtain ⟨as, r1⟩ := Dp.reads I d x v (hd.dp k.1.1) rx
    obtain ⟨bs, r2⟩ := Dp.reads I e y u (he.dp k.1.2) ry
    exact SeqAt.compareNe_reads r1 r2 k.1.1 k.1.2 (by omega) ⟨.bl _, H, I, rfl, q⟩
  · rcases unlen_seq hd he k with ⟨p, p', xs, ys, rfl, rfl, h1, h2, ne⟩ | ⟨p, p', xs, ys, rfl, rfl, h1, h2, ne, z⟩
    · obtain ⟨its, r1, l1, _⟩ := I.list h1
      obtain ⟨its', r2, l2, _⟩ := I.list h2
      cases rx; cases ry
      refine SeqAt.RcNeAt.lists_lengths (plainL_is l1) (plainL_is l2) ?_ (by omega) X.prog X.w _ _ ⟨.bl _, H, I, rfl, q⟩
      have e1 := r1.length
      have e2 := r2.length
      simp only [List.size_toArray, bne_iff_ne]
      omega
    · obtain ⟨its, r1, l1, _⟩ := I.tuple h1
      obtain ⟨its', r2, l2, _⟩ := I.tuple h2
      cases rx; cases ry
      have e1 := r1.length
      have e2 := r2.length
      refine SeqAt.RcNeAt.tuples (e := fun _ => true) (isTup_is l1) (isTup_is l2) (by omega) (fun j h1 h2 => ?_) X.prog X.w _ _ ?_
      · simp only [List.size_toArray] at h1 h2; omega
      · have : (!((List.range (min its.toArray.size its'.toArray.size)).all (fun _ => true) && its.toArray.size == its'.toArray.size)) = true := by
          rw [Bool.not_eq_true', Bool.and_eq_false_iff]; right
          simp only [List.size_toArray, beq_eq_false_iff_ne]; omega
        rw [this]
        exact ⟨.bl _, H, I, rfl, q⟩
theorem so_eq (hu : X.A.units + 64 < cLine) : OpR X (compareOp .Eq) (F2 X.K (pf2 eqP)) := by
  refine OpR.imp (op_eqM hu) fun x y H Q h => ?_
  obtain ⟨d1, d2, c, r1, r2, e, q⟩ := F2_pure h
  unfold eqP at e
  split at e
  · rename_i hk
    cases e; exact ⟨_, _, r1, r2, .inl ⟨hk, q _ H keeps_all (.bl _)⟩⟩
  · unfold eqX at e
    split at e
    · rename_i hk
      cases e; exact ⟨_, _, r1, r2, .inr ⟨hk, q _ H keeps_all (.bl _)⟩⟩
    · cases e
theorem so_ne (hu : X.A.units + 64 < cLine) : OpR X (compareOp .NotEq) (F2 X.K (pf2 neP)) := by
  refine OpR.imp (op_neM hu) fun x y H Q h => ?_
  obtain ⟨d1, d2, c, r1, r2, e, q⟩ := F2_pure h
  unfold neP at e
  split at e
  · rename_i hk
    cases e; exact ⟨_, _, r1, r2, .inl ⟨hk, q _ H keeps_all (.bl _)⟩⟩
  · unfold eqX at e
    split at e
    · rename_i hk
      cases e; exact ⟨_, _, r1, r2, .inr ⟨hk, q _ H keeps_all (.bl _)⟩⟩
    · cases e
/-! ### in, not in: lists and tuples of data -/
def inP (x l : PyData) : Option PyData := match l with
  | .list ys => if x.canLay0 = true ∧ PyData.canLayAll0 ys = true ∧ PyData.depthAll ys ≤ 60 then some (.bool (ys.any fun y => PyData.eqv y x)) else none
  | .tuple ys => if x.canLay0 = true ∧ PyData.canLayAll0 ys = true ∧ PyData.depthAll ys ≤ 60 then some (.bool (ys.any fun y => PyData.eqv y x)) else none
  | _ => none
def ninP (x l : PyData) : Option PyData := (inP x l).bind fun b => match b with
  | .bool b => some (.bool (!b))
  | _ => none
theorem inP_cases {x l c : PyData} (h : inP x l = some c) : ∃ ys, (l = .list ys ∨ l = .tuple ys) ∧ x.canLay0 = true ∧ PyData.canLayAll0 ys = true ∧ PyData.depthAll ys ≤ 60 ∧ c = .bool (ys.any fun y => PyData.eqv y x) := by
  unfold inP at h
  split at h
  · split at h
    · rename_i ys hh; cases h; exact ⟨ys, .inl rfl, hh.1, hh.2.1, hh.2.2, rfl⟩
    · cases h
  · split at h
    · rename_i ys hh; cases h; exact ⟨ys, .inr rfl, hh.1, hh.2.1, hh.2.2, rfl⟩
    · cases h
  · cases h
theorem so_in (hu : X.A.units + 70 < cLine) : OpR X (compareOp .In) (F2 X.K (pf2 inP)) := by
  intro pins s σ H x y v u Q I rx ry h
  obtain ⟨d1, d2, c, r1, r2, e, q⟩ := F2_pure h
  obtain ⟨ys, hl, c1, c2, c3, rfl⟩ := inP_cases e
  obtain ⟨as, q1⟩ := Dp.reads I d1 x v (r1.dp c1) rx
  rcases hl with rfl | rfl
  · obtain ⟨bs, q2⟩ := Dp.reads I _ y u (r2.dp (by simpa [PyData.canLay0] using c2)) ry
    exact SeqAt.in_list_reads q2 q1 c2 c1 (by omega) ⟨.bl _, H, I, rfl, q _ H keeps_all (.bl _)⟩
  · obtain ⟨bs, q2⟩ := Dp.reads I _ y u (r2.dp (by simpa [PyData.canLay0] using c2)) ry
    exact SeqAt.in_tuple_reads q2 q1 c2 c1 (by omega) ⟨.bl _, H, I, rfl, q _ H keeps_all (.bl _)⟩
theorem so_nin (hu : X.A.units + 70 < cLine) : OpR X (compareOp .NotIn) (F2 X.K (pf2 ninP)) := by
  intro pins s σ H x y v u Q I rx ry h
  obtain ⟨d1, d2, c, r1, r2, e, q⟩ := F2_pure h
  unfold ninP at e
  cases e0 : inP d1 d2 with
  | none => rw [e0] at e; cases e
  | some c0 =>
    rw [e0, Option.bind_some] at e
    obtain ⟨ys, hl, c1, c2, c3, rfl⟩ := inP_cases e0
    cases e
    obtain ⟨as, q1⟩ := Dp.reads I d1 x v (r1.dp c1) rx
    rcases hl with rfl | rfl
    · obtain ⟨bs, q2⟩ := Dp.reads I _ y u (r2.dp (by simpa [PyData.canLay0] using c2)) ry
      exact SeqAt.notIn_list_reads q2 q1 c2 c1 (by omega) ⟨.bl _, H, I, rfl, q _ H keeps_all (.bl _)⟩
    · obtain ⟨bs, q2⟩ := Dp.reads I _ y u (r2.dp (by simpa [PyData.canLay0] using c2)) ry
      exact SeqAt.notIn_tuple_reads q2 q1 c2 c1 (by omega) ⟨.bl _, H, I, rfl, q _ H keeps_all (.bl _)⟩
def ltP : PyData → PyData → Option PyData
  | .int i, .int j => some (.bool (decide (i < j)))
  | _, _ => none
def leP : PyData → PyData → Option PyData
  | .int i, .int j => some (.bool (decide (i ≤ j)))
  | _, _ => none
def gtP : PyData → PyData → Option PyData
  | .int i, .int j => some (.bool (decide (j < i)))
  | _, _ => none
def geP : PyData → PyData → Option PyData
  | .int i, .int j => some (.bool (decide (j ≤ i)))
  | _, _ => none
theorem so_lt : OpR X (compareOp .Lt) (F2 X.K (pf2 ltP)) := by
  refine OpR.imp op_lt fun x y H Q h => ?_
  obtain ⟨d1, d2, c, r1, r2, e, q⟩ := F2_pure h
  unfold ltP at e
  split at e
  · cases e; exact ⟨_, _, r1.int, r2.int, q _ H keeps_all (.bl _)⟩
  · cases e
theorem so_le : OpR X (compareOp .LtE) (F2 X.K (pf2 leP)) := by
  refine OpR.imp op_le fun x y H Q h => ?_
  obtain ⟨d1, d2, c, r1, r2, e, q⟩ := F2_pure h
  unfold leP at e
  split at e
  · cases e; exact ⟨_, _, r1.int, r2.int, q _ H keeps_all (.bl _)⟩
  · cases e
theorem so_gt : OpR X (compareOp .Gt) (F2 X.K (pf2 gtP)) := by
  refine OpR.imp op_gt fun x y H Q h => ?_
  obtain ⟨d1, d2, c, r1, r2, e, q⟩ := F2_pure h
  unfold gtP at e
  split at e
  · cases e; exact ⟨_, _, r1.int, r2.int, q _ H keeps_all (.bl _)⟩
  · cases e
theorem so_ge : OpR X (compareOp .GtE) (F2 X.K (pf2 geP)) := by
  refine OpR.imp op_ge fun x y H Q h => ?_
  obtain ⟨d1, d2, c, r1, r2, e, q⟩ := F2_pure h
  unfold geP at e
  split at e
  · cases e; exact ⟨_, _, r1.int, r2.int, q _ H keeps_all (.bl _)⟩
  · cases e
/-- x is None -/
def isNone : W → Bool
  | .d .none => true
  | _ => false
def isF : W → W → Sto → Option (W × Sto)
  | x, .d .none, S => some (.d (.bool (isNone x)), S)
  | _, _, _ => none
def isntF : W → W → Sto → Option (W × Sto)
  | x, .d .none, S => some (.d (.bool (!isNone x)), S)
  | _, _, _ => none
theorem isNone_eq {K : PySem.W.Frag} {H : Hp} {μ : List Addr} {w : W} {v : V} (r : WRep K H μ w v) : isNone w = decide (v = .non) := by
  cases r with
  | d r => cases r <;> simp [isNone]
  | m h => simp [isNone]
theorem so_is : OpR X (compareOp .Is) (F2 X.K isF) := by
  refine OpR.imp op_isN fun x y H Q h => ?_
  obtain ⟨μ, S, w1, w2, w, S', ok, r1, r2, e, q⟩ := h
  unfold isF at e
  split at e
  · cases e
    cases r2 with
    | d r2 =>
      cases r2
      exact ⟨rfl, q _ H μ (.refl ok) (.d (by rw [isNone_eq r1]; exact .bl _))⟩
  · cases e
theorem so_isnt : OpR X (compareOp .IsNot) (F2 X.K isntF) := by
  refine OpR.imp op_notN fun x y H Q h => ?_
  obtain ⟨μ, S, w1, w2, w, S', ok, r1, r2, e, q⟩ := h
  unfold isntF at e
  split at e
  · cases e
    cases r2 with
    | d r2 =>
      cases r2
      exact ⟨rfl, q _ H μ (.refl ok) (.d (by rw [isNone_eq r1]; exact .bl _))⟩
  · cases e
def cmpF : CmpOp → Option (W → W → Sto → Option (W × Sto))
  | .Eq => some (pf2 eqP)
  | .NotEq => some (pf2 neP)
  | .Lt => some (pf2 ltP)
  | .LtE => some (pf2 leP)
  | .Gt => some (pf2 gtP)
  | .GtE => some (pf2 geP)
  | .Is => some isF
  | .IsNot => some isntF
  | .In => some (pf2 inP)
  | .NotIn => some (pf2 ninP)
def notSet : Expr → Bool
  | .Set _ _ _ => false
  | _ => true
theorem so_cmp (hu : X.A.units + 70 < cLine) {op : CmpOp} {f : W → W → Sto → Option (W × Sto)} (h : cmpF op = some f) : OpR X (compareOp op) (F2 X.K f) := by
  cases op <;> cases h <;> first | exact so_eq (by omega) | exact so_ne (by omega) | exact so_lt | exact so_le | exact so_gt | exact so_ge | exact so_is | exact so_isnt | exact so_in hu | exact so_nin hu
theorem cmp_mark {op : CmpOp} {f : W → W → Sto → Option (W × Sto)} (_h : cmpF op = some f) {b : Expr} (hs : notSet b = true) : behindInMarks op b = false := by
  cases b <;> first | rfl | cases hs
end

/-! ### tests -/
section
variable {X : Cx} {e a b c : Expr} {ma mb mc : CE} {ta tb : CB} {pos : Pos}
theorem rd_valB {K : PySem.W.Frag} {σ : L2.St} {H : Hp} {Q : Bool → Hp → Prop} (h : rdB K (valB ma) σ H Q) : rdE K ma σ H fun x H1 => ∃ k, x = .bl k ∧ Q k H1 := by
  obtain ⟨μ, S, ρ, w, S', ok, en, e, q⟩ := h
  unfold valB at e
  cases ha : ma ρ S with
  | none => rw [ha] at e; cases e
  | some p =>
    obtain ⟨w1, S1⟩ := p
    rw [ha, Option.bind_some] at e
    cases hb : asBool w1 with
    | none => rw [hb] at e; cases e
    | some k =>
      rw [hb, Option.bind_some] at e
      cases e
      refine ⟨μ, S, ρ, w1, _, ok, en, ha, fun x H1 μ1 st1 r1 => ⟨_, ?_, q H1 μ1 st1⟩⟩
      unfold asBool at hb
      split at hb
      · cases hb
        cases r1 with | d r => cases r; rfl
      · cases hb
theorem rd_boolE {K : PySem.W.Frag} {σ : L2.St} {H : Hp} {Q : VK} (h : rdE K (boolE ta) σ H Q) : rdB K ta σ H fun k H1 => Q (.bl k) H1 := by
  obtain ⟨μ, S, ρ, w, S', ok, en, e, q⟩ := h
  unfold boolE at e
  cases ha : ta ρ S with
  | none => rw [ha] at e; cases e
  | some p =>
    obtain ⟨w1, S1⟩ := p
    rw [ha, Option.bind_some] at e
    cases e
    exact ⟨μ, S, ρ, w1, _, ok, en, ha, fun H1 μ1 st1 => q _ H1 μ1 st1 (.d (.bl _))⟩
theorem sb_val (h : SE X e ma) (he : ∀ whole, isTrue e X.env whole = (do let v ← whole; standAt e.pos; holding [v] (truthy v))) : SB X e (valB ma) :=
  PT.imp (pt_val h he) fun _ _ _ h => rd_valB h
theorem sb_cmp {op : CmpOp} {f : W → W → Sto → Option (W × Sto)} (ho : OpR X (compareOp op) (F2 X.K f)) (ha : SE X a ma) (hb : SE X b mb) (hm : behindInMarks op b = false) : SB X (.Compare a [op] [b] pos) (valB (binE f ma mb)) :=
  PT.imp (pt_cmpR ho ha hb hm) fun _ _ _ h => by
    have h1 := rd_valB h
    exact rd_bin h1
def chE (f g : W → W → Sto → Option (W × Sto)) (a b c : CE) : CE := fun ρ S => (a ρ S).bind fun p => (b ρ p.2).bind fun q => (f p.1 q.1 q.2).bind fun z => (asBool z.1).bind fun k => if k = true then (c ρ z.2).bind fun r => g q.1 r.1 r.2 else some (.d (.bool false), z.2)
theorem rd_ch {f g : W → W → Sto → Option (W × Sto)} {K : PySem.W.Frag} {σ : L2.St} {H : Hp} {Q : VK} (h : rdE K (chE f g ma mb mc) σ H Q) :
    rdE K ma σ H fun x H1 => rdE K mb σ H1 fun y H2 => F2 K f x y H2 fun z H3 => ∃ k, z = .bl k ∧ if k = true then rdE K mc σ H3 fun u H4 => F2 K g y u H4 Q else Q (.bl false) H3 := by
  obtain ⟨μ, S, ρ, w, S', ok, en, e, q⟩ := h
  unfold chE at e
  cases ha : ma ρ S with
  | none => rw [ha] at e; cases e
  | some p =>
    obtain ⟨w1, S1⟩ := p
    rw [ha, Option.bind_some] at e
    cases hb : mb ρ S1 with
    | none => rw [hb] at e; cases e
    | some p2 =>
      obtain ⟨w2, S2⟩ := p2
      rw [hb, Option.bind_some] at e
      cases hf : f w1 w2 S2 with
      | none => rw [hf] at e; cases e
      | some p3 =>
        obtain ⟨w3, S3⟩ := p3
        rw [hf, Option.bind_some] at e
        cases hk : asBool w3 with
        | none => rw [hk] at e; cases e
        | some k =>
          rw [hk, Option.bind_some] at e
          refine ⟨μ, S, ρ, w1, S1, ok, en, ha, fun x H1 μ1 st1 r1 => ⟨μ1, S1, ρ, w2, S2, st1.sto, en.step ok st1, hb, fun y H2 μ2 st2 r2 => ?_⟩⟩
          refine ⟨μ2, S2, w1, w2, w3, S3, st2.sto, r1.mono (st2.keeps st1.sto) st2.pre, r2, hf, fun z H3 μ3 st3 r3 => ?_⟩
          have s12 := st1.trans ok st2
          have s13 := s12.trans ok st3
          unfold asBool at hk
          split at hk
          · rename_i b
            cases hk
            cases r3 with | d r3 =>
            cases r3
            refine ⟨k, rfl, ?_⟩
            cases k with
            | true =>
              simp only [if_true] at e ⊢
              cases hc : mc ρ S3 with
              | none => rw [hc] at e; cases e
              | some p4 =>
                obtain ⟨w4, S4⟩ := p4
                rw [hc, Option.bind_some] at e
                refine ⟨μ3, S3, ρ, w4, S4, st3.sto, en.step ok s13, hc, fun u H4 μ4 st4 r4 => ?_⟩
                exact ⟨μ4, S4, w2, w4, w, S', st4.sto, r2.mono ((st3.trans st2.sto st4).keeps st2.sto) (st3.trans st2.sto st4).pre, r4, e, fun v H' μ' st5 r5 => q v H' μ' (s13.trans ok (st4.trans st3.sto st5)) r5⟩
            | false =>
              simp only [Bool.false_eq_true, if_false] at e ⊢
              cases e
              exact q _ H3 μ3 s13 (.d (.bl _))
          · cases hk
theorem se_chain {op op' : CmpOp} {f g : W → W → Sto → Option (W × Sto)} (ho : OpR X (compareOp op) (F2 X.K f)) (ho' : OpR X (compareOp op') (F2 X.K g)) (ha : SE X a ma) (hb : SE X b mb) (hc : SE X c mc) (hm : behindInMarks op' c = false) :
    SE X (.Compare a [op, op'] [b, c] pos) (chE f g ma mb mc) :=
  PE.imp (pe_chain ho ho' ha hb hc hm) fun _ _ _ h => rd_ch h
theorem sb_chain {op op' : CmpOp} {f g : W → W → Sto → Option (W × Sto)} (ho : OpR X (compareOp op) (F2 X.K f)) (ho' : OpR X (compareOp op') (F2 X.K g)) (ha : SE X a ma) (hb : SE X b mb) (hc : SE X c mc) (hm : behindInMarks op' c = false) :
    SB X (.Compare a [op, op'] [b, c] pos) (valB (chE f g ma mb mc)) :=
  PT.imp (pt_chain ho ho' ha hb hc hm) fun _ _ _ h => by
    have h1 := rd_valB h
    exact rd_ch h1
theorem sb_not (h : SB X a ta) : SB X (.UnaryOp .Not a pos) (notB ta) :=
  PT.imp (pt_not h) fun σ H Q ⟨μ, S, ρ, w, S', ok, en, e, q⟩ => by
    unfold notB at e
    cases ha : ta ρ S with
    | none => rw [ha] at e; cases e
    | some p =>
      obtain ⟨w1, S1⟩ := p
      rw [ha, Option.bind_some] at e
      cases e
      exact ⟨μ, S, ρ, w1, _, ok, en, ha, fun H1 μ1 st1 => q H1 μ1 st1⟩
theorem rd_andB {K : PySem.W.Frag} {σ : L2.St} {H : Hp} {Q : Bool → Hp → Prop} (h : rdB K (andB ta tb) σ H Q) : rdB K ta σ H fun k H1 => if k = true then rdB K tb σ H1 Q else Q false H1 := by
  obtain ⟨μ, S, ρ, w, S', ok, en, e, q⟩ := h
  unfold andB at e
  cases ha : ta ρ S with
  | none => rw [ha] at e; cases e
  | some p =>
    obtain ⟨k, S1⟩ := p
    rw [ha, Option.bind_some] at e
    refine ⟨μ, S, ρ, k, S1, ok, en, ha, fun H1 μ1 st1 => ?_⟩
    cases k with
    | true => exact ⟨μ1, S1, ρ, w, S', st1.sto, en.step ok st1, e, fun H2 μ2 st2 => q H2 μ2 (st1.trans ok st2)⟩
    | false => cases e; exact q H1 μ1 st1
theorem rd_orB {K : PySem.W.Frag} {σ : L2.St} {H : Hp} {Q : Bool → Hp → Prop} (h : rdB K (orB ta tb) σ H Q) : rdB K ta σ H fun k H1 => if k = true then Q true H1 else rdB K tb σ H1 Q := by
  obtain ⟨μ, S, ρ, w, S', ok, en, e, q⟩ := h
  unfold orB at e
  cases ha : ta ρ S with
  | none => rw [ha] at e; cases e
  | some p =>
    obtain ⟨k, S1⟩ := p
    rw [ha, Option.bind_some] at e
    refine ⟨μ, S, ρ, k, S1, ok, en, ha, fun H1 μ1 st1 => ?_⟩
    cases k with
    | false => exact ⟨μ1, S1, ρ, w, S', st1.sto, en.step ok st1, e, fun H2 μ2 st2 => q H2 μ2 (st1.trans ok st2)⟩
    | true => cases e; exact q H1 μ1 st1
/-! as values: the parts are bools -/
def andE (a b : CE) : CE := fun ρ S => (a ρ S).bind fun p => (asBool p.1).bind fun k => if k = true then b ρ p.2 else some (.d (.bool false), p.2)
def orE (a b : CE) : CE := fun ρ S => (a ρ S).bind fun p => (asBool p.1).bind fun k => if k = true then some (.d (.bool true), p.2) else b ρ p.2
def notE (a : CE) : CE := fun ρ S => (a ρ S).bind fun p => (asBool p.1).bind fun k => some (.d (.bool (!k)), p.2)
theorem rd_andE {K : PySem.W.Frag} {σ : L2.St} {H : Hp} {Q : VK} (h : rdE K (andE ma mb) σ H Q) : rdE K ma σ H fun x H1 => ∃ k, x = .bl k ∧ if k = true then rdE K mb σ H1 Q else Q (.bl false) H1 := by
  obtain ⟨μ, S, ρ, w, S', ok, en, e, q⟩ := h
  unfold andE at e
  cases ha : ma ρ S with
  | none => rw [ha] at e; cases e
  | some p =>
    obtain ⟨w1, S1⟩ := p
    rw [ha, Option.bind_some] at e
    cases hk : asBool w1 with
    | none => rw [hk] at e; cases e
    | some k =>
      rw [hk, Option.bind_some] at e
      refine ⟨μ, S, ρ, w1, S1, ok, en, ha, fun x H1 μ1 st1 r1 => ?_⟩
      unfold asBool at hk
      split at hk
      · cases hk
        cases r1 with | d r1 =>
        cases r1
        refine ⟨k, rfl, ?_⟩
        cases k with
        | true => exact ⟨μ1, S1, ρ, w, S', st1.sto, en.step ok st1, e, fun v H2 μ2 st2 => q v H2 μ2 (st1.trans ok st2)⟩
        | false => cases e; exact q _ H1 μ1 st1 (.d (.bl _))
      · cases hk
theorem rd_orE {K : PySem.W.Frag} {σ : L2.St} {H : Hp} {Q : VK} (h : rdE K (orE ma mb) σ H Q) : rdE K ma σ H fun x H1 => ∃ k, x = .bl k ∧ if k = true then Q (.bl true) H1 else rdE K mb σ H1 Q := by
  obtain ⟨μ, S, ρ, w, S', ok, en, e, q⟩ := h
  unfold orE at e
  cases ha : ma ρ S with
  | none => rw [ha] at e; cases e
  | some p =>
    obtain ⟨w1, S1⟩ := p
    rw [ha, Option.bind_some] at e
    cases hk : asBool w1 with
    | none => rw [hk] at e; cases e
    | some k =>
      rw [hk, Option.bind_some] at e
      refine ⟨μ, S, ρ, w1, S1, ok, en, ha, fun x H1 μ1 st1 r1 => ?_⟩
      unfold asBool at hk
      split at hk
      · cases hk
        cases r1 with | d r1 =>
        cases r1
        refine ⟨k, rfl, ?_⟩
        cases k with
        | false => exact ⟨μ1, S1, ρ, w, S', st1.sto, en.step ok st1, e, fun v H2 μ2 st2 => q v H2 μ2 (st1.trans ok st2)⟩
        | true => cases e; exact q _ H1 μ1 st1 (.d (.bl _))
      · cases hk
theorem se_not (h : SE X a ma) : SE X (.UnaryOp .Not a pos) (notE ma) :=
  PE.imp (pe_not h) fun σ H Q ⟨μ, S, ρ, w, S', ok, en, e, q⟩ => by
    unfold notE at e
    cases ha : ma ρ S with
    | none => rw [ha] at e; cases e
    | some p =>
      obtain ⟨w1, S1⟩ := p
      rw [ha, Option.bind_some] at e
      cases hk : asBool w1 with
      | none => rw [hk] at e; cases e
      | some k =>
        rw [hk, Option.bind_some] at e
        cases e
        refine ⟨μ, S, ρ, w1, _, ok, en, ha, fun x H1 μ1 st1 r1 => ?_⟩
        unfold asBool at hk
        split at hk
        · cases hk
          cases r1 with | d r1 =>
          cases r1
          exact ⟨k, rfl, q _ H1 μ1 st1 (.d (.bl _))⟩
        · cases hk
theorem se_if (hc : SB X c ta) (ha : SE X a ma) (hb : SE X b mb) : SE X (.IfExp c a b pos) (ifE ta ma mb) :=
  PE.imp (pe_ifExp hc ha hb) fun σ H Q ⟨μ, S, ρ, w, S', ok, en, e, q⟩ => by
    unfold ifE at e
    cases hx : ta ρ S with
    | none => rw [hx] at e; cases e
    | some p =>
      obtain ⟨k, S1⟩ := p
      rw [hx, Option.bind_some] at e
      refine ⟨μ, S, ρ, k, S1, ok, en, hx, fun H1 μ1 st1 => ?_⟩
      cases k with
      | true => exact ⟨μ1, S1, ρ, w, S', st1.sto, en.step ok st1, e, fun v H2 μ2 st2 => q v H2 μ2 (st1.trans ok st2)⟩
      | false => exact ⟨μ1, S1, ρ, w, S', st1.sto, en.step ok st1, e, fun v H2 μ2 st2 => q v H2 μ2 (st1.trans ok st2)⟩
end

/-! ### argument lists -/
section
variable {X : Cx} {e a b c : Expr} {es : List Expr} {ma mb mc : CE} {ml : CL} {pos : Pos}
theorem sl_nil : SL X [] nilL := PA.imp pa_nil fun σ H Q ⟨μ, S, ρ, w, S', ok, en, e, q⟩ => by
  cases e
  exact q _ H μ (.refl ok) .nil
theorem rd_cons {K : PySem.W.Frag} {σ : L2.St} {H : Hp} {Q : List V → Hp → Prop} (h : rdL K (consL ma ml) σ H Q) : rdE K ma σ H fun x H1 => rdL K ml σ H1 fun xs H2 => Q (x :: xs) H2 := by
  obtain ⟨μ, S, ρ, w, S', ok, en, e, q⟩ := h
  unfold consL at e
  cases ha : ma ρ S with
  | none => rw [ha] at e; cases e
  | some p =>
    obtain ⟨w1, S1⟩ := p
    rw [ha, Option.bind_some] at e
    cases hb : ml ρ S1 with
    | none => rw [hb] at e; cases e
    | some p2 =>
      obtain ⟨ws, S2⟩ := p2
      rw [hb, Option.bind_some] at e
      cases e
      exact ⟨μ, S, ρ, w1, S1, ok, en, ha, fun x H1 μ1 st1 r1 => ⟨μ1, S1, ρ, ws, _, st1.sto, en.step ok st1, hb, fun xs H2 μ2 st2 r2 => q _ H2 μ2 (st1.trans ok st2) (.cons (r1.mono (st2.keeps st1.sto) st2.pre) r2)⟩⟩
theorem sl_cons (ha : SE X e ma) (hr : SL X es ml) (hs : starEach (e :: es) X.env = (false, eval e X.env) :: starEach es X.env) : SL X (e :: es) (consL ma ml) :=
  PA.imp (pa_cons ha hr hs) fun _ _ _ h => rd_cons h
theorem rd_app {f : List W → Sto → Option (W × Sto)} {K : PySem.W.Frag} {σ : L2.St} {H : Hp} {Q : VK} (h : rdE K (appE f ml) σ H Q) : rdL K ml σ H fun xs H1 => FN K f xs H1 Q := by
  obtain ⟨μ, S, ρ, w, S', ok, en, e, q⟩ := h
  unfold appE at e
  cases ha : ml ρ S with
  | none => rw [ha] at e; cases e
  | some p =>
    obtain ⟨w1, S1⟩ := p
    rw [ha, Option.bind_some] at e
    exact ⟨μ, S, ρ, w1, S1, ok, en, ha, fun x H1 μ1 st1 r1 => ⟨μ1, S1, w1, w, S', st1.sto, r1, e, fun v H' μ' st3 r3 => q v H' μ' (st1.trans ok st3) r3⟩⟩
end
end PD

/-! PD, part 3: displays, subscripts, slices, calls of built-ins. -/
namespace PD
open PySem PySem.Spec PyProof.Rows L2

/-! ### plain data in a row -/
def allD : List W → Option (List PyData)
  | [] => some []
  | .d x :: r => (allD r).bind fun xs => some (x :: xs)
  | .m _ :: _ => none
theorem allD_rep {K : PySem.W.Frag} {H : Hp} {μ : List Addr} : ∀ {ws : List W} {vs : List V} {xs : List PyData}, WRepL K H μ ws vs → allD ws = some xs → RepL K H xs vs
  | _, _, _, .nil, h => by cases h; exact .nil
  | _, _, _, .cons (w := .d x) (.d r) l, h => by
    unfold allD at h
    cases e : allD _ with
    | none => rw [e] at h; cases h
    | some ys => rw [e, Option.bind_some] at h; cases h; exact .cons r (allD_rep l e)
  | _, _, _, .cons (w := .m n) _ _, h => by cases h
def tupF : List W → Sto → Option (W × Sto) := fun ws S => (allD ws).bind fun xs => if xs.length ≤ lim then some (.d (.tuple xs), S) else none
def lstF : List W → Sto → Option (W × Sto) := fun ws S => (allD ws).bind fun xs => if xs.length ≤ lim then some (.d (.list xs), S) else none
def lstM : List W → Sto → Option (W × Sto) := fun ws S => (allD ws).bind fun xs => if xs.length ≤ lim then some (.m S.length, S ++ [some xs]) else none
section
variable {X : Cx} {e a b c : Expr} {es : List Expr} {ma mb mc : CE} {ml : CL} {pos : Pos}
theorem se_tup {k : Nat} (h : SL X es ml) : SE X (.Tuple es k pos) (appE tupF ml) := PE.imp (pe_tup h) fun σ H Q h => by
  obtain ⟨μ, S, ρ, ws, S1, ok, en, e, q⟩ := rd_app h
  refine ⟨μ, S, ρ, ws, S1, ok, en, e, fun vs H1 μ1 st r => ?_⟩
  obtain ⟨μ2, S2, ws2, w, S3, ok2, r2, e2, q2⟩ := q vs H1 μ1 st r
  unfold tupF at e2
  cases ea : allD ws2 with
  | none => rw [ea] at e2; cases e2
  | some xs =>
    rw [ea, Option.bind_some] at e2
    split at e2
    · rename_i hz
      cases e2
      have rl := allD_rep r2 ea
      exact ⟨by rw [← rl.length]; exact lim_le hz, fun p hp => q2 _ _ μ2 (.new ok2 hp) (.d (.tup (.inl upd_same) (rl.mono fun a o e _ => same_new hp a o e)))⟩
    · cases e2
theorem se_lst (h : SL X es ml) : SE X (.List es pos) (appE lstF ml) := PE.imp (pe_fz (pe_lst h)) fun σ H Q h => by
  obtain ⟨μ, S, ρ, ws, S1, ok, en, e, q⟩ := rd_app h
  refine ⟨μ, S, ρ, ws, S1, ok, en, e, fun vs H1 μ1 st r => ?_⟩
  obtain ⟨μ2, S2, ws2, w, S3, ok2, r2, e2, q2⟩ := q vs H1 μ1 st r
  unfold lstF at e2
  cases ea : allD ws2 with
  | none => rw [ea] at e2; cases e2
  | some xs =>
    rw [ea, Option.bind_some] at e2
    split at e2
    · rename_i hz
      cases e2
      have rl := allD_rep r2 ea
      refine ⟨by rw [← rl.length]; exact lim_le hz, fun p hp => .inl ⟨p, _, rfl, upd_same, fun o => ?_⟩⟩
      rw [upd_upd]
      exact q2 _ _ μ2 (.new ok2 hp) (.d (.lst (.inl ⟨o, upd_same⟩) (rl.mono fun a o e _ => same_new hp a o e)))
    · cases e2
theorem se_lstM (h : SL X es ml) : SE X (.List es pos) (appE lstM ml) := PE.imp (pe_lst h) fun σ H Q h => by
  obtain ⟨μ, S, ρ, ws, S1, ok, en, e, q⟩ := rd_app h
  refine ⟨μ, S, ρ, ws, S1, ok, en, e, fun vs H1 μ1 st r => ?_⟩
  obtain ⟨μ2, S2, ws2, w, S3, ok2, r2, e2, q2⟩ := q vs H1 μ1 st r
  unfold lstM at e2
  cases ea : allD ws2 with
  | none => rw [ea] at e2; cases e2
  | some xs =>
    rw [ea, Option.bind_some] at e2
    split at e2
    · rename_i hz
      cases e2
      have rl := allD_rep r2 ea
      refine ⟨by rw [← rl.length]; exact lim_le hz, fun p hp => q2 _ _ _ (.cell ok2 hp rl) (.m ?_)⟩
      rw [← ok2.len, List.getElem?_append_right (Nat.le_refl _), Nat.sub_self]; rfl
    · cases e2

/-! ### subscripts -/
def ixP : PyData → PyData → Option PyData
  | .list xs, .int i => atI xs i
  | .tuple xs, .int i => atI xs i
  | _, _ => none
theorem ixN_len {n m : Nat} (h : n = m) (i : Int) : ixN n i = ixN m i := by rw [h]
theorem RepL.at {K : PySem.W.Frag} {H : Hp} {xs : List PyData} {vs : List V} {i : Int} {x : PyData} (l : RepL K H xs vs) (h : atI xs i = some x) : ∃ v, atI vs i = some v ∧ Rep K H x v := by
  unfold atI at h ⊢
  rw [l.length] at h
  cases e : ixN vs.length i with
  | none => rw [e] at h; cases h
  | some j =>
    rw [e] at h
    exact l.get h
theorem so_ix : IxR X (F2 X.K (pf2 ixP)) := by
  have h := (ix_list (X := X)).or (ix_tup (X := X))
  intro value slice pins s σ H x y v u Q I rx ry q0 hs
  refine h value slice pins s σ H x y v u Q I rx ry ?_ hs
  obtain ⟨d1, d2, c, r1, r2, e, q⟩ := F2_pure q0
  unfold ixP at e
  split at e
  · obtain ⟨a, vs, rfl, h1, l1⟩ := r1.list
    obtain ⟨z, hz, rz⟩ := l1.at e
    exact .inl ⟨a, vs, _, z, rfl, r2.int, h1, hz, q z H keeps_all rz⟩
  · obtain ⟨a, vs, rfl, h1, l1⟩ := r1.tuple
    obtain ⟨z, hz, rz⟩ := l1.at e
    exact .inr ⟨a, vs, _, z, rfl, r2.int, h1.sq, hz, q z H keeps_all rz⟩
  · cases e
def isSlice : Expr → Bool
  | .Slice _ _ _ _ => true
  | _ => false
theorem plainIx {b : Expr} (h : isSlice b = false) : PlainIx b := by
  intro o i
  cases b <;> first | rfl | cases h
theorem se_ix (ha : SE X a ma) (hb : SE X b mb) (hs : isSlice b = false) : SE X (.Subscript a b pos) (binE (pf2 ixP) ma mb) :=
  PE.imp (pe_ix so_ix ha hb (plainIx hs)) fun _ _ _ h => rd_bin h

/-! ### slices -/
def cutP (xs : List PyData) (lo hi : Option Int) : List PyData := (xs.drop (HT.sIx xs.length 0 lo)).take (HT.sIx xs.length xs.length hi - HT.sIx xs.length 0 lo)
def sliceP (lo hi : Option Int) : PyData → Option PyData
  | .list xs => some (.list (cutP xs lo hi))
  | .tuple xs => some (.tuple (cutP xs lo hi))
  | _ => none
theorem RepL.cut {K : PySem.W.Frag} {H : Hp} {xs : List PyData} {vs : List V} (l : RepL K H xs vs) (lo hi : Option Int) : RepL K H (cutP xs lo hi) (cutV vs lo hi) := by
  unfold cutP cutV
  rw [l.length]
  exact (l.drop _).take _
abbrev CO := Rho → Sto → Option (Option Int × Sto)
def rdO (K : PySem.W.Frag) (m : CO) : TO := fun σ H Q => ∃ μ S ρ w S', StoOk K H μ S ∧ EnvOk K H μ ρ σ ∧ m ρ S = some (w, S') ∧ ∀ H' μ', Stp K μ S H μ' S' H' → Q w H'
abbrev SO (X : Cx) (e : Option Expr) (m : CO) : Prop := PO X e (rdO X.K m)
theorem PO.imp {X : Cx} {e : Option Expr} {t t' : TO} (h : PO X e t) (i : ∀ σ H Q, t' σ H Q → t σ H Q) : PO X e t' := ⟨fun pins s σ H Q I q => h.run pins s σ H Q I (i σ H Q q)⟩
def noO : CO := fun _ S => some (none, S)
def asInt : W → Option Int
  | .d (.int i) => some i
  | _ => none
def someO (a : CE) : CO := fun ρ S => (a ρ S).bind fun p => (asInt p.1).bind fun i => some (some i, p.2)
theorem so_none : SO X none noO := PO.imp po_none fun σ H Q ⟨μ, S, ρ, w, S', ok, en, e, q⟩ => by
  cases e
  exact q H μ (.refl ok)
theorem so_some (ha : SE X a ma) : SO X (some a) (someO ma) := PO.imp (po_some ha) fun σ H Q ⟨μ, S, ρ, w, S', ok, en, e, q⟩ => by
  unfold someO at e
  cases hx : ma ρ S with
  | none => rw [hx] at e; cases e
  | some p =>
    obtain ⟨w1, S1⟩ := p
    rw [hx, Option.bind_some] at e
    cases hi : asInt w1 with
    | none => rw [hi] at e; cases e
    | some i =>
      rw [hi, Option.bind_some] at e
      cases e
      refine ⟨μ, S, ρ, w1, _, ok, en, hx, fun v H1 μ1 st r => ⟨i, ?_, q H1 μ1 st⟩⟩
      unfold asInt at hi
      split at hi
      · cases hi
        cases r with | d r => cases r; rfl
      · cases hi
def sliceE (a : CE) (lo hi : CO) : CE := fun ρ S => (a ρ S).bind fun p => (lo ρ p.2).bind fun l => (hi ρ l.2).bind fun u => (rd u.2 p.1).bind fun x => (sliceP l.1 u.1 x).bind fun y => some (.d y, u.2)
theorem se_slice {lo hi : Option Expr} {ml mh : CO} {p2 : Pos} (ha : SE X a ma) (hl : SO X lo ml) (hh : SO X hi mh) : SE X (.Subscript a (.Slice lo hi none p2) pos) (sliceE ma ml mh) :=
  PE.imp (pe_fz (pe_slice (SlR.or sl_list sl_tupA) ha hl hh)) fun σ H Q ⟨μ, S, ρ, w, S', ok, en, e, q⟩ => by
    unfold sliceE at e
    cases h1 : ma ρ S with
    | none => rw [h1] at e; cases e
    | some p =>
      obtain ⟨w1, S1⟩ := p
      rw [h1, Option.bind_some] at e
      cases h2 : ml ρ S1 with
      | none => rw [h2] at e; cases e
      | some p2 =>
        obtain ⟨l, S2⟩ := p2
        rw [h2, Option.bind_some] at e
        cases h3 : mh ρ S2 with
        | none => rw [h3] at e; cases e
        | some p3 =>
          obtain ⟨u, S3⟩ := p3
          rw [h3, Option.bind_some] at e
          cases h4 : rd S3 w1 with
          | none => rw [h4] at e; cases e
          | some x =>
            rw [h4, Option.bind_some] at e
            cases h5 : sliceP l u x with
            | none => rw [h5] at e; cases e
            | some y =>
              rw [h5, Option.bind_some] at e
              cases e
              refine ⟨μ, S, ρ, w1, S1, ok, en, h1, fun v H1 μ1 st1 r1 => ⟨μ1, S1, ρ, l, S2, st1.sto, en.step ok st1, h2, fun H2 μ2 st2 => ?_⟩⟩
              have st12 := st1.trans ok st2
              refine ⟨μ2, S2, ρ, u, S3, st2.sto, en.step ok st12, h3, fun H3 μ3 st3 => ?_⟩
              have st13 := st12.trans ok st3
              have st23 := st2.trans st1.sto st3
              have r3 := RdRep.of st13.sto (r1.mono (st23.keeps st1.sto) st23.pre) h4
              unfold sliceP at h5
              split at h5
              · cases h5
                obtain ⟨a, vs, rfl, ha, la⟩ := r3.list
                refine .inl ⟨a, vs, rfl, ha, fun p hp => .inl ⟨p, _, rfl, upd_same, fun o => ?_⟩⟩
                rw [upd_upd]
                exact q _ _ μ3 (st13.trans ok (.new st13.sto hp)) (.d (.lst (.inl ⟨o, upd_same⟩) ((la.cut l u).mono fun a o e _ => same_new hp a o e)))
              · cases h5
                obtain ⟨a, vs, rfl, ha, la⟩ := r3.tuple
                refine .inr ⟨a, vs, rfl, ha.sq, fun hw => .inr ?_, fun _ p hp => .inr ?_⟩
                · refine q _ H3 μ3 st13 (.d (.tup ha ?_))
                  have e := la.cut l u
                  have e2 : cutV vs l u = vs := by
                    unfold cutV
                    rw [hw.1, hw.2]
                    simp
                  rw [e2] at e
                  exact e
                · exact q _ _ μ3 (st13.trans ok (.new st13.sto hp)) (.d (.tup (.inl upd_same) ((la.cut l u).mono fun a o e _ => same_new hp a o e)))
              · cases h5
end

section
open HT
variable {prog : Program} {w : World} {A : Around} {E : Value → Shared → Prop} {s : Shared}
theorem sliceApplied_rev {sl : Addr} {vl vu vs : Value} {n : Nat} {Q : Int × Int × Nat → Shared → Prop} (hs : s.heap.IsSliceOf sl vl vu vs) (pl : IsPart vl none) (pu : IsPart vu none) (ps : IsPart vs (some (-1)))
    (h : Q ((n : Int) - 1, -1, n) s) : wpAny (model prog w) A (Builtin.Slice.sliceApplied (.ref sl) (pure (n : Int))) Q E s := by
  obtain ⟨os, hos, hcs, hds⟩ := id hs
  unfold Builtin.Slice.sliceApplied Builtin.Slice.sliceFields
  refine wpAny_bind (wpAny_bind (wpAny_field hos hds (x := vl) rfl (wpAny_bind (wpAny_field hos hds (x := vu) rfl (wpAny_bind (wpAny_field hos hds (x := vs) rfl (wpAny_pure ?_)))))))
  refine wpAny_bind (slicePart_ ps ?_)
  show wpAny _ _ (if ((-1 : Int) == 0) = true then _ else _) _ _ s
  rw [if_neg (by decide)]
  refine wpAny_bind (slicePart_ pl (wpAny_bind (slicePart_ pu (wpAny_bind (wpAny_pure ?_)))))
  show wpAny _ _ (pure ((n : Int) - 1, (-1 : Int), Builtin.Slice.slicePlaces ((n : Int) - 1) (-1) (-1))) _ _ s
  have e : Builtin.Slice.slicePlaces ((n : Int) - 1) (-1) (-1) = n := by
    unfold Builtin.Slice.slicePlaces
    rw [if_neg (by decide)]
    by_cases hn : (n : Int) - 1 > -1
    · rw [if_pos hn, show (-(-1) : Int) = 1 by decide, Int.ediv_one]; omega
    · rw [if_neg hn]; omega
  rw [e]
  exact wpAny_pure h
theorem fm_congr {α β : Type} {f g : α → Option β} : ∀ {l : List α}, (∀ x ∈ l, f x = g x) → l.filterMap f = l.filterMap g
  | [], _ => rfl
  | x :: l, h => by rw [List.filterMap_cons, List.filterMap_cons, h x List.mem_cons_self, fm_congr fun y m => h y (List.mem_cons_of_mem _ m)]
theorem pick_rev (xs : Array Value) : ((List.range xs.size).filterMap fun (m : Nat) => xs[(((xs.size : Int) - 1) + (m : Int) * (-1)).toNat]?).toArray = xs.toList.reverse.toArray := by
  congr 1
  have e : (List.range xs.size).filterMap (fun (m : Nat) => xs[(((xs.size : Int) - 1) + (m : Int) * (-1)).toNat]?) = (List.range xs.size).filterMap fun m => xs[xs.size - 1 - m]? := by
    refine fm_congr fun m hm => ?_
    have hm := List.mem_range.mp hm
    have : (((xs.size : Int) - 1) + (m : Int) * (-1)).toNat = xs.size - 1 - m := by omega
    rw [this]
  rw [e]
  have e2 : (List.range xs.size).filterMap (fun m => xs[xs.size - 1 - m]?) = ((List.range xs.size).map fun k => xs.size - 1 - k).filterMap (xs[·]?) := by
    rw [List.filterMap_map]; rfl
  rw [e2, PySem.W.krv_range, List.filterMap_reverse, PySem.W.krv_all]
theorem getItem_tuple_rev {t sl : Addr} {items : Array Value} {vl vu vs : Value} {Q : Value → Shared → Prop} (ht : IsTup s.heap t items) (hs : s.heap.IsSliceOf sl vl vu vs) (pl : IsPart vl none) (pu : IsPart vu none) (ps : IsPart vs (some (-1)))
    (h : Q (.ref s.heap.objs.size) { s with heap := s.heap.push { cls := .type "tuple", data := .seq items.toList.reverse.toArray } })
    (hsz : items.size ≤ sizeLine) : wpAny (model prog w) A (getItem (.ref t) (.ref sl)) Q E s := by
  have htake : sizeOk (.seq items.toList.reverse.toArray) := by
    show items.toList.reverse.toArray.size ≤ sizeLine
    simpa using hsz
  obtain ⟨os, hos, hcs, hds⟩ := id hs
  have hTs : s.TypeIs (.ref sl) "slice" := ⟨os, hos, hcs⟩
  unfold getItem
  try with_reducible refine wpAny_holding ?_
  first | refine wpAny_bind (wpAny_pure ?_) | skip
  refine wpAny_bind (wpAny_sequenceKey ht.typeIs (by decide) ?_)
  refine wpAny_bind (wpAny_callSpecial?_slot (name := Str.ofString "__getitem__") ht.typeIs PyProof.Rows.slot_tuple_getitem
    (wpAny_call_entry PyProof.Rows.slot_tuple_getitem ht.typeIs entry_tuple_getitem ?_ (args_tuple_getitem _ _)))
  show wpAny _ _ (Builtin.Tuple.tupleItemsOf (.ref t) >>= _) _ _ s
  refine wpAny_bind (tupleItemsOf_ ht ?_)
  refine wpAny_bind (wpAny_typeOf hTs ?_)
  rw [if_pos (by decide)]
  refine wpAny_bind (sliceApplied_rev hs pl pu ps ?_)
  have hno : ¬ (((items.size : Int) - 1 == 0 && (-1 : Int) == 1 && items.size == items.size) = true) := by simp
  show wpAny _ _ (if (((items.size : Int) - 1 == 0 && (-1 : Int) == 1 && items.size == items.size) = true) then _ else _) _ _ s
  rw [if_neg hno, pick_rev]
  first
    | exact wpAny_bind (m := Builtin.Tuple.tupleExact _) (wpAny_newObj_type (wpAny_pure ⟨_, rfl, wpAny_pure h⟩) htake)
    | exact wpAny_bind (m := Builtin.Tuple.tupleExact _) (wpAny_newObj_type (wpAny_bind (wpAny_pure (wpAny_pure ⟨_, rfl, wpAny_pure h⟩))) htake)
    | exact wpAny_bind (wpAny_bind (m := Builtin.Tuple.tupleExact _) (wpAny_newObj_type (wpAny_pure (wpAny_pure ⟨_, rfl, wpAny_pure h⟩)) htake))
    | exact wpAny_bind (wpAny_bind (m := Builtin.Tuple.tupleExact _) (wpAny_newObj_type (wpAny_pure ⟨_, rfl, wpAny_pure h⟩) htake))
end
section
variable {X : Cx}
/-- xs[::-1], a list or a tuple -/
def tRevA (K : PySem.W.Frag) (te : TE) : TE := fun σ H Q => te σ H fun x H1 => ∃ a xs, x = .ref a ∧ ((SqL K H1 a xs ∧ ∀ p, H1 p = none → Q (.ref p) (upd H1 p (.lst xs.reverse))) ∨ (SqT K H1 a xs ∧ ∀ p, H1 p = none → Q (.ref p) (upd H1 p (.tup xs.reverse))))
theorem pe_revA {e : Expr} {te : TE} {k : Nat} {p1 p2 p3 pos : Pos} (he : PE X e te) : PE X (.Subscript e (.Slice none none (some (.UnaryOp .USub (.Constant (.int 1) k p1) p2)) p3) pos) (tRevA X.K te) := by
  refine ⟨fun pins s σ H Q I h => ?_⟩
  refine Subscript_ (thn (he.run pins s σ H _ I h) fun v s1 ⟨x, H1, I1, r1, q1⟩ => ?_)
  obtain ⟨a, xs, ex, q⟩ := q1
  subst ex
  cases r1
  have hst : PO X (some (.UnaryOp .USub (.Constant (.int 1) k p1) p2)) (tPart (tUn (rU fun i => .int (-i)) (tC (.int 1)))) := po_some (pe_un un_neg pe_int)
  refine wpAny_Slice (thn (po_none.run pins s1 σ H1 (fun o H2 => o = none ∧ H2 = H1) I1 ⟨rfl, rfl⟩) fun vl s2 ⟨l, H2, I2, pl, el, e2⟩ => ?_)
  subst el e2
  refine thn (po_none.run pins s2 σ H2 (fun o H3 => o = none ∧ H3 = H2) I2 ⟨rfl, rfl⟩) fun vu s3 ⟨u, H3, I3, pu, eu, e3⟩ => ?_
  subst eu e3
  refine thn (hst.run pins s3 σ H3 (fun o H4 => o = some (-1) ∧ H4 = H3) I3 ⟨1, rfl, -1, rfl, rfl, rfl⟩) fun vs s4 ⟨o, H4, I4, ps, eo, e4⟩ => ?_
  subst eo e4
  have I5 : Inv X pins σ H4 { s4 with heap := s4.heap.push { cls := .type "slice", data := .fields #[vl, vu, vs] } } := I4.kept (t' := s4.toks) fun b ob q => Heap.get?_push_of_some _ q
  show wpAny (model X.prog X.w) X.A (subscriptTail e (.Slice none none (some (.UnaryOp .USub (.Constant (.int 1) k p1) p2)) p3) (.ref a) (.ref s4.heap.objs.size)) (EP X pins σ Q) X.xe { s4 with heap := s4.heap.push { cls := .type "slice", data := .fields #[vl, vu, vs] } }
  rcases q with ⟨hx, q⟩ | ⟨hx, q⟩
  · obtain ⟨its, r, ht, hz⟩ := I5.list hx
    have hlen := r.length
    refine tail_any (ops := [.ref a, .ref s4.heap.objs.size]) ht.isList.typeIs (PySem.slot_list_getitem.lookup) ?_ (by with_unfolding_all rfl)
    refine wpAny_getItem_list_slice ht.isList (Heap.IsSliceOf.new _ vl vu vs) pl pu ps (by decide) ?_ (by rw [List.size_toArray]; omega)
    rw [PySem.W.krv_pick]
    refine ⟨.ref _, _, I5.laid (t' := s4.toks) (o := .lst xs.reverse) (fun b ob q => Heap.get?_push_of_some _ q) (Nat.le_refl _) ?_, rfl, q _ (I5.hok.fresh (Nat.le_refl _))⟩
    exact ⟨by rw [List.length_reverse]; exact hz, _, 0, r.reverse, Heap.get?_push_size _ rfl⟩
  · obtain ⟨its, r, ht, hz⟩ := I5.tuple hx
    have hlen := r.length
    refine tail_any (ops := [.ref a, .ref s4.heap.objs.size]) ht.typeIs (PyProof.Rows.slot_tuple_getitem.lookup) ?_ (by with_unfolding_all rfl)
    refine getItem_tuple_rev ht (Heap.IsSliceOf.new _ vl vu vs) pl pu ps ?_ (by rw [List.size_toArray]; omega)
    refine ⟨.ref _, _, I5.laid (t' := s4.toks) (o := .tup xs.reverse) (fun b ob q => Heap.get?_push_of_some _ q) (Nat.le_refl _) ?_, rfl, q _ (I5.hok.fresh (Nat.le_refl _))⟩
    exact ⟨by rw [List.length_reverse]; exact hz, _, r.reverse, IsTup.new _ _⟩
end
def revP : PyData → Option PyData
  | .list xs => some (.list xs.reverse)
  | .tuple xs => some (.tuple xs.reverse)
  | _ => none
def revE (a : CE) : CE := fun ρ S => (a ρ S).bind fun p => (rd p.2 p.1).bind fun x => (revP x).bind fun y => some (.d y, p.2)
theorem se_rev {X : Cx} {a : Expr} {ma : CE} {k : Nat} {p1 p2 p3 pos : Pos} (ha : SE X a ma) : SE X (.Subscript a (.Slice none none (some (.UnaryOp .USub (.Constant (.int 1) k p1) p2)) p3) pos) (revE ma) :=
  PE.imp (pe_fz (pe_revA ha)) fun σ H Q ⟨μ, S, ρ, w, S', ok, en, e, q⟩ => by
    unfold revE at e
    cases h1 : ma ρ S with
    | none => rw [h1] at e; cases e
    | some p =>
      obtain ⟨w1, S1⟩ := p
      rw [h1, Option.bind_some] at e
      cases h4 : rd S1 w1 with
      | none => rw [h4] at e; cases e
      | some x =>
        rw [h4, Option.bind_some] at e
        cases h5 : revP x with
        | none => rw [h5] at e; cases e
        | some y =>
          rw [h5, Option.bind_some] at e
          cases e
          refine ⟨μ, S, ρ, w1, S1, ok, en, h1, fun v H1 μ1 st1 r1 => ?_⟩
          have r3 := RdRep.of st1.sto r1 h4
          unfold revP at h5
          split at h5
          · cases h5
            obtain ⟨a, vs, rfl, ha, la⟩ := r3.list
            refine ⟨a, vs, rfl, .inl ⟨ha, fun p hp => .inl ⟨p, _, rfl, upd_same, fun o => ?_⟩⟩⟩
            rw [upd_upd]
            exact q _ _ μ1 (st1.trans ok (.new st1.sto hp)) (.d (.lst (.inl ⟨o, upd_same⟩) (la.reverse.mono fun a o e _ => same_new hp a o e)))
          · cases h5
            obtain ⟨a, vs, rfl, ha, la⟩ := r3.tuple
            refine ⟨a, vs, rfl, .inr ⟨ha.sq, fun p hp => .inr ?_⟩⟩
            exact q _ _ μ1 (st1.trans ok (.new st1.sto hp)) (.d (.tup (.inl upd_same) (la.reverse.mono fun a o e _ => same_new hp a o e)))
          · cases h5

/-! ### calls of built-ins -/
def pfN (g : List PyData → Option PyData) : List W → Sto → Option (W × Sto) := fun ws S => (ws.mapM (rd S)).bind fun xs => (g xs).bind fun c => some (.d c, S)
inductive RdRepL (K : PySem.W.Frag) (H : Hp) : List PyData → List V → Prop
  | nil : RdRepL K H [] []
  | cons {x : PyData} {v : V} {xs : List PyData} {vs : List V} : RdRep K H x v → RdRepL K H xs vs → RdRepL K H (x :: xs) (v :: vs)
theorem RdRepL.of {K : PySem.W.Frag} {H : Hp} {μ : List Addr} {S : Sto} (ok : StoOk K H μ S) : ∀ {ws : List W} {vs : List V} {xs : List PyData}, WRepL K H μ ws vs → ws.mapM (rd S) = some xs → RdRepL K H xs vs
  | _, _, _, .nil, h => by cases h; exact .nil
  | _, _, _, .cons (w := w) (ws := ws) r l, h => by
    rw [List.mapM_cons] at h
    cases e : rd S w with
    | none => rw [e] at h; cases h
    | some x =>
      cases e2 : ws.mapM (rd S) with
      | none => rw [e, e2] at h; cases h
      | some ys =>
        rw [e, e2] at h
        cases h
        exact .cons (RdRep.of ok r e) (RdRepL.of ok l e2)
theorem FN_pure {K : PySem.W.Frag} {g : List PyData → Option PyData} {xs : List V} {H : Hp} {Q : VK} (h : FN K (pfN g) xs H Q) :
    ∃ ds c, RdRepL K H ds xs ∧ g ds = some c ∧ ∀ v H', (∀ a o, H a = some o → H' a = some o) → Rep K H' c v → Q v H' := by
  obtain ⟨μ, S, ws, w, S', ok, r1, e, q⟩ := h
  unfold pfN at e
  cases h1 : ws.mapM (rd S) with
  | none => rw [h1] at e; cases e
  | some ds =>
    cases h3 : g ds with
    | none => rw [h1, Option.bind_some, h3] at e; cases e
    | some c =>
      rw [h1, Option.bind_some, h3, Option.bind_some] at e
      cases e
      exact ⟨ds, c, RdRepL.of ok r1 h1, h3, fun v H' k r => q v H' μ (Stp.same ok k) (.d r)⟩
theorem RdRepL.one {K : PySem.W.Frag} {H : Hp} {x : PyData} {vs : List V} (r : RdRepL K H [x] vs) : ∃ v, vs = [v] ∧ RdRep K H x v := by
  cases r with | cons a b => cases b; exact ⟨_, rfl, a⟩
theorem RdRepL.two {K : PySem.W.Frag} {H : Hp} {x y : PyData} {vs : List V} (r : RdRepL K H [x, y] vs) : ∃ v u, vs = [v, u] ∧ RdRep K H x v ∧ RdRep K H y u := by
  cases r with | cons a b => cases b with | cons b c => cases c; exact ⟨_, _, rfl, a, b⟩
def allInt : List PyData → Option (List Int)
  | [] => some []
  | .int i :: r => (allInt r).bind fun xs => some (i :: xs)
  | _ => none
theorem allInt_eq : ∀ {xs : List PyData} {ns : List Int}, allInt xs = some ns → xs = ns.map PyData.int
  | [], _, h => by cases h; rfl
  | .int i :: r, ns, h => by
    unfold allInt at h
    cases e : allInt r with
    | none => rw [e] at h; cases h
    | some ys => rw [e, Option.bind_some] at h; cases h; rw [List.map_cons, allInt_eq e]
  | .none :: _, _, h => by cases h
  | .bool _ :: _, _, h => by cases h
  | .str _ :: _, _, h => by cases h
  | .list _ :: _, _, h => by cases h
  | .tuple _ :: _, _, h => by cases h
  | .dict _ :: _, _, h => by cases h
def allBool : List PyData → Option (List Bool)
  | [] => some []
  | .bool i :: r => (allBool r).bind fun xs => some (i :: xs)
  | _ => none
theorem allBool_eq : ∀ {xs : List PyData} {ns : List Bool}, allBool xs = some ns → xs = ns.map PyData.bool
  | [], _, h => by cases h; rfl
  | .bool i :: r, ns, h => by
    unfold allBool at h
    cases e : allBool r with
    | none => rw [e] at h; cases h
    | some ys => rw [e, Option.bind_some] at h; cases h; rw [List.map_cons, allBool_eq e]
  | .none :: _, _, h => by cases h
  | .int _ :: _, _, h => by cases h
  | .str _ :: _, _, h => by cases h
  | .list _ :: _, _, h => by cases h
  | .tuple _ :: _, _, h => by cases h
  | .dict _ :: _, _, h => by cases h
theorem RepL.ints_eq {K : PySem.W.Frag} {H : Hp} : ∀ {ns : List Int} {vs : List V}, RepL K H (ns.map PyData.int) vs → vs = ns.map V.int
  | [], _, h => by cases h; rfl
  | n :: ns, _, h => by
    rw [List.map_cons] at h
    cases h with
    | cons r l => cases r; rw [List.map_cons, RepL.ints_eq l]
theorem RepL.bools_eq {K : PySem.W.Frag} {H : Hp} : ∀ {ns : List Bool} {vs : List V}, RepL K H (ns.map PyData.bool) vs → vs = ns.map V.bl
  | [], _, h => by cases h; rfl
  | n :: ns, _, h => by
    rw [List.map_cons] at h
    cases h with
    | cons r l => cases r; rw [List.map_cons, RepL.bools_eq l]

def lenP : List PyData → Option PyData
  | [.list xs] => some (.int xs.length)
  | [.tuple xs] => some (.int xs.length)
  | _ => none
def absP : List PyData → Option PyData
  | [.int i] => some (.int (if i < 0 then -i else i))
  | _ => none
def intP : List PyData → Option PyData
  | [.int i] => some (.int i)
  | [.bool b] => some (.int (if b then 1 else 0))
  | _ => none
def maxP : List PyData → Option PyData
  | [.int i, .int j] => some (.int (if j > i then j else i))
  | _ => none
def minP : List PyData → Option PyData
  | [.int i, .int j] => some (.int (if j < i then j else i))
  | _ => none
def divmodP : List PyData → Option PyData
  | [.int i, .int j] => if 0 < j ∧ j < 1073741824 then some (.tuple [.int (i / j), .int (i % j)]) else none
  | _ => none
def sumP : List PyData → Option PyData
  | [.list xs] => (allInt xs).bind fun ns => some (.int ns.sum)
  | _ => none
def allP : List PyData → Option PyData
  | [.list xs] => (allBool xs).bind fun bs => some (.bool (bs.all id))
  | _ => none
def tupleP : List PyData → Option PyData
  | [.list xs] => some (.tuple xs)
  | [.tuple xs] => some (.tuple xs)
  | _ => none
def listP : List PyData → Option PyData
  | [.list xs] => some (.list xs)
  | [.tuple xs] => some (.list xs)
  | _ => none
def gcdP : List PyData → Option PyData
  | [.int i, .int j] => some (.int ((Nat.gcd i.natAbs j.natAbs : Nat) : Int))
  | _ => none
def reprP : List PyData → Option PyData
  | [x] => if x.showable = true ∧ x.depth ≤ 64 ∧ x.shown.length ≤ lim then some (.str x.shown) else none
  | _ => none
section
variable {X : Cx}
theorem sc_len : CallR X (.builtin "len") (FN X.K (pfN lenP)) := by
  refine CallR.imp call_len_seq fun xs H Q h => ?_
  obtain ⟨ds, c, r, e, q⟩ := FN_pure h
  unfold lenP at e
  split at e
  · cases e
    obtain ⟨v, rfl, r1⟩ := r.one
    obtain ⟨a, vs, rfl, h1, l1⟩ := r1.list
    exact ⟨a, vs, rfl, .inl h1, q _ H keeps_all (by rw [← l1.length]; exact .int _)⟩
  · cases e
    obtain ⟨v, rfl, r1⟩ := r.one
    obtain ⟨a, vs, rfl, h1, l1⟩ := r1.tuple
    exact ⟨a, vs, rfl, .inr h1.sq, q _ H keeps_all (by rw [← l1.length]; exact .int _)⟩
  · cases e
theorem sc_abs : CallR X (.builtin "abs") (FN X.K (pfN absP)) := by
  refine CallR.imp call_abs fun xs H Q h => ?_
  obtain ⟨ds, c, r, e, q⟩ := FN_pure h
  unfold absP at e
  split at e
  · cases e
    obtain ⟨v, rfl, r1⟩ := r.one
    exact ⟨_, by rw [r1.int], q _ H keeps_all (.int _)⟩
  · cases e
theorem sc_int : CallR X (.type "int") (FN X.K (pfN intP)) := by
  refine CallR.imp call_int1 fun xs H Q h => ?_
  obtain ⟨ds, c, r, e, q⟩ := FN_pure h
  unfold intP at e
  split at e
  · cases e
    obtain ⟨v, rfl, r1⟩ := r.one
    exact .inl ⟨_, by rw [r1.int], q _ H keeps_all (.int _)⟩
  · cases e
    obtain ⟨v, rfl, r1⟩ := r.one
    exact .inr ⟨_, by rw [r1.bool], q _ H keeps_all (.int _)⟩
  · cases e
theorem sc_max (hc : X.calm = true) : CallR X (.builtin "max") (FN X.K (pfN maxP)) := by
  refine CallR.imp (call_max2 hc) fun xs H Q h => ?_
  obtain ⟨ds, c, r, e, q⟩ := FN_pure h
  unfold maxP at e
  split at e
  · cases e
    obtain ⟨v, u, rfl, r1, r2⟩ := r.two
    exact ⟨_, _, by rw [r1.int, r2.int], q _ H keeps_all (.int _)⟩
  · cases e
theorem sc_min (hc : X.calm = true) : CallR X (.builtin "min") (FN X.K (pfN minP)) := by
  refine CallR.imp (call_min2 hc) fun xs H Q h => ?_
  obtain ⟨ds, c, r, e, q⟩ := FN_pure h
  unfold minP at e
  split at e
  · cases e
    obtain ⟨v, u, rfl, r1, r2⟩ := r.two
    exact ⟨_, _, by rw [r1.int, r2.int], q _ H keeps_all (.int _)⟩
  · cases e
theorem sc_divmod : CallR X (.builtin "divmod") (FN X.K (pfN divmodP)) := by
  refine CallR.imp call_divmod fun xs H Q h => ?_
  obtain ⟨ds, c, r, e, q⟩ := FN_pure h
  unfold divmodP at e
  split at e
  · split at e
    · rename_i hz
      cases e
      obtain ⟨v, u, rfl, r1, r2⟩ := r.two
      exact ⟨_, _, by rw [r1.int, r2.int], hz, fun p hp => q _ _ (same_new hp) (.tup (.inl upd_same) (.cons (.int _) (.cons (.int _) .nil)))⟩
    · cases e
  · cases e
theorem sc_sum (hc : X.calm = true) : CallR X (.builtin "sum") (FN X.K (pfN sumP)) := by
  refine CallR.imp (cr_sum hc) fun xs H Q h => ?_
  obtain ⟨ds, c, r, e, q⟩ := FN_pure h
  unfold sumP at e
  split at e
  · rename_i xs
    cases h1 : allInt xs with
    | none => rw [h1] at e; cases e
    | some ns =>
      rw [h1, Option.bind_some] at e
      cases e
      obtain ⟨v, rfl, r1⟩ := r.one
      obtain ⟨a, vs, rfl, h2, l2⟩ := r1.list
      rw [allInt_eq h1] at l2
      have ev := l2.ints_eq
      subst ev
      exact ⟨a, ns, rfl, h2, q _ H keeps_all (.int _)⟩
  · cases e
theorem sc_all (hc : X.calm = true) : CallR X (.builtin "all") (FN X.K (pfN allP)) := by
  refine CallR.imp (cr_all hc) fun xs H Q h => ?_
  obtain ⟨ds, c, r, e, q⟩ := FN_pure h
  unfold allP at e
  split at e
  · rename_i xs
    cases h1 : allBool xs with
    | none => rw [h1] at e; cases e
    | some ns =>
      rw [h1, Option.bind_some] at e
      cases e
      obtain ⟨v, rfl, r1⟩ := r.one
      obtain ⟨a, vs, rfl, h2, l2⟩ := r1.list
      rw [allBool_eq h1] at l2
      have ev := l2.bools_eq
      subst ev
      exact ⟨a, ns, rfl, h2, q _ H keeps_all (.bl _)⟩
  · cases e
theorem sc_tuple : CallR X (.type "tuple") (FN X.K (pfN tupleP)) := by
  refine CallR.imp call_tuple_of fun xs H Q h => ?_
  obtain ⟨ds, c, r, e, q⟩ := FN_pure h
  unfold tupleP at e
  split at e
  · cases e
    obtain ⟨v, rfl, r1⟩ := r.one
    obtain ⟨a, vs, rfl, h1, l1⟩ := r1.list
    exact ⟨a, vs, rfl, .inl ⟨h1, fun p hp => q _ _ (same_new hp) (.tup (.inl upd_same) (l1.mono fun a o e _ => same_new hp a o e))⟩⟩
  · cases e
    obtain ⟨v, rfl, r1⟩ := r.one
    obtain ⟨a, vs, rfl, h1, l1⟩ := r1.tuple
    exact ⟨a, vs, rfl, .inr ⟨h1.sq, q _ _ keeps_all (.tup h1 l1)⟩⟩
  · cases e
theorem sc_list : CallR X (.type "list") (FN X.K (pfN listP)) := by
  refine CallR.imp (call_fz call_list_of) fun xs H Q h => ?_
  obtain ⟨ds, c, r, e, q⟩ := FN_pure h
  unfold listP at e
  split at e
  · cases e
    obtain ⟨v, rfl, r1⟩ := r.one
    obtain ⟨a, vs, rfl, h1, l1⟩ := r1.list
    refine ⟨a, vs, rfl, .inl h1, fun p hp => .inl ⟨p, _, rfl, upd_same, fun o => ?_⟩⟩
    rw [upd_upd]
    exact q _ _ (same_new hp) (.lst (.inl ⟨o, upd_same⟩) (l1.mono fun a o e _ => same_new hp a o e))
  · cases e
    obtain ⟨v, rfl, r1⟩ := r.one
    obtain ⟨a, vs, rfl, h1, l1⟩ := r1.tuple
    refine ⟨a, vs, rfl, .inr h1.sq, fun p hp => .inl ⟨p, _, rfl, upd_same, fun o => ?_⟩⟩
    rw [upd_upd]
    exact q _ _ (same_new hp) (.lst (.inl ⟨o, upd_same⟩) (l1.mono fun a o e _ => same_new hp a o e))
  · cases e
theorem sc_gcd : CallR X (.builtin "math.gcd") (FN X.K (pfN gcdP)) := by
  refine CallR.imp cr_gcd fun xs H Q h => ?_
  obtain ⟨ds, c, r, e, q⟩ := FN_pure h
  unfold gcdP at e
  split at e
  · cases e
    obtain ⟨v, u, rfl, r1, r2⟩ := r.two
    exact ⟨_, _, by rw [r1.int, r2.int], q _ H keeps_all (.int _)⟩
  · cases e
end

/-! ### isinstance -/
def tyOf : W → Option String
  | .m _ => some "list"
  | .d .none => some "NoneType"
  | .d (.bool _) => some "bool"
  | .d (.int _) => some "int"
  | .d (.str _) => some "str"
  | .d (.list _) => some "list"
  | .d (.tuple _) => some "tuple"
  | .d (.dict _) => some "dict"
/-- isinstance with a built-in type T -/
def isiF (T : String) : W → Sto → Option (W × Sto) := fun x S => (tyOf x).bind fun t => (kitB t T).bind fun b => some (.d (.bool b), S)
section
variable {X : Cx} {K : PySem.W.Frag} {H : Hp} {μ : List Addr} {S : Sto}
theorem tyX_of (ok : StoOk K H μ S) {w : W} {v : V} {T : String} (r : WRep K H μ w v) (hl : ∀ n, w = .m n → ∃ xs, S[n]? = some (some xs)) (h : tyOf w = some T) : TyX K H v (.type T) := by
  cases r with
  | m hm =>
    rename_i n a
    cases h
    obtain ⟨xs, hs⟩ := hl n rfl
    obtain ⟨b, vs, h1, h2, _⟩ := ok.cell n xs hs
    rw [hm] at h1; cases h1
    exact .base (.lst h2)
  | d r =>
    cases r with
    | non => cases h; exact .base .non
    | bl b => cases h; exact .base (.bl b)
    | int i => cases h; exact .base (.int i)
    | str x => cases h; exact .base (.str x)
    | tup ht _ =>
      cases h
      rcases ht with ht | ⟨o, its, n, hk, hc, _⟩
      · exact .base (.tup ht)
      · exact .kTuple hk hc
    | lst ht _ =>
      cases h
      rcases ht with ⟨o, ht⟩ | ⟨o, its, n, hk, hc, _⟩
      · exact .base (.frz ht)
      · exact .kList hk hc
    | dct hd _ _ => cases h; exact .base (.dK hd)
end
/-- isinstance(x, T): x plain or a live cell -/
def isiE (T : String) (a : CE) : CE := fun ρ S => (a ρ S).bind fun p => (rd p.2 p.1).bind fun _ => isiF T p.1 p.2
section
variable {X : Cx} {a : Expr} {ma : CE} {pos p1 p2 : Pos}
theorem rd_live {S : Sto} {w : W} {x : PyData} (h : rd S w = some x) : ∀ n, w = .m n → ∃ xs, S[n]? = some (some xs) := by
  rintro n rfl
  have h' : (match S[n]? with
    | some (some xs) => some (PyData.list xs)
    | _ => none) = some x := h
  split at h'
  · rename_i xs hs; exact ⟨xs, hs⟩
  · cases h'
theorem se_isi {T : Str} {t : String} (ha : SE X a ma) (hg : Gl X "isinstance") (hm : X.mg "isinstance" = none) (hgT : Gl X T) (hmT : X.mg T = none) (hv : bootBuiltins T = some (.type t)) (hn : T ≠ "__name__") (hd : (T == ("__debug__" : Str)) = false)
    (h1 : starEach [a, .Name T p2] X.env = (false, eval a X.env) :: starEach [.Name T p2] X.env) :
    SE X (.Call (.Name "isinstance" p1) [a, .Name T p2] [] pos) (isiE t ma) := by
  have hT : PE X (.Name T p2) (tC (.ty t)) := pe_bltn hgT hmT hv rfl hn hd
  refine PE.imp (pe_callB call_isi hg hm (by decide +kernel) (pa_cons ha (pa_cons hT pa_nil rfl) h1) (he := h1)) fun σ H Q ⟨μ, S, ρ, w, S', ok, en, e, q⟩ => ?_
  unfold isiE at e
  cases hx : ma ρ S with
  | none => rw [hx] at e; cases e
  | some p =>
    obtain ⟨w1, S1⟩ := p
    rw [hx, Option.bind_some] at e
    cases hr : rd S1 w1 with
    | none => simp only [hr] at e; cases e
    | some x =>
      simp only [hr, Option.bind_some] at e
      unfold isiF at e
      cases ht : tyOf w1 with
      | none => rw [ht] at e; cases e
      | some ty =>
        rw [ht, Option.bind_some] at e
        cases hk : kitB ty t with
        | none => rw [hk] at e; cases e
        | some b =>
          rw [hk, Option.bind_some] at e
          cases e
          refine ⟨μ, S, ρ, w1, _, ok, en, hx, fun v H1 μ1 st r => ?_⟩
          exact ⟨v, .ty t, .type ty, .type t, b, rfl, .ty t, tyX_of st.sto r (rd_live hr) ht, kit_ty hk, q _ H1 μ1 st (.d (.bl _))⟩

end
/-! ### repr -/
section
variable {X : Cx} {pins : List (Addr × Obj)} {σ : L2.St} {H : Hp} {s : Shared}
theorem keyD_reads {h : Heap} : ∀ (k : Key) (key : Value), keyIs k key = true → Reads h key (keyD k) [] := fun k key e => by
  rcases keyIs_shape e with ⟨i, t, rfl, rfl⟩ | ⟨x, t, rfl, rfl⟩
  · exact .int i t
  · exact .str x t
/-- a dict's entries: their keys, their values -/
theorem entries_vals : ∀ {ks : List Key} {vs : List V} {ws : List (Key × Value)} {es : List DictEntry}, ks.length = vs.length → KV (ks.zip vs) ws → PySem.Pairs (mixKind X.prog X.w) es ws → Vals vs (es.map (·.val)) ∧ ReadsAll s.heap (es.map (·.key)) (ks.map keyD) []
  | [], [], _, _, _, .nil, .nil => ⟨.nil, .nil⟩
  | k :: ks, v :: vs, _, _, e, .cons r rs, .cons h1 h2 h3 => by
    obtain ⟨i1, i2⟩ := entries_vals (by simpa using e) rs h3
    obtain ⟨e1, e2⟩ := r
    refine ⟨.cons (show L2.RelV v _ from by simp only [h2]; exact e2) i1, ReadsAll.cons (as := []) (bs := []) (keyD_reads _ _ ?_) i2⟩
    simp only at e1
    rw [e1]; exact h1
mutual
theorem Rep.reads (I : Inv X pins σ H s) : ∀ {d : PyData} {v : V}, Rep X.K H d v → ∀ u, RelV v u → ∃ as, Reads s.heap u d as
  | _, _, .non, _, r => by cases r; exact ⟨_, Reads.none⟩
  | _, _, .bl b, _, r => by cases r; exact ⟨_, Reads.bool b⟩
  | _, _, .int i, _, r => by obtain ⟨t, rfl⟩ := r; exact ⟨_, Reads.int i t⟩
  | _, _, .str x, _, r => by obtain ⟨t, rfl⟩ := r; exact ⟨_, Reads.str x t⟩
  | _, _, .tup ht l, _, r => by
    cases r
    obtain ⟨its, rv, ⟨o, ho, hc, n, hd⟩, _⟩ := I.tuple ht.sq
    obtain ⟨as, hr⟩ := RepL.reads I l its rv
    exact ⟨_, Reads.tuple ho hc hd hr⟩
  | _, _, .lst ht l, _, r => by
    cases r
    obtain ⟨its, rv, ⟨o, n, ho, hc, _, hd⟩, _⟩ := I.list ht.sq
    obtain ⟨as, hr⟩ := RepL.reads I l its rv
    exact ⟨_, Reads.list ho hc hd hr⟩
  | _, _, .dct (ks := ks) (xs := xs) h e l, _, r => by
    cases r
    obtain ⟨_, hs, ws, kv, o, es, ep, ho, hx, hdat, _, hp, _⟩ := dk_of I.hok h
    obtain ⟨rv, rk⟩ := entries_vals (by rw [e, l.length]) kv hp
    obtain ⟨as, hr⟩ := RepL.reads I l _ rv
    have e1 : ((ks.map keyD).zip xs).map (·.1) = ks.map keyD := List.map_fst_zip (by rw [List.length_map, e]; exact Nat.le_refl _)
    have e2 : ((ks.map keyD).zip xs).map (·.2) = xs := List.map_snd_zip (by rw [List.length_map, e]; exact Nat.le_refl _)
    exact ⟨_, Reads.dict ho hx.1 hdat (by rw [e1]; exact rk) (by rw [e2]; exact hr)⟩
theorem RepL.reads (I : Inv X pins σ H s) : ∀ {xs : List PyData} {vs : List V}, RepL X.K H xs vs → ∀ us, Vals vs us → ∃ as, ReadsAll s.heap us xs as
  | _, _, .nil, _, r => by cases r; exact ⟨_, .nil⟩
  | _, _, .cons h l, _, r => by
    cases r with
    | cons r1 r2 =>
      obtain ⟨as, q1⟩ := Rep.reads I h _ r1
      obtain ⟨bs, q2⟩ := RepL.reads I l _ r2
      exact ⟨_, .cons q1 q2⟩
end
/-- how a value that reads as d is shown -/
def RkOf (X : Cx) (s : Shared) (u : Value) (d : PyData) : Prop := d.showable = true → d.shown.length ≤ sizeLine → ∃ bs, ReadAtMost s.heap d.depth bs ∧ ReprK X.prog X.w bs s.heap d.depth u d.shown
def RkAll (X : Cx) (s : Shared) (us : List Value) (ds : List PyData) : Prop := PyData.showableAll ds = true → (∀ t ∈ PyData.shownAll ds, t.length ≤ sizeLine) → ∃ bs, ReadAtMost s.heap (PyData.depthAll ds) bs ∧ ReprAllK X.prog X.w bs s.heap (PyData.depthAll ds) us (PyData.shownAll ds)
theorem rk_flat {u : Value} {d : PyData} (h : d.showable = true → d.shown.length ≤ sizeLine → ReprIs X.prog X.w u d.shown) : RkOf X s u d := fun h1 h2 => ⟨[], fun _ m => (nomatch m), .of_is (h h1 h2) _ _ _⟩
theorem rk_nil : RkAll X s [] [] := fun _ _ => ⟨[], fun _ m => (nomatch m), by simp only [PyData.shownAll]; exact .nil⟩
theorem rk_cons {u : Value} {d : PyData} {us : List Value} {ds : List PyData} (h1 : RkOf X s u d) (h2 : RkAll X s us ds) : RkAll X s (u :: us) (d :: ds) := fun a b => by
  rw [PyData.showableAll, Bool.and_eq_true] at a
  rw [PyData.shownAll] at b
  obtain ⟨p, hp, kp⟩ := h1 a.1 (b _ List.mem_cons_self)
  obtain ⟨q, hq, kq⟩ := h2 a.2 fun t m => b t (List.mem_cons_of_mem _ m)
  have l1 : d.depth ≤ PyData.depthAll (d :: ds) := by rw [PyData.depthAll]; omega
  have l2 : PyData.depthAll ds ≤ PyData.depthAll (d :: ds) := by rw [PyData.depthAll]; omega
  refine ⟨p ++ q, (hp.mono l1).append (hq.mono l2), ?_⟩
  rw [PyData.shownAll]
  exact .cons ((kp.more fun _ m => List.mem_append_left _ m).level_le l1) (kq.more_le (fun _ m => List.mem_append_right _ m) l2)
theorem rk_seq {a : Addr} {d : PyData} {as : List Addr} {us : List Value} {ds : List PyData} (r : Reads s.heap (.ref a) d as) (hd : d.depth = PyData.depthAll ds + 1) (h : RkAll X s us ds) (h1 : PyData.showableAll ds = true) (h2 : ∀ t ∈ PyData.shownAll ds, t.length ≤ sizeLine)
    (k : ∀ bs, a ∉ bs → ReprAllK X.prog X.w bs s.heap (PyData.depthAll ds) us (PyData.shownAll ds) → ReprK X.prog X.w (a :: bs) s.heap (PyData.depthAll ds + 1) (.ref a) d.shown) : ∃ bs, ReadAtMost s.heap d.depth bs ∧ ReprK X.prog X.w bs s.heap d.depth (.ref a) d.shown := by
  obtain ⟨bs, hb, kb⟩ := h h1 h2
  refine ⟨a :: bs, .cons r (by omega) hb, ?_⟩
  rw [hd]
  exact k bs (not_mem_of_deeper r (by omega) hb) kb
theorem rk_lst {a : Addr} {o : Obj} {n : Nat} {its : List Value} {ds : List PyData} {as : List Addr} (ho : s.heap.get? a = some o) (hc : o.cls = .type "list") (hd : o.data = .seq its.toArray n) (hr : ReadsAll s.heap its ds as) (h : RkAll X s its ds) : RkOf X s (.ref a) (.list ds) := fun h1 h2 => by
  have e1 : PyData.showableAll ds = true := by simpa [PyData.showable] using h1
  have e2 : (listText (PyData.shownAll ds)).length ≤ sizeLine := by simpa only [PyData.shown] using h2
  refine rk_seq (Reads.list ho hc hd hr) (by simp only [PyData.depth]) h e1 (fun t m => Nat.le_trans (listText_mem_le m) e2) fun bs nb kb => ?_
  simp only [PyData.shown]
  cases hr with
  | nil => simp only [PyData.shownAll, listText_nil]; exact ReprK.listEmpty ho hc hd
  | cons r1 r2 => exact ReprK.list ho hc hd nb (by simpa using kb.length_eq) fun i y e => kb.item i y (by simpa using e)
theorem rk_tup {a : Addr} {o : Obj} {n : Nat} {its : List Value} {ds : List PyData} {as : List Addr} (ho : s.heap.get? a = some o) (hc : o.cls = .type "tuple") (hd : o.data = .seq its.toArray n) (hr : ReadsAll s.heap its ds as) (h : RkAll X s its ds) : RkOf X s (.ref a) (.tuple ds) := fun h1 h2 => by
  have e1 : PyData.showableAll ds = true := by simpa [PyData.showable] using h1
  have e2 : (tupleText (PyData.shownAll ds)).length ≤ sizeLine := by simpa only [PyData.shown] using h2
  refine rk_seq (Reads.tuple ho hc hd hr) (by simp only [PyData.depth]) h e1 (fun t m => Nat.le_trans (tupleText_mem_le m) e2) fun bs nb kb => ?_
  simp only [PyData.shown]
  exact ReprK.tuple ho hc hd nb (by simpa using kb)
theorem rk_key {ks : List Key} : ∀ {us : List Value} {as : List Addr}, ReadsAll s.heap us (ks.map keyD) as → RkAll X s us (ks.map keyD) := by
  induction ks with
  | nil => intro us as h; cases h; exact rk_nil
  | cons k ks ih =>
    intro us as h
    cases h with
    | cons r1 r2 =>
      refine rk_cons ?_ (ih r2)
      cases k with
      | inl i => cases r1 with | int _ t => exact rk_flat fun h1 _ => by simp only [keyD, PyData.shown]; exact ReprIs.int t (by simpa [keyD, PyData.showable] using h1)
      | inr x => cases r1 with | str _ t => exact rk_flat fun _ h2 => by simp only [keyD, PyData.shown]; exact ReprIs.str x t (by simpa only [keyD, PyData.shown] using h2)
mutual
theorem Rep.rk (I : Inv X pins σ H s) : ∀ {d : PyData} {v : V}, Rep X.K H d v → ∀ u, RelV v u → RkOf X s u d
  | _, _, .non, _, r => by cases r; exact rk_flat fun _ _ => by simp only [PyData.shown]; exact ReprIs.none
  | _, _, .bl b, _, r => by cases r; exact rk_flat fun _ _ => by simp only [PyData.shown]; exact ReprIs.bool b
  | _, _, .int i, _, r => by obtain ⟨t, rfl⟩ := r; exact rk_flat fun h1 _ => by simp only [PyData.shown]; exact ReprIs.int t (by simpa [PyData.showable] using h1)
  | _, _, .str x, _, r => by obtain ⟨t, rfl⟩ := r; exact rk_flat fun _ h2 => by simp only [PyData.shown]; exact ReprIs.str x t (by simpa only [PyData.shown] using h2)
  | _, _, .tup ht l, _, r => by
    cases r
    obtain ⟨its, rv, ⟨o, ho, hc, n, hd⟩, _⟩ := I.tuple ht.sq
    obtain ⟨as, hr⟩ := RepL.reads I l its rv
    exact rk_tup ho hc hd hr (RepL.rk I l its rv)
  | _, _, .lst ht l, _, r => by
    cases r
    obtain ⟨its, rv, ⟨o, n, ho, hc, _, hd⟩, _⟩ := I.list ht.sq
    obtain ⟨as, hr⟩ := RepL.reads I l its rv
    exact rk_lst ho hc hd hr (RepL.rk I l its rv)
  | _, _, .dct (a := a) (ks := ks) (xs := xs) h e l, _, r => by
    cases r
    obtain ⟨_, hs, ws, kv, o, es, ep, ho, hx, hdat, _, hp, _⟩ := dk_of I.hok h
    obtain ⟨rv, rk⟩ := entries_vals (by rw [e, l.length]) kv hp
    have kx := RepL.rk I l _ rv
    have kk : RkAll X s _ (ks.map keyD) := rk_key rk
    obtain ⟨as, hr⟩ := RepL.reads I l _ rv
    have e1 : ((ks.map keyD).zip xs).map (·.1) = ks.map keyD := List.map_fst_zip (by rw [List.length_map, e]; exact Nat.le_refl _)
    have e2 : ((ks.map keyD).zip xs).map (·.2) = xs := List.map_snd_zip (by rw [List.length_map, e]; exact Nat.le_refl _)
    intro h1 h2
    have z2 : (dictText (PyData.shownKv ((ks.map keyD).zip xs))).length ≤ sizeLine := by simpa only [PyData.shown] using h2
    obtain ⟨s1, s2⟩ := PyData.showableKv_split _ (by simpa [PyData.showable] using h1)
    have dk := PyData.depthAll_keys_le ((ks.map keyD).zip xs)
    have dv := PyData.depthAll_vals_le ((ks.map keyD).zip xs)
    have tk := fun t m => let ⟨p, hp, hl⟩ := PyData.shownKv_key_le ((ks.map keyD).zip xs) t m; Nat.le_trans hl (Nat.le_trans (dictText_mem_le hp) z2)
    have tv := fun t m => let ⟨p, hp, hl⟩ := PyData.shownKv_val_le ((ks.map keyD).zip xs) t m; Nat.le_trans hl (Nat.le_trans (dictText_mem_le hp) z2)
    rw [e1] at s1 dk tk
    rw [e2] at s2 dv tv
    obtain ⟨b1, c1, k1⟩ := kk s1 tk
    obtain ⟨b2, c2, k2⟩ := kx s2 tv
    have rd : Reads s.heap (.ref a) (.dict ((ks.map keyD).zip xs)) _ := Reads.dict ho hx.1 hdat (by rw [e1]; exact rk) (by rw [e2]; exact hr)
    have cc := (c1.mono dk).append (c2.mono dv)
    refine ⟨a :: (b1 ++ b2), .cons rd (by simp only [PyData.depth]; omega) cc, ?_⟩
    simp only [PyData.depth, PyData.shown, PyData.shownKv_eq, e1, e2]
    exact ReprK.dict ho hx.1 hdat hs (not_mem_of_deeper rd (by simp only [PyData.depth]; omega) cc) (ReprEntriesK.of_two _ _ _ (k1.more_le (fun _ m => List.mem_append_left _ m) dk) (k2.more_le (fun _ m => List.mem_append_right _ m) dv))
theorem RepL.rk (I : Inv X pins σ H s) : ∀ {xs : List PyData} {vs : List V}, RepL X.K H xs vs → ∀ us, Vals vs us → RkAll X s us xs
  | _, _, .nil, _, r => by cases r; exact rk_nil
  | _, _, .cons h l, _, r => by
    cases r with
    | cons r1 r2 => exact rk_cons (Rep.rk I h _ r1) (RepL.rk I l _ r2)
end
theorem RdRep.rk (I : Inv X pins σ H s) {d : PyData} {v : V} (h : RdRep X.K H d v) {u : Value} (r : RelV v u) : RkOf X s u d := by
  cases h with
  | imm h => exact Rep.rk I h u r
  | cell h l =>
    cases r
    obtain ⟨its, rv, ⟨o, n, ho, hc, _, hd⟩, _⟩ := I.list (SqL.of h)
    obtain ⟨as, hr⟩ := RepL.reads I l its rv
    exact rk_lst ho hc hd hr (RepL.rk I l its rv)
/-- repr(u) is called -/
def RtOf (X : Cx) (s : Shared) (a : Addr) (d : PyData) : Prop := d.showable = true → d.shown.length ≤ sizeLine → X.A.guards = some [] → X.A.units + (d.depth + 1) < cLine → ∀ Q : Value → Shared → Prop,
  (∀ h' t tk, (∀ b o, s.heap.get? b = some o → h'.get? b = some o) → Q (.str d.shown t) { s with heap := h', toks := tk }) → wpAny (model X.prog X.w) X.A (call (.builtin "repr") [.ref a]) Q X.xe s
theorem rt_lst {a : Addr} {o : Obj} {n : Nat} {its : List Value} {ds : List PyData} {as : List Addr} (ho : s.heap.get? a = some o) (hc : o.cls = .type "list") (hd : o.data = .seq its.toArray n) (hr : ReadsAll s.heap its ds as) (h : RkAll X s its ds) : RtOf X s a (.list ds) := fun h1 h2 hg hu Q hQ => by
  have e1 : PyData.showableAll ds = true := by simpa [PyData.showable] using h1
  have e2 : (listText (PyData.shownAll ds)).length ≤ sizeLine := by simpa only [PyData.shown] using h2
  obtain ⟨bs, hb, kb⟩ := h e1 fun t m => Nat.le_trans (listText_mem_le m) e2
  have nb := not_mem_of_deeper (Reads.list ho hc hd hr) (n := PyData.depthAll ds) (by simp only [PyData.depth]; omega) hb
  simp only [PyData.depth] at hu
  simp only [PyData.shown] at hQ
  refine call_repr_slot (by omega) ⟨o, ho, hc⟩ F.slot_list_repr.toG ?_
  cases hr with
  | nil =>
    simp only [PyData.shownAll, listText_nil] at hQ
    exact call_list_repr_empty ⟨o, ho, hc⟩ ho hd ⟨_, _, rfl, hQ s.heap _ _ fun _ _ e => e⟩
  | cons r1 r2 => exact call_list_reprK ho hc hd nb (by simpa using kb.length_eq) (fun i y e => kb.item i y (by simpa using e)) hg (fun b _ => Clear.nil b) (by show X.A.units + 1 + _ < cLine; omega) (fun _ _ e => e) (fun h' u tk hk => ⟨_, _, rfl, hQ h' u tk hk⟩) e2
theorem rt_tup {a : Addr} {o : Obj} {n : Nat} {its : List Value} {ds : List PyData} {as : List Addr} (ho : s.heap.get? a = some o) (hc : o.cls = .type "tuple") (hd : o.data = .seq its.toArray n) (hr : ReadsAll s.heap its ds as) (h : RkAll X s its ds) : RtOf X s a (.tuple ds) := fun h1 h2 hg hu Q hQ => by
  have e1 : PyData.showableAll ds = true := by simpa [PyData.showable] using h1
  have e2 : (tupleText (PyData.shownAll ds)).length ≤ sizeLine := by simpa only [PyData.shown] using h2
  obtain ⟨bs, hb, kb⟩ := h e1 fun t m => Nat.le_trans (tupleText_mem_le m) e2
  have nb := not_mem_of_deeper (Reads.tuple ho hc hd hr) (n := PyData.depthAll ds) (by simp only [PyData.depth]; omega) hb
  simp only [PyData.depth] at hu
  simp only [PyData.shown] at hQ
  refine call_repr_slot (by omega) ⟨o, ho, hc⟩ F.slot_tuple_repr ?_
  exact call_tuple_reprK ho hc hd nb (by simpa using kb) hg (fun b _ => Clear.nil b) (by show X.A.units + 1 + _ < cLine; omega) (fun _ _ e => e) (fun h' u tk hk => ⟨_, _, rfl, hQ h' u tk hk⟩) e2
theorem rt_dct (I : Inv X pins σ H s) {a : Addr} {ks : List Key} {vs : List V} {xs : List PyData} (h : H a = some (.dK (ks.zip vs))) (e : ks.length = xs.length) (l : RepL X.K H xs vs) : RtOf X s a (.dict ((ks.map keyD).zip xs)) := fun h1 h2 hg hu Q hQ => by
  obtain ⟨_, hs, ws, kv, o, es, ep, ho, hx, hdat, _, hp, _⟩ := dk_of I.hok h
  obtain ⟨rv, rk⟩ := entries_vals (by rw [e, l.length]) kv hp
  obtain ⟨as, hr⟩ := RepL.reads I l _ rv
  have e1 : ((ks.map keyD).zip xs).map (·.1) = ks.map keyD := List.map_fst_zip (by rw [List.length_map, e]; exact Nat.le_refl _)
  have e2 : ((ks.map keyD).zip xs).map (·.2) = xs := List.map_snd_zip (by rw [List.length_map, e]; exact Nat.le_refl _)
  have z2 : (dictText (PyData.shownKv ((ks.map keyD).zip xs))).length ≤ sizeLine := by simpa only [PyData.shown] using h2
  obtain ⟨s1, s2⟩ := PyData.showableKv_split _ (by simpa [PyData.showable] using h1)
  have dk := PyData.depthAll_keys_le ((ks.map keyD).zip xs)
  have dv := PyData.depthAll_vals_le ((ks.map keyD).zip xs)
  have tk := fun t m => let ⟨p, hp, hl⟩ := PyData.shownKv_key_le ((ks.map keyD).zip xs) t m; Nat.le_trans hl (Nat.le_trans (dictText_mem_le hp) z2)
  have tv := fun t m => let ⟨p, hp, hl⟩ := PyData.shownKv_val_le ((ks.map keyD).zip xs) t m; Nat.le_trans hl (Nat.le_trans (dictText_mem_le hp) z2)
  rw [e1] at s1 dk tk
  rw [e2] at s2 dv tv
  obtain ⟨b1, c1, k1⟩ := rk_key rk s1 tk
  obtain ⟨b2, c2, k2⟩ := RepL.rk I l _ rv s2 tv
  have rd : Reads s.heap (.ref a) (.dict ((ks.map keyD).zip xs)) _ := Reads.dict ho hx.1 hdat (by rw [e1]; exact rk) (by rw [e2]; exact hr)
  have cc := (c1.mono dk).append (c2.mono dv)
  simp only [PyData.depth] at hu
  simp only [PyData.shown, PyData.shownKv_eq, e1, e2] at hQ
  refine call_repr_slot (by omega) ⟨o, ho, hx.1⟩ F.slot_dict_repr ?_
  exact call_dict_reprK ho hx.1 hdat hs (not_mem_of_deeper rd (by simp only [PyData.depth]; omega) cc) (ReprEntriesK.of_two _ _ _ (k1.more_le (fun _ m => List.mem_append_left _ m) dk) (k2.more_le (fun _ m => List.mem_append_right _ m) dv)) hg (fun b _ => Clear.nil b) (by show X.A.units + 1 + _ < cLine; omega)
    (fun _ _ e => e) (fun h' u tk hk => ⟨_, _, rfl, hQ h' u tk hk⟩) (by rw [PyData.shownKv_eq, e1, e2] at z2; exact z2)
theorem RdRep.rt (I : Inv X pins σ H s) {d : PyData} {a : Addr} (h : RdRep X.K H d (.ref a)) : RtOf X s a d := by
  cases h with
  | imm h =>
    cases h with
    | tup ht l =>
      obtain ⟨its, rv, ⟨o, ho, hc, n, hd⟩, _⟩ := I.tuple ht.sq
      obtain ⟨as, hr⟩ := RepL.reads I l its rv
      exact rt_tup ho hc hd hr (RepL.rk I l its rv)
    | lst ht l =>
      obtain ⟨its, rv, ⟨o, n, ho, hc, _, hd⟩, _⟩ := I.list ht.sq
      obtain ⟨as, hr⟩ := RepL.reads I l its rv
      exact rt_lst ho hc hd hr (RepL.rk I l its rv)
    | dct h e l => exact rt_dct I h e l
  | cell h l =>
    obtain ⟨its, rv, ⟨o, n, ho, hc, _, hd⟩, _⟩ := I.list (SqL.of h)
    obtain ⟨as, hr⟩ := RepL.reads I l its rv
    exact rt_lst ho hc hd hr (RepL.rk I l its rv)
end
section
variable {X : Cx}
theorem sc_repr (hg : X.A.guards = some []) (hu : X.A.units + 70 < cLine) : CallR X (.builtin "repr") (FN X.K (pfN reprP)) := by
  intro pins s σ H xs us Q I r h
  obtain ⟨ds, c, rd, e, q⟩ := FN_pure h
  unfold reprP at e
  split at e
  · rename_i x
    split at e
    · rename_i hz
      cases e
      obtain ⟨h1, h3, h4⟩ := hz
      obtain ⟨v, rfl, r1⟩ := rd.one
      obtain ⟨u, rfl, ru⟩ := vals1 r
      have hsz : x.shown.length ≤ sizeLine := lim_le h4
      have fin : ∀ t s', Inv X pins σ H s' → EP X pins σ Q (.str x.shown t) s' := fun t s' I' => ⟨.str x.shown, H, I', ⟨t, rfl⟩, q _ H keeps_all (.str _)⟩
      have big : ∀ a, RdRep X.K H x (.ref a) → wpAny (model X.prog X.w) X.A (call (.builtin "repr") [.ref a]) (EP X pins σ Q) X.xe s := fun a r1 =>
        r1.rt I h1 hsz hg (by omega) _ fun h' t tk hk => fin t _ (I.kept hk)
      cases r1 with
      | imm r1 =>
        cases r1 with
        | non => cases ru; exact PySem.P.repr_of_none (fin _ _ (I.tok _))
        | bl b =>
          cases ru
          refine PySem.P.repr_of_bool ?_
          have := fin s.toks _ (I.tok (s.toks + 1))
          simpa [PyData.shown] using this
        | int i =>
          obtain ⟨t, rfl⟩ := ru
          exact PySem.P.repr_of_int (by simpa [PyData.showable] using h1) (fin _ _ (I.tok _))
        | str z =>
          obtain ⟨t, rfl⟩ := ru
          exact PySem.P.repr_of_str (fin _ _ (I.tok _)) hsz
        | tup ht hl => cases ru; exact big _ (.imm (.tup ht hl))
        | lst ht hl => cases ru; exact big _ (.imm (.lst ht hl))
        | dct a b c => cases ru; exact big _ (.imm (.dct a b c))
      | cell hh hl => cases ru; exact big _ (.cell hh hl)
    · cases e
  · cases e
end
/-! ### displays of dicts: {} and {"x": constant} -/
section
variable {X : Cx} {pos p1 p2 : Pos}
theorem se_dict0 : SE X (.Dict [] [] pos) (constE (.dict [])) := PE.imp pe_dnewK fun σ H Q ⟨μ, S, ρ, w, S', ok, en, e, q⟩ p hp => by
  cases e
  exact q _ _ μ (.new ok hp) (.d (.dct (ks := []) (vs := []) (xs := []) upd_same rfl .nil))
theorem se_dict1 {x : Str} {j j2 : Nat} {c : Const} {d : PyData} {v : V} (h : PE X (.Constant c j2 p2) (tC v)) (r : ∀ H, Rep X.K H d v) : SE X (.Dict [some (.Constant (.str x) j p1)] [.Constant c j2 p2] pos) (constE (.dict [(.str x, d)])) :=
  PE.imp (pe_disp (pps_cons pe_str h pps_nil) rfl rfl (by simp) (by simp)) fun σ H Q ⟨μ, S, ρ, w, S', ok, en, e, q⟩ p hp => by
    cases e
    show _ ∧ _
    refine ⟨upd_same, [(.inr x, v)], rfl, by simp, ?_⟩
    rw [upd_upd]
    exact q _ _ μ (.new ok hp) (.d (.dct (ks := [.inr x]) (vs := [v]) (xs := [d]) upd_same rfl (.cons (r _) .nil)))
end
end PD

/-! PD, part 3e: enumerate of a tuple. -/
namespace PD
open PySem PySem.Spec PyProof.Rows L2 RZ RT

theorem meets_enum1 {v : Value} {o : Obj} {H : Heap → Prop} (B : Begins v o H) :
    Meets (Builtin.«enumerate.__new__» ⟨[.type "enumerate", v], []⟩) (fun _ R s => H s.heap ∧
      R (.ok (.ret (.ref (s.heap.push o).objs.size))) { s with heap := (s.heap.push o).push { cls := .type "enumerate", data := .fields #[.none, .bool false, .ref s.heap.objs.size, rawInt 0, .none, .none] } }) :=
  .of_wp fun prog w A R s h => by
    obtain ⟨hp, g, d, tk, os⟩ := s; obtain ⟨h1, h⟩ := h
    have hsub := sub_enumerate
    have q1 : ∀ {A' : Around} {E : Value → Shared → Prop} {Q : Value → Shared → Prop}, Q (.ref hp.objs.size) ⟨hp.push o, g, d, tk, os⟩ → wpAny (model prog w) A' (pyIter v) Q E ⟨hp, g, d, tk, os⟩ :=
      fun q => B.iter prog w _ _ ⟨hp, g, d, tk, os⟩ _ h1 q
    wp_walk using q1
    refine wpAny_stack_any fun st => wpAny_pure ?_
    split
    · rename_i c _ _ _ _ _
      cases (c == Value.type "enumerate")
      · wp_walk using q1
        exact ⟨_, rfl, h⟩
      · wp_walk using q1
        exact ⟨_, rfl, h⟩
    · wp_walk using q1
      exact ⟨_, rfl, h⟩
section
variable {prog : Program} {w : World} {A : Around} {E : Value → Shared → Prop} {s : Shared}
theorem call_enum1 {v : Value} {o : Obj} {H : Heap → Prop} {Q : Value → Shared → Prop} (B : Begins v o H) (h1 : H s.heap)
    (h : ∀ h', IsEnum h' (s.heap.objs.size + 1) s.heap.objs.size 0 .none → h'.get? s.heap.objs.size = some o → h'.objs.size = s.heap.objs.size + 2 →
      (∀ b o, s.heap.get? b = some o → h'.get? b = some o) → Q (.ref (s.heap.objs.size + 1)) { s with heap := h' }) :
    wpAny (model prog w) A (call (.type "enumerate") [v]) Q E s := by
  refine callType_new F.called_enumerate (by decide) (F.typeCall_enumerate_1 _) (F.newCall_enumerate_1 _) (fun obj => F.args_object_init_2 obj _) F.entry_enumerate_new
    (meets_enum1 B) ⟨h1, ?_⟩
  have hz : (s.heap.push o).objs.size = s.heap.objs.size + 1 := Heap.size_push ..
  show _ ∧ _
  rw [hz]
  have he : IsEnum ((s.heap.push o).push { cls := .type "enumerate", data := .fields #[.none, .bool false, .ref s.heap.objs.size, rawInt 0, .none, .none] }) (s.heap.objs.size + 1) s.heap.objs.size 0 .none := by
    have := Heap.get?_push_size (s.heap.push o) (o := { cls := .type "enumerate", data := .fields #[.none, .bool false, .ref s.heap.objs.size, rawInt 0, .none, .none] }) rfl
    rw [hz] at this; exact this
  refine ⟨⟨_, he, rfl⟩, h _ he (Heap.get?_push_of_some _ (Heap.get?_push_size _ B.free)) (by rw [Heap.size_push, hz]) fun b o x => Heap.get?_push_of_some _ (Heap.get?_push_of_some _ x)⟩
end

section
variable {prog : Program} {w : World} {A : Around} {E : Value → Shared → Prop} {s : Shared}
theorem enumT_end {e it a : Addr} {i : Nat} {c : Int} {items : Array Value} {old : Value} {Q : Option Value → Shared → Prop} (hh : A.in1.handled = none)
    (he : IsEnum s.heap e it c old) (hit : s.heap.IsTupleIter it a i) (hp : s.heap.IsTuple a items) (hn : items.size ≤ i)
    (hQ : ∀ h', Heap.ExtBut it s.heap h' → Q none { s with heap := h' }) : wpAny (model prog w) A (pyNext (.ref e)) Q E s := by
  have hT : s.TypeIs (.ref e) "enumerate" := ⟨_, he, rfl⟩
  unfold pyNext
  refine wpAny_bind (wpAny_attempt (wpAny_callSpecial?_slot (name := Str.ofString "__next__") hT F.slot_enumerate_next
    (wpAny_call_entry F.slot_enumerate_next hT F.entry_enumerate_next ?_ (F.args_enumerate_next_1 _))))
  show wpAny _ _ (field (.ref e) 2 >>= _) _ _ _
  refine wpAny_bind (wpAny_field he rfl (x := .ref it) rfl ?_)
  refine wpAny_bind (wpAny_nextOf_tuple_end hh hit hp (Array.getElem?_eq_none hn) fun h' x he' hx' => ?_)
  obtain ⟨o, ho, hc⟩ := hx'
  refine wpAny_bind (wpAny_isInstance (T := "StopIteration") (b := true) ⟨o, ho, hc⟩ isSubtype_stop ?_)
  exact wpAny_pure (hQ _ he')
end

/-- the tuple at a as it stands at each turn, each item in a new pair -/
def IteT (K : PySem.W.Frag) (a : Addr) : It :=
  ⟨fun i H => ∃ (xs : List V) (x : V), SqT K H a xs ∧ xs[i]? = some x, fun i H v H' => ∃ T x, v = .ref T ∧ H T = none ∧ H' = upd H T (.tup [.int (i : Nat), x]) ∧ ∀ xs, SqT K H a xs → xs[i]? = some x, fun i H => ∃ xs : List V, SqT K H a xs ∧ xs.length ≤ i⟩
theorem turn_enumT {P : Program} {w : World} {K : PySem.W.Frag} {elts : List Expr} {kk : Nat} {tpos : Pos} (a e it : Addr) (hae : a ≠ e) (hai : a ≠ it) :
    Turn P w K (.Tuple elts kk tpos) (IteT K a) [e, it] e (fun i h => (∃ old, IsEnum h e it ((i : Nat) : Int) old) ∧ h.IsTupleIter it a i ∧ e ≠ it) where
  mem := by simp
  obj := fun i h st b hb => by
    obtain ⟨⟨old, he⟩, ⟨o, ho, hc, hd⟩, _⟩ := st
    have e' : b = e ∨ b = it := by simpa using hb
    rcases e' with z | z
    · rw [z]; exact ⟨_, he, fun v q => nomatch q⟩
    · rw [z]; exact ⟨o, ho, fun v q => by rw [hd] at q; cases q⟩
  keep := fun i h h' st k => let ⟨⟨old, he⟩, hi, hne⟩ := st; ⟨⟨old, k e (by simp) _ he⟩, hi.at fun o q => k it (by simp) o q, hne⟩
  item := by
    intro X hP hw hK hc i pins s σ H E I hf st hg
    subst hP hw hK
    obtain ⟨⟨old, he⟩, hit, hne⟩ := st
    obtain ⟨xs, x, hq, hx⟩ := hg
    obtain ⟨its, rv, p, hz⟩ := I.tuple hq
    obtain ⟨u, hu, ru⟩ := rv.get hx
    have hel : e < s.heap.objs.size := Heap.lt_size he
    have hil : it < s.heap.objs.size := by obtain ⟨_, q, _⟩ := hit; exact Heap.lt_size q
    have hp : s.heap.IsTuple a its.toArray := p
    have hlt : i < its.toArray.size := by
      have := (List.getElem?_eq_some_iff.mp hu).1
      simpa using this
    refine wpAny_pyNext_enum_itemD (Draws.tuple (A := X.A.in1) (show X.A.in1.handled = none from I.ok.hd hc) it a hai its.toArray) he ⟨hit, hp⟩ hlt hne (by simp [hae.symm, hne]) fun y h' tk hy ho st' hT hsz hk => ?_
    obtain ⟨hit', hp'⟩ := st'
    have hyu : y = u := by
      have e1 : its.toArray[i]? = some u := by simpa using hu
      rw [e1] at hy; cases hy; rfl
    subst hyu
    refine ⟨_, rfl, wpAny_letOwnedTupleGo_enum (s := { s with heap := h', toks := tk + 1 }) ho fun h'' he' sb => ?_⟩
    have hT2 : h''.get? s.heap.objs.size = some { cls := .type "tuple", data := .seq #[.int i tk, y] } := (sb.2 _ (Nat.ne_of_gt hel)).trans hT
    have new : ObjOk X.prog X.w (upd H s.heap.objs.size (.tup [.int (i : Nat), x])) h'' s.heap.objs.size (.tup [.int (i : Nat), x]) :=
      ⟨by show 2 ≤ sizeLine; decide, [.int i tk, y], .cons ⟨_, rfl⟩ (.cons ru .nil), ⟨_, hT2, rfl, _, rfl⟩⟩
    have I1 : Inv X pins σ (upd H s.heap.objs.size (.tup [.int (i : Nat), x])) { s with heap := h'', toks := tk + 1 } :=
      I.turnedNew (t' := tk + 1) (ch := [e, it]) (fun b ob hb q => (sb.2 b (fun z => hb (by simp [z]))).trans (hk b ob (fun z => hb (by simp [z])) (fun z => hb (by simp [z])) q)) hf (Nat.le_refl _) new
    refine ⟨.ref s.heap.objs.size, _, I1, rfl, ⟨_, x, rfl, I.hok.fresh (Nat.le_refl _), rfl, fun ys hy => by rw [I.tuple_inj hy hq]; exact hx⟩, ⟨⟨y, ?_⟩, hit'.at fun o q => (sb.2 it (Ne.symm hne)).trans q, hne⟩, fun b hb => ?_⟩
    · have e1 : ((i + 1 : Nat) : Int) = (i : Int) + 1 := by omega
      rw [e1]; exact he'
    · have hb' : b < s.heap.objs.size := by
        have e' : b = e ∨ b = it := by simpa using hb
        rcases e' with z | z
        · rw [z]; exact hel
        · rw [z]; exact hil
      rw [upd_ne (Nat.ne_of_lt hb')]
      exact (hf b hb).1
  done := by
    intro X hP hw hK hc i pins s σ H E I hf st hg
    subst hP hw hK
    obtain ⟨⟨old, he⟩, hit, hne⟩ := st
    obtain ⟨xs, hq, hx⟩ := hg
    obtain ⟨its, rv, p, hz⟩ := I.tuple hq
    obtain ⟨f0, f1, f2, f3, f4, f5⟩ := hf it (by simp)
    have hl := rv.length
    have hp : s.heap.IsTuple a its.toArray := p
    have hn : its.toArray.size ≤ i := by simp; omega
    exact enumT_end (show X.A.in1.handled = none from I.ok.hd hc) he hit hp hn fun h' eb => ⟨rfl, I.turned (t' := s.toks) (fun b o hb q => eb b o hb q) f0 f1 f3 f4 f5⟩
  self := fun A i s Q E st h => let ⟨⟨_, he⟩, _⟩ := st; wpAny_pyIter_enum he h
def iEnumA (K : PySem.W.Frag) (ta : TA) : TI := fun σ H R => ta σ H fun vs H1 => ∃ a xs, vs = [.ref a] ∧ ((SqL K H1 a xs ∧ R (Ite K a) H1) ∨ (SqT K H1 a xs ∧ R (IteT K a) H1))
theorem pi_enumA {X : Cx} {e : Expr} {ta : TA} {p pos tpos : Pos} {elts : List Expr} {kk : Nat} (hg : Gl X "enumerate") (hm : X.mg "enumerate" = none) (ha : PA X [e] ta) (hs : starEach [e] X.env = [(false, eval e X.env)] := by rfl) :
    PI X (.Tuple elts kk tpos) (.Call (.Name "enumerate" p) [e] [] pos) (iEnumA X.K ta) := by
  refine ⟨fun pins s σ H R I h => ?_⟩
  refine Call_ (ld_blt I hg hm boot_enumerate (PyProof.Rows.callWith_type1 (thn (ha.run pos pins s σ H _ I h) fun us s1 ⟨vs, H1, I1, r1, q1⟩ => ?_) hs rfl))
  obtain ⟨a, xs, ex, q1⟩ := q1
  subst ex
  cases r1 with
  | cons r rr =>
    cases rr
    cases r
    have fresh2 : ∀ b, b ∈ [s1.heap.objs.size + 1, s1.heap.objs.size] → FpOk X pins H1 b := fun b hb => by
      have e' : b = s1.heap.objs.size + 1 ∨ b = s1.heap.objs.size := by simpa using hb
      have hle : s1.heap.objs.size ≤ b := by
        rcases e' with z | z
        · rw [z]; exact Nat.le_add_right _ _
        · rw [z]; exact Nat.le_refl _
      exact I1.fpOk hle (I1.hok.fresh hle)
    rcases q1 with ⟨hq, q⟩ | ⟨hq, q⟩
    · obtain ⟨its, rv, p', hz⟩ := I1.list hq
      refine call_enumerate_list p'.isList fun h' he hit hsz hk => wpAny_pyIter_enum he ?_
      have I2 : Inv X pins σ H1 { s1 with heap := h' } := I1.kept (t' := s1.toks) hk
      exact ⟨s1.heap.objs.size + 1, [s1.heap.objs.size + 1, s1.heap.objs.size], _, _, H1, rfl, I2, turn_enum a (s1.heap.objs.size + 1) s1.heap.objs.size, ⟨⟨.none, he⟩, hit, Nat.succ_ne_self _⟩, fresh2, q⟩
    · obtain ⟨its, rv, p', hz⟩ := I1.tuple hq
      have hp : s1.heap.IsTuple a its.toArray := p'
      obtain ⟨o1, ho1, _⟩ := id hp
      have hal : a < s1.heap.objs.size := Heap.lt_size ho1
      refine call_enum1 (begins_tuple a its.toArray) hp fun h' he hit hsz hk => wpAny_pyIter_enum he ?_
      have I2 : Inv X pins σ H1 { s1 with heap := h' } := I1.kept (t' := s1.toks) hk
      exact ⟨s1.heap.objs.size + 1, [s1.heap.objs.size + 1, s1.heap.objs.size], _, _, H1, rfl, I2, turn_enumT a (s1.heap.objs.size + 1) s1.heap.objs.size (Nat.ne_of_lt (Nat.lt_succ_of_lt hal)) (Nat.ne_of_lt hal), ⟨⟨.none, he⟩, ⟨_, hit, rfl, rfl⟩, Nat.succ_ne_self _⟩, fresh2, q⟩
end PD

/-! PD, part 3z: zip of a tuple, a tuple and a list. -/
namespace PD
open PySem PySem.Spec PyProof.Rows L2 RZ RT

section
variable {prog : Program} {w : World} {A : Around}
/-- an iterator that stands at i: it goes on, or it has come to its end -/
theorem draws_listAt (hh : A.handled = none) (it l : Addr) (hne : l ≠ it) (items : Array Value) (i : Nat) (h : Heap) (h1 : h.IsListIter it l i) (h2 : h.IsList l items) :
    ∃ (n : Nat) (P : Nat → Value → Prop) (St : Nat → Heap → Prop), Draws prog w A it [it, l] n P St ∧ St i h ∧ i ≤ n ∧ (items.size ≤ i → i = n) := by
  by_cases z : items.size ≤ i
  · refine ⟨i, fun _ _ => False, fun j h' => j = i ∧ h'.IsListIter it l i ∧ h'.IsList l items, ⟨fun j h' st => let ⟨o, ho, _⟩ := st.2.1; ⟨o, ho⟩, fun j h' h'' st hk => ⟨st.1, st.2.1.at fun o e => hk it (by simp) o e, st.2.2.at fun o e => hk l (by simp) o e⟩, fun j s Q E hj st hQ => absurd st.1 (by omega), fun s Q E st hE => wpAny_nextOf_list_end hh st.2.1 st.2.2 (Array.getElem?_eq_none z) hE⟩, ⟨rfl, h1, h2⟩, Nat.le_refl _, fun _ => rfl⟩
  · exact ⟨items.size, _, _, Draws.list hh it l hne items, ⟨h1, h2⟩, by omega, fun q => absurd q z⟩
theorem draws_tupAt (hh : A.handled = none) (it l : Addr) (hne : l ≠ it) (items : Array Value) (i : Nat) (h : Heap) (h1 : h.IsTupleIter it l i) (h2 : h.IsTuple l items) :
    ∃ (n : Nat) (P : Nat → Value → Prop) (St : Nat → Heap → Prop), Draws prog w A it [it, l] n P St ∧ St i h ∧ i ≤ n ∧ (items.size ≤ i → i = n) := by
  by_cases z : items.size ≤ i
  · refine ⟨i, fun _ _ => False, fun j h' => j = i ∧ h'.IsTupleIter it l i ∧ h'.IsTuple l items, ⟨fun j h' st => let ⟨o, ho, _⟩ := st.2.1; ⟨o, ho⟩, fun j h' h'' st hk => ⟨st.1, st.2.1.at fun o e => hk it (by simp) o e, st.2.2.at fun o e => hk l (by simp) o e⟩, fun j s Q E hj st hQ => absurd st.1 (by omega), fun s Q E st hE => wpAny_nextOf_tuple_end hh st.2.1 st.2.2 (Array.getElem?_eq_none z) hE⟩, ⟨rfl, h1, h2⟩, Nat.le_refl _, fun _ => rfl⟩
  · exact ⟨items.size, _, _, Draws.tuple hh it l hne items, ⟨h1, h2⟩, by omega, fun q => absurd q z⟩
end
/-- the tuples at a, b and the list at c as they stand at each turn, the items in new triples -/
def Itz3 (K : PySem.W.Frag) (a b c : Addr) : It :=
  ⟨fun i H => ∃ (xs ys zs : List V) (x y z : V), SqT K H a xs ∧ SqT K H b ys ∧ SqL K H c zs ∧ xs[i]? = some x ∧ ys[i]? = some y ∧ zs[i]? = some z,
    fun i H v H' => ∃ T x y z, v = .ref T ∧ H T = none ∧ H' = upd H T (.tup [x, y, z]) ∧ (∀ xs, SqT K H a xs → xs[i]? = some x) ∧ (∀ ys, SqT K H b ys → ys[i]? = some y) ∧ ∀ zs, SqL K H c zs → zs[i]? = some z,
    fun i H => ∃ xs ys zs : List V, SqT K H a xs ∧ SqT K H b ys ∧ SqL K H c zs ∧ (xs.length ≤ i ∨ ys.length ≤ i ∨ zs.length ≤ i)⟩
theorem turn_zip3 {P : Program} {w : World} {K : PySem.W.Frag} {elts : List Expr} {kk : Nat} {tpos : Pos} {a b c z TI TO i1 i2 i3 : Addr} (D : ZipSep3 z TI TO i1 i2 i3 [i1, a] [i2, b] [i3, c]) (ha : a ≠ i1) (hb : b ≠ i2) (hc' : c ≠ i3) :
    Turn P w K (.Tuple elts kk tpos) (Itz3 K a b c) [z, TI, TO, i1, i2, i3] z (fun i h => IsZip h z TI TO .none ∧ IsTupOf3 h TI (.ref i1) (.ref i2) (.ref i3) ∧ (∃ x y u, IsTupOf3 h TO x y u) ∧ h.IsTupleIter i1 a i ∧ h.IsTupleIter i2 b i ∧ h.IsListIter i3 c i) where
  mem := by simp
  obj := fun i h st b hb => by
    obtain ⟨hz, hTI, ⟨x, y, u, hTO⟩, ⟨o1, e1, _, d1⟩, ⟨o2, e2, _, d2⟩, ⟨o3, e3, _, d3⟩⟩ := st
    have e' : b = z ∨ b = TI ∨ b = TO ∨ b = i1 ∨ b = i2 ∨ b = i3 := by simpa using hb
    rcases e' with q | q | q | q | q | q
    · rw [q]; exact ⟨_, hz, fun v q => nomatch q⟩
    · rw [q]; exact ⟨_, hTI, fun v q => nomatch q⟩
    · rw [q]; exact ⟨_, hTO, fun v q => nomatch q⟩
    · rw [q]; exact ⟨o1, e1, fun v q => by rw [d1] at q; cases q⟩
    · rw [q]; exact ⟨o2, e2, fun v q => by rw [d2] at q; cases q⟩
    · rw [q]; exact ⟨o3, e3, fun v q => by rw [d3] at q; cases q⟩
  keep := fun i h h' st k => by
    obtain ⟨hz, hTI, ⟨x, y, u, hTO⟩, h1, h2, h3⟩ := st
    exact ⟨k z (by simp) _ hz, k TI (by simp) _ hTI, ⟨x, y, u, k TO (by simp) _ hTO⟩, h1.at fun o q => k i1 (by simp) o q, h2.at fun o q => k i2 (by simp) o q, h3.at fun o q => k i3 (by simp) o q⟩
  item := by
    intro X hP hw hK hc i pins s σ H E I hf st hg
    subst hP hw hK
    obtain ⟨hz, hTI, ⟨x0, y0, u0, hTO⟩, h1, h2, h3⟩ := st
    obtain ⟨xs, ys, zs, x, y, u, hqx, hqy, hqz, hx, hy, hu⟩ := hg
    obtain ⟨its, rv, p, _⟩ := I.tuple hqx
    obtain ⟨its2, rv2, p2, _⟩ := I.tuple hqy
    obtain ⟨its3, rv3, p3, _⟩ := I.list hqz
    obtain ⟨v1, hv1, ru⟩ := rv.get hx
    obtain ⟨v2, hv2, ru2⟩ := rv2.get hy
    obtain ⟨v3, hv3, ru3⟩ := rv3.get hu
    have hzl : z < s.heap.objs.size := Heap.lt_size hz
    have hh : X.A.in1.handled = none := I.ok.hd hc
    have lt1 : i < its.toArray.size := by simpa using (List.getElem?_eq_some_iff.mp hv1).1
    have lt2 : i < its2.toArray.size := by simpa using (List.getElem?_eq_some_iff.mp hv2).1
    have lt3 : i < its3.toArray.size := by simpa using (List.getElem?_eq_some_iff.mp hv3).1
    refine wpAny_pyNext_zipD3_item D (Draws.tuple (A := X.A.in1) hh i1 a ha its.toArray) (Draws.tuple (A := X.A.in1) hh i2 b hb its2.toArray) (Draws.list (A := X.A.in1) hh i3 c hc' its3.toArray) hz hTI hTO ⟨h1, p⟩ ⟨h2, p2⟩ ⟨h3, p3.isList⟩ lt1 lt2 lt3 fun y1 y2 y3 h' tk P1 P2 P3 z' TO' s1 s2 s3 hT hsz hk => ?_
    have q1 : y1 = v1 := by have e1 : its.toArray[i]? = some v1 := by simpa using hv1
                            rw [e1] at P1; cases P1; rfl
    have q2 : y2 = v2 := by have e1 : its2.toArray[i]? = some v2 := by simpa using hv2
                            rw [e1] at P2; cases P2; rfl
    have q3 : y3 = v3 := by have e1 : its3.toArray[i]? = some v3 := by simpa using hv3
                            rw [e1] at P3; cases P3; rfl
    subst q1 q2 q3
    refine ⟨_, rfl, wpAny_letOwnedTupleGo_zip (s := { s with heap := h', toks := tk }) z' fun h'' z'' sb => ?_⟩
    have hT2 : h''.get? s.heap.objs.size = some { cls := .type "tuple", data := .seq #[y1, y2, y3] } := (sb.2 _ (Nat.ne_of_gt hzl)).trans hT
    have new : ObjOk X.prog X.w (upd H s.heap.objs.size (.tup [x, y, u])) h'' s.heap.objs.size (.tup [x, y, u]) :=
      ⟨by show 3 ≤ sizeLine; decide, [y1, y2, y3], .cons ru (.cons ru2 (.cons ru3 .nil)), ⟨_, hT2, rfl, _, rfl⟩⟩
    have I1 : Inv X pins σ (upd H s.heap.objs.size (.tup [x, y, u])) { s with heap := h'', toks := tk } :=
      I.turnedNew (t' := tk) (ch := [z, TI, TO, i1, i2, i3]) (fun c o hb q => (sb.2 c (fun q' => hb (by simp [q']))).trans (hk c o (fun q' => hb (by simp [q'])) (fun q' => hb (by simp [q'])) (fun q' => hb (by simp [q'])) (fun q' => hb (by simp [q'])) (fun q' => hb (by simp [q'])) q)) hf (Nat.le_refl _) new
    have i1z : i1 ≠ z := fun q => D.zf1 (by simp [q])
    have i2z : i2 ≠ z := fun q => D.zf2 (by simp [q])
    have i3z : i3 ≠ z := fun q => D.zf3 (by simp [q])
    refine ⟨.ref s.heap.objs.size, _, I1, rfl, ⟨_, x, y, u, rfl, I.hok.fresh (Nat.le_refl _), rfl, fun l hl => by rw [I.tuple_inj hl hqx]; exact hx, fun l hl => by rw [I.tuple_inj hl hqy]; exact hy, fun l hl => by rw [I.list_inj hl hqz]; exact hu⟩, ⟨z'', ?_, ⟨y1, y2, y3, ?_⟩, ?_, ?_, ?_⟩, fun c hcm => ?_⟩
    · exact (sb.2 _ D.TIz).trans (hk _ _ D.TIz D.TITO D.TIi1 D.TIi2 D.TIi3 hTI)
    · exact (sb.2 _ D.TOz).trans TO'
    · exact s1.1.at fun o q => (sb.2 _ i1z).trans q
    · exact s2.1.at fun o q => (sb.2 _ i2z).trans q
    · exact s3.1.at fun o q => (sb.2 _ i3z).trans q
    · have hlt : c < s.heap.objs.size := by
        have e' : c = z ∨ c = TI ∨ c = TO ∨ c = i1 ∨ c = i2 ∨ c = i3 := by simpa using hcm
        rcases e' with q | q | q | q | q | q
        · rw [q]; exact hzl
        · rw [q]; exact Heap.lt_size hTI
        · rw [q]; exact Heap.lt_size hTO
        · rw [q]; obtain ⟨_, e1, _⟩ := h1; exact Heap.lt_size e1
        · rw [q]; obtain ⟨_, e2, _⟩ := h2; exact Heap.lt_size e2
        · rw [q]; obtain ⟨_, e3, _⟩ := h3; exact Heap.lt_size e3
      rw [upd_ne (Nat.ne_of_lt hlt)]
      exact (hf c hcm).1
  done := by
    intro X hP hw hK hc i pins s σ H E I hf st hg
    subst hP hw hK
    obtain ⟨hz, hTI, ⟨x0, y0, u0, hTO⟩, h1, h2, h3⟩ := st
    obtain ⟨xs, ys, zs, hqx, hqy, hqz, hend⟩ := hg
    obtain ⟨its, rv, p, _⟩ := I.tuple hqx
    obtain ⟨its2, rv2, p2, _⟩ := I.tuple hqy
    obtain ⟨its3, rv3, p3, _⟩ := I.list hqz
    have l1 := rv.length
    have l2 := rv2.length
    have l3 := rv3.length
    have hh : X.A.in1.handled = none := I.ok.hd hc
    obtain ⟨n1, P1, S1, D1, s1, b1, t1⟩ := draws_tupAt (prog := X.prog) (w := X.w) hh i1 a ha its.toArray i s.heap h1 p
    obtain ⟨n2, P2, S2, D2, s2, b2, t2⟩ := draws_tupAt (prog := X.prog) (w := X.w) hh i2 b hb its2.toArray i s.heap h2 p2
    obtain ⟨n3, P3, S3, D3, s3, b3, t3⟩ := draws_listAt (prog := X.prog) (w := X.w) hh i3 c hc' its3.toArray i s.heap h3 p3.isList
    have he : i = n1 ∨ i = n2 ∨ i = n3 := by
      rcases hend with q | q | q
      · exact .inl (t1 (by simp; omega))
      · exact .inr (.inl (t2 (by simp; omega)))
      · exact .inr (.inr (t3 (by simp; omega)))
    exact wpAny_pyNext_zipD3_end D D1 D2 D3 hz hTI hTO s1 s2 s3 b1 b2 b3 he fun h' tk hk => ⟨rfl, I.turnedL (t' := tk) (ch := [z, TI, TO, i1, i2, i3]) (fun c o hb q =>
      hk c o (fun q' => hb (by simp [q'])) (fun q' => hb (by simp [q'])) (fun q' => hb (by simp [q'])) (fun q' => hb (by simp [q'])) (fun q' => hb (by simp [q'])) q) hf⟩
  self := fun A i s Q E st h => wpAny_pyIter_zip st.1 h
def iZip3 (K : PySem.W.Frag) (ta : TA) : TI := fun σ H R => ta σ H fun vs H1 => ∃ a b c xs ys zs, vs = [.ref a, .ref b, .ref c] ∧ SqT K H1 a xs ∧ SqT K H1 b ys ∧ SqL K H1 c zs ∧ R (Itz3 K a b c) H1
theorem pi_zip3 {X : Cx} {e e2 e3 : Expr} {ta : TA} {p pos tpos : Pos} {elts : List Expr} {kk : Nat} (hg : Gl X "zip") (hm : X.mg "zip" = none) (ha : PA X [e, e2, e3] ta)
    (hs : starEach [e, e2, e3] X.env = (false, eval e X.env) :: starEach [e2, e3] X.env) (hpl : (backTo pos (starEach [e2, e3] X.env)).any (·.1) = false) :
    PI X (.Tuple elts kk tpos) (.Call (.Name "zip" p) [e, e2, e3] [] pos) (iZip3 X.K ta) := by
  refine ⟨fun pins s σ H R I h => ?_⟩
  refine Call_ (ld_blt I hg hm PyProof.Rows.boot_zip (PyProof.Rows.callWith_type1 (thn (ha.run pos pins s σ H _ I h) fun us s1 ⟨vs, H1, I1, r1, q1⟩ => ?_) hs hpl))
  obtain ⟨a, b, c, xs, ys, zs, ex, hqx, hqy, hqz, q⟩ := q1
  subst ex
  cases r1 with
  | cons r rr =>
    cases rr with
    | cons r' rr =>
      cases rr with
      | cons r'' rr =>
        cases rr
        cases r
        cases r'
        cases r''
        obtain ⟨its, rv, p1, _⟩ := I1.tuple hqx
        obtain ⟨its2, rv2, p2, _⟩ := I1.tuple hqy
        obtain ⟨its3, rv3, p3, _⟩ := I1.list hqz
        obtain ⟨o1, ho1, _⟩ := id p1
        obtain ⟨o2, ho2, _⟩ := id p2
        have l1 : a < s1.heap.objs.size := Heap.lt_size ho1
        have l2 : b < s1.heap.objs.size := Heap.lt_size ho2
        have l3 : c < s1.heap.objs.size := p3.lt
        have fresh6 : ∀ d, d ∈ [s1.heap.objs.size + 5, s1.heap.objs.size + 3, s1.heap.objs.size + 4, s1.heap.objs.size, s1.heap.objs.size + 1, s1.heap.objs.size + 2] → FpOk X pins H1 d := fun d hd => by
          have hle : s1.heap.objs.size ≤ d := by
            have e' : d = s1.heap.objs.size + 5 ∨ d = s1.heap.objs.size + 3 ∨ d = s1.heap.objs.size + 4 ∨ d = s1.heap.objs.size ∨ d = s1.heap.objs.size + 1 ∨ d = s1.heap.objs.size + 2 := by simpa using hd
            rcases e' with z | z | z | z | z | z
            · rw [z]; exact Nat.le_add_right _ _
            · rw [z]; exact Nat.le_add_right _ _
            · rw [z]; exact Nat.le_add_right _ _
            · rw [z]; exact Nat.le_refl _
            · rw [z]; exact Nat.le_add_right _ _
            · rw [z]; exact Nat.le_add_right _ _
          exact I1.fpOk hle (I1.hok.fresh hle)
        refine zip_begins3 (begins_tuple a its.toArray) (begins_tuple b its2.toArray) (begins_list c its3.toArray) p1 p2 p3.isList fun h' hz hTI hTO g1 g2 g3 hsz hk => wpAny_pyIter_zip hz ?_
        have I2 : Inv X pins σ H1 { s1 with heap := h' } := I1.kept (t' := s1.toks) hk
        exact ⟨s1.heap.objs.size + 5, [s1.heap.objs.size + 5, s1.heap.objs.size + 3, s1.heap.objs.size + 4, s1.heap.objs.size, s1.heap.objs.size + 1, s1.heap.objs.size + 2], _, _, H1, rfl, I2,
          turn_zip3 (zip_sep3 (fp1 := [a]) (fp2 := [b]) (fp3 := [c]) (fun d hd => by rw [List.mem_singleton.mp hd]; exact l1) (fun d hd => by rw [List.mem_singleton.mp hd]; exact l2) (fun d hd => by rw [List.mem_singleton.mp hd]; exact l3)) (Nat.ne_of_lt l1) (Nat.ne_of_lt (Nat.lt_succ_of_lt l2)) (Nat.ne_of_lt (Nat.lt_succ_of_lt (Nat.lt_succ_of_lt l3))),
          ⟨hz, hTI, ⟨_, _, _, hTO⟩, ⟨_, g1, rfl, rfl⟩, ⟨_, g2, rfl, rfl⟩, ⟨_, g3, rfl, rfl⟩⟩, fresh6, q⟩
end PD

/-! PD, part 4: what is walked, targets, statements, comprehensions. -/
namespace PD
open PySem PySem.Spec PyProof.Rows L2 RZ RT

/-! ### what is walked -/
abbrev CI := Rho → Sto → Option (List PyData × Sto)
/-- the iterator yields just these, as long as what is not live stays -/
def Yields (K : PySem.W.Frag) (μ : List Addr) (S : Sto) (H : Hp) (J : It) (xs : List PyData) : Prop :=
  ∀ H1, Ext μ S H H1 → ∀ i : Nat, (∀ x, xs[i]? = some x → J.go i H1 ∧ ∀ v H2, J.yld i H1 v H2 → (∀ a o, H1 a = some o → H2 a = some o) ∧ Rep K H2 x v) ∧ (xs[i]? = none → J.stop i H1)
def rdI (K : PySem.W.Frag) (m : CI) : TI := fun σ H R => ∃ μ S ρ xs S', StoOk K H μ S ∧ EnvOk K H μ ρ σ ∧ m ρ S = some (xs, S') ∧ ∀ J H' μ', Stp K μ S H μ' S' H' → Yields K μ' S' H' J xs → R J H'
abbrev SI (X : Cx) (tg iter : Expr) (m : CI) : Prop := PI X tg iter (rdI X.K m)
theorem PI.imp {X : Cx} {tg e : Expr} {t t' : TI} (h : PI X tg e t) (i : ∀ σ H Q, t' σ H Q → t σ H Q) : PI X tg e t' := ⟨fun pins s σ H Q I q => h.run pins s σ H Q I (i σ H Q q)⟩

section
variable {K : PySem.W.Frag} {μ : List Addr} {S : Sto} {H : Hp}
theorem fz_ext (ok : StoOk K H μ S) {H1 : Hp} (e : Ext μ S H H1) {a : Addr} {vs : List V} (h : FzL K H a vs) : FzL K H1 a vs := h.mono (ok.keeps e)
theorem tp_ext (ok : StoOk K H μ S) {H1 : Hp} (e : Ext μ S H H1) {a : Addr} {vs : List V} (h : TpT K H a vs) : TpT K H1 a vs := h.mono (ok.keeps e)
/-- two readings of one list object: known data alone -/
theorem yl_list (ok : StoOk K H μ S) {a : Addr} {vs : List V} {xs : List PyData} (h : FzL K H a vs) (l : RepL K H xs vs) : Yields K μ S H (Itl K a) xs := by
  intro H1 e i
  have h1 := (fz_ext ok e h).sq
  refine ⟨fun x hx => ?_, fun hx => ?_⟩
  · obtain ⟨v, hv, rv⟩ := l.get hx
    refine ⟨⟨vs, v, h1, hv⟩, fun u H2 y => ?_⟩
    obtain ⟨e2, y⟩ := y
    subst e2
    have hu := y vs h1
    rw [hv] at hu; cases hu
    exact ⟨fun _ _ e => e, rv.mono (ok.keeps e)⟩
  · exact ⟨vs, h1, by rw [← l.length]; exact List.getElem?_eq_none_iff.mp hx⟩
theorem yl_tup (ok : StoOk K H μ S) {a : Addr} {vs : List V} {xs : List PyData} (h : TpT K H a vs) (l : RepL K H xs vs) : Yields K μ S H (Itt K a) xs := by
  intro H1 e i
  have h1 := (tp_ext ok e h).sq
  refine ⟨fun x hx => ?_, fun hx => ?_⟩
  · obtain ⟨v, hv, rv⟩ := l.get hx
    refine ⟨⟨vs, v, h1, hv⟩, fun u H2 y => ?_⟩
    obtain ⟨e2, y⟩ := y
    subst e2
    have hu := y vs h1
    rw [hv] at hu; cases hu
    exact ⟨fun _ _ e => e, rv.mono (ok.keeps e)⟩
  · exact ⟨vs, h1, by rw [← l.length]; exact List.getElem?_eq_none_iff.mp hx⟩
/-- lo, lo + 1, .. -/
def rangeD (lo : Int) (n : Nat) : List PyData := (List.range n).map fun i => PyData.int (lo + (i : Nat))
theorem yl_range {lo : Int} {n : Nat} : Yields K μ S H (Itr lo n) (rangeD lo n) := by
  intro H1 e i
  have hl : (rangeD lo n)[i]? = if i < n then some (.int (lo + (i : Nat))) else none := by
    unfold rangeD
    rw [List.getElem?_map]
    split
    · rename_i h; rw [List.getElem?_range h]; rfl
    · rename_i h; rw [List.getElem?_eq_none (by simpa using h)]; rfl
  rw [hl]
  refine ⟨fun x hx => ?_, fun hx => ?_⟩
  · split at hx
    · rename_i hi
      cases hx
      refine ⟨hi, fun u H2 y => ?_⟩
      obtain ⟨e2, y⟩ := y
      subst e2 y
      exact ⟨fun _ _ e => e, .int _⟩
    · cases hx
  · split at hx
    · cases hx
    · rename_i hi; exact Nat.le_of_not_lt hi
def zipD : List PyData → List PyData → List PyData
  | x :: xs, y :: ys => .tuple [x, y] :: zipD xs ys
  | _, _ => []
theorem zipD_get : ∀ (xs ys : List PyData) (i : Nat), (zipD xs ys)[i]? = match xs[i]?, ys[i]? with
    | some x, some y => some (.tuple [x, y])
    | _, _ => none
  | [], _, _ => by simp [zipD]
  | x :: xs, [], i => by simp [zipD]
  | x :: xs, y :: ys, 0 => by simp [zipD]
  | x :: xs, y :: ys, i + 1 => by simpa [zipD] using zipD_get xs ys i
def zip3D : List PyData → List PyData → List PyData → List PyData
  | x :: xs, y :: ys, z :: zs => .tuple [x, y, z] :: zip3D xs ys zs
  | _, _, _ => []
theorem zip3D_get : ∀ (xs ys zs : List PyData) (i : Nat), (zip3D xs ys zs)[i]? = match xs[i]?, ys[i]?, zs[i]? with
    | some x, some y, some z => some (.tuple [x, y, z])
    | _, _, _ => none
  | [], _, _, _ => by simp [zip3D]
  | x :: xs, [], _, i => by simp [zip3D]
  | x :: xs, y :: ys, [], i => by simp [zip3D]
  | x :: xs, y :: ys, z :: zs, 0 => by simp [zip3D]
  | x :: xs, y :: ys, z :: zs, i + 1 => by simpa [zip3D] using zip3D_get xs ys zs i
theorem yl_zip3 (ok : StoOk K H μ S) {a b c : Addr} {vs us ws : List V} {xs ys zs : List PyData} (h : TpT K H a vs) (l : RepL K H xs vs) (g : TpT K H b us) (m : RepL K H ys us) (k : FzL K H c ws) (n : RepL K H zs ws) : Yields K μ S H (Itz3 K a b c) (zip3D xs ys zs) := by
  intro H1 e i
  have h1 := (tp_ext ok e h).sq
  have g1 := (tp_ext ok e g).sq
  have k1 := (fz_ext ok e k).sq
  rw [zip3D_get]
  refine ⟨fun z hz => ?_, fun hz => ?_⟩
  · split at hz
    · rename_i x y z hx hy hzz
      cases hz
      obtain ⟨v, hv, rv⟩ := l.get hx
      obtain ⟨u, hu, ru⟩ := m.get hy
      obtain ⟨t, ht, rt⟩ := n.get hzz
      refine ⟨⟨vs, us, ws, v, u, t, h1, g1, k1, hv, hu, ht⟩, fun w H2 y => ?_⟩
      obtain ⟨T, v', u', t', rfl, nT, rfl, f1, f2, f3⟩ := y
      have e1 := f1 vs h1
      have e2 := f2 us g1
      have e3 := f3 ws k1
      rw [hv] at e1; rw [hu] at e2; rw [ht] at e3
      cases e1; cases e2; cases e3
      have kp : Keeps H (upd H1 T (.tup [v, u, t])) := (ok.keeps e).trans fun a o e _ => same_new nT a o e
      exact ⟨same_new nT, .tup (.inl upd_same) (.cons (rv.mono kp) (.cons (ru.mono kp) (.cons (rt.mono kp) .nil)))⟩
    · cases hz
  · refine ⟨vs, us, ws, h1, g1, k1, ?_⟩
    rw [← l.length, ← m.length, ← n.length]
    cases hx : xs[i]? with
    | none => exact .inl (List.getElem?_eq_none_iff.mp hx)
    | some x =>
      cases hy : ys[i]? with
      | none => exact .inr (.inl (List.getElem?_eq_none_iff.mp hy))
      | some y =>
        cases hw : zs[i]? with
        | none => exact .inr (.inr (List.getElem?_eq_none_iff.mp hw))
        | some z => rw [hx, hy, hw] at hz; cases hz
theorem yl_zipT (ok : StoOk K H μ S) {a b : Addr} {vs us : List V} {xs ys : List PyData} (h : TpT K H a vs) (l : RepL K H xs vs) (g : TpT K H b us) (m : RepL K H ys us) : Yields K μ S H (ItzT K a b) (zipD xs ys) := by
  intro H1 e i
  have h1 := (tp_ext ok e h).sq
  have g1 := (tp_ext ok e g).sq
  rw [zipD_get]
  refine ⟨fun z hz => ?_, fun hz => ?_⟩
  · split at hz
    · rename_i x y hx hy
      cases hz
      obtain ⟨v, hv, rv⟩ := l.get hx
      obtain ⟨u, hu, ru⟩ := m.get hy
      refine ⟨⟨vs, us, v, u, h1, g1, hv, hu⟩, fun w H2 y => ?_⟩
      obtain ⟨T, v', u', rfl, nT, rfl, f1, f2⟩ := y
      have e1 := f1 vs h1
      have e2 := f2 us g1
      rw [hv] at e1; rw [hu] at e2
      cases e1; cases e2
      have kp : Keeps H (upd H1 T (.tup [v, u])) := (ok.keeps e).trans fun a o e _ => same_new nT a o e
      exact ⟨same_new nT, .tup (.inl upd_same) (.cons (rv.mono kp) (.cons (ru.mono kp) .nil))⟩
    · cases hz
  · refine ⟨vs, us, h1, g1, ?_⟩
    rw [← l.length, ← m.length]
    cases hx : xs[i]? with
    | none => exact .inl (List.getElem?_eq_none_iff.mp hx)
    | some x =>
      cases hy : ys[i]? with
      | none => exact .inr (List.getElem?_eq_none_iff.mp hy)
      | some y => rw [hx, hy] at hz; cases hz
theorem yl_zipL (ok : StoOk K H μ S) {a b : Addr} {vs us : List V} {xs ys : List PyData} (h : FzL K H a vs) (l : RepL K H xs vs) (g : FzL K H b us) (m : RepL K H ys us) : Yields K μ S H (Itz K a b) (zipD xs ys) := by
  intro H1 e i
  have h1 := (fz_ext ok e h).sq
  have g1 := (fz_ext ok e g).sq
  rw [zipD_get]
  refine ⟨fun z hz => ?_, fun hz => ?_⟩
  · split at hz
    · rename_i x y hx hy
      cases hz
      obtain ⟨v, hv, rv⟩ := l.get hx
      obtain ⟨u, hu, ru⟩ := m.get hy
      refine ⟨⟨vs, us, v, u, h1, g1, hv, hu⟩, fun w H2 y => ?_⟩
      obtain ⟨T, v', u', rfl, nT, rfl, f1, f2⟩ := y
      have e1 := f1 vs h1
      have e2 := f2 us g1
      rw [hv] at e1; rw [hu] at e2
      cases e1; cases e2
      have kp : Keeps H (upd H1 T (.tup [v, u])) := (ok.keeps e).trans fun a o e _ => same_new nT a o e
      exact ⟨same_new nT, .tup (.inl upd_same) (.cons (rv.mono kp) (.cons (ru.mono kp) .nil))⟩
    · cases hz
  · refine ⟨vs, us, h1, g1, ?_⟩
    rw [← l.length, ← m.length]
    cases hx : xs[i]? with
    | none => exact .inl (List.getElem?_eq_none_iff.mp hx)
    | some x =>
      cases hy : ys[i]? with
      | none => exact .inr (List.getElem?_eq_none_iff.mp hy)
      | some y => rw [hx, hy] at hz; cases hz
def enumD (n : Nat) : List PyData → List PyData
  | x :: xs => .tuple [.int (n : Nat), x] :: enumD (n + 1) xs
  | [] => []
theorem enumD_get : ∀ (xs : List PyData) (n i : Nat), (enumD n xs)[i]? = match xs[i]? with
    | some x => some (.tuple [.int ((n + i : Nat) : Nat), x])
    | _ => none
  | [], _, _ => by simp [enumD]
  | x :: xs, n, 0 => by simp [enumD]
  | x :: xs, n, i + 1 => by
    have := enumD_get xs (n + 1) i
    rw [show n + 1 + i = n + (i + 1) by omega] at this
    simpa [enumD] using this
theorem yl_enum (ok : StoOk K H μ S) {a : Addr} {vs : List V} {xs : List PyData} (h : FzL K H a vs) (l : RepL K H xs vs) : Yields K μ S H (Ite K a) (enumD 0 xs) := by
  intro H1 e i
  have h1 := (fz_ext ok e h).sq
  rw [enumD_get]
  refine ⟨fun z hz => ?_, fun hz => ?_⟩
  · split at hz
    · rename_i x hx
      cases hz
      obtain ⟨v, hv, rv⟩ := l.get hx
      refine ⟨⟨vs, v, h1, hv⟩, fun w H2 y => ?_⟩
      obtain ⟨T, v', rfl, nT, rfl, f1⟩ := y
      have e1 := f1 vs h1
      rw [hv] at e1
      cases e1
      have kp : Keeps H (upd H1 T (.tup [.int (i : Nat), v])) := (ok.keeps e).trans fun a o e _ => same_new nT a o e
      refine ⟨same_new nT, .tup (.inl upd_same) (.cons ?_ (.cons (rv.mono kp) .nil))⟩
      rw [Nat.zero_add]; exact .int _
    · cases hz
  · refine ⟨vs, h1, ?_⟩
    rw [← l.length]
    cases hx : xs[i]? with
    | none => exact List.getElem?_eq_none_iff.mp hx
    | some x => rw [hx] at hz; cases hz
theorem yl_enumT (ok : StoOk K H μ S) {a : Addr} {vs : List V} {xs : List PyData} (h : TpT K H a vs) (l : RepL K H xs vs) : Yields K μ S H (IteT K a) (enumD 0 xs) := by
  intro H1 e i
  have h1 := (tp_ext ok e h).sq
  rw [enumD_get]
  refine ⟨fun z hz => ?_, fun hz => ?_⟩
  · split at hz
    · rename_i x hx
      cases hz
      obtain ⟨v, hv, rv⟩ := l.get hx
      refine ⟨⟨vs, v, h1, hv⟩, fun w H2 y => ?_⟩
      obtain ⟨T, v', rfl, nT, rfl, f1⟩ := y
      have e1 := f1 vs h1
      rw [hv] at e1
      cases e1
      have kp : Keeps H (upd H1 T (.tup [.int (i : Nat), v])) := (ok.keeps e).trans fun a o e _ => same_new nT a o e
      refine ⟨same_new nT, .tup (.inl upd_same) (.cons ?_ (.cons (rv.mono kp) .nil))⟩
      rw [Nat.zero_add]; exact .int _
    · cases hz
  · refine ⟨vs, h1, ?_⟩
    rw [← l.length]
    cases hx : xs[i]? with
    | none => exact List.getElem?_eq_none_iff.mp hx
    | some x => rw [hx] at hz; cases hz
end

section
variable {X : Cx} {tg a b : Expr} {ma mb : CE} {pos p : Pos}
/-- a list or a tuple, walked -/
theorem pi_seq {t : TE} (h : PE X a t) : PI X tg a (fun σ H R => t σ H fun x H1 => ∃ c, x = .ref c ∧ (((∃ xs, SqL X.K H1 c xs) ∧ R (Itl X.K c) H1) ∨ ((∃ xs, SqT X.K H1 c xs) ∧ R (Itt X.K c) H1))) := by
  constructor
  intro pins s0 σ H R I0 hw
  apply thn (h.run pins s0 σ H _ I0 hw)
  rintro v s ⟨x, H1, I, r, c, rfl, q⟩
  cases r
  have new : ∀ o : Obj, FpOk X pins H1 s.heap.objs.size ∧ Inv X pins σ H1 { s with heap := s.heap.push o } := fun o =>
    ⟨I.fpOk (Nat.le_refl _) (I.hok.fresh (Nat.le_refl _)), I.kept (t' := s.toks) fun b ob z => Heap.get?_push_of_some _ z⟩
  have one : ∀ b ∈ [s.heap.objs.size], FpOk X pins H1 b := fun b z => by
    rw [List.mem_singleton.mp z]; exact (new default).1
  rcases q with ⟨⟨xs, hx⟩, q⟩ | ⟨⟨xs, hx⟩, q⟩
  · obtain ⟨its, _, pl, _⟩ := I.list hx
    exact wpAny_pyIter_list pl.isList ⟨_, [s.heap.objs.size], _, _, H1, rfl, (new _).2, turn_list c _, ⟨_, Heap.get?_push_size _ rfl, rfl, rfl⟩, one, q⟩
  · obtain ⟨its, _, pl, _⟩ := I.tuple hx
    exact wpAny_pyIter_tuple (show s.heap.IsTuple c its.toArray from pl) ⟨_, [s.heap.objs.size], _, _, H1, rfl, (new _).2, turn_tuple c _, ⟨_, Heap.get?_push_size _ rfl, rfl, rfl⟩, one, q⟩
def seqI (a : CE) : CI := fun ρ S => (a ρ S).bind fun p => match p.1 with
  | .d (.list xs) => some (xs, p.2)
  | .d (.tuple xs) => some (xs, p.2)
  | _ => none
theorem si_seq (h : SE X a ma) : SI X tg a (seqI ma) := PI.imp (pi_seq h) fun σ H R ⟨μ, S, ρ, xs, S', ok, en, e, q⟩ => by
  unfold seqI at e
  cases hx : ma ρ S with
  | none => rw [hx] at e; cases e
  | some p =>
    obtain ⟨w1, S1⟩ := p
    rw [hx, Option.bind_some] at e
    refine ⟨μ, S, ρ, w1, S1, ok, en, hx, fun v H1 μ1 st r => ?_⟩
    simp only at e
    split at e
    · cases e
      cases r with | d r =>
      cases r with | lst h1 l1 => exact ⟨_, rfl, .inl ⟨⟨_, h1.sq⟩, q _ H1 μ1 st (yl_list st.sto h1 l1)⟩⟩
    · cases e
      cases r with | d r =>
      cases r with | tup h1 l1 => exact ⟨_, rfl, .inr ⟨⟨_, h1.sq⟩, q _ H1 μ1 st (yl_tup st.sto h1 l1)⟩⟩
    · cases e
/-- an end of a range; told by a short number, for a kernel that would count down from a great one -/
def okR (j : Int) : Bool := decide (j.natAbs.log2 < 62)
theorem okR_lt {j : Int} (h : okR j = true) : -(2 ^ 62) ≤ j ∧ j < 2 ^ 62 := by
  unfold okR at h
  have h1 := of_decide_eq_true h
  have h2 : j.natAbs < 2 ^ 62 := by
    by_cases h0 : j.natAbs = 0
    · rw [h0]; decide
    · exact (Nat.log2_lt h0).mp h1
  omega
theorem okR_nat {n : Nat} (h : n < 1000000) : okR n = true := by
  unfold okR
  rw [Int.natAbs_natCast]
  refine decide_eq_true ?_
  by_cases h0 : n = 0
  · subst h0; decide
  · exact (Nat.log2_lt h0).mpr (by omega)
def range1I (a : CE) : CI := fun ρ S => (a ρ S).bind fun p => (asInt p.1).bind fun j => if okR j = true then some (rangeD 0 j.toNat, p.2) else none
def range2I (a b : CE) : CI := fun ρ S => (a ρ S).bind fun p => (b ρ p.2).bind fun z => (asInt p.1).bind fun i => (asInt z.1).bind fun j =>
  if (okR i && okR j) = true then some (rangeD i (j - i).toNat, z.2) else none
theorem asInt_of {K : PySem.W.Frag} {H : Hp} {μ : List Addr} {w : W} {v : V} {i : Int} (r : WRep K H μ w v) (h : asInt w = some i) : v = .int i := by
  unfold asInt at h
  split at h
  · cases h
    cases r with | d r => cases r; rfl
  · cases h
theorem si_range1 (h : SE X a ma) (hg : Gl X "range") (hm : X.mg "range" = none) (hs : starEach [a] X.env = [(false, eval a X.env)]) : SI X tg (.Call (.Name "range" p) [a] [] pos) (range1I ma) :=
  PI.imp (pi_range1 hg hm (pa_cons h pa_nil hs) hs) fun σ H R ⟨μ, S, ρ, xs, S', ok, en, e, q⟩ => by
    unfold range1I at e
    cases hx : ma ρ S with
    | none => rw [hx] at e; cases e
    | some p =>
      obtain ⟨w1, S1⟩ := p
      rw [hx, Option.bind_some] at e
      cases hi : asInt w1 with
      | none => simp only [hi] at e; cases e
      | some j =>
        simp only [hi, Option.bind_some] at e
        split at e
        · rename_i hz
          have hz := okR_lt hz
          cases e
          exact ⟨μ, S, ρ, w1, _, ok, en, hx, fun v H1 μ1 st r => ⟨j, by rw [asInt_of r hi], hz.1, hz.2, q _ H1 μ1 st yl_range⟩⟩
        · cases e
theorem si_range2 (h : SE X a ma) (h2 : SE X b mb) (hg : Gl X "range") (hm : X.mg "range" = none) (hs : starEach [a, b] X.env = [(false, eval a X.env), (false, eval b X.env)]) (hs2 : starEach [b] X.env = [(false, eval b X.env)]) :
    SI X tg (.Call (.Name "range" p) [a, b] [] pos) (range2I ma mb) :=
  PI.imp (pi_range2 hg hm (pa_cons h (pa_cons h2 pa_nil hs2) (by rw [hs, hs2])) hs hs2) fun σ H R ⟨μ, S, ρ, xs, S', ok, en, e, q⟩ => by
    unfold range2I at e
    cases hx : ma ρ S with
    | none => rw [hx] at e; cases e
    | some p =>
      obtain ⟨w1, S1⟩ := p
      rw [hx, Option.bind_some] at e
      cases hy : mb ρ S1 with
      | none => simp only [hy] at e; cases e
      | some p2 =>
        obtain ⟨w2, S2⟩ := p2
        simp only [hy, Option.bind_some] at e
        cases hi : asInt w1 with
        | none => simp only [hi] at e; cases e
        | some i =>
          cases hj : asInt w2 with
          | none => simp only [hi, hj, Option.bind_some] at e; cases e
          | some j =>
            simp only [hi, hj, Option.bind_some] at e
            split at e
            · rename_i hz
              have hz : (-(2 ^ 62) ≤ i ∧ i < 2 ^ 62 ∧ -(2 ^ 62) ≤ j ∧ j < 2 ^ 62) := by
                rw [Bool.and_eq_true] at hz
                exact ⟨(okR_lt hz.1).1, (okR_lt hz.1).2, (okR_lt hz.2).1, (okR_lt hz.2).2⟩
              cases e
              exact ⟨μ, S, ρ, w1, _, ok, en, hx, fun v H1 μ1 st r => ⟨μ1, S1, ρ, w2, _, st.sto, en.step ok st, hy, fun u H2 μ2 st2 r2 => ⟨i, j, by rw [asInt_of r hi, asInt_of r2 hj], hz, q _ H2 μ2 (st.trans ok st2) yl_range⟩⟩⟩
            · cases e
def zipI (a b : CE) : CI := fun ρ S => (a ρ S).bind fun p => (b ρ p.2).bind fun z => match p.1, z.1 with
  | .d (.list xs), .d (.list ys) => some (zipD xs ys, z.2)
  | .d (.tuple xs), .d (.tuple ys) => some (zipD xs ys, z.2)
  | _, _ => none
theorem si_zip {elts : List Expr} {kk : Nat} {tpos : Pos} (h : SE X a ma) (h2 : SE X b mb) (hg : Gl X "zip") (hm : X.mg "zip" = none) (hs : starEach [a, b] X.env = (false, eval a X.env) :: starEach [b] X.env) (hs2 : starEach [b] X.env = [(false, eval b X.env)]) :
    SI X (.Tuple elts kk tpos) (.Call (.Name "zip" p) [a, b] [] pos) (zipI ma mb) :=
  PI.imp (pi_zipA hg hm (pa_cons h (pa_cons h2 pa_nil hs2) hs) hs (by rw [hs2]; rfl)) fun σ H R ⟨μ, S, ρ, xs, S', ok, en, e, q⟩ => by
    unfold zipI at e
    cases hx : ma ρ S with
    | none => rw [hx] at e; cases e
    | some p =>
      obtain ⟨w1, S1⟩ := p
      rw [hx, Option.bind_some] at e
      cases hy : mb ρ S1 with
      | none => simp only [hy] at e; cases e
      | some p2 =>
        obtain ⟨w2, S2⟩ := p2
        simp only [hy, Option.bind_some] at e
        refine ⟨μ, S, ρ, w1, _, ok, en, hx, fun v H1 μ1 st r => ⟨μ1, S1, ρ, w2, _, st.sto, en.step ok st, hy, fun u H2 μ2 st2 r2 => ?_⟩⟩
        have k2 := st2.keeps st.sto
        split at e
        · cases e
          cases r with | d r =>
          cases r with | lst ha la =>
          cases r2 with | d r2 =>
          cases r2 with | lst hb lb =>
          exact ⟨_, _, _, _, rfl, .inl ⟨(ha.mono k2).sq, hb.sq, q _ H2 μ2 (st.trans ok st2) (yl_zipL st2.sto (ha.mono k2) (la.mono k2) hb lb)⟩⟩
        · cases e
          cases r with | d r =>
          cases r with | tup ha la =>
          cases r2 with | d r2 =>
          cases r2 with | tup hb lb =>
          exact ⟨_, _, _, _, rfl, .inr ⟨(ha.mono k2).sq, hb.sq, q _ H2 μ2 (st.trans ok st2) (yl_zipT st2.sto (ha.mono k2) (la.mono k2) hb lb)⟩⟩
        · cases e
def zip3I (a b c : CE) : CI := fun ρ S => (a ρ S).bind fun p => (b ρ p.2).bind fun z => (c ρ z.2).bind fun y => match p.1, z.1, y.1 with
  | .d (.tuple xs), .d (.tuple ys), .d (.list zs) => some (zip3D xs ys zs, y.2)
  | _, _, _ => none
theorem si_zip3 {elts : List Expr} {kk : Nat} {tpos : Pos} {c : Expr} {mc : CE} (h : SE X a ma) (h2 : SE X b mb) (h3 : SE X c mc) (hg : Gl X "zip") (hm : X.mg "zip" = none) (hs : starEach [a, b, c] X.env = (false, eval a X.env) :: starEach [b, c] X.env) (hs2 : starEach [b, c] X.env = (false, eval b X.env) :: starEach [c] X.env) (hs3 : starEach [c] X.env = [(false, eval c X.env)]) :
    SI X (.Tuple elts kk tpos) (.Call (.Name "zip" p) [a, b, c] [] pos) (zip3I ma mb mc) :=
  PI.imp (pi_zip3 hg hm (pa_cons h (pa_cons h2 (pa_cons h3 pa_nil hs3) hs2) hs) hs (by rw [hs2, hs3]; rfl)) fun σ H R ⟨μ, S, ρ, xs, S', ok, en, e, q⟩ => by
    unfold zip3I at e
    cases hx : ma ρ S with
    | none => rw [hx] at e; cases e
    | some p =>
      obtain ⟨w1, S1⟩ := p
      rw [hx, Option.bind_some] at e
      cases hy : mb ρ S1 with
      | none => simp only [hy] at e; cases e
      | some p2 =>
        obtain ⟨w2, S2⟩ := p2
        simp only [hy, Option.bind_some] at e
        cases hz : mc ρ S2 with
        | none => simp only [hz] at e; cases e
        | some p3 =>
          obtain ⟨w3, S3⟩ := p3
          simp only [hz, Option.bind_some] at e
          refine ⟨μ, S, ρ, w1, _, ok, en, hx, fun v H1 μ1 st r => ⟨μ1, S1, ρ, w2, _, st.sto, en.step ok st, hy, fun u H2 μ2 st2 r2 => ⟨μ2, S2, ρ, w3, _, st2.sto, (en.step ok st).step st.sto st2, hz, fun t H3 μ3 st3 r3 => ?_⟩⟩⟩
          have k2 := st2.keeps st.sto
          have k3 := st3.keeps st2.sto
          split at e
          · cases e
            cases r with | d r =>
            cases r with | tup ha la =>
            cases r2 with | d r2 =>
            cases r2 with | tup hb lb =>
            cases r3 with | d r3 =>
            cases r3 with | lst hc lc =>
            have ha' := (ha.mono k2).mono k3
            have la' := (la.mono k2).mono k3
            have hb' := hb.mono k3
            have lb' := lb.mono k3
            exact ⟨_, _, _, _, _, _, rfl, ha'.sq, hb'.sq, hc.sq, q _ H3 μ3 ((st.trans ok st2).trans ok st3) (yl_zip3 st3.sto ha' la' hb' lb' hc lc)⟩
          · cases e
def enumI (a : CE) : CI := fun ρ S => (a ρ S).bind fun p => match p.1 with
  | .d (.list xs) => some (enumD 0 xs, p.2)
  | .d (.tuple xs) => some (enumD 0 xs, p.2)
  | _ => none
theorem si_enum {elts : List Expr} {kk : Nat} {tpos : Pos} (h : SE X a ma) (hg : Gl X "enumerate") (hm : X.mg "enumerate" = none) (hs : starEach [a] X.env = [(false, eval a X.env)]) :
    SI X (.Tuple elts kk tpos) (.Call (.Name "enumerate" p) [a] [] pos) (enumI ma) :=
  PI.imp (pi_enumA hg hm (pa_cons h pa_nil hs) hs) fun σ H R ⟨μ, S, ρ, xs, S', ok, en, e, q⟩ => by
    unfold enumI at e
    cases hx : ma ρ S with
    | none => rw [hx] at e; cases e
    | some p =>
      obtain ⟨w1, S1⟩ := p
      rw [hx, Option.bind_some] at e
      refine ⟨μ, S, ρ, w1, S1, ok, en, hx, fun v H1 μ1 st r => ?_⟩
      simp only at e
      split at e
      · cases e
        cases r with | d r =>
        cases r with | lst h1 l1 => exact ⟨_, _, rfl, .inl ⟨h1.sq, q _ H1 μ1 st (yl_enum st.sto h1 l1)⟩⟩
      · cases e
        cases r with | d r =>
        cases r with | tup h1 l1 => exact ⟨_, _, rfl, .inr ⟨h1.sq, q _ H1 μ1 st (yl_enumT st.sto h1 l1)⟩⟩
      · cases e
end

/-! ### targets -/
abbrev CG := W → Rho → Sto → Option (Rho × Sto)
abbrev CGs := List PyData → Rho → Sto → Option (Rho × Sto)
/-- nothing but these slots is another -/
def Only (vs : List Nat) (σ σ' : L2.St) : Prop := σ'.length = σ.length ∧ ∀ i, i ∉ vs → σ'[i]? = σ[i]?
theorem Only.refl {vs : List Nat} {σ : L2.St} : Only vs σ σ := ⟨rfl, fun _ _ => rfl⟩
theorem Only.trans {vs ws : List Nat} {σ σ1 σ2 : L2.St} (h : Only vs σ σ1) (g : Only ws σ1 σ2) : Only (vs ++ ws) σ σ2 := ⟨g.1.trans h.1, fun i n => by
  rw [List.mem_append, not_or] at n
  exact (g.2 i n.2).trans (h.2 i n.1)⟩
theorem wipe_at {σ : L2.St} {i : Nat} : ∀ {vs : List Nat}, i ∈ vs → i < σ.length → (L2.wipe σ vs)[i]? = some none
  | v :: vs, h, hi => by
    unfold L2.wipe
    by_cases hv : v = i
    · subst hv
      rw [List.getElem?_set_self (by rw [L2.wipe_length]; exact hi)]
    · rw [List.getElem?_set_ne hv]
      exact wipe_at ((List.mem_cons.mp h).resolve_left fun z => hv z.symm) hi
theorem Only.wipe {vs own : List Nat} {σ σ' : L2.St} (h : Only vs (L2.wipe σ own) σ') (hs : ∀ i ∈ vs, i ∈ own) : L2.wipe σ' own = L2.wipe σ own := by
  have hl : σ'.length = σ.length := h.1.trans (L2.wipe_length _ _)
  refine List.ext_getElem? fun i => ?_
  by_cases hi : i < σ.length
  · by_cases ho : i ∈ own
    · rw [wipe_at ho (by rw [hl]; exact hi), wipe_at ho hi]
    · rw [L2.wipe_out ho]
      exact h.2 i fun z => ho (hs i z)
  · rw [List.getElem?_eq_none (by rw [L2.wipe_length, hl]; omega), List.getElem?_eq_none (by rw [L2.wipe_length]; omega)]
def rdG (K : PySem.W.Frag) (g : CG) (vs : List Nat) : TG := fun v σ H Q => ∃ μ S ρ w ρ' S', StoOk K H μ S ∧ EnvOk K H μ ρ σ ∧ WRep K H μ w v ∧ g w ρ S = some (ρ', S') ∧ ∀ σ' H' μ', Stp K μ S H μ' S' H' → EnvOk K H' μ' ρ' σ' → Only vs σ σ' → Q σ' H'
def rdGs (K : PySem.W.Frag) (g : CGs) (vs : List Nat) : TGs := fun us σ H Q => ∃ μ S ρ xs ρ' S', StoOk K H μ S ∧ EnvOk K H μ ρ σ ∧ RepL K H xs us ∧ g xs ρ S = some (ρ', S') ∧ ∀ σ' H' μ', Stp K μ S H μ' S' H' → EnvOk K H' μ' ρ' σ' → Only vs σ σ' → Q σ' H'
abbrev SG (X : Cx) (tg : Expr) (g : CG) (vs : List Nat) : Prop := PG X tg (rdG X.K g vs)
abbrev SGs (X : Cx) (tg : List Expr) (g : CGs) (vs : List Nat) : Prop := PGs X tg (rdGs X.K g vs)
theorem PG.imp {X : Cx} {tg : Expr} {t t' : TG} (h : PG X tg t) (i : ∀ v σ H Q, t' v σ H Q → t v σ H Q) : PG X tg t' := ⟨fun pins s σ H v u Q I r q => h.run pins s σ H v u Q I r (i v σ H Q q)⟩
theorem PGs.imp {X : Cx} {tg : List Expr} {t t' : TGs} (h : PGs X tg t) (i : ∀ v σ H Q, t' v σ H Q → t v σ H Q) : PGs X tg t' := ⟨fun pins s σ H v u Q I r q => h.run pins s σ H v u Q I r (i v σ H Q q)⟩
def nameG (i : Nat) : CG := fun w ρ S => some (ρ.set i (some w), S)
def nilG : CGs := fun xs ρ S => match xs with
  | [] => some (ρ, S)
  | _ => none
def consG (g : CG) (r : CGs) : CGs := fun xs ρ S => match xs with
  | [] => none
  | x :: xs => (g (.d x) ρ S).bind fun p => r xs p.1 p.2
def tupG (n : Nat) (g : CGs) : CG := fun w ρ S => match w with
  | .d (.tuple xs) => if xs.length = n then g xs ρ S else none
  | _ => none
/-- a[i] = .., a list in a cell -/
def subG (a i : CE) : CG := fun w ρ S => (a ρ S).bind fun p => (i ρ p.2).bind fun q => match w, p.1, asInt q.1 with
  | .d x, .m n, some k => match q.2[n]? with
    | some (some xs) => (ixN xs.length k).bind fun j => some (ρ, q.2.set n (some (xs.set j x)))
    | _ => none
  | _, _, _ => none
section
variable {X : Cx} {e a b : Expr} {es : List Expr} {ma mb : CE} {pos : Pos} {g : CG} {r : CGs} {vs ws : List Nat}
theorem sg_name {i : Nat} {x : Str} (hN : X.N.Nodup) (hi : X.N[i]? = some x) (hx : Loc X.env.scope x) (hf : X.fn x = true ∨ X.env.scope.names.lookup x = some .local) : SG X (.Name x pos) (nameG i) [i] :=
  PG.imp (pg_name hN hi hx hf) fun v σ H Q ⟨μ, S, ρ, w, ρ', S', ok, en, rw, e, q⟩ => by
    cases e
    refine q _ H μ (.refl ok) (en.set i rw) ⟨by simp, fun j hj => ?_⟩
    rw [List.getElem?_set_ne]
    exact fun z => hj (by simp [z])
theorem sgs_nil : SGs X [] nilG [] := PGs.imp pgs_nil fun v σ H Q ⟨μ, S, ρ, xs, ρ', S', ok, en, l, e, q⟩ => by
  unfold nilG at e
  split at e
  · cases e; cases l; exact ⟨rfl, q σ H μ (.refl ok) en .refl⟩
  · cases e
theorem sgs_cons (h1 : SG X e g vs) (h2 : SGs X es r ws) (hs : (assignEach (e :: es) X.env).map (·.2) = assign e X.env :: (assignEach es X.env).map (·.2)) : SGs X (e :: es) (consG g r) (vs ++ ws) :=
  PGs.imp (pgs_cons h1 h2 hs) fun v σ H Q ⟨μ, S, ρ, xs, ρ', S', ok, en, l, e, q⟩ => by
    unfold consG at e
    split at e
    · cases e
    · rename_i x xs
      cases l with | cons r1 l1 =>
      cases hg : g (.d x) ρ S with
      | none => rw [hg] at e; cases e
      | some p =>
        obtain ⟨ρ1, S1⟩ := p
        rw [hg, Option.bind_some] at e
        refine ⟨_, _, rfl, μ, S, ρ, _, ρ1, S1, ok, en, .d r1, hg, fun σ1 H1 μ1 st1 en1 o1 => ?_⟩
        exact ⟨μ1, S1, ρ1, xs, ρ', S', st1.sto, en1, l1.mono (st1.keeps ok), e, fun σ' H' μ' st2 en2 o2 => q σ' H' μ' (st1.trans ok st2) en2 (o1.trans o2)⟩
theorem sg_tup {n k : Nat} (hc : X.calm = true) (h : SGs X es r vs) (hn : (assignEach es X.env).length = n) (hst : (assignEach es X.env).findIdx? (·.1) = none) : SG X (.Tuple es k pos) (tupG n r) vs :=
  PG.imp (pg_tup hc h hn hst) fun v σ H Q ⟨μ, S, ρ, w, ρ', S', ok, en, rw, e, q⟩ => by
    unfold tupG at e
    split at e
    · rename_i xs
      split at e
      · rename_i hl
        cases rw with | d rw =>
        cases rw with | tup h1 l1 =>
        exact ⟨_, _, rfl, h1.sq, by rw [← l1.length]; exact hl, μ, S, ρ, xs, ρ', S', ok, en, l1, e, q⟩
      · cases e
    · cases e
theorem sg_sub (ha : SE X a ma) (hb : SE X b mb) (hs : isSlice b = false) : SG X (.Subscript a b pos) (subG ma mb) [] := by
  refine PG.imp (pg_sub ha hb set_list ?_) fun v σ H Q ⟨μ, S, ρ, w, ρ', S', ok, en, rw, e, q⟩ => ?_
  · intro v
    cases b <;> first | rfl | cases hs
  · unfold subG at e
    cases h1 : ma ρ S with
    | none => rw [h1] at e; cases e
    | some p =>
      obtain ⟨w1, S1⟩ := p
      rw [h1, Option.bind_some] at e
      cases h2 : mb ρ S1 with
      | none => simp only [h2] at e; cases e
      | some p2 =>
        obtain ⟨w2, S2⟩ := p2
        simp only [h2, Option.bind_some] at e
        refine ⟨μ, S, ρ, w1, S1, ok, en, h1, fun v1 H1 μ1 st1 r1 => ⟨μ1, S1, ρ, w2, S2, st1.sto, en.step ok st1, h2, fun v2 H2 μ2 st2 r2 => ?_⟩⟩
        have st12 := st1.trans ok st2
        have k12 := st12.keeps ok
        split at e
        · rename_i x n k hk
          split at e
          · rename_i xs hxs
            cases hj : ixN xs.length k with
            | none => rw [hj] at e; cases e
            | some j =>
              rw [hj, Option.bind_some] at e
              cases e
              cases r1 with | @m _ c1 hm =>
              obtain ⟨c, vs, hc, hH, hl⟩ := st2.sto.cell n xs hxs
              have hm2 : μ2[n]? = some c1 := by
                obtain ⟨r, hr⟩ := st2.pre
                rw [← hr, List.getElem?_append_left (List.getElem?_eq_some_iff.mp hm).1]; exact hm
              rw [hm2] at hc; cases hc
              have rx : Rep X.K H2 x v := by cases rw with | d rw => exact rw.mono k12
              refine ⟨_, vs, k, j, rfl, asInt_of r2 hk, hH, by rw [← hl.length]; exact hj, ?_⟩
              have st3 := Stp.put st2.sto hxs hm2 hH (hl.set j rx)
              exact q σ _ μ2 (st12.trans ok st3) (en.step ok (st12.trans ok st3)) .refl
          · cases e
        · cases e
end

/-! ### statements -/
inductive Fl where
  | nx | bk | ct
  | rt (w : W)
  /-- an exception of a class of the program leaves: its class's name, its fields -/
  | ex (n : Str) (as : List (Str × PyData))
abbrev CS := Rho → Sto → Option (Fl × Rho × Sto)
/-- the fields of an exception, in its own dict -/
inductive Flds (K : PySem.W.Frag) (H : Hp) : List (Str × PyData) → List (Str × V) → Prop
  | nil : Flds K H [] []
  | cons {f : Str} {x : PyData} {v : V} {as : List (Str × PyData)} {fs : List (Str × V)} : Rep K H x v → Flds K H as fs → Flds K H ((f, x) :: as) ((f, v) :: fs)
/-- an exception: its class, its own dict (none: it has none) -/
def ExRep (K : PySem.W.Frag) (mg : Str → Option Value) (H : Hp) (n : Str) (as : List (Str × PyData)) (cls : Value) (d : Option Addr) : Prop :=
  ∃ C, mg n = some (.ref C) ∧ cls = .ref C ∧ ((as = [] ∧ d = none) ∨ ∃ dd fs, d = some dd ∧ H dd = some (.xd fs) ∧ Flds K H as fs)
/-- what X wants of an exception, told by its class, its dict, the slots and the heap -/
def WOf (X : Cx) : WX := fun cls d σ H => ∀ u s', XE X (fun c' d' σ' H' => c' = cls ∧ d' = d ∧ σ' = σ ∧ H' = H) u s' → X.xe u s'
theorem takes_WOf (X : Cx) : Takes X (WOf X) := fun u s' ⟨a, B, sI, pins, σ, H, cls, d, e, I, nb, up, sky, na, os, ag, w⟩ =>
  w u s' ⟨a, B, sI, pins, σ, H, cls, d, e, I, nb, up, sky, na, os, ag, rfl, rfl, rfl, rfl⟩
theorem WOf_of {X : Cx} {W : WX} (tk : Takes X W) {cls : Value} {d : Option Addr} {σ : L2.St} {H : Hp} (h : W cls d σ H) : WOf X cls d σ H := fun u s' x =>
  tk u s' (let ⟨a, B, sI, pins, σ1, H1, c1, d1, e, I, nb, up, sky, na, os, ag, e1, e2, e3, e4⟩ := x
    ⟨a, B, sI, pins, σ1, H1, c1, d1, e, I, nb, up, sky, na, os, ag, by rw [e1, e2, e3, e4]; exact h⟩)
def Goes (X : Cx) (D : Ends) (μ : List Addr) (σ : L2.St) (H : Hp) : Fl → Prop
  | .nx => D.nx σ H
  | .bk => D.bk σ H
  | .ct => D.ct σ H
  | .rt w => ∀ v, WRep X.K H μ w v → D.rt v H
  | .ex n as => ∀ cls d, ExRep X.K X.mg H n as cls d → WOf X cls d σ H
def rdS (X : Cx) (m : CS) : TS := fun D σ H => ∃ μ S ρ fl ρ' S', StoOk X.K H μ S ∧ EnvOk X.K H μ ρ σ ∧ m ρ S = some (fl, ρ', S') ∧ ∀ σ' H' μ', Stp X.K μ S H μ' S' H' → EnvOk X.K H' μ' ρ' σ' → Goes X D μ' σ' H' fl
abbrev SS (X : Cx) (st : Stmt) (m : CS) : Prop := PS X st (rdS X m)
abbrev SSs (X : Cx) (st : List Stmt) (m : CS) : Prop := PSs X st (rdS X m)
def nilS : CS := fun ρ S => some (.nx, ρ, S)
def seqS (a b : CS) : CS := fun ρ S => (a ρ S).bind fun p => match p.1 with
  | .nx => b p.2.1 p.2.2
  | f => some (f, p.2.1, p.2.2)
def brkS : CS := fun ρ S => some (.bk, ρ, S)
def cntS : CS := fun ρ S => some (.ct, ρ, S)
def stuckS : CS := fun _ _ => none
def exprS (a : CE) : CS := fun ρ S => (a ρ S).bind fun p => some (.nx, ρ, p.2)
def ifS (t : CB) (a b : CS) : CS := fun ρ S => (t ρ S).bind fun p => if p.1 = true then a ρ p.2 else b ρ p.2
def asgS (a : CE) (g : CG) : CS := fun ρ S => (a ρ S).bind fun p => (g p.1 ρ p.2).bind fun q => some (.nx, q.1, q.2)
/-- a list in a cell that is handed back becomes plain data -/
def thaw (keep : Bool) : W → Sto → Option (W × Sto)
  | .d x, S => some (.d x, S)
  | .m n, S => if keep = true then some (.m n, S) else match S[n]? with
    | some (some xs) => some (.d (.list xs), S.set n none)
    | _ => none
/-- a list in a cell that goes into a display becomes plain data -/
def frzE (a : CE) : CE := fun ρ S => (a ρ S).bind fun p => thaw false p.1 p.2
def retS (keep : Bool) (a : CE) : CS := fun ρ S => (a ρ S).bind fun p => (thaw keep p.1 p.2).bind fun q => some (.rt q.1, ρ, q.2)
def retNS : CS := fun ρ S => some (.rt (.d .none), ρ, S)
def parS (i j : Nat) (l : CL) : CS := fun ρ S => (l ρ S).bind fun p => match p.1 with
  | [v, w] => some (.nx, (ρ.set i (some v)).set j (some w), p.2)
  | _ => none
def par3S (i j k : Nat) (l : CL) : CS := fun ρ S => (l ρ S).bind fun p => match p.1 with
  | [u, v, w] => some (.nx, ((ρ.set i (some u)).set j (some v)).set k (some w), p.2)
  | _ => none
def forN (g : CG) (b : CS) : List PyData → CS
  | [], ρ, S => some (.nx, ρ, S)
  | x :: xs, ρ, S => (g (.d x) ρ S).bind fun p => (b p.1 p.2).bind fun q => match q.1 with
    | .nx => forN g b xs q.2.1 q.2.2
    | .ct => forN g b xs q.2.1 q.2.2
    | .bk => some (.nx, q.2.1, q.2.2)
    | .rt w => some (.rt w, q.2.1, q.2.2)
    | .ex n as => some (.ex n as, q.2.1, q.2.2)
def forS (it : CI) (g : CG) (b : CS) : CS := fun ρ S => (it ρ S).bind fun p => forN g b p.1 ρ p.2
def whileN (t : CB) (b : CS) : Nat → CS
  | 0, _, _ => none
  | n + 1, ρ, S => (t ρ S).bind fun p => if p.1 = true then (b ρ p.2).bind fun q => match q.1 with
    | .nx => whileN t b n q.2.1 q.2.2
    | .ct => whileN t b n q.2.1 q.2.2
    | .bk => some (.nx, q.2.1, q.2.2)
    | .rt w => some (.rt w, q.2.1, q.2.2)
    | .ex n as => some (.ex n as, q.2.1, q.2.2)
    else some (.nx, ρ, p.2)
def fuel : Nat := 2 ^ 20000
def whileS (t : CB) (b : CS) : CS := whileN t b fuel
section
variable {X : Cx} {st : Stmt} {sts b1 b2 : List Stmt} {e c iter tg : Expr} {es : List Expr} {m n : CS} {me : CE} {mt : CB} {ml : CL} {pos : Pos} {g : CG} {vs : List Nat} {ci : CI}
theorem ss_nil : SSs X [] nilS := PSs.imp pss_nil fun D σ H ⟨μ, S, ρ, fl, ρ', S', ok, en, e, q⟩ => by cases e; exact q σ H μ (.refl ok) en
theorem ss_pass : SS X (.Pass pos) nilS := PS.imp ps_pass fun D σ H ⟨μ, S, ρ, fl, ρ', S', ok, en, e, q⟩ => by cases e; exact q σ H μ (.refl ok) en
theorem ss_break : SS X (.Break pos) brkS := PS.imp ps_break fun D σ H ⟨μ, S, ρ, fl, ρ', S', ok, en, e, q⟩ => by cases e; exact q σ H μ (.refl ok) en
theorem ss_continue : SS X (.Continue pos) cntS := PS.imp ps_continue fun D σ H ⟨μ, S, ρ, fl, ρ', S', ok, en, e, q⟩ => by cases e; exact q σ H μ (.refl ok) en
theorem ss_stuck : SS X st stuckS := PS.imp ps_never fun D σ H ⟨μ, S, ρ, fl, ρ', S', ok, en, e, q⟩ => by cases e
theorem ss_cons (h1 : SS X st m) (h2 : SSs X sts n) : SSs X (st :: sts) (seqS m n) := PSs.imp (pss_cons h1 h2) fun D σ H ⟨μ, S, ρ, fl, ρ', S', ok, en, e, q⟩ => by
  unfold seqS at e
  cases hx : m ρ S with
  | none => rw [hx] at e; cases e
  | some p =>
    obtain ⟨f, ρ1, S1⟩ := p
    rw [hx, Option.bind_some] at e
    refine ⟨μ, S, ρ, f, ρ1, S1, ok, en, hx, fun σ1 H1 μ1 st1 en1 => ?_⟩
    cases f with
    | nx => exact ⟨μ1, S1, ρ1, fl, ρ', S', st1.sto, en1, e, fun σ2 H2 μ2 st2 en2 => q σ2 H2 μ2 (st1.trans ok st2) en2⟩
    | bk => cases e; exact q σ1 H1 μ1 st1 en1
    | ct => cases e; exact q σ1 H1 μ1 st1 en1
    | rt w => cases e; exact q σ1 H1 μ1 st1 en1
    | ex n as => cases e; exact q σ1 H1 μ1 st1 en1
theorem ss_expr (h : SE X e me) (hs : swapsWith e none pos.line X.env = pure false) : SS X (.Expr e pos) (exprS me) := PS.imp (ps_expr h hs) fun D σ H ⟨μ, S, ρ, fl, ρ', S', ok, en, e, q⟩ => by
  unfold exprS at e
  cases hx : me ρ S with
  | none => rw [hx] at e; cases e
  | some p =>
    rw [hx, Option.bind_some] at e
    cases e
    exact ⟨μ, S, ρ, p.1, p.2, ok, en, hx, fun v H1 μ1 st1 r1 => q σ H1 μ1 st1 (en.step ok st1)⟩
theorem ss_if (h : SB X c mt) (h1 : SSs X b1 m) (h2 : SSs X b2 n) : SS X (.If c b1 b2 pos) (ifS mt m n) := PS.imp (ps_if h h1 h2) fun D σ H ⟨μ, S, ρ, fl, ρ', S', ok, en, e, q⟩ => by
  unfold ifS at e
  cases hx : mt ρ S with
  | none => rw [hx] at e; cases e
  | some p =>
    obtain ⟨k, S1⟩ := p
    rw [hx, Option.bind_some] at e
    refine ⟨μ, S, ρ, k, S1, ok, en, hx, fun H1 μ1 st1 => ?_⟩
    cases k with
    | true => exact ⟨μ1, S1, ρ, fl, ρ', S', st1.sto, en.step ok st1, e, fun σ2 H2 μ2 st2 en2 => q σ2 H2 μ2 (st1.trans ok st2) en2⟩
    | false => exact ⟨μ1, S1, ρ, fl, ρ', S', st1.sto, en.step ok st1, e, fun σ2 H2 μ2 st2 en2 => q σ2 H2 μ2 (st1.trans ok st2) en2⟩
theorem rd_asg {D : Ends} {σ : L2.St} {H : Hp} (h : rdS X (asgS me g) D σ H) : rdE X.K me σ H fun x H1 => rdG X.K g vs x σ H1 D.nx := by
  obtain ⟨μ, S, ρ, fl, ρ', S', ok, en, e, q⟩ := h
  unfold asgS at e
  cases hx : me ρ S with
  | none => rw [hx] at e; cases e
  | some p =>
    obtain ⟨w, S1⟩ := p
    rw [hx, Option.bind_some] at e
    cases hy : g w ρ S1 with
    | none => simp only [hy] at e; cases e
    | some p2 =>
      obtain ⟨ρ2, S2⟩ := p2
      simp only [hy, Option.bind_some] at e
      cases e
      exact ⟨μ, S, ρ, w, S1, ok, en, hx, fun v H1 μ1 st1 r1 => ⟨μ1, S1, ρ, w, _, _, st1.sto, en.step ok st1, r1, hy, fun σ2 H2 μ2 st2 en2 _ => q σ2 H2 μ2 (st1.trans ok st2) en2⟩⟩
theorem ss_asg (h : SE X e me) (hg : SG X tg g vs) (hs : swapsWithSole [tg] e pos.line X.env = pure false) (hw : swappedStores [tg] e X.env = pure none) (h1 : (assignEach [tg] X.env).map (·.2) = [assign tg X.env]) : SS X (.Assign [tg] e pos) (asgS me g) :=
  PS.imp (ps_asg h hg hs hw h1) fun D σ H q => rd_asg q
theorem ss_ret {keep : Bool} (h : SE X e me) : SS X (.Return (some e) pos) (retS keep me) := PS.imp (ps_ret (pe_fz h)) fun D σ H ⟨μ, S, ρ, fl, ρ', S', ok, en, e, q⟩ => by
  unfold retS at e
  cases hx : me ρ S with
  | none => rw [hx] at e; cases e
  | some p =>
    obtain ⟨w, S1⟩ := p
    rw [hx, Option.bind_some] at e
    cases ht : thaw keep w S1 with
    | none => simp only [ht] at e; cases e
    | some p2 =>
      obtain ⟨w2, S2⟩ := p2
      simp only [ht, Option.bind_some] at e
      cases e
      refine ⟨μ, S, ρ, w, S1, ok, en, hx, fun v H1 μ1 st1 r1 => ?_⟩
      cases w with
      | d x =>
        have ht' : some (W.d x, S1) = some (w2, S') := ht
        cases ht'
        exact .inr (q σ H1 μ1 st1 (en.step ok st1) v r1)
      | m n =>
        have ht' : (if keep = true then some (W.m n, S1) else match S1[n]? with
          | some (some xs) => some (.d (.list xs), S1.set n none)
          | _ => none) = some (w2, S') := ht
        split at ht'
        · cases ht'
          exact .inr (q σ H1 μ1 st1 (en.step ok st1) v r1)
        · cases hxs : S1[n]? with
          | none => rw [hxs] at ht'; cases ht'
          | some z =>
            cases z with
            | none => rw [hxs] at ht'; cases ht'
            | some xs =>
              rw [hxs] at ht'
              cases ht'
              cases r1 with | m hm =>
              obtain ⟨c, us, hc, hH, hl⟩ := st1.sto.cell n xs hxs
              rw [hm] at hc; cases hc
              refine .inl ⟨_, us, rfl, hH, fun o => ?_⟩
              have st2 := Stp.freeze st1.sto hxs hm hH o
              have st12 := st1.trans ok st2
              refine q σ _ μ1 st12 (en.step ok st12) _ (.d (.lst (.inl ⟨o, upd_same⟩) (hl.mono (st2.keeps st1.sto))))
theorem se_frz (h : SE X e me) : SE X e (frzE me) := PE.imp (pe_fz h) fun σ H Q ⟨μ, S, ρ, w2, S2, ok, en, e, q⟩ => by
  unfold frzE at e
  cases hx : me ρ S with
  | none => rw [hx] at e; cases e
  | some p =>
    obtain ⟨w, S1⟩ := p
    rw [hx, Option.bind_some] at e
    refine ⟨μ, S, ρ, w, S1, ok, en, hx, fun v H1 μ1 st1 r1 => ?_⟩
    cases w with
    | d x =>
      have e' : some (W.d x, S1) = some (w2, S2) := e
      cases e'
      exact .inr (q v H1 μ1 st1 r1)
    | m n =>
      have e' : (match S1[n]? with
        | some (some xs) => some (.d (.list xs), S1.set n none)
        | _ => none) = some (w2, S2) := e
      cases hxs : S1[n]? with
      | none => rw [hxs] at e'; cases e'
      | some z =>
        cases z with
        | none => rw [hxs] at e'; cases e'
        | some xs =>
          rw [hxs] at e'
          cases e'
          cases r1 with | m hm =>
          obtain ⟨c, us, hc, hH, hl⟩ := st1.sto.cell n xs hxs
          rw [hm] at hc; cases hc
          refine .inl ⟨_, us, rfl, hH, fun o => ?_⟩
          have st2 := Stp.freeze st1.sto hxs hm hH o
          exact q _ _ μ1 (st1.trans ok st2) (.d (.lst (.inl ⟨o, upd_same⟩) (hl.mono (st2.keeps st1.sto))))
theorem ss_retN : SS X (.Return none pos) retNS := PS.imp ps_retN fun D σ H ⟨μ, S, ρ, fl, ρ', S', ok, en, e, q⟩ => by
  cases e
  exact q σ H μ (.refl ok) en _ (.d .non)
theorem ss_par {i j : Nat} {x y : Str} {a b : Expr} {px py pt : Pos} {kt k2 : Nat} {pt2 : Pos} (hc : X.calm = true) (hN : X.N.Nodup) (hi : X.N[i]? = some x) (hj : X.N[j]? = some y) (hij : i ≠ j)
    (hx : X.env.scope.names.lookup x = some .local) (hy : X.env.scope.names.lookup y = some .local) (ha : SL X [a, b] ml)
    (hw : swappedStores [.Tuple [.Name x px, .Name y py] kt pt] (.Tuple [a, b] k2 pt2) X.env = pure (some [x, y])) :
    SS X (.Assign [.Tuple [.Name x px, .Name y py] kt pt] (.Tuple [a, b] k2 pt2) pos) (parS i j ml) :=
  PS.imp (ps_par hc hN hi hj hij hx hy ha hw) fun D σ H ⟨μ, S, ρ, fl, ρ', S', ok, en, e, q⟩ => by
    unfold parS at e
    cases hx : ml ρ S with
    | none => rw [hx] at e; cases e
    | some p =>
      obtain ⟨ws, S1⟩ := p
      rw [hx, Option.bind_some] at e
      refine ⟨μ, S, ρ, ws, S1, ok, en, hx, fun vs H1 μ1 st1 r1 => ?_⟩
      simp only at e
      split at e
      · cases e
        cases r1 with | cons r1 l1 =>
        cases l1 with | cons r2 l2 =>
        cases l2
        exact ⟨_, _, rfl, q _ H1 μ1 st1 (((en.step ok st1).set i r1).set j r2)⟩
      · cases e
/-- two names, of which one may be kept in a cell of its own (a function's variable that an inner one reads): by a pair -/
theorem ss_parC {i j : Nat} {x y : Str} {a b : Expr} {px py pt : Pos} {kt k2 : Nat} {pt2 : Pos} (hc : X.calm = true) (hN : X.N.Nodup) (hi : X.N[i]? = some x) (hj : X.N[j]? = some y)
    (hx : Loc X.env.scope x) (hfx : X.fn x = true ∨ X.env.scope.names.lookup x = some .local) (hy : Loc X.env.scope y) (hfy : X.fn y = true ∨ X.env.scope.names.lookup y = some .local) (ha : SL X [a, b] ml)
    (hs : swapsWithSole [.Tuple [.Name x px, .Name y py] kt pt] (.Tuple [a, b] k2 pt2) pos.line X.env = pure false)
    (hw : swappedStores [.Tuple [.Name x px, .Name y py] kt pt] (.Tuple [a, b] k2 pt2) X.env = pure none) :
    SS X (.Assign [.Tuple [.Name x px, .Name y py] kt pt] (.Tuple [a, b] k2 pt2) pos) (parS i j ml) :=
  PS.imp (ps_asg (pe_tup ha) (pg_tup (n := 2) hc (pgs_cons (pg_name hN hi hx hfx) (pgs_cons (pg_name hN hj hy hfy) pgs_nil)) rfl rfl) hs hw rfl) fun D σ H ⟨μ, S, ρ, fl, ρ', S', ok, en, e, q⟩ => by
    unfold parS at e
    cases hx : ml ρ S with
    | none => rw [hx] at e; cases e
    | some p =>
      obtain ⟨ws, S1⟩ := p
      rw [hx, Option.bind_some] at e
      refine ⟨μ, S, ρ, ws, S1, ok, en, hx, fun vs H1 μ1 st1 r1 => ?_⟩
      simp only at e
      split at e
      · cases e
        cases r1 with | cons r1 l1 =>
        cases l1 with | cons r2 l2 =>
        cases l2
        refine ⟨by show 2 ≤ sizeLine; decide, fun p hp => ⟨p, _, rfl, (show TpT X.K _ p _ from .inl upd_same).sq, rfl, _, _, rfl, _, _, rfl, rfl, ?_⟩⟩
        have en1 := ((en.step ok st1).set i r1).set j r2
        exact q _ _ μ1 (st1.trans ok (.new st1.sto hp)) (en1.step st1.sto (.new st1.sto hp))
      · cases e
theorem ss_par3 {i j k : Nat} {x y z : Str} {a b c : Expr} {px py pz pt : Pos} {kt k2 : Nat} {pt2 : Pos} (hc : X.calm = true) (hN : X.N.Nodup) (hi : X.N[i]? = some x) (hj : X.N[j]? = some y) (hk : X.N[k]? = some z) (hij : i ≠ j) (hik : i ≠ k) (hjk : j ≠ k)
    (hx : X.env.scope.names.lookup x = some .local) (hy : X.env.scope.names.lookup y = some .local) (hz : X.env.scope.names.lookup z = some .local) (ha : SL X [a, b, c] ml)
    (hw : swappedStores [.Tuple [.Name x px, .Name y py, .Name z pz] kt pt] (.Tuple [a, b, c] k2 pt2) X.env = pure (some [x, y, z])) :
    SS X (.Assign [.Tuple [.Name x px, .Name y py, .Name z pz] kt pt] (.Tuple [a, b, c] k2 pt2) pos) (par3S i j k ml) :=
  PS.imp (ps_par3 hc hN hi hj hk hij hik hjk hx hy hz ha hw) fun D σ H ⟨μ, S, ρ, fl, ρ', S', ok, en, e, q⟩ => by
    unfold par3S at e
    cases hx : ml ρ S with
    | none => rw [hx] at e; cases e
    | some p =>
      obtain ⟨ws, S1⟩ := p
      rw [hx, Option.bind_some] at e
      refine ⟨μ, S, ρ, ws, S1, ok, en, hx, fun vs H1 μ1 st1 r1 => ?_⟩
      simp only at e
      split at e
      · cases e
        cases r1 with | cons r1 l1 =>
        cases l1 with | cons r2 l2 =>
        cases l2 with | cons r3 l3 =>
        cases l3
        exact ⟨_, _, _, rfl, q _ H1 μ1 st1 ((((en.step ok st1).set i r1).set j r2).set k r3)⟩
      · cases e
theorem ss_for (hp : PassesOwn (model X.prog X.w) X.A X.env X.xe) (hc : X.calm = true) (hi : SI X tg iter ci) (hg : SG X tg g vs) (hb : SSs X b1 m) (hs : ∀ x, foldedSetIterable iter X.env x = pure x) : SS X (.For tg iter b1 [] pos) (forS ci g m) :=
  PS.imp (ps_for hp hc hi hg hb hs) fun D σ H ⟨μ, S, ρ, fl, ρ', S', ok, en, e, q⟩ => by
    unfold forS at e
    cases hx : ci ρ S with
    | none => rw [hx] at e; cases e
    | some p =>
      obtain ⟨xs, S1⟩ := p
      rw [hx, Option.bind_some] at e
      refine ⟨μ, S, ρ, xs, S1, ok, en, hx, fun J H1 μ1 st1 yl => ?_⟩
      refine ⟨fun i mm σi Hi => mm + i = xs.length ∧ ∃ μi Si ρi, Stp X.K μ1 S1 H1 μi Si Hi ∧ EnvOk X.K Hi μi ρi σi ∧ forN g m (xs.drop i) ρi Si = some (fl, ρ', S'), ⟨xs.length, by omega, μ1, S1, ρ, .refl st1.sto, en.step ok st1, by simpa using e⟩, ?_⟩
      rintro i mm σi Hi ⟨hm, μi, Si, ρi, sti, eni, ei⟩
      have y := yl Hi sti.ext i
      cases hget : xs[i]? with
      | none =>
        refine .inl ⟨y.2 hget, ?_⟩
        have hl : xs.length ≤ i := List.getElem?_eq_none_iff.mp hget
        rw [List.drop_eq_nil_of_le hl] at ei
        unfold forN at ei
        cases ei
        exact q σi Hi μi (st1.trans ok sti) eni
      | some x =>
        have hl : i < xs.length := (List.getElem?_eq_some_iff.mp hget).1
        obtain ⟨go, yd⟩ := y.1 x hget
        rw [List.drop_eq_getElem_cons hl] at ei
        have ex : xs[i] = x := (List.getElem?_eq_some_iff.mp hget).2
        rw [ex] at ei
        unfold forN at ei
        cases hgx : g (.d x) ρi Si with
        | none => rw [hgx] at ei; cases ei
        | some pg =>
          obtain ⟨ρg, Sg⟩ := pg
          rw [hgx, Option.bind_some] at ei
          cases hbx : m ρg Sg with
          | none => simp only [hbx] at ei; cases ei
          | some pb =>
            obtain ⟨fb, ρb, Sb⟩ := pb
            simp only [hbx, Option.bind_some] at ei
            refine .inr ⟨go, fun σn Hn => ∃ μn Sn ρn, Stp X.K μ1 S1 H1 μn Sn Hn ∧ EnvOk X.K Hn μn ρn σn ∧ forN g m (xs.drop (i + 1)) ρn Sn = some (fl, ρ', S'), fun σn Hn z => ⟨mm - 1, by omega, by omega, z⟩, fun v Hv yv => ?_⟩
            obtain ⟨kv, rv⟩ := yd v Hv yv
            have stv := sti.trans st1.sto (Stp.same sti.sto kv)
            refine ⟨μi, Si, ρi, .d x, ρg, Sg, stv.sto, eni.step sti.sto (Stp.same sti.sto kv), .d rv, hgx, fun σ2 H2 μ2 st2 en2 _ => ?_⟩
            refine ⟨μ2, Sg, ρg, fb, ρb, Sb, st2.sto, en2, hbx, fun σ3 H3 μ3 st3 en3 => ?_⟩
            have stt := stv.trans st1.sto (st2.trans stv.sto st3)
            cases fb with
            | nx => exact ⟨μ3, Sb, ρb, stt, en3, ei⟩
            | ct => exact ⟨μ3, Sb, ρb, stt, en3, ei⟩
            | bk => cases ei; exact q σ3 H3 μ3 (st1.trans ok stt) en3
            | rt w => cases ei; exact q σ3 H3 μ3 (st1.trans ok stt) en3
            | ex n as => cases ei; exact q σ3 H3 μ3 (st1.trans ok stt) en3
theorem ss_while (hp : PassesOwn (model X.prog X.w) X.A X.env X.xe) (hc : SB X c mt) (hb : SSs X b1 m) : SS X (.While c b1 [] pos) (whileS mt m) :=
  PS.imp (ps_while hp hc hb) fun D σ H ⟨μ, S, ρ, fl, ρ', S', ok, en, e, q⟩ => by
    unfold whileS at e
    refine ⟨fun k σi Hi => ∃ μi Si ρi, Stp X.K μ S H μi Si Hi ∧ EnvOk X.K Hi μi ρi σi ∧ whileN mt m k ρi Si = some (fl, ρ', S'), ⟨fuel, μ, S, ρ, .refl ok, en, e⟩, ?_⟩
    rintro k σi Hi ⟨μi, Si, ρi, sti, eni, ei⟩
    cases k with
    | zero => unfold whileN at ei; cases ei
    | succ k =>
      unfold whileN at ei
      cases hx : mt ρi Si with
      | none => rw [hx] at ei; cases ei
      | some p =>
        obtain ⟨b, S1⟩ := p
        rw [hx, Option.bind_some] at ei
        refine ⟨μi, Si, ρi, b, S1, sti.sto, eni, hx, fun H1 μ1 st1 => ?_⟩
        have st01 := sti.trans ok st1
        cases b with
        | false =>
          simp only [Bool.false_eq_true, if_false] at ei ⊢
          cases ei
          exact q σi H1 μ1 st01 (eni.step sti.sto st1)
        | true =>
          simp only [if_true] at ei ⊢
          cases hbx : m ρi S1 with
          | none => simp only [hbx] at ei; cases ei
          | some pb =>
            obtain ⟨fb, ρb, Sb⟩ := pb
            simp only [hbx, Option.bind_some] at ei
            refine ⟨fun σn Hn => ∃ μn Sn ρn, Stp X.K μ S H μn Sn Hn ∧ EnvOk X.K Hn μn ρn σn ∧ whileN mt m k ρn Sn = some (fl, ρ', S'), fun σn Hn z => ⟨k, Nat.lt_succ_self _, z⟩, ?_⟩
            refine ⟨μ1, S1, ρi, fb, ρb, Sb, st1.sto, eni.step sti.sto st1, hbx, fun σ3 H3 μ3 st3 en3 => ?_⟩
            have stt := st01.trans ok st3
            cases fb with
            | nx => exact ⟨μ3, Sb, ρb, stt, en3, ei⟩
            | ct => exact ⟨μ3, Sb, ρb, stt, en3, ei⟩
            | bk => cases ei; exact q σ3 H3 μ3 stt en3
            | rt w => cases ei; exact q σ3 H3 μ3 stt en3
            | ex n as => cases ei; exact q σ3 H3 μ3 stt en3
end
end PD

/-! PD, part 5: comprehensions, methods of lists, calls of defs, a def by its body. -/
namespace PD
open PySem PySem.Spec PyProof.Rows L2 RZ RT

/-! ### comprehensions -/
section
variable {K : PySem.W.Frag} {H H' : Hp} {μ μ' : List Addr} {S S' : Sto}
/-- something that is not the store's changes -/
theorem Stp.other (s : Stp K μ S H μ' S' H') {D : Addr} {vs : List V} (o : HO) (h : H D = none) (n : D ∉ μ') (g : H' D = some (.lst vs)) : Stp K μ S H μ' S' (upd H' D o) where
  pre := s.pre
  sto := by
    have kp : Keeps H' (upd H' D o) := fun b u e i => by
      rw [upd_ne (fun z => by subst z; rw [g] at e; cases e; exact i)]; exact e
    have ne : ∀ a ∈ μ', a ≠ D := fun a m z => n (z ▸ m)
    refine ⟨s.sto.len, s.sto.nd, fun a m => ?_, fun k xs e => ?_⟩
    · obtain ⟨u, e⟩ := s.sto.there a m
      exact ⟨u, by rw [upd_ne (ne a m)]; exact e⟩
    · obtain ⟨a, ws, h1, h2, h3⟩ := s.sto.cell k xs e
      exact ⟨a, ws, h1, by rw [upd_ne (ne a (List.mem_of_getElem? h1))]; exact h2, h3.mono kp⟩
  ext := fun a u e nl => by
    rw [upd_ne (ne_of_none e h)]
    exact s.ext a u e nl
  fresh := s.fresh
  dead := s.dead
end
def lcN (g : CG) (t : CB) (elt : CE) (ρ : Rho) : List PyData → Sto → Option (List PyData × Sto)
  | [], S => some ([], S)
  | x :: xs, S => (g (.d x) ρ S).bind fun p => (t p.1 p.2).bind fun b => if b.1 = true then (elt p.1 b.2).bind fun y => match y.1 with
      | .d d => (lcN g t elt ρ xs y.2).bind fun r => some (d :: r.1, r.2)
      | .m _ => none
    else lcN g t elt ρ xs b.2
def lcE (own : List Nat) (mu : Bool) (ci : CI) (g : CG) (t : CB) (elt : CE) : CE := fun ρ S => (ci ρ S).bind fun p => if p.1.length ≤ lim then (lcN g t elt (wipeR ρ own) p.1 p.2).bind fun q =>
  if mu = true then some (.m q.2.length, q.2 ++ [some q.1]) else some (.d (.list q.1), q.2) else none
def yesB : CB := fun _ S => some (true, S)
theorem lcN_len {g : CG} {t : CB} {elt : CE} {ρ : Rho} : ∀ {xs : List PyData} {S : Sto} {q : List PyData × Sto}, lcN g t elt ρ xs S = some q → q.1.length ≤ xs.length
  | [], S, q, h => by cases h; exact Nat.le_refl _
  | x :: xs, S, q, h => by
    unfold lcN at h
    cases h1 : g (.d x) ρ S with
    | none => rw [h1] at h; cases h
    | some p =>
      rw [h1, Option.bind_some] at h
      cases h2 : t p.1 p.2 with
      | none => rw [h2] at h; cases h
      | some b =>
        rw [h2, Option.bind_some] at h
        split at h
        · cases h3 : elt p.1 b.2 with
          | none => rw [h3] at h; cases h
          | some y =>
            rw [h3, Option.bind_some] at h
            split at h
            · cases h4 : lcN g t elt ρ xs y.2 with
              | none => rw [h4] at h; cases h
              | some r =>
                rw [h4, Option.bind_some] at h
                cases h
                exact Nat.succ_le_succ (lcN_len h4)
            · cases h
        · exact Nat.le_succ_of_le (lcN_len h)
theorem rd_lc {K : PySem.W.Frag} {own vs : List Nat} {mu : Bool} {ci : CI} {g : CG} {t : CB} {elt : CE} {σ : L2.St} {H : Hp} {Q : VK} (hv : ∀ i ∈ vs, i ∈ own) (h : rdE K (lcE own mu ci g t elt) σ H Q) :
    tLc (rdI K ci) (rdG K g vs) (rdB K t) (rdE K elt) own σ H (QFz Q) := by
  obtain ⟨μ, S, ρ, w, S', ok, en, e, q⟩ := h
  unfold lcE at e
  cases hx : ci ρ S with
  | none => rw [hx] at e; cases e
  | some p =>
    obtain ⟨xs, S1⟩ := p
    rw [hx, Option.bind_some] at e
    split at e
    rotate_left
    · cases e
    · rename_i hz
      have hzx : xs.length ≤ lim := hz
      cases hl : lcN g t elt (wipeR ρ own) xs S1 with
      | none => simp only at e; rw [hl] at e; cases e
      | some r =>
        obtain ⟨ys, S2⟩ := r
        simp only at e
        rw [hl, Option.bind_some] at e
        refine ⟨μ, S, ρ, xs, S1, ok, en, hx, fun J H1 μ1 st1 yl D hD => ?_⟩
        refine ⟨fun i mm Hi => mm + i = xs.length ∧ ∃ μi Si acc av zs, Stp K μ1 S1 H1 μi Si Hi ∧ D ∉ μi ∧ Hi D = some (.lst av) ∧ RepL K Hi acc av ∧ acc.length ≤ i ∧ lcN g t elt (wipeR ρ own) (xs.drop i) Si = some (zs, S2) ∧ acc ++ zs = ys,
          ⟨xs.length, by omega, μ1, S1, [], [], ys, Stp.new st1.sto hD, fun m => ?_, upd_same, .nil, Nat.zero_le _, by simpa using hl, rfl⟩, ?_⟩
        · obtain ⟨o, z⟩ := st1.sto.there D m; rw [hD] at z; cases z
        rintro i mm Hi ⟨hm, μi, Si, acc, av, zs, sti, nD, hDi, ra, hlen, ei, eq⟩
        have y := yl Hi sti.ext i
        have st1i := st1.trans ok sti
        cases hget : xs[i]? with
        | none =>
          have hli : xs.length ≤ i := List.getElem?_eq_none_iff.mp hget
          rw [List.drop_eq_nil_of_le hli] at ei
          unfold lcN at ei
          cases ei
          rw [List.append_nil] at eq
          subst eq
          refine .inl ⟨y.2 hget, ?_⟩
          split at e
          · cases e
            -- a cell
            have hp : H D = none := by
              cases z : H D with
              | none => rfl
              | some o =>
                by_cases lv : Live μ S D
                · obtain ⟨k, us, h1, h2⟩ := lv
                  have hm1 : D ∈ μ1 := st1.pre.subset (List.mem_of_getElem? h1)
                  obtain ⟨o', z'⟩ := st1.sto.there D hm1
                  rw [hD] at z'; cases z'
                · rw [st1.ext D o z lv] at hD; cases hD
            refine .inr (q _ Hi (μi ++ [D]) ⟨st1i.pre.trans ⟨[D], rfl⟩, ?_, st1i.ext, fun a m => ?_, fun k z => ?_⟩ (.m ?_))
            · refine ⟨by simp [sti.sto.len], ?_, fun a m => ?_, fun k us z => ?_⟩
              · rw [List.nodup_append]
                exact ⟨sti.sto.nd, by simp, fun a ha b hb e => by simp at hb; subst hb; subst e; exact nD ha⟩
              · rcases List.mem_append.mp m with m | m
                · exact sti.sto.there a m
                · simp at m; subst m; exact ⟨_, hDi⟩
              · by_cases hk : k < S2.length
                · rw [List.getElem?_append_left hk] at z
                  obtain ⟨a, ws, h1, h2, h3⟩ := sti.sto.cell k us z
                  exact ⟨a, ws, by rw [List.getElem?_append_left (by rw [sti.sto.len]; exact hk)]; exact h1, h2, h3⟩
                · rw [List.getElem?_append_right (Nat.le_of_not_lt hk)] at z
                  have e0 : k - S2.length = 0 := by
                    have := (List.getElem?_eq_some_iff.mp z).1
                    simp at this; omega
                  rw [e0] at z
                  simp at z; subst z
                  exact ⟨D, av, by rw [List.getElem?_append_right (by rw [sti.sto.len]; omega), sti.sto.len, e0]; rfl, hDi, ra⟩
            · rcases List.mem_append.mp m with m | m
              · exact st1i.fresh a m
              · simp at m; subst m; exact .inr hp
            · have := st1i.dead k z
              rw [List.getElem?_append_left (List.getElem?_eq_some_iff.mp this).1]; exact this
            · rw [← sti.sto.len, List.getElem?_append_right (Nat.le_refl _), Nat.sub_self]; rfl
          · cases e
            refine .inl ⟨D, av, rfl, hDi, fun o => ?_⟩
            have st2 := Stp.other sti (.frz o (.lst av)) hD nD hDi
            have kp : Keeps Hi (upd Hi D (.frz o (.lst av))) := fun b u e i => by
              rw [upd_ne (fun z => by subst z; rw [hDi] at e; cases e; exact i)]; exact e
            exact q _ _ μi (st1.trans ok st2) (.d (.lst (.inl ⟨o, upd_same⟩) (ra.mono kp)))
        | some x =>
          have hli : i < xs.length := (List.getElem?_eq_some_iff.mp hget).1
          obtain ⟨go, yd⟩ := y.1 x hget
          rw [List.drop_eq_getElem_cons hli] at ei
          have ex : xs[i] = x := (List.getElem?_eq_some_iff.mp hget).2
          rw [ex] at ei
          unfold lcN at ei
          cases hg : g (.d x) (wipeR ρ own) Si with
          | none => rw [hg] at ei; cases ei
          | some pg =>
            obtain ⟨ρg, Sg⟩ := pg
            rw [hg, Option.bind_some] at ei
            cases ht : t ρg Sg with
            | none => simp only [ht] at ei; cases ei
            | some pb =>
              obtain ⟨b, Sb⟩ := pb
              simp only [ht, Option.bind_some] at ei
              refine .inr ⟨go, fun Hn => ∃ μn Sn acc av zs, Stp K μ1 S1 H1 μn Sn Hn ∧ D ∉ μn ∧ Hn D = some (.lst av) ∧ RepL K Hn acc av ∧ acc.length ≤ i + 1 ∧ lcN g t elt (wipeR ρ own) (xs.drop (i + 1)) Sn = some (zs, S2) ∧ acc ++ zs = ys,
                fun Hn z => ⟨mm - 1, by omega, by omega, z⟩, fun v Hv yv => ?_⟩
              obtain ⟨kv, rv⟩ := yd v Hv yv
              have stv := Stp.same sti.sto kv
              have enw := ((en.step ok st1i).step sti.sto stv).wipe own
              refine ⟨μi, Si, wipeR ρ own, .d x, ρg, Sg, stv.sto, enw, .d rv, hg, fun σ2 H2 μ2 st2 en2 on2 => ⟨on2.wipe hv, ?_⟩⟩
              refine ⟨μ2, Sg, ρg, b, Sb, st2.sto, en2, ht, fun H3 μ3 st3 => ?_⟩
              have s23 := st2.trans stv.sto st3
              have si3 := stv.trans sti.sto s23
              have nD3 : D ∉ μ3 := fun m => by
                rcases si3.fresh D m with z | z
                · exact nD z
                · rw [hDi] at z; cases z
              have hD3 : H3 D = some (.lst av) := si3.ext D _ hDi fun ⟨k, us, h1, _⟩ => nD (List.mem_of_getElem? h1)
              have ra3 := ra.mono (si3.keeps sti.sto)
              cases b with
              | false =>
                simp only [Bool.false_eq_true, if_false] at ei ⊢
                exact ⟨μ3, Sb, acc, av, zs, sti.trans st1.sto si3, nD3, hD3, ra3, by omega, ei, eq⟩
              | true =>
                simp only [if_true] at ei ⊢
                cases he : elt ρg Sb with
                | none => rw [he] at ei; cases ei
                | some py =>
                  obtain ⟨wy, Sy⟩ := py
                  rw [he, Option.bind_some] at ei
                  cases wy with
                  | m k => cases ei
                  | d d =>
                    simp only at ei
                    cases hr : lcN g t elt (wipeR ρ own) (xs.drop (i + 1)) Sy with
                    | none => rw [hr] at ei; cases ei
                    | some r =>
                      obtain ⟨zs2, S2'⟩ := r
                      rw [hr, Option.bind_some] at ei
                      cases ei
                      refine ⟨μ3, Sb, ρg, .d d, Sy, st3.sto, en2.step st2.sto st3, he, fun yv' H4 μ4 st4 r4 => ?_⟩
                      have si4 := si3.trans sti.sto st4
                      have nD4 : D ∉ μ4 := fun m => by
                        rcases si4.fresh D m with z | z
                        · exact nD z
                        · rw [hDi] at z; cases z
                      have hD4 : H4 D = some (.lst av) := si4.ext D _ hDi fun ⟨k, us, h1, _⟩ => nD (List.mem_of_getElem? h1)
                      have s4 := sti.trans st1.sto si4
                      have kp : Keeps H4 (upd H4 D (.lst (av ++ [yv']))) := fun b u e i => by
                        rw [upd_ne (fun z => by subst z; rw [hD4] at e; cases e; exact i)]; exact e
                      have la : av.length ≤ i := by rw [← ra.length]; exact hlen
                      refine ⟨av, hD4, Nat.lt_of_lt_of_le (show av.length < lim by omega) (lim_le (Nat.le_refl _)), μ4, Sy, acc ++ [d], av ++ [yv'], zs2, Stp.other s4 _ hD nD4 hD4, nD4, upd_same, ?_, by simp; omega, hr, by simpa using eq⟩
                      cases r4 with | d r4 =>
                      exact ((ra.mono (si4.keeps sti.sto)).mono kp).append (.cons (r4.mono kp) .nil)
section
variable {X : Cx} {elt tg iter e : Expr} {ifs : List Expr} {scope : Scope} {own : List (Str × Nat)} {pos : Pos} {ci : CI} {g : CG} {t : CB} {me : CE} {vs : List Nat}
abbrev STs (X : Cx) (ifs : List Expr) (t : CB) : Prop := PTs X ifs (rdB X.K t)
theorem st_nil : STs X [] yesB := ⟨fun pins s σ H Q I ⟨μ, S, ρ, w, S', ok, en, e, q⟩ => by
  cases e
  exact (pts_nil (X := X)).run pins s σ H Q I (q H μ (.refl ok))⟩
theorem st_one {c : Expr} (h : SB X c t) : STs X [c] t := pts_one h
theorem se_lc {mu : Bool} (hc : X.calm = true) (hN : X.N.Nodup) (hi : SI X tg iter ci) (ok : BlkOk X.N X.env.scope scope own)
    (hg : ∀ (s : Shared) (H : Hp) (C : Addr) (cl : List (Str × Addr)) (fp : List Addr), SG (X.blk s H scope (compEnvC scope cl C X.env) fp) tg g vs) (ht : ∀ (s : Shared) (H : Hp) (C : Addr) (cl : List (Str × Addr)) (fp : List Addr), STs (X.blk s H scope (compEnvC scope cl C X.env) fp) ifs t)
    (he : ∀ (s : Shared) (H : Hp) (C : Addr) (cl : List (Str × Addr)) (fp : List Addr), SE (X.blk s H scope (compEnvC scope cl C X.env) fp) elt me) (hv : ∀ i ∈ vs, i ∈ own.map (·.2)) (hs : ∀ x, foldedSetIterable iter X.env x = pure x) :
    SE X (.ListComp elt [⟨tg, iter, ifs, 0⟩] scope pos) (lcE (own.map (·.2)) mu ci g t me) :=
  PE.imp (pe_fz (pe_lc hc hN hi ok hg ht he hs)) fun σ H Q h => rd_lc hv h
/-- freezing behind a statement -/
def NFz (Q : L2.St → Hp → Prop) : L2.St → Hp → Prop := fun σ H => (∃ p xs, H p = some (.lst xs) ∧ ∀ o, Q σ (upd H p (.frz o (.lst xs)))) ∨ Q σ H
theorem ps_fz {st : Stmt} {t : TS} (h : PS X st t) : PS X st (fun D σ H => t { D with nx := NFz D.nx } σ H) := by
  refine ⟨fun pins s σ H D I q => thn (h.run pins s σ H _ I q) fun f s1 z => ?_⟩
  cases f with
  | next =>
    obtain ⟨σ1, H1, I1, q1⟩ := z
    rcases q1 with ⟨p, xs, hp, q1⟩ | q1
    · obtain ⟨_, its, n, rv, e⟩ := (show ObjOk X.prog X.w H1 s1.heap p (.lst xs) from I1.hok p _ hp)
      exact ⟨σ1, _, Inv.frozen I1 hp e, q1 _⟩
    · exact ⟨σ1, H1, I1, q1⟩
  | brk => exact z
  | cont => exact z
  | ret v => exact z
theorem ss_setLc {mu : Bool} {i : Nat} {y : Str} {py spos : Pos} (hc : X.calm = true) (hN : X.N.Nodup) (hy : X.N[i]? = some y) (hyl : X.env.scope.names.lookup y = some .local)
    (hsw : swapsWith (.ListComp elt [⟨tg, iter, ifs, 0⟩] scope pos) (some (.Name y py)) spos.line X.env = pure true) (hi : SI X tg iter ci) (ok : BlkOk X.N X.env.scope scope own)
    (hg : ∀ (s : Shared) (H : Hp) (C : Addr) (cl : List (Str × Addr)) (fp : List Addr), SG (X.blk s H scope (compEnvC scope cl C X.env) fp) tg g vs) (ht : ∀ (s : Shared) (H : Hp) (C : Addr) (cl : List (Str × Addr)) (fp : List Addr), STs (X.blk s H scope (compEnvC scope cl C X.env) fp) ifs t)
    (he : ∀ (s : Shared) (H : Hp) (C : Addr) (cl : List (Str × Addr)) (fp : List Addr), SE (X.blk s H scope (compEnvC scope cl C X.env) fp) elt me) (hv : ∀ i ∈ vs, i ∈ own.map (·.2)) (hs : ∀ x, foldedSetIterable iter X.env x = pure x) :
    SS X (.Assign [.Name y py] (.ListComp elt [⟨tg, iter, ifs, 0⟩] scope pos) spos) (asgS (lcE (own.map (·.2)) mu ci g t me) (nameG i)) :=
  PS.imp (ps_fz (ps_setLc hc hN hy hyl hsw hi ok hg ht he hs)) fun D σ H h => by
    have h1 : rdE X.K (lcE (own.map (·.2)) mu ci g t me) σ H fun x H1 => D.nx (σ.set i (some x)) H1 := by
      obtain ⟨μ, S, ρ, fl, ρ', S', ok, en, e, q⟩ := h
      unfold asgS at e
      cases hx : lcE (own.map (·.2)) mu ci g t me ρ S with
      | none => rw [hx] at e; cases e
      | some p =>
        obtain ⟨w, S1⟩ := p
        rw [hx, Option.bind_some] at e
        cases e
        exact ⟨μ, S, ρ, w, _, ok, en, hx, fun v H1 μ1 st1 r1 => q _ H1 μ1 st1 ((en.step ok st1).set i r1)⟩
    have h2 := rd_lc hv h1
    have m : ∀ x H1, QFz (fun x H1 => D.nx (σ.set i (some x)) H1) x H1 → NFz D.nx (σ.set i (some x)) H1 := fun x H1 z => by
      rcases z with ⟨p, xs, rfl, hp, z⟩ | z
      · exact .inl ⟨p, xs, hp, z⟩
      · exact .inr z
    -- the reading is monotone in what is wanted at its end
    obtain ⟨μ, S, ρ, xs, S1, ok', en, hx, k⟩ := h2
    refine ⟨μ, S, ρ, xs, S1, ok', en, hx, fun J H1 μ1 st1 yl Dn hD => ?_⟩
    obtain ⟨W, w0, step⟩ := k J H1 μ1 st1 yl Dn hD
    refine ⟨W, w0, fun i' m' H' w' => ?_⟩
    rcases step i' m' H' w' with ⟨z1, z2⟩ | z
    · exact .inl ⟨z1, m _ _ z2⟩
    · exact .inr z
end

/-! ### methods of lists -/
def cellOf : W → Option Nat
  | .m n => some n
  | _ => none
def asD : W → Option PyData
  | .d x => some x
  | _ => none
def liveAt (S : Sto) (n : Nat) : Option (List PyData) := match S[n]? with
  | some (some xs) => some xs
  | _ => none
theorem liveAt_eq {S : Sto} {n : Nat} {xs : List PyData} (h : liveAt S n = some xs) : S[n]? = some (some xs) := by
  unfold liveAt at h
  split at h
  · rename_i ys hs; cases h; exact hs
  · cases h
def appendE (a b : CE) : CE := fun ρ S => (a ρ S).bind fun p => (cellOf p.1).bind fun n => (liveAt p.2 n).bind fun _ => (b ρ p.2).bind fun q => (asD q.1).bind fun x => (liveAt q.2 n).bind fun xs =>
  if xs.length < lim then some (.d .none, q.2.set n (some (xs ++ [x]))) else none
def popAtE (a b : CE) : CE := fun ρ S => (a ρ S).bind fun p => (cellOf p.1).bind fun n => (liveAt p.2 n).bind fun _ => (b ρ p.2).bind fun q => (asInt q.1).bind fun i => (liveAt q.2 n).bind fun xs =>
  if 0 ≤ i ∧ i < 2 ^ 63 then (xs[i.toNat]?).bind fun x => some (.d x, q.2.set n (some (xs.eraseIdx i.toNat))) else none
def popE (a : CE) : CE := fun ρ S => (a ρ S).bind fun p => (cellOf p.1).bind fun n => (liveAt p.2 n).bind fun xs => (xs[xs.length - 1]?).bind fun x => some (.d x, p.2.set n (some xs.dropLast))
def insertE (a b c : CE) : CE := fun ρ S => (a ρ S).bind fun p => (cellOf p.1).bind fun n => (liveAt p.2 n).bind fun _ => (b ρ p.2).bind fun q => (c ρ q.2).bind fun z => (asInt q.1).bind fun i => (asD z.1).bind fun x => (liveAt z.2 n).bind fun xs =>
  if xs.length < lim ∧ 0 ≤ i ∧ i < 2 ^ 63 then some (.d .none, z.2.set n (some (xs.take i.toNat ++ [x] ++ xs.drop i.toNat))) else none
section
variable {X : Cx} {o a b : Expr} {mo ma mb : CE} {apos cpos : Pos}
theorem cellOf_eq {w : W} {n : Nat} (h : cellOf w = some n) : w = .m n := by
  unfold cellOf at h
  split at h
  · cases h; rfl
  · cases h
theorem asD_eq {w : W} {x : PyData} (h : asD w = some x) : w = .d x := by
  unfold asD at h
  split at h
  · cases h; rfl
  · cases h
theorem tyV_cell {K : PySem.W.Frag} {H : Hp} {c : Addr} {vs : List V} (h : H c = some (.lst vs)) : tyV K "list" (.ref c) H := .inl ⟨rfl, _, SqL.of h⟩
theorem mt_up {μ μ' : List Addr} {n : Nat} {c : Addr} (p : μ <+: μ') (h : μ[n]? = some c) : μ'[n]? = some c := by
  obtain ⟨r, rfl⟩ := p
  rw [List.getElem?_append_left (List.getElem?_eq_some_iff.mp h).1]; exact h
theorem se_append (ho : SE X o mo) (ha : SE X a ma) (hbase : attributeBase o "append" X.env (eval o X.env) = eval o X.env) (hl : (apos.endLine == cpos.line) = true) (hs : starEach [a] X.env = [(false, eval a X.env)]) :
    SE X (.Call (.Attribute o "append" apos) [a] [] cpos) (appendE mo ma) :=
  PE.imp (pe_bm PySem.F.plainAttrs_list PySem.F.slot_list_append PySem.F.type_list_append mt_append ho (pa_cons ha pa_nil hs) hbase (by rw [hs]; rfl) hl hs rfl) fun σ H Q ⟨μ, S, ρ, w, S', ok, en, e, q⟩ => by
    unfold appendE at e
    cases h1 : mo ρ S with
    | none => rw [h1] at e; cases e
    | some p =>
      obtain ⟨w1, S1⟩ := p
      rw [h1, Option.bind_some] at e
      cases h2 : cellOf w1 with
      | none => simp only [h2] at e; cases e
      | some n =>
        simp only [h2, Option.bind_some] at e
        cases h3 : liveAt S1 n with
        | none => rw [h3] at e; cases e
        | some xs0 =>
          rw [h3, Option.bind_some] at e
          cases h4 : ma ρ S1 with
          | none => rw [h4] at e; cases e
          | some p2 =>
            obtain ⟨w2, S2⟩ := p2
            rw [h4, Option.bind_some] at e
            cases h5 : asD w2 with
            | none => simp only [h5] at e; cases e
            | some x =>
              simp only [h5, Option.bind_some] at e
              cases h6 : liveAt S2 n with
              | none => rw [h6] at e; cases e
              | some xs =>
                rw [h6, Option.bind_some] at e
                split at e
                · rename_i hz
                  cases e
                  rw [cellOf_eq h2] at h1
                  rw [asD_eq h5] at h4
                  refine ⟨μ, S, ρ, _, S1, ok, en, h1, fun v H1 μ1 st1 r1 => ?_⟩
                  cases r1 with | @m _ c1 hm =>
                  obtain ⟨c, us, hc, hH, _⟩ := st1.sto.cell n xs0 (liveAt_eq h3)
                  rw [hm] at hc; cases hc
                  refine ⟨tyV_cell hH, μ1, S1, ρ, _, S2, st1.sto, en.step ok st1, h4, fun y H2 μ2 st2 r2 => ?_⟩
                  have st12 := st1.trans ok st2
                  have hm2 := mt_up st2.pre hm
                  obtain ⟨c', us', hc', hH2, hl2⟩ := st2.sto.cell n xs (liveAt_eq h6)
                  rw [hm2] at hc'; cases hc'
                  cases r2 with | d r2 =>
                  refine ⟨_, us', y, rfl, rfl, hH2, Nat.lt_of_lt_of_le (by rw [← hl2.length]; exact hz) (lim_le (Nat.le_refl _)), ?_⟩
                  exact q _ _ μ2 (st12.trans ok (Stp.put st2.sto (liveAt_eq h6) hm2 hH2 (hl2.append (.cons r2 .nil)))) (.d .non)
                · cases e
theorem se_popAt (ho : SE X o mo) (ha : SE X a ma) (hbase : attributeBase o "pop" X.env (eval o X.env) = eval o X.env) (hl : (apos.endLine == cpos.line) = true) (hs : starEach [a] X.env = [(false, eval a X.env)]) :
    SE X (.Call (.Attribute o "pop" apos) [a] [] cpos) (popAtE mo ma) :=
  PE.imp (pe_bm PySem.F.plainAttrs_list PySem.F.slot_list_pop PySem.F.type_list_pop mt_popAt ho (pa_cons ha pa_nil hs) hbase (by rw [hs]; rfl) hl hs rfl) fun σ H Q ⟨μ, S, ρ, w, S', ok, en, e, q⟩ => by
    unfold popAtE at e
    cases h1 : mo ρ S with
    | none => rw [h1] at e; cases e
    | some p =>
      obtain ⟨w1, S1⟩ := p
      rw [h1, Option.bind_some] at e
      cases h2 : cellOf w1 with
      | none => simp only [h2] at e; cases e
      | some n =>
        simp only [h2, Option.bind_some] at e
        cases h3 : liveAt S1 n with
        | none => rw [h3] at e; cases e
        | some xs0 =>
          rw [h3, Option.bind_some] at e
          cases h4 : ma ρ S1 with
          | none => rw [h4] at e; cases e
          | some p2 =>
            obtain ⟨w2, S2⟩ := p2
            rw [h4, Option.bind_some] at e
            cases h5 : asInt w2 with
            | none => simp only [h5] at e; cases e
            | some i =>
              simp only [h5, Option.bind_some] at e
              cases h6 : liveAt S2 n with
              | none => rw [h6] at e; cases e
              | some xs =>
                rw [h6, Option.bind_some] at e
                split at e
                · rename_i hz
                  cases hx : xs[i.toNat]? with
                  | none => rw [hx] at e; cases e
                  | some x =>
                    rw [hx, Option.bind_some] at e
                    cases e
                    rw [cellOf_eq h2] at h1
                    refine ⟨μ, S, ρ, _, S1, ok, en, h1, fun v H1 μ1 st1 r1 => ?_⟩
                    cases r1 with | @m _ c1 hm =>
                    obtain ⟨c, us, hc, hH, _⟩ := st1.sto.cell n xs0 (liveAt_eq h3)
                    rw [hm] at hc; cases hc
                    refine ⟨tyV_cell hH, μ1, S1, ρ, _, S2, st1.sto, en.step ok st1, h4, fun y H2 μ2 st2 r2 => ?_⟩
                    have st12 := st1.trans ok st2
                    have hm2 := mt_up st2.pre hm
                    obtain ⟨c', us', hc', hH2, hl2⟩ := st2.sto.cell n xs (liveAt_eq h6)
                    rw [hm2] at hc'; cases hc'
                    obtain ⟨z, hz2, rz⟩ := hl2.get hx
                    have hlt := (List.getElem?_eq_some_iff.mp hz2).1
                    refine ⟨_, us', i, i.toNat, z, rfl, by rw [asInt_of r2 h5], hH2, by omega, hz.2, seqIndex_of hz.1 (by omega), hz2, ?_⟩
                    have st3 := Stp.put st2.sto (liveAt_eq h6) hm2 hH2 (hl2.eraseIdx i.toNat)
                    exact q _ _ μ2 (st12.trans ok st3) (.d (rz.mono (st3.keeps st2.sto)))
                · cases e
theorem se_insert (ho : SE X o mo) (ha : SE X a ma) (hb : SE X b mb) (hbase : attributeBase o "insert" X.env (eval o X.env) = eval o X.env) (hl : (apos.endLine == cpos.line) = true) (hs : starEach [a, b] X.env = [(false, eval a X.env), (false, eval b X.env)]) (hs2 : starEach [b] X.env = [(false, eval b X.env)]) :
    SE X (.Call (.Attribute o "insert" apos) [a, b] [] cpos) (insertE mo ma mb) :=
  PE.imp (pe_bm PySem.F.plainAttrs_list PySem.F.slot_list_insert PySem.F.type_list_insert mt_insert ho (pa_cons ha (pa_cons hb pa_nil hs2) (by rw [hs, hs2])) hbase (by rw [hs]; rfl) hl (by rw [hs, hs2]) (by rw [hs2]; rfl)) fun σ H Q ⟨μ, S, ρ, w, S', ok, en, e, q⟩ => by
    unfold insertE at e
    cases h1 : mo ρ S with
    | none => rw [h1] at e; cases e
    | some p =>
      obtain ⟨w1, S1⟩ := p
      rw [h1, Option.bind_some] at e
      cases h2 : cellOf w1 with
      | none => simp only [h2] at e; cases e
      | some n =>
        simp only [h2, Option.bind_some] at e
        cases h3 : liveAt S1 n with
        | none => rw [h3] at e; cases e
        | some xs0 =>
          rw [h3, Option.bind_some] at e
          cases h4 : ma ρ S1 with
          | none => rw [h4] at e; cases e
          | some p2 =>
            obtain ⟨w2, S2⟩ := p2
            rw [h4, Option.bind_some] at e
            cases h7 : mb ρ S2 with
            | none => rw [h7] at e; cases e
            | some p3 =>
              obtain ⟨w3, S3⟩ := p3
              rw [h7, Option.bind_some] at e
              cases h5 : asInt w2 with
              | none => simp only [h5] at e; cases e
              | some i =>
                simp only [h5, Option.bind_some] at e
                cases h8 : asD w3 with
                | none => simp only [h8] at e; cases e
                | some x =>
                  simp only [h8, Option.bind_some] at e
                  cases h6 : liveAt S3 n with
                  | none => rw [h6] at e; cases e
                  | some xs =>
                    rw [h6, Option.bind_some] at e
                    split at e
                    · rename_i hz
                      cases e
                      rw [cellOf_eq h2] at h1
                      rw [asD_eq h8] at h7
                      refine ⟨μ, S, ρ, _, S1, ok, en, h1, fun v H1 μ1 st1 r1 => ?_⟩
                      cases r1 with | @m _ c1 hm =>
                      obtain ⟨c, us, hc, hH, _⟩ := st1.sto.cell n xs0 (liveAt_eq h3)
                      rw [hm] at hc; cases hc
                      refine ⟨tyV_cell hH, μ1, S1, ρ, _, S2, st1.sto, en.step ok st1, h4, fun y H2 μ2 st2 r2 => ?_⟩
                      have st12 := st1.trans ok st2
                      refine ⟨μ2, S2, ρ, _, S3, st2.sto, en.step ok st12, h7, fun y3 H3 μ3 st3 r3 => ?_⟩
                      have st13 := st12.trans ok st3
                      have hm3 := mt_up st3.pre (mt_up st2.pre hm)
                      obtain ⟨c', us', hc', hH3, hl3⟩ := st3.sto.cell n xs (liveAt_eq h6)
                      rw [hm3] at hc'; cases hc'
                      cases r3 with | d r3 =>
                      have ey : y = .int i := by
                        have := asInt_of r2 h5
                        exact this
                      refine ⟨_, us', i, y3, rfl, by rw [ey], hH3, Nat.lt_of_lt_of_le (by rw [← hl3.length]; exact hz.1) (lim_le (Nat.le_refl _)), hz.2.1, hz.2.2, ?_⟩
                      exact q _ _ μ3 (st13.trans ok (Stp.put st3.sto (liveAt_eq h6) hm3 hH3 (((hl3.take i.toNat).append (.cons r3 .nil)).append (hl3.drop i.toNat)))) (.d .non)
                    · cases e
theorem se_pop (ho : SE X o mo) (hbase : attributeBase o "pop" X.env (eval o X.env) = eval o X.env) (hl : (apos.endLine == cpos.line) = true) : SE X (.Call (.Attribute o "pop" apos) [] [] cpos) (popE mo) :=
  PE.imp (pe_bm0 PySem.F.plainAttrs_list PySem.F.slot_list_pop PySem.F.type_list_pop mt_pop ho hbase hl) fun σ H Q ⟨μ, S, ρ, w, S', ok, en, e, q⟩ => by
    unfold popE at e
    cases h1 : mo ρ S with
    | none => rw [h1] at e; cases e
    | some p =>
      obtain ⟨w1, S1⟩ := p
      rw [h1, Option.bind_some] at e
      cases h2 : cellOf w1 with
      | none => simp only [h2] at e; cases e
      | some n =>
        simp only [h2, Option.bind_some] at e
        cases h3 : liveAt S1 n with
        | none => rw [h3] at e; cases e
        | some xs =>
          rw [h3, Option.bind_some] at e
          cases hx : xs[xs.length - 1]? with
          | none => rw [hx] at e; cases e
          | some x =>
            rw [hx, Option.bind_some] at e
            cases e
            rw [cellOf_eq h2] at h1
            refine ⟨μ, S, ρ, _, S1, ok, en, h1, fun v H1 μ1 st1 r1 => ?_⟩
            cases r1 with | @m _ c1 hm =>
            obtain ⟨c, us, hc, hH, hl2⟩ := st1.sto.cell n xs (liveAt_eq h3)
            rw [hm] at hc; cases hc
            obtain ⟨z, hz2, rz⟩ := hl2.get hx
            refine ⟨tyV_cell hH, _, us, z, rfl, rfl, hH, by rw [← hl2.length]; exact hz2, ?_⟩
            have st3 := Stp.put st1.sto (liveAt_eq h3) hm hH hl2.dropLast
            exact q _ _ μ1 (st1.trans ok st3) (.d (rz.mono (st3.keeps st1.sto)))
end

/-! ### list(range(a, b)) -/
def rangeLE (a b : CE) : CE := fun ρ S => (a ρ S).bind fun p => (b ρ p.2).bind fun z => (asInt p.1).bind fun i => (asInt z.1).bind fun j =>
  if (okR i && okR j && decide ((j - i).toNat ≤ lim)) = true then some (.d (.list (rangeD i (j - i).toNat)), z.2) else none
theorem rep_range {K : PySem.W.Frag} {H : Hp} (i : Int) : ∀ l : List Nat, RepL K H (l.map fun n => PyData.int (i + (n : Nat))) (l.map fun n => V.int (i + (n : Nat)))
  | [] => .nil
  | _ :: r => .cons (.int _) (rep_range i r)
theorem se_rangeL {X : Cx} {a b : Expr} {ma mb : CE} {p p2 p3 pos : Pos} (hc : X.calm = true) (h : SE X a ma) (h2 : SE X b mb) (hl : Gl X "list") (hlm : X.mg "list" = none) (hg : Gl X "range") (hm : X.mg "range" = none)
    (na : starEach [a, b] X.env = (false, eval a X.env) :: starEach [b] X.env) (nb : starEach [b] X.env = (false, eval b X.env) :: starEach [] X.env) (hp : (backTo p3 (starEach [b] X.env)).any (·.1) = false) :
    SE X (.Call (.Name "list" p) [.Call (.Name "range" p2) [a, b] [] p3] [] pos) (rangeLE ma mb) := PE.imp (pe_fz (pe_listRg hc hl hlm (prg_2 hg hm h h2 na nb hp) rfl)) fun σ H Q ⟨μ, S, ρ, w, S', ok, en, e, q⟩ => by
  unfold rangeLE at e
  cases h1 : ma ρ S with
  | none => rw [h1] at e; cases e
  | some p =>
    obtain ⟨w1, S1⟩ := p
    rw [h1, Option.bind_some] at e
    cases h2 : mb ρ S1 with
    | none => simp only [h2] at e; cases e
    | some p2 =>
      obtain ⟨w2, S2⟩ := p2
      simp only [h2, Option.bind_some] at e
      cases hi : asInt w1 with
      | none => rw [hi] at e; cases e
      | some i =>
        rw [hi, Option.bind_some] at e
        cases hj : asInt w2 with
        | none => rw [hj] at e; cases e
        | some j =>
          rw [hj, Option.bind_some] at e
          split at e
          · rename_i hz
            simp only [Bool.and_eq_true, decide_eq_true_eq] at hz
            obtain ⟨⟨z1, z2⟩, z3⟩ := hz
            cases e
            refine ⟨μ, S, ρ, w1, S1, ok, en, h1, fun v H1 μ1 st1 r1 => ⟨μ1, S1, ρ, w2, _, st1.sto, en.step ok st1, h2, fun u H2 μ2 st2 r2 => ?_⟩⟩
            have b1 := okR_lt z1
            have b2 := okR_lt z2
            refine ⟨i, j, asInt_of r1 hi, asInt_of r2 hj, ⟨b1.1, b1.2, b2.1, b2.2, Nat.le_trans z3 (by decide)⟩, fun q1 hq => .inl ⟨q1, _, rfl, upd_same, fun o => ?_⟩⟩
            rw [upd_upd]
            exact q _ _ μ2 ((st1.trans ok st2).trans ok (.new st2.sto hq)) (.d (.lst (.inl ⟨o, upd_same⟩) (rep_range i _)))
          · cases e

/-! ### what a def promises -/
/-- an exception that leaves a def: its class's name, its fields -/
abbrev Exn := Str × List (Str × PyData)
def FX (K : PySem.W.Frag) (mg : Str → Option Value) (exn : List W → Sto → Option (Exn × Sto)) : List V → Hp → XK → Prop := fun xs H E => ∃ μ S ws e S', StoOk K H μ S ∧ WRepL K H μ ws xs ∧ exn ws S = some (e, S') ∧ ∀ cls d H' μ', Stp K μ S H μ' S' H' → ExRep K mg H' e.1 e.2 cls d → E cls d H'
structure FnG (P : Program) (w : World) (K : PySem.W.Frag) (mg : Str → Option Value) (base : Heap) (k : Nat) (f : Addr) (fd : FuncData) (ps : List Str) (run : List W → Sto → Option (W × Sto)) (exn : List W → Sto → Option (Exn × Sto)) : Prop where
  runx : ∀ (A : Around) (outer : List Env) (s : Shared) (H : Hp) (args : Args) (us : List Value) (vs : List V) (E : XK), Room k A → A.guards = some [] → Env0 P w K mg base A outer s H → BindsTo s fd args (ps.zip us) → Vals vs us → vs.length = ps.length → FX K mg exn vs H E →
    codeAny (model P w) A (.call (.ref f) args) (CR (L2.CX P w) outer P w H s (fun _ _ => False) E) s
  run : ∀ (A : Around) (outer : List Env) (s : Shared) (H : Hp) (args : Args) (us : List Value) (vs : List V) (Q : VK), Room k A → A.guards = some [] → Env0 P w K mg base A outer s H → BindsTo s fd args (ps.zip us) → Vals vs us → vs.length = ps.length → FN K run vs H Q →
    codeAny (model P w) A (.call (.ref f) args) (CR CX0 outer P w H s Q E0) s
/-- a def that is called: its parameters, what it does, how keywords are put in order -/
structure Callee where
  ps : List Str
  run : List W → Sto → Option (W × Sto)
  exn : List W → Sto → Option (Exn × Sto)
  arr : List (Nat × List Str × List Nat)
def atV (perm : List Nat) (vs : List V) : List V := perm.map fun i => vs.getD i .non
def atU (perm : List Nat) (us : List Value) : List Value := perm.map fun i => us.getD i .none
def atW (perm : List Nat) (ws : List W) : List W := perm.map fun i => ws.getD i (.d .none)
theorem vals_at {vs : List V} {us : List Value} (h : Vals vs us) : ∀ perm : List Nat, Vals (atV perm vs) (atU perm us)
  | [] => .nil
  | i :: r => by
    refine .cons ?_ (vals_at h r)
    show RelV (vs.getD i .non) (us.getD i .none)
    rw [List.getD_eq_getElem?_getD, List.getD_eq_getElem?_getD]
    cases e : vs[i]? with
    | none => rw [h.none_of e]; rfl
    | some v =>
      obtain ⟨u, hu, r⟩ := h.get e
      rw [hu]; exact r
theorem wrep_get {K : PySem.W.Frag} {H : Hp} {μ : List Addr} : ∀ {ws : List W} {vs : List V} (i : Nat), WRepL K H μ ws vs → WRep K H μ (ws.getD i (.d .none)) (vs.getD i .non)
  | _, _, i, .nil => by simpa using WRep.d .non
  | _, _, 0, .cons r _ => r
  | _, _, i + 1, .cons _ l => wrep_get i l
theorem wrep_at {K : PySem.W.Frag} {H : Hp} {μ : List Addr} {ws : List W} {vs : List V} (h : WRepL K H μ ws vs) : ∀ perm : List Nat, WRepL K H μ (atW perm ws) (atV perm vs)
  | [] => .nil
  | i :: r => .cons (wrep_get i h) (wrep_at h r)
theorem WRepL.append {K : PySem.W.Frag} {H : Hp} {μ : List Addr} : ∀ {ws zs : List W} {vs us : List V}, WRepL K H μ ws vs → WRepL K H μ zs us → WRepL K H μ (ws ++ zs) (vs ++ us)
  | _, _, _, _, .nil, h => h
  | _, _, _, _, .cons r l, h => .cons r (WRepL.append l h)
structure CalleeOk (X : Cx) (x : Str) (c : Callee) : Prop where
  ex : ∃ (f : Addr) (fd : FuncData) (k : Nat), X.mg x = some (.ref f) ∧ PySem.W.keepIn X.K (.ref f) = true ∧ Room k X.A ∧ FnG X.prog X.w X.K X.mg X.base k f fd c.ps c.run c.exn ∧
    (∀ (s : Shared) (us : List Value), us.length = c.ps.length → BindsTo s fd ⟨us, []⟩ (c.ps.zip us)) ∧
    (∀ a ∈ c.arr, ∀ (s : Shared) (us ws : List Value), us.length = a.1 → ws.length = a.2.1.length → BindsTo s fd ⟨us, a.2.1.zip ws⟩ (c.ps.zip (atU a.2.2 (us ++ ws)))) ∧ ∀ a ∈ c.arr, a.2.2.length = c.ps.length
  guards : X.A.guards = some []
def callF (c : Callee) : List W → Sto → Option (W × Sto) := fun ws S => if ws.length = c.ps.length then c.run ws S else none
section
variable {X : Cx} {x : Str} {p pos : Pos} {e : Expr} {es : List Expr} {c : Callee} {ml mk : CL} {kws : List Keyword}
theorem FN_len {K : PySem.W.Frag} {xs : List V} {H : Hp} {Q : VK} (h : FN K (callF c) xs H Q) : xs.length = c.ps.length ∧ FN K c.run xs H Q := by
  obtain ⟨μ, S, ws, w, S', ok, r, e, q⟩ := h
  unfold callF at e
  split at e
  · rename_i hl
    exact ⟨by rw [← r.length]; exact hl, μ, S, ws, w, S', ok, r, e, q⟩
  · cases e
theorem runs_to {pins : List (Addr × Obj)} {σ : L2.St} {H : Hp} {s : Shared} {Q : VK} {f : Addr} {fd : FuncData} {k : Nat} {ps : List Str} {run : List W → Sto → Option (W × Sto)} {exn : List W → Sto → Option (Exn × Sto)} {args : Args} {us : List Value} {vs : List V} (F : FnG X.prog X.w X.K X.mg X.base k f fd ps run exn) (hr : Room k X.A) (hg : X.A.guards = some [])
    (I : Inv X pins σ H s) (hb : BindsTo s fd args (ps.zip us)) (r : Vals vs us) (hl : vs.length = ps.length) (h : FN X.K run vs H Q) : codeAny (model X.prog X.w) X.A (.call (.ref f) args) (fun r s' => match r with
      | .ok (.ret u) => EP X pins σ Q u s'
      | _ => False) s :=
  codeAny_mono (F.run X.A X.stack s H args us vs Q hr hg I.env0 hb r hl h) fun r s' q => by
    cases r with
    | error _ => exact q
    | ok fl =>
      cases fl with
      | ret u => exact I.after q
      | next => exact q
      | brk => exact q
      | cont => exact q
theorem se_call (C : CalleeOk X x c) (hg : Gl X x) (ha : SL X (e :: es) ml) (hdb : (x == ("__debug__" : Str)) = false) (he : starEach (e :: es) X.env = (false, eval e X.env) :: starEach es X.env) (hpl : (backTo pos (starEach es X.env)).any (·.1) = false) :
    SE X (.Call (.Name x p) (e :: es) [] pos) (appE (callF c) ml) := by
  obtain ⟨f, fd, k, hm, hk, hr, F, hb, _⟩ := C.ex
  refine ⟨fun pins s σ H Q I h => wpAny_Call_Name_kw (ld_glob I hg hm ?_ hdb)⟩
  refine PySem.W.callWith_K (h₀ := X.base) I.ok.mod.kin hk (thn (ha.run pos pins s σ H _ I (rd_app h)) fun us s1 ⟨vs, H1, I1, r, q⟩ => ⟨I1.kIn, ?_⟩) he hpl
  obtain ⟨hl, q⟩ := FN_len q
  refine wpAny_call (codeAny_mono (runs_to F hr C.guards I1 (hb s1 us (by rw [← r.length]; exact hl)) r hl q) fun r s' z => ?_)
  cases r with
  | error _ => exact z.elim
  | ok fl => cases fl <;> exact z
/-- with keywords -/
def kwE (c : Callee) (perm : List Nat) (l k : CL) : CE := fun ρ S => (l ρ S).bind fun p => (k ρ p.2).bind fun q => c.run (atW perm (p.1 ++ q.1)) q.2
abbrev SK (X : Cx) (kws : List Keyword) (m : CL) : Prop := PK X kws (rdL X.K m)
theorem PK.imp {X : Cx} {es : List Keyword} {t t' : TA} (h : PK X es t) (i : ∀ σ H Q, t' σ H Q → t σ H Q) : PK X es t' := ⟨fun pos pins s σ H Q I q => h.run pos pins s σ H Q I (i σ H Q q)⟩
theorem sk_nil : SK X [] nilL := PK.imp pk_nil fun σ H Q ⟨μ, S, ρ, w, S', ok, en, e, q⟩ => by
  cases e
  exact q _ H μ (.refl ok) .nil
theorem sk_cons {nm : Option Str} {kpos : Pos} {ma : CE} (ha : SE X e ma) (hr : SK X kws mk) : SK X (⟨nm, e, kpos⟩ :: kws) (consL ma mk) :=
  PK.imp (pk_cons ha hr) fun _ _ _ h => rd_cons h
theorem rd_kw {K : PySem.W.Frag} {σ : L2.St} {H : Hp} {Q : VK} {perm : List Nat} (h : rdE K (kwE c perm ml mk) σ H Q) : rdL K ml σ H fun vs H1 => rdL K mk σ H1 fun zs H2 => FN K c.run (atV perm (vs ++ zs)) H2 Q := by
  obtain ⟨μ, S, ρ, w, S', ok, en, e, q⟩ := h
  unfold kwE at e
  cases h1 : ml ρ S with
  | none => rw [h1] at e; cases e
  | some p =>
    obtain ⟨ws, S1⟩ := p
    rw [h1, Option.bind_some] at e
    cases h2 : mk ρ S1 with
    | none => rw [h2] at e; cases e
    | some p2 =>
      obtain ⟨zs, S2⟩ := p2
      rw [h2, Option.bind_some] at e
      refine ⟨μ, S, ρ, ws, S1, ok, en, h1, fun vs H1 μ1 st1 r1 => ⟨μ1, S1, ρ, zs, S2, st1.sto, en.step ok st1, h2, fun us H2 μ2 st2 r2 => ?_⟩⟩
      have r12 := (r1.mono (st2.keeps st1.sto) st2.pre).append r2
      exact ⟨μ2, S2, _, w, S', st2.sto, wrep_at r12 perm, e, fun v H' μ' st3 r3 => q v H' μ' ((st1.trans ok st2).trans ok st3) r3⟩
theorem rdL_len {K : PySem.W.Frag} {σ : L2.St} {H : Hp} {Q : List V → Hp → Prop} (n : Nat) (hn : ∀ ρ S r, ml ρ S = some r → r.1.length = n) (h : rdL K ml σ H Q) : rdL K ml σ H fun vs H1 => vs.length = n ∧ Q vs H1 := by
  obtain ⟨μ, S, ρ, ws, S', ok, en, e, q⟩ := h
  exact ⟨μ, S, ρ, ws, S', ok, en, e, fun vs H1 μ1 st r => ⟨by rw [← r.length]; exact hn _ _ _ e, q vs H1 μ1 st r⟩⟩
theorem se_callK {perm : List Nat} {ks : List Str} (C : CalleeOk X x c) (hg : Gl X x) (ha : SL X (e :: es) ml) (hkw : SK X kws mk) (n1 : ∀ ρ S r, ml ρ S = some r → r.1.length = (e :: es).length) (n2 : ∀ ρ S r, mk ρ S = some r → r.1.length = ks.length)
    (ho : ((e :: es).length, ks, perm) ∈ c.arr) (hall : (backToKw pos (keywordEach kws X.env)).all (·.1.isSome) = true) (hks : (backToKw pos (keywordEach kws X.env)).filterMap (·.1) = ks)
    (hdb : (x == ("__debug__" : Str)) = false) (he : starEach (e :: es) X.env = (false, eval e X.env) :: starEach es X.env)
    (hpl : ((backTo pos (starEach (e :: es) X.env)).any (·.1) || (backToKw pos (keywordEach kws X.env)).any (·.1.isNone)) = false) :
    SE X (.Call (.Name x p) (e :: es) kws pos) (kwE c perm ml mk) := by
  obtain ⟨f, fd, k, hm, hk, hr, F, _, hb, hpl2⟩ := C.ex
  refine ⟨fun pins s σ H Q I h => wpAny_Call_Name_kw (ld_glob I hg hm ?_ hdb)⟩
  refine PySem.W.callWith_KW (h₀ := X.base) I.ok.mod.kin hk hall (thn (ha.run pos pins s σ H _ I (rdL_len _ n1 (rd_kw h))) fun us s1 ⟨vs, H1, I1, r, l1, q⟩ => ?_) hpl he
  refine thn (hkw.run pos pins s1 σ H1 _ I1 (rdL_len _ n2 q)) fun ws s2 ⟨zs, H2, I2, rz, l2, q2⟩ => ⟨I2.kIn, ?_⟩
  rw [hks]
  have rr := vals_at (r.append rz) perm
  have hl : (atV perm (vs ++ zs)).length = c.ps.length := by unfold atV; rw [List.length_map]; exact hpl2 _ ho
  refine wpAny_call (codeAny_mono (runs_to F hr C.guards I2 (hb _ ho s2 us ws (by rw [← r.length]; exact l1) (by rw [← rz.length]; exact l2)) rr hl q2) fun r s' z => ?_)
  cases r with
  | error _ => exact z.elim
  | ok fl => cases fl <;> exact z
theorem se_callK0 {perm : List Nat} {ks : List Str} (C : CalleeOk X x c) (hg : Gl X x) (hkw : SK X kws mk) (n2 : ∀ ρ S r, mk ρ S = some r → r.1.length = ks.length)
    (ho : (0, ks, perm) ∈ c.arr) (hall : (backToKw pos (keywordEach kws X.env)).all (·.1.isSome) = true) (hks : (backToKw pos (keywordEach kws X.env)).filterMap (·.1) = ks)
    (hdb : (x == ("__debug__" : Str)) = false)
    (hpl : ((backTo pos (starEach [] X.env)).any (·.1) || (backToKw pos (keywordEach kws X.env)).any (·.1.isNone)) = false) :
    SE X (.Call (.Name x p) [] kws pos) (kwE c perm nilL mk) := by
  obtain ⟨f, fd, k, hm, hk, hr, F, _, hb, hpl2⟩ := C.ex
  refine ⟨fun pins s σ H Q I h => wpAny_Call_Name_kw (ld_glob I hg hm ?_ hdb)⟩
  have h1 : rdL X.K mk σ H fun zs H2 => FN X.K c.run (atV perm ([] ++ zs)) H2 Q := by
    obtain ⟨μ, S, ρ, ws, S', ok, en, e, q⟩ := rd_kw h
    cases e
    exact q [] H μ (.refl ok) .nil
  refine PySem.W.callWith_KW0 (h₀ := X.base) I.ok.mod.kin hk hall (thn (hkw.run pos pins s σ H _ I (rdL_len _ n2 h1)) fun ws s2 ⟨zs, H2, I2, rz, l2, q2⟩ => ⟨I2.kIn, ?_⟩) hpl
  rw [hks]
  have rr := vals_at rz perm
  have hl : (atV perm zs).length = c.ps.length := by unfold atV; rw [List.length_map]; exact hpl2 _ ho
  refine wpAny_call (codeAny_mono (runs_to F hr C.guards I2 (hb _ ho s2 [] ws rfl (by rw [← rz.length]; exact l2)) rr hl q2) fun r s' z => ?_)
  cases r with
  | error _ => exact z.elim
  | ok fl => cases fl <;> exact z
end

/-! ### a def by its body -/
def startR (n : Nat) (ws : List W) : Rho := ws.map some ++ List.replicate (n - ws.length) none
/-- at a def's end the cells that it made are let go; one that is handed back is the caller's -/
def leave (L : Nat) : W → Sto → Option (W × Sto)
  | .d x, S => some (.d x, S.take L)
  | .m n, S => if n < L then some (.m n, S.take L) else match S[n]? with
    | some (some xs) => some (.m L, S.take L ++ [some xs])
    | _ => none
def runD (n : Nat) (m : CS) : List W → Sto → Option (W × Sto) := fun ws S => (m (startR n ws) S).bind fun p => match p.1 with
  | .rt w => leave S.length w p.2.2
  | .nx => leave S.length (.d .none) p.2.2
  | _ => none
section
variable {K : PySem.W.Frag} {H H' : Hp} {μ μ' : List Addr} {S S' : Sto}
theorem env_start {ws : List W} {vs : List V} (N : List Str) (r : WRepL K H μ ws vs) : EnvOk K H μ (startR N.length ws) (L2.start N vs) := by
  have hl := r.length
  refine ⟨by unfold startR L2.start; simp [hl], fun i w h => ?_⟩
  unfold startR at h
  unfold L2.start
  by_cases hi : i < ws.length
  · rw [List.getElem?_append_left (by simpa using hi), List.getElem?_map] at h
    rw [List.getElem?_append_left (by simpa [← hl] using hi), List.getElem?_map]
    cases e : ws[i]? with
    | none => rw [e] at h; cases h
    | some z =>
      rw [e] at h; cases h
      have hv : i < vs.length := by rw [← hl]; exact hi
      have := wrep_get i r
      rw [List.getD_eq_getElem?_getD, List.getD_eq_getElem?_getD, e, List.getElem?_eq_getElem hv] at this
      exact ⟨vs[i], by rw [List.getElem?_eq_getElem hv]; rfl, this⟩
  · rw [List.getElem?_append_right (by simpa using hi), List.getElem?_replicate] at h
    split at h <;> cases h
theorem cut_step (ok : StoOk K H μ S) (s : Stp K μ S H μ' S' H') : Stp K μ S H μ (S'.take S.length) H' := by
  have hm : μ'.take S.length = μ := by
    obtain ⟨r, rfl⟩ := s.pre
    rw [← ok.len]; simp
  have sto := s.sto.cut S.length
  rw [hm] at sto
  refine ⟨List.prefix_rfl, sto, s.ext, fun _ h => .inl h, fun n e => ?_⟩
  rw [List.getElem?_take_of_lt (List.getElem?_eq_some_iff.mp e).1]
  exact s.dead n e
theorem leave_ok (ok : StoOk K H μ S) (s : Stp K μ S H μ' S' H') {w w' : W} {S2 : Sto} {v : V} (e : leave S.length w S' = some (w', S2)) (r : WRep K H' μ' w v) : ∃ μ2, Stp K μ S H μ2 S2 H' ∧ WRep K H' μ2 w' v := by
  have hm : μ'.take S.length = μ := by
    obtain ⟨r, rfl⟩ := s.pre
    rw [← ok.len]; simp
  have st := cut_step ok s
  cases w with
  | d x =>
    have e' : some (W.d x, S'.take S.length) = some (w', S2) := e
    cases e'
    cases r with | d r => exact ⟨μ, st, .d r⟩
  | m n =>
    have e' : (if n < S.length then some (W.m n, S'.take S.length) else match S'[n]? with
      | some (some xs) => some (.m S.length, S'.take S.length ++ [some xs])
      | _ => none) = some (w', S2) := e
    cases r with | @m _ c hc =>
    split at e'
    · rename_i hn
      cases e'
      refine ⟨μ, st, .m ?_⟩
      rw [← hm, List.getElem?_take_of_lt hn]; exact hc
    · rename_i hn
      cases hx : S'[n]? with
      | none => rw [hx] at e'; cases e'
      | some z =>
        cases z with
        | none => rw [hx] at e'; cases e'
        | some xs =>
          rw [hx] at e'
          cases e'
          obtain ⟨a, vs, h1, h2, h3⟩ := s.sto.cell n xs hx
          rw [hc] at h1; cases h1
          have nc : c ∉ μ := fun m => by
            obtain ⟨i, hi⟩ := List.getElem?_of_mem m
            have hi' := mt_up s.pre hi
            have := nd_inj s.sto.nd hi' hc
            subst this
            have := (List.getElem?_eq_some_iff.mp hi).1
            rw [ok.len] at this; omega
          have hH : H c = none := (s.fresh c (List.mem_of_getElem? hc)).resolve_left nc
          have hlt : (S'.take S.length).length = S.length := by
            rw [List.length_take]; have := s.len ok; omega
          refine ⟨μ ++ [c], ⟨⟨[c], rfl⟩, ⟨by simp [ok.len]; exact (Nat.min_eq_left (s.len ok)).symm, ?_, fun b m => ?_, fun k ys e => ?_⟩, s.ext, fun b m => ?_, fun k e => ?_⟩, .m ?_⟩
          · rw [List.nodup_append]
            exact ⟨ok.nd, by simp, fun a ha b hb e => by simp at hb; subst hb; subst e; exact nc ha⟩
          · rcases List.mem_append.mp m with m | m
            · exact st.sto.there b m
            · simp at m; subst m; exact ⟨_, h2⟩
          · by_cases hk : k < (S'.take S.length).length
            · rw [List.getElem?_append_left hk] at e
              obtain ⟨a, ws, g1, g2, g3⟩ := st.sto.cell k ys e
              exact ⟨a, ws, by rw [List.getElem?_append_left (List.getElem?_eq_some_iff.mp g1).1]; exact g1, g2, g3⟩
            · rw [List.getElem?_append_right (by omega)] at e
              have e0 : k - (S'.take S.length).length = 0 := by
                have := (List.getElem?_eq_some_iff.mp e).1
                simp only [List.length_singleton] at this
                exact Nat.lt_one_iff.mp this
              rw [e0] at e
              simp at e; subst e
              have ek : k = μ.length := by rw [ok.len, ← hlt]; omega
              exact ⟨c, vs, by rw [ek, List.getElem?_append_right (Nat.le_refl _), Nat.sub_self]; rfl, h2, h3⟩
          · rcases List.mem_append.mp m with m | m
            · exact .inl m
            · simp at m; subst m; exact .inr hH
          · rw [List.getElem?_append_left (by rw [hlt]; exact (List.getElem?_eq_some_iff.mp e).1), List.getElem?_take_of_lt (List.getElem?_eq_some_iff.mp e).1]
            exact s.dead k e
          · rw [← ok.len, List.getElem?_append_right (Nat.le_refl _), Nat.sub_self]; rfl
end
section
variable {P : Program} {w : World} {K : PySem.W.Frag} {mg : Str → Option Value} {base : Heap}
def runX (n : Nat) (m : CS) : List W → Sto → Option (Exn × Sto) := fun ws S => (m (startR n ws) S).bind fun p => match p.1 with
  | .ex x as => some ((x, as), p.2.2.take S.length)
  | _ => none
theorem fnG_of {x qual : Str} {st : Stmt} {f : Addr} {fd : FuncData} {N ps : List Str} {k : Nat} {m : CS} (F : Fun K x qual st f fd) (Sc : FnScope N ps (defScope st))
    (hb : ∀ (cdv : Value) (A : Around) (outer : List Env) (s : Shared) (H : Hp), Room k (A.deeper (envOfC qual (defScope st) s.heap.objs.size f cdv)) → A.guards = some [] →
      SSs (cxOf CX0 P w K mg base N qual (defScope st) f cdv A outer s H E0).nox (defBody st) m)
    (hx : ∀ (cdv : Value) (A : Around) (outer : List Env) (s : Shared) (H : Hp) (E : XK), Room k (A.deeper (envOfC qual (defScope st) s.heap.objs.size f cdv)) → A.guards = some [] →
      SSs (cxOf (L2.CX P w) P w K mg base N qual (defScope st) f cdv A outer s H E) (defBody st) m) : FnG P w K mg base (k + 1) f fd ps (runD N.length m) (runX N.length m) := by
  constructor
  · intro A outer s H args us vs E hr hg e0 hbi r hl ⟨μ, S, ws, ee, S', ok, rw0, e, q⟩
    obtain ⟨oc, od, kV, doc, pm, an, cdv, ct, osl, rfl, lk, hcd⟩ := F.ex
    have kp : ∀ b o, base.get? b = some o → s.heap.get? b = some o := fun b o z => (e0.bs b o z).1
    have hps : ps.length = us.length := by rw [← r.length]; exact hl.symm
    refine Att.call_fn (e0.mod.kin.keeps kp) (e0.mod.nolimit.keeps kp) lk hcd hr.depth hbi ?_ (fun s1 x => ?_) Sc.co Sc.gen Sc.kind
    · rw [List.all_eq_true]
      rintro ⟨n, v⟩ hy
      rcases Sc.par n (List.of_mem_zip hy).1 with z | z <;> simp [z]
    have I := inv_start (CX := L2.CX P w) (N := N) (qual := qual) (f := f) (cd := cdv) (E := E) Sc hr.hd e0 hl r x
    unfold runX at e
    cases hx2 : m (startR N.length ws) S with
    | none => rw [hx2] at e; cases e
    | some p =>
      obtain ⟨fl, ρ1, S1⟩ := p
      rw [hx2, Option.bind_some] at e
      have en := env_start N rw0
      cases fl with
      | nx => cases e
      | bk => cases e
      | ct => cases e
      | rt w => cases e
      | ex n as =>
        cases e
        have run := (hx cdv A outer s H E (hr.deeper _) hg).run [] s1 (L2.start N vs) H { nx := fun _ _ => False, rt := fun _ _ => False } I ⟨μ, S, _, .ex n as, ρ1, S1, ok, en, hx2, fun σ1 H1 μ1 st1 en1 => ?_⟩
        · refine wpAny_mono run (fun fl' s' z => ?_) fun _ _ z => z
          cases fl' with
          | next => obtain ⟨σ2, H2, J, q2⟩ := z; exact q2.elim
          | brk => obtain ⟨σ2, H2, J, q2⟩ := z; exact q2.elim
          | cont => obtain ⟨σ2, H2, J, q2⟩ := z; exact q2.elim
          | ret u => obtain ⟨v, σ2, H2, J, rv, q2⟩ := z; exact q2.elim
        · intro cls d xr
          exact WOf_of (takes_of (X := cxOf (L2.CX P w) P w K mg base N qual (defScope st) f cdv A outer s H E) (E := E) rfl rfl rfl rfl) (q cls d H1 μ (cut_step ok st1) xr)
  intro A outer s H args us vs Q hr hg e0 hbi r hl ⟨μ, S, ws, w0, S', ok, rw0, e, q⟩
  obtain ⟨oc, od, kV, doc, pm, an, cdv, ct, osl, rfl, lk, hcd⟩ := F.ex
  have kp : ∀ b o, base.get? b = some o → s.heap.get? b = some o := fun b o z => (e0.bs b o z).1
  have hps : ps.length = us.length := by rw [← r.length]; exact hl.symm
  refine Att.call_fn (e0.mod.kin.keeps kp) (e0.mod.nolimit.keeps kp) lk hcd hr.depth hbi ?_ (fun s1 x => ?_) Sc.co Sc.gen Sc.kind
  · rw [List.all_eq_true]
    rintro ⟨n, v⟩ hy
    rcases Sc.par n (List.of_mem_zip hy).1 with z | z <;> simp [z]
  have I := (inv_start (CX := CX0) (N := N) (qual := qual) (f := f) (cd := cdv) (E := E0) Sc hr.hd e0 hl r x).wish (fun _ _ => False)
  unfold runD at e
  cases hx : m (startR N.length ws) S with
  | none => rw [hx] at e; cases e
  | some p =>
    obtain ⟨fl, ρ1, S1⟩ := p
    rw [hx, Option.bind_some] at e
    have en := env_start N rw0
    -- what is wanted behind the body
    have run := (hb cdv A outer s H (hr.deeper _) hg).run [] s1 (L2.start N vs) H { nx := fun _ H' => Q .non H', rt := Q } I ⟨μ, S, _, fl, ρ1, S1, ok, en, hx, fun σ1 H1 μ1 st1 en1 => ?_⟩
    · refine wpAny_mono run (fun fl' s' z => ?_) fun _ _ z => z.elim
      have fin : ∀ {σ' : L2.St} {H' : Hp} {v : V} {u : Value}, Inv (cxOf CX0 P w K mg base N qual (defScope st) f cdv A outer s H E0).nox [] σ' H' s' → RelV v u → Q v H' → L2.CE outer P w H s Q u s' :=
        fun {σ' H' v u} J rv q' => ⟨v, H', J.os, J.bare, J.base, J.hok, rv, q'⟩
      cases fl' with
      | next => obtain ⟨σ2, H2, J, q2⟩ := z; exact fin (v := .non) J rfl q2
      | brk => obtain ⟨σ2, H2, J, q2⟩ := z; exact q2.elim
      | cont => obtain ⟨σ2, H2, J, q2⟩ := z; exact q2.elim
      | ret u => obtain ⟨v, σ2, H2, J, rv, q2⟩ := z; exact fin J rv q2
    · cases fl with
      | nx =>
        obtain ⟨μ2, st2, r2⟩ := leave_ok ok st1 e (.d .non)
        exact q _ H1 μ2 st2 r2
      | bk => cases e
      | ct => cases e
      | ex n as => cases e
      | rt wv =>
        intro v rv
        obtain ⟨μ2, st2, r2⟩ := leave_ok ok st1 e rv
        exact q _ H1 μ2 st2 r2
end
end PD

/-! PD, part 6: from the text to the functions, and that it is so. -/
namespace PD
open PySem PySem.Spec PyProof.Rows L2 RZ RT

structure Ctx where
  N : List Str
  fns : List (Str × Callee)
  cst : List (Str × PyData)
  bfn : List (Str × String)
  blts : List Str
  keep : Bool
  mu : List Pos
  /-- callees that may raise here -/
  xs : List Str
  /-- whether raise is told -/
  rz : Bool
  /-- own classes of exceptions, with their fields -/
  cls : List (Str × List Str)
  /-- the names of classes that except clauses and isinstance ask for -/
  nms : List Str
  /-- which class stands under which -/
  sub : List (Str × Str × Bool)
  /-- what is not read: expressions and statements at which the reading is stuck -/
  sk : List Pos
def vis (sc : Scope) (x : Str) : Bool := match sc.names.lookup x with
  | some .local => true
  | some .cell => true
  | some .free => true
  | _ => false
def gl (sc : Scope) (x : Str) : Bool := match sc.names.lookup x with
  | some .globalImplicit => true
  | _ => false
def lcl (sc : Scope) (x : Str) : Bool := match sc.names.lookup x with
  | some .local => true
  | _ => false
def cel (sc : Scope) (x : Str) : Bool := match sc.names.lookup x with
  | some .cell => true
  | _ => false
def okName (x : Str) : Bool := !(x == ("__debug__" : Str)) && !(x == ("__classdict__" : Str)) && !(x == ("__name__" : Str))
def slot : List Str → Str → Option Nat
  | [], _ => none
  | y :: r, x => if y == x then some 0 else (slot r x).bind fun i => some (i + 1)
def notStar : Expr → Bool
  | .Starred _ _ => false
  | _ => true
def notComp : Expr → Bool
  | .ListComp _ _ _ _ => false
  | .SetComp _ _ _ _ => false
  | .DictComp _ _ _ _ _ => false
  | _ => true

def binG (mu : Bool) (op : Operator) : Option (W → W → Sto → Option (W × Sto)) := if mu = true then (match op with
  | .Add => some addM
  | .Mult => some repM
  | _ => none) else binF op
theorem so_binG {X : Cx} {mu : Bool} {op : Operator} {f : W → W → Sto → Option (W × Sto)} (h : binG mu op = some f) : OpR X (binaryOp op) (F2 X.K f) := by
  unfold binG at h
  split at h
  · cases op <;> cases h <;> first | exact so_addM | exact so_repM
  · exact so_bin h
/-- a name in a display: what it holds is frozen -/
def frzO (f : Expr → Option CE) (e : Expr) : Option CE := match e with
  | .Name _ _ => (f e).bind fun m => some (frzE m)
  | _ => f e
def cArgs (f : Expr → Option CE) : List Expr → Option CL
  | [] => some nilL
  | e :: r => if notStar e = true then (f e).bind fun m => (cArgs f r).bind fun l => some (consL m l) else none
def cKws (f : Expr → Option CE) : List Keyword → Option CL
  | [] => some nilL
  | ⟨nm, e, _⟩ :: r => if nm.isSome = true then (f e).bind fun m => (cKws f r).bind fun l => some (consL m l) else none
def cAndE (f : Expr → Option CE) : List Expr → Option CE
  | [] => none
  | [a] => f a
  | a :: r => (f a).bind fun m => (cAndE f r).bind fun n => some (andE m n)
def cOrE (f : Expr → Option CE) : List Expr → Option CE
  | [] => none
  | [a] => f a
  | a :: r => (f a).bind fun m => (cOrE f r).bind fun n => some (orE m n)
def cAndB (f : Expr → Option CB) : List Expr → Option CB
  | [] => none
  | [a] => f a
  | a :: r => (f a).bind fun m => (cAndB f r).bind fun n => some (andB m n)
def cOrB (f : Expr → Option CB) : List Expr → Option CB
  | [] => none
  | [a] => f a
  | a :: r => (f a).bind fun m => (cOrB f r).bind fun n => some (orB m n)
def cOpt (f : Expr → Option CE) : Option Expr → Option CO
  | none => some noO
  | some e => (f e).bind fun m => some (someO m)
/-- a built-in: whether it is a type, its name, what it does -/
structure BSpec where
  ty : Bool
  id : String
  f : List W → Sto → Option (W × Sto)
def bOf (x : Str) : Option BSpec :=
  if x = "len" then some ⟨false, "len", pfN lenP⟩ else
  if x = "int" then some ⟨true, "int", pfN intP⟩ else
  if x = "tuple" then some ⟨true, "tuple", pfN tupleP⟩ else
  if x = "abs" then some ⟨false, "abs", pfN absP⟩ else
  if x = "repr" then some ⟨false, "repr", pfN reprP⟩ else
  if x = "max" then some ⟨false, "max", pfN maxP⟩ else
  if x = "min" then some ⟨false, "min", pfN minP⟩ else
  if x = "sum" then some ⟨false, "sum", pfN sumP⟩ else
  if x = "all" then some ⟨false, "all", pfN allP⟩ else
  if x = "list" then some ⟨true, "list", pfN listP⟩ else
  if x = "divmod" then some ⟨false, "divmod", pfN divmodP⟩ else none
def tyName (x : Str) : Option String :=
  if x = "tuple" then some "tuple" else
  if x = "int" then some "int" else
  if x = "bool" then some "bool" else
  if x = "list" then some "list" else
  if x = "str" then some "str" else none
def rgArgs (x : Str) : List Expr → Option (Expr × Expr)
  | [.Call (.Name r _) [a, b] [] _] => if (x == ("list" : Str) && r == ("range" : Str)) = true then some (a, b) else none
  | _ => none
def cCall (c : Ctx) (f : Expr → Option CE) (sc : Scope) (x : Str) (args : List Expr) (kws : List Keyword) : Option CE :=
  if (gl sc x && okName x) = true then
    match c.fns.lookup x with
    | some cal => (match kws with
      | [] => (match args with
        | [] => none
        | e :: r => (cArgs f (e :: r)).bind fun l => some (appE (callF cal) l))
      | k :: ks => (match cal.arr.find? (fun a => a.1 == args.length && a.2.1 == (k :: ks).filterMap (·.arg)) with
        | some a => (cArgs f args).bind fun l => (cKws f (k :: ks)).bind fun m => some (kwE cal a.2.2 l m)
        | none => none))
    | none => (match kws with
      | [] => (match c.bfn.lookup x with
        | some id => if id = "math.gcd" then (match args with
            | [] => none
            | e :: r => (cArgs f (e :: r)).bind fun l => some (appE (pfN gcdP) l)) else none
        | none => if c.blts.contains x = true then (
            if x = "isinstance" then (match args with
              | [a, .Name T _] => if (gl sc T && c.blts.contains T && okName T && notStar a) = true then (tyName T).bind fun t => (f a).bind fun m => some (isiE t m) else none
              | _ => none)
            else (match rgArgs x args with
              | some (a, b) => if (gl sc "range" && c.blts.contains "range" && notStar a && notStar b) = true then (f a).bind fun m => (f b).bind fun k => some (rangeLE m k) else none
              | none => (match args with
                | [] => none
                | e :: r => (bOf x).bind fun b => (cArgs f (e :: r)).bind fun l => some (appE b.f l)))) else none)
      | _ => none)
  else none
def cMeth (f : Expr → Option CE) (o : Expr) (name : Str) (apos cpos : Pos) (args : List Expr) : Option CE :=
  match o with
  | .Name _ _ => if (apos.endLine == cpos.line) = true then
      (if name = "append" then (match args with
        | [a] => if notStar a = true then (f o).bind fun m => (f a).bind fun n => some (appendE m n) else none
        | _ => none)
      else if name = "pop" then (match args with
        | [a] => if notStar a = true then (f o).bind fun m => (f a).bind fun n => some (popAtE m n) else none
        | [] => (f o).bind fun m => some (popE m)
        | _ => none)
      else if name = "insert" then (match args with
        | [a, b] => if (notStar a && notStar b) = true then (f o).bind fun m => (f a).bind fun n => (f b).bind fun k => some (insertE m n k) else none
        | _ => none) else none) else none
  | _ => none
def cIter (c : Ctx) (f : Expr → Option CE) (sc : Scope) (tg it : Expr) : Option CI :=
  match it with
  | .Call (.Name x _) args [] _ => if (gl sc x && (c.fns.lookup x).isNone && c.blts.contains x) = true then (
      if x = "range" then (match args with
        | [a] => if notStar a = true then (f a).bind fun m => some (range1I m) else none
        | [a, b] => if (notStar a && notStar b) = true then (f a).bind fun m => (f b).bind fun n => some (range2I m n) else none
        | _ => none)
      else if x = "zip" then (match tg, args with
        | .Tuple _ _ _, [a, b] => if (notStar a && notStar b) = true then (f a).bind fun m => (f b).bind fun n => some (zipI m n) else none
        | .Tuple _ _ _, [a, b, d] => if (notStar a && notStar b && notStar d) = true then (f a).bind fun m => (f b).bind fun n => (f d).bind fun o => some (zip3I m n o) else none
        | _, _ => none)
      else if x = "enumerate" then (match tg, args with
        | .Tuple _ _ _, [a] => if notStar a = true then (f a).bind fun m => some (enumI m) else none
        | _, _ => none)
      else (f it).bind fun m => some (seqI m))
      else (f it).bind fun m => some (seqI m)
  | .Name _ _ => (f it).bind fun m => some (seqI (frzE m))
  | _ => (f it).bind fun m => some (seqI m)
def cTgts (g : Expr → Option (CG × List Nat)) : List Expr → Option (CGs × List Nat)
  | [] => some (nilG, [])
  | e :: r => if notStar e = true then (g e).bind fun (p : CG × List Nat) => (cTgts g r).bind fun (q : CGs × List Nat) => some (consG p.1 q.1, p.2 ++ q.2) else none
def cTgt (c : Ctx) (f : Expr → Option CE) (df : Bool) (sc : Scope) : Nat → Expr → Option (CG × List Nat)
  | 0, _ => none
  | n + 1, .Name x _ => if (lcl sc x || (df && cel sc x)) = true then (slot c.N x).bind fun i => some (nameG i, [i]) else none
  | n + 1, .Tuple es _ _ => (cTgts (cTgt c f df sc n) es).bind fun (p : CGs × List Nat) => some (tupG es.length p.1, p.2)
  | n + 1, .Subscript a b _ => if isSlice b = false then (f a).bind fun m => (f b).bind fun k => some (subG m k, []) else none
  | _, _ => none
def ownOf (N : List Str) (scope : Scope) : List (Str × Nat) := scope.names.filterMap fun y => match y.2 with
  | .local => (slot N y.1).bind fun i => some (y.1, i)
  | .cell => (slot N y.1).bind fun i => some (y.1, i)
  | _ => none
def cIfs (t : Expr → Option CB) : List Expr → Option CB
  | [] => some yesB
  | [x] => t x
  | _ => none
def cComp (c : Ctx) (f : Scope → Expr → Option CE) (t : Scope → Expr → Option CB) (sc : Scope) (mu : Bool) (elt : Expr) (gens : List Comprehension) (scope : Scope) : Option CE :=
  match gens with
  | [⟨tg, iter, ifs, a⟩] =>
    if (decide (a = 0) && blkC c.N sc scope (ownOf c.N scope) && notSet iter) = true then
      (cIter c (f sc) sc tg iter).bind fun ci => (cTgt c (f (relS scope sc)) false (relS scope sc) 4 tg).bind fun (g : CG × List Nat) =>
        if (g.2.all fun i => ((ownOf c.N scope).map Prod.snd).contains i) = true then
          (cIfs (t (relS scope sc)) ifs).bind fun tt => (f (relS scope sc) elt).bind fun m => some (lcE ((ownOf c.N scope).map Prod.snd) mu ci g.1 tt m)
        else none
    else none
  | _ => none
def cCmp (f : Expr → Option CE) (a : Expr) (ops : List CmpOp) (bs : List Expr) : Option CE :=
  match ops, bs with
  | [op], [b] => if notSet b = true then (cmpF op).bind fun g => (f a).bind fun m => (f b).bind fun n => some (binE g m n) else none
  | [op, op'], [b, d] => if notSet d = true then (cmpF op).bind fun g => (cmpF op').bind fun g' => (f a).bind fun m => (f b).bind fun n => (f d).bind fun k => some (chE g g' m n k) else none
  | _, _ => none
def cE1 (c : Ctx) (f : Scope → Expr → Option CE) (t : Scope → Expr → Option CB) (sc : Scope) (e : Expr) : Option CE :=
  match e with
  | .Constant (.int i) _ _ => some (constE (.int i))
  | .Constant (.bool b) _ _ => some (constE (.bool b))
  | .Constant .none _ _ => some (constE .none)
  | .Constant (.str x) _ _ => some (constE (.str x))
  | .Name x _ => if okName x = true then (if vis sc x = true then (slot c.N x).bind fun i => some (varE i) else if gl sc x = true then (c.cst.lookup x).bind fun d => some (constE d) else none) else none
  | .BinOp a op b pos => (binG (c.mu.contains pos) op).bind fun g => (f sc a).bind fun m => (f sc b).bind fun n => some (binE g m n)
  | .UnaryOp .USub a _ => (f sc a).bind fun m => some (unE (pf1 negP) m)
  | .UnaryOp .Not a _ => (f sc a).bind fun m => some (notE m)
  | .BoolOp .And es _ => cAndE (f sc) es
  | .BoolOp .Or es _ => cOrE (f sc) es
  | .IfExp q a b _ => (t sc q).bind fun k => (f sc a).bind fun m => (f sc b).bind fun n => some (ifE k m n)
  | .Compare a ops bs _ => cCmp (f sc) a ops bs
  | .Call (.Name x _) args kws _ => cCall c (f sc) sc x args kws
  | .Call (.Attribute o name apos) args [] cpos => cMeth (f sc) o name apos cpos args
  | .Subscript a (.Slice lo hi none _) _ => (f sc a).bind fun m => (cOpt (f sc) lo).bind fun l => (cOpt (f sc) hi).bind fun h => some (sliceE m l h)
  | .Subscript a (.Slice none none (some (.UnaryOp .USub (.Constant (.int 1) _ _) _)) _) _ => (f sc a).bind fun m => some (revE m)
  | .Subscript a b _ => if isSlice b = false then (f sc a).bind fun m => (f sc b).bind fun n => some (binE (pf2 ixP) m n) else none
  | .List es pos => if c.mu.contains pos = true then (cArgs (f sc) es).bind fun l => some (appE lstM l) else (cArgs (frzO (f sc)) es).bind fun l => some (appE lstF l)
  | .Tuple es _ _ => (cArgs (frzO (f sc)) es).bind fun l => some (appE tupF l)
  | .ListComp elt gens scope pos => cComp c f t sc (c.mu.contains pos) elt gens scope
  | .Dict [] [] _ => some (constE (.dict []))
  | .Dict [some (.Constant (.str x) _ _)] [.Constant (.int i) _ _] _ => some (constE (.dict [(.str x, .int i)]))
  | _ => none
def stuckE : CE := fun _ _ => none
def cE2 (c : Ctx) (f : Scope → Expr → Option CE) (t : Scope → Expr → Option CB) (sc : Scope) (e : Expr) : Option CE := if (notComp e && c.sk.contains e.pos) = true then some stuckE else cE1 c f t sc e
def plainT : Expr → Bool
  | .UnaryOp _ _ _ => false
  | .BoolOp _ _ _ => false
  | .Compare _ _ _ _ => false
  | .IfExp _ _ _ _ => false
  | _ => true
def cT1 (f : Expr → Option CE) (t : Expr → Option CB) (e : Expr) : Option CB :=
  match e with
  | .UnaryOp .Not a _ => (t a).bind fun m => some (notB m)
  | .BoolOp .And es _ => cAndB t es
  | .BoolOp .Or es _ => cOrB t es
  | .Compare a ops bs _ => (cCmp f a ops bs).bind fun m => some (valB m)
  | e => if plainT e = true then (f e).bind fun m => some (valB m) else none
def cet (c : Ctx) : Nat → (Scope → Expr → Option CE) × (Scope → Expr → Option CB)
  | 0 => (fun _ _ => none, fun _ _ => none)
  | n + 1 => (cE2 c (cet c n).1 (cet c n).2, fun sc => cT1 ((cet c n).1 sc) ((cet c n).2 sc))

/-! ### that it is so -/
structure Agree (c : Ctx) (X : Cx) (sc : Scope) : Prop where
  N : X.N = c.N
  nd : X.N.Nodup
  sc : X.env.scope = sc
  calm : X.calm = true
  guards : X.A.guards = some []
  units : X.A.units + 70 < cLine
  fns : ∀ x cal, c.fns.lookup x = some cal → CalleeOk X x cal
  cst : ∀ x d, c.cst.lookup x = some d → ∃ u v, X.mg x = some u ∧ RelV v u ∧ ∀ H, Rep X.K H d v
  bfn : ∀ x id, c.bfn.lookup x = some id → X.mg x = some (.builtin id)
  blts : ∀ x ∈ c.blts, X.mg x = none
theorem slot_get : ∀ {N : List Str} {x : Str} {i : Nat}, slot N x = some i → N[i]? = some x
  | [], _, _, h => by cases h
  | y :: r, x, i, h => by
    unfold slot at h
    split at h
    · rename_i e
      cases h
      rw [eq_of_beq e]; rfl
    · cases e : slot r x with
      | none => rw [e] at h; cases h
      | some j =>
        rw [e, Option.bind_some] at h
        cases h
        simpa using slot_get e
theorem vis_ok {sc : Scope} {x : Str} (h : vis sc x = true) : Vis sc x := by
  unfold vis at h
  split at h
  · exact .inl (by assumption)
  · exact .inr (.inl (by assumption))
  · exact .inr (.inr (by assumption))
  · cases h
theorem lcl_ok {sc : Scope} {x : Str} (h : lcl sc x = true) : sc.names.lookup x = some .local := by
  unfold lcl at h
  split at h
  · assumption
  · cases h
theorem cel_ok {sc : Scope} {x : Str} (h : cel sc x = true) : sc.names.lookup x = some .cell := by
  unfold cel at h
  split at h
  · assumption
  · cases h
theorem gl_ok {c : Ctx} {X : Cx} {sc : Scope} (A : Agree c X sc) {x : Str} (h : gl sc x = true) : Gl X x := by
  unfold gl at h
  split at h
  · show X.env.scope.names.lookup x = _
    rw [A.sc]; assumption
  · cases h
theorem okName_ok {x : Str} (h : okName x = true) : (x == ("__debug__" : Str)) = false ∧ (x == ("__classdict__" : Str)) = false ∧ x ≠ "__name__" := by
  unfold okName at h
  simp only [Bool.and_eq_true, Bool.not_eq_true'] at h
  exact ⟨h.1.1, h.1.2, fun e => by rw [e] at h; simp at h⟩
theorem star_cons {e : Expr} (h : notStar e = true) (es : List Expr) (env : Env) : starEach (e :: es) env = (false, eval e env) :: starEach es env := by
  cases e <;> first | rfl | cases h
theorem star_one {e : Expr} (h : notStar e = true) (env : Env) : starEach [e] env = [(false, eval e env)] := star_cons h [] env
theorem cArgs_star {f : Expr → Option CE} : ∀ {es : List Expr} {l : CL}, cArgs f es = some l → ∀ (env : Env) (pos : Pos), (backTo pos (starEach es env)).any (·.1) = false
  | [], _, _, _, _ => rfl
  | e :: r, l, h, env, pos => by
    unfold cArgs at h
    split at h
    · rename_i hs
      cases h1 : f e with
      | none => rw [h1] at h; cases h
      | some m =>
        rw [h1, Option.bind_some] at h
        cases h2 : cArgs f r with
        | none => rw [h2] at h; cases h
        | some l2 =>
          rw [star_cons hs]
          show (false || (backTo pos (starEach r env)).any (·.1)) = false
          rw [cArgs_star h2, Bool.false_or]
    · cases h
theorem cArgs_head {f : Expr → Option CE} {e : Expr} {r : List Expr} {l : CL} (h : cArgs f (e :: r) = some l) : notStar e = true := by
  unfold cArgs at h
  split at h
  · assumption
  · cases h
theorem cArgs_tail {f : Expr → Option CE} {e : Expr} {r : List Expr} {l : CL} (h : cArgs f (e :: r) = some l) : ∃ l2, cArgs f r = some l2 := by
  unfold cArgs at h
  split at h
  · cases h1 : f e with
    | none => rw [h1] at h; cases h
    | some m =>
      rw [h1, Option.bind_some] at h
      cases h2 : cArgs f r with
      | none => rw [h2] at h; cases h
      | some l2 => exact ⟨l2, rfl⟩
  · cases h
theorem consL_len {m : CE} {l : CL} {n : Nat} (hl : ∀ ρ S r, l ρ S = some r → r.1.length = n) : ∀ ρ S r, consL m l ρ S = some r → r.1.length = n + 1 := by
  intro ρ S r h
  unfold consL at h
  cases h1 : m ρ S with
  | none => rw [h1] at h; cases h
  | some p =>
    rw [h1, Option.bind_some] at h
    cases h2 : l ρ p.2 with
    | none => rw [h2] at h; cases h
    | some q =>
      rw [h2, Option.bind_some] at h
      cases h
      simp [hl _ _ _ h2]
theorem cArgs_len {f : Expr → Option CE} : ∀ {es : List Expr} {l : CL}, cArgs f es = some l → ∀ ρ S r, l ρ S = some r → r.1.length = es.length
  | [], l, h, ρ, S, r, e => by cases h; cases e; rfl
  | e :: r, l, h, ρ, S, q, z => by
    unfold cArgs at h
    split at h
    · cases h1 : f e with
      | none => rw [h1] at h; cases h
      | some m =>
        rw [h1, Option.bind_some] at h
        cases h2 : cArgs f r with
        | none => rw [h2] at h; cases h
        | some l2 =>
          rw [h2, Option.bind_some] at h
          cases h
          exact consL_len (cArgs_len h2) ρ S q z
    · cases h
theorem cKws_len {f : Expr → Option CE} : ∀ {es : List Keyword} {l : CL}, cKws f es = some l → ∀ ρ S r, l ρ S = some r → r.1.length = (es.filterMap (·.arg)).length
  | [], l, h, ρ, S, r, e => by cases h; cases e; rfl
  | ⟨nm, e, _⟩ :: r, l, h, ρ, S, q, z => by
    unfold cKws at h
    split at h
    · rename_i hn
      cases h1 : f e with
      | none => rw [h1] at h; cases h
      | some m =>
        rw [h1, Option.bind_some] at h
        cases h2 : cKws f r with
        | none => rw [h2] at h; cases h
        | some l2 =>
          rw [h2, Option.bind_some] at h
          cases h
          have := consL_len (cKws_len h2) ρ S q z
          obtain ⟨k, rfl⟩ := Option.isSome_iff_exists.mp hn
          simpa using this
    · cases h
theorem kws_all {f : Expr → Option CE} : ∀ {es : List Keyword} {l : CL}, cKws f es = some l → ∀ (env : Env) (pos : Pos), (backToKw pos (keywordEach es env)).all (·.1.isSome) = true ∧ (backToKw pos (keywordEach es env)).filterMap (·.1) = es.filterMap (·.arg) ∧ (backToKw pos (keywordEach es env)).any (·.1.isNone) = false
  | [], _, _, _, _ => ⟨rfl, rfl, rfl⟩
  | ⟨nm, e, p⟩ :: r, l, h, env, pos => by
    unfold cKws at h
    split at h
    · rename_i hn
      cases h1 : f e with
      | none => rw [h1] at h; cases h
      | some m =>
        rw [h1, Option.bind_some] at h
        cases h2 : cKws f r with
        | none => rw [h2] at h; cases h
        | some l2 =>
          obtain ⟨k, rfl⟩ := Option.isSome_iff_exists.mp hn
          obtain ⟨a, b, d⟩ := kws_all h2 env pos
          refine ⟨?_, ?_, ?_⟩
          · show (true && (backToKw pos (keywordEach r env)).all (·.1.isSome)) = true
            rw [a]; rfl
          · show k :: (backToKw pos (keywordEach r env)).filterMap (·.1) = k :: r.filterMap (·.arg)
            rw [b]
          · show (false || (backToKw pos (keywordEach r env)).any (·.1.isNone)) = false
            rw [d]; rfl
    · cases h
section
variable {X : Cx} {f : Expr → Option CE} {t : Expr → Option CB}
theorem frzO_ok {f : Expr → Option CE} (hf : ∀ e m, f e = some m → SE X e m) : ∀ e m, frzO f e = some m → SE X e m := by
  intro e m h
  unfold frzO at h
  split at h
  · cases h1 : f _ with
    | none => rw [h1] at h; cases h
    | some k => rw [h1, Option.bind_some] at h; cases h; exact se_frz (hf _ _ h1)
  · exact hf _ _ h
theorem cArgs_ok (hf : ∀ e m, f e = some m → SE X e m) : ∀ {es : List Expr} {l : CL}, cArgs f es = some l → SL X es l
  | [], _, h => by cases h; exact sl_nil
  | e :: r, l, h => by
    unfold cArgs at h
    split at h
    · rename_i hs
      cases h1 : f e with
      | none => rw [h1] at h; cases h
      | some m =>
        rw [h1, Option.bind_some] at h
        cases h2 : cArgs f r with
        | none => rw [h2] at h; cases h
        | some l2 =>
          rw [h2, Option.bind_some] at h
          cases h
          exact sl_cons (hf _ _ h1) (cArgs_ok hf h2) (star_cons hs _ _)
    · cases h
theorem cKws_ok (hf : ∀ e m, f e = some m → SE X e m) : ∀ {es : List Keyword} {l : CL}, cKws f es = some l → SK X es l
  | [], _, h => by cases h; exact sk_nil
  | ⟨nm, e, p⟩ :: r, l, h => by
    unfold cKws at h
    split at h
    · cases h1 : f e with
      | none => rw [h1] at h; cases h
      | some m =>
        rw [h1, Option.bind_some] at h
        cases h2 : cKws f r with
        | none => rw [h2] at h; cases h
        | some l2 =>
          rw [h2, Option.bind_some] at h
          cases h
          exact sk_cons (hf _ _ h1) (cKws_ok hf h2)
    · cases h
theorem cAndE_ok (hf : ∀ e m, f e = some m → SE X e m) {pos : Pos} : ∀ {es : List Expr} {m : CE}, cAndE f es = some m → SE X (.BoolOp .And es pos) m
  | [], _, h => by cases h
  | [a], _, h => pe_one (hf _ _ h)
  | a :: b :: r, m, h => by
    unfold cAndE at h
    cases h1 : f a with
    | none => rw [h1] at h; cases h
    | some k =>
      rw [h1, Option.bind_some] at h
      cases h2 : cAndE f (b :: r) with
      | none => rw [h2] at h; cases h
      | some n =>
        rw [h2, Option.bind_some] at h
        cases h
        exact PE.imp (pe_and (hf _ _ h1) (cAndE_ok hf h2)) fun _ _ _ q => rd_andE q
theorem cOrE_ok (hf : ∀ e m, f e = some m → SE X e m) {pos : Pos} : ∀ {es : List Expr} {m : CE}, cOrE f es = some m → SE X (.BoolOp .Or es pos) m
  | [], _, h => by cases h
  | [a], _, h => pe_one (hf _ _ h)
  | a :: b :: r, m, h => by
    unfold cOrE at h
    cases h1 : f a with
    | none => rw [h1] at h; cases h
    | some k =>
      rw [h1, Option.bind_some] at h
      cases h2 : cOrE f (b :: r) with
      | none => rw [h2] at h; cases h
      | some n =>
        rw [h2, Option.bind_some] at h
        cases h
        exact PE.imp (pe_or (hf _ _ h1) (cOrE_ok hf h2)) fun _ _ _ q => rd_orE q
theorem cAndB_ok (ht : ∀ e m, t e = some m → SB X e m) {pos : Pos} : ∀ {es : List Expr} {m : CB}, cAndB t es = some m → PW X (.BoolOp .And es pos) (rdB X.K m)
  | [], _, h => by cases h
  | [a], _, h => pw_and1 (ht _ _ h)
  | a :: b :: r, m, h => by
    unfold cAndB at h
    cases h1 : t a with
    | none => rw [h1] at h; cases h
    | some k =>
      rw [h1, Option.bind_some] at h
      cases h2 : cAndB t (b :: r) with
      | none => rw [h2] at h; cases h
      | some n =>
        rw [h2, Option.bind_some] at h
        cases h
        exact PW.imp (pw_and (ht _ _ h1) (cAndB_ok ht h2)) fun _ _ _ q => rd_andB q
theorem cOrB_ok (ht : ∀ e m, t e = some m → SB X e m) {pos : Pos} : ∀ {es : List Expr} {m : CB}, cOrB t es = some m → PW X (.BoolOp .Or es pos) (rdB X.K m)
  | [], _, h => by cases h
  | [a], _, h => pw_or1 (ht _ _ h)
  | a :: b :: r, m, h => by
    unfold cOrB at h
    cases h1 : t a with
    | none => rw [h1] at h; cases h
    | some k =>
      rw [h1, Option.bind_some] at h
      cases h2 : cOrB t (b :: r) with
      | none => rw [h2] at h; cases h
      | some n =>
        rw [h2, Option.bind_some] at h
        cases h
        exact PW.imp (pw_or (ht _ _ h1) (cOrB_ok ht h2)) fun _ _ _ q => rd_orB q
theorem cOpt_ok (hf : ∀ e m, f e = some m → SE X e m) {o : Option Expr} {m : CO} (h : cOpt f o = some m) : SO X o m := by
  unfold cOpt at h
  split at h
  · cases h; exact so_none
  · rename_i e
    cases h1 : f e with
    | none => rw [h1] at h; cases h
    | some k => rw [h1, Option.bind_some] at h; cases h; exact so_some (hf _ _ h1)
theorem cCmp_cases {a : Expr} {ops : List CmpOp} {bs : List Expr} {m : CE} (hu : X.A.units + 70 < cLine) (hf : ∀ e m, f e = some m → SE X e m) (h : cCmp f a ops bs = some m) (pos : Pos) : SE X (.Compare a ops bs pos) m ∧ SB X (.Compare a ops bs pos) (valB m) := by
  unfold cCmp at h
  split at h
  · rename_i op b
    split at h
    rotate_left
    · cases h
    rename_i hs
    cases h0 : cmpF op with
    | none => rw [h0] at h; cases h
    | some g =>
      cases h1 : f a with
      | none => rw [h0, Option.bind_some, h1] at h; cases h
      | some k =>
        cases h2 : f b with
        | none => rw [h0, Option.bind_some, h1, Option.bind_some, h2] at h; cases h
        | some n =>
          rw [h0, Option.bind_some, h1, Option.bind_some, h2, Option.bind_some] at h
          cases h
          exact ⟨se_cmp (so_cmp hu h0) (hf _ _ h1) (hf _ _ h2) (cmp_mark h0 hs), sb_cmp (so_cmp hu h0) (hf _ _ h1) (hf _ _ h2) (cmp_mark h0 hs)⟩
  · rename_i op op' b d
    split at h
    rotate_left
    · cases h
    rename_i hs
    cases h0 : cmpF op with
    | none => rw [h0] at h; cases h
    | some g =>
      cases h0' : cmpF op' with
      | none => rw [h0, Option.bind_some, h0'] at h; cases h
      | some g' =>
        cases h1 : f a with
        | none => rw [h0, Option.bind_some, h0', Option.bind_some, h1] at h; cases h
        | some k =>
          cases h2 : f b with
          | none => rw [h0, Option.bind_some, h0', Option.bind_some, h1, Option.bind_some, h2] at h; cases h
          | some n =>
            cases h3 : f d with
            | none => rw [h0, Option.bind_some, h0', Option.bind_some, h1, Option.bind_some, h2, Option.bind_some, h3] at h; cases h
            | some j =>
              rw [h0, Option.bind_some, h0', Option.bind_some, h1, Option.bind_some, h2, Option.bind_some, h3, Option.bind_some] at h
              cases h
              exact ⟨se_chain (so_cmp hu h0) (so_cmp hu h0') (hf _ _ h1) (hf _ _ h2) (hf _ _ h3) (cmp_mark h0' hs), sb_chain (so_cmp hu h0) (so_cmp hu h0') (hf _ _ h1) (hf _ _ h2) (hf _ _ h3) (cmp_mark h0' hs)⟩
  · cases h
end
theorem mem_of_contains {α : Type} [BEq α] [LawfulBEq α] {l : List α} {x : α} (h : l.contains x = true) : x ∈ l := by simpa using h
theorem tyName_ok {T : Str} {t : String} (h : tyName T = some t) : bootBuiltins T = some (.type t) := by
  unfold tyName at h
  split at h
  · cases h; rename_i e; rw [e]; decide +kernel
  · split at h
    · cases h; rename_i e; rw [e]; decide +kernel
    · split at h
      · cases h; rename_i e; rw [e]; decide +kernel
      · split at h
        · cases h; rename_i e; rw [e]; decide +kernel
        · split at h
          · cases h; rename_i e; rw [e]; decide +kernel
          · cases h
section
variable {c : Ctx} {X : Cx} {sc : Scope} {f : Expr → Option CE}
theorem bOf_ok (A : Agree c X sc) {x : Str} {b : BSpec} (h : bOf x = some b) {e : Expr} {es : List Expr} {ml : CL} {p pos : Pos} (hg : Gl X x) (hm : X.mg x = none) (ha : SL X (e :: es) ml) (hn : x ≠ "__name__") (hdb : (x == ("__debug__" : Str)) = false)
    (he : starEach (e :: es) X.env = (false, eval e X.env) :: starEach es X.env) (hpl : (backTo pos (starEach es X.env)).any (·.1) = false) : SE X (.Call (.Name x p) (e :: es) [] pos) (appE b.f ml) := by
  have B : ∀ {id : String} {g : List W → Sto → Option (W × Sto)}, CallR X (.builtin id) (FN X.K g) → bootBuiltins x = some (.builtin id) → SE X (.Call (.Name x p) (e :: es) [] pos) (appE g ml) := fun hc hv =>
    PE.imp (pe_callB hc hg hm hv ha hn hdb he hpl) fun _ _ _ h => rd_app h
  have T : ∀ {id : String} {g : List W → Sto → Option (W × Sto)}, CallR X (.type id) (FN X.K g) → bootBuiltins x = some (.type id) → SE X (.Call (.Name x p) (e :: es) [] pos) (appE g ml) := fun hc hv =>
    PE.imp (pe_callTy hc hg hm hv ha hn hdb he hpl) fun _ _ _ h => rd_app h
  unfold bOf at h
  split at h
  · cases h; rename_i z; exact B sc_len (by rw [z]; decide +kernel)
  · split at h
    · cases h; rename_i z; exact T sc_int (by rw [z]; decide +kernel)
    · split at h
      · cases h; rename_i z; exact T sc_tuple (by rw [z]; decide +kernel)
      · split at h
        · cases h; rename_i z; exact B sc_abs (by rw [z]; decide +kernel)
        · split at h
          · cases h; rename_i z; exact B (sc_repr A.guards A.units) (by rw [z]; decide +kernel)
          · split at h
            · cases h; rename_i z; exact B (sc_max A.calm) (by rw [z]; decide +kernel)
            · split at h
              · cases h; rename_i z; exact B (sc_min A.calm) (by rw [z]; decide +kernel)
              · split at h
                · cases h; rename_i z; exact B (sc_sum A.calm) (by rw [z]; decide +kernel)
                · split at h
                  · cases h; rename_i z; exact B (sc_all A.calm) (by rw [z]; decide +kernel)
                  · split at h
                    · cases h; rename_i z; exact T sc_list (by rw [z]; decide +kernel)
                    · split at h
                      · cases h; rename_i z; exact B sc_divmod (by rw [z]; decide +kernel)
                      · cases h
theorem cCall_ok (A : Agree c X sc) (hf : ∀ e m, f e = some m → SE X e m) {x : Str} {args : List Expr} {kws : List Keyword} {m : CE} {p pos : Pos} (h : cCall c f sc x args kws = some m) : SE X (.Call (.Name x p) args kws pos) m := by
  unfold cCall at h
  split at h
  rotate_left
  · cases h
  rename_i hx
  simp only [Bool.and_eq_true] at hx
  have hg := gl_ok A hx.1
  obtain ⟨n1, n2, n3⟩ := okName_ok hx.2
  split at h
  · rename_i cal hc
    have C := A.fns _ _ hc
    split at h
    · split at h
      · cases h
      · rename_i e r
        cases h1 : cArgs f (e :: r) with
        | none => rw [h1] at h; cases h
        | some l =>
          rw [h1, Option.bind_some] at h
          cases h
          obtain ⟨l2, h2⟩ := cArgs_tail h1
          exact se_call C hg (cArgs_ok hf h1) n1 (star_cons (cArgs_head h1) _ _) (cArgs_star h2 _ _)
    · rename_i k ks
      split at h
      · rename_i a ha
        cases h1 : cArgs f args with
        | none => rw [h1] at h; cases h
        | some l =>
          rw [h1, Option.bind_some] at h
          cases h2 : cKws f (k :: ks) with
          | none => rw [h2] at h; cases h
          | some mk =>
            rw [h2, Option.bind_some] at h
            cases h
            have hin := List.mem_of_find?_eq_some ha
            have hp := List.find?_some ha
            simp only [Bool.and_eq_true, beq_iff_eq] at hp
            obtain ⟨a1, a2, a3⟩ := a
            simp only at hp hin ⊢
            obtain ⟨q1, q2, q3⟩ := kws_all h2 X.env pos
            cases args with
            | nil =>
              cases h1
              refine se_callK0 (ks := a2) C hg (cKws_ok hf h2) (fun ρ S r z => by rw [cKws_len h2 ρ S r z, ← hp.2]) (by rw [hp.1] at hin; exact hin) q1 (by rw [q2, hp.2]) n1 (by rw [q3]; rfl)
            | cons e r =>
              obtain ⟨l2, h3⟩ := cArgs_tail h1
              refine se_callK (ks := a2) C hg (cArgs_ok hf h1) (cKws_ok hf h2) (cArgs_len h1) (fun ρ S r z => by rw [cKws_len h2 ρ S r z, ← hp.2]) (by rw [hp.1] at hin; exact hin) q1 (by rw [q2, hp.2]) n1 (star_cons (cArgs_head h1) _ _) (by rw [q3, cArgs_star h1]; rfl)
      · cases h
  · split at h
    rotate_left
    · cases h
    split at h
    · rename_i id hb
      split at h
      rotate_left
      · cases h
      rename_i hid
      subst hid
      split at h
      · cases h
      · rename_i e r
        cases h1 : cArgs f (e :: r) with
        | none => rw [h1] at h; cases h
        | some l =>
          rw [h1, Option.bind_some] at h
          cases h
          obtain ⟨l2, h2⟩ := cArgs_tail h1
          exact PE.imp (pe_callBfun sc_gcd hg (A.bfn _ _ hb) (cArgs_ok hf h1) n1 (star_cons (cArgs_head h1) _ _) (cArgs_star h2 _ _)) fun _ _ _ h => rd_app h
    · split at h
      rotate_left
      · cases h
      rename_i hbl
      have hm := A.blts x (mem_of_contains hbl)
      split at h
      · rename_i hx2
        subst hx2
        split at h
        · rename_i a T pT
          split at h
          rotate_left
          · cases h
          rename_i hT
          simp only [Bool.and_eq_true] at hT
          obtain ⟨⟨⟨t1, t2⟩, t3⟩, t4⟩ := hT
          cases h1 : tyName T with
          | none => rw [h1] at h; cases h
          | some t =>
            rw [h1, Option.bind_some] at h
            cases h2 : f a with
            | none => rw [h2] at h; cases h
            | some ma =>
              rw [h2, Option.bind_some] at h
              cases h
              obtain ⟨o1, o2, o3⟩ := okName_ok t3
              exact se_isi (hf _ _ h2) hg hm (gl_ok A t1) (A.blts T (mem_of_contains t2)) (tyName_ok h1) o3 o1 (star_cons t4 _ _)
        · cases h
      · split at h
        · rename_i a b hr
          split at h
          rotate_left
          · cases h
          rename_i hT
          simp only [Bool.and_eq_true] at hT
          obtain ⟨⟨⟨t1, t2⟩, t3⟩, t4⟩ := hT
          unfold rgArgs at hr
          split at hr
          rotate_left
          · cases hr
          rename_i r p1 a' b' p2
          split at hr
          rotate_left
          · cases hr
          rename_i hxr
          simp only [Bool.and_eq_true] at hxr
          cases hr
          have e1 := eq_of_beq hxr.1
          have e2 := eq_of_beq hxr.2
          subst e1 e2
          cases h1 : f a with
          | none => rw [h1] at h; cases h
          | some ma =>
            rw [h1, Option.bind_some] at h
            cases h2 : f b with
            | none => rw [h2] at h; cases h
            | some mb =>
              rw [h2, Option.bind_some] at h
              cases h
              refine se_rangeL A.calm (hf _ _ h1) (hf _ _ h2) hg hm (gl_ok A t1) (A.blts _ (mem_of_contains t2)) (star_cons t3 _ _) (star_cons t4 _ _) ?_
              rw [star_one t4]; rfl
        rename_i hrn
        clear hrn
        split at h
        · cases h
        · rename_i e r
          cases h0 : bOf x with
          | none => rw [h0] at h; cases h
          | some b =>
            rw [h0, Option.bind_some] at h
            cases h1 : cArgs f (e :: r) with
            | none => rw [h1] at h; cases h
            | some l =>
              rw [h1, Option.bind_some] at h
              cases h
              obtain ⟨l2, h2⟩ := cArgs_tail h1
              exact bOf_ok A h0 hg hm (cArgs_ok hf h1) n3 n1 (star_cons (cArgs_head h1) _ _) (cArgs_star h2 _ _)
theorem cMeth_ok (hf : ∀ e m, f e = some m → SE X e m) {o : Expr} {name : Str} {apos cpos : Pos} {args : List Expr} {m : CE} (h : cMeth f o name apos cpos args = some m) : SE X (.Call (.Attribute o name apos) args [] cpos) m := by
  unfold cMeth at h
  split at h
  rotate_left
  · cases h
  rename_i x px
  split at h
  rotate_left
  · cases h
  rename_i hl
  split at h
  · rename_i hn
    subst hn
    split at h
    · rename_i a
      split at h
      · rename_i hs
        cases h1 : f (.Name x px) with
        | none => rw [h1] at h; cases h
        | some mo =>
          rw [h1, Option.bind_some] at h
          cases h2 : f a with
          | none => rw [h2] at h; cases h
          | some ma =>
            rw [h2, Option.bind_some] at h
            cases h
            exact se_append (hf _ _ h1) (hf _ _ h2) rfl hl (star_one hs _)
      · cases h
    · cases h
  · split at h
    · rename_i hn
      subst hn
      split at h
      · rename_i a
        split at h
        · rename_i hs
          cases h1 : f (.Name x px) with
          | none => rw [h1] at h; cases h
          | some mo =>
            rw [h1, Option.bind_some] at h
            cases h2 : f a with
            | none => rw [h2] at h; cases h
            | some ma =>
              rw [h2, Option.bind_some] at h
              cases h
              exact se_popAt (hf _ _ h1) (hf _ _ h2) rfl hl (star_one hs _)
        · cases h
      · cases h1 : f (.Name x px) with
        | none => rw [h1] at h; cases h
        | some mo =>
          rw [h1, Option.bind_some] at h
          cases h
          exact se_pop (hf _ _ h1) rfl hl
      · cases h
    · split at h
      · rename_i hn
        subst hn
        split at h
        · rename_i a b
          split at h
          · rename_i hs
            simp only [Bool.and_eq_true] at hs
            cases h1 : f (.Name x px) with
            | none => rw [h1] at h; cases h
            | some mo =>
              rw [h1, Option.bind_some] at h
              cases h2 : f a with
              | none => rw [h2] at h; cases h
              | some ma =>
                rw [h2, Option.bind_some] at h
                cases h3 : f b with
                | none => rw [h3] at h; cases h
                | some mb =>
                  rw [h3, Option.bind_some] at h
                  cases h
                  exact se_insert (hf _ _ h1) (hf _ _ h2) (hf _ _ h3) rfl hl (by rw [star_cons hs.1, star_one hs.2]) (star_one hs.2 _)
          · cases h
        · cases h
      · cases h
theorem rev_ok (hf : ∀ e m, f e = some m → SE X e m) {a : Expr} {k : Nat} {p1 p2 p3 pos : Pos} {m : CE} (h : ((f a).bind fun m => some (revE m)) = some m) : SE X (.Subscript a (.Slice none none (some (.UnaryOp .USub (.Constant (.int 1) k p1) p2)) p3) pos) m := by
  cases h1 : f a with
  | none => rw [h1] at h; cases h
  | some k => rw [h1, Option.bind_some] at h; cases h; exact se_rev (hf _ _ h1)
theorem seq_of (hf : ∀ e m, f e = some m → SE X e m) {tg it : Expr} {ci : CI} (h : ((f it).bind fun m => some (seqI m)) = some ci) : SI X tg it ci := by
  cases h1 : f it with
  | none => rw [h1] at h; cases h
  | some m => rw [h1, Option.bind_some] at h; cases h; exact si_seq (hf _ _ h1)
theorem cIter_ok (A : Agree c X sc) (hf : ∀ e m, f e = some m → SE X e m) {tg it : Expr} {ci : CI} (h : cIter c f sc tg it = some ci) : SI X tg it ci := by
  unfold cIter at h
  split at h
  rotate_left
  · cases h1 : f _ with
    | none => rw [h1] at h; cases h
    | some m => rw [h1, Option.bind_some] at h; cases h; exact si_seq (se_frz (hf _ _ h1))
  · exact seq_of hf h
  rename_i x px args pos
  split at h
  rotate_left
  · exact seq_of hf h
  rename_i hx
  simp only [Bool.and_eq_true] at hx
  have hg := gl_ok A hx.1.1
  have hm := A.blts x (mem_of_contains hx.2)
  split at h
  · rename_i hn
    subst hn
    split at h
    · rename_i a
      split at h
      · rename_i hs
        cases h1 : f a with
        | none => rw [h1] at h; cases h
        | some m => rw [h1, Option.bind_some] at h; cases h; exact si_range1 (hf _ _ h1) hg hm (star_one hs _)
      · cases h
    · rename_i a b
      split at h
      · rename_i hs
        simp only [Bool.and_eq_true] at hs
        cases h1 : f a with
        | none => rw [h1] at h; cases h
        | some m =>
          rw [h1, Option.bind_some] at h
          cases h2 : f b with
          | none => rw [h2] at h; cases h
          | some n => rw [h2, Option.bind_some] at h; cases h; exact si_range2 (hf _ _ h1) (hf _ _ h2) hg hm (by rw [star_cons hs.1, star_one hs.2]) (star_one hs.2 _)
      · cases h
    · cases h
  · split at h
    · rename_i hn
      subst hn
      split at h
      · rename_i a b
        split at h
        · rename_i hs
          simp only [Bool.and_eq_true] at hs
          cases h1 : f a with
          | none => rw [h1] at h; cases h
          | some m =>
            rw [h1, Option.bind_some] at h
            cases h2 : f b with
            | none => rw [h2] at h; cases h
            | some n => rw [h2, Option.bind_some] at h; cases h; exact si_zip (hf _ _ h1) (hf _ _ h2) hg hm (star_cons hs.1 _ _) (star_one hs.2 _)
        · cases h
      · rename_i a b d
        split at h
        · rename_i hs
          simp only [Bool.and_eq_true] at hs
          cases h1 : f a with
          | none => rw [h1] at h; cases h
          | some m =>
            rw [h1, Option.bind_some] at h
            cases h2 : f b with
            | none => rw [h2] at h; cases h
            | some n =>
              rw [h2, Option.bind_some] at h
              cases h3 : f d with
              | none => rw [h3] at h; cases h
              | some o => rw [h3, Option.bind_some] at h; cases h; exact si_zip3 (hf _ _ h1) (hf _ _ h2) (hf _ _ h3) hg hm (star_cons hs.1.1 _ _) (star_cons hs.1.2 _ _) (star_one hs.2 _)
        · cases h
      · cases h
    · split at h
      · rename_i hn
        subst hn
        split at h
        · rename_i a
          split at h
          · rename_i hs
            cases h1 : f a with
            | none => rw [h1] at h; cases h
            | some m => rw [h1, Option.bind_some] at h; cases h; exact si_enum (hf _ _ h1) hg hm (star_one hs _)
          · cases h
        · cases h
      · exact seq_of hf h
theorem asg_each {g : Expr → Option (CG × List Nat)} : ∀ {es : List Expr} {p : CGs × List Nat}, cTgts g es = some p → ∀ env : Env, (assignEach es env).length = es.length ∧ (assignEach es env).findIdx? (·.1) = none
  | [], _, _, _ => ⟨rfl, rfl⟩
  | e :: r, p, h, env => by
    unfold cTgts at h
    split at h
    · rename_i hs
      cases h1 : g e with
      | none => rw [h1] at h; cases h
      | some q =>
        rw [h1, Option.bind_some] at h
        cases h2 : cTgts g r with
        | none => rw [h2] at h; cases h
        | some q2 =>
          obtain ⟨a, b⟩ := asg_each h2 env
          have e1 : assignEach (e :: r) env = (false, assign e env) :: assignEach r env := by cases e <;> first | rfl | cases hs
          rw [e1]
          refine ⟨by simp [a], ?_⟩
          rw [List.findIdx?_cons]
          simp [b]
    · cases h
theorem asg_one {e : Expr} (hs : notStar e = true) (es : List Expr) (env : Env) : (assignEach (e :: es) env).map (·.2) = assign e env :: (assignEach es env).map (·.2) := by
  cases e <;> first | rfl | cases hs
theorem cTgts_ok {g : Expr → Option (CG × List Nat)} (hgg : ∀ e p, g e = some p → SG X e p.1 p.2) : ∀ {es : List Expr} {p : CGs × List Nat}, cTgts g es = some p → SGs X es p.1 p.2
  | [], _, h => by cases h; exact sgs_nil
  | e :: r, p, h => by
    unfold cTgts at h
    split at h
    · rename_i hs
      cases h1 : g e with
      | none => rw [h1] at h; cases h
      | some q =>
        rw [h1, Option.bind_some] at h
        cases h2 : cTgts g r with
        | none => rw [h2] at h; cases h
        | some q2 =>
          rw [h2, Option.bind_some] at h
          cases h
          exact sgs_cons (hgg _ _ h1) (cTgts_ok hgg h2) (asg_one hs _ _)
    · cases h
theorem cTgt_ok (A : Agree c X sc) (hf : ∀ e m, f e = some m → SE X e m) {df : Bool} (hd : df = true → ∀ x, X.fn x = true) : ∀ (n : Nat) {e : Expr} {p : CG × List Nat}, cTgt c f df sc n e = some p → SG X e p.1 p.2
  | 0, _, _, h => by simp [cTgt] at h
  | n + 1, e, p, h => by
    unfold cTgt at h
    split at h
    · cases h
    · rename_i heq
      cases heq
      split at h
      · rename_i x px hx
        cases h1 : slot c.N x with
        | none => rw [h1] at h; cases h
        | some i =>
          rw [h1, Option.bind_some] at h
          cases h
          have hN : X.N[i]? = some x := by rw [A.N]; exact slot_get h1
          rcases Bool.or_eq_true_iff.mp hx with z | z
          · have e := lcl_ok z
            rw [← A.sc] at e
            exact sg_name A.nd hN (.inl e) (.inr e)
          · rw [Bool.and_eq_true] at z
            have e := cel_ok z.2
            rw [← A.sc] at e
            exact sg_name A.nd hN (.inr e) (.inl (hd z.1 x))
      · cases h
    · rename_i heq
      cases heq
      rename_i es k pos
      cases h1 : cTgts (cTgt c f df sc n) es with
      | none => rw [h1] at h; cases h
      | some q =>
        rw [h1, Option.bind_some] at h
        cases h
        obtain ⟨a, b⟩ := asg_each h1 X.env
        exact sg_tup A.calm (cTgts_ok (fun e p z => cTgt_ok A hf hd n z) h1) a b
    · rename_i heq
      cases heq
      rename_i a b pos
      split at h
      · rename_i hs
        cases h1 : f a with
        | none => rw [h1] at h; cases h
        | some m =>
          rw [h1, Option.bind_some] at h
          cases h2 : f b with
          | none => rw [h2] at h; cases h
          | some k =>
            rw [h2, Option.bind_some] at h
            cases h
            exact sg_sub (hf _ _ h1) (hf _ _ h2) hs
      · cases h
    · cases h
theorem set_fold {e : Expr} (h : notSet e = true) (env : Env) : ∀ x, foldedSetIterable e env x = pure x := by
  intro x
  cases e <;> first | rfl | cases h
end
theorem Agree.blk {c : Ctx} {X : Cx} {sc : Scope} (A : Agree c X sc) (scope : Scope) (s : Shared) (H : Hp) (C : Addr) (cl : List (Str × Addr)) (fp : List Addr) : Agree c (X.blk s H scope (compEnvC scope cl C X.env) fp) (relS scope sc) where
  N := A.N
  nd := A.nd
  sc := by rw [← A.sc]; rfl
  calm := A.calm
  guards := A.guards
  units := A.units
  fns := fun x cal h => let q := A.fns x cal h; ⟨q.ex, q.guards⟩
  cst := A.cst
  bfn := A.bfn
  blts := A.blts
theorem cComp_parts {c : Ctx} {f : Scope → Expr → Option CE} {t : Scope → Expr → Option CB} {sc : Scope} {mu : Bool} {elt : Expr} {gens : List Comprehension} {scope : Scope} {m : CE} (h : cComp c f t sc mu elt gens scope = some m) :
    ∃ tg iter ifs ci g tt me, gens = [⟨tg, iter, ifs, 0⟩] ∧ blkC c.N sc scope (ownOf c.N scope) = true ∧ notSet iter = true ∧ cIter c (f sc) sc tg iter = some ci ∧ cTgt c (f (relS scope sc)) false (relS scope sc) 4 tg = some g ∧
      (∀ i ∈ g.2, i ∈ (ownOf c.N scope).map (·.2)) ∧ ((ifs = [] ∧ tt = yesB) ∨ ∃ x, ifs = [x] ∧ t (relS scope sc) x = some tt) ∧ f (relS scope sc) elt = some me ∧ m = lcE ((ownOf c.N scope).map (·.2)) mu ci g.1 tt me := by
  unfold cComp at h
  split at h
  rotate_left
  · cases h
  rename_i tg iter ifs a
  split at h
  rotate_left
  · cases h
  rename_i hx
  simp only [Bool.and_eq_true, decide_eq_true_eq] at hx
  obtain ⟨⟨ha, hb⟩, hs⟩ := hx
  subst ha
  cases h1 : cIter c (f sc) sc tg iter with
  | none => rw [h1] at h; cases h
  | some ci =>
    rw [h1, Option.bind_some] at h
    cases h2 : cTgt c (f (relS scope sc)) false (relS scope sc) 4 tg with
    | none => rw [h2] at h; cases h
    | some g =>
      rw [h2, Option.bind_some] at h
      split at h
      rotate_left
      · cases h
      rename_i hv
      have hv' : ∀ i ∈ g.2, i ∈ (ownOf c.N scope).map (·.2) := fun i hi => mem_of_contains (List.all_eq_true.mp hv i hi)
      cases h4 : f (relS scope sc) elt with
      | none =>
        cases hq : cIfs (t (relS scope sc)) ifs with
        | none => rw [hq] at h; cases h
        | some tt => rw [hq, Option.bind_some, h4] at h; cases h
      | some me =>
        cases hq : cIfs (t (relS scope sc)) ifs with
        | none => rw [hq] at h; cases h
        | some tt =>
          rw [hq, Option.bind_some, h4, Option.bind_some] at h
          cases h
          refine ⟨tg, iter, ifs, ci, g, tt, me, rfl, hb, hs, h1, h2, hv', ?_, rfl, rfl⟩
          unfold cIfs at hq
          split at hq
          · cases hq; exact .inl ⟨rfl, rfl⟩
          · exact .inr ⟨_, rfl, hq⟩
          · cases hq
theorem plain_test {e : Expr} (env : Env) (h : plainT e = true) : ∀ whole, isTrue e env whole = (do let v ← whole; standAt e.pos; holding [v] (truthy v)) := by
  intro whole
  cases e <;> first | rfl | cases h
/-- what a compiler of parts is worth -/
structure Good (c : Ctx) (f : Scope → Expr → Option CE) (t : Scope → Expr → Option CB) : Prop where
  e : ∀ X sc, Agree c X sc → ∀ e m, f sc e = some m → SE X e m
  t : ∀ X sc, Agree c X sc → ∀ e m, t sc e = some m → SB X e m
theorem comp_parts_ok {c : Ctx} {f : Scope → Expr → Option CE} {t : Scope → Expr → Option CB} (G : Good c f t) {X : Cx} {sc : Scope} (A : Agree c X sc) {scope : Scope} {tg elt : Expr} {ifs : List Expr} {g : CG × List Nat} {tt : CB} {me : CE}
    (h2 : cTgt c (f (relS scope sc)) false (relS scope sc) 4 tg = some g) (h3 : (ifs = [] ∧ tt = yesB) ∨ ∃ x, ifs = [x] ∧ t (relS scope sc) x = some tt) (h4 : f (relS scope sc) elt = some me) (s : Shared) (H : Hp) (C : Addr) (cl : List (Str × Addr)) (fp : List Addr) :
    SG (X.blk s H scope (compEnvC scope cl C X.env) fp) tg g.1 g.2 ∧ STs (X.blk s H scope (compEnvC scope cl C X.env) fp) ifs tt ∧ SE (X.blk s H scope (compEnvC scope cl C X.env) fp) elt me := by
  have B := A.blk scope s H C cl fp
  refine ⟨cTgt_ok (df := false) B (G.e _ _ B) (fun z => Bool.noConfusion z) 4 h2, ?_, G.e _ _ B _ _ h4⟩
  rcases h3 with ⟨rfl, rfl⟩ | ⟨x, rfl, h3⟩
  · exact st_nil
  · exact st_one (G.t _ _ B _ _ h3)
theorem cE1_ok {c : Ctx} {f : Scope → Expr → Option CE} {t : Scope → Expr → Option CB} (G : Good c f t) {X : Cx} {sc : Scope} (A : Agree c X sc) {e : Expr} {m : CE} (h : cE1 c f t sc e = some m) : SE X e m := by
  have hf := G.e X sc A
  have hu : X.A.units + 70 < cLine := A.units
  unfold cE1 at h
  split at h
  · cases h; exact se_int
  · cases h; exact se_bool
  · cases h; exact se_none
  · cases h; exact se_str
  · rename_i x px
    split at h
    rotate_left
    · cases h
    rename_i hn
    obtain ⟨n1, n2, n3⟩ := okName_ok hn
    split at h
    · rename_i hv
      cases h1 : slot c.N x with
      | none => rw [h1] at h; cases h
      | some i =>
        rw [h1, Option.bind_some] at h
        cases h
        exact se_var (by rw [A.N]; exact slot_get h1) (by rw [A.sc]; exact vis_ok hv) n1 n2
    · split at h
      · rename_i hg
        cases h1 : c.cst.lookup x with
        | none => rw [h1] at h; cases h
        | some d =>
          rw [h1, Option.bind_some] at h
          cases h
          obtain ⟨u, v, q1, q2, q3⟩ := A.cst _ _ h1
          exact se_glob (gl_ok A hg) q1 q2 q3 n1
      · cases h
  · rename_i a op b px
    cases h0 : binG (c.mu.contains px) op with
    | none => rw [h0] at h; cases h
    | some g =>
      rw [h0, Option.bind_some] at h
      cases h1 : f sc a with
      | none => rw [h1] at h; cases h
      | some k =>
        rw [h1, Option.bind_some] at h
        cases h2 : f sc b with
        | none => rw [h2] at h; cases h
        | some n =>
          rw [h2, Option.bind_some] at h
          cases h
          exact se_bin (so_binG h0) (hf _ _ h1) (hf _ _ h2)
  · rename_i a px
    cases h1 : f sc a with
    | none => rw [h1] at h; cases h
    | some k => rw [h1, Option.bind_some] at h; cases h; exact se_un so_neg (hf _ _ h1)
  · rename_i a px
    cases h1 : f sc a with
    | none => rw [h1] at h; cases h
    | some k => rw [h1, Option.bind_some] at h; cases h; exact se_not (hf _ _ h1)
  · exact cAndE_ok hf h
  · exact cOrE_ok hf h
  · rename_i q a b px
    cases h0 : t sc q with
    | none => rw [h0] at h; cases h
    | some k0 =>
      rw [h0, Option.bind_some] at h
      cases h1 : f sc a with
      | none => rw [h1] at h; cases h
      | some k =>
        rw [h1, Option.bind_some] at h
        cases h2 : f sc b with
        | none => rw [h2] at h; cases h
        | some n =>
          rw [h2, Option.bind_some] at h
          cases h
          exact se_if (G.t X sc A _ _ h0) (hf _ _ h1) (hf _ _ h2)
  · exact (cCmp_cases hu hf h _).1
  · exact cCall_ok A hf h
  · exact cMeth_ok hf h
  · rename_i a lo hi p2 px
    cases h1 : f sc a with
    | none => rw [h1] at h; cases h
    | some k =>
      rw [h1, Option.bind_some] at h
      cases h2 : cOpt (f sc) lo with
      | none => rw [h2] at h; cases h
      | some l =>
        rw [h2, Option.bind_some] at h
        cases h3 : cOpt (f sc) hi with
        | none => rw [h3] at h; cases h
        | some u =>
          rw [h3, Option.bind_some] at h
          cases h
          exact se_slice (hf _ _ h1) (cOpt_ok hf h2) (cOpt_ok hf h3)
  · exact rev_ok hf h
  · rename_i a b px _ _
    split at h
    · rename_i hs
      cases h1 : f sc a with
      | none => rw [h1] at h; cases h
      | some k =>
        rw [h1, Option.bind_some] at h
        cases h2 : f sc b with
        | none => rw [h2] at h; cases h
        | some n =>
          rw [h2, Option.bind_some] at h
          cases h
          exact se_ix (hf _ _ h1) (hf _ _ h2) hs
    · cases h
  · rename_i es px
    split at h
    · cases h1 : cArgs (f sc) es with
      | none => rw [h1] at h; cases h
      | some l => rw [h1, Option.bind_some] at h; cases h; exact se_lstM (cArgs_ok hf h1)
    · cases h1 : cArgs (frzO (f sc)) es with
      | none => rw [h1] at h; cases h
      | some l => rw [h1, Option.bind_some] at h; cases h; exact se_lst (cArgs_ok (frzO_ok hf) h1)
  · rename_i es k px
    cases h1 : cArgs (frzO (f sc)) es with
    | none => rw [h1] at h; cases h
    | some l =>
      rw [h1, Option.bind_some] at h
      cases h; exact se_tup (cArgs_ok (frzO_ok hf) h1)
  · obtain ⟨tg, iter, ifs, ci, g, tt, me, rfl, hb, hs, h1, h2, hv, h3, h4, rfl⟩ := cComp_parts h
    have P := comp_parts_ok G A h2 h3 h4
    exact se_lc A.calm A.nd (cIter_ok A hf h1) (by rw [A.N, A.sc]; exact blkOk_by hb) (fun s H C cl fp => (P s H C cl fp).1) (fun s H C cl fp => (P s H C cl fp).2.1) (fun s H C cl fp => (P s H C cl fp).2.2) hv (set_fold hs _)
  · cases h; exact se_dict0
  · cases h; exact se_dict1 pe_int fun _ => .int _
  · cases h
theorem se_stuck {X : Cx} {e : Expr} : SE X e stuckE := ⟨fun pins s σ H Q I h => by
  obtain ⟨μ, S, ρ, w, S', ok, en, e, q⟩ := h
  cases e⟩
theorem cE2_ok {c : Ctx} {f : Scope → Expr → Option CE} {t : Scope → Expr → Option CB} (G : Good c f t) {X : Cx} {sc : Scope} (A : Agree c X sc) {e : Expr} {m : CE} (h : cE2 c f t sc e = some m) : SE X e m := by
  unfold cE2 at h
  split at h
  · cases h; exact se_stuck
  · exact cE1_ok G A h
theorem cT1_ok {c : Ctx} {f : Scope → Expr → Option CE} {t : Scope → Expr → Option CB} (G : Good c f t) {X : Cx} {sc : Scope} (A : Agree c X sc) {e : Expr} {m : CB} (h : cT1 (f sc) (t sc) e = some m) : SB X e m := by
  have hf := G.e X sc A
  have ht := G.t X sc A
  have hu : X.A.units + 70 < cLine := A.units
  unfold cT1 at h
  split at h
  · rename_i a px
    cases h1 : t sc a with
    | none => rw [h1] at h; cases h
    | some k => rw [h1, Option.bind_some] at h; cases h; exact sb_not (ht _ _ h1)
  · exact (cAndB_ok ht h).pt
  · exact (cOrB_ok ht h).pt
  · rename_i a ops bs px
    cases h1 : cCmp (f sc) a ops bs with
    | none => rw [h1] at h; cases h
    | some k => rw [h1, Option.bind_some] at h; cases h; exact (cCmp_cases hu hf h1 _).2
  · split at h
    · rename_i hp
      cases h1 : f sc e with
      | none => rw [h1] at h; cases h
      | some k =>
        rw [h1, Option.bind_some] at h
        cases h
        exact sb_val (hf _ _ h1) (plain_test _ hp)
    · cases h
theorem cet_ok (c : Ctx) : ∀ n, Good c (cet c n).1 (cet c n).2
  | 0 => ⟨fun _ _ _ _ _ h => (by cases h), fun _ _ _ _ _ h => (by cases h)⟩
  | n + 1 => ⟨fun X sc A e m h => cE2_ok (cet_ok c n) A h, fun X sc A e m h => cT1_ok (cet_ok c n) A h⟩
end PD

/-! PD6a: exceptions of own classes with one field (an own error's worked proof turned to any class). -/

namespace PD.XG
open PySem PySem.W PySem.Calls PyProof.Rows PySem.HandSPX PySem.Spec
/-! ### the text of __init__ -/
def iA (p1 p2 : Pos) : Arguments := { posonlyargs := [], args := [{ arg := "self", annotation := none, pos := p1 }, { arg := "given", annotation := none, pos := p2 }], vararg := none, kwonlyargs := [], kw_defaults := [], kwarg := none, defaults := [] }
def iB (q1 q2 q3 q4 : Pos) : List Stmt := [.Assign [.Attribute (.Name "self" q1) "given" q2] (.Name "given" q3) q4]
def iS : Scope := { kind := .function, names := [(PySem.Str.ofString "self", .local), (PySem.Str.ofString "given", .local)], isGenerator := false, isCoroutine := false, more := [] }
/-- what the written part says of Low, at C, and of its __init__, at fI -/
structure XTxt (xn q0 : Str) (K : Frag) (mg : Str → Option Value) (C fI : Addr) : Prop where
  gC : mg xn = some (.ref C)
  cls : ∃ nm q N bs bm sn sub ab col dd k0 k1 k2 k3 k5, K.lookup C = some (excClassObj nm q C N bs bm true sn sub ab col dd k0 k1 k2 k3 k5 "ValueError.__new__") ∧ refsVE bm = true
  sa : findIn K (.ref C) "__setattr__" = some (some (.builtin "object.__setattr__"))
  ga : findIn K (.ref C) "__getattribute__" = some (some (.builtin "BaseException.__getattribute__"))
  gg : findIn K (.ref C) "__getattr__" = some none
  noN : findIn K (.ref C) "given" = some none
  iC : findIn K (.ref C) "__init__" = some (some (.ref fI))
  tC : typeIn K (.ref fI) = some (.type "function")
  kC : keepIn K (.ref C) = true
  exC : subIn K (.ref C) (.type "BaseException") = some true
  tyC : typeIn K (.ref C) = some (.type "type")
  hdC : hasDictIn K C = true
  te : exmOne K (.ref C) (.ref C) = some true
  fn : ∃ (oc : Value) (od : Option Addr) (doc pm : Value) (an : Option Addr) (cdv ct : Value) (osl : Array (Option Value)) (p1 p2 q1 q2 q3 q4 : Pos),
    K.lookup fI = some ⟨oc, od, .func (fnOf "__init__" q0 (iA p1 p2) (iB q1 q2 q3 q4) iS .none .none doc pm an cdv ct), osl⟩ ∧ codeIn K cdv q0 = true
theorem one_size (v : Value) : [v].length ≤ sizeLine := by
  rw [sizeLine_eq]
  exact (by decide : 1 ≤ 16777216)
theorem kept_but {K : Frag} {h h' : Heap} {x : Addr} (X : K.In h) (hx : K.lookup x = none) (k : ∀ b o, b ≠ x → h.get? b = some o → h'.get? b = some o) : K.In h' := fun a o e =>
  k a o (fun z => by rw [z, hx] at e; cases e) (X a o e)
theorem ldC {M : Model} {s : Shared} {name : Str} {scope : Scope} {L a : Addr} {cd : Value} {m : Str → Option Value} {x : Str} {pos : Pos} {v : Value} {Q : Value → Shared → Prop} {A : Around} {E : Value → Shared → Prop} (hn : s.heap.Ns L m) (hv : m x = some v) (h : Q v s)
    (hk : scope.kind = .function := by rfl) (hl : (envOfC name scope L a cd).kindOf x = some .local := by rfl) (hd : (x == ("__debug__" : Str)) = false := by decide) :
    wpAny M A (eval (.Name x pos) (envOfC name scope L a cd)) Q E s := wpAny_Name (wpAny_loadName_local hk hl hn hv h) hd
/-- what __init__ leaves of a fresh exception at x -/
structure InitEnd (h h' : Heap) (x C dx t1 : Addr) (v : Value) : Prop where
  keep : ∀ b o, b ≠ x → h.get? b = some o → h'.get? b = some o
  obj : h'.get? x = some { cls := .ref C, dict := some dx, data := .fields #[.ref t1, .none, .none, .none, .bool false, .none] }
  dbig : h.objs.size ≤ dx
  dne : dx ≠ x
  ns : h'.Ns1 dx (fun y => if y = "given" then some v else none)
/-- a made Low -/
structure OwnMade (h h' : Heap) (e C d : Addr) (v : Value) : Prop where
  keep : ∀ b o, h.get? b = some o → h'.get? b = some o
  new : h.objs.size ≤ e
  obj : ∃ oe vs, h'.get? e = some oe ∧ oe.cls = .ref C ∧ oe.dict = some d ∧ oe.data = .fields vs ∧ vs[1]? = some .none
  dbig : h.objs.size ≤ d
  dne : d ≠ e
  ns : h'.Ns1 d (fun y => if y = "given" then some v else none)
section
variable {xn q0 : Str} {prog : Program} {w : World} {A : Around} {E : Value → Shared → Prop} {R : Result → Shared → Prop} {s : Shared} {K : Frag} {mg : Str → Option Value} {C fI : Addr}
theorem low_init (T : XTxt xn q0 K mg C fI) {x t0 : Addr} {v : Value} (X : K.In s.heap) (hlim : s.heap.NoLimit) (hx : s.heap.get? x = some (excO C t0)) (hnx : K.lookup x = none) (hroom : A.depth < recursionLimit)
    (hq : ∀ h' tk dx, InitEnd s.heap h' x C dx t0 v → R (.ok (.ret .none)) { s with heap := h', toks := tk }) :
    codeAny (model prog w) A (.call (.ref fI) ⟨[.ref x, v], []⟩) R s := by
  obtain ⟨oc, od, doc, pm, an, cdv, ct, osl, p1, p2, q1, q2, q3, q4, ho, hcd⟩ := T.fn
  obtain ⟨nm, q, N, bs, bm, sn, sub, ab, col, dd, k0, k1, k2, k3, k5, hC, hbm⟩ := T.cls
  have hcl : clsIn K C = some { name := nm, bases := bs, mro := .ref C :: bm, ns := N, qualname := q, hasDict := true, slotNames := sn, subclasses := sub, abstract := ab, collection := col, hasDel := false } := by unfold clsIn; rw [hC] <;> rfl
  refine Att.call_fn (binds := [("self", .ref x), ("given", v)]) X hlim ho hcd hroom (BindsTo.of_eq (by first | rfl | with_unfolding_all rfl)) (by first | rfl | decide | with_unfolding_all rfl) (fun s₁ IC => ?_) rfl rfl rfl
  obtain ⟨h₁, tk₁, rfl⟩ := IC.toInCall.same
  have k : ∀ b o, s.heap.get? b = some o → h₁.get? b = some o := IC.toInCall.keep
  have hn := IC.toInCall.ns
  have hxL : s.heap.objs.size ≠ x := Nat.ne_of_gt (Heap.lt_size hx)
  have X₁ : K.In h₁ := X.keeps k
  have hx₁ := k _ _ hx
  -- self.by = by
  show wpAny _ _ (execs _ _) _ _ _
  refine wpAny_execs_cons (plainObj_wpAny_Assign_Attribute ?_)
  refine ldC (v := v) hn (by first | rfl | with_unfolding_all rfl | kernel_rfl) (ldC (v := .ref x) hn (by first | rfl | with_unfolding_all rfl | kernel_rfl) ?_)
  refine set_plain X₁ (ox := excO C t0) (od := none) ⟨hx₁, rfl, rfl, trivial⟩ T.sa ?_
  refine exc_osa X₁ hx₁ hcl (show refsVE (.ref C :: bm) = true from hbm) rfl T.noN (fun h₃ tk₃ dx k₃ dn dne hx₃ hn₃ => ?_)
  show wpAny _ _ (execs _ _) _ _ _
  have z : s.heap.objs.size < h₁.objs.size := hn.lt
  exact wpAny_execs_nil (hq h₃ tk₃ dx ⟨fun b o hb e => k₃ b o hb (k b o e), hx₃, Nat.le_of_lt (Nat.lt_of_lt_of_le z dn), dne, hn₃⟩)
theorem low_made (T : XTxt xn q0 K mg C fI) {v : Value} (X : K.In s.heap) (hlim : s.heap.NoLimit) (hroom : A.depth + 1 < recursionLimit)
    (hq : ∀ h' tk e d, OwnMade s.heap h' e C d v → R (.ok (.ret (.ref e))) { s with heap := h', toks := tk }) :
    codeAny (model prog w) A (.call (.ref C) ⟨[v], []⟩) R s := by
  obtain ⟨nm, q, N, bs, bm, sn, sub, ab, col, dd, k0, k1, k2, k3, k5, hC, hbm⟩ := T.cls
  obtain ⟨hp, g, dr, tk, os⟩ := s
  have k : ∀ b o, hp.get? b = some o → ((hp.push (kdv_tup [v])).push (excO C hp.objs.size)).get? b = some o := fun b o e => Heap.get?_push_of_some _ (Heap.get?_push_of_some _ e)
  have hget : ((hp.push (kdv_tup [v])).push (excO C hp.objs.size)).get? (hp.objs.size + 1) = some (excO C hp.objs.size) := by heap_get
  have hnx : K.lookup (hp.objs.size + 1) = none := by
    cases e : K.lookup (hp.objs.size + 1) with
    | none => rfl
    | some o =>
      have z : hp.get? (hp.objs.size + 1) = some o := X _ _ e
      exact absurd (Nat.lt_of_succ_lt (Heap.lt_size z)) (Nat.lt_irrefl _)
  refine call_own F.excBase_ValueError (fun X => refsVE_contains X bm hbm) (X _ _ hC) (looks_findIn X T.iC) (fun self => bind_fn X self T.tC) (one_size v) ?_
  refine low_init (s := ⟨(hp.push (kdv_tup [v])).push (excO C hp.objs.size), g, dr, tk, os⟩) T (X.keeps k) (hlim.keeps k) hget hnx ?_ fun h' tk' dx ⟨k', hx, dn, dne, hns⟩ => ?_
  · show A.depth + 1 < recursionLimit
    exact hroom
  · have old : ∀ b o, hp.get? b = some o → h'.get? b = some o := fun b o e => k' b o (Nat.ne_of_lt (Nat.lt_succ_of_lt (Heap.lt_size e))) (k b o e)
    have z : hp.objs.size + 1 + 1 ≤ dx := by
      first
        | (simpa only [Heap.size_push] using dn)
        | exact dn
        | (have q := dn; rw [Heap.size_push, Heap.size_push] at q; exact q)
    exact ⟨rfl, hq h' tk' (hp.objs.size + 1) dx ⟨old, Nat.le_succ _, ⟨_, _, hx, rfl, rfl, rfl, rfl⟩, Nat.le_trans (Nat.le_trans (Nat.le_succ _) (Nat.le_succ _)) z, dne, hns⟩⟩
end
end PD.XG

namespace PD.XG
open PySem PySem.Spec PyProof.Rows L2
theorem relO_low {v : V} {v' : Value} (r : RelV v v') (f : Str) : RelO (List.lookup f [(("given" : Str), v)]) (if f = "given" then some v' else none) := by
  by_cases hw : f = "given"
  · subst hw
    rw [if_pos rfl]
    have q : List.lookup ("given" : Str) [(("given" : Str), v)] = some v := by simp [List.lookup]
    rw [q]
    exact r
  · rw [if_neg hw]
    have qw : (f == ("given" : Str)) = false := by simpa using hw
    have q2 : List.lookup f [(("given" : Str), v)] = none := by simp [List.lookup, qw]
    rw [q2]
    trivial
section
variable {xn q0 : Str} {X : Cx} {C fI : Addr}
/-- Low(e) -/
def tMkLow (C : Addr) (ta : TA) : L2.St → Hp → XK → Prop := fun σ H Q => ta σ H fun vs H1 => ∃ v, vs = [v] ∧ ∀ d, H1 d = none → Q (.ref C) (some d) (upd H1 d (.xd [(("given" : Str), v)]))
theorem pmk_low {a : Expr} {ta : TA} {p pos : Pos} {k : Nat} (T : XTxt xn q0 X.K X.mg C fI) (hr : Room k X.A) (ha : PA X [a] ta) (hg : Gl X xn) (hdb : (xn == ("__debug__" : Str)) = false)
    (he : starEach (a :: []) X.env = (false, eval a X.env) :: starEach [] X.env := by rfl) (hpl : (backTo pos (starEach [] X.env)).any (·.1) = false := by rfl) :
    PMk X (.Call (.Name xn p) [a] [] pos) (tMkLow C ta) := by
  intro pins s σ H Q I h
  refine wpAny_Call_Name_kw (ld_glob I hg T.gC ?_ hdb)
  refine PySem.W.callWith_K (h₀ := X.base) I.ok.mod.kin T.kC (thn (ha.run pos pins s σ H _ I h) fun us s1 hh => ?_) he hpl
  obtain ⟨vs, H1, I1, r1, v, ev, q1⟩ := hh
  subst ev
  refine ⟨I1.kIn, ?_⟩
  cases r1 with
  | cons rv rn =>
    rename_i v' us'
    cases rn
    show wpAny _ _ (call (.ref C) [v']) _ _ _
    have hlim := I1.nolimit
    obtain ⟨hp, g, dr, tk, os⟩ := s1
    refine wpAny_call (low_made T I1.kIn hlim (by have := hr.dp; omega) fun h' tk' e d M => ?_)
    show MkP X pins σ Q (.ref e) ⟨h', g, dr, tk', os⟩
    obtain ⟨oe, fv, hoe, hc, hd, hdat, h1⟩ := M.obj
    have hns := M.ns
    obtain ⟨G', g1, g2⟩ := restrict h' fun b => decide (b ≠ e)
    have gk : ∀ b, b ≠ e → G'.get? b = h'.get? b := fun b hb => g1 b (decide_eq_true hb)
    have ge : G'.get? e = none := g2 e (by simp)
    have old : ∀ b o, hp.get? b = some o → G'.get? b = some o := fun b o q => (gk b (Nat.ne_of_lt (Nat.lt_of_lt_of_le (Heap.lt_size q) M.new))).trans (M.keep b o q)
    have ob : ObjOk X.prog X.w (upd H1 d (.xd [(("given" : Str), v)])) G' d (.xd [(("given" : Str), v)]) :=
      ⟨_, hns.at (fun o q => (gk d M.dne).trans q), fun f => relO_low rv f⟩
    have J : Inv X pins σ (upd H1 d (.xd [(("given" : Str), v)])) ⟨G', g, dr, tk', os⟩ := I1.laid (t' := tk') old M.dbig ob
    refine ⟨e, oe, fv, ⟨G', g, dr, tk', os⟩, _, .ref C, some d, rfl, J, fun b o q => ?_, ge, hoe, ⟨hc, hd⟩, hdat, h1, ?_, rfl, I1.bare, raises_own T.exC T.tyC, q1 d (I1.hok.fresh M.dbig)⟩
    · by_cases hb : b = e
      · have q' : G'.get? b = some o := q
        rw [hb, ge] at q'; cases q'
      · exact (gk b hb).symm.trans q
    · rw [upd_ne (Ne.symm M.dne)]
      exact I1.hok.fresh M.new
/-- raise Low(e) -/
def tRaiseLow (C : Addr) (W : WX) (ta : TA) : TS := fun _ σ H => tMkLow C ta σ H fun cls d H' => W cls d σ H'
theorem ps_raiseLow {a : Expr} {ta : TA} {W : WX} {p pos pos2 : Pos} {k : Nat} (hc : X.calm = true) (T : XTxt xn q0 X.K X.mg C fI) (hr : Room k X.A) (tk : Takes X W) (ha : PA X [a] ta) (hg : Gl X xn) (hdb : (xn == ("__debug__" : Str)) = false)
    (he : starEach (a :: []) X.env = (false, eval a X.env) :: starEach [] X.env := by rfl) (hpl : (backTo pos (starEach [] X.env)).any (·.1) = false := by rfl) :
    PS X (.Raise (some (.Call (.Name xn p) [a] [] pos)) none pos2) (tRaiseLow C W ta) := ps_raise hc tk (pmk_low T hr ha hg hdb he hpl)
/-- low.by, low the exception that the suite holds (at a; its class cls, its dict d) -/
def tByLow (C : Addr) (a : Addr) (cls : Value) (d : Option Addr) (te : TE) : TE := fun σ H Q => te σ H fun x H1 => x = .ref a ∧ cls = .ref C ∧ ∃ (dd : Addr) (v : V), d = some dd ∧ H1 dd = some (.xd [(("given" : Str), v)]) ∧ Q v H1
theorem pe_byLow {a : Addr} {oe : Obj} {cls : Value} {d : Option Addr} {pn : List (Addr × Obj)} {e : Expr} {te : TE} {pos : Pos} (T : XTxt xn q0 X.K X.mg C fI) (hz : Zc cls d oe) (hf : ∃ vs, oe.data = .fields vs) (he : PE (X.suite a ((a, oe) :: pn)) e te)
    (hb : attributeBase e "given" X.env (eval e X.env) = eval e X.env := by rfl) :
    PE (X.suite a ((a, oe) :: pn)) (.Attribute e "given" pos) (tByLow C a cls d te) := by
  refine ⟨fun pins s σ H Q I h => ?_⟩
  refine attr_of hb (thn (he.run pins s σ H _ I h) fun u s1 hh => ?_)
  obtain ⟨x, H1, I1, rx, ex, ec, dd, v, ed, ea, q⟩ := hh
  subst ex
  obtain rfl : u = Value.ref a := rx
  subst ec
  subst ed
  obtain ⟨ha, _⟩ := I1.pin (a, oe) (List.mem_append_left _ List.mem_cons_self)
  obtain ⟨vs, hd⟩ := hf
  have hx : ObjOk X.prog X.w H1 s1.heap dd (.xd [(("given" : Str), v)]) := I1.hok dd _ ea
  obtain ⟨mA, hns, hr⟩ := hx
  obtain ⟨od, ho, hl⟩ := lookIn_ns hns
  have l : List.lookup ("given" : Str) [(("given" : Str), v)] = some v := by simp [List.lookup]
  obtain ⟨u, hu, ru⟩ := RelO.some_of (v := v) (o := mA "given") (by rw [← l]; exact hr "given")
  have J : PySem.W.InstAt s1.heap a oe C (some od) := ⟨ha, hz.1, by unfold PySem.W.notCls; rw [hd] <;> rfl, by rw [hz.2]; exact ho⟩
  exact HandSPX.exc_get I1.kIn J T.ga T.gg T.exC (PySem.W.findObj_own T.hdC T.noN rfl (by rw [hl, hu])) (handed_of ru) ⟨v, H1, I1.tok _, ru, q⟩
end
end PD.XG

namespace PD.XI
open PySem PySem.W PySem.Calls PyProof.Rows PySem.HandSPX PySem.Spec
/-! ### the text of __init__ -/
def iA (p1 p2 : Pos) : Arguments := { posonlyargs := [], args := [{ arg := "self", annotation := none, pos := p1 }, { arg := "index", annotation := none, pos := p2 }], vararg := none, kwonlyargs := [], kw_defaults := [], kwarg := none, defaults := [] }
def iB (q1 q2 q3 q4 : Pos) : List Stmt := [.Assign [.Attribute (.Name "self" q1) "index" q2] (.Name "index" q3) q4]
def iS : Scope := { kind := .function, names := [(PySem.Str.ofString "self", .local), (PySem.Str.ofString "index", .local)], isGenerator := false, isCoroutine := false, more := [] }
/-- what the written part says of Low, at C, and of its __init__, at fI -/
structure XTxt (xn q0 : Str) (K : Frag) (mg : Str → Option Value) (C fI : Addr) : Prop where
  gC : mg xn = some (.ref C)
  cls : ∃ nm q N bs bm sn sub ab col dd k0 k1 k2 k3 k5, K.lookup C = some (excClassObj nm q C N bs bm true sn sub ab col dd k0 k1 k2 k3 k5 "ValueError.__new__") ∧ refsVE bm = true
  sa : findIn K (.ref C) "__setattr__" = some (some (.builtin "object.__setattr__"))
  ga : findIn K (.ref C) "__getattribute__" = some (some (.builtin "BaseException.__getattribute__"))
  gg : findIn K (.ref C) "__getattr__" = some none
  noN : findIn K (.ref C) "index" = some none
  iC : findIn K (.ref C) "__init__" = some (some (.ref fI))
  tC : typeIn K (.ref fI) = some (.type "function")
  kC : keepIn K (.ref C) = true
  exC : subIn K (.ref C) (.type "BaseException") = some true
  tyC : typeIn K (.ref C) = some (.type "type")
  hdC : hasDictIn K C = true
  te : exmOne K (.ref C) (.ref C) = some true
  fn : ∃ (oc : Value) (od : Option Addr) (doc pm : Value) (an : Option Addr) (cdv ct : Value) (osl : Array (Option Value)) (p1 p2 q1 q2 q3 q4 : Pos),
    K.lookup fI = some ⟨oc, od, .func (fnOf "__init__" q0 (iA p1 p2) (iB q1 q2 q3 q4) iS .none .none doc pm an cdv ct), osl⟩ ∧ codeIn K cdv q0 = true
theorem one_size (v : Value) : [v].length ≤ sizeLine := by
  rw [sizeLine_eq]
  exact (by decide : 1 ≤ 16777216)
theorem kept_but {K : Frag} {h h' : Heap} {x : Addr} (X : K.In h) (hx : K.lookup x = none) (k : ∀ b o, b ≠ x → h.get? b = some o → h'.get? b = some o) : K.In h' := fun a o e =>
  k a o (fun z => by rw [z, hx] at e; cases e) (X a o e)
theorem ldC {M : Model} {s : Shared} {name : Str} {scope : Scope} {L a : Addr} {cd : Value} {m : Str → Option Value} {x : Str} {pos : Pos} {v : Value} {Q : Value → Shared → Prop} {A : Around} {E : Value → Shared → Prop} (hn : s.heap.Ns L m) (hv : m x = some v) (h : Q v s)
    (hk : scope.kind = .function := by rfl) (hl : (envOfC name scope L a cd).kindOf x = some .local := by rfl) (hd : (x == ("__debug__" : Str)) = false := by decide) :
    wpAny M A (eval (.Name x pos) (envOfC name scope L a cd)) Q E s := wpAny_Name (wpAny_loadName_local hk hl hn hv h) hd
/-- what __init__ leaves of a fresh exception at x -/
structure InitEnd (h h' : Heap) (x C dx t1 : Addr) (v : Value) : Prop where
  keep : ∀ b o, b ≠ x → h.get? b = some o → h'.get? b = some o
  obj : h'.get? x = some { cls := .ref C, dict := some dx, data := .fields #[.ref t1, .none, .none, .none, .bool false, .none] }
  dbig : h.objs.size ≤ dx
  dne : dx ≠ x
  ns : h'.Ns1 dx (fun y => if y = "index" then some v else none)
/-- a made Low -/
structure OwnMade (h h' : Heap) (e C d : Addr) (v : Value) : Prop where
  keep : ∀ b o, h.get? b = some o → h'.get? b = some o
  new : h.objs.size ≤ e
  obj : ∃ oe vs, h'.get? e = some oe ∧ oe.cls = .ref C ∧ oe.dict = some d ∧ oe.data = .fields vs ∧ vs[1]? = some .none
  dbig : h.objs.size ≤ d
  dne : d ≠ e
  ns : h'.Ns1 d (fun y => if y = "index" then some v else none)
section
variable {xn q0 : Str} {prog : Program} {w : World} {A : Around} {E : Value → Shared → Prop} {R : Result → Shared → Prop} {s : Shared} {K : Frag} {mg : Str → Option Value} {C fI : Addr}
theorem low_init (T : XTxt xn q0 K mg C fI) {x t0 : Addr} {v : Value} (X : K.In s.heap) (hlim : s.heap.NoLimit) (hx : s.heap.get? x = some (excO C t0)) (hnx : K.lookup x = none) (hroom : A.depth < recursionLimit)
    (hq : ∀ h' tk dx, InitEnd s.heap h' x C dx t0 v → R (.ok (.ret .none)) { s with heap := h', toks := tk }) :
    codeAny (model prog w) A (.call (.ref fI) ⟨[.ref x, v], []⟩) R s := by
  obtain ⟨oc, od, doc, pm, an, cdv, ct, osl, p1, p2, q1, q2, q3, q4, ho, hcd⟩ := T.fn
  obtain ⟨nm, q, N, bs, bm, sn, sub, ab, col, dd, k0, k1, k2, k3, k5, hC, hbm⟩ := T.cls
  have hcl : clsIn K C = some { name := nm, bases := bs, mro := .ref C :: bm, ns := N, qualname := q, hasDict := true, slotNames := sn, subclasses := sub, abstract := ab, collection := col, hasDel := false } := by unfold clsIn; rw [hC] <;> rfl
  refine Att.call_fn (binds := [("self", .ref x), ("index", v)]) X hlim ho hcd hroom (BindsTo.of_eq (by first | rfl | with_unfolding_all rfl)) (by first | rfl | decide | with_unfolding_all rfl) (fun s₁ IC => ?_) rfl rfl rfl
  obtain ⟨h₁, tk₁, rfl⟩ := IC.toInCall.same
  have k : ∀ b o, s.heap.get? b = some o → h₁.get? b = some o := IC.toInCall.keep
  have hn := IC.toInCall.ns
  have hxL : s.heap.objs.size ≠ x := Nat.ne_of_gt (Heap.lt_size hx)
  have X₁ : K.In h₁ := X.keeps k
  have hx₁ := k _ _ hx
  -- self.by = by
  show wpAny _ _ (execs _ _) _ _ _
  refine wpAny_execs_cons (plainObj_wpAny_Assign_Attribute ?_)
  refine ldC (v := v) hn (by first | rfl | with_unfolding_all rfl | kernel_rfl) (ldC (v := .ref x) hn (by first | rfl | with_unfolding_all rfl | kernel_rfl) ?_)
  refine set_plain X₁ (ox := excO C t0) (od := none) ⟨hx₁, rfl, rfl, trivial⟩ T.sa ?_
  refine exc_osa X₁ hx₁ hcl (show refsVE (.ref C :: bm) = true from hbm) rfl T.noN (fun h₃ tk₃ dx k₃ dn dne hx₃ hn₃ => ?_)
  show wpAny _ _ (execs _ _) _ _ _
  have z : s.heap.objs.size < h₁.objs.size := hn.lt
  exact wpAny_execs_nil (hq h₃ tk₃ dx ⟨fun b o hb e => k₃ b o hb (k b o e), hx₃, Nat.le_of_lt (Nat.lt_of_lt_of_le z dn), dne, hn₃⟩)
theorem low_made (T : XTxt xn q0 K mg C fI) {v : Value} (X : K.In s.heap) (hlim : s.heap.NoLimit) (hroom : A.depth + 1 < recursionLimit)
    (hq : ∀ h' tk e d, OwnMade s.heap h' e C d v → R (.ok (.ret (.ref e))) { s with heap := h', toks := tk }) :
    codeAny (model prog w) A (.call (.ref C) ⟨[v], []⟩) R s := by
  obtain ⟨nm, q, N, bs, bm, sn, sub, ab, col, dd, k0, k1, k2, k3, k5, hC, hbm⟩ := T.cls
  obtain ⟨hp, g, dr, tk, os⟩ := s
  have k : ∀ b o, hp.get? b = some o → ((hp.push (kdv_tup [v])).push (excO C hp.objs.size)).get? b = some o := fun b o e => Heap.get?_push_of_some _ (Heap.get?_push_of_some _ e)
  have hget : ((hp.push (kdv_tup [v])).push (excO C hp.objs.size)).get? (hp.objs.size + 1) = some (excO C hp.objs.size) := by heap_get
  have hnx : K.lookup (hp.objs.size + 1) = none := by
    cases e : K.lookup (hp.objs.size + 1) with
    | none => rfl
    | some o =>
      have z : hp.get? (hp.objs.size + 1) = some o := X _ _ e
      exact absurd (Nat.lt_of_succ_lt (Heap.lt_size z)) (Nat.lt_irrefl _)
  refine call_own F.excBase_ValueError (fun X => refsVE_contains X bm hbm) (X _ _ hC) (looks_findIn X T.iC) (fun self => bind_fn X self T.tC) (one_size v) ?_
  refine low_init (s := ⟨(hp.push (kdv_tup [v])).push (excO C hp.objs.size), g, dr, tk, os⟩) T (X.keeps k) (hlim.keeps k) hget hnx ?_ fun h' tk' dx ⟨k', hx, dn, dne, hns⟩ => ?_
  · show A.depth + 1 < recursionLimit
    exact hroom
  · have old : ∀ b o, hp.get? b = some o → h'.get? b = some o := fun b o e => k' b o (Nat.ne_of_lt (Nat.lt_succ_of_lt (Heap.lt_size e))) (k b o e)
    have z : hp.objs.size + 1 + 1 ≤ dx := by
      first
        | (simpa only [Heap.size_push] using dn)
        | exact dn
        | (have q := dn; rw [Heap.size_push, Heap.size_push] at q; exact q)
    exact ⟨rfl, hq h' tk' (hp.objs.size + 1) dx ⟨old, Nat.le_succ _, ⟨_, _, hx, rfl, rfl, rfl, rfl⟩, Nat.le_trans (Nat.le_trans (Nat.le_succ _) (Nat.le_succ _)) z, dne, hns⟩⟩
end
end PD.XI

namespace PD.XI
open PySem PySem.Spec PyProof.Rows L2
theorem relO_low {v : V} {v' : Value} (r : RelV v v') (f : Str) : RelO (List.lookup f [(("index" : Str), v)]) (if f = "index" then some v' else none) := by
  by_cases hw : f = "index"
  · subst hw
    rw [if_pos rfl]
    have q : List.lookup ("index" : Str) [(("index" : Str), v)] = some v := by simp [List.lookup]
    rw [q]
    exact r
  · rw [if_neg hw]
    have qw : (f == ("index" : Str)) = false := by simpa using hw
    have q2 : List.lookup f [(("index" : Str), v)] = none := by simp [List.lookup, qw]
    rw [q2]
    trivial
section
variable {xn q0 : Str} {X : Cx} {C fI : Addr}
/-- Low(e) -/
def tMkLow (C : Addr) (ta : TA) : L2.St → Hp → XK → Prop := fun σ H Q => ta σ H fun vs H1 => ∃ v, vs = [v] ∧ ∀ d, H1 d = none → Q (.ref C) (some d) (upd H1 d (.xd [(("index" : Str), v)]))
theorem pmk_low {a : Expr} {ta : TA} {p pos : Pos} {k : Nat} (T : XTxt xn q0 X.K X.mg C fI) (hr : Room k X.A) (ha : PA X [a] ta) (hg : Gl X xn) (hdb : (xn == ("__debug__" : Str)) = false)
    (he : starEach (a :: []) X.env = (false, eval a X.env) :: starEach [] X.env := by rfl) (hpl : (backTo pos (starEach [] X.env)).any (·.1) = false := by rfl) :
    PMk X (.Call (.Name xn p) [a] [] pos) (tMkLow C ta) := by
  intro pins s σ H Q I h
  refine wpAny_Call_Name_kw (ld_glob I hg T.gC ?_ hdb)
  refine PySem.W.callWith_K (h₀ := X.base) I.ok.mod.kin T.kC (thn (ha.run pos pins s σ H _ I h) fun us s1 hh => ?_) he hpl
  obtain ⟨vs, H1, I1, r1, v, ev, q1⟩ := hh
  subst ev
  refine ⟨I1.kIn, ?_⟩
  cases r1 with
  | cons rv rn =>
    rename_i v' us'
    cases rn
    show wpAny _ _ (call (.ref C) [v']) _ _ _
    have hlim := I1.nolimit
    obtain ⟨hp, g, dr, tk, os⟩ := s1
    refine wpAny_call (low_made T I1.kIn hlim (by have := hr.dp; omega) fun h' tk' e d M => ?_)
    show MkP X pins σ Q (.ref e) ⟨h', g, dr, tk', os⟩
    obtain ⟨oe, fv, hoe, hc, hd, hdat, h1⟩ := M.obj
    have hns := M.ns
    obtain ⟨G', g1, g2⟩ := restrict h' fun b => decide (b ≠ e)
    have gk : ∀ b, b ≠ e → G'.get? b = h'.get? b := fun b hb => g1 b (decide_eq_true hb)
    have ge : G'.get? e = none := g2 e (by simp)
    have old : ∀ b o, hp.get? b = some o → G'.get? b = some o := fun b o q => (gk b (Nat.ne_of_lt (Nat.lt_of_lt_of_le (Heap.lt_size q) M.new))).trans (M.keep b o q)
    have ob : ObjOk X.prog X.w (upd H1 d (.xd [(("index" : Str), v)])) G' d (.xd [(("index" : Str), v)]) :=
      ⟨_, hns.at (fun o q => (gk d M.dne).trans q), fun f => relO_low rv f⟩
    have J : Inv X pins σ (upd H1 d (.xd [(("index" : Str), v)])) ⟨G', g, dr, tk', os⟩ := I1.laid (t' := tk') old M.dbig ob
    refine ⟨e, oe, fv, ⟨G', g, dr, tk', os⟩, _, .ref C, some d, rfl, J, fun b o q => ?_, ge, hoe, ⟨hc, hd⟩, hdat, h1, ?_, rfl, I1.bare, raises_own T.exC T.tyC, q1 d (I1.hok.fresh M.dbig)⟩
    · by_cases hb : b = e
      · have q' : G'.get? b = some o := q
        rw [hb, ge] at q'; cases q'
      · exact (gk b hb).symm.trans q
    · rw [upd_ne (Ne.symm M.dne)]
      exact I1.hok.fresh M.new
/-- raise Low(e) -/
def tRaiseLow (C : Addr) (W : WX) (ta : TA) : TS := fun _ σ H => tMkLow C ta σ H fun cls d H' => W cls d σ H'
theorem ps_raiseLow {a : Expr} {ta : TA} {W : WX} {p pos pos2 : Pos} {k : Nat} (hc : X.calm = true) (T : XTxt xn q0 X.K X.mg C fI) (hr : Room k X.A) (tk : Takes X W) (ha : PA X [a] ta) (hg : Gl X xn) (hdb : (xn == ("__debug__" : Str)) = false)
    (he : starEach (a :: []) X.env = (false, eval a X.env) :: starEach [] X.env := by rfl) (hpl : (backTo pos (starEach [] X.env)).any (·.1) = false := by rfl) :
    PS X (.Raise (some (.Call (.Name xn p) [a] [] pos)) none pos2) (tRaiseLow C W ta) := ps_raise hc tk (pmk_low T hr ha hg hdb he hpl)
/-- low.by, low the exception that the suite holds (at a; its class cls, its dict d) -/
def tByLow (C : Addr) (a : Addr) (cls : Value) (d : Option Addr) (te : TE) : TE := fun σ H Q => te σ H fun x H1 => x = .ref a ∧ cls = .ref C ∧ ∃ (dd : Addr) (v : V), d = some dd ∧ H1 dd = some (.xd [(("index" : Str), v)]) ∧ Q v H1
theorem pe_byLow {a : Addr} {oe : Obj} {cls : Value} {d : Option Addr} {pn : List (Addr × Obj)} {e : Expr} {te : TE} {pos : Pos} (T : XTxt xn q0 X.K X.mg C fI) (hz : Zc cls d oe) (hf : ∃ vs, oe.data = .fields vs) (he : PE (X.suite a ((a, oe) :: pn)) e te)
    (hb : attributeBase e "index" X.env (eval e X.env) = eval e X.env := by rfl) :
    PE (X.suite a ((a, oe) :: pn)) (.Attribute e "index" pos) (tByLow C a cls d te) := by
  refine ⟨fun pins s σ H Q I h => ?_⟩
  refine attr_of hb (thn (he.run pins s σ H _ I h) fun u s1 hh => ?_)
  obtain ⟨x, H1, I1, rx, ex, ec, dd, v, ed, ea, q⟩ := hh
  subst ex
  obtain rfl : u = Value.ref a := rx
  subst ec
  subst ed
  obtain ⟨ha, _⟩ := I1.pin (a, oe) (List.mem_append_left _ List.mem_cons_self)
  obtain ⟨vs, hd⟩ := hf
  have hx : ObjOk X.prog X.w H1 s1.heap dd (.xd [(("index" : Str), v)]) := I1.hok dd _ ea
  obtain ⟨mA, hns, hr⟩ := hx
  obtain ⟨od, ho, hl⟩ := lookIn_ns hns
  have l : List.lookup ("index" : Str) [(("index" : Str), v)] = some v := by simp [List.lookup]
  obtain ⟨u, hu, ru⟩ := RelO.some_of (v := v) (o := mA "index") (by rw [← l]; exact hr "index")
  have J : PySem.W.InstAt s1.heap a oe C (some od) := ⟨ha, hz.1, by unfold PySem.W.notCls; rw [hd] <;> rfl, by rw [hz.2]; exact ho⟩
  exact HandSPX.exc_get I1.kIn J T.ga T.gg T.exC (PySem.W.findObj_own T.hdC T.noN rfl (by rw [hl, hu])) (handed_of ru) ⟨v, H1, I1.tok _, ru, q⟩
end
end PD.XI

/-! PD6b: calls that may raise, raise, try. -/
namespace PD
open PySem PySem.Spec PyProof.Rows L2 RZ RT

/-! ### calls that may raise -/
abbrev CEX := Rho → Sto → Option ((W ⊕ Exn) × Sto)
def rdEX (X : Cx) (m : CEX) : TE := fun σ H Q => ∃ μ S ρ r S', StoOk X.K H μ S ∧ EnvOk X.K H μ ρ σ ∧ m ρ S = some (r, S') ∧
  (∀ w, r = .inl w → ∀ v H' μ', Stp X.K μ S H μ' S' H' → WRep X.K H' μ' w v → Q v H') ∧
  (∀ e, r = .inr e → ∀ cls d H' μ', Stp X.K μ S H μ' S' H' → ExRep X.K X.mg H' e.1 e.2 cls d → WOf X cls d σ H')
abbrev SEX (X : Cx) (e : Expr) (m : CEX) : Prop := PE X e (rdEX X m)
/-- what a callee does: hands back, or lets an exception out -/
def resX (c : Callee) (ws : List W) (S : Sto) : Option ((W ⊕ Exn) × Sto) := match c.run ws S with
  | some p => some (.inl p.1, p.2)
  | none => (c.exn ws S).bind fun z => some (.inr z.1, z.2)
def callX (c : Callee) (l : CL) : CEX := fun ρ S => (l ρ S).bind fun p => if p.1.length = c.ps.length then resX c p.1 p.2 else none
def kwX (c : Callee) (perm : List Nat) (l k : CL) : CEX := fun ρ S => (l ρ S).bind fun p => (k ρ p.2).bind fun q => resX c (atW perm (p.1 ++ q.1)) q.2
/-- a if t else b, each of which may let an exception out -/
def ifX (t : CB) (a b : CEX) : CEX := fun ρ S => (t ρ S).bind fun p => if p.1 = true then a ρ p.2 else b ρ p.2
def exprX (m : CEX) : CS := fun ρ S => (m ρ S).bind fun p => match p.1 with
  | .inl _ => some (.nx, ρ, p.2)
  | .inr e => some (.ex e.1 e.2, ρ, p.2)
def asgX (m : CEX) (g : CG) : CS := fun ρ S => (m ρ S).bind fun p => match p.1 with
  | .inl w => (g w ρ p.2).bind fun q => some (.nx, q.1, q.2)
  | .inr e => some (.ex e.1 e.2, ρ, p.2)
def retX (m : CEX) : CS := fun ρ S => (m ρ S).bind fun p => match p.1 with
  | .inl (.d x) => some (.rt (.d x), ρ, p.2)
  | .inl (.m _) => none
  | .inr e => some (.ex e.1 e.2, ρ, p.2)
section
variable {X : Cx} {x : Str} {p pos : Pos} {e : Expr} {es : List Expr} {c : Callee} {ml mk : CL} {kws : List Keyword} {σ : L2.St} {H : Hp} {Q : VK}
/-- what is wanted of a callee that may raise -/
def RX (X : Cx) (c : Callee) (σ : L2.St) (vs : List V) (H : Hp) (Q : VK) : Prop := FN X.K c.run vs H Q ∨ FX X.K X.mg c.exn vs H (fun cls d H' => WOf X cls d σ H')
theorem rx_of {μ μ1 : List Addr} {S S1 S' : Sto} {H1 : Hp} {ws : List W} {vs : List V} {r : W ⊕ Exn} (ok : StoOk X.K H μ S) (st1 : Stp X.K μ S H μ1 S1 H1) (r1 : WRepL X.K H1 μ1 ws vs) (e : resX c ws S1 = some (r, S'))
    (q1 : ∀ w, r = .inl w → ∀ v H' μ', Stp X.K μ S H μ' S' H' → WRep X.K H' μ' w v → Q v H') (q2 : ∀ e, r = .inr e → ∀ cls d H' μ', Stp X.K μ S H μ' S' H' → ExRep X.K X.mg H' e.1 e.2 cls d → WOf X cls d σ H') : RX X c σ vs H1 Q := by
  unfold resX at e
  cases hr : c.run ws S1 with
  | some p =>
    rw [hr] at e
    cases e
    exact .inl ⟨μ1, S1, ws, p.1, p.2, st1.sto, r1, hr, fun v H' μ' st2 r2 => q1 _ rfl v H' μ' (st1.trans ok st2) r2⟩
  | none =>
    rw [hr] at e
    cases hx : c.exn ws S1 with
    | none => simp only [hx] at e; cases e
    | some z =>
      simp only [hx, Option.bind_some] at e
      cases e
      exact .inr ⟨μ1, S1, ws, z.1, z.2, st1.sto, r1, hx, fun cls d H' μ' st2 r2 => q2 _ rfl cls d H' μ' (st1.trans ok st2) r2⟩
theorem rdx_call (h : rdEX X (callX c ml) σ H Q) : rdL X.K ml σ H fun vs H1 => vs.length = c.ps.length ∧ RX X c σ vs H1 Q := by
  obtain ⟨μ, S, ρ, r, S', ok, en, e, q1, q2⟩ := h
  unfold callX at e
  cases h1 : ml ρ S with
  | none => rw [h1] at e; cases e
  | some p =>
    obtain ⟨ws, S1⟩ := p
    rw [h1, Option.bind_some] at e
    split at e
    · rename_i hl
      exact ⟨μ, S, ρ, ws, S1, ok, en, h1, fun vs H1 μ1 st1 r1 => ⟨by rw [← r1.length]; exact hl, rx_of ok st1 r1 e q1 q2⟩⟩
    · cases e
theorem rdx_kw {perm : List Nat} (h : rdEX X (kwX c perm ml mk) σ H Q) : rdL X.K ml σ H fun vs H1 => rdL X.K mk σ H1 fun zs H2 => RX X c σ (atV perm (vs ++ zs)) H2 Q := by
  obtain ⟨μ, S, ρ, r, S', ok, en, e, q1, q2⟩ := h
  unfold kwX at e
  cases h1 : ml ρ S with
  | none => rw [h1] at e; cases e
  | some p =>
    obtain ⟨ws, S1⟩ := p
    rw [h1, Option.bind_some] at e
    cases h2 : mk ρ S1 with
    | none => rw [h2] at e; cases e
    | some p2 =>
      obtain ⟨zs, S2⟩ := p2
      rw [h2, Option.bind_some] at e
      refine ⟨μ, S, ρ, ws, S1, ok, en, h1, fun vs H1 μ1 st1 r1 => ⟨μ1, S1, ρ, zs, S2, st1.sto, en.step ok st1, h2, fun us H2 μ2 st2 r2 => ?_⟩⟩
      have r12 := (r1.mono (st2.keeps st1.sto) st2.pre).append r2
      exact rx_of ok (st1.trans ok st2) (wrep_at r12 perm) e q1 q2
theorem runs_tox {pins : List (Addr × Obj)} {s : Shared} {f : Addr} {fd : FuncData} {k : Nat} {args : Args} {us : List Value} {vs : List V} (F : FnG X.prog X.w X.K X.mg X.base k f fd c.ps c.run c.exn) (hr : Room k X.A) (hg : X.A.guards = some [])
    (I : Inv X pins σ H s) (hb : BindsTo s fd args (c.ps.zip us)) (r : Vals vs us) (hl : vs.length = c.ps.length) (h : RX X c σ vs H Q) : codeAny (model X.prog X.w) X.A (.call (.ref f) args) (fun r s' => match r with
      | .ok (.ret u) => EP X pins σ Q u s'
      | .ok _ => False
      | .error e => X.xe e s') s := by
  rcases h with h | h
  · refine codeAny_mono (runs_to F hr hg I hb r hl h) fun r s' q => ?_
    cases r with
    | error _ => exact q.elim
    | ok fl => cases fl <;> exact q
  · refine codeAny_mono (F.runx X.A X.stack s H args us vs _ hr hg I.env0 hb r hl h) fun r s' q => ?_
    cases r with
    | error e => exact passAt (takes_WOf X) σ pins H s e s' I q
    | ok fl =>
      cases fl with
      | ret u => obtain ⟨v, H', _, _, _, _, _, z⟩ := q; exact z.elim
      | next => exact q
      | brk => exact q
      | cont => exact q
theorem sx_call (C : CalleeOk X x c) (hg : Gl X x) (ha : SL X (e :: es) ml) (hdb : (x == ("__debug__" : Str)) = false) (he : starEach (e :: es) X.env = (false, eval e X.env) :: starEach es X.env) (hpl : (backTo pos (starEach es X.env)).any (·.1) = false) :
    SEX X (.Call (.Name x p) (e :: es) [] pos) (callX c ml) := by
  obtain ⟨f, fd, k, hm, hk, hr, F, hb, _⟩ := C.ex
  refine ⟨fun pins s σ H Q I h => wpAny_Call_Name_kw (ld_glob I hg hm ?_ hdb)⟩
  refine PySem.W.callWith_K (h₀ := X.base) I.ok.mod.kin hk (thn (ha.run pos pins s σ H _ I (rdx_call h)) fun us s1 ⟨vs, H1, I1, r, hl, q⟩ => ⟨I1.kIn, ?_⟩) he hpl
  refine wpAny_call (codeAny_mono (runs_tox F hr C.guards I1 (hb s1 us (by rw [← r.length]; exact hl)) r hl q) fun r s' z => ?_)
  cases r with
  | error _ => exact z
  | ok fl => cases fl <;> exact z
theorem sx_callK {perm : List Nat} {ks : List Str} (C : CalleeOk X x c) (hg : Gl X x) (ha : SL X (e :: es) ml) (hkw : SK X kws mk) (n1 : ∀ ρ S r, ml ρ S = some r → r.1.length = (e :: es).length) (n2 : ∀ ρ S r, mk ρ S = some r → r.1.length = ks.length)
    (ho : ((e :: es).length, ks, perm) ∈ c.arr) (hall : (backToKw pos (keywordEach kws X.env)).all (·.1.isSome) = true) (hks : (backToKw pos (keywordEach kws X.env)).filterMap (·.1) = ks)
    (hdb : (x == ("__debug__" : Str)) = false) (he : starEach (e :: es) X.env = (false, eval e X.env) :: starEach es X.env)
    (hpl : ((backTo pos (starEach (e :: es) X.env)).any (·.1) || (backToKw pos (keywordEach kws X.env)).any (·.1.isNone)) = false) :
    SEX X (.Call (.Name x p) (e :: es) kws pos) (kwX c perm ml mk) := by
  obtain ⟨f, fd, k, hm, hk, hr, F, _, hb, hpl2⟩ := C.ex
  refine ⟨fun pins s σ H Q I h => wpAny_Call_Name_kw (ld_glob I hg hm ?_ hdb)⟩
  refine PySem.W.callWith_KW (h₀ := X.base) I.ok.mod.kin hk hall (thn (ha.run pos pins s σ H _ I (rdL_len _ n1 (rdx_kw h))) fun us s1 ⟨vs, H1, I1, r, l1, q⟩ => ?_) hpl he
  refine thn (hkw.run pos pins s1 σ H1 _ I1 (rdL_len _ n2 q)) fun ws s2 ⟨zs, H2, I2, rz, l2, q2⟩ => ⟨I2.kIn, ?_⟩
  rw [hks]
  have rr := vals_at (r.append rz) perm
  have hl : (atV perm (vs ++ zs)).length = c.ps.length := by unfold atV; rw [List.length_map]; exact hpl2 _ ho
  refine wpAny_call (codeAny_mono (runs_tox F hr C.guards I2 (hb _ ho s2 us ws (by rw [← r.length]; exact l1) (by rw [← rz.length]; exact l2)) rr hl q2) fun r s' z => ?_)
  cases r with
  | error _ => exact z
  | ok fl => cases fl <;> exact z
theorem sx_callK0 {perm : List Nat} {ks : List Str} (C : CalleeOk X x c) (hg : Gl X x) (hkw : SK X kws mk) (n2 : ∀ ρ S r, mk ρ S = some r → r.1.length = ks.length)
    (ho : (0, ks, perm) ∈ c.arr) (hall : (backToKw pos (keywordEach kws X.env)).all (·.1.isSome) = true) (hks : (backToKw pos (keywordEach kws X.env)).filterMap (·.1) = ks)
    (hdb : (x == ("__debug__" : Str)) = false)
    (hpl : ((backTo pos (starEach [] X.env)).any (·.1) || (backToKw pos (keywordEach kws X.env)).any (·.1.isNone)) = false) :
    SEX X (.Call (.Name x p) [] kws pos) (kwX c perm nilL mk) := by
  obtain ⟨f, fd, k, hm, hk, hr, F, _, hb, hpl2⟩ := C.ex
  refine ⟨fun pins s σ H Q I h => wpAny_Call_Name_kw (ld_glob I hg hm ?_ hdb)⟩
  have h1 : rdL X.K mk σ H fun zs H2 => RX X c σ (atV perm ([] ++ zs)) H2 Q := by
    obtain ⟨μ, S, ρ, ws, S', ok, en, e, q⟩ := rdx_kw h
    cases e
    exact q [] H μ (.refl ok) .nil
  refine PySem.W.callWith_KW0 (h₀ := X.base) I.ok.mod.kin hk hall (thn (hkw.run pos pins s σ H _ I (rdL_len _ n2 h1)) fun ws s2 ⟨zs, H2, I2, rz, l2, q2⟩ => ⟨I2.kIn, ?_⟩) hpl
  rw [hks]
  have rr := vals_at rz perm
  have hl : (atV perm zs).length = c.ps.length := by unfold atV; rw [List.length_map]; exact hpl2 _ ho
  refine wpAny_call (codeAny_mono (runs_tox F hr C.guards I2 (hb _ ho s2 [] ws rfl (by rw [← rz.length]; exact l2)) rr hl q2) fun r s' z => ?_)
  cases r with
  | error _ => exact z
  | ok fl => cases fl <;> exact z
end
section
variable {X : Cx} {e : Expr} {m : CEX} {pos : Pos}
theorem sx_if {ec ea eb : Expr} {tc : CB} {ma mb : CEX} {pos : Pos} (hc : SB X ec tc) (ha : SEX X ea ma) (hb : SEX X eb mb) : SEX X (.IfExp ec ea eb pos) (ifX tc ma mb) :=
  PE.imp (pe_ifExp hc ha hb) fun σ H Q ⟨μ, S, ρ, r, S', ok, en, e, q1, q2⟩ => by
    unfold ifX at e
    cases hx : tc ρ S with
    | none => rw [hx] at e; cases e
    | some p =>
      obtain ⟨k, S1⟩ := p
      rw [hx, Option.bind_some] at e
      refine ⟨μ, S, ρ, k, S1, ok, en, hx, fun H1 μ1 st1 => ?_⟩
      cases k with
      | true => exact ⟨μ1, S1, ρ, r, S', st1.sto, en.step ok st1, e, fun w hw v H2 μ2 st2 => q1 w hw v H2 μ2 (st1.trans ok st2), fun x hx cls d H2 μ2 st2 => q2 x hx cls d H2 μ2 (st1.trans ok st2)⟩
      | false => exact ⟨μ1, S1, ρ, r, S', st1.sto, en.step ok st1, e, fun w hw v H2 μ2 st2 => q1 w hw v H2 μ2 (st1.trans ok st2), fun x hx cls d H2 μ2 st2 => q2 x hx cls d H2 μ2 (st1.trans ok st2)⟩
theorem ss_exprX (h : SEX X e m) (hs : swapsWith e none pos.line X.env = pure false) : SS X (.Expr e pos) (exprX m) := PS.imp (ps_expr h hs) fun D σ H ⟨μ, S, ρ, fl, ρ', S', ok, en, e, q⟩ => by
  unfold exprX at e
  cases hx : m ρ S with
  | none => rw [hx] at e; cases e
  | some p =>
    obtain ⟨r, S1⟩ := p
    rw [hx, Option.bind_some] at e
    cases r with
    | inl w =>
      cases e
      exact ⟨μ, S, ρ, _, _, ok, en, hx, fun w _ v H1 μ1 st1 r1 => q σ H1 μ1 st1 (en.step ok st1), fun e z => nomatch z⟩
    | inr ex =>
      cases e
      refine ⟨μ, S, ρ, _, _, ok, en, hx, fun w z => (nomatch z), fun e z cls d H1 μ1 st1 xr => ?_⟩
      cases z
      exact q σ H1 μ1 st1 (en.step ok st1) cls d xr
theorem ss_asgX {tg : Expr} {g : CG} {vs : List Nat} (h : SEX X e m) (hg : SG X tg g vs) (hs : swapsWithSole [tg] e pos.line X.env = pure false) (hw : swappedStores [tg] e X.env = pure none) (h1 : (assignEach [tg] X.env).map (·.2) = [assign tg X.env]) : SS X (.Assign [tg] e pos) (asgX m g) :=
  PS.imp (ps_asg h hg hs hw h1) fun D σ H ⟨μ, S, ρ, fl, ρ', S', ok, en, e, q⟩ => by
    unfold asgX at e
    cases hx : m ρ S with
    | none => rw [hx] at e; cases e
    | some p =>
      obtain ⟨r, S1⟩ := p
      rw [hx, Option.bind_some] at e
      cases r with
      | inl w =>
        simp only at e
        cases hy : g w ρ S1 with
        | none => rw [hy] at e; cases e
        | some p2 =>
          obtain ⟨ρ2, S2⟩ := p2
          rw [hy, Option.bind_some] at e
          cases e
          refine ⟨μ, S, ρ, _, _, ok, en, hx, fun w z v H1 μ1 st1 r1 => ?_, fun e z => nomatch z⟩
          cases z
          exact ⟨μ1, S1, ρ, _, _, _, st1.sto, en.step ok st1, r1, hy, fun σ2 H2 μ2 st2 en2 _ => q σ2 H2 μ2 (st1.trans ok st2) en2⟩
      | inr ex =>
        cases e
        refine ⟨μ, S, ρ, _, _, ok, en, hx, fun w z => (nomatch z), fun e z cls d H1 μ1 st1 xr => ?_⟩
        cases z
        exact q σ H1 μ1 st1 (en.step ok st1) cls d xr
theorem ss_retX (h : SEX X e m) : SS X (.Return (some e) pos) (retX m) := PS.imp (ps_ret h) fun D σ H ⟨μ, S, ρ, fl, ρ', S', ok, en, e, q⟩ => by
  unfold retX at e
  cases hx : m ρ S with
  | none => rw [hx] at e; cases e
  | some p =>
    obtain ⟨r, S1⟩ := p
    rw [hx, Option.bind_some] at e
    cases r with
    | inl w =>
      cases w with
      | d y =>
        cases e
        refine ⟨μ, S, ρ, _, _, ok, en, hx, fun w z v H1 μ1 st1 r1 => ?_, fun e z => nomatch z⟩
        cases z
        exact q σ H1 μ1 st1 (en.step ok st1) v r1
      | m n => cases e
    | inr ex =>
      cases e
      refine ⟨μ, S, ρ, _, _, ok, en, hx, fun w z => (nomatch z), fun e z cls d H1 μ1 st1 xr => ?_⟩
      cases z
      exact q σ H1 μ1 st1 (en.step ok st1) cls d xr
end

/-! ### raise -/
/-- what is known of an own class of exceptions: its fields -/
inductive ClsOk (K : PySem.W.Frag) (mg : Str → Option Value) : Str → List Str → Prop
  | none {n : Str} {C : Addr} : mg n = some (.ref C) → PySem.W.excIn K C [.type "ValueError", .type "Exception", .type "BaseException", .type "object"] "ValueError.__new__" = true → PySem.W.keepIn K (.ref C) = true → PySem.W.subIn K (.ref C) (.type "BaseException") = some true → PySem.W.typeIn K (.ref C) = some (.type "type") → ClsOk K mg n []
  | given {n q0 : Str} {C fI : Addr} : XG.XTxt n q0 K mg C fI → ClsOk K mg n ["given"]
  | index {n q0 : Str} {C fI : Addr} : XI.XTxt n q0 K mg C fI → ClsOk K mg n ["index"]
def raiseS (n : Str) (fs : List Str) (l : CL) : CS := fun ρ S => (l ρ S).bind fun p => (allD p.1).bind fun xs => if xs.length = fs.length then some (.ex n (fs.zip xs), ρ, p.2) else none
section
variable {X : Cx} {n : Str} {p pos pos2 : Pos} {e : Expr} {ml : CL}
theorem pmk_own0 {C : Addr} {bmB : List Value} {B newId initId : String} (F : ExcBaseFacts B newId initId bmB) (q : PySem.W.excIn X.K C bmB newId = true) (gC : X.mg n = some (.ref C))
    (kC : PySem.W.keepIn X.K (.ref C) = true) (r : Raises X (.ref C)) (hg : Gl X n) (hdb : (n == ("__debug__" : Str)) = false) :
    PMk X (.Call (.Name n p) [] [] pos) (fun σ H Q => Q (.ref C) none H) := by
  intro pins s σ H Q I h
  refine wpAny_Call_Name_kw (ld_glob I hg gC ?_ hdb)
  refine PySem.W.callWith_K0 I.kIn kC ?_
  show wpAny _ _ (call (.ref C) []) _ _ _
  obtain ⟨bm, N, nm, qn, bs, hdct, sn, sub, ab, col, dd, k0, k1, k2, k3, k5, mN, hC, hN, hni, T⟩ := exc_obj I.kIn q
  refine wpAny_call_exc_subT F T hC hN hni (fun h' e hm => ?_) (Nat.zero_le _)
  exact mk_of I hm r h (I.hok.gone hm.new)
theorem ss_raise0 (hc : X.calm = true) (T : ClsOk X.K X.mg n []) (hg : Gl X n) (hdb : (n == ("__debug__" : Str)) = false) : SS X (.Raise (some (.Call (.Name n p) [] [] pos)) none pos2) (raiseS n [] nilL) := by
  cases T with
  | none gC q kC sC tC =>
    refine PS.imp (ps_raise hc (takes_WOf X) (pmk_own0 PySem.F.excBase_ValueError q gC kC (raises_own sC tC) hg hdb)) fun D σ H ⟨μ, S, ρ, fl, ρ', S', ok, en, e, q⟩ => ?_
    cases e
    exact q σ H μ (.refl ok) en _ _ ⟨_, gC, rfl, .inl ⟨rfl, rfl⟩⟩
theorem allD1 {ws : List W} {xs : List PyData} (h : allD ws = some xs) (hl : xs.length = 1) : ∃ x, ws = [.d x] ∧ xs = [x] := by
  match ws, h with
  | [], h => cases h; cases hl
  | .d x :: r, h =>
    unfold allD at h
    cases e : allD r with
    | none => rw [e] at h; cases h
    | some ys =>
      rw [e, Option.bind_some] at h
      cases h
      cases r with
      | nil => cases e; exact ⟨x, rfl, rfl⟩
      | cons w r =>
        exfalso
        cases w with
        | d y =>
          unfold allD at e
          cases e2 : allD r with
          | none => rw [e2] at e; cases e
          | some zs => rw [e2] at e; cases e; simp at hl
        | m j => cases e
  | .m j :: r, h => cases h
theorem ss_raise1 {f : Str} (hc : X.calm = true) (hr : Room 0 X.A) (T : ClsOk X.K X.mg n [f]) (hg : Gl X n) (hdb : (n == ("__debug__" : Str)) = false) (ha : SL X [e] ml)
    (he : starEach [e] X.env = (false, eval e X.env) :: starEach [] X.env) (hpl : (backTo pos (starEach [] X.env)).any (·.1) = false) : SS X (.Raise (some (.Call (.Name n p) [e] [] pos)) none pos2) (raiseS n [f] ml) := by
  have key : ∀ {C : Addr} {σ : L2.St} {H : Hp} {D : Ends}, X.mg n = some (.ref C) → rdS X (raiseS n [f] ml) D σ H → rdL X.K ml σ H fun vs H1 => ∃ v, vs = [v] ∧ ∀ d, H1 d = none → WOf X (.ref C) (some d) σ (upd H1 d (.xd [(f, v)])) := by
    rintro C σ H D gC ⟨μ, S, ρ, fl, ρ', S', ok, en, e, q⟩
    unfold raiseS at e
    cases hx : ml ρ S with
    | none => rw [hx] at e; cases e
    | some pp =>
      obtain ⟨ws, S1⟩ := pp
      rw [hx, Option.bind_some] at e
      cases hd : allD ws with
      | none => simp only [hd] at e; cases e
      | some xs =>
        simp only [hd, Option.bind_some] at e
        split at e
        · rename_i hl
          obtain ⟨x, rfl, rfl⟩ := allD1 hd hl
          cases e
          refine ⟨μ, S, ρ, _, _, ok, en, hx, fun vs H1 μ1 st1 r1 => ?_⟩
          cases r1 with | @cons _ v _ _ r1 l1 =>
          cases l1
          cases r1 with | d r1 =>
          refine ⟨v, rfl, fun d hd => ?_⟩
          have st2 := Stp.new st1.sto (o := .xd [(f, v)]) hd
          have st12 := st1.trans ok st2
          exact q σ _ μ1 st12 (en.step ok st12) _ _ ⟨C, gC, rfl, .inr ⟨d, _, rfl, upd_same, .cons (r1.mono (st2.keeps st1.sto)) .nil⟩⟩
        · cases e
  cases T with
  | given T => exact PS.imp (ps_raise hc (takes_WOf X) (XG.pmk_low T hr ha hg hdb he hpl)) fun D σ H h => key T.gC h
  | index T => exact PS.imp (ps_raise hc (takes_WOf X) (XI.pmk_low T hr ha hg hdb he hpl)) fun D σ H h => key T.gC h
end
end PD

/-! PD6d: suites of except clauses by functions; try. -/
namespace PD
open PySem PySem.Spec PyProof.Rows L2 RZ RT

section
variable {K : PySem.W.Frag} {mg : Str → Option Value} {H H' : Hp} {μ μ' : List Addr} {S S' : Sto}
theorem Flds.mono (k : Keeps H H') : ∀ {as : List (Str × PyData)} {fs : List (Str × V)}, Flds K H as fs → Flds K H' as fs
  | _, _, .nil => .nil
  | _, _, .cons r l => .cons (r.mono k) (Flds.mono k l)
theorem ExRep.step (ok : StoOk K H μ S) (st : Stp K μ S H μ' S' H') {n : Str} {as : List (Str × PyData)} {cls : Value} {d : Option Addr} (x : ExRep K mg H n as cls d) : ExRep K mg H' n as cls d := by
  obtain ⟨C, h1, h2, h3 | ⟨dd, fs, h4, h5, h6⟩⟩ := x
  · exact ⟨C, h1, h2, .inl h3⟩
  · refine ⟨C, h1, h2, .inr ⟨dd, fs, h4, st.ext dd _ h5 fun l => ?_, h6.mono (st.keeps ok)⟩⟩
    obtain ⟨vs, z⟩ := ok.live_lst l
    rw [h5] at z; cases z
end
/-- a suite, of the exception that it handles -/
abbrev SM := Str → List (Str × PyData) → CS
abbrev EM := Str → List (Str × PyData) → CE
abbrev LM := Str → List (Str × PyData) → CL
def GoesU (K : PySem.W.Frag) (D : Ends) (μ : List Addr) (σ : L2.St) (H : Hp) : Fl → Prop
  | .nx => D.nx σ H
  | .rt w => ∀ v, WRep K H μ w v → D.rt v H
  | _ => False
def Slot (o : Option Nat) (a : Addr) (σ : L2.St) : Prop := ∀ i, o = some i → σ[i]? = some (some (.ref a))
def rdU (X : Cx) (o : Option Nat) (a : Addr) (cls : Value) (d : Option Addr) (s : SM) : TS := fun D σ H => Slot o a σ ∧ ∃ n as, ExRep X.K X.mg H n as cls d ∧ ∃ μ S ρ fl ρ' S', StoOk X.K H μ S ∧ EnvOk X.K H μ ρ σ ∧ s n as ρ S = some (fl, ρ', S') ∧
  ∀ σ' H' μ', Stp X.K μ S H μ' S' H' → EnvOk X.K H' μ' ρ' σ' → GoesU X.K D μ' σ' H' fl
def rdUE (X : Cx) (o : Option Nat) (a : Addr) (cls : Value) (d : Option Addr) (m : EM) : TE := fun σ H Q => Slot o a σ ∧ ∃ n as, ExRep X.K X.mg H n as cls d ∧ rdE X.K (m n as) σ H Q
def rdUL (X : Cx) (o : Option Nat) (a : Addr) (cls : Value) (d : Option Addr) (m : LM) : TA := fun σ H Q => Slot o a σ ∧ ∃ n as, ExRep X.K X.mg H n as cls d ∧ rdL X.K (m n as) σ H Q
theorem rdE_keep {K : PySem.W.Frag} {mg : Str → Option Value} {m : CE} {σ : L2.St} {H : Hp} {Q : VK} (h : rdE K m σ H Q) : rdE K m σ H fun v H1 => (∀ n as cls d, ExRep K mg H n as cls d → ExRep K mg H1 n as cls d) ∧ Q v H1 := by
  obtain ⟨μ, S, ρ, w, S', ok, en, e, q⟩ := h
  exact ⟨μ, S, ρ, w, S', ok, en, e, fun v H' μ' st r => ⟨fun n as cls d x => x.step ok st, q v H' μ' st r⟩⟩
section
variable {X : Cx} {o : Option Nat} {a : Addr} {oe : Obj} {cls : Value} {d : Option Addr} {pn : List (Addr × Obj)} {e b : Expr} {es : List Expr} {pos : Pos}
theorem ue_plain {m : CE} (h : SE (X.suite a ((a, oe) :: pn)) e m) : PE (X.suite a ((a, oe) :: pn)) e (rdUE X o a cls d fun _ _ => m) := PE.imp h fun σ H Q ⟨_, n, as, _, r⟩ => r
theorem ul_nil : PA (X.suite a ((a, oe) :: pn)) [] (rdUL X o a cls d fun _ _ => nilL) := PA.imp pa_nil fun σ H Q ⟨_, n, as, _, μ, S, ρ, w, S', ok, en, e, q⟩ => by
  cases e
  exact q _ H μ (.refl ok) .nil
theorem ul_cons {m : EM} {l : LM} (ha : PE (X.suite a ((a, oe) :: pn)) e (rdUE X o a cls d m)) (hl : PA (X.suite a ((a, oe) :: pn)) es (rdUL X o a cls d l)) (hs : starEach (e :: es) X.env = (false, eval e X.env) :: starEach es X.env) :
    PA (X.suite a ((a, oe) :: pn)) (e :: es) (rdUL X o a cls d fun n as => consL (m n as) (l n as)) := PA.imp (pa_cons ha hl hs) fun σ H Q ⟨s, n, as, x, r⟩ =>
  ⟨s, n, as, x, by
    have := rdE_keep (mg := X.mg) (rd_cons r)
    obtain ⟨μ, S, ρ, w, S', ok, en, e, q⟩ := this
    exact ⟨μ, S, ρ, w, S', ok, en, e, fun v H' μ' st r => ⟨s, n, as, (q v H' μ' st r).1 _ _ _ _ x, (q v H' μ' st r).2⟩⟩⟩
theorem ue_tup {l : LM} {k : Nat} (h : PA (X.suite a ((a, oe) :: pn)) es (rdUL X o a cls d l)) : PE (X.suite a ((a, oe) :: pn)) (.Tuple es k pos) (rdUE X o a cls d fun n as => appE tupF (l n as)) := PE.imp (pe_tup h) fun σ H Q ⟨s, n, as, x, h⟩ => by
  obtain ⟨μ, S, ρ, ws, S1, ok, en, e, q⟩ := rd_app h
  refine ⟨s, n, as, x, μ, S, ρ, ws, S1, ok, en, e, fun vs H1 μ1 st r => ?_⟩
  obtain ⟨μ2, S2, ws2, w, S3, ok2, r2, e2, q2⟩ := q vs H1 μ1 st r
  unfold tupF at e2
  cases ea : allD ws2 with
  | none => rw [ea] at e2; cases e2
  | some xs =>
    rw [ea, Option.bind_some] at e2
    split at e2
    · rename_i hz
      cases e2
      have rl := allD_rep r2 ea
      exact ⟨by rw [← rl.length]; exact lim_le hz, fun p hp => q2 _ _ μ2 (.new ok2 hp) (.d (.tup (.inl upd_same) (rl.mono fun a o e _ => same_new hp a o e)))⟩
    · cases e2
theorem ue_lst {l : LM} (h : PA (X.suite a ((a, oe) :: pn)) es (rdUL X o a cls d l)) : PE (X.suite a ((a, oe) :: pn)) (.List es pos) (rdUE X o a cls d fun n as => appE lstF (l n as)) := PE.imp (pe_fz (pe_lst h)) fun σ H Q ⟨s, n, as, x, h⟩ => by
  obtain ⟨μ, S, ρ, ws, S1, ok, en, e, q⟩ := rd_app h
  refine ⟨s, n, as, x, μ, S, ρ, ws, S1, ok, en, e, fun vs H1 μ1 st r => ?_⟩
  obtain ⟨μ2, S2, ws2, w, S3, ok2, r2, e2, q2⟩ := q vs H1 μ1 st r
  unfold lstF at e2
  cases ea : allD ws2 with
  | none => rw [ea] at e2; cases e2
  | some xs =>
    rw [ea, Option.bind_some] at e2
    split at e2
    · rename_i hz
      cases e2
      have rl := allD_rep r2 ea
      refine ⟨by rw [← rl.length]; exact lim_le hz, fun p hp => .inl ⟨p, _, rfl, upd_same, fun o => ?_⟩⟩
      rw [upd_upd]
      exact q2 _ _ μ2 (.new ok2 hp) (.d (.lst (.inl ⟨o, upd_same⟩) (rl.mono fun a o e _ => same_new hp a o e)))
    · cases e2
theorem ue_and {m k : EM} {rest : List Expr} (ha : PE (X.suite a ((a, oe) :: pn)) e (rdUE X o a cls d m)) (hb : PE (X.suite a ((a, oe) :: pn)) (.BoolOp .And (b :: rest) pos) (rdUE X o a cls d k)) :
    PE (X.suite a ((a, oe) :: pn)) (.BoolOp .And (e :: b :: rest) pos) (rdUE X o a cls d fun n as => andE (m n as) (k n as)) := PE.imp (pe_and ha hb) fun σ H Q ⟨s, n, as, x, r⟩ =>
  ⟨s, n, as, x, by
    obtain ⟨μ, S, ρ, w, S', ok, en, e, q⟩ := rdE_keep (mg := X.mg) (rd_andE r)
    refine ⟨μ, S, ρ, w, S', ok, en, e, fun v H' μ' st r => ?_⟩
    obtain ⟨kp, c, ec, z⟩ := q v H' μ' st r
    refine ⟨c, ec, ?_⟩
    cases c with
    | true => exact ⟨s, n, as, kp _ _ _ _ x, z⟩
    | false => exact z⟩
/-! ### the exception's fields, its class -/
/-- e.f -/
def attrU (cl : Str → Option (List Str)) (f : Str) : EM := fun n as => match as with
  | [(g, x)] => if g = f ∧ cl n = some [f] then constE x else fun _ _ => none
  | _ => fun _ _ => none
theorem ue_attr {cl : Str → Option (List Str)} {i : Nat} {x f : Str} {p pos : Pos} (hcl : ∀ n fs, cl n = some fs → ClsOk X.K X.mg n fs) (hz : Zc cls d oe) (hf : ∃ vs, oe.data = .fields vs) (hN : X.N[i]? = some x) (hv : Vis X.env.scope x) (hd : (x == ("__debug__" : Str)) = false) (hcd : (x == ("__classdict__" : Str)) = false)
    (hb : ∀ f : Str, attributeBase (.Name x p) f X.env (eval (.Name x p) X.env) = eval (.Name x p) X.env) : PE (X.suite a ((a, oe) :: pn)) (.Attribute (.Name x p) f pos) (rdUE X (some i) a cls d (attrU cl f)) := by
  have key : ∀ {g : Str} {σ : L2.St} {H : Hp} {Q : VK} {n : Str} {as : List (Str × PyData)}, Slot (some i) a σ → ExRep X.K X.mg H n as cls d → rdE X.K (attrU cl f n as) σ H Q →
      ∃ C y v, cl n = some [f] ∧ X.mg n = some (.ref C) ∧ cls = .ref C ∧ (∃ dd, d = some dd ∧ H dd = some (.xd [(f, v)])) ∧ Rep X.K H y v ∧ Q v H := by
    intro g σ H Q n as s xr h
    obtain ⟨μ, S, ρ, w, S', ok, en, e, q⟩ := h
    unfold attrU at e
    split at e
    · rename_i g y
      split at e
      · rename_i hg
        obtain ⟨rfl, hc⟩ := hg
        cases e
        obtain ⟨C, h1, h2, ⟨h3, _⟩ | ⟨dd, fs, h4, h5, h6⟩⟩ := xr
        · cases h3
        · cases h6 with | cons r l =>
          cases l
          exact ⟨C, y, _, hc, h1, h2, ⟨dd, h4, h5⟩, r, q _ H μ (.refl ok) (.d r)⟩
      · cases e
    · cases e
  refine ⟨fun pins s σ H Q I ⟨sl, n, as, xr, h⟩ => ?_⟩
  obtain ⟨C, y, v, hc, h1, h2, ⟨dd, h4, h5⟩, r, q⟩ := key (g := f) sl xr h
  have T := hcl n [f] hc
  have hn : PE (X.suite a ((a, oe) :: pn)) (.Name x p) (tVar i) := pe_var hN hv hd hcd
  cases T with
  | given T =>
    have eC : X.mg n = some (.ref _) := T.gC
    rw [h1] at eC; cases eC
    exact (XG.pe_byLow T hz hf hn (hb _)).run pins s σ H Q I ⟨_, sl i rfl, rfl, h2, dd, v, h4, h5, q⟩
  | index T =>
    have eC : X.mg n = some (.ref _) := T.gC
    rw [h1] at eC; cases eC
    exact (XI.pe_byLow T hz hf hn (hb _)).run pins s σ H Q I ⟨_, sl i rfl, rfl, h2, dd, v, h4, h5, q⟩
end
/-- isinstance(e, c), e the exception that the suite holds, with or without a dict -/
theorem call_isX {X : Cx} {a D : Addr} {oe : Obj} {pn : List (Addr × Obj)} {d : Option Addr} (C : ExcC X.K D) (hz : Zc (.ref D) d oe) (hf : ∃ vs, oe.data = .fields vs) :
    CallR (X.suite a ((a, oe) :: pn)) (.builtin "isinstance") (fun xs H Q => (d = none ∨ ∃ dd fs, d = some dd ∧ H dd = some (.xd fs)) ∧ rIsE X.K D a xs H Q) := by
  intro pins s σ H xs us Q I r h
  obtain ⟨hd, c, cv, b, rfl, hcv, e, q⟩ := h
  cases r with
  | cons rx rr =>
    cases rr with
    | cons rt rr =>
      cases rr
      cases rx
      have ec := hcv _ rt
      subst ec
      obtain ⟨hget, _⟩ := I.pin (a, oe) (List.mem_append.mpr (.inl List.mem_cons_self))
      obtain ⟨vs, hv⟩ := hf
      obtain ⟨od, J⟩ : ∃ od, PySem.W.InstAt s.heap a oe D od := by
        rcases hd with rfl | ⟨dd, fs, rfl, ea⟩
        · exact ⟨none, hget, hz.1, by unfold PySem.W.notCls; rw [hv] <;> rfl, by rw [hz.2]; trivial⟩
        · have hx : ObjOk X.prog X.w H s.heap dd (.xd fs) := I.hok dd _ ea
          obtain ⟨mA, hns, hr⟩ := hx
          obtain ⟨od, ho, hl⟩ := lookIn_ns hns
          exact ⟨some od, hget, hz.1, by unfold PySem.W.notCls; rw [hv] <;> rfl, by rw [hz.2]; exact ho⟩
      have hcl : (PySem.W.clsIn X.K D).isSome = true := by
        obtain ⟨cd, hc, _⟩ := PySem.W.any_some C.hd
        rw [hc]; rfl
      exact PySem.W.kia_one (PySem.W.kitx_exc (od := od) (ox := oe) hcl C.hg C.hk C.hs C.ha C.hn C.ht C.hm) I.kIn J e (fun z => nomatch z) fun tk => ⟨.bl b, H, I.kept (t' := tk) fun _ _ z => z, rfl, q⟩
section
variable {X : Cx} {o : Option Nat} {a : Addr} {oe : Obj} {cls : Value} {d : Option Addr} {pn : List (Addr × Obj)} {e b : Expr} {es : List Expr} {pos : Pos}
/-- isinstance(e, C) -/
def isiU (sub : Str → Str → Option Bool) (c : Str) : EM := fun n _ => match sub n c with
  | some b => constE (.bool b)
  | none => fun _ _ => none
theorem ue_isi {sub : Str → Str → Option Bool} {i : Nat} {x c : Str} {cv : Value} {p p1 p2 pos : Pos} (hsub : ∀ n b, sub n c = some b → ∀ C, X.mg n = some (.ref C) → ExcC X.K C ∧ PySem.W.kitOne X.K (.ref C) cv = some b)
    (hz : Zc cls d oe) (hf : ∃ vs, oe.data = .fields vs) (hN : X.N[i]? = some x) (hv : Vis X.env.scope x) (hd : (x == ("__debug__" : Str)) = false) (hcd : (x == ("__classdict__" : Str)) = false)
    (hg : Gl X "isinstance") (hm : X.mg "isinstance" = none) {v : V} (rv : ∀ u, RelV v u → u = cv) (hnc : PE (X.suite a ((a, oe) :: pn)) (.Name c p2) (tC v))
    (h1 : starEach [.Name x p, .Name c p2] X.env = (false, eval (.Name x p) X.env) :: starEach [.Name c p2] X.env) (h2 : starEach [.Name c p2] X.env = (false, eval (.Name c p2) X.env) :: starEach [] X.env) (h3 : (backTo pos (starEach [.Name c p2] X.env)).any (·.1) = false) :
    PE (X.suite a ((a, oe) :: pn)) (.Call (.Name "isinstance" p1) [.Name x p, .Name c p2] [] pos) (rdUE X (some i) a cls d (isiU sub c)) := by
  refine ⟨fun pins s σ H Q I ⟨sl, n, as, xr, h⟩ => ?_⟩
  obtain ⟨μ, S, ρ, w, S', ok, en, e, q⟩ := h
  have hn : PE (X.suite a ((a, oe) :: pn)) (.Name x p) (tVar i) := pe_var hN hv hd hcd
  unfold isiU at e
  cases hb : sub n c with
  | none => rw [hb] at e; cases e
  | some b =>
    rw [hb] at e
    cases e
    obtain ⟨C, g1, rfl, h6⟩ := xr
    obtain ⟨E, kt⟩ := hsub n b hb C g1
    refine (pe_callB (call_isX E hz hf) hg hm (by decide +kernel) (pa_cons hn (pa_cons hnc pa_nil h2) h1) (he := h1) (hpl := h3)).run pins s σ H Q I ⟨_, sl i rfl, ?_⟩
    refine ⟨?_, v, cv, b, rfl, rv, kt, q _ H μ (.refl ok) (.d (.bl _))⟩
    rcases h6 with ⟨_, h⟩ | ⟨dd, fs, h4, h5, _⟩
    · exact .inl h
    · exact .inr ⟨dd, fs, h4, h5⟩
/-! ### a suite of one statement -/
def setU (j : Nat) (m : EM) : SM := fun n as ρ S => (m n as ρ S).bind fun p => some (.nx, ρ.set j (some p.1), p.2)
def retU (m : EM) : SM := fun n as ρ S => (m n as ρ S).bind fun p => match p.1 with
  | .d x => some (.rt (.d x), ρ, p.2)
  | .m _ => none
theorem su_set {j : Nat} {y : Str} {py : Pos} {m : EM} (h : PE (X.suite a ((a, oe) :: pn)) e (rdUE X o a cls d m)) (hN : X.N.Nodup) (hi : X.N[j]? = some y) (hy : Loc X.env.scope y) (hs : swapsWith e (some (.Name y py)) pos.line X.env = pure false) (hf : X.fn y = true ∨ X.env.scope.names.lookup y = some .local) :
    PSs (X.suite a ((a, oe) :: pn)) [.Assign [.Name y py] e pos] (rdU X o a cls d (setU j m)) := PSs.imp (pss_one (ps_set (X := X.suite a ((a, oe) :: pn)) hN hi hy h hs hf)) fun D σ H ⟨s, n, as, x, μ, S, ρ, fl, ρ', S', ok, en, e, q⟩ => by
  unfold setU at e
  cases hx : m n as ρ S with
  | none => rw [hx] at e; cases e
  | some p =>
    rw [hx, Option.bind_some] at e
    cases e
    exact ⟨s, n, as, x, μ, S, ρ, _, _, ok, en, hx, fun v H1 μ1 st r => q _ H1 μ1 st ((en.step ok st).set j r)⟩
theorem su_ret {m : EM} (h : PE (X.suite a ((a, oe) :: pn)) e (rdUE X o a cls d m)) : PSs (X.suite a ((a, oe) :: pn)) [.Return (some e) pos] (rdU X o a cls d (retU m)) := PSs.imp (pss_one (ps_ret h)) fun D σ H ⟨s, n, as, x, μ, S, ρ, fl, ρ', S', ok, en, e, q⟩ => by
  unfold retU at e
  cases hx : m n as ρ S with
  | none => rw [hx] at e; cases e
  | some p =>
    obtain ⟨w, S1⟩ := p
    rw [hx, Option.bind_some] at e
    cases w with
    | d y =>
      cases e
      exact ⟨s, n, as, x, μ, S, ρ, _, _, ok, en, hx, fun v H1 μ1 st r => q _ H1 μ1 st (en.step ok st) v r⟩
    | m k => cases e
end

/-! ### try -/
/-- a clause: the class that it names, the slot of its name, its suite -/
abbrev Clz := Str × Option Nat × SM
def suiteS (s : CS) : CS := fun ρ S => (s ρ S).bind fun p => match p.1 with
  | .nx => some (.nx, p.2)
  | .rt w => some (.rt w, p.2)
  | _ => none
def handle (sub : Str → Str → Option Bool) (n : Str) (as : List (Str × PyData)) : List Clz → CS
  | [] => fun ρ S => some (.ex n as, ρ, S)
  | (c, o, s) :: r => fun ρ S => match sub n c with
    | none => none
    | some false => handle sub n as r ρ S
    | some true => match o with
      | none => suiteS (s n as) ρ S
      | some i => if i < ρ.length then (suiteS (s n as) (ρ.set i none) S).bind fun p => some (p.1, p.2.1.set i none, p.2.2) else none
def tryS (sub : Str → Str → Option Bool) (b : CS) (hs : List Clz) : CS := fun ρ S => (b ρ S).bind fun p => match p.1 with
  | .ex n as => handle sub n as hs p.2.1 p.2.2
  | f => some (f, p.2.1, p.2.2)
section
variable {X : Cx} {sub : Str → Str → Option Bool} {pos : Pos}
def GoesW (K : PySem.W.Frag) (mg : Str → Option Value) (W : WX) (D : Ends) (μ : List Addr) (σ : L2.St) (H : Hp) : Fl → Prop
  | .nx => D.nx σ H
  | .bk => D.bk σ H
  | .ct => D.ct σ H
  | .rt w => ∀ v, WRep K H μ w v → D.rt v H
  | .ex n as => ∀ cls d, ExRep K mg H n as cls d → W cls d σ H
/-- what one clause wishes -/
theorem clause_wish {x : Str} {cv : Value} {i : Nat} {s : SM} (hsub : ∀ n b, sub n x = some b → ∀ C, X.mg n = some (.ref C) → PySem.W.exmOne X.K (.ref C) cv = some b)
    {D : Ends} {n : Str} {as : List (Str × PyData)} {μ : List Addr} {S : Sto} {ρ : Rho} {fl : Fl} {ρ' : Rho} {S' : Sto} {σ : L2.St} {H : Hp} (ok : StoOk X.K H μ S) (en : EnvOk X.K H μ ρ σ) (e : handle sub n as [(x, some i, s)] ρ S = some (fl, ρ', S'))
    (q : ∀ σ' H' μ', Stp X.K μ S H μ' S' H' → EnvOk X.K H' μ' ρ' σ' → Goes X D μ' σ' H' fl) {cls : Value} {d : Option Addr} (xr : ExRep X.K X.mg H n as cls d) : wAs X.K cv i (fun a cls d => rdU X (some i) a cls d s) (WOf X) D cls d σ H := by
  unfold handle at e
  cases hb : sub n x with
  | none => rw [hb] at e; cases e
  | some b =>
    rw [hb] at e
    obtain ⟨C, g1, g2, g3⟩ := id xr
    refine ⟨b, by rw [g2]; exact hsub n b hb C g1, fun hb1 a ha => ?_, fun hb0 => ?_⟩
    · subst hb1
      have e : (if i < ρ.length then (suiteS (s n as) (ρ.set i none) S).bind fun p => some (p.1, p.2.1.set i none, p.2.2) else none) = some (fl, ρ', S') := e
      split at e
      rotate_left
      · cases e
      rename_i hil
      unfold suiteS at e
      have en0 : EnvOk X.K H μ (ρ.set i none) (σ.set i (some (.ref a))) := by
        refine ⟨by have := en.len; simp only [List.length_set]; exact this, fun j w hj => ?_⟩
        by_cases hji : j = i
        · subst hji
          rw [List.getElem?_set_self hil] at hj; cases hj
        · rw [List.getElem?_set_ne (Ne.symm hji)] at hj
          obtain ⟨v, h1, h2⟩ := en.get j w hj
          exact ⟨v, by rw [List.getElem?_set_ne (Ne.symm hji)]; exact h1, h2⟩
      have un : ∀ {ρ1 : Rho} {σ1 : L2.St} {H1 : Hp} {μ1 : List Addr}, EnvOk X.K H1 μ1 ρ1 σ1 → EnvOk X.K H1 μ1 (ρ1.set i none) (σ1.set i none) := fun {ρ1 σ1 H1 μ1} z => by
        refine ⟨by have := z.len; simp only [List.length_set]; exact this, fun j w hj => ?_⟩
        by_cases hji : j = i
        · subst hji
          by_cases hl : j < ρ1.length
          · rw [List.getElem?_set_self hl] at hj; cases hj
          · rw [List.getElem?_eq_none (by simpa using hl)] at hj; cases hj
        · rw [List.getElem?_set_ne (Ne.symm hji)] at hj
          obtain ⟨v, h1, h2⟩ := z.get j w hj
          exact ⟨v, by rw [List.getElem?_set_ne (Ne.symm hji)]; exact h1, h2⟩
      cases hs : s n as (ρ.set i none) S with
      | none => rw [hs] at e; cases e
      | some p =>
        obtain ⟨f, ρ1, S1⟩ := p
        rw [hs, Option.bind_some] at e
        have hσ : i < σ.length := by have := en.len; omega
        refine ⟨fun k z => by cases z; exact List.getElem?_set_self hσ, n, as, xr, μ, S, ρ.set i none, f, ρ1, S1, ok, en0, hs, fun σ1 H1 μ1 st1 en1 => ?_⟩
        cases f with
        | nx => cases e; exact q _ H1 μ1 st1 (un en1)
        | rt w => cases e; exact q _ H1 μ1 st1 (un en1)
        | bk => cases e
        | ct => cases e
        | ex _ _ => cases e
    · subst hb0
      have e : handle sub n as [] ρ S = some (fl, ρ', S') := e
      cases e
      exact q σ H μ (.refl ok) en cls d xr
theorem ss_try {body : List Stmt} {x nm : Str} {cv : Value} {i : Nat} {s : SM} {b₀ : Stmt} {suite : List Stmt} {np pos' : Pos} {m : CS} (hs : X.stack = X.env :: X.outer) (hf : X.env.frame = some X.env.locals) (hN : X.N.Nodup)
    (hb : ∀ (pn : List (Addr × Obj)) (xe : Value → Shared → Prop), PassesOwn (model X.prog X.w) X.A X.env xe → SSs (X.tr pn xe) body m) (hc : Names X x cv) (hsub : ∀ n b, sub n x = some b → ∀ C, X.mg n = some (.ref C) → PySem.W.exmOne X.K (.ref C) cv = some b)
    (hi : X.N[i]? = some nm) (hln : X.env.kindOf nm = some .local)
    (hsu : ∀ (a : Addr) (oe : Obj) (cls : Value) (d : Option Addr) (pn : List (Addr × Obj)), Zc cls d oe → (∃ vs, oe.data = .fields vs) → PSs (X.suite a ((a, oe) :: pn)) (b₀ :: suite) (rdU X (some i) a cls d s)) :
    SS X (.Try body [.ExceptHandler (some (.Name x np)) (some nm) (b₀ :: suite) pos'] [] [] pos) (tryS sub m [(x, some i, s)]) := by
  refine PS.imp (ps_try_as (tb := fun W D σ H => ∃ μ S ρ fl ρ' S', StoOk X.K H μ S ∧ EnvOk X.K H μ ρ σ ∧ m ρ S = some (fl, ρ', S') ∧ ∀ σ' H' μ', Stp X.K μ S H μ' S' H' → EnvOk X.K H' μ' ρ' σ' → GoesW X.K X.mg W D μ' σ' H' fl)
    hs hf hN hi hln hc (takes_WOf X) (fun W pn xe tk po => PSs.imp (hb pn xe po) fun D σ H ⟨μ, S, ρ, fl, ρ', S', ok, en, e, q⟩ => ⟨μ, S, ρ, fl, ρ', S', ok, en, e, fun σ' H' μ' st en' => ?_⟩) hsu) fun D σ H ⟨μ, S, ρ, fl, ρ', S', ok, en, e, q⟩ => ?_
  · have z := q σ' H' μ' st en'
    cases fl with
    | nx => exact z
    | bk => exact z
    | ct => exact z
    | rt w => exact z
    | ex n as => exact fun cls d xr => WOf_of tk (z cls d xr)
  · unfold tryS at e
    cases hm : m ρ S with
    | none => rw [hm] at e; cases e
    | some p =>
      obtain ⟨f, ρ1, S1⟩ := p
      rw [hm, Option.bind_some] at e
      refine ⟨μ, S, ρ, f, ρ1, S1, ok, en, hm, fun σ1 H1 μ1 st1 en1 => ?_⟩
      cases f with
      | nx => cases e; exact q σ1 H1 μ1 st1 en1
      | bk => cases e; exact q σ1 H1 μ1 st1 en1
      | ct => cases e; exact q σ1 H1 μ1 st1 en1
      | rt w => cases e; exact q σ1 H1 μ1 st1 en1
      | ex n as => exact fun cls d xr => clause_wish hsub st1.sto en1 e (fun σ2 H2 μ2 st2 en2 => q σ2 H2 μ2 (st1.trans ok st2) en2) xr
end
end PD

/-! PD, part 7: statements from the text, the table of defs, the law's end. -/
namespace PD
open PySem PySem.Spec PyProof.Rows L2 RZ RT

def isStarE : Expr → Bool
  | .Starred _ _ => true
  | _ => false
/-- whether the stores of a, b = x, y are exchanged -/
def swp (sc : Scope) (ts vs : List Expr) : Option (Option (List Str)) :=
  if (!(ts.length == 2 || ts.length == 3) || vs.length != ts.length) = true then some none
  else if (vs.any isStarE) = true then some none
  else
    let names := ts.filterMap fun
      | .Name id pos => if (sc.names.lookup id == some .local && pos.line == (ts.head?.map (·.pos.line)).getD 0) = true then some id else none
      | _ => none
    if (names.length != ts.length || names.eraseDups.length != names.length) = true then some none
    else if (vs.all (foldedForSure 8)) = true then some none
    else if (vs.all (constantsAlone 8)) = true then none
    else some (some names)
theorem swp_ok {env : Env} {sc : Scope} (hs : env.scope = sc) (hk : sc.kind = .function) {ts vs : List Expr} {r : Option (List Str)} (h : swp sc ts vs = some r) (k k2 : Nat) (p p2 : Pos) : swappedStores [.Tuple ts k p] (.Tuple vs k2 p2) env = pure r := by
  have hb : env.blockKind = .function := by unfold Env.blockKind; rw [hs, hk]; rfl
  have hkk : ∀ id, env.kindOf id = sc.names.lookup id := fun id => by unfold Env.kindOf; rw [hs]
  unfold swp at h
  unfold swappedStores
  simp only [hb, hkk]
  by_cases h1 : (!(ts.length == 2 || ts.length == 3) || vs.length != ts.length) = true
  · rw [if_pos h1] at h; cases h
    have h1' : (!(ts.length == 2 || ts.length == 3) || vs.length != ts.length || ScopeKind.function != ScopeKind.function) = true := by rw [h1]; rfl
    exact (if_pos h1').trans rfl
  · rw [if_neg h1] at h
    have h1' : ¬ (!(ts.length == 2 || ts.length == 3) || vs.length != ts.length || ScopeKind.function != ScopeKind.function) = true := by
      intro z; apply h1; revert z; simp
    rw [if_neg h1']
    by_cases h2 : (vs.any isStarE) = true
    · rw [if_pos h2] at h; cases h
      refine (if_pos ?_).trans rfl
      refine Eq.trans (congrArg (List.any vs) (funext fun e => ?_)) h2
      cases e <;> rfl
    · rw [if_neg h2] at h
      have hq : ∀ q : Expr → Bool, (∀ e, q e = isStarE e) → ¬ (vs.any q = true) := fun q hq z => h2 (by rw [← funext hq]; exact z)
      refine (if_neg (hq _ fun e => ?_)).trans ?_
      · cases e <;> rfl
      · simp only at h ⊢
        split at h
        · rename_i h3; cases h; exact (if_pos h3).trans rfl
        · rename_i h3
          refine (if_neg h3).trans ?_
          split at h
          · rename_i h4; cases h; exact (if_pos h4).trans rfl
          · rename_i h4
            refine (if_neg h4).trans ?_
            split at h
            · cases h
            · rename_i h5
              cases h
              exact (if_neg h5).trans rfl
theorem swapsNo {e : Expr} (h : notComp e = true) (t : Option Expr) (l : Nat) (env : Env) : swapsWith e t l env = pure false := by
  cases e <;> first | rfl | cases h
def isTupE : Expr → Bool
  | .Tuple _ _ _ => true
  | _ => false
def isLstE : Expr → Bool
  | .List _ _ => true
  | _ => false
def notTupTup (tg e : Expr) : Bool := !isLstE tg && (!isTupE tg || !isTupE e)
theorem storesNo {tg e : Expr} (h : notTupTup tg e = true) (env : Env) : swappedStores [tg] e env = pure none := by
  unfold notTupTup at h
  cases tg with
  | List a b => simp [isLstE] at h
  | Tuple a b d =>
    cases e with
    | Tuple a b d => simp [isLstE, isTupE] at h
    | _ => rfl
  | _ => rfl

def cBlk (g : Stmt → Option CS) : List Stmt → Option CS
  | [] => some nilS
  | st :: r => (g st).bind fun a => (cBlk g r).bind fun b => some (seqS a b)
def cGen (c : Ctx) (f : Expr → Option CE) (sc : Scope) (tg e : Expr) : Option CS :=
  if notStar tg = true then (f e).bind fun m => (cTgt c f true sc 4 tg).bind fun (g : CG × List Nat) => some (asgS m g.1) else none
def cPar (c : Ctx) (f : Expr → Option CE) (sc : Scope) (names : List Str) (ts vs : List Expr) : Option CS :=
  match ts, vs with
  | [.Name x _, .Name y _], [a, b] => if (names == [x, y] && lcl sc x && lcl sc y) = true then (slot c.N x).bind fun i => (slot c.N y).bind fun j => if i = j then none else (cArgs f [a, b]).bind fun l => some (parS i j l) else none
  | [.Name x _, .Name y _, .Name z _], [a, b, d] => if (names == [x, y, z] && lcl sc x && lcl sc y && lcl sc z) = true then (slot c.N x).bind fun i => (slot c.N y).bind fun j => (slot c.N z).bind fun k => if i = j ∨ i = k ∨ j = k then none else (cArgs f [a, b, d]).bind fun l => some (par3S i j k l) else none
  | _, _ => none
def cParC (c : Ctx) (f : Expr → Option CE) (sc : Scope) (ts vs : List Expr) : Option CS :=
  match ts, vs with
  | [.Name x _, .Name y _], [a, b] => if ((isLstE a || isLstE b) && (lcl sc x || cel sc x) && (lcl sc y || cel sc y)) = true then (slot c.N x).bind fun i => (slot c.N y).bind fun j => (cArgs f [a, b]).bind fun l => some (parS i j l) else none
  | _, _ => none
def cAsg (c : Ctx) (f : Expr → Option CE) (sc : Scope) (tg e : Expr) : Option CS :=
  match tg, e with
  | .Name y py, .ListComp elt gens scope p =>
    if cel sc y = true then cGen c f sc tg e
    else if (lcl sc y && (py.line == p.line) && !(scope.names.any fun (n, k) => n == y && (k == .local || k == .cell))) = true then (f e).bind fun m => (slot c.N y).bind fun i => some (asgS m (nameG i)) else none
  | .Tuple ts _ _, .Tuple vs _ _ => (match swp sc ts vs with
    | some none => (match cParC c f sc ts vs with
      | some m => some m
      | none => cGen c f sc tg e)
    | some (some names) => cPar c f sc names ts vs
    | none => none)
  | _, _ => if (notComp e && notTupTup tg e) = true then cGen c f sc tg e else none
/-! ### exceptions -/
def NameV (mg : Str → Option Value) (x : Str) (cv : Value) : Prop := (mg x = some cv ∧ ∃ C, cv = .ref C) ∨ (mg x = none ∧ bootBuiltins x = some cv ∧ x ≠ "__name__" ∧ ∃ T, cv = .type T)
def subF (l : List (Str × Str × Bool)) (n x : Str) : Option Bool := (l.find? fun t => t.1 == n && t.2.1 == x).map (·.2.2)
structure XOk (c : Ctx) (X : Cx) : Prop where
  hs : X.stack = X.env :: X.outer
  hf : X.env.frame = some X.env.locals
  room : Room 0 X.A
  cls : ∀ n fs, c.cls.lookup n = some fs → ClsOk X.K X.mg n fs
  nms : ∀ x ∈ c.nms, ∃ cv, NameV X.mg x cv
  sub : ∀ n x b, subF c.sub n x = some b → ∀ C cv, X.mg n = some (.ref C) → NameV X.mg x cv → ExcC X.K C ∧ PySem.W.kitOne X.K (.ref C) cv = some b ∧ PySem.W.exmOne X.K (.ref C) cv = some b
def cX (c : Ctx) (f : Expr → Option CE) (sc : Scope) (e : Expr) : Option CEX := match e with
  | .Call (.Name x _) args kws _ => if (c.xs.contains x && gl sc x && okName x) = true then
      match c.fns.lookup x with
      | some cal => (match kws with
        | [] => (match args with
          | [] => none
          | e :: r => (cArgs f (e :: r)).bind fun l => some (callX cal l))
        | k :: ks => (match cal.arr.find? (fun a => a.1 == args.length && a.2.1 == (k :: ks).filterMap (·.arg)) with
          | some a => (cArgs f args).bind fun l => (cKws f (k :: ks)).bind fun m => some (kwX cal a.2.2 l m)
          | none => none))
      | none => none
    else none
  | _ => none
def cX2 (c : Ctx) (f : Expr → Option CE) (t : Expr → Option CB) (sc : Scope) (e : Expr) : Option CEX := match e with
  | .IfExp q a b _ => (t q).bind fun k => (cX c f sc a).bind fun m => (cX c f sc b).bind fun n => some (ifX k m n)
  | _ => cX c f sc e
def cRaise (c : Ctx) (f : Expr → Option CE) (sc : Scope) (e : Expr) : Option CS := match e with
  | .Call (.Name n _) [] [] _ => if (gl sc n && okName n) = true then (match c.cls.lookup n with
    | some [] => some (raiseS n [] nilL)
    | _ => none) else none
  | .Call (.Name n _) [a] [] _ => if (gl sc n && okName n) = true then (match c.cls.lookup n with
    | some [fl] => (cArgs f [a]).bind fun l => some (raiseS n [fl] l)
    | _ => none) else none
  | _ => none
/-- an expression of a suite; x: the exception's name, i its slot -/
def cSuE (c : Ctx) (sc : Scope) (x : Str) (i : Nat) : Nat → Expr → Option EM
  | 0, _ => none
  | n + 1, e => match e with
    | .Constant (.int k) _ _ => some fun _ _ => constE (.int k)
    | .Constant (.bool k) _ _ => some fun _ _ => constE (.bool k)
    | .Constant (.str k) _ _ => some fun _ _ => constE (.str k)
    | .Constant .none _ _ => some fun _ _ => constE .none
    | .List [a, b] _ => (cSuE c sc x i n a).bind fun m => (cSuE c sc x i n b).bind fun k => if (notStar a && notStar b) = true then some fun n as => appE lstF (consL (m n as) (consL (k n as) nilL)) else none
    | .Tuple [a, b] _ _ => (cSuE c sc x i n a).bind fun m => (cSuE c sc x i n b).bind fun k => if (notStar a && notStar b) = true then some fun n as => appE tupF (consL (m n as) (consL (k n as) nilL)) else none
    | .BoolOp .And [a, b] _ => (cSuE c sc x i n a).bind fun m => (cSuE c sc x i n b).bind fun k => some fun n as => andE (m n as) (k n as)
    | .Attribute (.Name y _) f _ => if (y == x) = true then some (attrU (fun n => c.cls.lookup n) f) else none
    | .Call (.Name q _) [.Name y _, .Name t _] [] _ => if (q == ("isinstance" : Str) && gl sc "isinstance" && c.blts.contains "isinstance" && y == x && gl sc t && okName t && c.nms.contains t) = true then some (isiU (subF c.sub) t) else none
    | _ => none
def cSuite (c : Ctx) (sc : Scope) (x : Str) (i : Nat) : List Stmt → Option SM
  | [.Assign [.Name y _] e _] => if (lcl sc y && notComp e) = true then (slot c.N y).bind fun j => (cSuE c sc x i 6 e).bind fun m => some (setU j m) else none
  | [.Return (some e) _] => (cSuE c sc x i 6 e).bind fun m => some (retU m)
  | _ => none
def cHds (c : Ctx) (sc : Scope) : List ExceptHandler → Option (List Clz)
  | [.ExceptHandler (some (.Name t _)) (some x) b _] => if (gl sc t && okName t && c.nms.contains t && lcl sc x && okName x) = true then (slot c.N x).bind fun i => (cSuite c sc x i b).bind fun s => some [(t, some i, s)] else none
  | _ => none
section
variable {c : Ctx} {X : Cx} {sc : Scope}
theorem cX_ok (A : Agree c X sc) {f : Expr → Option CE} (hf : ∀ e m, f e = some m → SE X e m) {e : Expr} {m : CEX} (h : cX c f sc e = some m) : SEX X e m ∧ (∀ t l env, swapsWith e t l env = pure false) ∧ isTupE e = false := by
  unfold cX at h
  split at h
  rotate_left
  · cases h
  rename_i x p args kws pos
  refine ⟨?_, fun _ _ _ => rfl, rfl⟩
  split at h
  rotate_left
  · cases h
  rename_i hx
  simp only [Bool.and_eq_true] at hx
  have hg := gl_ok A hx.1.2
  obtain ⟨n1, n2, n3⟩ := okName_ok hx.2
  split at h
  · rename_i cal hc
    have C := A.fns _ _ hc
    split at h
    · split at h
      · cases h
      · rename_i e r
        cases h1 : cArgs f (e :: r) with
        | none => rw [h1] at h; cases h
        | some l =>
          rw [h1, Option.bind_some] at h
          cases h
          obtain ⟨l2, h2⟩ := cArgs_tail h1
          exact sx_call C hg (cArgs_ok hf h1) n1 (star_cons (cArgs_head h1) _ _) (cArgs_star h2 _ _)
    · rename_i k ks
      split at h
      · rename_i a ha
        cases h1 : cArgs f args with
        | none => rw [h1] at h; cases h
        | some l =>
          rw [h1, Option.bind_some] at h
          cases h2 : cKws f (k :: ks) with
          | none => rw [h2] at h; cases h
          | some mk =>
            rw [h2, Option.bind_some] at h
            cases h
            have hin := List.mem_of_find?_eq_some ha
            have hp := List.find?_some ha
            simp only [Bool.and_eq_true, beq_iff_eq] at hp
            obtain ⟨a1, a2, a3⟩ := a
            simp only at hp hin ⊢
            obtain ⟨q1, q2, q3⟩ := kws_all h2 X.env pos
            cases args with
            | nil =>
              cases h1
              refine sx_callK0 (ks := a2) C hg (cKws_ok hf h2) (fun ρ S r z => by rw [cKws_len h2 ρ S r z, ← hp.2]) (by rw [hp.1] at hin; exact hin) q1 (by rw [q2, hp.2]) n1 (by rw [q3]; rfl)
            | cons e r =>
              obtain ⟨l2, h3⟩ := cArgs_tail h1
              refine sx_callK (ks := a2) C hg (cArgs_ok hf h1) (cKws_ok hf h2) (cArgs_len h1) (fun ρ S r z => by rw [cKws_len h2 ρ S r z, ← hp.2]) (by rw [hp.1] at hin; exact hin) q1 (by rw [q2, hp.2]) n1 (star_cons (cArgs_head h1) _ _) (by rw [q3, cArgs_star h1]; rfl)
      · cases h
  · cases h
theorem cX2_ok (A : Agree c X sc) {f : Expr → Option CE} {t : Expr → Option CB} (hf : ∀ e m, f e = some m → SE X e m) (ht : ∀ e m, t e = some m → SB X e m) {e : Expr} {m : CEX} (h : cX2 c f t sc e = some m) : SEX X e m ∧ (∀ t l env, swapsWith e t l env = pure false) ∧ isTupE e = false := by
  unfold cX2 at h
  split at h
  · rename_i q a b p
    cases h1 : t q with
    | none => rw [h1] at h; cases h
    | some k =>
      rw [h1, Option.bind_some] at h
      cases h2 : cX c f sc a with
      | none => rw [h2] at h; cases h
      | some m1 =>
        rw [h2, Option.bind_some] at h
        cases h3 : cX c f sc b with
        | none => rw [h3] at h; cases h
        | some n1 =>
          rw [h3, Option.bind_some] at h
          cases h
          exact ⟨sx_if (ht _ _ h1) (cX_ok A hf h2).1 (cX_ok A hf h3).1, fun _ _ _ => rfl, rfl⟩
  · exact cX_ok A hf h
theorem cRaise_ok (A : Agree c X sc) (O : XOk c X) {f : Expr → Option CE} (hf : ∀ e m, f e = some m → SE X e m) {e : Expr} {m : CS} {pos : Pos} (h : cRaise c f sc e = some m) : SS X (.Raise (some e) none pos) m := by
  unfold cRaise at h
  split at h
  · rename_i n p q
    split at h
    · rename_i hx
      simp only [Bool.and_eq_true] at hx
      split at h
      · rename_i hc
        cases h
        exact ss_raise0 A.calm (O.cls _ _ hc) (gl_ok A hx.1) (okName_ok hx.2).1
      · cases h
    · cases h
  · rename_i n p a q
    split at h
    · rename_i hx
      simp only [Bool.and_eq_true] at hx
      split at h
      · rename_i fl hc
        cases h1 : cArgs f [a] with
        | none => rw [h1] at h; cases h
        | some l =>
          rw [h1, Option.bind_some] at h
          cases h
          exact ss_raise1 A.calm O.room (O.cls _ _ hc) (gl_ok A hx.1) (okName_ok hx.2).1 (cArgs_ok hf h1) (star_cons (cArgs_head h1) _ _) rfl
      · cases h
    · cases h
  · cases h
theorem nameV_one {mg : Str → Option Value} {x : Str} {a b : Value} (h : NameV mg x a) (g : NameV mg x b) : a = b := by
  rcases h with ⟨h1, _⟩ | ⟨h1, h2, _⟩ <;> rcases g with ⟨g1, _⟩ | ⟨g1, g2, _⟩
  · rw [h1] at g1; cases g1; rfl
  · rw [h1] at g1; cases g1
  · rw [h1] at g1; cases g1
  · rw [h2] at g2; cases g2; rfl
theorem nameV_pe {Y : Cx} {x : Str} {cv : Value} {pos : Pos} (h : NameV Y.mg x cv) (hg : Gl Y x) (hd : (x == ("__debug__" : Str)) = false) : ∃ v : V, (∀ u, RelV v u → u = cv) ∧ PE Y (.Name x pos) (tC v) := by
  rcases h with ⟨h1, C, rfl⟩ | ⟨h1, h2, h3, T, rfl⟩
  · exact ⟨.ref C, fun u r => r, pe_glob hg h1 rfl hd⟩
  · exact ⟨.ty T, fun u r => r, pe_bltn hg h1 h2 rfl h3 hd⟩
theorem cSuE_ok (A : Agree c X sc) (O : XOk c X) {x : Str} {i : Nat} (hi : X.N[i]? = some x) (hv : Vis X.env.scope x) (hx : okName x = true) {a : Addr} {oe : Obj} {cls : Value} {d : Option Addr} {pn : List (Addr × Obj)} (hz : Zc cls d oe) (hf : ∃ vs, oe.data = .fields vs) :
    ∀ (n : Nat) {e : Expr} {m : EM}, cSuE c sc x i n e = some m → PE (X.suite a ((a, oe) :: pn)) e (rdUE X (some i) a cls d m)
  | 0, _, _, h => by cases h
  | n + 1, e, m, h => by
    have ih := fun {e : Expr} {m : EM} => cSuE_ok A O hi hv hx (a := a) (pn := pn) hz hf n (e := e) (m := m)
    obtain ⟨n1, n2, n3⟩ := okName_ok hx
    unfold cSuE at h
    split at h
    · cases h; exact ue_plain se_int
    · cases h; exact ue_plain se_bool
    · cases h; exact ue_plain se_str
    · cases h; exact ue_plain se_none
    · rename_i u v p
      cases h1 : cSuE c sc x i n u with
      | none => rw [h1] at h; cases h
      | some mu =>
        rw [h1, Option.bind_some] at h
        cases h2 : cSuE c sc x i n v with
        | none => rw [h2] at h; cases h
        | some mv =>
          rw [h2, Option.bind_some] at h
          split at h
          · rename_i hs
            simp only [Bool.and_eq_true] at hs
            cases h
            exact ue_lst (ul_cons (ih h1) (ul_cons (ih h2) ul_nil (star_cons hs.2 _ _)) (star_cons hs.1 _ _))
          · cases h
    · rename_i u v p q
      cases h1 : cSuE c sc x i n u with
      | none => rw [h1] at h; cases h
      | some mu =>
        rw [h1, Option.bind_some] at h
        cases h2 : cSuE c sc x i n v with
        | none => rw [h2] at h; cases h
        | some mv =>
          rw [h2, Option.bind_some] at h
          split at h
          · rename_i hs
            simp only [Bool.and_eq_true] at hs
            cases h
            exact ue_tup (ul_cons (ih h1) (ul_cons (ih h2) ul_nil (star_cons hs.2 _ _)) (star_cons hs.1 _ _))
          · cases h
    · rename_i u v p
      cases h1 : cSuE c sc x i n u with
      | none => rw [h1] at h; cases h
      | some mu =>
        rw [h1, Option.bind_some] at h
        cases h2 : cSuE c sc x i n v with
        | none => rw [h2] at h; cases h
        | some mv =>
          rw [h2, Option.bind_some] at h
          cases h
          exact ue_and (ih h1) (pe_one (ih h2))
    · rename_i y p f q
      split at h
      · rename_i hy
        have := eq_of_beq hy
        subst this
        cases h
        exact ue_attr O.cls hz hf hi hv n1 n2 fun _ => rfl
      · cases h
    · rename_i q p1 y p2 t p3 p4
      split at h
      · rename_i hc
        simp only [Bool.and_eq_true] at hc
        obtain ⟨⟨⟨⟨⟨⟨c1, c2⟩, c3⟩, c4⟩, c5⟩, c6⟩, c7⟩ := hc
        have e1 := eq_of_beq c1
        have e2 := eq_of_beq c4
        subst e1 e2
        cases h
        obtain ⟨cv, hcv⟩ := O.nms t (mem_of_contains c7)
        obtain ⟨v, rv, pv⟩ := nameV_pe (Y := X.suite a ((a, oe) :: pn)) (pos := p3) hcv (gl_ok A c5) (okName_ok c6).1
        exact ue_isi (fun n b hb C hC => let z := O.sub n t b hb C cv hC hcv; ⟨z.1, z.2.1⟩) hz hf hi hv n1 n2 (gl_ok A c2) (A.blts _ (mem_of_contains c3)) rv pv rfl rfl rfl
      · cases h
    · cases h
theorem cSuite_ok (A : Agree c X sc) (O : XOk c X) (hd : ∀ x, X.fn x = true) {x : Str} {i : Nat} (hi : X.N[i]? = some x) (hv : Vis X.env.scope x) (hx : okName x = true) {a : Addr} {oe : Obj} {cls : Value} {d : Option Addr} {pn : List (Addr × Obj)} (hz : Zc cls d oe) (hf : ∃ vs, oe.data = .fields vs)
    {b : List Stmt} {s : SM} (h : cSuite c sc x i b = some s) : PSs (X.suite a ((a, oe) :: pn)) b (rdU X (some i) a cls d s) := by
  unfold cSuite at h
  split at h
  · rename_i y py e p
    split at h
    · rename_i hc
      simp only [Bool.and_eq_true] at hc
      cases h1 : slot c.N y with
      | none => rw [h1] at h; cases h
      | some j =>
        rw [h1, Option.bind_some] at h
        cases h2 : cSuE c sc x i 6 e with
        | none => rw [h2] at h; cases h
        | some m =>
          rw [h2, Option.bind_some] at h
          cases h
          have hN := A.nd
          have hl : X.env.scope.names.lookup y = some .local := by rw [A.sc]; exact lcl_ok hc.1
          exact su_set (cSuE_ok A O hi hv hx hz hf 6 h2) hN (by rw [A.N]; exact slot_get h1) (.inl hl) (swapsNo hc.2 _ _ _) (.inl (hd _))
    · cases h
  · rename_i e p
    cases h2 : cSuE c sc x i 6 e with
    | none => rw [h2] at h; cases h
    | some m =>
      rw [h2, Option.bind_some] at h
      cases h
      exact su_ret (cSuE_ok A O hi hv hx hz hf 6 h2)
  · cases h
theorem cSuite_ne {x : Str} {i : Nat} {b : List Stmt} {s : SM} (h : cSuite c sc x i b = some s) : ∃ b0 r, b = b0 :: r := by
  unfold cSuite at h
  split at h
  · exact ⟨_, _, rfl⟩
  · exact ⟨_, _, rfl⟩
  · cases h
theorem cTry_ok (A : Agree c X sc) (O : XOk c X) (hd : ∀ x, X.fn x = true) {body : List Stmt} {hds : List ExceptHandler} {m : CS} {pos : Pos} (hb : ∀ (pn : List (Addr × Obj)) (xe : Value → Shared → Prop), PassesOwn (model X.prog X.w) X.A X.env xe → SSs (X.tr pn xe) body m)
    {l : List Clz} (h : cHds c sc hds = some l) : SS X (.Try body hds [] [] pos) (tryS (subF c.sub) m l) := by
  unfold cHds at h
  split at h
  · rename_i t p x b pos
    split at h
    · rename_i hc
      simp only [Bool.and_eq_true] at hc
      obtain ⟨⟨⟨⟨c1, c2⟩, c3⟩, c4⟩, c5⟩ := hc
      cases h1 : slot c.N x with
      | none => rw [h1] at h; cases h
      | some i =>
        rw [h1, Option.bind_some] at h
        cases h2 : cSuite c sc x i b with
        | none => rw [h2] at h; cases h
        | some s =>
          rw [h2, Option.bind_some] at h
          cases h
          obtain ⟨b0, br, rfl⟩ := cSuite_ne h2
          obtain ⟨cv, hcv⟩ := O.nms t (mem_of_contains c3)
          have hl : X.env.scope.names.lookup x = some .local := by rw [A.sc]; exact lcl_ok c4
          have hi : X.N[i]? = some x := by rw [A.N]; exact slot_get h1
          refine ss_try O.hs O.hf A.nd hb (cv := cv) ⟨gl_ok A c1, (okName_ok c2).1, ?_⟩ (fun n b hb C hC => (O.sub n t b hb C cv hC hcv).2.2) hi hl (fun a oe cls d pn hz hf => cSuite_ok A O hd hi (.inl hl) c5 hz hf h2)
          rcases hcv with ⟨q1, _⟩ | ⟨q1, q2, q3, _⟩
          · exact .inl q1
          · exact .inr ⟨q1, q2, q3⟩
    · cases h
  · cases h
end
def cS (c : Ctx) (f : Expr → Option CE) (t : Expr → Option CB) (sc : Scope) : Nat → Stmt → Option CS
  | 0, _ => none
  | n + 1, st => if c.sk.contains st.pos = true then some stuckS else match st with
    | .Return (some e) _ => (match cX c f sc e with
      | some m => some (retX m)
      | none => (f e).bind fun m => some (retS c.keep m))
    | .Return none _ => some retNS
    | .Expr e _ => (match cX c f sc e with
      | some m => some (exprX m)
      | none => if notComp e = true then (f e).bind fun m => some (exprS m) else none)
    | .If q a b _ => (t q).bind fun k => (cBlk (cS c f t sc n) a).bind fun m => (cBlk (cS c f t sc n) b).bind fun m2 => some (ifS k m m2)
    | .For tg iter b [] _ => if notSet iter = true then (cIter c f sc tg iter).bind fun ci => (cTgt c f true sc 4 tg).bind fun (g : CG × List Nat) => (cBlk (cS c f t sc n) b).bind fun m => some (forS ci g.1 m) else none
    | .While q b [] _ => (t q).bind fun k => (cBlk (cS c f t sc n) b).bind fun m => some (whileS k m)
    | .Break _ => some brkS
    | .Continue _ => some cntS
    | .Pass _ => some nilS
    | .Raise (some e) none _ => if c.rz = true then cRaise c f sc e else some stuckS
    | .Raise _ _ _ => some stuckS
    | .Try b hs [] [] _ => (cBlk (cS c f t sc n) b).bind fun m => (cHds c sc hs).bind fun l => some (tryS (subF c.sub) m l)
    | .Assign [tg] e _ => (match cX2 c f t sc e with
      | some m => if (notStar tg && !isLstE tg) = true then (cTgt c f true sc 4 tg).bind fun (g : CG × List Nat) => some (asgX m g.1) else none
      | none => cAsg c f sc tg e)
    | _ => none
theorem cBlk_ok {X : Cx} {g : Stmt → Option CS} (hg : ∀ st m, g st = some m → SS X st m) : ∀ {sts : List Stmt} {m : CS}, cBlk g sts = some m → SSs X sts m
  | [], _, h => by cases h; exact ss_nil
  | st :: r, m, h => by
    unfold cBlk at h
    cases h1 : g st with
    | none => rw [h1] at h; cases h
    | some a =>
      rw [h1, Option.bind_some] at h
      cases h2 : cBlk g r with
      | none => rw [h2] at h; cases h
      | some b =>
        rw [h2, Option.bind_some] at h
        cases h
        exact ss_cons (hg _ _ h1) (cBlk_ok hg h2)
section
variable {c : Ctx} {X : Cx} {sc : Scope} {k : Nat}
theorem cGen_ok (A : Agree c X sc) (hd : ∀ x, X.fn x = true) {f : Expr → Option CE} (hf : ∀ e m, f e = some m → SE X e m) {tg e : Expr} {m : CS} {pos : Pos} (h : cGen c f sc tg e = some m) (h1 : swapsWithSole [tg] e pos.line X.env = pure false) (h2 : swappedStores [tg] e X.env = pure none) :
    SS X (.Assign [tg] e pos) m := by
  unfold cGen at h
  split at h
  · rename_i hs
    cases z1 : f e with
    | none => rw [z1] at h; cases h
    | some me =>
      rw [z1, Option.bind_some] at h
      cases z2 : cTgt c f true sc 4 tg with
      | none => rw [z2] at h; cases h
      | some g =>
        rw [z2, Option.bind_some] at h
        cases h
        exact ss_asg (hf _ _ z1) (cTgt_ok A hf (fun _ => hd) 4 z2) h1 h2 (asg_one hs [] _)
  · cases h
theorem cParC_ok (A : Agree c X sc) (hd : ∀ x, X.fn x = true) {f : Expr → Option CE} (hf : ∀ e m, f e = some m → SE X e m) {ts vs : List Expr} {k1 k2 : Nat} {p1 p2 pos : Pos} {m : CS} (h : cParC c f sc ts vs = some m)
    (h1 : swapsWithSole [.Tuple ts k1 p1] (.Tuple vs k2 p2) pos.line X.env = pure false) (h2 : swappedStores [.Tuple ts k1 p1] (.Tuple vs k2 p2) X.env = pure none) : SS X (.Assign [.Tuple ts k1 p1] (.Tuple vs k2 p2) pos) m := by
  unfold cParC at h
  split at h
  · rename_i x px y py a b
    split at h
    · rename_i hn
      simp only [Bool.and_eq_true, Bool.or_eq_true] at hn
      obtain ⟨⟨_, l1⟩, l2⟩ := hn
      cases z1 : slot c.N x with
      | none => rw [z1] at h; cases h
      | some i =>
        rw [z1, Option.bind_some] at h
        cases z2 : slot c.N y with
        | none => rw [z2] at h; cases h
        | some j =>
          rw [z2, Option.bind_some] at h
          cases z3 : cArgs f [a, b] with
          | none => rw [z3] at h; cases h
          | some l =>
            rw [z3, Option.bind_some] at h
            cases h
            have loc : ∀ z : Str, (lcl sc z = true ∨ cel sc z = true) → Loc X.env.scope z := fun z q => by
              rcases q with q | q
              · have e := lcl_ok q; rw [← A.sc] at e; exact .inl e
              · have e := cel_ok q; rw [← A.sc] at e; exact .inr e
            exact ss_parC A.calm A.nd (by rw [A.N]; exact slot_get z1) (by rw [A.N]; exact slot_get z2) (loc x l1) (.inl (hd x)) (loc y l2) (.inl (hd y)) (cArgs_ok hf z3) h1 h2
    · cases h
  · cases h
theorem cAsg_ok (A : Agree c X sc) (hk : sc.kind = .function) (hd : ∀ x, X.fn x = true) {tg e : Expr} {m : CS} {pos : Pos} (h : cAsg c ((cet c (k + 1)).1 sc) sc tg e = some m) : SS X (.Assign [tg] e pos) m := by
  have hf := (cet_ok c (k + 1)).e X sc A
  unfold cAsg at h
  split at h
  · rename_i y py elt gens scope p
    split at h
    · rename_i hc
      refine cGen_ok A hd hf h ?_ (storesNo rfl _)
      have e := cel_ok hc
      show swapsWith (.ListComp elt gens scope p) (some (.Name y py)) pos.line X.env = pure false
      unfold swapsWith
      have ek : X.env.kindOf y = some .cell := by unfold Env.kindOf; rw [A.sc]; exact e
      have e0 : ((some NameKind.cell : Option NameKind) == some NameKind.local) = false := rfl
      simp only [ek, e0, Bool.and_false, Bool.false_and]
    · split at h
      · rename_i hc
        simp only [Bool.and_eq_true, Bool.not_eq_true'] at hc
        obtain ⟨⟨hl, hline⟩, hany⟩ := hc
        cases z1 : (cet c (k + 1)).1 sc (.ListComp elt gens scope p) with
        | none => rw [z1] at h; cases h
        | some me =>
          rw [z1, Option.bind_some] at h
          cases z2 : slot c.N y with
          | none => rw [z2] at h; cases h
          | some i =>
            rw [z2, Option.bind_some] at h
            cases h
            have z1' : cComp c (cet c k).1 (cet c k).2 sc (c.mu.contains p) elt gens scope = some me := z1
            obtain ⟨tg, iter, ifs, ci, g, tt, me2, rfl, hb, hs, h1, h2, hv, h3, h4, rfl⟩ := cComp_parts z1'
            have G := cet_ok c k
            have P := comp_parts_ok G A h2 h3 h4
            have el := lcl_ok hl
            have el' : X.env.scope.names.lookup y = some .local := by rw [A.sc]; exact el
            exact ss_setLc A.calm A.nd (by rw [A.N]; exact slot_get z2) el' (sw_true (by rw [A.sc]; exact hk) el' hline hany) (cIter_ok A (G.e X sc A) h1) (by rw [A.N, A.sc]; exact blkOk_by hb) (fun s H C cl fp => (P s H C cl fp).1) (fun s H C cl fp => (P s H C cl fp).2.1) (fun s H C cl fp => (P s H C cl fp).2.2) hv (set_fold hs _)
      · cases h
  · rename_i ts k1 p1 vs k2 p2
    split at h
    · rename_i hw
      have h1 : swapsWithSole [.Tuple ts k1 p1] (.Tuple vs k2 p2) pos.line X.env = pure false := show swapsWith (.Tuple vs k2 p2) (some (.Tuple ts k1 p1)) pos.line X.env = pure false from swapsNo rfl _ _ _
      split at h
      · rename_i m2 hm
        cases h
        exact cParC_ok A hd hf hm h1 (swp_ok A.sc hk hw _ _ _ _)
      · exact cGen_ok A hd hf h h1 (swp_ok A.sc hk hw _ _ _ _)
    · rename_i names hw
      have w := fun k k2 p p2 => swp_ok (env := X.env) A.sc hk hw k k2 p p2
      unfold cPar at h
      split at h
      · rename_i x px y py a b
        split at h
        · rename_i hn
          simp only [Bool.and_eq_true, beq_iff_eq] at hn
          obtain ⟨⟨rfl, l1⟩, l2⟩ := hn
          cases z1 : slot c.N x with
          | none => rw [z1] at h; cases h
          | some i =>
            rw [z1, Option.bind_some] at h
            cases z2 : slot c.N y with
            | none => rw [z2] at h; cases h
            | some j =>
              rw [z2, Option.bind_some] at h
              split at h
              · cases h
              · rename_i hij
                cases z3 : cArgs ((cet c (k + 1)).1 sc) [a, b] with
                | none => rw [z3] at h; cases h
                | some l =>
                  rw [z3, Option.bind_some] at h
                  cases h
                  have e1 := lcl_ok l1
                  have e2 := lcl_ok l2
                  rw [← A.sc] at e1 e2
                  exact ss_par A.calm A.nd (by rw [A.N]; exact slot_get z1) (by rw [A.N]; exact slot_get z2) hij e1 e2 (cArgs_ok hf z3) (w _ _ _ _)
        · cases h
      · rename_i x px y py z pz a b d
        split at h
        · rename_i hn
          simp only [Bool.and_eq_true, beq_iff_eq] at hn
          obtain ⟨⟨⟨rfl, l1⟩, l2⟩, l3⟩ := hn
          cases z1 : slot c.N x with
          | none => rw [z1] at h; cases h
          | some i =>
            rw [z1, Option.bind_some] at h
            cases z2 : slot c.N y with
            | none => rw [z2] at h; cases h
            | some j =>
              rw [z2, Option.bind_some] at h
              cases z3 : slot c.N z with
              | none => rw [z3] at h; cases h
              | some q =>
                rw [z3, Option.bind_some] at h
                split at h
                · cases h
                · rename_i hij
                  cases z4 : cArgs ((cet c (k + 1)).1 sc) [a, b, d] with
                  | none => rw [z4] at h; cases h
                  | some l =>
                    rw [z4, Option.bind_some] at h
                    cases h
                    have e1 := lcl_ok l1
                    have e2 := lcl_ok l2
                    have e3 := lcl_ok l3
                    rw [← A.sc] at e1 e2 e3
                    exact ss_par3 A.calm A.nd (by rw [A.N]; exact slot_get z1) (by rw [A.N]; exact slot_get z2) (by rw [A.N]; exact slot_get z3) (fun z => hij (.inl z)) (fun z => hij (.inr (.inl z))) (fun z => hij (.inr (.inr z))) e1 e2 e3 (cArgs_ok hf z4) (w _ _ _ _)
        · cases h
      · cases h
    · cases h
  · split at h
    · rename_i hn
      simp only [Bool.and_eq_true] at hn
      exact cGen_ok A hd hf h (swapsNo hn.1 (some _) pos.line X.env) (storesNo hn.2 _)
    · cases h
theorem Agree.tr (A : Agree c X sc) (pn : List (Addr × Obj)) (xe : Value → Shared → Prop) : Agree c (X.tr pn xe) sc :=
  ⟨A.N, A.nd, A.sc, A.calm, A.guards, A.units, fun x cal h => let q := A.fns x cal h; ⟨q.ex, q.guards⟩, A.cst, A.bfn, A.blts⟩
theorem XOk.tr (O : XOk c X) (pn : List (Addr × Obj)) (xe : Value → Shared → Prop) : XOk c (X.tr pn xe) := ⟨O.hs, O.hf, O.room, O.cls, O.nms, O.sub⟩
theorem cS_ok : ∀ (n : Nat) {X : Cx} (A : Agree c X sc) (O : XOk c X) (hk : sc.kind = .function) (hd : ∀ x, X.fn x = true) (hp : PassesOwn (model X.prog X.w) X.A X.env X.xe) {st : Stmt} {m : CS}, cS c ((cet c (k + 1)).1 sc) ((cet c (k + 1)).2 sc) sc n st = some m → SS X st m
  | 0, X, A, O, hk, hd, hp, _, _, h => by simp [cS] at h
  | n + 1, X, A, O, hk, hd, hp, st, m, h => by
    have hf := (cet_ok c (k + 1)).e X sc A
    have ht := (cet_ok c (k + 1)).t X sc A
    have ih := fun st m => cS_ok n A O hk hd hp (st := st) (m := m)
    have cx := fun e m => cX_ok A hf (e := e) (m := m)
    unfold cS at h
    split at h
    · cases h; exact ss_stuck
    rename_i hsk
    clear hsk
    split at h
    · rename_i e p
      split at h
      · rename_i mx hx
        cases h
        exact ss_retX (cx _ _ hx).1
      · cases h1 : (cet c (k + 1)).1 sc e with
        | none => rw [h1] at h; cases h
        | some me => rw [h1, Option.bind_some] at h; cases h; exact ss_ret (hf _ _ h1)
    · cases h; exact ss_retN
    · rename_i e p
      split at h
      · rename_i mx hx
        cases h
        exact ss_exprX (cx _ _ hx).1 ((cx _ _ hx).2.1 _ _ _)
      · split at h
        · rename_i hn
          cases h1 : (cet c (k + 1)).1 sc e with
          | none => rw [h1] at h; cases h
          | some me => rw [h1, Option.bind_some] at h; cases h; exact ss_expr (hf _ _ h1) (swapsNo hn _ _ _)
        · cases h
    · rename_i q a b p
      cases h1 : (cet c (k + 1)).2 sc q with
      | none => rw [h1] at h; cases h
      | some mq =>
        rw [h1, Option.bind_some] at h
        cases h2 : cBlk (cS c ((cet c (k + 1)).1 sc) ((cet c (k + 1)).2 sc) sc n) a with
        | none => rw [h2] at h; cases h
        | some ma =>
          rw [h2, Option.bind_some] at h
          cases h3 : cBlk (cS c ((cet c (k + 1)).1 sc) ((cet c (k + 1)).2 sc) sc n) b with
          | none => rw [h3] at h; cases h
          | some mb => rw [h3, Option.bind_some] at h; cases h; exact ss_if (ht _ _ h1) (cBlk_ok ih h2) (cBlk_ok ih h3)
    · rename_i tg iter b p
      split at h
      · rename_i hn
        cases h1 : cIter c ((cet c (k + 1)).1 sc) sc tg iter with
        | none => rw [h1] at h; cases h
        | some ci =>
          rw [h1, Option.bind_some] at h
          cases h2 : cTgt c ((cet c (k + 1)).1 sc) true sc 4 tg with
          | none => rw [h2] at h; cases h
          | some g =>
            rw [h2, Option.bind_some] at h
            cases h3 : cBlk (cS c ((cet c (k + 1)).1 sc) ((cet c (k + 1)).2 sc) sc n) b with
            | none => rw [h3] at h; cases h
            | some mb => rw [h3, Option.bind_some] at h; cases h; exact ss_for hp A.calm (cIter_ok A hf h1) (cTgt_ok A hf (fun _ => hd) 4 h2) (cBlk_ok ih h3) (set_fold hn _)
      · cases h
    · rename_i q b p
      cases h1 : (cet c (k + 1)).2 sc q with
      | none => rw [h1] at h; cases h
      | some mq =>
        rw [h1, Option.bind_some] at h
        cases h3 : cBlk (cS c ((cet c (k + 1)).1 sc) ((cet c (k + 1)).2 sc) sc n) b with
        | none => rw [h3] at h; cases h
        | some mb => rw [h3, Option.bind_some] at h; cases h; exact ss_while hp (ht _ _ h1) (cBlk_ok ih h3)
    · cases h; exact ss_break
    · cases h; exact ss_continue
    · cases h; exact ss_pass
    · split at h
      · exact cRaise_ok A O hf h
      · cases h; exact ss_stuck
    · cases h; exact ss_stuck
    · rename_i b hs p
      cases h1 : cBlk (cS c ((cet c (k + 1)).1 sc) ((cet c (k + 1)).2 sc) sc n) b with
      | none => rw [h1] at h; cases h
      | some mb =>
        rw [h1, Option.bind_some] at h
        cases h2 : cHds c sc hs with
        | none => rw [h2] at h; cases h
        | some l =>
          rw [h2, Option.bind_some] at h
          cases h
          exact cTry_ok A O hd (fun pn xe po => cBlk_ok (fun st m => cS_ok n (A.tr pn xe) (O.tr pn xe) hk hd po (st := st) (m := m)) h1) h2
    · rename_i tg e p
      split at h
      · rename_i mx hx
        split at h
        · rename_i hn
          simp only [Bool.and_eq_true, Bool.not_eq_true'] at hn
          cases h2 : cTgt c ((cet c (k + 1)).1 sc) true sc 4 tg with
          | none => rw [h2] at h; cases h
          | some g =>
            rw [h2, Option.bind_some] at h
            cases h
            obtain ⟨q1, q2, q3⟩ := cX2_ok A hf ht hx
            have nt : notTupTup tg e = true := by unfold notTupTup; rw [hn.2, q3]; simp
            exact ss_asgX q1 (cTgt_ok A hf (fun _ => hd) 4 h2) (q2 (some _) p.line X.env) (storesNo nt _) (asg_one hn.1 [] _)
        · cases h
      · exact cAsg_ok A hk hd h
    · cases h
end

/-! ### the table -/
structure Runs where
  ok : Str → List W → Sto → Option (W × Sto)
  ex : Str → List W → Sto → Option (Exn × Sto)
instance : CoeFun Runs (fun _ => Str → List W → Sto → Option (W × Sto)) := ⟨Runs.ok⟩
structure Info where
  /-- the def's names, its parameters first -/
  N : List Str
  ps : List Str
  arr : List (Nat × List Str × List Nat)
  keep : Bool
  mu : List Pos
  /-- callees that may raise here; whether raise is told -/
  xs : List Str
  rz : Bool
  sk : List Pos
  body : Runs → CS
abbrev Tbl := List (Str × Info)
def run (T : Tbl) : Nat → Runs
  | 0 => ⟨fun _ _ _ => none, fun _ _ _ => none⟩
  | k + 1 => ⟨fun x => match T.lookup x with
    | some d => runD d.N.length (d.body (run T k))
    | none => fun _ _ => none, fun x => match T.lookup x with
    | some d => runX d.N.length (d.body (run T k))
    | none => fun _ _ => none⟩
/-- what is the same for all defs: the module's constants, imported built-ins, the built-ins that are not shadowed -/
structure Glb where
  cst : List (Str × PyData)
  bfn : List (Str × String)
  blts : List Str
  cls : List (Str × List Str)
  nms : List Str
  sub : List (Str × Str × Bool)
def ctxOf (g : Glb) (T : Tbl) (r : Runs) (d : Info) : Ctx := ⟨d.N, T.map fun y => (y.1, ⟨y.2.ps, r.ok y.1, r.ex y.1, y.2.arr⟩), g.cst, g.bfn, g.blts, d.keep, d.mu, d.xs, d.rz, g.cls, g.nms, g.sub, d.sk⟩
def cDef (c : Ctx) (st : Stmt) : Option CS := cBlk (cS c ((cet c 24).1 (defScope st)) ((cet c 24).2 (defScope st)) (defScope st) 12) (defBody st)
theorem lookup_map {α β : Type} (f : Str × α → β) : ∀ (l : List (Str × α)) (x : Str), (l.map fun y => (y.1, f y)).lookup x = (l.find? fun y => x == y.1).map f
  | [], _ => rfl
  | y :: r, x => by
    rw [List.map_cons, List.lookup_cons, List.find?_cons]
    cases h : x == y.1 with
    | true => rfl
    | false => exact lookup_map f r x
theorem find_lookup {α : Type} : ∀ (l : List (Str × α)) (x : Str) (y : Str × α), (l.find? fun y => x == y.1) = some y → l.lookup x = some y.2 ∧ y ∈ l ∧ x = y.1
  | [], _, _, h => by cases h
  | z :: r, x, y, h => by
    rw [List.find?_cons] at h
    rw [List.lookup_cons]
    cases e : x == z.1 with
    | true => rw [e] at h; cases h; exact ⟨rfl, List.mem_cons_self, eq_of_beq e⟩
    | false =>
      rw [e] at h
      obtain ⟨a, b, d⟩ := find_lookup r x y h
      exact ⟨a, List.mem_cons_of_mem _ b, d⟩
/-- the def as the top has left it -/
structure Stands (K : PySem.W.Frag) (mg : Str → Option Value) (g : Glb) (T : Tbl) (x : Str) (d : Info) : Prop where
  ex : ∃ (st : Stmt) (f : Addr) (fd : FuncData), mg x = some (.ref f) ∧ Fun K x x st f fd ∧ FnScope d.N d.ps (defScope st) ∧
    (∀ (s : Shared) (us : List Value), us.length = d.ps.length → BindsTo s fd ⟨us, []⟩ (d.ps.zip us)) ∧
    (∀ a ∈ d.arr, ∀ (s : Shared) (us ws : List Value), us.length = a.1 → ws.length = a.2.1.length → BindsTo s fd ⟨us, a.2.1.zip ws⟩ (d.ps.zip (atU a.2.2 (us ++ ws)))) ∧ (∀ a ∈ d.arr, a.2.2.length = d.ps.length) ∧
    ∀ r : Runs, cDef (ctxOf g T r d) st = some (d.body r)
structure Sound (K : PySem.W.Frag) (mg : Str → Option Value) (g : Glb) (T : Tbl) : Prop where
  defs : ∀ y ∈ T, Stands K mg g T y.1 y.2
  cst : ∀ x d, g.cst.lookup x = some d → ∃ u v, mg x = some u ∧ RelV v u ∧ ∀ H, Rep K H d v
  bfn : ∀ x id, g.bfn.lookup x = some id → mg x = some (.builtin id)
  blts : ∀ x ∈ g.blts, mg x = none
  cls : ∀ n fs, g.cls.lookup n = some fs → ClsOk K mg n fs
  nms : ∀ x ∈ g.nms, ∃ cv, NameV mg x cv
  sub : ∀ n x b, subF g.sub n x = some b → ∀ C cv, mg n = some (.ref C) → NameV mg x cv → ExcC K C ∧ PySem.W.kitOne K (.ref C) cv = some b ∧ PySem.W.exmOne K (.ref C) cv = some b
theorem fn_all {P : Program} {w : World} {K : PySem.W.Frag} {mg : Str → Option Value} {base : Heap} {g : Glb} {T : Tbl} (So : Sound K mg g T) : ∀ (k : Nat) (x : Str) (d : Info), T.lookup x = some d → (x, d) ∈ T →
    ∃ (st : Stmt) (f : Addr) (fd : FuncData), mg x = some (.ref f) ∧ Fun K x x st f fd ∧ (∀ (s : Shared) (us : List Value), us.length = d.ps.length → BindsTo s fd ⟨us, []⟩ (d.ps.zip us)) ∧
      (∀ a ∈ d.arr, ∀ (s : Shared) (us ws : List Value), us.length = a.1 → ws.length = a.2.1.length → BindsTo s fd ⟨us, a.2.1.zip ws⟩ (d.ps.zip (atU a.2.2 (us ++ ws)))) ∧ (∀ a ∈ d.arr, a.2.2.length = d.ps.length) ∧
      FnG P w K mg base k f fd d.ps ((run T k).ok x) ((run T k).ex x)
  | 0, x, d, hx, hm => by
    obtain ⟨st, f, fd, h1, h2, h3, h4, h5, h6, h7⟩ := (So.defs _ hm).ex
    exact ⟨st, f, fd, h1, h2, h4, h5, h6, ⟨(fun A outer s H args us vs E _ _ _ _ _ _ ⟨μ, S, ws, w0, S', _, _, e, _⟩ => by cases e), (fun A outer s H args us vs Q _ _ _ _ _ _ ⟨μ, S, ws, w0, S', _, _, e, _⟩ => by cases e)⟩⟩
  | k + 1, x, d, hx, hm => by
    obtain ⟨st, f, fd, h1, h2, h3, h4, h5, h6, h7⟩ := (So.defs _ hm).ex
    refine ⟨st, f, fd, h1, h2, h4, h5, h6, ?_⟩
    have er : (run T (k + 1)).ok x = runD d.N.length (d.body (run T k)) := by
      rw [show (run T (k + 1)).ok x = (match T.lookup x with
        | some d => runD d.N.length (d.body (run T k))
        | none => fun _ _ => none) from rfl, hx]
    have ex : (run T (k + 1)).ex x = runX d.N.length (d.body (run T k)) := by
      rw [show (run T (k + 1)).ex x = (match T.lookup x with
        | some d => runX d.N.length (d.body (run T k))
        | none => fun _ _ => none) from rfl, hx]
    rw [er, ex]
    have Ag : ∀ (CX : CXT) (cdv : Value) (A : Around) (outer : List Env) (s : Shared) (H : Hp) (E : XK), Room k (A.deeper (envOfC x (defScope st) s.heap.objs.size f cdv)) → A.guards = some [] →
        Agree (ctxOf g T (run T k) d) (cxOf CX P w K mg base d.N x (defScope st) f cdv A outer s H E) (defScope st) := by
      intro CX cdv A outer s H E hr hg
      refine ⟨rfl, h3.nd, rfl, rfl, hg, ?_, fun y cal hy => ?_, So.cst, So.bfn, So.blts⟩
      · have h9 : A.units + 3 + 16 * k + 200 < cLine := hr.un
        show A.units + 3 + 70 < cLine
        omega
      · have hy' : (T.map fun y => (y.1, (⟨y.2.ps, (run T k).ok y.1, (run T k).ex y.1, y.2.arr⟩ : Callee))).lookup y = some cal := hy
        rw [lookup_map (fun y : Str × Info => (⟨y.2.ps, (run T k).ok y.1, (run T k).ex y.1, y.2.arr⟩ : Callee))] at hy'
        cases hf : (T.find? fun z => y == z.1) with
        | none => rw [hf] at hy'; cases hy'
        | some z =>
          rw [hf] at hy'
          cases hy'
          obtain ⟨a, b, e⟩ := find_lookup T y z hf
          subst e
          obtain ⟨st2, f2, fd2, g1, g2, g3, g4, g5, g6⟩ := fn_all (P := P) (w := w) (base := base) So k z.1 z.2 a b
          exact ⟨⟨f2, fd2, k, g1, g2.kp, hr, g6, g3, g4, g5⟩, hg⟩
    have Xo : ∀ (CX : CXT) (cdv : Value) (A : Around) (outer : List Env) (s : Shared) (H : Hp) (E : XK), Room k (A.deeper (envOfC x (defScope st) s.heap.objs.size f cdv)) →
        XOk (ctxOf g T (run T k) d) (cxOf CX P w K mg base d.N x (defScope st) f cdv A outer s H E) := fun CX cdv A outer s H E hr => ⟨rfl, rfl, hr.mono (Nat.zero_le _), So.cls, So.nms, So.sub⟩
    refine fnG_of h2 h3 (fun cdv A outer s H hr hg => ?_) (fun cdv A outer s H E hr hg => ?_)
    · exact cBlk_ok (fun st' m z => cS_ok 12 ((Ag CX0 cdv A outer s H E0 hr hg).tr _ _) ((Xo CX0 cdv A outer s H E0 hr).tr _ _) h3.kind (fun _ => rfl) PassesOwn.never z) (h7 (run T k))
    · exact cBlk_ok (fun st' m z => cS_ok 12 (Ag (L2.CX P w) cdv A outer s H E hr hg) (Xo (L2.CX P w) cdv A outer s H E hr) h3.kind (fun _ => rfl) (passes_of (K := fun e s'' => L2.CX P w outer H s E e s'') rfl) z) (h7 (run T k))
end PD

/-! PD, part 8: the law's end. -/
namespace PD
open PySem PySem.Spec PyProof.Rows L2 RZ RT

theorem kit_true {K : PySem.W.Frag} {t : Value} {C : Addr} (h1 : PySem.W.hasDictIn K C = true) (h2 : PySem.W.typeIn K (.ref C) = some (.type "type")) (h3 : PySem.W.subIn K t (.ref C) = some true) : PySem.W.kitOne K t (.ref C) = some true := by
  unfold PySem.W.kitOne
  split
  · rfl
  · obtain ⟨cd, hc, _⟩ := PySem.W.any_some h1
    show (if ((PySem.W.clsIn K C).isSome && PySem.W.typeIn K (.ref C) == some (.type "type")) = true then PySem.W.subIn K t (.ref C) else none) = _
    rw [if_pos (by rw [hc, h2]; rfl)]
    exact h3
theorem kit_trueT {K : PySem.W.Frag} {t : Value} {T : String} (h1 : PySem.W.kitMeta T = true) (h3 : PySem.W.subIn K t (.type T) = some true) : PySem.W.kitOne K t (.type T) = some true := by
  unfold PySem.W.kitOne
  split
  · rfl
  · show (if PySem.W.kitMeta T = true then PySem.W.subIn K t (.type T) else none) = _
    rw [if_pos h1]
    exact h3
theorem exm_trueT {K : PySem.W.Frag} {t : Value} {T : String} (h1 : PySem.W.kitMeta T = true) (h2 : PySem.W.subIn K (.type T) (.type "BaseException") = some true) (h3 : PySem.W.subIn K t (.type T) = some true) : PySem.W.exmOne K t (.type T) = some true := by
  unfold PySem.W.exmOne
  rw [if_pos (by rw [h2]; rfl)]
  show (if PySem.W.kitMeta T = true then PySem.W.subIn K t (.type T) else none) = _
  rw [if_pos h1]
  exact h3
theorem subF_mem {l : List (Str × Str × Bool)} {n x : Str} {b : Bool} (h : subF l n x = some b) : (n, x, b) ∈ l := by
  unfold subF at h
  cases hf : (l.find? fun t => t.1 == n && t.2.1 == x) with
  | none => rw [hf] at h; cases h
  | some t =>
    rw [hf] at h
    cases h
    have hp := List.find?_some hf
    simp only [Bool.and_eq_true, beq_iff_eq] at hp
    have hm := List.mem_of_find?_eq_some hf
    obtain ⟨t1, t2, t3⟩ := t
    simp only at hp
    rw [← hp.1, ← hp.2]
    exact hm
/-- the script as the law's call finds it -/
def scriptH (K : PySem.W.Frag) (a : Addr) (vs : List Value) (ns : List Int) : Hp := fun b => if b = a ∧ K.lookup a = none then some (.frz { cls := .type "list", data := .seq vs.toArray } (.lst (ns.map V.int))) else none
theorem scriptH_some {K : PySem.W.Frag} {a b : Addr} {vs : List Value} {ns : List Int} {o : HO} (h : scriptH K a vs ns b = some o) : b = a ∧ K.lookup a = none ∧ o = .frz { cls := .type "list", data := .seq vs.toArray } (.lst (ns.map V.int)) := by
  unfold scriptH at h
  split at h
  · rename_i z; cases h; exact ⟨z.1, z.2, rfl⟩
  · cases h
theorem law_runs {P : Program} {w : World} {K : PySem.W.Frag} {mg mb : Str → Option Value} {k : Nat} {fa a : Addr} {fd : FuncData} {x : Str} {s : Shared} {vs : List Value} {ns : List Int} {run : List W → Sto → Option (W × Sto)} {exn : List W → Sto → Option (Exn × Sto)}
    (hK : K.In s.heap) (hmg : s.heap.Ns mainGlobals mg) (hmb : s.heap.Ns builtinsNs mb) (hbb : ∀ x : Str, x ≠ "__name__" → mb x = bootBuiltins x) (hlim : s.heap.NoLimit) (hgen : s.gens = #[])
    (ha : s.heap.get? a = some { cls := .type "list", data := .seq vs.toArray }) (hi : IntsAre vs ns) (hl : ns.length ≤ sizeLine) (hr : Room k callerA)
    (F : ∀ base : Heap, K.In base → base.Ns mainGlobals mg → FnG P w K mg base k fa fd [x] run exn) (hb : ∀ (s : Shared) (u : Value), BindsTo s fd ⟨[u], []⟩ [(x, u)])
    (law : run [.d (.list (ns.map PyData.int))] [] = some (.d (.bool true), [])) :
    codeAny (model P w) callerA (.call (.ref fa) ⟨[.ref a], []⟩) (fun r s' => r = .ok (.ret (.bool true)) ∧ OldK s.heap s'.heap ∧ s'.os = s.os ∧ AllBare s'.gens) s := by
  have rv := vals_ints hi
  have hnl : vs.length = ns.length := hi.length
  have h1 : ∀ {b : Addr} {o : HO}, scriptH K a vs ns b = some o → b = a := fun h => (scriptH_some h).1
  -- what stands in the heap and is no part of the tracked one
  have stay : ∀ {b : Addr} {o : Obj}, s.heap.get? b = some o → (b = a → K.lookup a = none → False) → (hidT s.heap (scriptH K a vs ns)).get? b = some o := fun {b o} e n => hidT_get e (by
    cases q : scriptH K a vs ns b with
    | none => rfl
    | some u => exact (n (scriptH_some q).1 (scriptH_some q).2.1).elim)
  have stayNs : ∀ {b : Addr} {m : Str → Option Value}, s.heap.Ns b m → (hidT s.heap (scriptH K a vs ns)).Ns b m := fun {b m} ⟨o, es, ep, e, d, r⟩ =>
    ⟨o, es, ep, stay e (fun z _ => by subst z; rw [ha] at e; cases e; cases d), d, r⟩
  have stayK : K.In (hidT s.heap (scriptH K a vs ns)) := fun b o e => stay (hK b o e) fun z z2 => by subst z; rw [z2] at e; cases e
  have hok : HOk P w (scriptH K a vs ns) s.heap := fun b u q => by
    obtain ⟨rfl, _, rfl⟩ := scriptH_some q
    exact ⟨ha, by rw [List.length_map]; exact hl, vs, _, rv, ha⟩
  have md : Mod K mg (hidT s.heap (scriptH K a vs ns)) := ⟨stayK, stayNs hmg, ⟨mb, stayNs hmb, hbb⟩, let ⟨mc, q1, q2⟩ := hlim; ⟨mc, stayNs q1, q2⟩⟩
  have e0 : Env0 P w K mg (hidT s.heap (scriptH K a vs ns)) callerA [] s (scriptH K a vs ns) := by
    refine ⟨rfl, md, fun b o e => of_hidT e, ?_, trivial, fun b hb => ?_, hok, .of_eq hgen⟩
    · rw [hidT_size]; exact Nat.le_refl _
    · exact absurd (show b ∈ ([] : List Addr) from hb) (by simp)
  have rep : Rep K (scriptH K a vs ns) (.list (ns.map PyData.int)) (.ref a) := by
    refine .lst (vs := ns.map V.int) ?_ (RepL.ints ns)
    cases q : K.lookup a with
    | none => exact .inl ⟨_, if_pos ⟨rfl, q⟩⟩
    | some o =>
      have e := hK a o q
      rw [ha] at e
      cases e
      exact .inr ⟨_, vs.toArray, _, q, rfl, rfl, rfl, by rw [List.size_toArray, hnl]; exact hl, by simpa using rv⟩
  have want : FN K run [.ref a] (scriptH K a vs ns) (fun v _ => v = .bl true) := by
    refine ⟨[], [], [.d (.list (ns.map PyData.int))], .d (.bool true), [], ⟨rfl, List.nodup_nil, fun _ m => (nomatch m), fun n xs e => by simp at e⟩, .cons (.d rep) .nil, law, fun v H' μ' _ r => ?_⟩
    cases r with | d r => cases r; rfl
  refine codeAny_mono ((F _ stayK (stayNs hmg)).run callerA [] s _ ⟨[.ref a], []⟩ [.ref a] [.ref a] _ hr rfl e0 (hb s (.ref a)) (.cons rfl .nil) rfl want) fun r s' h => ?_
  cases r with
  | error e => exact h.elim
  | ok fl =>
    cases fl with
    | next => exact False.elim h
    | brk => exact False.elim h
    | cont => exact False.elim h
    | ret u =>
      obtain ⟨v, H', os, bare, un, hok', rr, q⟩ := h
      subst q
      cases rr
      refine ⟨rfl, OldK.of_keep fun b o e => ?_, os, bare⟩
      cases q : scriptH K a vs ns b with
      | none => exact un.keep b o e q (fun z => absurd (show b ∈ ([] : List Addr) from z) (by simp)) (by simp)
      | some u =>
        obtain ⟨rfl, _, rfl⟩ := scriptH_some q
        obtain ⟨e2, _⟩ := hok' b _ (un.frzs b _ _ q)
        rw [ha] at e; cases e
        exact e2
/-- the walk that k_head leaves, from the law's function -/
theorem walkG {l : PySem.W.OpenLaw} {n k : Nat} {q : Program} {loose : List Str} {XP : (Str → Option Value) → Heap → Prop} {YP : World → Heap → Prop} {d : DefRec} {K : Params → PySem.W.Frag} {g : Glb} {T : Tbl} {i : Info} {x : Str}
    (hn : l.most = some n) (hn2 : n ≤ sizeLine) (hdf : d.params.defaults = []) (hr : Room k callerA) (hT : T.lookup d.name = some i) (hM : (d.name, i) ∈ T) (hp : i.ps = [x])
    (hY : ∀ (w : World) (h : Heap), YP w h → (K w.params).In h)
    (F : ∀ (w : World) (mg : Str → Option Value) (h : Heap), (K w.params).In h → h.Ns mainGlobals mg → Sound (K w.params) mg g T)
    (law : ∀ ns : List Int, ns.length ≤ n → (∀ z ∈ ns, Builtin.Int.intBits z ≤ 1048576) → run T k d.name [.d (.list (ns.map PyData.int))] [] = some (.d (.bool true), [])) :
    PySem.W.WalkO q loose XP YP l.row.toRowW d [] (fun f vs => PySem.call f vs) := by
  refine Att.attach_callB hn hdf fun w s0 s1 mg mb fa o pm cd doc a vs ns G Y ho hd hcd hmg hobj hints hlen hbits hg => ?_
  have KX := hY w _ Y
  have So := F w mg _ KX G.T.g
  obtain ⟨st, f, fd, h1, h2, h3, h4, h5, _⟩ := fn_all (P := l.prog) (w := w) (base := s1.heap) So k d.name i hT hM
  have ef : f = fa := by
    have := h1.symm.trans hmg
    injection this with this
    injection this
  subst ef
  refine law_runs (x := x) (fd := fd) (exn := (run T k).ex d.name) KX G.T.g G.T.b G.T.builtins G.T.nolimit hg hobj hints (Nat.le_trans hlen hn2) hr (fun base kb nb => ?_) (fun s u => ?_) (law ns hlen hbits)
  · obtain ⟨st', f', fd', q1, q2, q3, q4, q5, q6⟩ := fn_all (P := l.prog) (w := w) (base := base) So k d.name i hT hM
    have ef : f' = f := by
      have := q1.symm.trans h1
      injection this with this
      injection this
    subst ef
    have efd : fd' = fd := by
      obtain ⟨_, _, _, _, _, _, _, _, _, _, lk, _⟩ := q2.ex
      obtain ⟨_, _, _, _, _, _, _, _, _, _, lk', _⟩ := h2.ex
      rw [lk] at lk'
      injection lk' with e1
      injection e1 with _ _ e2 _
      injection e2
    subst efd
    rw [hp] at q6
    exact q6
  · have := h3 s [u] (by rw [hp]; rfl)
    rw [hp] at this
    exact this
end PD

/-! PD, part 9: how the functions are reckoned (for simp), sizes of numbers, fractions. -/
namespace PD
open PySem PySem.Spec PyProof.Rows L2

/-- a range from nought, of a number that is not too great -/
def rangeU (j : Int) (S : Sto) : Option (List PyData × Sto) := if okR j = true then some (rangeD 0 j.toNat, S) else none
def rangeUL (i j : Int) (S : Sto) : Option (W × Sto) := if (okR i && okR j && decide ((j - i).toNat ≤ lim)) = true then some (.d (.list (rangeD i (j - i).toNat)), S) else none
theorem okR_int {i : Int} (h : i.natAbs < 1000000) : okR i = true := by
  unfold okR
  refine decide_eq_true ?_
  by_cases h0 : i.natAbs = 0
  · rw [h0]; decide
  · exact (Nat.log2_lt h0).mpr (by omega)
theorem rangeUL_ok {i j : Int} (S : Sto) (h1 : i.natAbs < 1000000) (h2 : j.natAbs < 1000000) (h3 : (j - i).toNat ≤ 100000) : rangeUL i j S = some (.d (.list (rangeD i (j - i).toNat)), S) := by
  unfold rangeUL
  rw [if_pos (by rw [okR_int h1, okR_int h2]; simpa using h3)]
theorem rangeU_nat (n : Nat) (S : Sto) (h : n < 1000000) : rangeU n S = some (rangeD 0 n, S) := by
  unfold rangeU
  rw [if_pos (okR_nat h), Int.toNat_natCast]
section
variable {ρ : Rho} {S : Sto} {a b c : CE} {l : CL} {t u : CB} {s s' : CS}
@[simp] theorem x_const (x : PyData) : constE x ρ S = some (.d x, S) := rfl
@[simp] theorem x_var (i : Nat) : varE i ρ S = match ρ[i]? with
  | some (some w) => some (w, S)
  | _ => none := rfl
@[simp] theorem x_bin (f : W → W → Sto → Option (W × Sto)) : binE f a b ρ S = (a ρ S).bind fun p => (b ρ p.2).bind fun q => f p.1 q.1 q.2 := rfl
@[simp] theorem x_un (f : W → Sto → Option (W × Sto)) : unE f a ρ S = (a ρ S).bind fun p => f p.1 p.2 := rfl
@[simp] theorem x_if : ifE t a b ρ S = (t ρ S).bind fun p => if p.1 = true then a ρ p.2 else b ρ p.2 := rfl
@[simp] theorem x_nil : nilL ρ S = some ([], S) := rfl
@[simp] theorem x_cons : consL a l ρ S = (a ρ S).bind fun p => (l ρ p.2).bind fun q => some (p.1 :: q.1, q.2) := rfl
@[simp] theorem x_app (f : List W → Sto → Option (W × Sto)) : appE f l ρ S = (l ρ S).bind fun p => f p.1 p.2 := rfl
@[simp] theorem x_andB : andB t u ρ S = (t ρ S).bind fun p => if p.1 = true then u ρ p.2 else some (false, p.2) := rfl
@[simp] theorem x_orB : orB t u ρ S = (t ρ S).bind fun p => if p.1 = true then some (true, p.2) else u ρ p.2 := rfl
@[simp] theorem x_notB : notB t ρ S = (t ρ S).bind fun p => some (!p.1, p.2) := rfl
@[simp] theorem x_valB : valB a ρ S = (a ρ S).bind fun p => (asBool p.1).bind fun b => some (b, p.2) := rfl
@[simp] theorem x_andE : andE a b ρ S = (a ρ S).bind fun p => (asBool p.1).bind fun k => if k = true then b ρ p.2 else some (.d (.bool false), p.2) := rfl
@[simp] theorem x_orE : orE a b ρ S = (a ρ S).bind fun p => (asBool p.1).bind fun k => if k = true then some (.d (.bool true), p.2) else b ρ p.2 := rfl
@[simp] theorem x_notE : notE a ρ S = (a ρ S).bind fun p => (asBool p.1).bind fun k => some (.d (.bool (!k)), p.2) := rfl
@[simp] theorem x_ch (f g : W → W → Sto → Option (W × Sto)) : chE f g a b c ρ S = (a ρ S).bind fun p => (b ρ p.2).bind fun q => (f p.1 q.1 q.2).bind fun z => (asBool z.1).bind fun k => if k = true then (c ρ z.2).bind fun r => g q.1 r.1 r.2 else some (.d (.bool false), z.2) := rfl
@[simp] theorem x_asBool (b : Bool) : asBool (.d (.bool b)) = some b := rfl
@[simp] theorem x_asInt (i : Int) : asInt (.d (.int i)) = some i := rfl
@[simp] theorem x_rdd (x : PyData) : rd S (.d x) = some x := rfl
@[simp] theorem x_rdm (n : Nat) : rd S (.m n) = match S[n]? with
  | some (some xs) => some (.list xs)
  | _ => none := rfl
@[simp] theorem x_pf1 (g : PyData → Option PyData) (x : W) : pf1 g x S = (rd S x).bind fun a => (g a).bind fun c => some (.d c, S) := rfl
@[simp] theorem x_pf2 (g : PyData → PyData → Option PyData) (x y : W) : pf2 g x y S = (rd S x).bind fun a => (rd S y).bind fun b => (g a b).bind fun c => some (.d c, S) := rfl
theorem x_pfN (g : List PyData → Option PyData) (ws : List W) : pfN g ws S = (ws.mapM (rd S)).bind fun xs => (g xs).bind fun c => some (.d c, S) := rfl
@[simp] theorem x_pfN1 (g : List PyData → Option PyData) (x : W) : pfN g [x] S = (rd S x).bind fun a => (g [a]).bind fun c => some (.d c, S) := by
  unfold pfN
  rw [List.mapM_cons, List.mapM_nil]
  cases rd S x <;> rfl
@[simp] theorem x_pfN2 (g : List PyData → Option PyData) (x y : W) : pfN g [x, y] S = (rd S x).bind fun a => (rd S y).bind fun b => (g [a, b]).bind fun c => some (.d c, S) := by
  unfold pfN
  rw [List.mapM_cons, List.mapM_cons, List.mapM_nil]
  cases rd S x <;> cases rd S y <;> rfl
@[simp] theorem x_add (i j : Int) : addP (.int i) (.int j) = some (.int (i + j)) := rfl
@[simp] theorem x_addL (xs ys : List PyData) : addP (.list xs) (.list ys) = if xs.length + ys.length ≤ lim then some (.list (xs ++ ys)) else none := rfl
@[simp] theorem x_addT (xs ys : List PyData) : addP (.tuple xs) (.tuple ys) = if xs.length + ys.length ≤ lim then some (.tuple (xs ++ ys)) else none := rfl
@[simp] theorem x_sub (i j : Int) : subP (.int i) (.int j) = some (.int (i - j)) := rfl
@[simp] theorem x_mul (i j : Int) : mulP (.int i) (.int j) = if mulOk i j = true then some (.int (i * j)) else none := rfl
@[simp] theorem x_div (i j : Int) : divP (.int i) (.int j) = if divOk j = true then some (.int (i.fdiv j)) else none := rfl
@[simp] theorem x_mod (i j : Int) : modP (.int i) (.int j) = if j ≠ 0 then some (.int (i.fmod j)) else none := rfl
@[simp] theorem x_neg (i : Int) : negP (.int i) = some (.int (-i)) := rfl
@[simp] theorem x_lt (i j : Int) : ltP (.int i) (.int j) = some (.bool (decide (i < j))) := rfl
@[simp] theorem x_le (i j : Int) : leP (.int i) (.int j) = some (.bool (decide (i ≤ j))) := rfl
@[simp] theorem x_gt (i j : Int) : gtP (.int i) (.int j) = some (.bool (decide (j < i))) := rfl
@[simp] theorem x_ge (i j : Int) : geP (.int i) (.int j) = some (.bool (decide (j ≤ i))) := rfl
@[simp] theorem x_eqI (i j : Int) : eqP (.int i) (.int j) = some (.bool (i == j)) := by
  unfold eqP eqOk
  rw [if_pos (by simp [PyData.canLay0, PyData.depth])]
  rfl
@[simp] theorem x_neI (i j : Int) : neP (.int i) (.int j) = some (.bool (!(i == j))) := by
  unfold neP eqOk
  rw [if_pos (by simp [PyData.canLay0, PyData.depth])]
  rfl
@[simp] theorem x_isN (w : W) : isF w (.d .none) S = some (.d (.bool (isNone w)), S) := rfl
@[simp] theorem x_isntN (w : W) : isntF w (.d .none) S = some (.d (.bool (!isNone w)), S) := rfl
@[simp] theorem x_ixL (xs : List PyData) (i : Int) : ixP (.list xs) (.int i) = atI xs i := rfl
@[simp] theorem x_ixT (xs : List PyData) (i : Int) : ixP (.tuple xs) (.int i) = atI xs i := rfl
@[simp] theorem x_lenL (xs : List PyData) : lenP [.list xs] = some (.int xs.length) := rfl
@[simp] theorem x_lenT (xs : List PyData) : lenP [.tuple xs] = some (.int xs.length) := rfl
@[simp] theorem x_abs (i : Int) : absP [.int i] = some (.int (if i < 0 then -i else i)) := rfl
@[simp] theorem x_int (i : Int) : intP [.int i] = some (.int i) := rfl
@[simp] theorem x_max (i j : Int) : maxP [.int i, .int j] = some (.int (if j > i then j else i)) := rfl
@[simp] theorem x_min (i j : Int) : minP [.int i, .int j] = some (.int (if j < i then j else i)) := rfl
@[simp] theorem x_tupL (xs : List PyData) : tupleP [.list xs] = some (.tuple xs) := rfl
@[simp] theorem x_tupT (xs : List PyData) : tupleP [.tuple xs] = some (.tuple xs) := rfl
@[simp] theorem x_gcd (i j : Int) : gcdP [.int i, .int j] = some (.int ((Nat.gcd i.natAbs j.natAbs : Nat) : Int)) := rfl
@[simp] theorem x_call (c : PD.Callee) (ws : List W) : callF c ws S = if ws.length = c.ps.length then c.run ws S else none := rfl
@[simp] theorem x_kw (c : PD.Callee) (perm : List Nat) (l k : CL) : kwE c perm l k ρ S = (l ρ S).bind fun p => (k ρ p.2).bind fun q => c.run (atW perm (p.1 ++ q.1)) q.2 := rfl
@[simp] theorem x_tup (ws : List W) : tupF ws S = (allD ws).bind fun xs => if xs.length ≤ lim then some (.d (.tuple xs), S) else none := rfl
@[simp] theorem x_lst (ws : List W) : lstF ws S = (allD ws).bind fun xs => if xs.length ≤ lim then some (.d (.list xs), S) else none := rfl
@[simp] theorem x_lstM (ws : List W) : lstM ws S = (allD ws).bind fun xs => if xs.length ≤ lim then some (.m S.length, S ++ [some xs]) else none := rfl
@[simp] theorem x_allD0 : allD [] = some [] := rfl
@[simp] theorem x_allD (x : PyData) (r : List W) : allD (.d x :: r) = (allD r).bind fun xs => some (x :: xs) := rfl
@[simp] theorem x_nilS : nilS ρ S = some (.nx, ρ, S) := rfl
@[simp] theorem x_seq (s s' : CS) : seqS s s' ρ S = (s ρ S).bind fun p => match p.1 with
  | .nx => s' p.2.1 p.2.2
  | f => some (f, p.2.1, p.2.2) := rfl
@[simp] theorem x_ifS (t : CB) (s s' : CS) : ifS t s s' ρ S = (t ρ S).bind fun p => if p.1 = true then s ρ p.2 else s' ρ p.2 := rfl
@[simp] theorem x_asg (a : CE) (g : CG) : asgS a g ρ S = (a ρ S).bind fun p => (g p.1 ρ p.2).bind fun q => some (.nx, q.1, q.2) := rfl
@[simp] theorem x_expr (a : CE) : exprS a ρ S = (a ρ S).bind fun p => some (.nx, ρ, p.2) := rfl
@[simp] theorem x_ret (k : Bool) (a : CE) : retS k a ρ S = (a ρ S).bind fun p => (thaw k p.1 p.2).bind fun q => some (.rt q.1, ρ, q.2) := rfl
@[simp] theorem x_frz (a : CE) : frzE a ρ S = (a ρ S).bind fun p => thaw false p.1 p.2 := rfl
@[simp] theorem x_thawD (k : Bool) (x : PyData) : thaw k (.d x) S = some (.d x, S) := rfl
@[simp] theorem x_thawK (n : Nat) : thaw true (.m n) S = some (.m n, S) := rfl
@[simp] theorem x_thawF (n : Nat) : thaw false (.m n) S = match S[n]? with
  | some (some xs) => some (.d (.list xs), S.set n none)
  | _ => none := rfl
@[simp] theorem x_nameG (i : Nat) (w : W) : nameG i w ρ S = some (ρ.set i (some w), S) := rfl
@[simp] theorem x_tupG (n : Nat) (g : CGs) (xs : List PyData) : tupG n g (.d (.tuple xs)) ρ S = if xs.length = n then g xs ρ S else none := rfl
@[simp] theorem x_nilG : nilG [] ρ S = some (ρ, S) := rfl
@[simp] theorem x_consG (g : CG) (r : CGs) (x : PyData) (xs : List PyData) : consG g r (x :: xs) ρ S = (g (.d x) ρ S).bind fun p => r xs p.1 p.2 := rfl
@[simp] theorem x_par (i j : Nat) (l : CL) : parS i j l ρ S = (l ρ S).bind fun p => match p.1 with
  | [v, w] => some (.nx, (ρ.set i (some v)).set j (some w), p.2)
  | _ => none := rfl
@[simp] theorem x_par3 (i j k : Nat) (l : CL) : par3S i j k l ρ S = (l ρ S).bind fun p => match p.1 with
  | [u, v, w] => some (.nx, ((ρ.set i (some u)).set j (some v)).set k (some w), p.2)
  | _ => none := rfl
@[simp] theorem x_forS (it : CI) (g : CG) (s : CS) : forS it g s ρ S = (it ρ S).bind fun p => forN g s p.1 ρ p.2 := rfl
@[simp] theorem x_forN0 (g : CG) (s : CS) : forN g s [] ρ S = some (.nx, ρ, S) := rfl
theorem x_forN (g : CG) (s : CS) (x : PyData) (xs : List PyData) : forN g s (x :: xs) ρ S = (g (.d x) ρ S).bind fun p => (s p.1 p.2).bind fun q => match q.1 with
    | .nx => forN g s xs q.2.1 q.2.2
    | .ct => forN g s xs q.2.1 q.2.2
    | .bk => some (.nx, q.2.1, q.2.2)
    | .rt w => some (.rt w, q.2.1, q.2.2)
    | .ex n as => some (.ex n as, q.2.1, q.2.2) := rfl
@[simp] theorem x_seqI (a : CE) : seqI a ρ S = (a ρ S).bind fun p => match p.1 with
  | .d (.list xs) => some (xs, p.2)
  | .d (.tuple xs) => some (xs, p.2)
  | _ => none := rfl
@[simp] theorem x_range1 (a : CE) : range1I a ρ S = (a ρ S).bind fun p => (asInt p.1).bind fun j => rangeU j p.2 := rfl
@[simp] theorem x_zipI (a b : CE) : zipI a b ρ S = (a ρ S).bind fun p => (b ρ p.2).bind fun z => match p.1, z.1 with
  | .d (.list xs), .d (.list ys) => some (zipD xs ys, z.2)
  | .d (.tuple xs), .d (.tuple ys) => some (zipD xs ys, z.2)
  | _, _ => none := rfl
@[simp] theorem x_slice (a : CE) (lo hi : CO) : sliceE a lo hi ρ S = (a ρ S).bind fun p => (lo ρ p.2).bind fun l => (hi ρ l.2).bind fun u => (rd u.2 p.1).bind fun x => (sliceP l.1 u.1 x).bind fun y => some (.d y, u.2) := rfl
@[simp] theorem x_rev (a : CE) : revE a ρ S = (a ρ S).bind fun p => (rd p.2 p.1).bind fun x => (revP x).bind fun y => some (.d y, p.2) := rfl
@[simp] theorem x_revL (xs : List PyData) : revP (.list xs) = some (.list xs.reverse) := rfl
@[simp] theorem x_revT (xs : List PyData) : revP (.tuple xs) = some (.tuple xs.reverse) := rfl
@[simp] theorem x_noO : noO ρ S = some (none, S) := rfl
@[simp] theorem x_someO (a : CE) : someO a ρ S = (a ρ S).bind fun p => (asInt p.1).bind fun i => some (some i, p.2) := rfl
@[simp] theorem x_sliceL (lo hi : Option Int) (xs : List PyData) : sliceP lo hi (.list xs) = some (.list (cutP xs lo hi)) := rfl
@[simp] theorem x_sliceT (lo hi : Option Int) (xs : List PyData) : sliceP lo hi (.tuple xs) = some (.tuple (cutP xs lo hi)) := rfl
@[simp] theorem x_yes : yesB ρ S = some (true, S) := rfl
theorem x_lc (own : List Nat) (mu : Bool) (ci : CI) (g : CG) (t : CB) (elt : CE) : lcE own mu ci g t elt ρ S = (ci ρ S).bind fun p => if p.1.length ≤ lim then (lcN g t elt (wipeR ρ own) p.1 p.2).bind fun q =>
  if mu = true then some (.m q.2.length, q.2 ++ [some q.1]) else some (.d (.list q.1), q.2) else none := rfl
@[simp] theorem x_lcN0 (g : CG) (t : CB) (elt : CE) : lcN g t elt ρ [] S = some ([], S) := rfl
theorem x_lcN (g : CG) (t : CB) (elt : CE) (x : PyData) (xs : List PyData) : lcN g t elt ρ (x :: xs) S = (g (.d x) ρ S).bind fun p => (t p.1 p.2).bind fun b => if b.1 = true then (elt p.1 b.2).bind fun y => match y.1 with
      | .d d => (lcN g t elt ρ xs y.2).bind fun r => some (d :: r.1, r.2)
      | .m _ => none
    else lcN g t elt ρ xs b.2 := rfl
theorem x_run (n : Nat) (m : CS) (ws : List W) : runD n m ws S = (m (startR n ws) S).bind fun p => match p.1 with
  | .rt w => leave S.length w p.2.2
  | .nx => leave S.length (.d .none) p.2.2
  | _ => none := rfl
@[simp] theorem x_leaveD (x : PyData) : leave S.length (.d x) S = some (.d x, S) := by
  show some (W.d x, S.take S.length) = _
  rw [List.take_length]
@[simp] theorem x_leaveD' (L : Nat) (x : PyData) (S' : Sto) : leave L (.d x) S' = some (.d x, S'.take L) := rfl
theorem x_sub1 (a i : CE) (w : W) : subG a i w ρ S = (a ρ S).bind fun p => (i ρ p.2).bind fun q => match w, p.1, asInt q.1 with
  | .d x, .m n, some k => (match q.2[n]? with
    | some (some xs) => (ixN xs.length k).bind fun j => some (ρ, q.2.set n (some (xs.set j x)))
    | _ => none)
  | _, _, _ => none := rfl
@[simp] theorem x_rangeL (a b : CE) : rangeLE a b ρ S = (a ρ S).bind fun p => (b ρ p.2).bind fun z => (asInt p.1).bind fun i => (asInt z.1).bind fun j => rangeUL i j z.2 := rfl
@[simp] theorem x_exprX (m : CEX) : exprX m ρ S = (m ρ S).bind fun p => match p.1 with
  | .inl _ => some (.nx, ρ, p.2)
  | .inr e => some (.ex e.1 e.2, ρ, p.2) := rfl
@[simp] theorem x_asgX (m : CEX) (g : CG) : asgX m g ρ S = (m ρ S).bind fun p => match p.1 with
  | .inl w => (g w ρ p.2).bind fun q => some (.nx, q.1, q.2)
  | .inr e => some (.ex e.1 e.2, ρ, p.2) := rfl
@[simp] theorem x_retX (m : CEX) : retX m ρ S = (m ρ S).bind fun p => match p.1 with
  | .inl (.d x) => some (.rt (.d x), ρ, p.2)
  | .inl (.m _) => none
  | .inr e => some (.ex e.1 e.2, ρ, p.2) := rfl
@[simp] theorem x_callX (c : Callee) (l : CL) : callX c l ρ S = (l ρ S).bind fun p => if p.1.length = c.ps.length then resX c p.1 p.2 else none := rfl
@[simp] theorem x_kwX (c : Callee) (perm : List Nat) (l k : CL) : kwX c perm l k ρ S = (l ρ S).bind fun p => (k ρ p.2).bind fun q => resX c (atW perm (p.1 ++ q.1)) q.2 := rfl
theorem resX_ok {c : Callee} {ws : List W} {w : W} {S' : Sto} (h : c.run ws S = some (w, S')) : resX c ws S = some (.inl w, S') := by unfold resX; rw [h]
theorem resX_ex {c : Callee} {ws : List W} {e : Exn} {S' : Sto} (h : c.run ws S = none) (g : c.exn ws S = some (e, S')) : resX c ws S = some (.inr e, S') := by unfold resX; rw [h, g]; rfl
@[simp] theorem x_raise (n : Str) (fs : List Str) (l : CL) : raiseS n fs l ρ S = (l ρ S).bind fun p => (allD p.1).bind fun xs => if xs.length = fs.length then some (.ex n (fs.zip xs), ρ, p.2) else none := rfl
@[simp] theorem x_try (sub : Str → Str → Option Bool) (b : CS) (hs : List Clz) : tryS sub b hs ρ S = (b ρ S).bind fun p => match p.1 with
  | .ex n as => handle sub n as hs p.2.1 p.2.2
  | f => some (f, p.2.1, p.2.2) := rfl
theorem x_runX (n : Nat) (m : CS) (ws : List W) : runX n m ws S = (m (startR n ws) S).bind fun p => match p.1 with
  | .ex x as => some ((x, as), p.2.2.take S.length)
  | _ => none := rfl
end
/-- a def at an end that hands back plain data and leaves the store -/
theorem run_ret {n : Nat} {m : CS} {ws : List W} {S : Sto} {x : PyData} {ρ : Rho} (h : m (startR n ws) S = some (.rt (.d x), ρ, S)) : runD n m ws S = some (.d x, S) := by
  rw [x_run, h]
  show leave S.length (.d x) S = _
  simp
theorem run_nx {n : Nat} {m : CS} {ws : List W} {S : Sto} {ρ : Rho} (h : m (startR n ws) S = some (.nx, ρ, S)) : runD n m ws S = some (.d .none, S) := by
  rw [x_run, h]
  show leave S.length (.d .none) S = _
  simp
@[simp] theorem start1 (n : Nat) (a : W) : startR (n + 1) [a] = some a :: List.replicate n none := by simp [startR]
@[simp] theorem start2 (n : Nat) (a b : W) : startR (n + 2) [a, b] = some a :: some b :: List.replicate n none := by simp [startR]
@[simp] theorem start3 (n : Nat) (a b c : W) : startR (n + 3) [a, b, c] = some a :: some b :: some c :: List.replicate n none := by simp [startR]
@[simp] theorem at0 {α : Type} (x : α) (r : List α) : atI (x :: r) 0 = some x := atI_nat (j := 0) rfl
@[simp] theorem at1 {α : Type} (x y : α) (r : List α) : atI (x :: y :: r) 1 = some y := atI_nat (j := 1) rfl
@[simp] theorem at2 {α : Type} (x y z : α) (r : List α) : atI (x :: y :: z :: r) 2 = some z := atI_nat (j := 2) rfl

@[simp] theorem lim_eq : lim = 100000 := rfl
/-! ### sizes -/
def Lt2 (n : Nat) (i : Int) : Prop := i.natAbs < 2 ^ n
theorem Lt2.mono {n m : Nat} {i : Int} (h : Lt2 n i) (l : n ≤ m) : Lt2 m i := Nat.lt_of_lt_of_le h (Nat.pow_le_pow_right (by decide) l)
theorem Lt2.mul {n m : Nat} {i j : Int} (h : Lt2 n i) (g : Lt2 m j) : Lt2 (n + m) (i * j) := wide_lt h g
theorem Lt2.add {n m : Nat} {i j : Int} (h : Lt2 n i) (g : Lt2 m j) : Lt2 (max n m + 1) (i + j) := by
  have h' := h.mono (Nat.le_max_left n m)
  have g' := g.mono (Nat.le_max_right n m)
  unfold Lt2 at h' g' ⊢
  rw [Nat.pow_succ]
  have := Int.natAbs_add_le i j
  omega
theorem Lt2.neg {n : Nat} {i : Int} (h : Lt2 n i) : Lt2 n (-i) := by unfold Lt2 at *; rw [Int.natAbs_neg]; exact h
theorem Lt2.sub {n m : Nat} {i j : Int} (h : Lt2 n i) (g : Lt2 m j) : Lt2 (max n m + 1) (i - j) := by rw [Int.sub_eq_add_neg]; exact h.add g.neg
theorem Lt2.log {n : Nat} {i : Int} (h : Lt2 n i) : i.natAbs.log2 ≤ n := by
  cases n with
  | zero =>
    have : i.natAbs = 0 := by unfold Lt2 at h; omega
    rw [this]; simp
  | succ n => exact Nat.le_of_lt (PySem.Flt.log2_lt_of (Nat.succ_pos n) h)
theorem mulOk_of {n m : Nat} {i j : Int} (h : Lt2 n i) (g : Lt2 m j) (l : n + m < 1000000 := by omega) : mulOk i j = true := by
  unfold mulOk
  have := h.log
  have := g.log
  exact decide_eq_true (by omega)
theorem divOk_of {n : Nat} {j : Int} (h0 : j ≠ 0) (h : Lt2 n j) (l : n < 9000 := by omega) : divOk j = true := by
  unfold divOk
  have := h.log
  exact decide_eq_true ⟨h0, by omega⟩
theorem Lt2.of {i : Int} (n : Nat) (h : i.natAbs < 2 ^ n) : Lt2 n i := h
/-- a quotient is no greater -/
theorem Lt2.ediv {n : Nat} {i : Int} (h : Lt2 n i) (d : Nat) : Lt2 n (i / (d : Int)) := by
  unfold Lt2 at *
  refine Nat.lt_of_le_of_lt ?_ h
  exact Int.natAbs_ediv_le_natAbs i d

/-! ### fractions -/
def fr (q : Rat) : PyData := .tuple [.int q.num, .int q.den]
/-- the size of a fraction -/
def Sz (n : Nat) (q : Rat) : Prop := Lt2 n q.num ∧ Lt2 n (q.den : Int)
theorem Sz.mono {n m : Nat} {q : Rat} (h : Sz n q) (l : n ≤ m) : Sz m q := ⟨h.1.mono l, h.2.mono l⟩
theorem sz_divInt {n : Nat} {a b : Int} (h0 : b ≠ 0) (ha : Lt2 n a) (hb : Lt2 n b) : Sz n (Rat.divInt a b) := by
  refine ⟨?_, ?_⟩
  · rw [Rat.num_divInt]
    refine Lt2.ediv ?_ _
    unfold Lt2 at *
    rw [Int.natAbs_mul]
    have : b.sign.natAbs = 1 := by
      rcases Int.lt_trichotomy b 0 with h | h | h
      · rw [Int.sign_eq_neg_one_of_neg h]; rfl
      · exact absurd h h0
      · rw [Int.sign_eq_one_of_pos h]; rfl
    rw [this, Nat.one_mul]; exact ha
  · rw [Rat.den_divInt, if_neg h0]
    unfold Lt2 at *
    rw [Int.natAbs_natCast]
    exact Nat.lt_of_le_of_lt (Nat.div_le_self _ _) hb
end PD
namespace PD
open PySem PySem.Spec PyProof.Rows L2
@[simp] def isIntD : PyData → Bool
  | .none => false
  | .bool _ => false
  | .int _ => true
  | .str _ => false
  | .list _ => false
  | .tuple _ => false
  | .dict _ => false
theorem kii : kitB "int" "int" = some true := by decide +kernel
theorem kib : kitB "int" "bool" = some false := by decide +kernel
theorem kbi : kitB "bool" "int" = some true := by decide +kernel
theorem kbb : kitB "bool" "bool" = some true := by decide +kernel
theorem ksi : kitB "str" "int" = some false := by decide +kernel
theorem kni : kitB "NoneType" "int" = some false := by decide +kernel
theorem kti : kitB "tuple" "int" = some false := by decide +kernel
theorem kli : kitB "list" "int" = some false := by decide +kernel
theorem kit : kitB "int" "tuple" = some false := by decide +kernel
theorem kbt : kitB "bool" "tuple" = some false := by decide +kernel
theorem kst : kitB "str" "tuple" = some false := by decide +kernel
theorem knt : kitB "NoneType" "tuple" = some false := by decide +kernel
theorem ktt : kitB "tuple" "tuple" = some true := by decide +kernel
theorem klt : kitB "list" "tuple" = some false := by decide +kernel
@[simp] def isTupD : PyData → Bool
  | .none => false
  | .bool _ => false
  | .int _ => false
  | .str _ => false
  | .list _ => false
  | .tuple _ => true
  | .dict _ => false
@[simp] def isBoolD : PyData → Bool
  | .none => false
  | .bool _ => true
  | .int _ => false
  | .str _ => false
  | .list _ => false
  | .tuple _ => false
  | .dict _ => false
@[simp] def isDictD : PyData → Bool
  | .none => false
  | .bool _ => false
  | .int _ => false
  | .str _ => false
  | .list _ => false
  | .tuple _ => false
  | .dict _ => true
section
variable {ρ : Rho} {S : Sto} {a : CE} {S' : Sto} {x : PyData}
@[simp] theorem x_isi (T : String) : isiE T a ρ S = (a ρ S).bind fun p => (rd p.2 p.1).bind fun _ => isiF T p.1 p.2 := rfl
@[simp] theorem isi_int_none  : isiF "int" (.d .none) S = some (.d (.bool false), S) := by simp [isiF, tyOf, kni]
@[simp] theorem isi_int_bool (b : Bool) : isiF "int" (.d (.bool b)) S = some (.d (.bool true), S) := by simp [isiF, tyOf, kbi]
@[simp] theorem isi_int_int (i : Int) : isiF "int" (.d (.int i)) S = some (.d (.bool true), S) := by simp [isiF, tyOf, kii]
@[simp] theorem isi_int_str (z : Str) : isiF "int" (.d (.str z)) S = some (.d (.bool false), S) := by simp [isiF, tyOf, ksi]
@[simp] theorem isi_int_list (xs : List PyData) : isiF "int" (.d (.list xs)) S = some (.d (.bool false), S) := by simp [isiF, tyOf, kli]
@[simp] theorem isi_int_tuple (xs : List PyData) : isiF "int" (.d (.tuple xs)) S = some (.d (.bool false), S) := by simp [isiF, tyOf, kti]
@[simp] theorem isi_tuple_none  : isiF "tuple" (.d .none) S = some (.d (.bool false), S) := by simp [isiF, tyOf, knt]
@[simp] theorem isi_tuple_bool (b : Bool) : isiF "tuple" (.d (.bool b)) S = some (.d (.bool false), S) := by simp [isiF, tyOf, kbt]
@[simp] theorem isi_tuple_int (i : Int) : isiF "tuple" (.d (.int i)) S = some (.d (.bool false), S) := by simp [isiF, tyOf, kit]
@[simp] theorem isi_tuple_str (z : Str) : isiF "tuple" (.d (.str z)) S = some (.d (.bool false), S) := by simp [isiF, tyOf, kst]
@[simp] theorem isi_tuple_list (xs : List PyData) : isiF "tuple" (.d (.list xs)) S = some (.d (.bool false), S) := by simp [isiF, tyOf, klt]
@[simp] theorem isi_tuple_tuple (xs : List PyData) : isiF "tuple" (.d (.tuple xs)) S = some (.d (.bool true), S) := by simp [isiF, tyOf, ktt]
@[simp] theorem isi_bool_bool (b : Bool) : isiF "bool" (.d (.bool b)) S = some (.d (.bool true), S) := by simp [isiF, tyOf, kbb]
@[simp] theorem isi_bool_int (i : Int) : isiF "bool" (.d (.int i)) S = some (.d (.bool false), S) := by simp [isiF, tyOf, kib]
@[simp] theorem isi_int_dict (kvs : List (PyData × PyData)) : isiF "int" (.d (.dict kvs)) S = some (.d (.bool false), S) := by unfold isiF tyOf; rw [Option.bind_some, show kitB "dict" "int" = some false from by decide +kernel]; rfl
@[simp] theorem isi_tuple_dict (kvs : List (PyData × PyData)) : isiF "tuple" (.d (.dict kvs)) S = some (.d (.bool false), S) := by unfold isiF tyOf; rw [Option.bind_some, show kitB "dict" "tuple" = some false from by decide +kernel]; rfl
@[simp] theorem isi_bool_none  : isiF "bool" (.d (.none)) S = some (.d (.bool false), S) := by unfold isiF tyOf; rw [Option.bind_some, show kitB "NoneType" "bool" = some false from by decide +kernel]; rfl
@[simp] theorem isi_bool_str (z : Str) : isiF "bool" (.d (.str z)) S = some (.d (.bool false), S) := by unfold isiF tyOf; rw [Option.bind_some, show kitB "str" "bool" = some false from by decide +kernel]; rfl
@[simp] theorem isi_bool_list (xs : List PyData) : isiF "bool" (.d (.list xs)) S = some (.d (.bool false), S) := by unfold isiF tyOf; rw [Option.bind_some, show kitB "list" "bool" = some false from by decide +kernel]; rfl
@[simp] theorem isi_bool_tuple (xs : List PyData) : isiF "bool" (.d (.tuple xs)) S = some (.d (.bool false), S) := by unfold isiF tyOf; rw [Option.bind_some, show kitB "tuple" "bool" = some false from by decide +kernel]; rfl
@[simp] theorem isi_bool_dict (kvs : List (PyData × PyData)) : isiF "bool" (.d (.dict kvs)) S = some (.d (.bool false), S) := by unfold isiF tyOf; rw [Option.bind_some, show kitB "dict" "bool" = some false from by decide +kernel]; rfl
@[simp] theorem isi_str_none  : isiF "str" (.d (.none)) S = some (.d (.bool false), S) := by unfold isiF tyOf; rw [Option.bind_some, show kitB "NoneType" "str" = some false from by decide +kernel]; rfl
@[simp] theorem isi_str_bool (b : Bool) : isiF "str" (.d (.bool b)) S = some (.d (.bool false), S) := by unfold isiF tyOf; rw [Option.bind_some, show kitB "bool" "str" = some false from by decide +kernel]; rfl
@[simp] theorem isi_str_int (i : Int) : isiF "str" (.d (.int i)) S = some (.d (.bool false), S) := by unfold isiF tyOf; rw [Option.bind_some, show kitB "int" "str" = some false from by decide +kernel]; rfl
@[simp] theorem isi_str_str (z : Str) : isiF "str" (.d (.str z)) S = some (.d (.bool true), S) := by unfold isiF tyOf; rw [Option.bind_some, show kitB "str" "str" = some true from by decide +kernel]; rfl
@[simp] theorem isi_str_list (xs : List PyData) : isiF "str" (.d (.list xs)) S = some (.d (.bool false), S) := by unfold isiF tyOf; rw [Option.bind_some, show kitB "list" "str" = some false from by decide +kernel]; rfl
@[simp] theorem isi_str_tuple (xs : List PyData) : isiF "str" (.d (.tuple xs)) S = some (.d (.bool false), S) := by unfold isiF tyOf; rw [Option.bind_some, show kitB "tuple" "str" = some false from by decide +kernel]; rfl
@[simp] theorem isi_str_dict (kvs : List (PyData × PyData)) : isiF "str" (.d (.dict kvs)) S = some (.d (.bool false), S) := by unfold isiF tyOf; rw [Option.bind_some, show kitB "dict" "str" = some false from by decide +kernel]; rfl
@[simp] theorem isi_list_none  : isiF "list" (.d (.none)) S = some (.d (.bool false), S) := by unfold isiF tyOf; rw [Option.bind_some, show kitB "NoneType" "list" = some false from by decide +kernel]; rfl
@[simp] theorem isi_list_bool (b : Bool) : isiF "list" (.d (.bool b)) S = some (.d (.bool false), S) := by unfold isiF tyOf; rw [Option.bind_some, show kitB "bool" "list" = some false from by decide +kernel]; rfl
@[simp] theorem isi_list_int (i : Int) : isiF "list" (.d (.int i)) S = some (.d (.bool false), S) := by unfold isiF tyOf; rw [Option.bind_some, show kitB "int" "list" = some false from by decide +kernel]; rfl
@[simp] theorem isi_list_str (z : Str) : isiF "list" (.d (.str z)) S = some (.d (.bool false), S) := by unfold isiF tyOf; rw [Option.bind_some, show kitB "str" "list" = some false from by decide +kernel]; rfl
@[simp] theorem isi_list_list (xs : List PyData) : isiF "list" (.d (.list xs)) S = some (.d (.bool true), S) := by unfold isiF tyOf; rw [Option.bind_some, show kitB "list" "list" = some true from by decide +kernel]; rfl
@[simp] theorem isi_list_tuple (xs : List PyData) : isiF "list" (.d (.tuple xs)) S = some (.d (.bool false), S) := by unfold isiF tyOf; rw [Option.bind_some, show kitB "tuple" "list" = some false from by decide +kernel]; rfl
@[simp] theorem isi_list_dict (kvs : List (PyData × PyData)) : isiF "list" (.d (.dict kvs)) S = some (.d (.bool false), S) := by unfold isiF tyOf; rw [Option.bind_some, show kitB "dict" "list" = some false from by decide +kernel]; rfl
theorem isi_tuple (x : PyData) : isiF "tuple" (.d x) S = some (.d (.bool (isTupD x)), S) := by cases x <;> simp
end
end PD
namespace PD
open PySem PySem.Spec PyProof.Rows L2
/-! ### comprehensions and loops over mapped lists -/
theorem lcN_map {α : Type} {g : CG} {t : CB} {elt : CE} {ρ : Rho} {S : Sto} (e : α → PyData) (f : α → Rho) (p : α → Bool) (h : α → PyData) : ∀ (l : List α), (∀ x ∈ l, g (.d (e x)) ρ S = some (f x, S)) → (∀ x ∈ l, t (f x) S = some (p x, S)) →
    (∀ x ∈ l, p x = true → elt (f x) S = some (.d (h x), S)) → lcN g t elt ρ (l.map e) S = some ((l.filter p).map h, S)
  | [], _, _, _ => rfl
  | x :: l, hg, ht, he => by
    have ih := lcN_map e f p h l (fun y m => hg y (List.mem_cons_of_mem _ m)) (fun y m => ht y (List.mem_cons_of_mem _ m)) fun y m => he y (List.mem_cons_of_mem _ m)
    rw [List.map_cons, x_lcN, hg x List.mem_cons_self, Option.bind_some, ht x List.mem_cons_self, Option.bind_some, List.filter_cons]
    cases hp : p x with
    | true =>
      simp only [if_true]
      rw [he x List.mem_cons_self hp, Option.bind_some]
      show (lcN g t elt ρ (l.map e) S).bind _ = _
      rw [ih]; rfl
    | false =>
      simp only [Bool.false_eq_true, if_false]
      exact ih
/-- all of them -/
theorem lcN_each {α : Type} {g : CG} {elt : CE} {ρ : Rho} {S : Sto} (e : α → PyData) (f : α → Rho) (h : α → PyData) (l : List α) (hg : ∀ x ∈ l, g (.d (e x)) ρ S = some (f x, S)) (he : ∀ x ∈ l, elt (f x) S = some (.d (h x), S)) :
    lcN g yesB elt ρ (l.map e) S = some (l.map h, S) := by
  rw [lcN_map e f (fun _ => true) h l hg (fun _ _ => rfl) fun x m _ => he x m, List.filter_eq_self.mpr fun _ _ => rfl]
@[simp] theorem x_eqNil : eqP (.list []) (.list []) = some (.bool true) := by unfold eqP; rw [if_pos (by rfl)]; rfl
@[simp] theorem x_neNil : neP (.list []) (.list []) = some (.bool false) := by unfold neP; rw [if_pos (by rfl)]; rfl
@[simp] theorem cut1 (x : PyData) (xs : List PyData) : cutP (x :: xs) (some 1) none = xs := by
  unfold cutP
  rw [show (some (1 : Int)) = some ((1 : Nat) : Int) from rfl, HT.sIx_nat, HT.sIx_none]
  simp
def prs {α : Type} : List α → List (α × α)
  | x :: y :: r => (x, y) :: prs (y :: r)
  | _ => []
theorem zipD_prs {α : Type} (f : α → PyData) : ∀ (l : List α), zipD (l.map f) ((l.map f).drop 1) = (prs l).map fun p => .tuple [f p.1, f p.2]
  | [] => rfl
  | [_] => rfl
  | x :: y :: r => by
    have ih := zipD_prs f (y :: r)
    show PyData.tuple [f x, f y] :: zipD ((y :: r).map f) (r.map f) = _
    rw [show r.map f = ((y :: r).map f).drop 1 from rfl, ih]
    rfl
theorem prs_len {α : Type} : ∀ l : List α, (prs l).length = l.length - 1
  | [] => rfl
  | [_] => rfl
  | x :: y :: r => by
    show (prs (y :: r)).length + 1 = _
    rw [prs_len (y :: r)]
    simp
theorem prs_mem {α : Type} : ∀ {l : List α} {p : α × α}, p ∈ prs l → p.1 ∈ l ∧ p.2 ∈ l
  | [], _, h => by cases h
  | [_], _, h => by cases h
  | x :: y :: r, p, h => by
    rcases List.mem_cons.mp h with rfl | h
    · exact ⟨List.mem_cons_self, List.mem_cons_of_mem _ List.mem_cons_self⟩
    · have := prs_mem h
      exact ⟨List.mem_cons_of_mem _ this.1, List.mem_cons_of_mem _ this.2⟩
theorem drop1_cut (xs : List PyData) (h : xs ≠ []) : cutP xs (some 1) none = xs.drop 1 := by
  cases xs with
  | nil => exact absurd rfl h
  | cons x r => rw [cut1]; rfl
theorem lcN_none {α : Type} {g : CG} {t : CB} {elt : CE} {ρ : Rho} {S : Sto} (e : α → PyData) (f : α → Rho) (l : List α) (hg : ∀ x ∈ l, g (.d (e x)) ρ S = some (f x, S)) (ht : ∀ x ∈ l, t (f x) S = some (false, S)) :
    lcN g t elt ρ (l.map e) S = some ([], S) := by
  rw [lcN_map e f (fun _ => false) (fun _ => PyData.none) l hg ht (fun x m h => absurd h (by simp))]
  have : l.filter (fun _ => false) = [] := List.filter_eq_nil_iff.mpr fun _ _ => by simp
  rw [this]; rfl
theorem at_last {α : Type} (xs : List α) (x : α) : atI (xs ++ [x]) (-1) = some x := by
  unfold atI ixN
  rw [if_neg (by omega), if_pos (by simp; omega)]
  simp
  rw [show ((-1 : Int) + ((xs.length : Int) + 1)).toNat = xs.length by omega]
  simp
theorem cut_mid (xs : List PyData) (h : 2 ≤ xs.length) : cutP xs (some 1) (some (-1)) = xs.tail.dropLast := by
  unfold cutP HT.sIx
  simp
  cases xs with
  | nil => simp at h
  | cons x r =>
    simp [List.dropLast_eq_take] at h ⊢
    congr 1
    omega
theorem cut_to (xs : List PyData) (k : Nat) : cutP xs none (some (k : Int)) = xs.take k := by
  unfold cutP
  rw [HT.sIx_nat, HT.sIx_none]
  simp
theorem cut_of (xs : List PyData) (k : Nat) : cutP xs (some (k : Int)) none = xs.drop k := by
  unfold cutP
  rw [HT.sIx_nat, HT.sIx_none]
  rw [List.take_of_length_le (by simp)]
  by_cases h : k ≤ xs.length
  · rw [Nat.min_eq_left h]
  · rw [Nat.min_eq_right (by omega), List.drop_length, List.drop_eq_nil_of_le (by omega)]
/-- one round of a loop: what it leads to -/
inductive Step {β : Type} (R : β → Rho) (V : β → Sto) (J : β → Prop) (out : Fl → Rho → Sto → Prop) : Option (Fl × Rho × Sto) → Prop where
  | nx (s' : β) (h : J s') : Step R V J out (some (.nx, R s', V s'))
  | ct (s' : β) (h : J s') : Step R V J out (some (.ct, R s', V s'))
  | bk {ρ : Rho} {S : Sto} (h : out .nx ρ S) : Step R V J out (some (.bk, ρ, S))
  | rt {w : W} {ρ : Rho} {S : Sto} (h : out (.rt w) ρ S) : Step R V J out (some (.rt w, ρ, S))
  | ex {n : Str} {as : List (Str × PyData)} {ρ : Rho} {S : Sto} (h : out (.ex n as) ρ S) : Step R V J out (some (.ex n as, ρ, S))
theorem Step.nx' {β : Type} {R : β → Rho} {V : β → Sto} {J : β → Prop} {out : Fl → Rho → Sto → Prop} {o : Option (Fl × Rho × Sto)} (s' : β) (h : J s') (e : o = some (.nx, R s', V s')) : Step R V J out o := e ▸ .nx s' h
theorem Step.rt' {β : Type} {R : β → Rho} {V : β → Sto} {J : β → Prop} {out : Fl → Rho → Sto → Prop} {o : Option (Fl × Rho × Sto)} {w : W} {ρ : Rho} {S : Sto} (h : out (.rt w) ρ S) (e : o = some (.rt w, ρ, S)) : Step R V J out o := e ▸ .rt h
theorem Step.bk' {β : Type} {R : β → Rho} {V : β → Sto} {J : β → Prop} {out : Fl → Rho → Sto → Prop} {o : Option (Fl × Rho × Sto)} {ρ : Rho} {S : Sto} (h : out .nx ρ S) (e : o = some (.bk, ρ, S)) : Step R V J out o := e ▸ .bk h
/-- a loop over a mapped list: an invariant I of what is still to go and of the state, and what it may end in -/
theorem forN_loop {α β : Type} {g : CG} {b : CS} (e : α → PyData) (R : β → Rho) (V : β → Sto) (I : List α → β → Prop) (out : Fl → Rho → Sto → Prop)
    (h0 : ∀ s, I [] s → out .nx (R s) (V s))
    (h1 : ∀ x l s, I (x :: l) s → Step R V (I l) out ((g (.d (e x)) (R s) (V s)).bind fun p => b p.1 p.2)) : ∀ (l : List α) (s : β), I l s → ∃ fl ρ S, forN g b (l.map e) (R s) (V s) = some (fl, ρ, S) ∧ out fl ρ S
  | [], s, h => ⟨_, _, _, rfl, h0 s h⟩
  | x :: l, s, h => by
    have st := h1 x l s h
    rw [List.map_cons, x_forN]
    generalize hg : g (.d (e x)) (R s) (V s) = gg at st
    cases gg with
    | none => cases st
    | some p =>
      rw [Option.bind_some] at st ⊢
      generalize b p.1 p.2 = o at st
      cases st with
      | nx s' h3 => exact forN_loop e R V I out h0 h1 l s' h3
      | ct s' h3 => exact forN_loop e R V I out h0 h1 l s' h3
      | bk h2 => exact ⟨_, _, _, rfl, h2⟩
      | rt h2 => exact ⟨_, _, _, rfl, h2⟩
      | ex h2 => exact ⟨_, _, _, rfl, h2⟩
theorem forN_bind {α β γ : Type} {g : CG} {b : CS} {ρ0 : Rho} {S0 : Sto} {K : Fl × Rho × Sto → Option γ} (P : Option γ → Prop) (e : α → PyData) (R : β → Rho) (V : β → Sto) (I : List α → β → Prop) (out : Fl → Rho → Sto → Prop)
    (l : List α) (s : β) (hI : I l s) (hρ : ρ0 = R s) (hS : S0 = V s)
    (h0 : ∀ s, I [] s → out .nx (R s) (V s))
    (h1 : ∀ x l s, I (x :: l) s → Step R V (I l) out ((g (.d (e x)) (R s) (V s)).bind fun p => b p.1 p.2))
    (hK : ∀ fl ρ S, out fl ρ S → P (K (fl, ρ, S))) : P ((forN g b (l.map e) ρ0 S0).bind K) := by
  subst hρ hS
  obtain ⟨fl, ρ, S, h, o⟩ := forN_loop (g := g) (b := b) e R V I out h0 h1 l s hI
  rw [h, Option.bind_some]
  exact hK _ _ _ o
end PD

/-! PD, part 10: while loops, tests of values, ranges. -/
namespace PD
open PySem PySem.Spec PyProof.Rows L2
theorem whileN_loop {β : Type} {t : CB} {b : CS} (R : β → Rho) (V : β → Sto) (I : Nat → β → Prop) (out : Fl → Rho → Sto → Prop) (h0 : ∀ s, ¬ I 0 s)
    (h1 : ∀ n s, I (n + 1) s → (t (R s) (V s) = some (false, V s) ∧ out .nx (R s) (V s)) ∨ (t (R s) (V s) = some (true, V s) ∧ Step R V (I n) out (b (R s) (V s)))) : ∀ (n : Nat) (s : β), I n s → ∃ fl ρ S, whileN t b n (R s) (V s) = some (fl, ρ, S) ∧ out fl ρ S
  | 0, s, h => absurd h (h0 s)
  | n + 1, s, h => by
    show ∃ fl ρ S, ((t (R s) (V s)).bind _) = _ ∧ _
    rcases h1 n s h with ⟨e, o⟩ | ⟨e, st⟩
    · rw [e]; exact ⟨_, _, _, rfl, o⟩
    · rw [e, Option.bind_some, if_pos rfl]
      generalize b (R s) (V s) = q at st
      cases st with
      | nx s' h3 => exact whileN_loop R V I out h0 h1 n s' h3
      | ct s' h3 => exact whileN_loop R V I out h0 h1 n s' h3
      | bk h2 => exact ⟨_, _, _, rfl, h2⟩
      | rt h2 => exact ⟨_, _, _, rfl, h2⟩
      | ex h2 => exact ⟨_, _, _, rfl, h2⟩
theorem whileS_bind {β γ : Type} {t : CB} {b : CS} {ρ0 : Rho} {S0 : Sto} {K : Fl × Rho × Sto → Option γ} (P : Option γ → Prop) (R : β → Rho) (V : β → Sto) (I : Nat → β → Prop) (out : Fl → Rho → Sto → Prop)
    (s : β) (hI : I fuel s) (hρ : ρ0 = R s) (hS : S0 = V s) (h0 : ∀ s, ¬ I 0 s)
    (h1 : ∀ n s, I (n + 1) s → (t (R s) (V s) = some (false, V s) ∧ out .nx (R s) (V s)) ∨ (t (R s) (V s) = some (true, V s) ∧ Step R V (I n) out (b (R s) (V s))))
    (hK : ∀ fl ρ S, out fl ρ S → P (K (fl, ρ, S))) : P ((whileS t b ρ0 S0).bind K) := by
  subst hρ hS
  obtain ⟨fl, ρ, S, h, o⟩ := whileN_loop (t := t) (b := b) R V I out h0 h1 fuel s hI
  unfold whileS
  rw [h, Option.bind_some]
  exact hK _ _ _ o
theorem canLay_frs : ∀ l : List Rat, PyData.canLayAll0 (l.map fr) = true
  | [] => rfl
  | q :: l => by
    have := canLay_frs l
    simp [PyData.canLayAll0, fr, PyData.canLay0, this]
theorem neP_frs (l : List Rat) : neP (.list (l.map fr)) (.list []) = some (.bool (!l.isEmpty)) := by
  unfold neP eqOk
  rw [if_pos (by simp [PyData.canLay0, canLay_frs, PyData.depth, PyData.canLayAll0, PyData.depthAll])]
  cases l with
  | nil => rfl
  | cons q l => simp [PyData.eqv, PyData.eqvAll]
theorem eqP_fr (q : Rat) : eqP (fr q) (fr q) = some (.bool true) := by
  unfold eqP eqOk
  rw [if_pos (by simp [fr, PyData.canLay0, PyData.canLayAll0, PyData.depth, PyData.depthAll])]
  simp [fr, PyData.eqv, PyData.eqvAll]
theorem reprP_bool (b : Bool) : ∃ z, reprP [.bool b] = some (.str z) ∧ neP (.str z) (.str z) = some (.bool false) := by
  refine ⟨(PyData.bool b).shown, ?_, ?_⟩
  · show (if _ then _ else _) = _
    rw [if_pos (by cases b <;> decide +kernel)]
  · unfold neP eqOk
    rw [if_pos (by cases b <;> decide +kernel)]
    simp [PyData.eqv]
theorem eqP_bool (a b : Bool) : eqP (.bool a) (.bool b) = some (.bool (a == b)) := by
  unfold eqP eqOk
  rw [if_pos (by simp [PyData.canLay0, PyData.depth])]
  simp [PyData.eqv]
/-- numbers from nought up, beside a list -/
theorem range_zip {α : Type} (l : List α) : rangeD 0 l.length = l.zipIdx.map fun t => PyData.int (t.2 : Nat) := by
  unfold rangeD
  apply List.ext_getElem
  · simp
  · intro i h1 h2; simp
theorem x_pow (i j : Int) : powP (.int i) (.int j) = if 0 ≤ j ∧ j ≤ 1000000 ∧ i.natAbs < 2 ^ 64 then some (.int (i ^ j.toNat)) else none := rfl
@[simp] theorem x_dm (i j : Int) : divmodP [.int i, .int j] = if 0 < j ∧ j < 1073741824 then some (.tuple [.int (i / j), .int (i % j)]) else none := rfl
@[simp] theorem x_append (a e : CE) (ρ : Rho) (S : Sto) : appendE a e ρ S = (a ρ S).bind fun p => (cellOf p.1).bind fun n => (liveAt p.2 n).bind fun _ => (e ρ p.2).bind fun q => (asD q.1).bind fun x => (liveAt q.2 n).bind fun xs =>
  if xs.length < lim then some (.d .none, q.2.set n (some (xs ++ [x]))) else none := rfl
@[simp] theorem x_brk (ρ : Rho) (S : Sto) : brkS ρ S = some (.bk, ρ, S) := rfl
@[simp] theorem x_cnt (ρ : Rho) (S : Sto) : cntS ρ S = some (.ct, ρ, S) := rfl
@[simp] theorem x_cellOf (n : Nat) : cellOf (.m n) = some n := rfl
@[simp] theorem x_asD (x : PyData) : asD (.d x) = some x := rfl
@[simp] theorem x_live (S : Sto) (n : Nat) : liveAt S n = match S[n]? with
  | some (some xs) => some xs
  | _ => none := rfl
section
variable {S0 r : Sto} {a b x : Option (List PyData)}
@[simp] theorem st_get0 : (S0 ++ a :: r)[S0.length]? = some a := by simp
@[simp] theorem st_get1 : (S0 ++ a :: b :: r)[S0.length + 1]? = some b := by simp
@[simp] theorem st_set0 : (S0 ++ a :: r).set S0.length x = S0 ++ x :: r := by simp
@[simp] theorem st_set1 : (S0 ++ a :: b :: r).set (S0.length + 1) x = S0 ++ a :: x :: r := by rw [List.set_append_right _ _ (by omega)]; simp
@[simp] theorem st_take : (S0 ++ a :: r).take (S0.length + 1) = S0 ++ [a] := by
  rw [show S0 ++ a :: r = (S0 ++ [a]) ++ r by simp]
  exact List.take_left' (by simp)
@[simp] theorem st_all : (S0 ++ a :: r).take (S0.length + (r.length + 1)) = S0 ++ a :: r := List.take_of_length_le (by simp)
end
end PD

/-! PD, part 11: repr of nested data, told alike. -/
namespace PD
open PySem PySem.Spec PyProof.Rows L2
open PySem.PyData (strOk)
theorem len_append (a b : Str) : (a ++ b).length = a.length + b.length := by
  show (Str.append a b).cps.size = _
  unfold Str.append Str.length; simp
theorem ok_append (a b : Str) : strOk (a ++ b) = (strOk a && strOk b) := by
  show strOk (Str.append a b) = _
  unfold Str.append PyData.strOk; simp [Array.all_append]
theorem len_ofString (s : String) : (Str.ofString s).length = s.toList.length := by
  rw [Str.ofString_eq_toList]; unfold Str.length; simp
theorem ok_ofString (s : String) : strOk (Str.ofString s) = true := by
  rw [Str.ofString_eq_toList]
  unfold PyData.strOk
  simp only [List.all_toArray, List.all_map, List.all_eq_true]
  intro c _
  have := c.valid
  simp only [Function.comp, decide_eq_true_eq]
  rcases this with h | ⟨_, h⟩
  · show c.val.toNat < _
    omega
  · exact h
/-- text of no more than L signs -/
def Tx (L : Nat) (s : Str) : Prop := s.length ≤ L ∧ strOk s = true
theorem Tx.mono {L M : Nat} {s : Str} (h : Tx L s) (l : L ≤ M) : Tx M s := ⟨Nat.le_trans h.1 l, h.2⟩
theorem Tx.app {L M : Nat} {a b : Str} (h : Tx L a) (g : Tx M b) : Tx (L + M) (a ++ b) := ⟨by rw [len_append]; exact Nat.add_le_add h.1 g.1, by rw [ok_append, h.2, g.2]; rfl⟩
theorem tx_str (s : String) {L : Nat} (h : s.toList.length ≤ L) : Tx L (Str.ofString s) := ⟨by rw [len_ofString]; exact h, ok_ofString s⟩
theorem tx_int {n : Nat} {i : Int} (h : Lt2 n i) : Tx (n + 2) (PyData.int i).shown := by
  have e : (PyData.int i).shown = Str.ofString (toString i) := by simp [PyData.shown]
  rw [e]
  refine tx_str _ ?_
  have key : ∀ m : Nat, m < 2 ^ n → (Nat.toDigits 10 m).length ≤ n + 1 := fun m hm => by
    rw [Nat.length_toDigits_le_iff (by decide) (by omega)]
    refine Nat.lt_of_lt_of_le hm ?_
    exact Nat.le_trans (Nat.pow_le_pow_left (by decide) n) (Nat.pow_le_pow_right (by decide) (by omega))
  unfold Lt2 at h
  cases i with
  | ofNat m =>
    have h2 := key m h
    have e2 : (toString (Int.ofNat m)).toList = Nat.toDigits 10 m := by
      show (Nat.repr m).toList = _
      simp [Nat.repr]
    rw [e2]; omega
  | negSucc m =>
    have h2 := key (m + 1) h
    have e2 : (toString (Int.negSucc m)).toList = '-' :: Nat.toDigits 10 (m + 1) := by
      show ("-" ++ Nat.repr (m + 1)).toList = _
      simp [Nat.repr]
    rw [e2]; simp; omega
theorem tx_text {L : Nat} : ∀ (ts : List Str) (k M : Nat) (acc : Str), (∀ t ∈ ts, Tx L t) → Tx M acc → Tx (M + ts.length * (L + 2)) (textFrom k acc ts)
  | [], k, M, acc, _, h => by unfold textFrom; exact h.mono (by simp)
  | t :: ts, k, M, acc, ht, h => by
    unfold textFrom
    have h1 : Tx 2 (Str.ofString (if k > 0 then ", " else "" : String)) := by
      split
      · exact tx_str _ (by decide)
      · exact tx_str _ (by decide)
    refine (tx_text ts (k + 1) (M + 2 + L) _ (fun u m => ht u (List.mem_cons_of_mem _ m)) ((h.app h1).app (ht t List.mem_cons_self))).mono ?_
    simp only [List.length_cons, Nat.add_mul]
    omega
theorem tx_list {L : Nat} (ts : List Str) (h : ∀ t ∈ ts, Tx L t) : Tx (ts.length * (L + 2) + 2) (listText ts) := by
  unfold listText
  refine ((tx_text ts 0 1 _ h (tx_str _ (by decide))).app (tx_str (L := 1) _ (by decide))).mono (by omega)
theorem tx_join {L : Nat} {sep : Str} (hs : Tx 2 sep) : ∀ (ts : List Str), (∀ t ∈ ts, Tx L t) → Tx (ts.length * (L + 2)) (sep.join ts)
  | [], _ => by unfold Str.join; exact ⟨by simp [Str.empty, Str.length], by decide +kernel⟩
  | [t], h => by unfold Str.join; exact (h t List.mem_cons_self).mono (by simp)
  | t :: u :: ts, h => by
    unfold Str.join
    refine (((h t List.mem_cons_self).app hs).app (tx_join hs (u :: ts) fun v m => h v (List.mem_cons_of_mem _ m))).mono ?_
    simp only [List.length_cons, Nat.add_mul]; omega
theorem tx_tuple {L : Nat} (ts : List Str) (h : ∀ t ∈ ts, Tx L t) : Tx (ts.length * (L + 2) + 3) (tupleText ts) := by
  unfold tupleText
  have h2 : Tx 2 (Str.ofString (if (ts.length == 1) = true then ",)" else ")")) := by
    split
    · exact tx_str _ (by decide)
    · exact tx_str _ (by decide)
  refine (((tx_str (L := 1) "(" (by decide)).app (tx_join (tx_str _ (by decide)) ts h)).app h2).mono (by omega)
/-- data that repr tells: depth and length -/
structure Shw (D L : Nat) (x : PyData) : Prop where
  sh : x.showable = true
  nd : x = x
  dp : x.depth ≤ D
  tx : Tx L x.shown
theorem Shw.mono {D L D' L' : Nat} {x : PyData} (h : Shw D L x) (d : D ≤ D') (l : L ≤ L') : Shw D' L' x := ⟨h.sh, h.nd, Nat.le_trans h.dp d, h.tx.mono l⟩
theorem shw_int {n : Nat} {i : Int} (h : Lt2 n i) (hn : n < 1920) : Shw 0 (n + 2) (.int i) :=
  ⟨by unfold PyData.showable; exact decide_eq_true (Nat.lt_of_le_of_lt h.log hn), rfl, by simp [PyData.depth], tx_int h⟩
theorem shw_bool (b : Bool) : Shw 0 5 (.bool b) := ⟨rfl, rfl, by simp [PyData.depth], by cases b <;> exact tx_str _ (by decide)⟩
theorem shw_none : Shw 0 4 .none := ⟨rfl, rfl, by simp [PyData.depth], tx_str _ (by decide)⟩
theorem shownAll_eq : ∀ xs : List PyData, PyData.shownAll xs = xs.map PyData.shown
  | [] => rfl
  | x :: xs => by simp [PyData.shownAll, shownAll_eq xs]
theorem showableAll_of : ∀ {xs : List PyData}, (∀ x ∈ xs, x.showable = true) → PyData.showableAll xs = true
  | [], _ => rfl
  | x :: xs, h => by simp [PyData.showableAll, h x List.mem_cons_self, showableAll_of fun y m => h y (List.mem_cons_of_mem _ m)]
theorem hasDictAll_of : ∀ {xs : List PyData}, (∀ x ∈ xs, x.hasDict = false) → PyData.hasDictAll xs = false
  | [], _ => rfl
  | x :: xs, h => by simp [PyData.hasDictAll, h x List.mem_cons_self, hasDictAll_of fun y m => h y (List.mem_cons_of_mem _ m)]
theorem depthAll_of {D : Nat} : ∀ {xs : List PyData}, (∀ x ∈ xs, x.depth ≤ D) → PyData.depthAll xs ≤ D
  | [], _ => by simp [PyData.depthAll]
  | x :: xs, h => by
    have h1 := h x List.mem_cons_self
    have h2 := depthAll_of fun y m => h y (List.mem_cons_of_mem _ m)
    simp only [PyData.depthAll]; omega
theorem shw_list {D L : Nat} {xs : List PyData} (h : ∀ x ∈ xs, Shw D L x) : Shw (D + 1) (xs.length * (L + 2) + 2) (.list xs) :=
  ⟨by unfold PyData.showable; exact showableAll_of fun x m => (h x m).sh, rfl,
    by have := depthAll_of fun x m => (h x m).dp; simp only [PyData.depth]; omega, by
    unfold PyData.shown
    rw [shownAll_eq]
    refine (tx_list (L := L) (xs.map PyData.shown) fun t m => ?_).mono (by simp)
    obtain ⟨x, mx, rfl⟩ := List.mem_map.mp m
    exact (h x mx).tx⟩
theorem shw_tuple {D L : Nat} {xs : List PyData} (h : ∀ x ∈ xs, Shw D L x) : Shw (D + 1) (xs.length * (L + 2) + 3) (.tuple xs) :=
  ⟨by unfold PyData.showable; exact showableAll_of fun x m => (h x m).sh, rfl,
    by have := depthAll_of fun x m => (h x m).dp; simp only [PyData.depth]; omega, by
    unfold PyData.shown
    rw [shownAll_eq]
    refine (tx_tuple (L := L) (xs.map PyData.shown) fun t m => ?_).mono (by simp)
    obtain ⟨x, mx, rfl⟩ := List.mem_map.mp m
    exact (h x mx).tx⟩
theorem shw_fr {n : Nat} {q : Rat} (h : Sz n q) (hn : n < 1920) : Shw 1 (2 * n + 11) (fr q) := by
  refine (shw_tuple (D := 0) (L := n + 2) (xs := [.int q.num, .int q.den]) fun x m => ?_).mono (by omega) (by simp; omega)
  simp at m
  rcases m with rfl | rfl
  · exact shw_int h.1 hn
  · exact shw_int h.2 hn
/-- repr of the same thing twice -/
theorem repr_ok {x : PyData} {D L : Nat} (h : Shw D L x) (hd : D ≤ 64) (hl : L ≤ 100000) : reprP [x] = some (.str x.shown) := by
  show (if _ then _ else _) = _
  rw [if_pos ⟨h.sh, Nat.le_trans h.dp hd, Nat.le_trans h.tx.1 hl⟩]
theorem neP_str {D L : Nat} {x : PyData} (h : Shw D L x) : neP (.str x.shown) (.str x.shown) = some (.bool false) := by
  unfold neP eqOk
  rw [if_pos (by simp [PyData.canLay0, h.tx.2, PyData.depth])]
  simp [PyData.eqv]
theorem eqP_str {D L : Nat} {x : PyData} (h : Shw D L x) : eqP (.str x.shown) (.str x.shown) = some (.bool true) := by
  unfold eqP eqOk
  rw [if_pos (by simp [PyData.canLay0, h.tx.2, PyData.depth])]
  simp [PyData.eqv]
end PD

namespace Prog
open PySem PySem.Spec PyProof.Rows L2 PD
abbrev G_cls : List (Str × List Str) := []
abbrev G_sub : List (Str × Str × Bool) := []
def topS (i : Nat) : Stmt := PySem.Challenge.pw_roadcrowds_k02_whole_kinds_told_of_anyth.main.body.getD i (.Pass ⟨0, 0, 0, 0⟩)
abbrev s_is_whole : Stmt := topS 2
abbrev p_is_whole : List Str := ["value"]
abbrev a_is_whole : List (Nat × List Str × List Nat) := []
abbrev c_is_whole (r : Runs) : PD.Callee := ⟨p_is_whole, r.ok "is_whole", r.ex "is_whole", a_is_whole⟩
abbrev s_are_wholes : Stmt := topS 3
abbrev p_are_wholes : List Str := ["value", "many"]
abbrev a_are_wholes : List (Nat × List Str × List Nat) := []
abbrev c_are_wholes (r : Runs) : PD.Callee := ⟨p_are_wholes, r.ok "are_wholes", r.ex "are_wholes", a_are_wholes⟩
abbrev s_common_part : Stmt := topS 4
abbrev p_common_part : List Str := ["numbers"]
abbrev a_common_part : List (Nat × List Str × List Nat) := []
abbrev c_common_part (r : Runs) : PD.Callee := ⟨p_common_part, r.ok "common_part", r.ex "common_part", a_common_part⟩
abbrev s_lowest : Stmt := topS 5
abbrev p_lowest : List Str := ["numbers"]
abbrev a_lowest : List (Nat × List Str × List Nat) := []
abbrev c_lowest (r : Runs) : PD.Callee := ⟨p_lowest, r.ok "lowest", r.ex "lowest", a_lowest⟩
abbrev s_lowest_over : Stmt := topS 6
abbrev p_lowest_over : List Str := ["numbers", "below"]
abbrev a_lowest_over : List (Nat × List Str × List Nat) := []
abbrev c_lowest_over (r : Runs) : PD.Callee := ⟨p_lowest_over, r.ok "lowest_over", r.ex "lowest_over", a_lowest_over⟩
abbrev s_ratio : Stmt := topS 7
abbrev p_ratio : List Str := ["top", "below"]
abbrev a_ratio : List (Nat × List Str × List Nat) := []
abbrev c_ratio (r : Runs) : PD.Callee := ⟨p_ratio, r.ok "ratio", r.ex "ratio", a_ratio⟩
abbrev s_minus : Stmt := topS 10
abbrev p_minus : List Str := ["one", "other"]
abbrev a_minus : List (Nat × List Str × List Nat) := []
abbrev c_minus (r : Runs) : PD.Callee := ⟨p_minus, r.ok "minus", r.ex "minus", a_minus⟩
abbrev s_divided : Stmt := topS 11
abbrev p_divided : List Str := ["one", "other"]
abbrev a_divided : List (Nat × List Str × List Nat) := []
abbrev c_divided (r : Runs) : PD.Callee := ⟨p_divided, r.ok "divided", r.ex "divided", a_divided⟩
abbrev s_is_below : Stmt := topS 12
abbrev p_is_below : List Str := ["one", "other"]
abbrev a_is_below : List (Nat × List Str × List Nat) := []
abbrev c_is_below (r : Runs) : PD.Callee := ⟨p_is_below, r.ok "is_below", r.ex "is_below", a_is_below⟩
abbrev s_is_fraction : Stmt := topS 14
abbrev p_is_fraction : List Str := ["value"]
abbrev a_is_fraction : List (Nat × List Str × List Nat) := []
abbrev c_is_fraction (r : Runs) : PD.Callee := ⟨p_is_fraction, r.ok "is_fraction", r.ex "is_fraction", a_is_fraction⟩
abbrev s_are_fractions : Stmt := topS 15
abbrev p_are_fractions : List Str := ["value", "many"]
abbrev a_are_fractions : List (Nat × List Str × List Nat) := []
abbrev c_are_fractions (r : Runs) : PD.Callee := ⟨p_are_fractions, r.ok "are_fractions", r.ex "are_fractions", a_are_fractions⟩
abbrev s_slope_of : Stmt := topS 19
abbrev p_slope_of : List Str := ["corner", "other"]
abbrev a_slope_of : List (Nat × List Str × List Nat) := []
abbrev c_slope_of (r : Runs) : PD.Callee := ⟨p_slope_of, r.ok "slope_of", r.ex "slope_of", a_slope_of⟩
abbrev s_kind_speeds : Stmt := topS 20
abbrev p_kind_speeds : List Str := ["kind"]
abbrev a_kind_speeds : List (Nat × List Str × List Nat) := []
abbrev c_kind_speeds (r : Runs) : PD.Callee := ⟨p_kind_speeds, r.ok "kind_speeds", r.ex "kind_speeds", a_kind_speeds⟩
abbrev s_is_kind : Stmt := topS 21
abbrev p_is_kind : List Str := ["value"]
abbrev a_is_kind : List (Nat × List Str × List Nat) := [(0, ["value"], [0])]
abbrev c_is_kind (r : Runs) : PD.Callee := ⟨p_is_kind, r.ok "is_kind", r.ex "is_kind", a_is_kind⟩
abbrev s_is_corner : Stmt := topS 22
abbrev p_is_corner : List Str := ["value"]
abbrev a_is_corner : List (Nat × List Str × List Nat) := []
abbrev c_is_corner (r : Runs) : PD.Callee := ⟨p_is_corner, r.ok "is_corner", r.ex "is_corner", a_is_corner⟩
abbrev s_L_spring : Stmt := topS 24
abbrev p_L_spring : List Str := ["script", "turn"]
abbrev a_L_spring : List (Nat × List Str × List Nat) := []
abbrev c_L_spring (r : Runs) : PD.Callee := ⟨p_L_spring, r.ok "_law_spring", r.ex "_law_spring", a_L_spring⟩
abbrev s_L_draw : Stmt := topS 25
abbrev p_L_draw : List Str := ["spring", "many"]
abbrev a_L_draw : List (Nat × List Str × List Nat) := []
abbrev c_L_draw (r : Runs) : PD.Callee := ⟨p_L_draw, r.ok "_law_draw", r.ex "_law_draw", a_L_draw⟩
abbrev s_L_pick : Stmt := topS 26
abbrev p_L_pick : List Str := ["spring", "some"]
abbrev a_L_pick : List (Nat × List Str × List Nat) := []
abbrev c_L_pick (r : Runs) : PD.Callee := ⟨p_L_pick, r.ok "_law_pick", r.ex "_law_pick", a_L_pick⟩
abbrev s_L_shared : Stmt := topS 27
abbrev p_L_shared : List Str := ["one", "two"]
abbrev a_L_shared : List (Nat × List Str × List Nat) := []
abbrev c_L_shared (r : Runs) : PD.Callee := ⟨p_L_shared, r.ok "_law_shared", r.ex "_law_shared", a_L_shared⟩
abbrev s_L_frac : Stmt := topS 28
abbrev p_L_frac : List Str := ["top", "under"]
abbrev a_L_frac : List (Nat × List Str × List Nat) := []
abbrev c_L_frac (r : Runs) : PD.Callee := ⟨p_L_frac, r.ok "_law_frac", r.ex "_law_frac", a_L_frac⟩
abbrev s_L_add : Stmt := topS 29
abbrev p_L_add : List Str := ["x", "y"]
abbrev a_L_add : List (Nat × List Str × List Nat) := []
abbrev c_L_add (r : Runs) : PD.Callee := ⟨p_L_add, r.ok "_law_add", r.ex "_law_add", a_L_add⟩
abbrev s_L_sub : Stmt := topS 30
abbrev p_L_sub : List Str := ["x", "y"]
abbrev a_L_sub : List (Nat × List Str × List Nat) := []
abbrev c_L_sub (r : Runs) : PD.Callee := ⟨p_L_sub, r.ok "_law_sub", r.ex "_law_sub", a_L_sub⟩
abbrev s_L_mul : Stmt := topS 31
abbrev p_L_mul : List Str := ["x", "y"]
abbrev a_L_mul : List (Nat × List Str × List Nat) := []
abbrev c_L_mul (r : Runs) : PD.Callee := ⟨p_L_mul, r.ok "_law_mul", r.ex "_law_mul", a_L_mul⟩
abbrev s_L_div : Stmt := topS 32
abbrev p_L_div : List Str := ["x", "y"]
abbrev a_L_div : List (Nat × List Str × List Nat) := []
abbrev c_L_div (r : Runs) : PD.Callee := ⟨p_L_div, r.ok "_law_div", r.ex "_law_div", a_L_div⟩
abbrev s_L_under : Stmt := topS 33
abbrev p_L_under : List Str := ["x", "y"]
abbrev a_L_under : List (Nat × List Str × List Nat) := []
abbrev c_L_under (r : Runs) : PD.Callee := ⟨p_L_under, r.ok "_law_under", r.ex "_law_under", a_L_under⟩
abbrev s_L_part : Stmt := topS 34
abbrev p_L_part : List Str := ["x", "y", "by"]
abbrev a_L_part : List (Nat × List Str × List Nat) := []
abbrev c_L_part (r : Runs) : PD.Callee := ⟨p_L_part, r.ok "_law_part", r.ex "_law_part", a_L_part⟩
abbrev s_L_is_frac : Stmt := topS 35
abbrev p_L_is_frac : List Str := ["thing"]
abbrev a_L_is_frac : List (Nat × List Str × List Nat) := []
abbrev c_L_is_frac (r : Runs) : PD.Callee := ⟨p_L_is_frac, r.ok "_law_is_frac", r.ex "_law_is_frac", a_L_is_frac⟩
abbrev s_L_odd : Stmt := topS 36
abbrev p_L_odd : List Str := ["spring"]
abbrev a_L_odd : List (Nat × List Str × List Nat) := []
abbrev c_L_odd (r : Runs) : PD.Callee := ⟨p_L_odd, r.ok "_law_odd", r.ex "_law_odd", a_L_odd⟩
abbrev s_L_fraction : Stmt := topS 37
abbrev p_L_fraction : List Str := ["spring"]
abbrev a_L_fraction : List (Nat × List Str × List Nat) := []
abbrev c_L_fraction (r : Runs) : PD.Callee := ⟨p_L_fraction, r.ok "_law_fraction", r.ex "_law_fraction", a_L_fraction⟩
abbrev s_L_small : Stmt := topS 38
abbrev p_L_small : List Str := ["spring"]
abbrev a_L_small : List (Nat × List Str × List Nat) := []
abbrev c_L_small (r : Runs) : PD.Callee := ⟨p_L_small, r.ok "_law_small", r.ex "_law_small", a_L_small⟩
abbrev s_L_road : Stmt := topS 39
abbrev p_L_road : List Str := ["spring"]
abbrev a_L_road : List (Nat × List Str × List Nat) := []
abbrev c_L_road (r : Runs) : PD.Callee := ⟨p_L_road, r.ok "_law_road", r.ex "_law_road", a_L_road⟩
abbrev s_L_long_road : Stmt := topS 40
abbrev p_L_long_road : List Str := ["spring", "many"]
abbrev a_L_long_road : List (Nat × List Str × List Nat) := []
abbrev c_L_long_road (r : Runs) : PD.Callee := ⟨p_L_long_road, r.ok "_law_long_road", r.ex "_law_long_road", a_L_long_road⟩
abbrev s_L_paces : Stmt := topS 41
abbrev p_L_paces : List Str := ["road"]
abbrev a_L_paces : List (Nat × List Str × List Nat) := []
abbrev c_L_paces (r : Runs) : PD.Callee := ⟨p_L_paces, r.ok "_law_paces", r.ex "_law_paces", a_L_paces⟩
abbrev s_L_is_pair : Stmt := topS 42
abbrev p_L_is_pair : List Str := ["thing"]
abbrev a_L_is_pair : List (Nat × List Str × List Nat) := []
abbrev c_L_is_pair (r : Runs) : PD.Callee := ⟨p_L_is_pair, r.ok "_law_is_pair", r.ex "_law_is_pair", a_L_is_pair⟩
abbrev s_L_is_road : Stmt := topS 43
abbrev p_L_is_road : List Str := ["thing"]
abbrev a_L_is_road : List (Nat × List Str × List Nat) := []
abbrev c_L_is_road (r : Runs) : PD.Callee := ⟨p_L_is_road, r.ok "_law_is_road", r.ex "_law_is_road", a_L_is_road⟩
abbrev s_L_changed : Stmt := topS 44
abbrev p_L_changed : List Str := ["spring", "row", "thing"]
abbrev a_L_changed : List (Nat × List Str × List Nat) := []
abbrev c_L_changed (r : Runs) : PD.Callee := ⟨p_L_changed, r.ok "_law_changed", r.ex "_law_changed", a_L_changed⟩
abbrev s_L_near : Stmt := topS 45
abbrev p_L_near : List Str := ["spring", "x"]
abbrev a_L_near : List (Nat × List Str × List Nat) := []
abbrev c_L_near (r : Runs) : PD.Callee := ⟨p_L_near, r.ok "_law_near", r.ex "_law_near", a_L_near⟩
abbrev s_L_bent : Stmt := topS 46
abbrev p_L_bent : List Str := ["spring", "thing", "deep"]
abbrev a_L_bent : List (Nat × List Str × List Nat) := []
abbrev c_L_bent (r : Runs) : PD.Callee := ⟨p_L_bent, r.ok "_law_bent", r.ex "_law_bent", a_L_bent⟩
abbrev s_L_thing : Stmt := topS 47
abbrev p_L_thing : List Str := ["spring"]
abbrev a_L_thing : List (Nat × List Str × List Nat) := []
abbrev c_L_thing (r : Runs) : PD.Callee := ⟨p_L_thing, r.ok "_law_thing", r.ex "_law_thing", a_L_thing⟩
abbrev s_L_flat : Stmt := topS 48
abbrev p_L_flat : List Str := ["spring"]
abbrev a_L_flat : List (Nat × List Str × List Nat) := []
abbrev c_L_flat (r : Runs) : PD.Callee := ⟨p_L_flat, r.ok "_law_flat", r.ex "_law_flat", a_L_flat⟩
abbrev s_L_right : Stmt := topS 49
abbrev p_L_right : List Str := ["spring"]
abbrev a_L_right : List (Nat × List Str × List Nat) := []
abbrev c_L_right (r : Runs) : PD.Callee := ⟨p_L_right, r.ok "_law_right", r.ex "_law_right", a_L_right⟩
abbrev s_law : Stmt := topS 50
abbrev p_law : List Str := ["script"]
abbrev a_law : List (Nat × List Str × List Nat) := []
abbrev c_law (r : Runs) : PD.Callee := ⟨p_law, r.ok "law", r.ex "law", a_law⟩
def b_is_whole (r : Runs) : CS := (seqS (retS false (andE (isiE "int" (varE 0)) (notE (isiE "bool" (varE 0))))) nilS)
abbrev N_is_whole : List Str := ["value"]
abbrev i_is_whole : Info := ⟨N_is_whole, p_is_whole, a_is_whole, false, [], [], false, [], b_is_whole⟩
def b_are_wholes (r : Runs) : CS := (seqS (retS false (andE (isiE "tuple" (varE 0)) (andE (binE (pf2 eqP) (appE (pfN lenP) (consL (varE 0) nilL)) (varE 1)) (binE (pf2 eqP) (lcE [2] false (seqI (frzE (varE 0))) (nameG 2) (notB (valB (appE (callF (c_is_whole r)) (consL (varE 2) nilL)))) (varE 2)) (appE lstF nilL))))) nilS)
abbrev N_are_wholes : List Str := ["value", "many", "each"]
abbrev i_are_wholes : Info := ⟨N_are_wholes, p_are_wholes, a_are_wholes, false, [], [], false, [], b_are_wholes⟩
def b_common_part (r : Runs) : CS := (seqS (asgS (constE (.int 0)) (nameG 1)) (seqS (forS (seqI (frzE (varE 0))) (nameG 2) (seqS (asgS (appE (pfN gcdP) (consL (varE 1) (consL (varE 2) nilL))) (nameG 1)) nilS)) (seqS (retS false (varE 1)) nilS)))
abbrev N_common_part : List Str := ["numbers", "found", "number"]
abbrev i_common_part : Info := ⟨N_common_part, p_common_part, a_common_part, false, [], [], false, [], b_common_part⟩
def b_lowest (r : Runs) : CS := (seqS (asgS (appE (callF (c_common_part r)) (consL (varE 0) nilL)) (nameG 1)) (seqS (retS false (appE (pfN tupleP) (consL (lcE [2] false (seqI (frzE (varE 0))) (nameG 2) yesB (binE (pf2 divP) (varE 2) (varE 1))) nilL))) nilS))
abbrev N_lowest : List Str := ["numbers", "part", "number"]
abbrev i_lowest : Info := ⟨N_lowest, p_lowest, a_lowest, false, [], [], false, [], b_lowest⟩
def b_lowest_over (r : Runs) : CS := (seqS (asgS (ifE (valB (binE (pf2 gtP) (varE 1) (constE (.int 0)))) (constE (.int 1)) (unE (pf1 negP) (constE (.int 1)))) (nameG 2)) (seqS (retS false (appE (callF (c_lowest r)) (consL (binE (pf2 addP) (lcE [3] false (seqI (frzE (varE 0))) (nameG 3) yesB (binE (pf2 mulP) (varE 2) (varE 3))) (appE lstF (consL (binE (pf2 mulP) (varE 2) (varE 1)) nilL))) nilL))) nilS))
abbrev N_lowest_over : List Str := ["numbers", "below", "factor", "number"]
abbrev i_lowest_over : Info := ⟨N_lowest_over, p_lowest_over, a_lowest_over, false, [], [], false, [], b_lowest_over⟩
def b_ratio (r : Runs) : CS := (seqS (retS false (appE (callF (c_lowest_over r)) (consL (appE lstF (consL (frzE (varE 0)) nilL)) (consL (varE 1) nilL)))) nilS)
abbrev N_ratio : List Str := ["top", "below"]
abbrev i_ratio : Info := ⟨N_ratio, p_ratio, a_ratio, false, [], [], false, [], b_ratio⟩
def b_minus (r : Runs) : CS := (seqS (retS false (appE (callF (c_ratio r)) (consL (binE (pf2 subP) (binE (pf2 mulP) (binE (pf2 ixP) (varE 0) (constE (.int 0))) (binE (pf2 ixP) (varE 1) (constE (.int 1)))) (binE (pf2 mulP) (binE (pf2 ixP) (varE 1) (constE (.int 0))) (binE (pf2 ixP) (varE 0) (constE (.int 1))))) (consL (binE (pf2 mulP) (binE (pf2 ixP) (varE 0) (constE (.int 1))) (binE (pf2 ixP) (varE 1) (constE (.int 1)))) nilL)))) nilS)
abbrev N_minus : List Str := ["one", "other"]
abbrev i_minus : Info := ⟨N_minus, p_minus, a_minus, false, [], [], false, [], b_minus⟩
def b_divided (r : Runs) : CS := (seqS (retS false (appE (callF (c_ratio r)) (consL (binE (pf2 mulP) (binE (pf2 ixP) (varE 0) (constE (.int 0))) (binE (pf2 ixP) (varE 1) (constE (.int 1)))) (consL (binE (pf2 mulP) (binE (pf2 ixP) (varE 0) (constE (.int 1))) (binE (pf2 ixP) (varE 1) (constE (.int 0)))) nilL)))) nilS)
abbrev N_divided : List Str := ["one", "other"]
abbrev i_divided : Info := ⟨N_divided, p_divided, a_divided, false, [], [], false, [], b_divided⟩
def b_is_below (r : Runs) : CS := (seqS (retS false (binE (pf2 ltP) (binE (pf2 mulP) (binE (pf2 ixP) (varE 0) (constE (.int 0))) (binE (pf2 ixP) (varE 1) (constE (.int 1)))) (binE (pf2 mulP) (binE (pf2 ixP) (varE 1) (constE (.int 0))) (binE (pf2 ixP) (varE 0) (constE (.int 1)))))) nilS)
abbrev N_is_below : List Str := ["one", "other"]
abbrev i_is_below : Info := ⟨N_is_below, p_is_below, a_is_below, false, [], [], false, [], b_is_below⟩
def b_is_fraction (r : Runs) : CS := (seqS (retS false (andE (appE (callF (c_are_wholes r)) (consL (varE 0) (consL (constE (.int 2)) nilL))) (andE (binE (pf2 gtP) (binE (pf2 ixP) (varE 0) (constE (.int 1))) (constE (.int 0))) (binE (pf2 eqP) (appE (pfN gcdP) (consL (binE (pf2 ixP) (varE 0) (constE (.int 0))) (consL (binE (pf2 ixP) (varE 0) (constE (.int 1))) nilL))) (constE (.int 1)))))) nilS)
abbrev N_is_fraction : List Str := ["value"]
abbrev i_is_fraction : Info := ⟨N_is_fraction, p_is_fraction, a_is_fraction, false, [], [], false, [], b_is_fraction⟩
def b_are_fractions (r : Runs) : CS := (seqS (retS false (andE (isiE "tuple" (varE 0)) (andE (binE (pf2 eqP) (appE (pfN lenP) (consL (varE 0) nilL)) (varE 1)) (binE (pf2 eqP) (lcE [2] false (seqI (frzE (varE 0))) (nameG 2) (notB (valB (appE (callF (c_is_fraction r)) (consL (varE 2) nilL)))) (varE 2)) (appE lstF nilL))))) nilS)
abbrev N_are_fractions : List Str := ["value", "many", "each"]
abbrev i_are_fractions : Info := ⟨N_are_fractions, p_are_fractions, a_are_fractions, false, [], [], false, [], b_are_fractions⟩
def b_slope_of (r : Runs) : CS := (seqS (retS false (appE (callF (c_divided r)) (consL (appE (callF (c_minus r)) (consL (binE (pf2 ixP) (varE 1) (constE (.int 1))) (consL (binE (pf2 ixP) (varE 0) (constE (.int 1))) nilL))) (consL (appE (callF (c_minus r)) (consL (binE (pf2 ixP) (varE 1) (constE (.int 0))) (consL (binE (pf2 ixP) (varE 0) (constE (.int 0))) nilL))) nilL)))) nilS)
abbrev N_slope_of : List Str := ["corner", "other"]
abbrev i_slope_of : Info := ⟨N_slope_of, p_slope_of, a_slope_of, false, [], [], false, [], b_slope_of⟩
def b_kind_speeds (r : Runs) : CS := (seqS (retS false (appE (pfN tupleP) (consL (lcE [1, 2] false (zipI (varE 0) (sliceE (varE 0) (someO (constE (.int 1))) noO)) (tupG 2 (consG (nameG 1) (consG (nameG 2) nilG))) yesB (appE (callF (c_slope_of r)) (consL (varE 1) (consL (varE 2) nilL)))) nilL))) nilS)
abbrev N_kind_speeds : List Str := ["kind", "corner", "other"]
abbrev i_kind_speeds : Info := ⟨N_kind_speeds, p_kind_speeds, a_kind_speeds, false, [], [], false, [], b_kind_speeds⟩
def b_is_kind (r : Runs) : CS := (seqS (ifS (orB (notB (valB (isiE "tuple" (varE 0)))) (notB (valB (chE (pf2 leP) (pf2 leP) (constE (.int 3)) (appE (pfN lenP) (consL (varE 0) nilL)) (constE (.int 12)))))) (seqS (retS false (constE (.bool false))) nilS) nilS) (seqS (ifS (valB (binE (pf2 neP) (lcE [2] false (seqI (frzE (varE 0))) (nameG 2) (notB (valB (appE (callF (c_is_corner r)) (consL (varE 2) nilL)))) (varE 2)) (appE lstF nilL))) (seqS (retS false (constE (.bool false))) nilS) nilS) (seqS (ifS (orB (valB (binE (pf2 neP) (binE (pf2 ixP) (varE 0) (constE (.int 0))) (appE tupF (consL (frzE (constE (.tuple [(.int 0), (.int 1)]))) (consL (frzE (constE (.tuple [(.int 0), (.int 1)]))) nilL))))) (valB (binE (pf2 neP) (binE (pf2 ixP) (binE (pf2 ixP) (varE 0) (unE (pf1 negP) (constE (.int 1)))) (constE (.int 1))) (constE (.tuple [(.int 0), (.int 1)]))))) (seqS (retS false (constE (.bool false))) nilS) nilS) (seqS (ifS (valB (binE (pf2 neP) (lcE [2] false (seqI (sliceE (varE 0) (someO (constE (.int 1))) (someO (unE (pf1 negP) (constE (.int 1)))))) (nameG 2) (valB (binE (pf2 leP) (binE (pf2 ixP) (binE (pf2 ixP) (varE 2) (constE (.int 1))) (constE (.int 0))) (constE (.int 0)))) (varE 2)) (appE lstF nilL))) (seqS (retS false (constE (.bool false))) nilS) nilS) (seqS (ifS (valB (binE (pf2 neP) (lcE [2, 3] false (zipI (varE 0) (sliceE (varE 0) (someO (constE (.int 1))) noO)) (tupG 2 (consG (nameG 2) (consG (nameG 3) nilG))) (notB (valB (appE (callF (c_is_below r)) (consL (binE (pf2 ixP) (varE 2) (constE (.int 0))) (consL (binE (pf2 ixP) (varE 3) (constE (.int 0))) nilL))))) (constE (.int 1))) (appE lstF nilL))) (seqS (retS false (constE (.bool false))) nilS) nilS) (seqS (asgS (appE (callF (c_kind_speeds r)) (consL (varE 0) nilL)) (nameG 1)) (seqS (retS false (binE (pf2 eqP) (lcE [4, 3] false (zipI (varE 1) (sliceE (varE 1) (someO (constE (.int 1))) noO)) (tupG 2 (consG (nameG 4) (consG (nameG 3) nilG))) (notB (valB (appE (callF (c_is_below r)) (consL (varE 3) (consL (varE 4) nilL))))) (constE (.int 1))) (appE lstF nilL))) nilS)))))))
abbrev N_is_kind : List Str := ["value", "speeds", "corner", "other", "speed"]
abbrev i_is_kind : Info := ⟨N_is_kind, p_is_kind, a_is_kind, false, [], [], false, [], b_is_kind⟩
def b_is_corner (r : Runs) : CS := (seqS (retS false (appE (callF (c_are_fractions r)) (consL (varE 0) (consL (constE (.int 2)) nilL)))) nilS)
abbrev N_is_corner : List Str := ["value"]
abbrev i_is_corner : Info := ⟨N_is_corner, p_is_corner, a_is_corner, false, [], [], false, [], b_is_corner⟩
def b_L_spring (r : Runs) : CS := (seqS (asgS (ifE (valB (binE (pf2 ltP) (varE 1) (appE (pfN lenP) (consL (varE 0) nilL)))) (appE (pfN intP) (consL (binE (pf2 ixP) (varE 0) (varE 1)) nilL)) (binE (pf2 addP) (binE (pf2 addP) (binE (pf2 mulP) (constE (.int 5171)) (varE 1)) (constE (.int 367))) (binE (pf2 modP) (appE (pfN intP) (consL (appE (pfN sumP) (consL (sliceE (varE 0) noO (someO (constE (.int 5)))) nilL)) nilL)) (constE (.int 1000033))))) (nameG 2)) (seqS (asgS (binE (pf2 addP) (constE (.int 70657)) (binE (pf2 mulP) (constE (.int 2903)) (varE 1))) (nameG 3)) (seqS (forS (seqI (binE (pf2 addP) (sliceE (varE 0) noO (someO (constE (.int 63)))) (appE lstF (consL (frzE (varE 2)) nilL)))) (nameG 4) (seqS (asgS (binE (pf2 modP) (appE (pfN intP) (consL (binE (pf2 addP) (binE (pf2 addP) (binE (pf2 mulP) (varE 3) (constE (.int 52919))) (binE (pf2 modP) (appE (pfN intP) (consL (varE 4) nilL)) (constE (.int 2147483629)))) (constE (.int 29))) nilL)) (constE (.int 2147483629))) (nameG 3)) nilS)) (seqS (retS true (appE lstM (consL (ifE (orB (valB (binE (pf2 ltP) (varE 2) (constE (.int 0)))) (valB (binE (pf2 geP) (varE 2) (binE (pf2 powP) (constE (.int 10)) (constE (.int 18)))))) (appE (pfN absP) (consL (varE 2) nilL)) (constE (.int 0))) (consL (varE 3) (consL (constE (.int 0)) nilL))))) nilS))))
abbrev N_L_spring : List Str := ["script", "turn", "own", "stirred", "cell"]
abbrev i_L_spring : Info := ⟨N_L_spring, p_L_spring, a_L_spring, true, [⟨61, 11, 61, 70⟩], [], false, [], b_L_spring⟩
def b_L_draw (r : Runs) : CS := (seqS (ifS (valB (binE (pf2 gtP) (binE (pf2 ixP) (varE 0) (constE (.int 0))) (constE (.int 0)))) (seqS (asgS (binE (pf2 modP) (appE (pfN intP) (consL (binE (pf2 ixP) (varE 0) (constE (.int 0))) nilL)) (varE 1)) (nameG 2)) (seqS (asgS (binE (pf2 divP) (appE (pfN intP) (consL (binE (pf2 ixP) (varE 0) (constE (.int 0))) nilL)) (varE 1)) (subG (varE 0) (constE (.int 0)))) (seqS (retS false (varE 2)) nilS))) nilS) (seqS (asgS (binE (pf2 addP) (binE (pf2 ixP) (varE 0) (constE (.int 2))) (constE (.int 1))) (subG (varE 0) (constE (.int 2)))) (seqS (asgS (binE (pf2 modP) (appE (pfN intP) (consL (binE (pf2 addP) (binE (pf2 addP) (binE (pf2 mulP) (binE (pf2 ixP) (varE 0) (constE (.int 1))) (binE (pf2 addP) (constE (.int 31607)) (binE (pf2 mulP) (constE (.int 6)) (binE (pf2 ixP) (varE 0) (constE (.int 2)))))) (binE (pf2 mulP) (constE (.int 90247)) (binE (pf2 ixP) (varE 0) (constE (.int 2))))) (constE (.int 17))) nilL)) (constE (.int 2147483587))) (subG (varE 0) (constE (.int 1)))) (seqS (retS false (binE (pf2 modP) (appE (pfN intP) (consL (binE (pf2 divP) (binE (pf2 ixP) (varE 0) (constE (.int 1))) (constE (.int 71))) nilL)) (varE 1))) nilS))))
abbrev N_L_draw : List Str := ["spring", "many", "digit"]
abbrev i_L_draw : Info := ⟨N_L_draw, p_L_draw, a_L_draw, false, [], [], false, [], b_L_draw⟩
def b_L_pick (r : Runs) : CS := (seqS (retS false (binE (pf2 ixP) (varE 1) (appE (callF (c_L_draw r)) (consL (varE 0) (consL (appE (pfN lenP) (consL (varE 1) nilL)) nilL))))) nilS)
abbrev N_L_pick : List Str := ["spring", "some"]
abbrev i_L_pick : Info := ⟨N_L_pick, p_L_pick, a_L_pick, false, [], [], false, [], b_L_pick⟩
def b_L_shared (r : Runs) : CS := (seqS (parS 2 3 (consL (appE (pfN absP) (consL (varE 0) nilL)) (consL (appE (pfN absP) (consL (varE 1) nilL)) nilL))) (seqS (whileS (valB (binE (pf2 neP) (varE 3) (constE (.int 0)))) (seqS (parS 2 3 (consL (varE 3) (consL (binE (pf2 modP) (appE (pfN intP) (consL (varE 2) nilL)) (varE 3)) nilL))) nilS)) (seqS (retS false (varE 2)) nilS)))
abbrev N_L_shared : List Str := ["one", "two", "big", "small"]
abbrev i_L_shared : Info := ⟨N_L_shared, p_L_shared, a_L_shared, false, [], [], false, [], b_L_shared⟩
def b_L_frac (r : Runs) : CS := (seqS (asgS (appE (callF (c_L_shared r)) (consL (varE 0) (consL (varE 1) nilL))) (nameG 2)) (seqS (asgS (ifE (valB (binE (pf2 gtP) (varE 1) (constE (.int 0)))) (varE 2) (binE (pf2 subP) (constE (.int 0)) (varE 2))) (nameG 2)) (seqS (retS false (appE tupF (consL (binE (pf2 divP) (varE 0) (varE 2)) (consL (binE (pf2 divP) (varE 1) (varE 2)) nilL)))) nilS)))
abbrev N_L_frac : List Str := ["top", "under", "part"]
abbrev i_L_frac : Info := ⟨N_L_frac, p_L_frac, a_L_frac, false, [], [], false, [], b_L_frac⟩
def b_L_add (r : Runs) : CS := (seqS (retS false (appE (callF (c_L_frac r)) (consL (binE (pf2 addP) (binE (pf2 mulP) (binE (pf2 ixP) (varE 0) (constE (.int 0))) (binE (pf2 ixP) (varE 1) (constE (.int 1)))) (binE (pf2 mulP) (binE (pf2 ixP) (varE 1) (constE (.int 0))) (binE (pf2 ixP) (varE 0) (constE (.int 1))))) (consL (binE (pf2 mulP) (binE (pf2 ixP) (varE 0) (constE (.int 1))) (binE (pf2 ixP) (varE 1) (constE (.int 1)))) nilL)))) nilS)
abbrev N_L_add : List Str := ["x", "y"]
abbrev i_L_add : Info := ⟨N_L_add, p_L_add, a_L_add, false, [], [], false, [], b_L_add⟩
def b_L_sub (r : Runs) : CS := (seqS (retS false (appE (callF (c_L_frac r)) (consL (binE (pf2 subP) (binE (pf2 mulP) (binE (pf2 ixP) (varE 0) (constE (.int 0))) (binE (pf2 ixP) (varE 1) (constE (.int 1)))) (binE (pf2 mulP) (binE (pf2 ixP) (varE 1) (constE (.int 0))) (binE (pf2 ixP) (varE 0) (constE (.int 1))))) (consL (binE (pf2 mulP) (binE (pf2 ixP) (varE 0) (constE (.int 1))) (binE (pf2 ixP) (varE 1) (constE (.int 1)))) nilL)))) nilS)
abbrev N_L_sub : List Str := ["x", "y"]
abbrev i_L_sub : Info := ⟨N_L_sub, p_L_sub, a_L_sub, false, [], [], false, [], b_L_sub⟩
def b_L_mul (r : Runs) : CS := (seqS (retS false (appE (callF (c_L_frac r)) (consL (binE (pf2 mulP) (binE (pf2 ixP) (varE 0) (constE (.int 0))) (binE (pf2 ixP) (varE 1) (constE (.int 0)))) (consL (binE (pf2 mulP) (binE (pf2 ixP) (varE 0) (constE (.int 1))) (binE (pf2 ixP) (varE 1) (constE (.int 1)))) nilL)))) nilS)
abbrev N_L_mul : List Str := ["x", "y"]
abbrev i_L_mul : Info := ⟨N_L_mul, p_L_mul, a_L_mul, false, [], [], false, [], b_L_mul⟩
def b_L_div (r : Runs) : CS := (seqS (retS false (appE (callF (c_L_frac r)) (consL (binE (pf2 mulP) (binE (pf2 ixP) (varE 0) (constE (.int 0))) (binE (pf2 ixP) (varE 1) (constE (.int 1)))) (consL (binE (pf2 mulP) (binE (pf2 ixP) (varE 0) (constE (.int 1))) (binE (pf2 ixP) (varE 1) (constE (.int 0)))) nilL)))) nilS)
abbrev N_L_div : List Str := ["x", "y"]
abbrev i_L_div : Info := ⟨N_L_div, p_L_div, a_L_div, false, [], [], false, [], b_L_div⟩
def b_L_under (r : Runs) : CS := (seqS (retS false (binE (pf2 ltP) (binE (pf2 mulP) (binE (pf2 ixP) (varE 0) (constE (.int 0))) (binE (pf2 ixP) (varE 1) (constE (.int 1)))) (binE (pf2 mulP) (binE (pf2 ixP) (varE 1) (constE (.int 0))) (binE (pf2 ixP) (varE 0) (constE (.int 1)))))) nilS)
abbrev N_L_under : List Str := ["x", "y"]
abbrev i_L_under : Info := ⟨N_L_under, p_L_under, a_L_under, false, [], [], false, [], b_L_under⟩
def b_L_part (r : Runs) : CS := (seqS (retS false (appE (callF (c_L_add r)) (consL (varE 0) (consL (appE (callF (c_L_mul r)) (consL (varE 2) (consL (appE (callF (c_L_sub r)) (consL (varE 1) (consL (varE 0) nilL))) nilL))) nilL)))) nilS)
abbrev N_L_part : List Str := ["x", "y", "by"]
abbrev i_L_part : Info := ⟨N_L_part, p_L_part, a_L_part, false, [], [], false, [], b_L_part⟩
def b_L_is_frac (r : Runs) : CS := (seqS (ifS (orB (notB (valB (isiE "tuple" (varE 0)))) (valB (binE (pf2 neP) (appE (pfN lenP) (consL (varE 0) nilL)) (constE (.int 2))))) (seqS (retS false (constE (.bool false))) nilS) nilS) (seqS (asgS (lcE [2] false (seqI (frzE (varE 0))) (nameG 2) (andB (valB (isiE "int" (varE 2))) (notB (valB (isiE "bool" (varE 2))))) (varE 2)) (nameG 1)) (seqS (retS false (andE (binE (pf2 eqP) (appE (pfN lenP) (consL (varE 1) nilL)) (constE (.int 2))) (andE (binE (pf2 gtP) (binE (pf2 ixP) (varE 0) (constE (.int 1))) (constE (.int 0))) (binE (pf2 eqP) (appE (callF (c_L_shared r)) (consL (binE (pf2 ixP) (varE 0) (constE (.int 0))) (consL (binE (pf2 ixP) (varE 0) (constE (.int 1))) nilL))) (constE (.int 1)))))) nilS)))
abbrev N_L_is_frac : List Str := ["thing", "wholes", "each"]
abbrev i_L_is_frac : Info := ⟨N_L_is_frac, p_L_is_frac, a_L_is_frac, false, [], [], false, [], b_L_is_frac⟩
def b_L_odd (r : Runs) : CS := (seqS (asgS (appE lstF (consL (constE .none) (consL (constE (.bool true)) (consL (constE (.bool false)) (consL (constE (.int 0)) (consL (constE (.int 1)) (consL (unE (pf1 negP) (constE (.int 1))) (consL (constE (.int 7)) (consL (binE (pf2 powP) (constE (.int 10)) (constE (.int 30))) (consL (constE (.str "")) (consL (constE (.str "x")) (consL (constE (.str "1/2")) (consL (constE (.dict [])) (consL (constE (.dict [(.str "x", .int 1)])) (consL (appE lstF (consL (constE (.int 0)) (consL (constE (.int 1)) nilL))) (consL (appE lstF (consL (constE (.int 1)) (consL (constE (.int 1)) nilL))) (consL (appE lstF (consL (appE tupF (consL (constE (.int 0)) (consL (constE (.int 1)) nilL))) (consL (appE tupF (consL (constE (.int 1)) (consL (constE (.int 1)) nilL))) nilL))) nilL))))))))))))))))) (nameG 1)) (seqS (asgS (appE lstF (consL (appE tupF (consL (constE (.int 0)) (consL (constE (.int 1)) nilL))) (consL (appE tupF (consL (constE (.int 1)) (consL (constE (.int 1)) nilL))) (consL (appE tupF (consL (unE (pf1 negP) (constE (.int 1))) (consL (constE (.int 1)) nilL))) (consL (appE tupF (consL (constE (.int 2)) (consL (constE (.int 4)) nilL))) (consL (appE tupF (consL (constE (.int 1)) (consL (constE (.int 0)) nilL))) (consL (appE tupF (consL (constE (.int 1)) (consL (unE (pf1 negP) (constE (.int 1))) nilL))) (consL (appE tupF (consL (constE (.int 0)) (consL (constE (.int 2)) nilL))) (consL (appE tupF (consL (constE (.bool true)) (consL (constE (.int 1)) nilL))) (consL (appE tupF (consL (constE (.int 1)) (consL (constE (.bool true)) nilL))) (consL (appE tupF (consL (constE (.int 1)) (consL (constE (.int 2)) (consL (constE (.int 3)) nilL)))) (consL (appE tupF nilL) (consL (appE tupF (consL (constE (.int 1)) nilL)) (consL (appE tupF (consL (constE .none) (consL (constE .none) nilL))) nilL)))))))))))))) (nameG 2)) (seqS (asgS (appE lstF (consL (appE tupF (consL (appE tupF (consL (constE (.int 0)) (consL (constE (.int 1)) nilL))) (consL (appE tupF (consL (constE (.int 1)) (consL (constE (.int 1)) nilL))) nilL))) (consL (appE tupF (consL (appE tupF (consL (appE tupF (consL (constE (.int 0)) (consL (constE (.int 1)) nilL))) (consL (appE tupF (consL (constE (.int 0)) (consL (constE (.int 1)) nilL))) nilL))) nilL)) (consL (appE tupF (consL (appE tupF (consL (constE (.str "a")) (consL (constE (.int 1)) nilL))) (consL (constE (.int 2)) nilL))) (consL (appE tupF (consL (constE (.str "start")) (consL (appE tupF (consL (constE (.int 0)) (consL (constE (.int 1)) nilL))) (consL (appE tupF (consL (constE (.int 0)) (consL (constE (.int 1)) nilL))) nilL)))) (consL (appE tupF (consL (appE tupF (consL (appE tupF (consL (appE tupF (consL (constE (.int 0)) (consL (constE (.int 1)) nilL))) nilL)) nilL)) nilL)) nilL)))))) (nameG 3)) (seqS (retS false (appE (callF (c_L_pick r)) (consL (varE 0) (consL (binE (pf2 addP) (binE (pf2 addP) (varE 1) (varE 2)) (varE 3)) nilL)))) nilS))))
abbrev N_L_odd : List Str := ["spring", "plain", "pairs", "deep"]
abbrev i_L_odd : Info := ⟨N_L_odd, p_L_odd, a_L_odd, false, [], [], false, [], b_L_odd⟩
def b_L_fraction (r : Runs) : CS := (seqS (retS false (appE (callF (c_L_frac r)) (consL (binE (pf2 subP) (appE (callF (c_L_draw r)) (consL (varE 0) (consL (constE (.int 25)) nilL))) (constE (.int 12))) (consL (binE (pf2 addP) (constE (.int 1)) (appE (callF (c_L_draw r)) (consL (varE 0) (consL (appE (callF (c_L_pick r)) (consL (varE 0) (consL (appE lstF (consL (constE (.int 1)) (consL (constE (.int 2)) (consL (constE (.int 5)) nilL)))) nilL))) nilL)))) nilL)))) nilS)
abbrev N_L_fraction : List Str := ["spring"]
abbrev i_L_fraction : Info := ⟨N_L_fraction, p_L_fraction, a_L_fraction, false, [], [], false, [], b_L_fraction⟩
def b_L_small (r : Runs) : CS := (seqS (retS false (appE (callF (c_L_frac r)) (consL (binE (pf2 addP) (constE (.int 1)) (appE (callF (c_L_draw r)) (consL (varE 0) (consL (constE (.int 4)) nilL)))) (consL (binE (pf2 addP) (constE (.int 1)) (appE (callF (c_L_draw r)) (consL (varE 0) (consL (constE (.int 2)) nilL)))) nilL)))) nilS)
abbrev N_L_small : List Str := ["spring"]
abbrev i_L_small : Info := ⟨N_L_small, p_L_small, a_L_small, false, [], [], false, [], b_L_small⟩
def b_L_road_c6 (r : Runs) : CS := (seqS (par3S 8 9 10 (consL (appE lstM (consL (appE tupF (consL (appE tupF (consL (constE (.int 0)) (consL (constE (.int 1)) nilL))) (consL (appE tupF (consL (constE (.int 0)) (consL (constE (.int 1)) nilL))) nilL))) nilL)) (consL (appE tupF (consL (constE (.int 0)) (consL (constE (.int 1)) nilL))) (consL (appE tupF (consL (constE (.int 0)) (consL (constE (.int 1)) nilL))) nilL)))) (seqS (forS (seqI (sliceE (varE 4) noO (someO (unE (pf1 negP) (constE (.int 1)))))) (nameG 5) (seqS (asgS (appE (callF (c_L_frac r)) (consL (binE (pf2 addP) (constE (.int 1)) (appE (callF (c_L_draw r)) (consL (varE 0) (consL (constE (.int 3)) nilL)))) (consL (binE (pf2 addP) (constE (.int 1)) (appE (callF (c_L_draw r)) (consL (varE 0) (consL (constE (.int 2)) nilL)))) nilL))) (nameG 11)) (seqS (ifS (valB (binE (pf2 leP) (binE (pf2 ixP) (appE (callF (c_L_add r)) (consL (varE 10) (consL (appE (callF (c_L_mul r)) (consL (varE 5) (consL (varE 11) nilL))) nilL))) (constE (.int 0))) (constE (.int 0)))) (seqS (asgS (appE (callF (c_L_div r)) (consL (varE 10) (consL (appE (callF (c_L_mul r)) (consL (appE tupF (consL (binE (pf2 subP) (constE (.int 0)) (constE (.int 2))) (consL (constE (.int 1)) nilL))) (consL (varE 5) nilL))) nilL))) (nameG 11)) nilS) nilS) (seqS (parS 9 10 (consL (appE (callF (c_L_add r)) (consL (varE 9) (consL (varE 11) nilL))) (consL (appE (callF (c_L_add r)) (consL (varE 10) (consL (appE (callF (c_L_mul r)) (consL (varE 5) (consL (varE 11) nilL))) nilL))) nilL))) (seqS (exprS (appendE (varE 8) (appE tupF (consL (frzE (varE 9)) (consL (frzE (varE 10)) nilL))))) nilS))))) (seqS (exprS (appendE (varE 8) (appE tupF (consL (appE (callF (c_L_sub r)) (consL (varE 9) (consL (appE (callF (c_L_div r)) (consL (varE 10) (consL (varE 1) nilL))) nilL))) (consL (appE tupF (consL (constE (.int 0)) (consL (constE (.int 1)) nilL))) nilL))))) (seqS (retS false (appE (pfN tupleP) (consL (varE 8) nilL))) nilS))))
def b_L_road (r : Runs) : CS := (seqS (asgS (appE tupF (consL (appE (callF (c_L_pick r)) (consL (varE 0) (consL (appE lstF (consL (constE (.int 2)) (consL (constE (.int 2)) (consL (constE (.int 3)) (consL (constE (.int 3)) (consL (constE (.int 4)) nilL)))))) nilL))) (consL (appE (callF (c_L_small r)) (consL (varE 0) nilL)) nilL))) (tupG 2 (consG (nameG 6) (consG (nameG 7) nilG)))) (seqS (asgS (appE (callF (c_L_frac r)) (consL (binE (pf2 subP) (binE (pf2 subP) (constE (.int 0)) (constE (.int 1))) (appE (callF (c_L_draw r)) (consL (varE 0) (consL (constE (.int 4)) nilL)))) (consL (binE (pf2 addP) (constE (.int 1)) (appE (callF (c_L_draw r)) (consL (varE 0) (consL (constE (.int 3)) nilL)))) nilL))) (nameG 1)) (seqS (asgS (binE (pf2 addP) (constE (.int 1)) (appE (callF (c_L_draw r)) (consL (varE 0) (consL (constE (.int 6)) nilL)))) (nameG 2)) (seqS (asgS (sliceE (appE lstF (consL (frzE (varE 2)) (consL (binE (pf2 addP) (binE (pf2 addP) (varE 2) (constE (.int 1))) (appE (callF (c_L_draw r)) (consL (varE 0) (consL (binE (pf2 subP) (constE (.int 7)) (varE 2)) nilL)))) nilL))) noO (someO (binE (pf2 subP) (varE 6) (constE (.int 2))))) (nameG 3)) (seqS (asgS (binE addM (binE (pf2 addP) (appE lstF (consL (frzE (varE 7)) nilL)) (lcE [12] false (seqI (frzE (varE 3))) (nameG 12) yesB (appE (callF (c_L_part r)) (consL (varE 7) (consL (varE 1) (consL (appE tupF (consL (frzE (varE 12)) (consL (constE (.int 8)) nilL))) nilL)))))) (appE lstF (consL (frzE (varE 1)) nilL))) (nameG 4)) (seqS (ifS (andB (valB (binE (pf2 eqP) (varE 6) (constE (.int 3)))) (valB (binE (pf2 eqP) (appE (callF (c_L_draw r)) (consL (varE 0) (consL (constE (.int 3)) nilL))) (constE (.int 0))))) (seqS (asgS (appE tupF (consL (constE (.int 0)) (consL (constE (.int 1)) nilL))) (subG (varE 4) (constE (.int 1)))) nilS) nilS) (b_L_road_c6 r)))))))
abbrev N_L_road : List Str := ["spring", "back", "first", "parts", "paces", "pace", "many", "free", "row", "dens", "flux", "wide", "part"]
abbrev i_L_road : Info := ⟨N_L_road, p_L_road, a_L_road, false, [⟨112, 12, 112, 82⟩, ⟨115, 23, 115, 41⟩], [], false, [], b_L_road⟩
def b_L_long_road (r : Runs) : CS := (seqS (asgS (appE tupF (consL (appE (callF (c_L_small r)) (consL (varE 0) nilL)) (consL (appE (callF (c_L_small r)) (consL (varE 0) nilL)) nilL))) (tupG 2 (consG (nameG 2) (consG (nameG 3) nilG)))) (seqS (retS false (appE (pfN tupleP) (consL (lcE [4] false (range1I (varE 1)) (nameG 4) yesB (appE tupF (consL (appE (callF (c_L_mul r)) (consL (varE 2) (consL (appE tupF (consL (frzE (varE 4)) (consL (constE (.int 1)) nilL))) nilL))) (consL (appE (callF (c_L_mul r)) (consL (varE 3) (consL (appE tupF (consL (binE (pf2 mulP) (varE 4) (binE (pf2 subP) (binE (pf2 subP) (varE 1) (constE (.int 1))) (varE 4))) (consL (constE (.int 1)) nilL))) nilL))) nilL)))) nilL))) nilS))
abbrev N_L_long_road : List Str := ["spring", "many", "wide", "tall", "k"]
abbrev i_L_long_road : Info := ⟨N_L_long_road, p_L_long_road, a_L_long_road, false, [], [], false, [], b_L_long_road⟩
def b_L_paces (r : Runs) : CS := (seqS (asgS (appE lstM nilL) (nameG 1)) (seqS (forS (range1I (binE (pf2 subP) (appE (pfN lenP) (consL (varE 0) nilL)) (constE (.int 1)))) (nameG 2) (seqS (exprS (appendE (varE 1) (appE (callF (c_L_div r)) (consL (appE (callF (c_L_sub r)) (consL (binE (pf2 ixP) (binE (pf2 ixP) (varE 0) (binE (pf2 addP) (varE 2) (constE (.int 1)))) (constE (.int 1))) (consL (binE (pf2 ixP) (binE (pf2 ixP) (varE 0) (varE 2)) (constE (.int 1))) nilL))) (consL (appE (callF (c_L_sub r)) (consL (binE (pf2 ixP) (binE (pf2 ixP) (varE 0) (binE (pf2 addP) (varE 2) (constE (.int 1)))) (constE (.int 0))) (consL (binE (pf2 ixP) (binE (pf2 ixP) (varE 0) (varE 2)) (constE (.int 0))) nilL))) nilL))))) nilS)) (seqS (retS false (varE 1)) nilS)))
abbrev N_L_paces : List Str := ["road", "found", "k"]
abbrev i_L_paces : Info := ⟨N_L_paces, p_L_paces, a_L_paces, false, [⟨128, 12, 128, 14⟩], [], false, [], b_L_paces⟩
def b_L_is_pair (r : Runs) : CS := (seqS (retS false (andE (isiE "tuple" (varE 0)) (binE (pf2 eqP) (appE (pfN lenP) (consL (varE 0) nilL)) (constE (.int 2))))) nilS)
abbrev N_L_is_pair : List Str := ["thing"]
abbrev i_L_is_pair : Info := ⟨N_L_is_pair, p_L_is_pair, a_L_is_pair, false, [], [], false, [], b_L_is_pair⟩
def b_L_is_road (r : Runs) : CS := (seqS (ifS (orB (notB (valB (isiE "tuple" (varE 0)))) (notB (valB (chE (pf2 leP) (pf2 leP) (constE (.int 3)) (appE (pfN lenP) (consL (varE 0) nilL)) (constE (.int 12)))))) (seqS (retS false (constE (.bool false))) nilS) nilS) (seqS (forS (seqI (frzE (varE 0))) (nameG 1) (seqS (ifS (orB (notB (valB (appE (callF (c_L_is_pair r)) (consL (varE 1) nilL)))) (orB (notB (valB (appE (callF (c_L_is_frac r)) (consL (binE (pf2 ixP) (varE 1) (constE (.int 0))) nilL)))) (notB (valB (appE (callF (c_L_is_frac r)) (consL (binE (pf2 ixP) (varE 1) (constE (.int 1))) nilL)))))) (seqS (retS false (constE (.bool false))) nilS) nilS) nilS)) (seqS (ifS (orB (valB (binE (pf2 neP) (appE (pfN reprP) (consL (binE (pf2 ixP) (varE 0) (constE (.int 0))) nilL)) (constE (.str "((0, 1), (0, 1))")))) (valB (binE (pf2 neP) (binE (pf2 ixP) (binE (pf2 ixP) (binE (pf2 ixP) (varE 0) (unE (pf1 negP) (constE (.int 1)))) (constE (.int 1))) (constE (.int 0))) (constE (.int 0))))) (seqS (retS false (constE (.bool false))) nilS) nilS) (seqS (ifS (valB (binE (pf2 neP) (lcE [1] false (seqI (sliceE (varE 0) (someO (constE (.int 1))) (someO (unE (pf1 negP) (constE (.int 1)))))) (nameG 1) (valB (binE (pf2 leP) (binE (pf2 ixP) (binE (pf2 ixP) (varE 1) (constE (.int 1))) (constE (.int 0))) (constE (.int 0)))) (varE 1)) (appE lstF nilL))) (seqS (retS false (constE (.bool false))) nilS) nilS) (seqS (ifS (valB (binE (pf2 neP) (lcE [3] false (range1I (binE (pf2 subP) (appE (pfN lenP) (consL (varE 0) nilL)) (constE (.int 1)))) (nameG 3) (notB (valB (appE (callF (c_L_under r)) (consL (binE (pf2 ixP) (binE (pf2 ixP) (varE 0) (varE 3)) (constE (.int 0))) (consL (binE (pf2 ixP) (binE (pf2 ixP) (varE 0) (binE (pf2 addP) (varE 3) (constE (.int 1)))) (constE (.int 0))) nilL))))) (varE 3)) (appE lstF nilL))) (seqS (retS false (constE (.bool false))) nilS) nilS) (seqS (asgS (appE (callF (c_L_paces r)) (consL (varE 0) nilL)) (nameG 2)) (seqS (retS false (binE (pf2 eqP) (lcE [3] false (range1I (binE (pf2 subP) (appE (pfN lenP) (consL (varE 2) nilL)) (constE (.int 1)))) (nameG 3) (notB (valB (appE (callF (c_L_under r)) (consL (binE (pf2 ixP) (varE 2) (binE (pf2 addP) (varE 3) (constE (.int 1)))) (consL (binE (pf2 ixP) (varE 2) (varE 3)) nilL))))) (varE 3)) (appE lstF nilL))) nilS)))))))
abbrev N_L_is_road : List Str := ["thing", "each", "paces", "k"]
abbrev i_L_is_road : Info := ⟨N_L_is_road, p_L_is_road, a_L_is_road, false, [], [], false, [], b_L_is_road⟩
def b_L_changed (r : Runs) : CS := (seqS (parS 3 4 (consL (appE (callF (c_L_draw r)) (consL (varE 0) (consL (constE (.int 6)) nilL))) (consL (appE (callF (c_L_draw r)) (consL (varE 0) (consL (binE (pf2 addP) (appE (pfN lenP) (consL (varE 1) nilL)) (constE (.int 1))) nilL))) nilL))) (seqS (ifS (andB (valB (binE (pf2 ltP) (varE 3) (constE (.int 2)))) (valB (binE (pf2 ltP) (varE 4) (appE (pfN lenP) (consL (varE 1) nilL))))) (seqS (retS false (binE (pf2 addP) (binE (pf2 addP) (sliceE (varE 1) noO (someO (varE 4))) (appE tupF (consL (frzE (varE 2)) nilL))) (sliceE (varE 1) (someO (binE (pf2 addP) (varE 4) (constE (.int 1)))) noO))) nilS) nilS) (seqS (ifS (andB (valB (binE (pf2 eqP) (varE 3) (constE (.int 2)))) (valB (binE (pf2 ltP) (varE 4) (appE (pfN lenP) (consL (varE 1) nilL))))) (seqS (retS false (binE (pf2 addP) (sliceE (varE 1) noO (someO (varE 4))) (sliceE (varE 1) (someO (binE (pf2 addP) (varE 4) (constE (.int 1)))) noO))) nilS) nilS) (seqS (ifS (andB (valB (binE (pf2 eqP) (varE 3) (constE (.int 3)))) (valB (binE (pf2 ltP) (binE (pf2 addP) (varE 4) (constE (.int 1))) (appE (pfN lenP) (consL (varE 1) nilL))))) (seqS (retS false (binE (pf2 addP) (binE (pf2 addP) (sliceE (varE 1) noO (someO (varE 4))) (appE tupF (consL (binE (pf2 ixP) (varE 1) (binE (pf2 addP) (varE 4) (constE (.int 1)))) (consL (binE (pf2 ixP) (varE 1) (varE 4)) nilL)))) (sliceE (varE 1) (someO (binE (pf2 addP) (varE 4) (constE (.int 2)))) noO))) nilS) nilS) (seqS (ifS (andB (valB (binE (pf2 eqP) (varE 3) (constE (.int 4)))) (valB (binE (pf2 ltP) (varE 4) (appE (pfN lenP) (consL (varE 1) nilL))))) (seqS (retS false (binE (pf2 addP) (binE (pf2 addP) (sliceE (varE 1) noO (someO (varE 4))) (appE tupF (consL (binE (pf2 ixP) (varE 1) (varE 4)) (consL (binE (pf2 ixP) (varE 1) (varE 4)) nilL)))) (sliceE (varE 1) (someO (binE (pf2 addP) (varE 4) (constE (.int 1)))) noO))) nilS) nilS) (seqS (retS false (binE (pf2 addP) (binE (pf2 addP) (sliceE (varE 1) noO (someO (varE 4))) (appE tupF (consL (frzE (varE 2)) nilL))) (sliceE (varE 1) (someO (varE 4)) noO))) nilS))))))
abbrev N_L_changed : List Str := ["spring", "row", "thing", "choice", "at"]
abbrev i_L_changed : Info := ⟨N_L_changed, p_L_changed, a_L_changed, false, [], [], false, [], b_L_changed⟩
def b_L_near (r : Runs) : CS := (seqS (asgS (appE (callF (c_L_draw r)) (consL (varE 0) (consL (constE (.int 8)) nilL))) (nameG 2)) (seqS (ifS (valB (binE (pf2 ltP) (varE 2) (constE (.int 5)))) (seqS (retS false (appE (callF (c_L_add r)) (consL (varE 1) (consL (binE (pf2 ixP) (appE lstF (consL (appE tupF (consL (constE (.int 1)) (consL (constE (.int 1)) nilL))) (consL (appE tupF (consL (binE (pf2 subP) (constE (.int 0)) (constE (.int 1))) (consL (constE (.int 1)) nilL))) (consL (appE tupF (consL (constE (.int 1)) (consL (constE (.int 7)) nilL))) (consL (appE tupF (consL (binE (pf2 subP) (constE (.int 0)) (constE (.int 1))) (consL (constE (.int 7)) nilL))) (consL (appE tupF (consL (constE (.int 0)) (consL (constE (.int 1)) nilL))) nilL)))))) (varE 2)) nilL)))) nilS) nilS) (seqS (ifS (valB (binE (pf2 eqP) (varE 2) (constE (.int 5)))) (seqS (retS false (appE tupF (consL (binE (pf2 mulP) (constE (.int 2)) (binE (pf2 ixP) (varE 1) (constE (.int 0)))) (consL (binE (pf2 mulP) (constE (.int 2)) (binE (pf2 ixP) (varE 1) (constE (.int 1)))) nilL)))) nilS) nilS) (seqS (ifS (valB (binE (pf2 eqP) (varE 2) (constE (.int 6)))) (seqS (retS false (appE tupF (consL (binE (pf2 subP) (constE (.int 0)) (binE (pf2 ixP) (varE 1) (constE (.int 0)))) (consL (binE (pf2 subP) (constE (.int 0)) (binE (pf2 ixP) (varE 1) (constE (.int 1)))) nilL)))) nilS) nilS) (seqS (retS false (appE (callF (c_L_pick r)) (consL (varE 0) (consL (appE lstF (consL (appE (pfN listP) (consL (varE 1) nilL)) (consL (binE (pf2 addP) (varE 1) (appE tupF (consL (constE (.int 1)) nilL))) (consL (sliceE (varE 1) noO (someO (constE (.int 1)))) (consL (appE tupF (consL (binE (pf2 ixP) (varE 1) (constE (.int 0))) (consL (constE (.bool true)) nilL))) (consL (appE tupF (consL (binE (pf2 ixP) (varE 1) (constE (.int 0))) (consL (constE (.int 0)) nilL))) (consL (appE tupF (consL (constE (.str "1")) (consL (binE (pf2 ixP) (varE 1) (constE (.int 1))) nilL))) nilL))))))) nilL)))) nilS)))))
abbrev N_L_near : List Str := ["spring", "x", "choice"]
abbrev i_L_near : Info := ⟨N_L_near, p_L_near, a_L_near, false, [], [], false, [], b_L_near⟩
def b_L_bent (r : Runs) : CS := (seqS (ifS (orB (notB (valB (isiE "tuple" (varE 1)))) (orB (valB (binE (pf2 eqP) (varE 2) (constE (.int 0)))) (valB (binE (pf2 eqP) (appE (pfN lenP) (consL (varE 1) nilL)) (constE (.int 0)))))) (seqS (retS false (appE (callF (c_L_odd r)) (consL (varE 0) nilL))) nilS) nilS) (seqS (ifS (valB (appE (callF (c_L_is_frac r)) (consL (varE 1) nilL))) (seqS (retS false (appE (callF (c_L_near r)) (consL (varE 0) (consL (varE 1) nilL)))) nilS) nilS) (seqS (ifS (valB (binE (pf2 eqP) (appE (callF (c_L_draw r)) (consL (varE 0) (consL (constE (.int 4)) nilL))) (constE (.int 0)))) (seqS (asgS (appE tupF (consL (appE (callF (c_L_small r)) (consL (varE 0) nilL)) (consL (appE (callF (c_L_small r)) (consL (varE 0) nilL)) nilL))) (nameG 4)) (seqS (retS false (appE (callF (c_L_changed r)) (consL (varE 0) (consL (varE 1) (consL (appE (callF (c_L_pick r)) (consL (varE 0) (consL (appE lstF (consL (appE (callF (c_L_odd r)) (consL (varE 0) nilL)) (consL (appE (callF (c_L_fraction r)) (consL (varE 0) nilL)) (consL (binE (pf2 ixP) (varE 1) (constE (.int 0))) (consL (frzE (varE 4)) nilL))))) nilL))) nilL))))) nilS)) nilS) (seqS (asgS (appE (callF (c_L_draw r)) (consL (varE 0) (consL (appE (pfN lenP) (consL (varE 1) nilL)) nilL))) (nameG 3)) (seqS (retS false (binE (pf2 addP) (binE (pf2 addP) (sliceE (varE 1) noO (someO (varE 3))) (appE tupF (consL (appE (callF (c_L_bent r)) (consL (varE 0) (consL (binE (pf2 ixP) (varE 1) (varE 3)) (consL (binE (pf2 subP) (varE 2) (constE (.int 1))) nilL)))) nilL))) (sliceE (varE 1) (someO (binE (pf2 addP) (varE 3) (constE (.int 1)))) noO))) nilS)))))
abbrev N_L_bent : List Str := ["spring", "thing", "deep", "at", "pair"]
abbrev i_L_bent : Info := ⟨N_L_bent, p_L_bent, a_L_bent, false, [], [], false, [], b_L_bent⟩
def b_L_thing (r : Runs) : CS := (seqS (asgS (appE (callF (c_L_draw r)) (consL (varE 0) (consL (constE (.int 8)) nilL))) (nameG 1)) (seqS (asgS (ifE (valB (binE (pf2 ltP) (varE 1) (constE (.int 5)))) (appE (callF (c_L_road r)) (consL (varE 0) nilL)) (appE (callF (c_L_long_road r)) (consL (varE 0) (consL (binE (pf2 addP) (constE (.int 8)) (appE (callF (c_L_draw r)) (consL (varE 0) (consL (constE (.int 6)) nilL)))) nilL)))) (nameG 2)) (seqS (forS (range1I (appE (callF (c_L_pick r)) (consL (varE 0) (consL (appE lstF (consL (constE (.int 0)) (consL (constE (.int 1)) (consL (constE (.int 1)) (consL (constE (.int 1)) (consL (constE (.int 2)) nilL)))))) nilL)))) (nameG 3) (seqS (asgS (appE (callF (c_L_bent r)) (consL (varE 0) (consL (varE 2) (consL (constE (.int 4)) nilL)))) (nameG 2)) nilS)) (seqS (ifS (valB (binE (pf2 eqP) (varE 1) (constE (.int 7)))) (seqS (retS false (appE (callF (c_L_pick r)) (consL (varE 0) (consL (appE lstF (consL (appE (callF (c_L_odd r)) (consL (varE 0) nilL)) (consL (ifE (valB (isiE "tuple" (varE 2))) (appE (pfN listP) (consL (varE 2) nilL)) (varE 2)) (consL (appE tupF (consL (frzE (varE 2)) nilL)) nilL)))) nilL)))) nilS) nilS) (seqS (retS false (varE 2)) nilS)))))
abbrev N_L_thing : List Str := ["spring", "choice", "thing", "turn"]
abbrev i_L_thing : Info := ⟨N_L_thing, p_L_thing, a_L_thing, false, [], [], false, [], b_L_thing⟩
def b_L_flat (r : Runs) : CS := (seqS (parS 4 5 (consL (appE (callF (c_L_road r)) (consL (varE 0) nilL)) (consL (appE (callF (c_L_frac r)) (consL (binE (pf2 addP) (constE (.int 1)) (appE (callF (c_L_draw r)) (consL (varE 0) (consL (constE (.int 3)) nilL)))) (consL (constE (.int 4)) nilL))) nilL))) (seqS (asgS (appE (callF (c_L_draw r)) (consL (varE 0) (consL (binE (pf2 subP) (appE (pfN lenP) (consL (varE 4) nilL)) (constE (.int 1))) nilL))) (nameG 1)) (seqS (asgS (appE (callF (c_L_part r)) (consL (binE (pf2 ixP) (binE (pf2 ixP) (varE 4) (varE 1)) (constE (.int 0))) (consL (binE (pf2 ixP) (binE (pf2 ixP) (varE 4) (binE (pf2 addP) (varE 1) (constE (.int 1)))) (constE (.int 0))) (consL (varE 5) nilL)))) (nameG 2)) (seqS (asgS (appE (callF (c_L_add r)) (consL (appE (callF (c_L_part r)) (consL (binE (pf2 ixP) (binE (pf2 ixP) (varE 4) (varE 1)) (constE (.int 1))) (consL (binE (pf2 ixP) (binE (pf2 ixP) (varE 4) (binE (pf2 addP) (varE 1) (constE (.int 1)))) (constE (.int 1))) (consL (varE 5) nilL)))) (consL (appE (callF (c_L_frac r)) (consL (binE (pf2 subP) (appE (callF (c_L_draw r)) (consL (varE 0) (consL (constE (.int 3)) nilL))) (constE (.int 1))) (consL (constE (.int 1000)) nilL))) nilL))) (nameG 3)) (seqS (retS false (binE (pf2 addP) (binE (pf2 addP) (sliceE (varE 4) noO (someO (binE (pf2 addP) (varE 1) (constE (.int 1))))) (appE tupF (consL (appE tupF (consL (frzE (varE 2)) (consL (frzE (varE 3)) nilL))) nilL))) (sliceE (varE 4) (someO (binE (pf2 addP) (varE 1) (constE (.int 1)))) noO))) nilS)))))
abbrev N_L_flat : List Str := ["spring", "at", "dens", "flux", "road", "by"]
abbrev i_L_flat : Info := ⟨N_L_flat, p_L_flat, a_L_flat, false, [], [], false, [], b_L_flat⟩
def b_L_right (r : Runs) : CS := (seqS (asgS (ifE (valB (binE (pf2 gtP) (appE (callF (c_L_draw r)) (consL (varE 0) (consL (constE (.int 4)) nilL))) (constE (.int 0)))) (appE (callF (c_L_thing r)) (consL (varE 0) nilL)) (appE (callF (c_L_flat r)) (consL (varE 0) nilL))) (nameG 1)) (seqS (parS 2 3 (consL (appE (callF (c_L_is_road r)) (consL (varE 1) nilL)) (consL (appE (pfN reprP) (consL (varE 1) nilL)) nilL))) (seqS (retS false (andE (binE (pf2 eqP) (appE (pfN reprP) (consL (appE lstF (consL (appE (callF (c_is_kind r)) (consL (varE 1) nilL)) (consL (kwE (c_is_kind r) [0] nilL (consL (varE 1) nilL)) (consL (appE (callF (c_is_kind r)) (consL (varE 1) nilL)) nilL)))) nilL)) (appE (pfN reprP) (consL (binE repM (appE lstM (consL (varE 2) nilL)) (constE (.int 3))) nilL))) (binE (pf2 eqP) (appE (pfN reprP) (consL (varE 1) nilL)) (varE 3)))) nilS)))
abbrev N_L_right : List Str := ["spring", "thing", "due", "was"]
abbrev i_L_right : Info := ⟨N_L_right, p_L_right, a_L_right, false, [⟨195, 80, 195, 89⟩, ⟨195, 80, 195, 85⟩], [], false, [], b_L_right⟩
def b_law (r : Runs) : CS := (seqS (retS false (appE (pfN allP) (consL (lcE [1] false (range1I (appE (pfN maxP) (consL (constE (.int 5)) (consL (appE (pfN minP) (consL (appE (pfN lenP) (consL (varE 0) nilL)) (consL (constE (.int 12)) nilL))) nilL)))) (nameG 1) yesB (appE (callF (c_L_right r)) (consL (appE (callF (c_L_spring r)) (consL (varE 0) (consL (varE 1) nilL))) nilL))) nilL))) nilS)
abbrev N_law : List Str := ["script", "turn"]
abbrev i_law : Info := ⟨N_law, p_law, a_law, false, [], [], false, [], b_law⟩
abbrev T : Tbl := [(("is_whole" : Str), i_is_whole), (("are_wholes" : Str), i_are_wholes), (("common_part" : Str), i_common_part), (("lowest" : Str), i_lowest), (("lowest_over" : Str), i_lowest_over), (("ratio" : Str), i_ratio), (("minus" : Str), i_minus), (("divided" : Str), i_divided), (("is_below" : Str), i_is_below), (("is_fraction" : Str), i_is_fraction), (("are_fractions" : Str), i_are_fractions), (("slope_of" : Str), i_slope_of), (("kind_speeds" : Str), i_kind_speeds), (("is_kind" : Str), i_is_kind), (("is_corner" : Str), i_is_corner), (("_law_spring" : Str), i_L_spring), (("_law_draw" : Str), i_L_draw), (("_law_pick" : Str), i_L_pick), (("_law_shared" : Str), i_L_shared), (("_law_frac" : Str), i_L_frac), (("_law_add" : Str), i_L_add), (("_law_sub" : Str), i_L_sub), (("_law_mul" : Str), i_L_mul), (("_law_div" : Str), i_L_div), (("_law_under" : Str), i_L_under), (("_law_part" : Str), i_L_part), (("_law_is_frac" : Str), i_L_is_frac), (("_law_odd" : Str), i_L_odd), (("_law_fraction" : Str), i_L_fraction), (("_law_small" : Str), i_L_small), (("_law_road" : Str), i_L_road), (("_law_long_road" : Str), i_L_long_road), (("_law_paces" : Str), i_L_paces), (("_law_is_pair" : Str), i_L_is_pair), (("_law_is_road" : Str), i_L_is_road), (("_law_changed" : Str), i_L_changed), (("_law_near" : Str), i_L_near), (("_law_bent" : Str), i_L_bent), (("_law_thing" : Str), i_L_thing), (("_law_flat" : Str), i_L_flat), (("_law_right" : Str), i_L_right), (("law" : Str), i_law)]
abbrev G : Glb := ⟨[(("NOUGHT" : Str), (.tuple [(.int 0), (.int 1)])), (("LEAST_CORNERS" : Str), (.int 3)), (("MOST_CORNERS" : Str), (.int 12))], [(("gcd" : Str), "math.gcd")], [("len" : Str), ("int" : Str), ("tuple" : Str), ("abs" : Str), ("repr" : Str), ("max" : Str), ("min" : Str), ("sum" : Str), ("all" : Str), ("list" : Str), ("isinstance" : Str), ("bool" : Str), ("range" : Str), ("zip" : Str)], G_cls, [], G_sub⟩
set_option maxHeartbeats 0 in
theorem k_is_whole (r : Runs) : cDef (ctxOf G T r i_is_whole) s_is_whole = some (b_is_whole r) := by kernel_rfl
theorem f_is_whole : FnScope N_is_whole p_is_whole (defScope s_is_whole) := ⟨rfl, rfl, rfl, by decide +kernel, rfl, by decide +kernel, by decide +kernel⟩
set_option maxHeartbeats 0 in
theorem k_are_wholes (r : Runs) : cDef (ctxOf G T r i_are_wholes) s_are_wholes = some (b_are_wholes r) := by kernel_rfl
theorem f_are_wholes : FnScope N_are_wholes p_are_wholes (defScope s_are_wholes) := ⟨rfl, rfl, rfl, by decide +kernel, rfl, by decide +kernel, by decide +kernel⟩
set_option maxHeartbeats 0 in
theorem k_common_part (r : Runs) : cDef (ctxOf G T r i_common_part) s_common_part = some (b_common_part r) := by kernel_rfl
theorem f_common_part : FnScope N_common_part p_common_part (defScope s_common_part) := ⟨rfl, rfl, rfl, by decide +kernel, rfl, by decide +kernel, by decide +kernel⟩
set_option maxHeartbeats 0 in
theorem k_lowest (r : Runs) : cDef (ctxOf G T r i_lowest) s_lowest = some (b_lowest r) := by kernel_rfl
theorem f_lowest : FnScope N_lowest p_lowest (defScope s_lowest) := ⟨rfl, rfl, rfl, by decide +kernel, rfl, by decide +kernel, by decide +kernel⟩
set_option maxHeartbeats 0 in
theorem k_lowest_over (r : Runs) : cDef (ctxOf G T r i_lowest_over) s_lowest_over = some (b_lowest_over r) := by kernel_rfl
theorem f_lowest_over : FnScope N_lowest_over p_lowest_over (defScope s_lowest_over) := ⟨rfl, rfl, rfl, by decide +kernel, rfl, by decide +kernel, by decide +kernel⟩
set_option maxHeartbeats 0 in
theorem k_ratio (r : Runs) : cDef (ctxOf G T r i_ratio) s_ratio = some (b_ratio r) := by kernel_rfl
theorem f_ratio : FnScope N_ratio p_ratio (defScope s_ratio) := ⟨rfl, rfl, rfl, by decide +kernel, rfl, by decide +kernel, by decide +kernel⟩
set_option maxHeartbeats 0 in
theorem k_minus (r : Runs) : cDef (ctxOf G T r i_minus) s_minus = some (b_minus r) := by kernel_rfl
theorem f_minus : FnScope N_minus p_minus (defScope s_minus) := ⟨rfl, rfl, rfl, by decide +kernel, rfl, by decide +kernel, by decide +kernel⟩
set_option maxHeartbeats 0 in
theorem k_divided (r : Runs) : cDef (ctxOf G T r i_divided) s_divided = some (b_divided r) := by kernel_rfl
theorem f_divided : FnScope N_divided p_divided (defScope s_divided) := ⟨rfl, rfl, rfl, by decide +kernel, rfl, by decide +kernel, by decide +kernel⟩
set_option maxHeartbeats 0 in
theorem k_is_below (r : Runs) : cDef (ctxOf G T r i_is_below) s_is_below = some (b_is_below r) := by kernel_rfl
theorem f_is_below : FnScope N_is_below p_is_below (defScope s_is_below) := ⟨rfl, rfl, rfl, by decide +kernel, rfl, by decide +kernel, by decide +kernel⟩
set_option maxHeartbeats 0 in
theorem k_is_fraction (r : Runs) : cDef (ctxOf G T r i_is_fraction) s_is_fraction = some (b_is_fraction r) := by kernel_rfl
theorem f_is_fraction : FnScope N_is_fraction p_is_fraction (defScope s_is_fraction) := ⟨rfl, rfl, rfl, by decide +kernel, rfl, by decide +kernel, by decide +kernel⟩
set_option maxHeartbeats 0 in
theorem k_are_fractions (r : Runs) : cDef (ctxOf G T r i_are_fractions) s_are_fractions = some (b_are_fractions r) := by kernel_rfl
theorem f_are_fractions : FnScope N_are_fractions p_are_fractions (defScope s_are_fractions) := ⟨rfl, rfl, rfl, by decide +kernel, rfl, by decide +kernel, by decide +kernel⟩
set_option maxHeartbeats 0 in
theorem k_slope_of (r : Runs) : cDef (ctxOf G T r i_slope_of) s_slope_of = some (b_slope_of r) := by kernel_rfl
theorem f_slope_of : FnScope N_slope_of p_slope_of (defScope s_slope_of) := ⟨rfl, rfl, rfl, by decide +kernel, rfl, by decide +kernel, by decide +kernel⟩
set_option maxHeartbeats 0 in
theorem k_kind_speeds (r : Runs) : cDef (ctxOf G T r i_kind_speeds) s_kind_speeds = some (b_kind_speeds r) := by kernel_rfl
theorem f_kind_speeds : FnScope N_kind_speeds p_kind_speeds (defScope s_kind_speeds) := ⟨rfl, rfl, rfl, by decide +kernel, rfl, by decide +kernel, by decide +kernel⟩
set_option maxHeartbeats 0 in
theorem k_is_kind (r : Runs) : cDef (ctxOf G T r i_is_kind) s_is_kind = some (b_is_kind r) := by kernel_rfl
theorem f_is_kind : FnScope N_is_kind p_is_kind (defScope s_is_kind) := ⟨rfl, rfl, rfl, by decide +kernel, rfl, by decide +kernel, by decide +kernel⟩
set_option maxHeartbeats 0 in
theorem k_is_corner (r : Runs) : cDef (ctxOf G T r i_is_corner) s_is_corner = some (b_is_corner r) := by kernel_rfl
theorem f_is_corner : FnScope N_is_corner p_is_corner (defScope s_is_corner) := ⟨rfl, rfl, rfl, by decide +kernel, rfl, by decide +kernel, by decide +kernel⟩
set_option maxHeartbeats 0 in
theorem k_L_spring (r : Runs) : cDef (ctxOf G T r i_L_spring) s_L_spring = some (b_L_spring r) := by kernel_rfl
theorem f_L_spring : FnScope N_L_spring p_L_spring (defScope s_L_spring) := ⟨rfl, rfl, rfl, by decide +kernel, rfl, by decide +kernel, by decide +kernel⟩
set_option maxHeartbeats 0 in
theorem k_L_draw (r : Runs) : cDef (ctxOf G T r i_L_draw) s_L_draw = some (b_L_draw r) := by kernel_rfl
theorem f_L_draw : FnScope N_L_draw p_L_draw (defScope s_L_draw) := ⟨rfl, rfl, rfl, by decide +kernel, rfl, by decide +kernel, by decide +kernel⟩
set_option maxHeartbeats 0 in
theorem k_L_pick (r : Runs) : cDef (ctxOf G T r i_L_pick) s_L_pick = some (b_L_pick r) := by kernel_rfl
theorem f_L_pick : FnScope N_L_pick p_L_pick (defScope s_L_pick) := ⟨rfl, rfl, rfl, by decide +kernel, rfl, by decide +kernel, by decide +kernel⟩
set_option maxHeartbeats 0 in
theorem k_L_shared (r : Runs) : cDef (ctxOf G T r i_L_shared) s_L_shared = some (b_L_shared r) := by kernel_rfl
theorem f_L_shared : FnScope N_L_shared p_L_shared (defScope s_L_shared) := ⟨rfl, rfl, rfl, by decide +kernel, rfl, by decide +kernel, by decide +kernel⟩
set_option maxHeartbeats 0 in
theorem k_L_frac (r : Runs) : cDef (ctxOf G T r i_L_frac) s_L_frac = some (b_L_frac r) := by kernel_rfl
theorem f_L_frac : FnScope N_L_frac p_L_frac (defScope s_L_frac) := ⟨rfl, rfl, rfl, by decide +kernel, rfl, by decide +kernel, by decide +kernel⟩
set_option maxHeartbeats 0 in
theorem k_L_add (r : Runs) : cDef (ctxOf G T r i_L_add) s_L_add = some (b_L_add r) := by kernel_rfl
theorem f_L_add : FnScope N_L_add p_L_add (defScope s_L_add) := ⟨rfl, rfl, rfl, by decide +kernel, rfl, by decide +kernel, by decide +kernel⟩
set_option maxHeartbeats 0 in
theorem k_L_sub (r : Runs) : cDef (ctxOf G T r i_L_sub) s_L_sub = some (b_L_sub r) := by kernel_rfl
theorem f_L_sub : FnScope N_L_sub p_L_sub (defScope s_L_sub) := ⟨rfl, rfl, rfl, by decide +kernel, rfl, by decide +kernel, by decide +kernel⟩
set_option maxHeartbeats 0 in
theorem k_L_mul (r : Runs) : cDef (ctxOf G T r i_L_mul) s_L_mul = some (b_L_mul r) := by kernel_rfl
theorem f_L_mul : FnScope N_L_mul p_L_mul (defScope s_L_mul) := ⟨rfl, rfl, rfl, by decide +kernel, rfl, by decide +kernel, by decide +kernel⟩
set_option maxHeartbeats 0 in
theorem k_L_div (r : Runs) : cDef (ctxOf G T r i_L_div) s_L_div = some (b_L_div r) := by kernel_rfl
theorem f_L_div : FnScope N_L_div p_L_div (defScope s_L_div) := ⟨rfl, rfl, rfl, by decide +kernel, rfl, by decide +kernel, by decide +kernel⟩
set_option maxHeartbeats 0 in
theorem k_L_under (r : Runs) : cDef (ctxOf G T r i_L_under) s_L_under = some (b_L_under r) := by kernel_rfl
theorem f_L_under : FnScope N_L_under p_L_under (defScope s_L_under) := ⟨rfl, rfl, rfl, by decide +kernel, rfl, by decide +kernel, by decide +kernel⟩
set_option maxHeartbeats 0 in
theorem k_L_part (r : Runs) : cDef (ctxOf G T r i_L_part) s_L_part = some (b_L_part r) := by kernel_rfl
theorem f_L_part : FnScope N_L_part p_L_part (defScope s_L_part) := ⟨rfl, rfl, rfl, by decide +kernel, rfl, by decide +kernel, by decide +kernel⟩
set_option maxHeartbeats 0 in
theorem k_L_is_frac (r : Runs) : cDef (ctxOf G T r i_L_is_frac) s_L_is_frac = some (b_L_is_frac r) := by kernel_rfl
theorem f_L_is_frac : FnScope N_L_is_frac p_L_is_frac (defScope s_L_is_frac) := ⟨rfl, rfl, rfl, by decide +kernel, rfl, by decide +kernel, by decide +kernel⟩
set_option maxHeartbeats 0 in
theorem k_L_odd (r : Runs) : cDef (ctxOf G T r i_L_odd) s_L_odd = some (b_L_odd r) := by kernel_rfl
theorem f_L_odd : FnScope N_L_odd p_L_odd (defScope s_L_odd) := ⟨rfl, rfl, rfl, by decide +kernel, rfl, by decide +kernel, by decide +kernel⟩
set_option maxHeartbeats 0 in
theorem k_L_fraction (r : Runs) : cDef (ctxOf G T r i_L_fraction) s_L_fraction = some (b_L_fraction r) := by kernel_rfl
theorem f_L_fraction : FnScope N_L_fraction p_L_fraction (defScope s_L_fraction) := ⟨rfl, rfl, rfl, by decide +kernel, rfl, by decide +kernel, by decide +kernel⟩
set_option maxHeartbeats 0 in
theorem k_L_small (r : Runs) : cDef (ctxOf G T r i_L_small) s_L_small = some (b_L_small r) := by kernel_rfl
theorem f_L_small : FnScope N_L_small p_L_small (defScope s_L_small) := ⟨rfl, rfl, rfl, by decide +kernel, rfl, by decide +kernel, by decide +kernel⟩
set_option maxHeartbeats 0 in
theorem k_L_road (r : Runs) : cDef (ctxOf G T r i_L_road) s_L_road = some (b_L_road r) := by kernel_rfl
theorem f_L_road : FnScope N_L_road p_L_road (defScope s_L_road) := ⟨rfl, rfl, rfl, by decide +kernel, rfl, by decide +kernel, by decide +kernel⟩
set_option maxHeartbeats 0 in
theorem k_L_long_road (r : Runs) : cDef (ctxOf G T r i_L_long_road) s_L_long_road = some (b_L_long_road r) := by kernel_rfl
theorem f_L_long_road : FnScope N_L_long_road p_L_long_road (defScope s_L_long_road) := ⟨rfl, rfl, rfl, by decide +kernel, rfl, by decide +kernel, by decide +kernel⟩
set_option maxHeartbeats 0 in
theorem k_L_paces (r : Runs) : cDef (ctxOf G T r i_L_paces) s_L_paces = some (b_L_paces r) := by kernel_rfl
theorem f_L_paces : FnScope N_L_paces p_L_paces (defScope s_L_paces) := ⟨rfl, rfl, rfl, by decide +kernel, rfl, by decide +kernel, by decide +kernel⟩
set_option maxHeartbeats 0 in
theorem k_L_is_pair (r : Runs) : cDef (ctxOf G T r i_L_is_pair) s_L_is_pair = some (b_L_is_pair r) := by kernel_rfl
theorem f_L_is_pair : FnScope N_L_is_pair p_L_is_pair (defScope s_L_is_pair) := ⟨rfl, rfl, rfl, by decide +kernel, rfl, by decide +kernel, by decide +kernel⟩
set_option maxHeartbeats 0 in
theorem k_L_is_road (r : Runs) : cDef (ctxOf G T r i_L_is_road) s_L_is_road = some (b_L_is_road r) := by kernel_rfl
theorem f_L_is_road : FnScope N_L_is_road p_L_is_road (defScope s_L_is_road) := ⟨rfl, rfl, rfl, by decide +kernel, rfl, by decide +kernel, by decide +kernel⟩
set_option maxHeartbeats 0 in
theorem k_L_changed (r : Runs) : cDef (ctxOf G T r i_L_changed) s_L_changed = some (b_L_changed r) := by kernel_rfl
theorem f_L_changed : FnScope N_L_changed p_L_changed (defScope s_L_changed) := ⟨rfl, rfl, rfl, by decide +kernel, rfl, by decide +kernel, by decide +kernel⟩
set_option maxHeartbeats 0 in
theorem k_L_near (r : Runs) : cDef (ctxOf G T r i_L_near) s_L_near = some (b_L_near r) := by kernel_rfl
theorem f_L_near : FnScope N_L_near p_L_near (defScope s_L_near) := ⟨rfl, rfl, rfl, by decide +kernel, rfl, by decide +kernel, by decide +kernel⟩
set_option maxHeartbeats 0 in
theorem k_L_bent (r : Runs) : cDef (ctxOf G T r i_L_bent) s_L_bent = some (b_L_bent r) := by kernel_rfl
theorem f_L_bent : FnScope N_L_bent p_L_bent (defScope s_L_bent) := ⟨rfl, rfl, rfl, by decide +kernel, rfl, by decide +kernel, by decide +kernel⟩
set_option maxHeartbeats 0 in
theorem k_L_thing (r : Runs) : cDef (ctxOf G T r i_L_thing) s_L_thing = some (b_L_thing r) := by kernel_rfl
theorem f_L_thing : FnScope N_L_thing p_L_thing (defScope s_L_thing) := ⟨rfl, rfl, rfl, by decide +kernel, rfl, by decide +kernel, by decide +kernel⟩
set_option maxHeartbeats 0 in
theorem k_L_flat (r : Runs) : cDef (ctxOf G T r i_L_flat) s_L_flat = some (b_L_flat r) := by kernel_rfl
theorem f_L_flat : FnScope N_L_flat p_L_flat (defScope s_L_flat) := ⟨rfl, rfl, rfl, by decide +kernel, rfl, by decide +kernel, by decide +kernel⟩
set_option maxHeartbeats 0 in
theorem k_L_right (r : Runs) : cDef (ctxOf G T r i_L_right) s_L_right = some (b_L_right r) := by kernel_rfl
theorem f_L_right : FnScope N_L_right p_L_right (defScope s_L_right) := ⟨rfl, rfl, rfl, by decide +kernel, rfl, by decide +kernel, by decide +kernel⟩
set_option maxHeartbeats 0 in
theorem k_law (r : Runs) : cDef (ctxOf G T r i_law) s_law = some (b_law r) := by kernel_rfl
theorem f_law : FnScope N_law p_law (defScope s_law) := ⟨rfl, rfl, rfl, by decide +kernel, rfl, by decide +kernel, by decide +kernel⟩
theorem u_is_whole (k : Nat) : run T (k + 1) "is_whole" = runD 1 (b_is_whole (run T k)) := by kernel_rfl
theorem u_are_wholes (k : Nat) : run T (k + 1) "are_wholes" = runD 3 (b_are_wholes (run T k)) := by kernel_rfl
theorem u_common_part (k : Nat) : run T (k + 1) "common_part" = runD 3 (b_common_part (run T k)) := by kernel_rfl
theorem u_lowest (k : Nat) : run T (k + 1) "lowest" = runD 3 (b_lowest (run T k)) := by kernel_rfl
theorem u_lowest_over (k : Nat) : run T (k + 1) "lowest_over" = runD 4 (b_lowest_over (run T k)) := by kernel_rfl
theorem u_ratio (k : Nat) : run T (k + 1) "ratio" = runD 2 (b_ratio (run T k)) := by kernel_rfl
theorem u_minus (k : Nat) : run T (k + 1) "minus" = runD 2 (b_minus (run T k)) := by kernel_rfl
theorem u_divided (k : Nat) : run T (k + 1) "divided" = runD 2 (b_divided (run T k)) := by kernel_rfl
theorem u_is_below (k : Nat) : run T (k + 1) "is_below" = runD 2 (b_is_below (run T k)) := by kernel_rfl
theorem u_is_fraction (k : Nat) : run T (k + 1) "is_fraction" = runD 1 (b_is_fraction (run T k)) := by kernel_rfl
theorem u_are_fractions (k : Nat) : run T (k + 1) "are_fractions" = runD 3 (b_are_fractions (run T k)) := by kernel_rfl
theorem u_slope_of (k : Nat) : run T (k + 1) "slope_of" = runD 2 (b_slope_of (run T k)) := by kernel_rfl
theorem u_kind_speeds (k : Nat) : run T (k + 1) "kind_speeds" = runD 3 (b_kind_speeds (run T k)) := by kernel_rfl
theorem u_is_kind (k : Nat) : run T (k + 1) "is_kind" = runD 5 (b_is_kind (run T k)) := by kernel_rfl
theorem u_is_corner (k : Nat) : run T (k + 1) "is_corner" = runD 1 (b_is_corner (run T k)) := by kernel_rfl
theorem u_L_spring (k : Nat) : run T (k + 1) "_law_spring" = runD 5 (b_L_spring (run T k)) := by kernel_rfl
theorem u_L_draw (k : Nat) : run T (k + 1) "_law_draw" = runD 3 (b_L_draw (run T k)) := by kernel_rfl
theorem u_L_pick (k : Nat) : run T (k + 1) "_law_pick" = runD 2 (b_L_pick (run T k)) := by kernel_rfl
theorem u_L_shared (k : Nat) : run T (k + 1) "_law_shared" = runD 4 (b_L_shared (run T k)) := by kernel_rfl
theorem u_L_frac (k : Nat) : run T (k + 1) "_law_frac" = runD 3 (b_L_frac (run T k)) := by kernel_rfl
theorem u_L_add (k : Nat) : run T (k + 1) "_law_add" = runD 2 (b_L_add (run T k)) := by kernel_rfl
theorem u_L_sub (k : Nat) : run T (k + 1) "_law_sub" = runD 2 (b_L_sub (run T k)) := by kernel_rfl
theorem u_L_mul (k : Nat) : run T (k + 1) "_law_mul" = runD 2 (b_L_mul (run T k)) := by kernel_rfl
theorem u_L_div (k : Nat) : run T (k + 1) "_law_div" = runD 2 (b_L_div (run T k)) := by kernel_rfl
theorem u_L_under (k : Nat) : run T (k + 1) "_law_under" = runD 2 (b_L_under (run T k)) := by kernel_rfl
theorem u_L_part (k : Nat) : run T (k + 1) "_law_part" = runD 3 (b_L_part (run T k)) := by kernel_rfl
theorem u_L_is_frac (k : Nat) : run T (k + 1) "_law_is_frac" = runD 3 (b_L_is_frac (run T k)) := by kernel_rfl
theorem u_L_odd (k : Nat) : run T (k + 1) "_law_odd" = runD 4 (b_L_odd (run T k)) := by kernel_rfl
theorem u_L_fraction (k : Nat) : run T (k + 1) "_law_fraction" = runD 1 (b_L_fraction (run T k)) := by kernel_rfl
theorem u_L_small (k : Nat) : run T (k + 1) "_law_small" = runD 1 (b_L_small (run T k)) := by kernel_rfl
theorem u_L_road (k : Nat) : run T (k + 1) "_law_road" = runD 13 (b_L_road (run T k)) := by kernel_rfl
theorem u_L_long_road (k : Nat) : run T (k + 1) "_law_long_road" = runD 5 (b_L_long_road (run T k)) := by kernel_rfl
theorem u_L_paces (k : Nat) : run T (k + 1) "_law_paces" = runD 3 (b_L_paces (run T k)) := by kernel_rfl
theorem u_L_is_pair (k : Nat) : run T (k + 1) "_law_is_pair" = runD 1 (b_L_is_pair (run T k)) := by kernel_rfl
theorem u_L_is_road (k : Nat) : run T (k + 1) "_law_is_road" = runD 4 (b_L_is_road (run T k)) := by kernel_rfl
theorem u_L_changed (k : Nat) : run T (k + 1) "_law_changed" = runD 5 (b_L_changed (run T k)) := by kernel_rfl
theorem u_L_near (k : Nat) : run T (k + 1) "_law_near" = runD 3 (b_L_near (run T k)) := by kernel_rfl
theorem u_L_bent (k : Nat) : run T (k + 1) "_law_bent" = runD 5 (b_L_bent (run T k)) := by kernel_rfl
theorem u_L_thing (k : Nat) : run T (k + 1) "_law_thing" = runD 4 (b_L_thing (run T k)) := by kernel_rfl
theorem u_L_flat (k : Nat) : run T (k + 1) "_law_flat" = runD 6 (b_L_flat (run T k)) := by kernel_rfl
theorem u_L_right (k : Nat) : run T (k + 1) "_law_right" = runD 4 (b_L_right (run T k)) := by kernel_rfl
theorem u_law (k : Nat) : run T (k + 1) "law" = runD 2 (b_law (run T k)) := by kernel_rfl
end Prog

/-! D0: dice, fractions as pairs (plain). -/
namespace Prog
open PySem PySem.Spec PyProof.Rows L2 PD
abbrev Dice := Int × Int × Int
def cellD (t : Dice) : Option (List PyData) := some [.int t.1, .int t.2.1, .int t.2.2]
def Dok (m : Nat) (t : Dice) : Prop := 0 ≤ t.2.1 ∧ t.2.1 < 2147483629 ∧ 0 ≤ t.2.2 ∧ t.2.2 ≤ m
theorem Dok.mono {m n : Nat} {t : Dice} (h : Dok m t) (l : m ≤ n) : Dok n t := ⟨h.1, h.2.1, h.2.2.1, by have := h.2.2.2; omega⟩
theorem mulOk_small {i j : Int} (hi : i.natAbs < 2 ^ 64) (hj : j.natAbs < 2 ^ 64) : mulOk i j = true := mulOk_of (n := 64) (m := 64) hi hj
theorem divOk_small {j : Int} (h0 : j ≠ 0) (hj : j.natAbs < 2 ^ 64) : divOk j = true := divOk_of (n := 64) h0 hj
theorem tap_lt (a b : Int) (hb : 0 < b) : 0 ≤ a.fmod b ∧ a.fmod b < b := by
  rw [Int.fmod_eq_emod_of_nonneg a (by omega)]
  exact ⟨Int.emod_nonneg a (by omega), Int.emod_lt_of_pos a hb⟩
theorem gcd_step (x y : Int) (hy : 0 < y) (hx : 0 ≤ x) : Int.gcd y (x.fmod y) = Int.gcd x y := by
  rw [Int.fmod_eq_emod_of_nonneg x (by omega)]
  obtain ⟨a, rfl⟩ := Int.eq_ofNat_of_zero_le hx
  obtain ⟨b, rfl⟩ := Int.eq_ofNat_of_zero_le (show 0 ≤ y by omega)
  rw [← Int.natCast_emod, Int.gcd_natCast_natCast, Int.gcd_natCast_natCast, Nat.gcd_comm, ← Nat.gcd_rec, Nat.gcd_comm]
abbrev P2 := Int × Int
def pr (p : P2) : PyData := .tuple [.int p.1, .int p.2]
def val (p : P2) : Rat := Rat.divInt p.1 p.2
def nd (q : Rat) : P2 := (q.num, q.den)
def Ok (n : Nat) (p : P2) : Prop := 0 < p.2 ∧ Lt2 n p.1 ∧ Lt2 n p.2
theorem fr_nd (q : Rat) : fr q = pr (nd q) := rfl
theorem val_nd (q : Rat) : val (nd q) = q := Rat.num_divInt_den q
theorem ok_nd {n : Nat} {q : Rat} (h : Sz n q) : Ok n (nd q) := ⟨by have := q.den_pos; simp only [nd]; omega, h.1, h.2⟩
theorem Ok.mono {n m : Nat} {p : P2} (h : Ok n p) (l : n ≤ m) : Ok m p := ⟨h.1, h.2.1.mono l, h.2.2.mono l⟩
def sumP2 (p q : P2) : P2 := (p.1 * q.2 + q.1 * p.2, p.2 * q.2)
def gapP2 (p q : P2) : P2 := (p.1 * q.2 - q.1 * p.2, p.2 * q.2)
def byP2 (p q : P2) : P2 := (p.1 * q.1, p.2 * q.2)
def perP2 (p q : P2) : P2 := (p.1 * q.2, p.2 * q.1)
section
variable {n m : Nat} {p q : P2}
theorem ok_sum (h : Ok n p) (g : Ok m q) : Ok (n + m + 1) (sumP2 p q) := ⟨Int.mul_pos h.1 g.1, ((h.2.1.mul g.2.2).add (g.2.1.mul h.2.2)).mono (by omega), (h.2.2.mul g.2.2).mono (by omega)⟩
theorem ok_gap (h : Ok n p) (g : Ok m q) : Ok (n + m + 1) (gapP2 p q) := ⟨Int.mul_pos h.1 g.1, ((h.2.1.mul g.2.2).sub (g.2.1.mul h.2.2)).mono (by omega), (h.2.2.mul g.2.2).mono (by omega)⟩
theorem ok_by (h : Ok n p) (g : Ok m q) : Ok (n + m) (byP2 p q) := ⟨Int.mul_pos h.1 g.1, h.2.1.mul g.2.1, h.2.2.mul g.2.2⟩
theorem ok_per (h : Ok n p) (g : Ok m q) (g1 : 0 < q.1) : Ok (n + m) (perP2 p q) := ⟨Int.mul_pos h.1 g1, h.2.1.mul g.2.2, h.2.2.mul g.2.1⟩
theorem Ok.ne (h : Ok n p) : p.2 ≠ 0 := by have := h.1; omega
theorem val_sum (h : Ok n p) (g : Ok m q) : val (sumP2 p q) = val p + val q := (Rat.divInt_add_divInt p.1 q.1 h.ne g.ne).symm
theorem val_gap (h : Ok n p) (g : Ok m q) : val (gapP2 p q) = val p - val q := (Rat.divInt_sub_divInt p.1 q.1 h.ne g.ne).symm
theorem val_by : val (byP2 p q) = val p * val q := (Rat.divInt_mul_divInt p.1 q.1).symm
theorem val_per : val (perP2 p q) = val p / val q := by
  unfold val perP2
  rw [Rat.div_def, Rat.inv_divInt, Rat.divInt_mul_divInt]
theorem val_nonneg (h : Ok n p) : 0 ≤ val p ↔ 0 ≤ p.1 := Rat.divInt_nonneg_iff_of_pos_right h.1
theorem val_neg (h : Ok n p) : val p < 0 ↔ p.1 < 0 := by have := val_nonneg h; constructor <;> intro _ <;> grind
theorem val_nonpos (h : Ok n p) : val p ≤ 0 ↔ p.1 ≤ 0 := by
  have h2 : Ok n (-p.1, p.2) := ⟨h.1, h.2.1.neg, h.2.2⟩
  have := val_nonneg h2
  have e : val (-p.1, p.2) = - val p := (Rat.neg_divInt p.1 p.2).symm
  rw [e] at this
  constructor <;> intro _ <;> grind
theorem val_pos (h : Ok n p) : 0 < val p ↔ 0 < p.1 := by have := val_nonpos h; constructor <;> intro _ <;> grind
variable (h : Ok n p) (g : Ok m q) (hn : n + m < 900000)
include h g hn
end
theorem lt2_small {n : Nat} {a : Int} (h0 : -(2 ^ n) < a) (h : a < 2 ^ n) : Lt2 n a := by
  unfold Lt2
  have : ((2 ^ n : Nat) : Int) = 2 ^ n := by simp
  omega
theorem divInt_pos' {a b : Int} (ha : 0 < a) (hb : 0 < b) : 0 < Rat.divInt a b := by
  have ok : Ok (a.natAbs + b.natAbs) (a, b) := ⟨hb, ⟨Nat.lt_of_le_of_lt (by simp only; omega) Nat.lt_two_pow_self, Nat.lt_of_le_of_lt (by simp only; omega) Nat.lt_two_pow_self⟩⟩
  exact (val_pos ok).mpr ha
theorem divInt_neg' {a b : Int} (ha : a < 0) (hb : 0 < b) : Rat.divInt a b < 0 := by
  have ok : Ok (a.natAbs + b.natAbs) (a, b) := ⟨hb, ⟨Nat.lt_of_le_of_lt (by simp only; omega) Nat.lt_two_pow_self, Nat.lt_of_le_of_lt (by simp only; omega) Nat.lt_two_pow_self⟩⟩
  exact (val_neg ok).mpr ha
@[simp] theorem pr_at0 (p : P2) : ixP (pr p) (.int 0) = some (.int p.1) := by simp [pr]
@[simp] theorem pr_at1 (p : P2) : ixP (pr p) (.int 1) = some (.int p.2) := by simp [pr]
@[simp] theorem fr_at0 (q : Rat) : ixP (fr q) (.int 0) = some (.int q.num) := by simp [fr]
@[simp] theorem fr_at1 (q : Rat) : ixP (fr q) (.int 1) = some (.int q.den) := by simp [fr]
theorem lcN_st {α : Type} {g : CG} {elt : CE} {ρ : Rho} (e : α → PyData) (f : α → Rho) (h : α → PyData) : ∀ (l : List α), (∀ x ∈ l, ∀ S, g (.d (e x)) ρ S = some (f x, S)) → (∀ x ∈ l, ∀ S, ∃ S', elt (f x) S = some (.d (h x), S')) → ∀ S, ∃ S', lcN g yesB elt ρ (l.map e) S = some (l.map h, S')
  | [], _, _, S => ⟨S, rfl⟩
  | x :: l, hg, he, S => by
    obtain ⟨S1, e1⟩ := he x List.mem_cons_self S
    obtain ⟨S2, e2⟩ := lcN_st e f h l (fun y m => hg y (List.mem_cons_of_mem _ m)) (fun y m => he y (List.mem_cons_of_mem _ m)) S1
    refine ⟨S2, ?_⟩
    rw [List.map_cons, x_lcN, hg x List.mem_cons_self, Option.bind_some, x_yes, Option.bind_some, if_pos rfl, e1, Option.bind_some]
    show (lcN g yesB elt ρ (l.map e) S1).bind _ = _
    rw [e2]; rfl
theorem sz_lt {n : Nat} {a b : Int} (hb : 0 < b) (ha : a.natAbs < 2 ^ n) (hb2 : b.natAbs < 2 ^ n) : Sz n (Rat.divInt a b) := sz_divInt (by omega) ha hb2
theorem sign_cases' {b : Int} (hb : b ≠ 0) : (0 < b ∧ b.sign = 1) ∨ (b < 0 ∧ b.sign = -1) := by
  rcases Int.lt_trichotomy b 0 with h | h | h
  · exact .inr ⟨h, Int.sign_eq_neg_one_of_neg h⟩
  · exact absurd h hb
  · exact .inl ⟨h, Int.sign_eq_one_of_pos h⟩
theorem sz_val {n : Nat} {p : P2} (h : Ok n p) : Sz n (val p) := sz_divInt h.ne h.2.1 h.2.2
theorem sz_sumP {n m : Nat} {a b : Rat} (ha : Sz n a) (hb : Sz m b) : Sz (n + m + 1) (a + b) := by
  have := sz_val (ok_sum (ok_nd ha) (ok_nd hb))
  rwa [val_sum (ok_nd ha) (ok_nd hb), val_nd, val_nd] at this
theorem sz_mulP {n m : Nat} {p : P2} {b : Rat} (ha : Ok n p) (hb : Sz m b) : Sz (n + m) (val p * b) := by
  have := sz_val (ok_by ha (ok_nd hb))
  rwa [val_by, val_nd] at this
end Prog

/-! M1: the program's fractions (over Prog.T with the defs is_whole .. is_below). -/
namespace Prog
open PySem PySem.Spec PyProof.Rows L2 PD
theorem r_is_whole (k : Nat) (x : PyData) (S : Sto) (h : isDictD x = false) : run T (k + 1) "is_whole" [.d x] S = some (.d (.bool (isIntD x)), S) := by
  rw [u_is_whole]
  refine run_ret (ρ := [some (.d x)]) ?_
  cases x <;> first | (simp [isDictD] at h; done) | simp [b_is_whole, startR]
theorem r_common2 (k : Nat) (a b : Int) (S : Sto) : run T (k + 1) "common_part" [.d (.list [.int a, .int b])] S = some (.d (.int ((Int.gcd a b : Nat) : Int)), S) := by
  rw [u_common_part]
  refine run_ret (ρ := [some (.d (.list [.int a, .int b])), some (.d (.int ((Int.gcd a b : Nat) : Int))), some (.d (.int b))]) ?_
  simp [b_common_part, startR, x_forN, Int.gcd]
theorem r_lowest2 (k : Nat) (a b : Int) (S : Sto) (h : divOk ((Int.gcd a b : Nat) : Int) = true) : run T (k + 2) "lowest" [.d (.list [.int a, .int b])] S = some (.d (.tuple [.int (a.fdiv (Int.gcd a b : Nat)), .int (b.fdiv (Int.gcd a b : Nat))]), S) := by
  rw [u_lowest]
  refine run_ret (ρ := [some (.d (.list [.int a, .int b])), some (.d (.int ((Int.gcd a b : Nat) : Int))), none]) ?_
  simp [b_lowest, startR, r_common2, x_lc, x_lcN, wipeR, h]
theorem sign_cases {b : Int} (hb : b ≠ 0) : (0 < b ∧ b.sign = 1) ∨ (b < 0 ∧ b.sign = -1) := by
  rcases Int.lt_trichotomy b 0 with h | h | h
  · exact .inr ⟨h, Int.sign_eq_neg_one_of_neg h⟩
  · exact absurd h hb
  · exact .inl ⟨h, Int.sign_eq_one_of_pos h⟩
theorem mulOk_one (f a : Int) {n : Nat} (hf : f = 1 ∨ f = -1) (ha : Lt2 n a) (hn : n < 9000) : mulOk f a = true :=
  mulOk_of (n := 1) (m := n) (by rcases hf with rfl | rfl <;> (unfold Lt2; decide)) ha
theorem r_lowest_over {n : Nat} (k : Nat) {a b : Int} (hb : b ≠ 0) (ha : Lt2 n a) (hb' : Lt2 n b) (hn : n < 9000) (S : Sto) :
    run T (k + 3) "lowest_over" [.d (.list [.int a]), .d (.int b)] S = some (.d (fr (Rat.divInt a b)), S) := by
  rw [u_lowest_over]
  have hg0 : Int.gcd a b ≠ 0 := fun e => hb (Int.gcd_eq_zero_iff.mp e).2
  have hgl : Lt2 n ((Int.gcd a b : Nat) : Int) := by
    unfold Lt2
    rw [Int.natAbs_natCast]
    exact Nat.lt_of_le_of_lt (Nat.gcd_le_right _ (Int.natAbs_pos.mpr hb)) hb'
  have hdo : divOk ((Int.gcd a b : Nat) : Int) = true := divOk_of (by omega) hgl hn
  have fdv : ∀ z : Int, z.fdiv ((Int.gcd a b : Nat) : Int) = z / ((Int.gcd a b : Nat) : Int) := fun z => Int.fdiv_eq_ediv_of_nonneg z (by omega)
  have res : ∀ f : Int, f = b.sign → (f * a).fdiv ((Int.gcd a b : Nat) : Int) = (Rat.divInt a b).num ∧ (f * b).fdiv ((Int.gcd a b : Nat) : Int) = ((Rat.divInt a b).den : Int) := by
    rintro f rfl
    have es : b.sign * b = (b.natAbs : Int) := by
      rcases sign_cases hb with ⟨h, e⟩ | ⟨h, e⟩ <;> rw [e] <;> omega
    rw [fdv, fdv, Rat.num_divInt, Rat.den_divInt, if_neg hb, Int.gcd_comm b a, es]
    exact ⟨rfl, (Int.natCast_ediv _ _).symm⟩
  have go : ∀ f : Int, f = b.sign → (f = 1 ∨ f = -1) → run T (k + 2) "lowest" [.d (.list [.int (f * a), .int (f * b)])] S = some (.d (fr (Rat.divInt a b)), S) := by
    intro f hf hf1
    have hgg : Int.gcd (f * a) (f * b) = Int.gcd a b := by
      rcases hf1 with rfl | rfl
      · rw [Int.one_mul, Int.one_mul]
      · rw [Int.neg_mul, Int.one_mul, Int.neg_mul, Int.one_mul, Int.neg_gcd, Int.gcd_neg]
    rw [r_lowest2 k _ _ S (by rw [hgg]; exact hdo), hgg, (res f hf).1, (res f hf).2]
    rfl
  rcases sign_cases hb with ⟨h, hs⟩ | ⟨h, hs⟩
  · refine run_ret (ρ := [some (.d (.list [.int a])), some (.d (.int b)), some (.d (.int 1)), none]) ?_
    have g1 := go 1 hs.symm (.inl rfl)
    have m1 := mulOk_one 1 a (.inl rfl) ha hn
    have m2 := mulOk_one 1 b (.inl rfl) hb' hn
    rw [Int.one_mul, Int.one_mul] at g1
    simp [b_lowest_over, startR, h, x_lc, x_lcN, wipeR, m1, m2, g1]
  · refine run_ret (ρ := [some (.d (.list [.int a])), some (.d (.int b)), some (.d (.int (-1))), none]) ?_
    have hn' : ¬ 0 < b := by omega
    have g1 := go (-1) hs.symm (.inr rfl)
    have m1 := mulOk_one (-1) a (.inr rfl) ha hn
    have m2 := mulOk_one (-1) b (.inr rfl) hb' hn
    rw [Int.neg_mul, Int.one_mul, Int.neg_mul, Int.one_mul] at g1
    simp [b_lowest_over, startR, hn', x_lc, x_lcN, wipeR, m1, m2, g1]
theorem r_ratio {n : Nat} (k : Nat) {a b : Int} (hb : b ≠ 0) (ha : Lt2 n a) (hb' : Lt2 n b) (hn : n < 9000) (S : Sto) :
    run T (k + 4) "ratio" [.d (.int a), .d (.int b)] S = some (.d (fr (Rat.divInt a b)), S) := by
  rw [u_ratio]
  refine run_ret (ρ := [some (.d (.int a)), some (.d (.int b))]) ?_
  simp [b_ratio, startR, r_lowest_over k hb ha hb' hn]
theorem q_add (a b : Rat) : Rat.divInt (a.num * b.den + b.num * a.den) (a.den * b.den) = a + b := by
  have := Rat.divInt_add_divInt a.num b.num (d₁ := a.den) (d₂ := b.den) (by have := a.den_nz; omega) (by have := b.den_nz; omega)
  rw [Rat.num_divInt_den, Rat.num_divInt_den] at this
  exact this.symm
theorem q_sub (a b : Rat) : Rat.divInt (a.num * b.den - b.num * a.den) (a.den * b.den) = a - b := by
  have := Rat.divInt_sub_divInt a.num b.num (d₁ := a.den) (d₂ := b.den) (by have := a.den_nz; omega) (by have := b.den_nz; omega)
  rw [Rat.num_divInt_den, Rat.num_divInt_den] at this
  exact this.symm
theorem q_mul (a b : Rat) : Rat.divInt (a.num * b.num) (a.den * b.den) = a * b := by
  have := Rat.divInt_mul_divInt a.num b.num (d₁ := a.den) (d₂ := b.den)
  rw [Rat.num_divInt_den, Rat.num_divInt_den] at this
  exact this.symm
theorem q_div (a b : Rat) : Rat.divInt (a.num * b.den) (a.den * b.num) = a / b := by
  have := Rat.divInt_mul_divInt a.num b.den (d₁ := a.den) (d₂ := b.num)
  rw [Rat.num_divInt_den, ← Rat.inv_divInt, Rat.num_divInt_den, ← Rat.div_def] at this
  exact this.symm
section
variable {n m : Nat} {a b : Rat}
theorem den_ne (a : Rat) : (a.den : Int) ≠ 0 := by have := a.den_nz; omega
theorem den2_ne (a b : Rat) : (a.den : Int) * b.den ≠ 0 := Int.mul_ne_zero (den_ne a) (den_ne b)
theorem cross_add (ha : Sz n a) (hb : Sz m b) : Lt2 (n + m + 1) (a.num * b.den + b.num * a.den) := by
  have := (ha.1.mul hb.2).add (hb.1.mul ha.2)
  exact this.mono (by omega)
theorem cross_sub (ha : Sz n a) (hb : Sz m b) : Lt2 (n + m + 1) (a.num * b.den - b.num * a.den) := by
  have := (ha.1.mul hb.2).sub (hb.1.mul ha.2)
  exact this.mono (by omega)
theorem r_minus (k : Nat) (ha : Sz n a) (hb : Sz m b) (hn : n + m < 8990) (S : Sto) : run T (k + 5) "minus" [.d (fr a), .d (fr b)] S = some (.d (fr (a - b)), S) := by
  rw [u_minus]
  refine run_ret (ρ := [some (.d (fr a)), some (.d (fr b))]) ?_
  have r1 := r_ratio k (den2_ne a b) (cross_sub ha hb) ((ha.2.mul hb.2).mono (by omega)) (by omega) S
  rw [q_sub] at r1
  simp [b_minus, startR, fr, mulOk_of ha.1 hb.2, mulOk_of hb.1 ha.2, mulOk_of ha.2 hb.2, r1]
theorem r_divided (k : Nat) (h0 : b ≠ 0) (ha : Sz n a) (hb : Sz m b) (hn : n + m < 8990) (S : Sto) : run T (k + 5) "divided" [.d (fr a), .d (fr b)] S = some (.d (fr (a / b)), S) := by
  rw [u_divided]
  refine run_ret (ρ := [some (.d (fr a)), some (.d (fr b))]) ?_
  have hbn : b.num ≠ 0 := fun e => h0 (Rat.num_eq_zero.mp e)
  have r1 := r_ratio k (Int.mul_ne_zero (den_ne a) hbn) (ha.1.mul hb.2) (ha.2.mul hb.1) (by omega) S
  rw [q_div] at r1
  simp [b_divided, startR, fr, mulOk_of ha.1 hb.2, mulOk_of ha.2 hb.1, r1]
theorem r_is_below (k : Nat) (ha : Sz n a) (hb : Sz m b) (hn : n + m < 8990) (S : Sto) : run T (k + 1) "is_below" [.d (fr a), .d (fr b)] S = some (.d (.bool (decide (a < b))), S) := by
  rw [u_is_below]
  refine run_ret (ρ := [some (.d (fr a)), some (.d (fr b))]) ?_
  simp [b_is_below, startR, fr, mulOk_of ha.1 hb.2, mulOk_of hb.1 ha.2, Rat.lt_iff]
theorem sz_add (ha : Sz n a) (hb : Sz m b) : Sz (n + m + 1) (a + b) := by
  rw [← q_add]; exact sz_divInt (den2_ne a b) (cross_add ha hb) ((ha.2.mul hb.2).mono (by omega))
theorem sz_sub (ha : Sz n a) (hb : Sz m b) : Sz (n + m + 1) (a - b) := by
  rw [← q_sub]; exact sz_divInt (den2_ne a b) (cross_sub ha hb) ((ha.2.mul hb.2).mono (by omega))
theorem sz_mul (ha : Sz n a) (hb : Sz m b) : Sz (n + m) (a * b) := by
  rw [← q_mul]; exact sz_divInt (den2_ne a b) (ha.1.mul hb.1) (ha.2.mul hb.2)
theorem sz_div (h0 : b ≠ 0) (ha : Sz n a) (hb : Sz m b) : Sz (n + m) (a / b) := by
  rw [← q_div]; exact sz_divInt (Int.mul_ne_zero (den_ne a) fun e => h0 (Rat.num_eq_zero.mp e)) (ha.1.mul hb.2) (ha.2.mul hb.1)
end
end Prog

/-! M2: the program's kinds (is_fraction .. flow_by). -/
namespace Prog
open PySem PySem.Spec PyProof.Rows L2 PD
abbrev Cr := Rat × Rat
def co (c : Cr) : PyData := .tuple [fr c.1, fr c.2]
def kd (ks : List Cr) : PyData := .tuple (ks.map co)
theorem r_are_wholes (k : Nat) (i j : Int) (S : Sto) : run T (k + 2) "are_wholes" [.d (.tuple [.int i, .int j]), .d (.int 2)] S = some (.d (.bool true), S) := by
  rw [u_are_wholes]
  refine run_ret (ρ := [some (.d (.tuple [.int i, .int j])), some (.d (.int 2)), none]) ?_
  have w : ∀ z : Int, run T (k + 1) "is_whole" [.d (.int z)] S = some (.d (.bool true), S) := fun z => r_is_whole k (.int z) S rfl
  simp [b_are_wholes, startR, x_lc, x_lcN, wipeR, w]
theorem r_is_fraction (k : Nat) (q : Rat) (S : Sto) : run T (k + 3) "is_fraction" [.d (fr q)] S = some (.d (.bool true), S) := by
  rw [u_is_fraction]
  refine run_ret (ρ := [some (.d (fr q))]) ?_
  have h1 : (0 : Int) < (q.den : Int) := by have := q.den_pos; omega
  have h2 : (Nat.gcd q.num.natAbs ((q.den : Int).natAbs) : Nat) = 1 := by rw [Int.natAbs_natCast]; exact q.reduced
  simp [b_is_fraction, startR, fr, r_are_wholes, h1, h2]
  have := q.reduced
  have h3 := q.den_pos
  unfold Nat.Coprime at this
  simp [this, h3]
theorem r_are_fractions (k : Nat) (c : Cr) (S : Sto) : run T (k + 4) "are_fractions" [.d (co c), .d (.int 2)] S = some (.d (.bool true), S) := by
  rw [u_are_fractions]
  refine run_ret (ρ := [some (.d (co c)), some (.d (.int 2)), none]) ?_
  simp [b_are_fractions, startR, co, x_lc, x_lcN, wipeR, r_is_fraction]
theorem r_is_corner (k : Nat) (c : Cr) (S : Sto) : run T (k + 5) "is_corner" [.d (co c)] S = some (.d (.bool true), S) := by
  rw [u_is_corner]
  refine run_ret (ρ := [some (.d (co c))]) ?_
  simp [b_is_corner, startR, r_are_fractions]
def slope (c d : Cr) : Rat := (d.2 - c.2) / (d.1 - c.1)
def speeds (ks : List Cr) : List Rat := (prs ks).map fun p => slope p.1 p.2
def CSz (n : Nat) (c : Cr) : Prop := Sz n c.1 ∧ Sz n c.2
theorem r_slope_of {n : Nat} (k : Nat) {c d : Cr} (hc : CSz n c) (hd : CSz n d) (h : c.1 < d.1) (hn : n < 2000) (S : Sto) : run T (k + 6) "slope_of" [.d (co c), .d (co d)] S = some (.d (fr (slope c d)), S) := by
  rw [u_slope_of]
  refine run_ret (ρ := [some (.d (co c)), some (.d (co d))]) ?_
  have h0 : d.1 - c.1 ≠ 0 := by grind
  have m1 := r_minus k hd.2 hc.2 (by omega) S
  have m2 := r_minus k hd.1 hc.1 (by omega) S
  have m3 := r_divided k h0 (sz_sub hd.2 hc.2) (sz_sub hd.1 hc.1) (by omega) S
  simp [b_slope_of, startR, co, m1, m2, m3, slope]
theorem sz_slope {n : Nat} {c d : Cr} (hc : CSz n c) (hd : CSz n d) (h : c.1 < d.1) : Sz (4 * n + 2) (slope c d) := by
  have h0 : d.1 - c.1 ≠ 0 := by grind
  exact (sz_div h0 (sz_sub hd.2 hc.2) (sz_sub hd.1 hc.1)).mono (by omega)
/-- a kind of road, its numbers of a size -/
structure Kd (n : Nat) (ks : List Cr) : Prop where
  len3 : 3 ≤ ks.length
  len12 : ks.length ≤ 12
  size : ∀ c ∈ ks, CSz n c
  head : ∃ r, ks = (0, 0) :: r
  last : ∃ r d, ks = r ++ [(d, 0)]
  pos : ∀ c ∈ ks.tail.dropLast, 0 < c.2
  asc : ∀ p ∈ prs ks, p.1.1 < p.2.1
  conc : ∀ p ∈ prs (speeds ks), p.2 < p.1
theorem fr0 : fr 0 = .tuple [.int 0, .int 1] := rfl
theorem r_kind_speeds {n : Nat} (k : Nat) {ks : List Cr} (h : Kd n ks) (hn : n < 2000) (S : Sto) : run T (k + 7) "kind_speeds" [.d (kd ks)] S = some (.d (.tuple ((speeds ks).map fr)), S) := by
  rw [u_kind_speeds]
  refine run_ret (ρ := [some (.d (kd ks)), none, none]) ?_
  have hne : ks.map co ≠ [] := by have := h.len3; intro e; rw [List.map_eq_nil_iff] at e; subst e; simp at this
  have hz : zipD (ks.map co) (cutP (ks.map co) (some 1) none) = (prs ks).map fun p => .tuple [co p.1, co p.2] := by rw [drop1_cut _ hne, zipD_prs]
  have hl : (prs ks).length ≤ 100000 := by rw [prs_len]; have := h.len12; omega
  have lc := lcN_each (g := tupG 2 (consG (nameG 1) (consG (nameG 2) nilG))) (elt := appE (callF (c_slope_of (PD.run T (k + 6)))) (consL (varE 1) (consL (varE 2) nilL))) (ρ := [some (.d (kd ks)), none, none]) (S := S)
    (fun p : Cr × Cr => PyData.tuple [co p.1, co p.2]) (fun p => [some (.d (kd ks)), some (.d (co p.1)), some (.d (co p.2))]) (fun p => fr (slope p.1 p.2)) (prs ks) (fun p m => by simp) (fun p m => by
      have q := prs_mem m
      simp [r_slope_of k (h.size _ q.1) (h.size _ q.2) (h.asc p m) hn])
  simp [b_kind_speeds, startR, x_lc, wipeR, kd] at lc ⊢
  simp [hz, hl, lc, speeds]
theorem eqv_co0 : neP (co (0, 0)) (.tuple [.tuple [.int 0, .int 1], .tuple [.int 0, .int 1]]) = some (.bool false) := by unfold neP; rw [if_pos (by rfl)]; rfl
theorem eqv_q0 : neP (.tuple [.int 0, .int 1]) (.tuple [.int 0, .int 1]) = some (.bool false) := by unfold neP; rw [if_pos (by rfl)]; rfl
theorem prs_zip {α : Type} (f : α → PyData) (l : List α) (h : 1 ≤ l.length) : zipD (l.map f) (cutP (l.map f) (some 1) none) = (prs l).map fun p => .tuple [f p.1, f p.2] := by
  rw [drop1_cut _ (by intro e; rw [List.map_eq_nil_iff] at e; subst e; simp at h), zipD_prs]
theorem sz_speed {n : Nat} {ks : List Cr} (h : Kd n ks) : ∀ q ∈ speeds ks, Sz (4 * n + 2) q := by
  intro q m
  obtain ⟨p, m', rfl⟩ := List.mem_map.mp m
  have := prs_mem m'
  exact sz_slope (h.size _ this.1) (h.size _ this.2) (h.asc p m')
theorem r_is_kind {n : Nat} (k : Nat) {ks : List Cr} (h : Kd n ks) (hn : n < 1000) (S : Sto) : run T (k + 8) "is_kind" [.d (kd ks)] S = some (.d (.bool true), S) := by
  rw [u_is_kind]
  have l3 := h.len3
  have l12 := h.len12
  have a0 : atI (ks.map co) 0 = some (co (0, 0)) := by obtain ⟨r, rfl⟩ := h.head; rw [List.map_cons]; exact at0 _ _
  obtain ⟨d, a1⟩ : ∃ d, atI (ks.map co) (-1) = some (co (d, 0)) := by obtain ⟨r, d, rfl⟩ := h.last; exact ⟨d, by rw [List.map_append]; exact at_last _ _⟩
  have z1 := prs_zip co ks (by omega)
  have z2 := prs_zip fr (speeds ks) (by unfold speeds; rw [List.length_map, prs_len]; omega)
  have lp : (prs ks).length ≤ 100000 := by rw [prs_len]; omega
  have ls : (prs (speeds ks)).length ≤ 100000 := by rw [prs_len]; unfold speeds; rw [List.length_map, prs_len]; omega
  have cm : cutP (ks.map co) (some 1) (some (-1)) = ks.tail.dropLast.map co := by rw [cut_mid _ (by simp; omega)]; simp
  have lm : (ks.tail.dropLast).length ≤ 100000 := by simp; omega
  have rest : ∀ c ∈ ks.tail.dropLast, ¬ c.2.num ≤ 0 := fun c m => by have := h.pos c m; rw [Rat.lt_iff] at this; simpa using this
  generalize ks.tail.dropLast = mid at cm lm rest
  have lk : ks.length ≤ 100000 := by omega
  have c1 : (3 : Int) ≤ ks.length := by omega
  have c2 : (ks.length : Int) ≤ 12 := by omega
  have hk := r_kind_speeds k h (by omega) S
  refine run_ret (ρ := [some (.d (kd ks)), some (.d (.tuple ((speeds ks).map fr))), none, none, none]) ?_
  simp only [kd] at hk ⊢
  simp [b_is_kind, startR, kd, x_lc, wipeR, lk, c1, c2]
  rw [lcN_none co (fun c => [some (.d (.tuple (ks.map co))), none, some (.d (co c)), none, none]) ks (fun c m => by simp) (fun c m => by simp [r_is_corner])]
  simp [x_lc, wipeR, a0, a1, cm, eqv_co0]
  simp [co, fr0, eqv_q0, lm, cm]
  rw [lcN_none co (fun c => [some (.d (.tuple (ks.map co))), none, some (.d (co c)), none, none]) mid (fun c m => by simp [co]) (fun c m => by simp [co, fr]; have := rest c m; omega)]
  simp [x_lc, wipeR, z1, lp]
  rw [lcN_none (fun p : Cr × Cr => PyData.tuple [co p.1, co p.2]) (fun p => [some (.d (.tuple (ks.map co))), none, some (.d (co p.1)), some (.d (co p.2)), none]) (prs ks) (fun p m => by simp) (fun p m => by
    have q := prs_mem m
    have b := r_is_below (k + 6) (h.size _ q.1).1 (h.size _ q.2).1 (by omega) S
    simp [co, b, h.asc p m])]
  simp [x_lc, wipeR, hk, z2, ls]
  rw [lcN_none (fun p : Rat × Rat => PyData.tuple [fr p.1, fr p.2]) (fun p => [some (.d (.tuple (ks.map co))), some (.d (.tuple ((speeds ks).map fr))), none, some (.d (fr p.2)), some (.d (fr p.1))]) (prs (speeds ks)) (fun p m => by simp) (fun p m => by
    have q := prs_mem m
    have b := r_is_below (k + 6) (sz_speed h _ q.2) (sz_speed h _ q.1) (by omega) S
    simp [b, h.conc p m])]
  simp
/-- the full density of a kind -/
def fullD (ks : List Cr) : Rat := (ks.getLast?.getD (0, 0)).1
theorem at_lastD {ks : List Cr} (h : ks ≠ []) : atI (ks.map co) (-1) = some (co (ks.getLast?.getD (0, 0))) := by
  obtain ⟨r, c, rfl⟩ : ∃ r c, ks = r ++ [c] := ⟨_, _, (List.dropLast_concat_getLast h).symm⟩
  rw [List.map_append, List.map_singleton, at_last]
  simp
/-- the flow at a density, by the corners -/
def flowL : Cr → List Cr → Rat → Rat
  | _, [], _ => 0
  | last, c :: r, d => if c.1 < d then flowL c r d else last.2 + slope last c * (d - last.1)
def flow : List Cr → Rat → Rat
  | [], _ => 0
  | c :: r, d => flowL c r d
theorem sz_piece {n m : Nat} {c d : Cr} {q : Rat} (hc : CSz n c) (hd : CSz n d) (h : c.1 < d.1) (hq : Sz m q) : Sz (6 * n + m + 4) (c.2 + slope c d * (q - c.1)) :=
  (sz_add hc.2 (sz_mul (sz_slope hc hd h) (sz_sub hq hc.1))).mono (by omega)
theorem sz_flowL {n m : Nat} {q : Rat} (hq : Sz m q) : ∀ (r : List Cr) (last : Cr), (∀ c ∈ last :: r, CSz n c) → (∀ p ∈ prs (last :: r), p.1.1 < p.2.1) → Sz (6 * n + m + 4) (flowL last r q)
  | [], _, _, _ => ⟨(show Lt2 1 0 by unfold Lt2; decide).mono (by omega), (show Lt2 1 1 by unfold Lt2; decide).mono (by omega)⟩
  | c :: r, last, h1, h2 => by
    unfold flowL
    by_cases hc : c.1 < q
    · rw [if_pos hc]; exact sz_flowL hq r c (fun d m => h1 d (List.mem_cons_of_mem _ m)) (fun p m => h2 p (List.mem_cons_of_mem _ m))
    · rw [if_neg hc]; exact sz_piece (h1 last List.mem_cons_self) (h1 c (List.mem_cons_of_mem _ List.mem_cons_self)) (h2 (last, c) List.mem_cons_self) hq
theorem Kd.ne {n : Nat} {ks : List Cr} (h : Kd n ks) : ks ≠ [] := by have := h.len3; intro e; subst e; simp at this
theorem sz_flow {n m : Nat} {ks : List Cr} {q : Rat} (h : Kd n ks) (hq : Sz m q) : Sz (6 * n + m + 4) (flow ks q) := by
  cases ks with
  | nil => exact absurd rfl h.ne
  | cons c r => exact sz_flowL hq r c h.size h.asc
theorem Kd.fullsz {n : Nat} {ks : List Cr} (h : Kd n ks) : Sz n (fullD ks) := by
  obtain ⟨r, d, e⟩ := h.last
  have := h.size (d, 0) (by rw [e]; simp)
  subst e
  simpa [fullD] using this.1
/-- the road is bare there -/
def Bare (ks js : List Cr) (d : Rat) : Prop := ¬ fullD ks < d ∧ ¬ fullD js < d ∧ flow ks d < flow js d
instance (ks js : List Cr) (d : Rat) : Decidable (Bare ks js d) := by unfold Bare; infer_instance
def bare (ks js : List Cr) : Option Rat := ((ks ++ js).map Prod.fst).find? fun d => decide (Bare ks js d)
def bareD : Option Rat → PyData
  | none => .none
  | some q => fr q
theorem isNone_bareD (o : Option Rat) : isNone (.d (bareD o)) = o.isNone := by cases o <;> rfl
end Prog

/-! A1: the spring and its draws, the law's fractions (family A). -/
namespace Prog
open PySem PySem.Spec PyProof.Rows L2 PD
theorem r_draw {m : Nat} (k : Nat) {t : Dice} (h : Dok m t) (hm : m < 1000000) (top : Int) (ht : 0 < top) (ht2 : top < 1073741824) (S0 r : Sto) : ∃ d t', 0 ≤ d ∧ d < top ∧ Dok (m + 1) t' ∧
    run T (k + 1) "_law_draw" [.m S0.length, .d (.int top)] (S0 ++ cellD t :: r) = some (.d (.int d), S0 ++ cellD t' :: r) := by
  obtain ⟨a, b, c⟩ := t
  obtain ⟨h1, h2, h3, h4⟩ := h
  simp only at h1 h2 h3 h4
  rw [u_L_draw]
  have t0 : top ≠ 0 := by omega
  have td : divOk top = true := divOk_small t0 (by omega)
  by_cases ha : 0 < a
  · refine ⟨a.fmod top, (a.fdiv top, b, c), (tap_lt a top ht).1, (tap_lt a top ht).2, ⟨h1, h2, h3, by simp only; omega⟩, ?_⟩
    rw [x_run]
    simp [b_L_draw, startR, cellD, ha, t0, td, x_sub1, ixN]
  · have s2 := tap_lt (b * (31607 + 6 * (c + 1)) + 90247 * (c + 1) + 17) 2147483587 (by omega)
    have s3 := tap_lt (((b * (31607 + 6 * (c + 1)) + 90247 * (c + 1) + 17).fmod 2147483587).fdiv 71) top ht
    refine ⟨_, (a, (b * (31607 + 6 * (c + 1)) + 90247 * (c + 1) + 17).fmod 2147483587, c + 1), s3.1, s3.2, ⟨s2.1, by simp only; omega, by simp only; omega, by simp only; omega⟩, ?_⟩
    have k1 : mulOk b (31607 + 6 * (c + 1)) = true := mulOk_small (by omega) (by omega)
    have k2 : mulOk 90247 (c + 1) = true := mulOk_small (by omega) (by omega)
    have k4 : mulOk 6 (c + 1) = true := mulOk_small (by omega) (by omega)
    have k3 : divOk 71 = true := divOk_small (by omega) (by omega)
    rw [x_run]
    simp [b_L_draw, startR, cellD, ha, x_sub1, ixN, k1, k2, k3, k4, t0]
theorem r_pick {m : Nat} (k : Nat) {t : Dice} (h : Dok m t) (hm : m < 1000000) (xs : List PyData) (h0 : 0 < xs.length) (h1 : xs.length < 1000) (S0 r : Sto) : ∃ x ∈ xs, ∃ t', Dok (m + 1) t' ∧
    run T (k + 2) "_law_pick" [.m S0.length, .d (.list xs)] (S0 ++ cellD t :: r) = some (.d x, S0 ++ cellD t' :: r) := by
  obtain ⟨d, t', d0, d1, ht, hr⟩ := r_draw k h hm xs.length (by omega) (by omega) S0 r
  obtain ⟨n, rfl⟩ : ∃ n : Nat, d = n := ⟨d.toNat, by omega⟩
  have hn : n < xs.length := by omega
  refine ⟨xs[n], List.getElem_mem hn, t', ht, ?_⟩
  have ha : atI xs (n : Int) = some xs[n] := atI_nat (List.getElem?_eq_getElem hn)
  rw [u_L_pick, x_run]
  simp [b_L_pick, startR, hr, ha]
theorem r_pickT {m : Nat} (k : Nat) {t : Dice} (h : Dok m t) (hm : m < 1000000) (xs : List PyData) (h0 : 0 < xs.length) (h1 : xs.length < 1000) (S0 r : Sto) : ∃ x ∈ xs, ∃ t', Dok (m + 1) t' ∧
    run T (k + 2) "_law_pick" [.m S0.length, .d (.tuple xs)] (S0 ++ cellD t :: r) = some (.d x, S0 ++ cellD t' :: r) := by
  obtain ⟨d, t', d0, d1, ht, hr⟩ := r_draw k h hm xs.length (by omega) (by omega) S0 r
  obtain ⟨n, rfl⟩ : ∃ n : Nat, d = n := ⟨d.toNat, by omega⟩
  have hn : n < xs.length := by omega
  refine ⟨xs[n], List.getElem_mem hn, t', ht, ?_⟩
  have ha : atI xs (n : Int) = some xs[n] := atI_nat (List.getElem?_eq_getElem hn)
  rw [u_L_pick, x_run]
  simp [b_L_pick, startR, hr, ha]
theorem allInt_map : ∀ l : List Int, allInt (l.map PyData.int) = some l
  | [] => rfl
  | x :: l => by rw [List.map_cons]; unfold allInt; rw [allInt_map l]; rfl
theorem r_spring (k : Nat) (ns : List Int) (turn : Nat) (ht : turn < 1000) (S : Sto) : ∃ t, Dok 0 t ∧ run T (k + 1) "_law_spring" [.d (.list (ns.map PyData.int)), .d (.int turn)] S = some (.m S.length, S ++ [cellD t]) := by
  have c5 := cut_to (ns.map PyData.int) 5
  rw [← List.map_take] at c5
  have c5' : cutP (ns.map PyData.int) none (some 5) = (ns.take 5).map PyData.int := c5
  have sm : ∃ z : Int, sumP [.list ((ns.take 5).map PyData.int)] = some (.int z) := by
    refine ⟨(ns.take 5).sum, ?_⟩
    show (allInt ((ns.take 5).map PyData.int)).bind _ = _
    rw [allInt_map]
    rfl
  obtain ⟨z, hz⟩ := sm
  obtain ⟨own, hown⟩ : ∃ own : Int, ∀ ρ : Rho, ρ[0]? = some (some (.d (.list (ns.map PyData.int)))) → ρ[1]? = some (some (.d (.int turn))) → ifE (valB (binE (pf2 ltP) (varE 1) (appE (pfN lenP) (consL (varE 0) nilL)))) (appE (pfN intP) (consL (binE (pf2 ixP) (varE 0) (varE 1)) nilL)) (binE (pf2 addP) (binE (pf2 addP) (binE (pf2 mulP) (constE (.int 5171)) (varE 1)) (constE (.int 367))) (binE (pf2 modP) (appE (pfN intP) (consL (appE (pfN sumP) (consL (sliceE (varE 0) noO (someO (constE (.int 5)))) nilL)) nilL)) (constE (.int 1000033)))) ρ S = some (.d (.int own), S) := by
    by_cases h : turn < ns.length
    · refine ⟨ns[turn], fun ρ h0 h1 => ?_⟩
      have a : atI (ns.map PyData.int) (turn : Int) = some (.int ns[turn]) := atI_nat (by rw [List.getElem?_map, List.getElem?_eq_getElem h]; rfl)
      simp [h0, h1, h, a]
    · refine ⟨5171 * turn + 367 + z.fmod 1000033, fun ρ h0 h1 => ?_⟩
      have : mulOk 5171 turn = true := mulOk_small (by omega) (by omega)
      simp only [List.map_take] at hz c5'
      simp [h0, h1, h, this, c5', hz]
  have ct := cut_to (ns.map PyData.int) 63
  rw [← List.map_take] at ct
  have ct' : cutP (ns.map PyData.int) none (some 63) = (ns.take 63).map PyData.int := ct
  have k0 : mulOk 2903 turn = true := mulOk_small (by omega) (by omega)
  have le : (ns.take 63).length + 1 ≤ 100000 := by rw [List.length_take]; omega
  rw [u_L_spring, x_run]
  refine (?_ : (fun o => ∃ t, Dok 0 t ∧ o = some (W.m S.length, S ++ [cellD t])) _)
  generalize hP : (fun o => ∃ t, Dok 0 t ∧ o = some (W.m S.length, S ++ [cellD t])) = P
  unfold b_L_spring
  rw [x_seq, x_asg, hown _ rfl rfl]
  have le' : min 63 ns.length + 1 ≤ 100000 := by omega
  simp [startR, Option.bind_assoc, ct', k0, le']
  rw [show (List.take 63 (List.map PyData.int ns) ++ [PyData.int own]) = (ns.take 63 ++ [own]).map PyData.int by simp]
  refine forN_bind P PyData.int (fun s : Int × Option W => [some (.d (.list (ns.map PyData.int))), some (.d (.int turn)), some (.d (.int own)), some (.d (.int s.1)), s.2]) (fun _ => S)
    (fun l s => 0 ≤ s.1 ∧ s.1 < 2147483629)
    (fun fl ρ S' => ∃ (a : Int) (w : Option W), 0 ≤ a ∧ a < 2147483629 ∧ fl = .nx ∧ S' = S ∧ ρ = [some (.d (.list (ns.map PyData.int))), some (.d (.int turn)), some (.d (.int own)), some (.d (.int a)), w]) (ns.take 63 ++ [own]) (70657 + 2903 * turn, none) ⟨by simp only; omega, by simp only; omega⟩ rfl rfl ?_ ?_ ?_
  · rintro ⟨a, w⟩ ⟨h1, h2⟩
    exact ⟨a, w, h1, h2, rfl, rfl, rfl⟩
  · rintro z l ⟨a, w⟩ ⟨h1, h2⟩
    simp only at h1 h2
    have k1 : mulOk a 52919 = true := mulOk_small (by omega) (by omega)
    have b := tap_lt (a * 52919 + z.fmod 2147483629 + 29) 2147483629 (by omega)
    refine .nx' ((a * 52919 + z.fmod 2147483629 + 29).fmod 2147483629, some (.d (.int z))) ⟨b.1, b.2⟩ ?_
    simp [k1]
  · rintro fl ρ S' ⟨a, w, h1, h2, rfl, rfl, rfl⟩
    rw [← hP]
    by_cases n0 : own < 0
    · refine ⟨(-own, a, 0), ⟨h1, h2, Int.le_refl _, Int.le_refl _⟩, ?_⟩
      simp [n0, cellD, leave]
    · by_cases n1 : (10 : Int) ^ 18 ≤ own
      · refine ⟨(own, a, 0), ⟨h1, h2, Int.le_refl _, Int.le_refl _⟩, ?_⟩
        simp at n1
        simp [n0, n1, cellD, leave, x_pow]
      · refine ⟨(0, a, 0), ⟨h1, h2, Int.le_refl _, Int.le_refl _⟩, ?_⟩
        simp at n1
        have n1' : ¬ 1000000000000000000 ≤ own := by omega
        simp [n0, n1', cellD, leave, x_pow]
theorem r_shared {n : Nat} (k : Nat) {a b : Int} (hb : Lt2 n b) (hn : n < 9000) (S : Sto) : run T (k + 1) "_law_shared" [.d (.int a), .d (.int b)] S = some (.d (.int ((Int.gcd a b : Nat) : Int)), S) := by
  rw [u_L_shared, x_run]
  simp [b_L_shared, startR, Option.bind_assoc]
  refine whileS_bind (fun o => o = some (W.d (.int ((Int.gcd a b : Nat) : Int)), S)) (fun s : Int × Int => [some (.d (.int a)), some (.d (.int b)), some (.d (.int s.1)), some (.d (.int s.2))]) (fun _ => S)
    (fun n s => 0 ≤ s.1 ∧ 0 ≤ s.2 ∧ s.2 < n ∧ Int.gcd s.1 s.2 = Int.gcd a b)
    (fun fl ρ S' => S' = S ∧ fl = .nx ∧ ρ = [some (.d (.int a)), some (.d (.int b)), some (.d (.int ((Int.gcd a b : Nat) : Int))), some (.d (.int 0))]) (if a < 0 then -a else a, if b < 0 then -b else b) ?_ rfl rfl ?_ ?_ ?_
  · refine ⟨by simp only; split <;> omega, by simp only; split <;> omega, ?_, ?_⟩
    · simp only
      have h2 : b.natAbs < fuel := Nat.lt_of_lt_of_le hb (by unfold fuel; exact Nat.pow_le_pow_right (by decide) (by omega))
      generalize fuel = f at h2
      split <;> omega
    · simp only
      split <;> split <;> simp
  · rintro ⟨x, y⟩ ⟨_, h2, h3, _⟩
    simp only at h2 h3
    omega
  · rintro j ⟨x, y⟩ ⟨h1, h2, h3, h4⟩
    simp only at h1 h2 h3 h4
    by_cases hy : y = 0
    · subst hy
      refine .inl ⟨by simp, rfl, rfl, ?_⟩
      rw [← h4]
      simp
      omega
    · have hy' : 0 < y := by omega
      refine .inr ⟨by simp [hy], .nx' (y, x.fmod y) ⟨by simp only; omega, (tap_lt x y hy').1, ?_, ?_⟩ ?_⟩
      · have := (tap_lt x y hy').2
        simp only; omega
      · simp only; rw [gcd_step x y hy' h1, h4]
      · simp [hy]
  · rintro fl ρ S' ⟨rfl, rfl, rfl⟩
    simp
theorem r_frac {n : Nat} (k : Nat) {a b : Int} (hb : b ≠ 0) (ha : Lt2 n a) (hb' : Lt2 n b) (hn : n < 9000) (S : Sto) : run T (k + 2) "_law_frac" [.d (.int a), .d (.int b)] S = some (.d (fr (Rat.divInt a b)), S) := by
  have hg0 : Int.gcd a b ≠ 0 := fun e => hb (Int.gcd_eq_zero_iff.mp e).2
  have hgl : Lt2 n ((Int.gcd a b : Nat) : Int) := by
    unfold Lt2
    rw [Int.natAbs_natCast]
    exact Nat.lt_of_le_of_lt (Nat.gcd_le_right _ (Int.natAbs_pos.mpr hb)) hb'
  have sh := r_shared k (a := a) (b := b) hb' hn S
  have hdo : divOk ((Int.gcd a b : Nat) : Int) = true := divOk_of (by omega) hgl hn
  have hdo' : divOk (-((Int.gcd a b : Nat) : Int)) = true := divOk_of (by omega) hgl.neg hn
  rw [u_L_frac]
  rcases sign_cases' hb with ⟨h, hs⟩ | ⟨h, hs⟩
  · have hres : fr (Rat.divInt a b) = .tuple [.int (a.fdiv (Int.gcd a b : Nat)), .int (b.fdiv (Int.gcd a b : Nat))] := by
      unfold fr
      rw [Int.fdiv_eq_ediv_of_nonneg _ (by omega), Int.fdiv_eq_ediv_of_nonneg _ (by omega), Rat.num_divInt, Rat.den_divInt, if_neg hb, Int.gcd_comm b a, hs, Int.one_mul]
      have : ((b.natAbs / Int.gcd a b : Nat) : Int) = b / (Int.gcd a b : Nat) := by rw [Int.natCast_ediv]; congr 1; omega
      rw [← this]
    refine run_ret (ρ := [some (.d (.int a)), some (.d (.int b)), some (.d (.int ((Int.gcd a b : Nat) : Int)))]) ?_
    simp [b_L_frac, startR, sh, h, hdo, hres]
  · have hn0 : ¬ 0 < b := by omega
    have fneg : ∀ z : Int, z.fdiv (-((Int.gcd a b : Nat) : Int)) = (-z) / ((Int.gcd a b : Nat) : Int) := fun z => by
      have e : z.fdiv (-((Int.gcd a b : Nat) : Int)) = (-z).fdiv ((Int.gcd a b : Nat) : Int) := by
        have := Int.neg_fdiv_neg z (-((Int.gcd a b : Nat) : Int))
        rw [Int.neg_neg] at this
        exact this.symm
      rw [e, Int.fdiv_eq_ediv_of_nonneg _ (by omega)]
    have hres : fr (Rat.divInt a b) = .tuple [.int (a.fdiv (-(Int.gcd a b : Nat))), .int (b.fdiv (-(Int.gcd a b : Nat)))] := by
      unfold fr
      rw [fneg, fneg, Rat.num_divInt, Rat.den_divInt, if_neg hb, Int.gcd_comm b a, hs]
      have : ((b.natAbs / Int.gcd a b : Nat) : Int) = -b / (Int.gcd a b : Nat) := by rw [Int.natCast_ediv]; congr 1; omega
      rw [← this]
      simp
    refine run_ret (ρ := [some (.d (.int a)), some (.d (.int b)), some (.d (.int (-((Int.gcd a b : Nat) : Int))))]) ?_
    simp [b_L_frac, startR, sh, hn0, hdo', hres]
theorem r_addP {n m : Nat} (k : Nat) {p q : P2} (h : Ok n p) (g : Ok m q) (hn : n + m < 8990) (S : Sto) : run T (k + 3) "_law_add" [.d (pr p), .d (pr q)] S = some (.d (fr (val p + val q)), S) := by
  rw [u_L_add]
  refine run_ret (ρ := [some (.d (pr p)), some (.d (pr q))]) ?_
  have o := ok_sum h g
  have f := r_frac k o.ne o.2.1 o.2.2 (by omega) S
  have v : Rat.divInt (sumP2 p q).1 (sumP2 p q).2 = val p + val q := val_sum h g
  rw [v] at f
  simp only [sumP2] at f
  simp [b_L_add, startR, mulOk_of h.2.1 g.2.2, mulOk_of g.2.1 h.2.2, mulOk_of h.2.2 g.2.2, f]
theorem r_add {n m : Nat} (k : Nat) {p q : Rat} (h : Sz n p) (g : Sz m q) (hn : n + m < 8990) (S : Sto) : run T (k + 3) "_law_add" [.d (fr p), .d (fr q)] S = some (.d (fr (p + q)), S) := by
  have := r_addP k (ok_nd h) (ok_nd g) hn S
  rwa [val_nd, val_nd] at this
theorem r_subP {n m : Nat} (k : Nat) {p q : P2} (h : Ok n p) (g : Ok m q) (hn : n + m < 8990) (S : Sto) : run T (k + 3) "_law_sub" [.d (pr p), .d (pr q)] S = some (.d (fr (val p - val q)), S) := by
  rw [u_L_sub]
  refine run_ret (ρ := [some (.d (pr p)), some (.d (pr q))]) ?_
  have o := ok_gap h g
  have f := r_frac k o.ne o.2.1 o.2.2 (by omega) S
  have v : Rat.divInt (gapP2 p q).1 (gapP2 p q).2 = val p - val q := val_gap h g
  rw [v] at f
  simp only [gapP2] at f
  simp [b_L_sub, startR, mulOk_of h.2.1 g.2.2, mulOk_of g.2.1 h.2.2, mulOk_of h.2.2 g.2.2, f]
theorem r_sub {n m : Nat} (k : Nat) {p q : Rat} (h : Sz n p) (g : Sz m q) (hn : n + m < 8990) (S : Sto) : run T (k + 3) "_law_sub" [.d (fr p), .d (fr q)] S = some (.d (fr (p - q)), S) := by
  have := r_subP k (ok_nd h) (ok_nd g) hn S
  rwa [val_nd, val_nd] at this
theorem r_mulP {n m : Nat} (k : Nat) {p q : P2} (h : Ok n p) (g : Ok m q) (hn : n + m < 8990) (S : Sto) : run T (k + 3) "_law_mul" [.d (pr p), .d (pr q)] S = some (.d (fr (val p * val q)), S) := by
  rw [u_L_mul]
  refine run_ret (ρ := [some (.d (pr p)), some (.d (pr q))]) ?_
  have o := ok_by h g
  have f := r_frac k o.ne o.2.1 o.2.2 (by omega) S
  have v : Rat.divInt (byP2 p q).1 (byP2 p q).2 = val p * val q := val_by
  rw [v] at f
  simp only [byP2] at f
  simp [b_L_mul, startR, mulOk_of h.2.1 g.2.1, mulOk_of h.2.2 g.2.2, f]
theorem r_mul {n m : Nat} (k : Nat) {p q : Rat} (h : Sz n p) (g : Sz m q) (hn : n + m < 8990) (S : Sto) : run T (k + 3) "_law_mul" [.d (fr p), .d (fr q)] S = some (.d (fr (p * q)), S) := by
  have := r_mulP k (ok_nd h) (ok_nd g) hn S
  rwa [val_nd, val_nd] at this
theorem r_divP {n m : Nat} (k : Nat) {p q : P2} (h : Ok n p) (g : Ok m q) (g0 : q.1 ≠ 0) (hn : n + m < 8990) (S : Sto) : run T (k + 3) "_law_div" [.d (pr p), .d (pr q)] S = some (.d (fr (val p / val q)), S) := by
  rw [u_L_div]
  refine run_ret (ρ := [some (.d (pr p)), some (.d (pr q))]) ?_
  have f := r_frac (n := n + m) k (a := p.1 * q.2) (b := p.2 * q.1) (Int.mul_ne_zero h.ne g0) (h.2.1.mul g.2.2) (h.2.2.mul g.2.1) (by omega) S
  have v : Rat.divInt (perP2 p q).1 (perP2 p q).2 = val p / val q := val_per
  simp only [perP2] at v
  rw [v] at f
  simp [b_L_div, startR, mulOk_of h.2.1 g.2.2, mulOk_of h.2.2 g.2.1, f]
theorem r_div {n m : Nat} (k : Nat) {p q : Rat} (h : Sz n p) (g : Sz m q) (q0 : q ≠ 0) (hn : n + m < 8990) (S : Sto) : run T (k + 3) "_law_div" [.d (fr p), .d (fr q)] S = some (.d (fr (p / q)), S) := by
  have := r_divP k (ok_nd h) (ok_nd g) (fun e => q0 (by rw [← val_nd q]; unfold val; rw [e]; simp)) hn S
  rwa [val_nd, val_nd] at this
theorem r_underP {n m : Nat} (k : Nat) {p q : P2} (h : Ok n p) (g : Ok m q) (hn : n + m < 900000) (S : Sto) : run T (k + 1) "_law_under" [.d (pr p), .d (pr q)] S = some (.d (.bool (decide (val p < val q))), S) := by
  rw [u_L_under]
  refine run_ret (ρ := [some (.d (pr p)), some (.d (pr q))]) ?_
  have o := ok_gap h g
  have v := val_neg o
  rw [val_gap h g] at v
  have e : (p.1 * q.2 < q.1 * p.2) = (val p < val q) := by
    rw [show (val p < val q) = (val p - val q < 0) from propext ⟨fun _ => by grind, fun _ => by grind⟩, propext v]
    simp only [gapP2]
    exact propext ⟨fun _ => by omega, fun _ => by omega⟩
  simp [b_L_under, startR, mulOk_of h.2.1 g.2.2, mulOk_of g.2.1 h.2.2, e]
theorem r_under {n m : Nat} (k : Nat) {p q : Rat} (h : Sz n p) (g : Sz m q) (hn : n + m < 900000) (S : Sto) : run T (k + 1) "_law_under" [.d (fr p), .d (fr q)] S = some (.d (.bool (decide (p < q))), S) := by
  have := r_underP k (ok_nd h) (ok_nd g) hn S
  rwa [val_nd, val_nd] at this
theorem r_partP {n m l : Nat} (k : Nat) {x y : Rat} {b : P2} (hx : Sz n x) (hy : Sz m y) (hb : Ok l b) (hn : 2 * n + m + l < 8980) (S : Sto) : run T (k + 4) "_law_part" [.d (fr x), .d (fr y), .d (pr b)] S = some (.d (fr (x + val b * (y - x))), S) := by
  rw [u_L_part]
  refine run_ret (ρ := [some (.d (fr x)), some (.d (fr y)), some (.d (pr b))]) ?_
  have e1 := r_sub k hy hx (by omega) S
  have z1 := sz_sub hy hx
  have e2 := r_mulP k hb (ok_nd z1) (by omega) S
  rw [val_nd] at e2
  have z2 : Sz (l + (m + n + 1)) (val b * (y - x)) := sz_mulP hb z1
  have e3 := r_add k hx z2 (by omega) S
  simp only [← fr_nd] at e2
  simp [b_L_part, startR, e1, e2, e3]
theorem r_part {n m l : Nat} (k : Nat) {x y b : Rat} (hx : Sz n x) (hy : Sz m y) (hb : Sz l b) (hn : 2 * n + m + l < 8980) (S : Sto) : run T (k + 4) "_law_part" [.d (fr x), .d (fr y), .d (fr b)] S = some (.d (fr (x + b * (y - x))), S) := by
  have := r_partP k hx hy (ok_nd hb) hn S
  rwa [val_nd] at this
theorem r_small {m : Nat} (k : Nat) {t : Dice} (h : Dok m t) (hm : m < 900000) (S0 r : Sto) : ∃ q t', 0 < q ∧ Sz 3 q ∧ Dok (m + 2) t' ∧ run T (k + 3) "_law_small" [.m S0.length] (S0 ++ cellD t :: r) = some (.d (fr q), S0 ++ cellD t' :: r) := by
  obtain ⟨d1, t1, d10, d11, h1, e1⟩ := r_draw (k + 1) h (by omega) 4 (by omega) (by omega) S0 r
  obtain ⟨d2, t2, d20, d21, h2, e2⟩ := r_draw (k + 1) h1 (by omega) 2 (by omega) (by omega) S0 r
  have l1 : Lt2 3 (1 + d1) := by unfold Lt2; omega
  have l2 : Lt2 3 (1 + d2) := by unfold Lt2; omega
  have e3 := r_frac (n := 3) k (a := 1 + d1) (b := 1 + d2) (by omega) l1 l2 (by omega) (S0 ++ cellD t2 :: r)
  refine ⟨Rat.divInt (1 + d1) (1 + d2), t2, divInt_pos' (by omega) (by omega), sz_divInt (by omega) l1 l2, h2, ?_⟩
  rw [u_L_small, x_run]
  simp [b_L_small, startR, e1, e2, e3]
end Prog

/-! D1: kinds made corner by corner (plain). -/
namespace Prog
open PySem PySem.Spec PyProof.Rows L2 PD
theorem prs_snoc {α : Type} : ∀ (r : List α) (a b : α), prs ((r ++ [a]) ++ [b]) = prs (r ++ [a]) ++ [(a, b)]
  | [], a, b => rfl
  | [x], a, b => rfl
  | x :: y :: r, a, b => by
    have := prs_snoc (y :: r) a b
    show (x, y) :: prs (((y :: r) ++ [a]) ++ [b]) = (x, y) :: (prs ((y :: r) ++ [a]) ++ [(a, b)])
    rw [this]
theorem prs_snoc_mem {α : Type} {l : List α} {v : α} {p : α × α} (h : p ∈ prs (l ++ [v])) : p ∈ prs l ∨ (p.1 ∈ l ∧ p.2 = v) := by
  rcases List.eq_nil_or_concat l with rfl | ⟨r, a, rfl⟩
  · cases h
  · rw [List.concat_eq_append] at h ⊢
    rw [prs_snoc] at h
    rcases List.mem_append.mp h with h | h
    · exact .inl h
    · rw [List.mem_singleton.mp h]; exact .inr ⟨by simp, rfl⟩
theorem speeds_snoc (r : List Cr) (a b : Cr) : speeds ((r ++ [a]) ++ [b]) = speeds (r ++ [a]) ++ [slope a b] := by
  unfold speeds
  rw [prs_snoc, List.map_append]; rfl
theorem slope_step (k q s w : Rat) (hw : 0 < w) : slope (k, q) (k + w, q + s * w) = s := by
  have : w ≠ 0 := by grind
  simp only [slope]
  rw [show q + s * w - q = s * w by grind, show k + w - k = w by grind, Rat.mul_div_cancel this]
theorem slope_close (k q s : Rat) (hq : 0 < q) (hs : s < 0) : slope (k, q) (k - q / s, 0) = s := by
  have h1 : q ≠ 0 := by grind
  have h2 : s ≠ 0 := by grind
  simp only [slope]
  rw [show k - q / s - k = - (q / s) by grind]
  grind
theorem sz0 : Sz 1 0 := ⟨by unfold Lt2; decide, by unfold Lt2; decide⟩
/-- corners so far, their slopes; the slope that is next is s -/
structure Acc (vs : List Rat) (acc : List Cr) (k q s : Rat) : Prop where
  spd : speeds acc = vs
  head : ∃ r, acc = (0, 0) :: r
  last : ∃ r, acc = r ++ [(k, q)]
  pos : ∀ c ∈ acc.tail, 0 < c.2
  asc : ∀ p ∈ prs acc, p.1.1 < p.2.1
  conc : ∀ p ∈ prs vs, p.2 < p.1
  low : ∀ v ∈ vs, s < v
  beg : vs = [] → q = 0 ∧ 0 < s
theorem speeds_len (l : List Cr) : (speeds l).length = l.length - 1 := by unfold speeds; rw [List.length_map, prs_len]
theorem Acc.snoc {vs : List Rat} {acc : List Cr} {k q s w s' : Rat} (h : Acc vs acc k q s) (hw : 0 < w) (hq : 0 < q + s * w) (hs : s' < s) : Acc (vs ++ [s]) (acc ++ [(k + w, q + s * w)]) (k + w) (q + s * w) s' := by
  obtain ⟨r, hr⟩ := h.last
  obtain ⟨r2, hr2⟩ := h.head
  refine ⟨by rw [hr, speeds_snoc, ← hr, slope_step _ _ _ _ hw, h.spd], ⟨r2 ++ [(k + w, q + s * w)], by rw [hr2]; rfl⟩, ⟨acc, rfl⟩, ?_, ?_, ?_, ?_, fun e => by simp at e⟩
  · intro c m
    rw [hr2] at m
    rcases List.mem_append.mp (show c ∈ r2 ++ [(k + w, q + s * w)] from m) with m | m
    · exact h.pos c (by rw [hr2]; exact m)
    · rw [List.mem_singleton.mp m]; exact hq
  · intro p m
    rw [hr, prs_snoc, ← hr] at m
    rcases List.mem_append.mp m with m | m
    · exact h.asc p m
    · rw [List.mem_singleton.mp m]; show k < k + w; grind
  · intro p m
    rcases prs_snoc_mem m with m | ⟨m, e⟩
    · exact h.conc p m
    · rw [e]; exact h.low _ m
  · intro v m
    rcases List.mem_append.mp m with m | m
    · have := h.low v m; grind
    · rw [List.mem_singleton.mp m]; exact hs
theorem Acc.qpos {vs : List Rat} {acc : List Cr} {k q s : Rat} (h : Acc vs acc k q s) (hi : vs ≠ []) : 0 < q := by
  obtain ⟨r, hr⟩ := h.last
  have l := speeds_len acc
  rw [h.spd] at l
  refine h.pos (k, q) ?_
  subst hr
  cases r with
  | nil => simp at l; exact absurd l hi
  | cons x r => simp
theorem Acc.close {n : Nat} {vs : List Rat} {acc : List Cr} {k q s : Rat} (h : Acc vs acc k q s) (hi : vs ≠ []) (hj : vs.length ≤ 10) (hs : s < 0) (sz : ∀ c ∈ acc, CSz n c) (zf : Sz n (k - q / s)) (hn : 1 ≤ n) : Kd n (acc ++ [(k - q / s, 0)]) ∧ speeds (acc ++ [(k - q / s, 0)]) = vs ++ [s] := by
  have q0 := h.qpos hi
  obtain ⟨r, hr⟩ := h.last
  obtain ⟨r2, hr2⟩ := h.head
  have hd : 0 < q / (-s) := by rw [Rat.div_def]; exact Rat.mul_pos q0 (Rat.inv_pos.mpr (by grind))
  have sl := slope_close k q s q0 hs
  have hkf : k < k - q / s := by
    have : q / (-s) = - (q / s) := by grind
    grind
  generalize k - q / s = f at zf hkf sl
  have l := speeds_len acc
  rw [h.spd] at l
  have l0 : 0 < vs.length := List.length_pos_iff.mpr hi
  have sp : speeds (acc ++ [(f, 0)]) = vs ++ [s] := by rw [hr, speeds_snoc, ← hr, sl, h.spd]
  refine ⟨⟨by rw [List.length_append]; show 3 ≤ acc.length + 1; omega, by rw [List.length_append]; show acc.length + 1 ≤ 12; omega, ?_, ⟨r2 ++ [(f, 0)], by rw [hr2]; rfl⟩, ⟨acc, f, rfl⟩, ?_, ?_, ?_⟩, sp⟩
  · intro c m
    rcases List.mem_append.mp m with m | m
    · exact sz c m
    · rw [List.mem_singleton.mp m]; exact ⟨zf, sz0.mono hn⟩
  · intro c m
    have e : (acc ++ [(f, (0 : Rat))]).tail.dropLast = acc.tail := by rw [hr2]; show (r2 ++ [(f, 0)]).dropLast = r2; exact List.dropLast_concat
    rw [e] at m
    exact h.pos c m
  · intro p m
    rw [hr, prs_snoc, ← hr] at m
    rcases List.mem_append.mp m with m | m
    · exact h.asc p m
    · rw [List.mem_singleton.mp m]; exact hkf
  · intro p m
    rw [sp] at m
    rcases prs_snoc_mem m with m | ⟨m, e⟩
    · exact h.conc p m
    · rw [e]; exact h.low _ m
theorem Acc.start {s : Rat} (h0 : 0 < s) : Acc [] [(0, 0)] 0 0 s := by
  refine ⟨rfl, ⟨[], rfl⟩, ⟨[], rfl⟩, ?_, ?_, ?_, ?_, fun _ => ⟨rfl, h0⟩⟩
  · intro c m; cases m
  · intro c m; cases m
  · intro c m; cases m
  · intro c m; cases m
theorem val_lt {n m : Nat} {p q : P2} (h : Ok n p) (g : Ok m q) : val p < val q ↔ p.1 * q.2 < q.1 * p.2 := by
  have o := ok_gap h g
  have v := val_neg o
  rw [val_gap h g] at v
  simp only [gapP2] at v
  constructor
  · intro z; have := v.mp (by grind); omega
  · intro z; have := v.mpr (by omega); grind
theorem num_le0 (q : Rat) : q.num ≤ 0 ↔ q ≤ 0 := by
  have h := Rat.num_nonneg (q := -q)
  rw [show (-q).num = -q.num from rfl] at h
  constructor
  · intro a; have := h.mp (by omega); grind
  · intro a; have := h.mpr (by grind); omega
theorem num_lt0 (q : Rat) : q.num < 0 ↔ q < 0 := by
  have h := Rat.num_nonneg (q := q)
  constructor
  · intro a; have : ¬ 0 ≤ q := fun z => by have := h.mpr z; omega
    grind
  · intro a; have : ¬ 0 ≤ q.num := fun z => by have := h.mp z; grind
    omega
theorem num_pos' (q : Rat) : 0 < q.num ↔ 0 < q := by
  have h := num_le0 q
  constructor
  · intro a; have : ¬ q ≤ 0 := fun z => by have := h.mpr z; omega
    grind
  · intro a; have : ¬ q.num ≤ 0 := fun z => by have := h.mp z; grind
    omega
theorem cut_init (xs : List PyData) : cutP xs none (some (-1)) = xs.dropLast := by
  unfold cutP HT.sIx
  simp [List.dropLast_eq_take]
  congr 1
  omega
section
variable {S0 r : Sto} {a b c x : Option (List PyData)}
@[simp] theorem st_get2 : (S0 ++ a :: b :: c :: r)[S0.length + 2]? = some c := by simp
@[simp] theorem st_set2 : (S0 ++ a :: b :: c :: r).set (S0.length + 2) x = S0 ++ a :: b :: x :: r := by rw [List.set_append_right _ _ (by omega)]; simp
end
@[simp] theorem rangeD_len (a : Int) (n : Nat) : (rangeD a n).length = n := by unfold rangeD; simp
/-- a loop over range(n), by its index -/
theorem forR_bind {β γ : Type} {g : CG} {b : CS} {ρ0 : Rho} {S0 : Sto} {K : Fl × Rho × Sto → Option γ} (P : Option γ → Prop) (n : Nat) (R : β → Rho) (V : β → Sto) (I : Nat → β → Prop) (out : Fl → Rho → Sto → Prop)
    (s : β) (hI : I 0 s) (hρ : ρ0 = R s) (hS : S0 = V s) (h0 : ∀ s, I n s → out .nx (R s) (V s))
    (h1 : ∀ i s, i < n → I i s → Step R V (I (i + 1)) out ((g (.d (.int (i : Int))) (R s) (V s)).bind fun p => b p.1 p.2))
    (hK : ∀ fl ρ S, out fl ρ S → P (K (fl, ρ, S))) : P ((forN g b (rangeD 0 n) ρ0 S0).bind K) := by
  rw [show rangeD 0 n = (List.range n).map fun i : Nat => PyData.int (i : Int) by unfold rangeD; simp]
  refine forN_bind P (fun i : Nat => PyData.int (i : Int)) R V (fun l s => ∃ i, i + l.length = n ∧ l = List.range' i l.length ∧ I i s) out (List.range n) s ⟨0, by simp, by simp [List.range_eq_range'], hI⟩ hρ hS ?_ ?_ hK
  · rintro s ⟨i, h2, h3, h4⟩
    simp at h2
    subst h2
    exact h0 s h4
  · rintro x l s ⟨i, h2, h3, h4⟩
    rw [List.length_cons, List.range'_succ] at h3
    injection h3 with h5 h6
    subst h5
    rw [List.length_cons] at h2
    have st := h1 x s (by omega) h4
    generalize ((g (.d (.int (x : Int))) (R s) (V s)).bind fun p => b p.1 p.2) = o at st
    cases st with
    | nx s' h => exact .nx s' ⟨x + 1, by omega, h6, h⟩
    | ct s' h => exact .ct s' ⟨x + 1, by omega, h6, h⟩
    | bk h => exact .bk h
    | rt h => exact .rt h
    | ex h => exact .ex h
theorem eqv_fr (a b : Rat) : PyData.eqv (fr a) (fr b) = decide (a = b) := by
  unfold fr
  simp only [PyData.eqv, PyData.eqvAll, Bool.and_true]
  by_cases h : a = b
  · subst h; simp
  · rw [decide_eq_false h]
    by_cases h1 : a.num = b.num
    · have h2 : a.den ≠ b.den := fun z => h (Rat.ext h1 z)
      have h3 : ¬ (a.den : Int) = b.den := by omega
      simp [h1, h3]
    · simp [h1]
theorem neP_fr (a b : Rat) : neP (fr a) (fr b) = some (.bool (!decide (a = b))) := by
  unfold neP eqOk
  rw [if_pos (by simp [fr, PyData.canLay0, PyData.canLayAll0, PyData.depth, PyData.depthAll]), eqv_fr]
theorem eqP_fr' (a b : Rat) : eqP (fr a) (fr b) = some (.bool (decide (a = b))) := by
  unfold eqP eqOk
  rw [if_pos (by simp [fr, PyData.canLay0, PyData.canLayAll0, PyData.depth, PyData.depthAll]), eqv_fr]
/-- a kind with the sizes of its corners and of its speeds -/
structure KS (n m : Nat) (ks : List Cr) : Prop where
  kd : Kd n ks
  spd : ∀ v ∈ speeds ks, Sz m v
end Prog

/-! D2: kinds (plain). -/
namespace Prog
open PySem PySem.Spec PyProof.Rows L2 PD
theorem Kd.mono {n m : Nat} {ks : List Cr} (h : Kd n ks) (l : n ≤ m) : Kd m ks := ⟨h.len3, h.len12, fun c i => ⟨(h.size c i).1.mono l, (h.size c i).2.mono l⟩, h.head, h.last, h.pos, h.asc, h.conc⟩
theorem prs_map {α β : Type} (f : α → β) : ∀ l : List α, prs (l.map f) = (prs l).map fun p => (f p.1, f p.2)
  | [] => rfl
  | [_] => rfl
  | x :: y :: r => by
    show (f x, f y) :: prs ((y :: r).map f) = _
    rw [prs_map f (y :: r)]; rfl
theorem rlt_trans {a b c : Rat} (h : a < b) (g : b < c) : a < c := by grind
theorem prs_pairwise {α : Type} {R : α → α → Prop} (tr : ∀ a b c, R a b → R b c → R a c) : ∀ {l : List α}, (∀ p ∈ prs l, R p.1 p.2) ↔ l.Pairwise R
  | [] => by simp [prs]
  | [x] => by simp [prs]
  | x :: y :: r => by
    have ih := prs_pairwise (R := R) tr (l := y :: r)
    show (∀ p ∈ (x, y) :: prs (y :: r), R p.1 p.2) ↔ _
    rw [List.forall_mem_cons, ih, List.pairwise_cons (a := x)]
    constructor
    · rintro ⟨h1, h2⟩
      refine ⟨fun z m => ?_, h2⟩
      rcases List.mem_cons.mp m with rfl | m
      · exact h1
      · exact tr _ _ _ h1 ((List.pairwise_cons.mp h2).1 z m)
    · rintro ⟨h1, h2⟩
      exact ⟨h1 y List.mem_cons_self, h2⟩
theorem prs_app {α : Type} : ∀ (A : List α) (a : α) (B : List α), prs (A ++ a :: B) = prs (A ++ [a]) ++ prs (a :: B)
  | [], a, B => rfl
  | [x], a, B => rfl
  | x :: y :: A, a, B => by
    have := prs_app (y :: A) a B
    show (x, y) :: prs ((y :: A) ++ a :: B) = (x, y) :: (prs ((y :: A) ++ [a]) ++ prs (a :: B))
    rw [this]
theorem speeds_app (A : List Cr) (a : Cr) (B : List Cr) : speeds (A ++ a :: B) = speeds (A ++ [a]) ++ speeds (a :: B) := by
  unfold speeds; rw [prs_app, List.map_append]
theorem asc_nonneg : ∀ (r : List Cr) (last : Cr), 0 ≤ last.1 → (∀ p ∈ prs (last :: r), p.1.1 < p.2.1) → ∀ c ∈ last :: r, 0 ≤ c.1
  | [], last, h0, _, c, m => by rw [List.mem_singleton.mp m]; exact h0
  | b :: r, last, h0, h, c, m => by
    have h1 : last.1 < b.1 := h (last, b) List.mem_cons_self
    rcases List.mem_cons.mp m with rfl | m
    · exact h0
    · exact asc_nonneg r b (by grind) (fun p m => h p (List.mem_cons_of_mem _ m)) c m
theorem Kd.nonneg {n : Nat} {ks : List Cr} (h : Kd n ks) : ∀ c ∈ ks, 0 ≤ c.1 := by
  obtain ⟨r, hr⟩ := h.head
  have a := h.asc
  subst hr
  exact asc_nonneg r (0, 0) (by grind) a
def tollL (ks : List Cr) (x t b : Rat) : Rat := ks.foldl (fun b c => if b < c.2 * t - c.1 * x then c.2 * t - c.1 * x else b) b
theorem tollL_ge {x t : Rat} : ∀ (l : List Cr) (b : Rat), b ≤ tollL l x t b ∧ ∀ c ∈ l, c.2 * t - c.1 * x ≤ tollL l x t b
  | [], b => ⟨Rat.le_refl, fun c m => by cases m⟩
  | c :: l, b => by
    have ih := tollL_ge (x := x) (t := t) l (if b < c.2 * t - c.1 * x then c.2 * t - c.1 * x else b)
    have e : tollL (c :: l) x t b = tollL l x t (if b < c.2 * t - c.1 * x then c.2 * t - c.1 * x else b) := rfl
    rw [e]
    refine ⟨?_, fun a m => ?_⟩
    · have := ih.1; split at this <;> grind
    · rcases List.mem_cons.mp m with rfl | m
      · have := ih.1; split at this <;> grind
      · exact ih.2 a m
theorem tollL_le {x t B : Rat} : ∀ (l : List Cr) (b : Rat), b ≤ B → (∀ c ∈ l, c.2 * t - c.1 * x ≤ B) → tollL l x t b ≤ B
  | [], b, h, _ => h
  | c :: l, b, h, hl => by
    show tollL l x t (if b < c.2 * t - c.1 * x then c.2 * t - c.1 * x else b) ≤ B
    refine tollL_le l _ ?_ fun a m => hl a (List.mem_cons_of_mem _ m)
    split
    · exact hl c List.mem_cons_self
    · exact h
theorem prs_split {α : Type} : ∀ {l : List α} {p : α × α}, p ∈ prs l → ∃ A C, l = A ++ p.1 :: p.2 :: C
  | [], _, h => by cases h
  | [_], _, h => by cases h
  | x :: y :: r, p, h => by
    rcases List.mem_cons.mp h with rfl | h
    · exact ⟨[], r, rfl⟩
    · obtain ⟨A, C, e⟩ := prs_split h
      exact ⟨x :: A, C, by rw [e]; rfl⟩
theorem seg_flowL {d : Rat} : ∀ (r : List Cr) (last : Cr), last.1 ≤ d → d ≤ (((last :: r).getLast?).getD (0, 0)).1 → r ≠ [] → ∃ p ∈ prs (last :: r), p.1.1 ≤ d ∧ d ≤ p.2.1 ∧ flowL last r d = p.1.2 + slope p.1 p.2 * (d - p.1.1)
  | [], _, _, _, hn => absurd rfl hn
  | c :: r, last, hd, hf, _ => by
    rw [List.getLast?_cons_cons] at hf
    show ∃ p ∈ (last, c) :: prs (c :: r), _ ∧ _ ∧ (if c.1 < d then flowL c r d else last.2 + slope last c * (d - last.1)) = _
    by_cases hc : c.1 < d
    · obtain ⟨p, m, h1, h2, h3⟩ := seg_flowL r c (by grind) hf (by rintro rfl; simp at hf; grind)
      exact ⟨p, List.mem_cons_of_mem _ m, h1, h2, by rw [if_pos hc]; exact h3⟩
    · exact ⟨(last, c), List.mem_cons_self, hd, by simp only; grind, by rw [if_neg hc]⟩
theorem seg_flow {n : Nat} {ks : List Cr} {d : Rat} (h : Kd n ks) (h0 : 0 ≤ d) (h1 : ¬ fullD ks < d) : ∃ p ∈ prs ks, p.1.1 ≤ d ∧ d ≤ p.2.1 ∧ flow ks d = p.1.2 + slope p.1 p.2 * (d - p.1.1) := by
  obtain ⟨r, hr⟩ := h.head
  have l := h.len3
  subst hr
  unfold fullD at h1
  exact seg_flowL r (0, 0) h0 (by grind) (by rintro rfl; simp at l)
theorem slope_mul {a b : Cr} (h : a.1 < b.1) : slope a b * (b.1 - a.1) = b.2 - a.2 := by unfold slope; rw [Rat.div_mul_cancel (by grind)]
/-- no toll is less than by the flow at any density -/
theorem toll_weak {n : Nat} {ks : List Cr} {d x t : Rat} (h : Kd n ks) (h0 : 0 ≤ d) (h1 : ¬ fullD ks < d) (ht : 0 ≤ t) : flow ks d * t - d * x ≤ tollL ks x t 0 := by
  obtain ⟨⟨a, b⟩, m, h2, h3, h4⟩ := seg_flow h h0 h1
  simp only at h2 h3 h4
  have ab : a.1 < b.1 := h.asc _ m
  have s := slope_mul ab
  have mm := prs_mem m
  have A := (tollL_ge (x := x) (t := t) ks 0).2 a mm.1
  have B := (tollL_ge (x := x) (t := t) ks 0).2 b mm.2
  generalize tollL ks x t 0 = M at *
  have w0 : 0 < b.1 - a.1 := by grind
  have p1 : 0 ≤ (b.1 - d) * (M - (a.2 * t - a.1 * x)) := Rat.mul_nonneg (by grind) (by grind)
  have p2 : 0 ≤ (d - a.1) * (M - (b.2 * t - b.1 * x)) := Rat.mul_nonneg (by grind) (by grind)
  have e : (b.1 - a.1) * (M - (flow ks d * t - d * x)) = (b.1 - d) * (M - (a.2 * t - a.1 * x)) + (d - a.1) * (M - (b.2 * t - b.1 * x)) := by
    rw [h4]
    have : b.2 = a.2 + slope a b * (b.1 - a.1) := by grind
    rw [this]
    grind
  have p3 : 0 ≤ (b.1 - a.1) * (M - (flow ks d * t - d * x)) := by grind
  refine Rat.not_lt.mp fun hlt => ?_
  have p4 := Rat.mul_pos w0 (show 0 < (flow ks d * t - d * x) - M by grind)
  grind
theorem right_of {s : Rat} : ∀ (C : List Cr) (b : Cr), (∀ p ∈ prs (b :: C), p.1.1 < p.2.1) → (∀ v ∈ speeds (b :: C), v ≤ s) → ∀ c ∈ b :: C, c.2 ≤ b.2 + s * (c.1 - b.1)
  | [], b, _, _, c, m => by rw [List.mem_singleton.mp m]; grind
  | e :: C, b, h1, h2, c, m => by
    have be : b.1 < e.1 := h1 (b, e) List.mem_cons_self
    have sb : slope b e ≤ s := h2 _ List.mem_cons_self
    have sm := slope_mul be
    have k : 0 ≤ (s - slope b e) * (e.1 - b.1) := Rat.mul_nonneg (by grind) (by grind)
    rcases List.mem_cons.mp m with rfl | m
    · grind
    · have := right_of C e (fun p m => h1 p (List.mem_cons_of_mem _ m)) (fun v m => h2 v (List.mem_cons_of_mem _ m)) c m
      grind
theorem left_of {s : Rat} (a : Cr) : ∀ (A : List Cr), (∀ p ∈ prs (A ++ [a]), p.1.1 < p.2.1) → (∀ v ∈ speeds (A ++ [a]), s ≤ v) → ∀ c ∈ A ++ [a], c.2 ≤ a.2 + s * (c.1 - a.1)
  | [], _, _, c, m => by rw [List.mem_singleton.mp m]; grind
  | [e], h1, h2, c, m => by
    have be : e.1 < a.1 := h1 (e, a) List.mem_cons_self
    have sb : s ≤ slope e a := h2 _ List.mem_cons_self
    have sm := slope_mul be
    have k : 0 ≤ (slope e a - s) * (a.1 - e.1) := Rat.mul_nonneg (by grind) (by grind)
    rcases List.mem_cons.mp m with rfl | m
    · grind
    · rw [List.mem_singleton.mp m]; grind
  | e :: f :: A, h1, h2, c, m => by
    have be : e.1 < f.1 := h1 (e, f) List.mem_cons_self
    have sb : s ≤ slope e f := h2 _ List.mem_cons_self
    have sm := slope_mul be
    have k : 0 ≤ (slope e f - s) * (f.1 - e.1) := Rat.mul_nonneg (by grind) (by grind)
    have ih := left_of a (f :: A) (fun p m => h1 p (List.mem_cons_of_mem _ m)) (fun v m => h2 v (List.mem_cons_of_mem _ m))
    rcases List.mem_cons.mp m with rfl | m
    · have := ih f List.mem_cons_self
      grind
    · exact ih c m
theorem under_chord {n : Nat} {ks : List Cr} (h : Kd n ks) {p : Cr × Cr} (m : p ∈ prs ks) : ∀ c ∈ ks, c.2 ≤ p.1.2 + slope p.1 p.2 * (c.1 - p.1.1) := by
  obtain ⟨a, b⟩ := p
  have ab : a.1 < b.1 := h.asc _ m
  have sm := slope_mul ab
  obtain ⟨A, C, e⟩ := prs_split m
  simp only at e ⊢
  have cc := (prs_pairwise (R := fun x y : Rat => y < x) (fun _ _ _ h g => rlt_trans g h)).mp h.conc
  have asc := h.asc
  subst e
  rw [prs_app] at asc
  rw [speeds_app] at cc
  have e1 : speeds (a :: b :: C) = slope a b :: speeds (b :: C) := rfl
  rw [e1, List.pairwise_append, List.pairwise_cons] at cc
  obtain ⟨q1, ⟨q2, q3⟩, q5⟩ := cc
  intro c mc
  have mc' : c ∈ A ++ [a] ∨ c ∈ b :: C := by simp at mc ⊢; grind
  rcases mc' with mc | mc
  · exact left_of a A (fun p m => asc p (List.mem_append_left _ m)) (fun v m => by have := q5 v m _ List.mem_cons_self; grind) c mc
  · have := right_of (s := slope a b) C b (fun p m => asc p (List.mem_append_right _ (List.mem_cons_of_mem _ m))) (fun v m => by have := q2 v m; grind) c mc
    grind
/-- some speed's toll is just by the flow at the density -/
theorem toll_strong {n : Nat} {ks : List Cr} {d t : Rat} (h : Kd n ks) (h0 : 0 ≤ d) (h1 : ¬ fullD ks < d) (ht : 0 ≤ t) : ∃ v ∈ speeds ks, tollL ks (v * t) t 0 + d * (v * t) = flow ks d * t := by
  obtain ⟨⟨a, b⟩, m, h2, h3, h4⟩ := seg_flow h h0 h1
  simp only at h2 h3 h4
  refine ⟨slope a b, List.mem_map.mpr ⟨(a, b), m, rfl⟩, ?_⟩
  have uc := under_chord h m
  have mm := prs_mem m
  have A := (tollL_ge (x := slope a b * t) (t := t) ks 0).2 a mm.1
  have le : tollL ks (slope a b * t) t 0 ≤ (a.2 - slope a b * a.1) * t := by
    have key : ∀ c ∈ ks, c.2 * t - c.1 * (slope a b * t) ≤ (a.2 - slope a b * a.1) * t := fun c mc => by
      have := uc c mc
      simp only at this
      have k : 0 ≤ (a.2 + slope a b * (c.1 - a.1) - c.2) * t := Rat.mul_nonneg (by grind) ht
      grind
    refine tollL_le ks 0 ?_ key
    obtain ⟨r, hr⟩ := h.head
    have := key (0, 0) (by rw [hr]; exact List.mem_cons_self)
    grind
  rw [h4]
  grind
theorem Kd.le_full {n : Nat} {ks : List Cr} (h : Kd n ks) : ∀ c ∈ ks, c.1 ≤ fullD ks := by
  obtain ⟨acc, f, e⟩ := h.last
  have pw : ks.Pairwise fun a b => a.1 < b.1 := (prs_pairwise (R := fun a b : Cr => a.1 < b.1) (fun a b c h g => rlt_trans h g)).mp h.asc
  have ef : fullD ks = f := by rw [e]; simp [fullD]
  intro c m
  rw [ef]
  rw [e] at pw m
  rcases List.mem_append.mp m with m | m
  · have := (List.pairwise_append.mp pw).2.2 c m (f, 0) (by simp)
    simp only at this; grind
  · rw [List.mem_singleton.mp m]; grind
theorem Kd.full_pos {n : Nat} {ks : List Cr} (h : Kd n ks) : 0 < fullD ks := by
  obtain ⟨r, hr⟩ := h.head
  have h3 := h.len3
  have a := h.asc
  have hle := h.le_full
  rw [hr] at h3 a hle
  cases r with
  | nil => simp at h3
  | cons c r =>
    have h1 : (0 : Rat) < c.1 := a ((0, 0), c) List.mem_cons_self
    have h2 := hle c (by simp)
    rw [hr]; grind
theorem prs_ix {α : Type} {l : List α} {p : α × α} (h : p ∈ prs l) : ∃ i : Nat, l[i]? = some p.1 ∧ l[i + 1]? = some p.2 := by
  obtain ⟨A, C, e⟩ := prs_split h
  refine ⟨A.length, ?_, ?_⟩
  · rw [e]; simp
  · rw [e, List.getElem?_append_right (by omega)]; simp
theorem prs_get2 {α : Type} : ∀ {l : List α} {i : Nat} {p : α × α}, (prs l)[i]? = some p → l[i]? = some p.1 ∧ l[i + 1]? = some p.2
  | [], i, p, h => by simp [prs] at h
  | [x], i, p, h => by simp [prs] at h
  | x :: y :: r, 0, p, h => by
    have : (x, y) = p := by simpa [prs] using h
    subst this
    exact ⟨rfl, rfl⟩
  | x :: y :: r, i + 1, p, h => by
    have h' : (prs (y :: r))[i]? = some p := by simpa [prs] using h
    have := prs_get2 h'
    simpa using this
theorem val1 (z : Int) : val ((z, 1) : P2) = (z : Rat) := by
  show Rat.divInt z 1 = _
  rw [← Rat.num_divInt_den (z : Rat)]; rfl
end Prog

/-! F3: the program's densities, flows and tolls (over D2, F2). -/
namespace Prog
open PySem PySem.Spec PyProof.Rows L2 PD
theorem fr1 : fr 1 = .tuple [.int 1, .int 1] := rfl
theorem sz1 : Sz 1 1 := ⟨by unfold Lt2; decide, by unfold Lt2; decide⟩
theorem at_last2 {α : Type} (xs : List α) (y x : α) : atI (xs ++ [y, x]) (-2) = some y := by
  unfold atI ixN
  rw [if_neg (by omega), if_pos (by simp; omega)]
  simp
  rw [show ((-2 : Int) + ((xs.length : Int) + 2)).toNat = xs.length by omega]
  simp
/-- the first and the last two corners of a kind -/
theorem Kd.ends {n : Nat} {ks : List Cr} (h : Kd n ks) : ∃ c1 r acc cl f, ks = (0, 0) :: c1 :: r ∧ ks = acc ++ [cl, (f, 0)] ∧ 0 < c1.1 ∧ 0 < c1.2 ∧ cl.1 < f ∧ 0 < cl.2 ∧ fullD ks = f := by
  obtain ⟨r, hr⟩ := h.head
  obtain ⟨acc, f, ha⟩ := h.last
  have h3 := h.len3
  have hp := h.pos
  have as := h.asc
  cases r with
  | nil => rw [hr] at h3; simp at h3
  | cons c1 r =>
    cases r with
    | nil => rw [hr] at h3; simp at h3
    | cons c2 r =>
      have hp2 := hp
      rw [hr] at hp2
      have m1 : c1 ∈ ((0, 0) :: c1 :: c2 :: r).tail.dropLast := by simp [List.dropLast]
      rcases List.eq_nil_or_concat acc with e | ⟨acc', cl, e⟩
      · rw [ha, e] at h3; simp at h3
      · rw [List.concat_eq_append] at e
        subst e
        have mc : (cl, ((f, 0) : Cr)) ∈ prs ks := by rw [ha, prs_snoc]; simp
        have mcl : cl ∈ ks.tail.dropLast := by
          rw [ha]
          cases acc' with
          | nil => rw [ha] at h3; simp at h3
          | cons z acc' => simp
        refine ⟨c1, c2 :: r, acc', cl, f, hr, by rw [ha]; simp, ?_, hp2 c1 m1, as _ mc, hp cl mcl, by rw [ha]; simp [fullD]⟩
        have := as ((0, 0), c1) (by rw [hr]; exact List.mem_cons_self)
        simpa using this
def freeV (ks : List Cr) : Rat := (speeds ks).headD 0
def backV (ks : List Cr) : Rat := (speeds ks).getLastD 0
theorem le_div_mul {a b x t : Rat} (hb : 0 < b) : a * t < b * x ↔ a / b * t < x := by
  have hb0 : b ≠ 0 := by grind
  have e : a / b * t * b = a * t := by grind
  have := Rat.mul_lt_mul_right (a := a / b * t) (b := x) hb
  rw [e, Rat.mul_comm x b] at this
  exact this
theorem lt_div_mul {a b x t : Rat} (hb : 0 < b) : b * x < a * t ↔ x < a / b * t := by
  have hb0 : b ≠ 0 := by grind
  have e : a / b * t * b = a * t := by grind
  have := Rat.mul_lt_mul_right (a := x) (b := a / b * t) hb
  rw [e, Rat.mul_comm x b] at this
  exact this
def optF : Option Rat → PyData
  | none => .none
  | some q => fr q
/-- the toll of a step, none if there is no such step -/
def tollO (ks : List Cr) (x t : Rat) : Option Rat := if 0 ≤ t ∧ backV ks * t ≤ x ∧ x ≤ freeV ks * t then some (tollL ks x t 0) else none
def stepO (x t : Rat) (o : Option Rat) (c : Cr) : Option Rat := match o with
  | none => some (c.2 * t - c.1 * x)
  | some b => some (if b < c.2 * t - c.1 * x then c.2 * t - c.1 * x else b)
theorem foldO {x t : Rat} : ∀ (l : List Cr) (b : Rat), l.foldl (stepO x t) (some b) = some (tollL l x t b)
  | [], b => rfl
  | c :: l, b => by
    rw [List.foldl_cons]
    show l.foldl (stepO x t) (some _) = _
    rw [foldO l]; rfl
theorem foldO_kd {n : Nat} {ks : List Cr} (h : Kd n ks) (x t : Rat) : ks.foldl (stepO x t) none = some (tollL ks x t 0) := by
  obtain ⟨r, hr⟩ := h.head
  rw [hr, List.foldl_cons]
  show r.foldl (stepO x t) (some ((0 : Rat) * t - 0 * x)) = _
  rw [foldO]
  have e : (0 : Rat) * t - 0 * x = 0 := by grind
  rw [e]
  show _ = some (r.foldl _ (if (0 : Rat) < 0 * t - 0 * x then 0 * t - 0 * x else 0))
  rw [e, if_neg (by decide)]
  rfl
theorem tollL_mem {x t : Rat} : ∀ (l : List Cr) (b : Rat), tollL l x t b = b ∨ ∃ c ∈ l, tollL l x t b = c.2 * t - c.1 * x
  | [], b => .inl rfl
  | c :: l, b => by
    rcases tollL_mem l (if b < c.2 * t - c.1 * x then c.2 * t - c.1 * x else b) with h | ⟨d, m, h⟩
    · by_cases hb : b < c.2 * t - c.1 * x
      · rw [if_pos hb] at h; exact .inr ⟨c, List.mem_cons_self, by show tollL l x t (if b < c.2 * t - c.1 * x then c.2 * t - c.1 * x else b) = _; rw [if_pos hb]; exact h⟩
      · rw [if_neg hb] at h; exact .inl (by show tollL l x t (if b < c.2 * t - c.1 * x then c.2 * t - c.1 * x else b) = _; rw [if_neg hb]; exact h)
    · exact .inr ⟨d, List.mem_cons_of_mem _ m, h⟩
theorem sz_toll {n p q : Nat} {c : Cr} {x t : Rat} (hc : CSz n c) (hx : Sz q x) (ht : Sz p t) : Sz (2 * n + p + q + 1) (c.2 * t - c.1 * x) := (sz_sub (sz_mul hc.2 ht) (sz_mul hc.1 hx)).mono (by omega)
theorem sz_tollL {n p q : Nat} {ks : List Cr} {x t : Rat} (h : Kd n ks) (hx : Sz q x) (ht : Sz p t) : Sz (2 * n + p + q + 1) (tollL ks x t 0) := by
  rcases tollL_mem (x := x) (t := t) ks 0 with e | ⟨c, m, e⟩
  · rw [e]; exact sz0.mono (by omega)
  · rw [e]; exact sz_toll (h.size c m) hx ht
end Prog

/-! A2: the law's own roads (family A). -/
namespace Prog
open PySem PySem.Spec PyProof.Rows L2 PD
def szA (i : Nat) : Nat := 18 * i + 1
def szB (i : Nat) : Nat := match i with
  | 0 => 1
  | 1 => 20
  | 2 => 57
  | _ => 112
structure RSt where
  t : Dice
  acc : List Cr
  k : Rat
  q : Rat
  vs : List Rat
  w5 : Option W
  w11 : Option W
theorem r_road_tail {m : Nat} (k : Nat) {t : Dice} (h : Dok m t) (hm : m < 900000) (ps : List Rat) (b : Rat) (p0 : Rat) (hp0 : ps.head? = some p0) (hp : 0 < p0) (hl : ps.length ≤ 3) (dec : (ps ++ [b]).Pairwise fun x y => y < x) (hb : b < 0) (sz : ∀ v ∈ ps ++ [b], Sz 15 v)
    (w2 w3 w6 w7 w12 : Option W) (S0 : Sto) : ∃ ks t' ρ' r', KS 190 15 ks ∧ speeds ks = ps ++ [b] ∧ Dok (m + 6) t' ∧ b_L_road_c6 (run T (k + 4)) [some (.m S0.length), some (.d (fr b)), w2, w3, some (.m (S0.length + 1)), none, w6, w7, none, none, none, none, w12] (S0 ++ [cellD t, some ((ps ++ [b]).map fr)]) = some (.rt (.d (kd ks)), ρ', S0 ++ cellD t' :: r') := by
  obtain ⟨R, hR⟩ : ∃ R, R = run T (k + 4) := ⟨_, rfl⟩
  rw [← hR]
  have sb := sz b (by simp)
  have ci := cut_init ((ps ++ [b]).map fr)
  rw [show ((ps ++ [b]).map fr).dropLast = ps.map fr by rw [List.map_append]; exact List.dropLast_concat] at ci
  have ci' : cutP (List.map fr ps ++ [fr b]) none (some (-1)) = ps.map fr := by simp only [List.map_append, List.map_cons, List.map_nil] at ci; exact ci
  generalize hP : (fun o => ∃ ks t' ρ' r', KS 190 15 ks ∧ speeds ks = ps ++ [b] ∧ Dok (m + 6) t' ∧ o = some (Fl.rt (W.d (kd ks)), ρ', S0 ++ cellD t' :: r')) = P
  refine (?_ : (fun o => ∃ ks t' ρ' r', KS 190 15 ks ∧ speeds ks = ps ++ [b] ∧ Dok (m + 6) t' ∧ o = some (Fl.rt (W.d (kd ks)), ρ', S0 ++ cellD t' :: r')) _)
  rw [hP]
  simp [b_L_road_c6, ci']
  refine forN_bind P fr (fun s : RSt => [some (.m S0.length), some (.d (fr b)), w2, w3, some (.m (S0.length + 1)), s.w5, w6, w7, some (.m (S0.length + 2)), some (.d (fr s.k)), some (.d (fr s.q)), s.w11, w12])
    (fun s => S0 ++ [cellD s.t, some ((ps ++ [b]).map fr), some (s.acc.map co)])
    (fun l s => s.vs ++ l = ps ∧ Acc s.vs s.acc s.k s.q ((l ++ [b]).headD 0) ∧ (∀ c ∈ s.acc, CSz 120 c) ∧ Sz (szA s.vs.length) s.q ∧ Sz (szB s.vs.length) s.k ∧ Dok (m + 2 * s.vs.length) s.t)
    (fun fl ρ S => ∃ s : RSt, fl = .nx ∧ ρ = [some (.m S0.length), some (.d (fr b)), w2, w3, some (.m (S0.length + 1)), s.w5, w6, w7, some (.m (S0.length + 2)), some (.d (fr s.k)), some (.d (fr s.q)), s.w11, w12] ∧ S = S0 ++ [cellD s.t, some ((ps ++ [b]).map fr), some (s.acc.map co)] ∧ s.vs = ps ∧ Acc s.vs s.acc s.k s.q b ∧ (∀ c ∈ s.acc, CSz 120 c) ∧ Sz 55 s.q ∧ Sz 112 s.k ∧ Dok (m + 6) s.t)
    ps ⟨t, [(0, 0)], 0, 0, [], none, none⟩ ?_ (by simp [fr0]) (by simp [co, fr0]) ?_ ?_ ?_
  · refine ⟨by simp, ?_, ?_, sz0.mono (show 1 ≤ szA 0 by decide), sz0.mono (show 1 ≤ szB 0 by decide), h⟩
    · have : (ps ++ [b]).headD 0 = p0 := by
        cases ps with
        | nil => simp at hp0
        | cons x r => simpa using hp0
      rw [this]; exact Acc.start hp
    · intro c m; rw [List.mem_singleton.mp m]; exact ⟨sz0.mono (by omega), sz0.mono (by omega)⟩
  · rintro ⟨t, acc, kk, q, vs, w5, w11⟩ ⟨hv, ha, hc, zq, zk, hd⟩
    simp only [List.append_nil, List.nil_append, List.headD_cons] at hv ha hc zq zk hd
    have hlv : vs.length ≤ 3 := by rw [hv]; exact hl
    have e : vs.length = 0 ∨ vs.length = 1 ∨ vs.length = 2 ∨ vs.length = 3 := by omega
    refine ⟨⟨t, acc, kk, q, vs, w5, w11⟩, rfl, rfl, rfl, hv, ha, hc, ?_, ?_, hd.mono (by omega)⟩
    · rcases e with e | e | e | e <;> rw [e] at zq <;> exact zq.mono (by decide)
    · rcases e with e | e | e | e <;> rw [e] at zk <;> exact zk.mono (by decide)
  · rintro x l ⟨t, acc, kk, q, vs, w5, w11⟩ ⟨hv, ha, hc, zq, zk, hd⟩
    simp only [List.cons_append, List.headD_cons] at hv ha hc zq zk hd ⊢
    have hlv : vs.length + (l.length + 1) ≤ 3 := by
      have := congrArg List.length hv
      simp only [List.length_append, List.length_cons] at this
      omega
    have zx : Sz 15 x := sz x (by rw [← hv]; simp)
    have hnx : (l ++ [b]).headD 0 < x := by
      have d2 := dec
      rw [← hv, List.append_assoc, List.cons_append] at d2
      have d3 := (List.pairwise_append.mp d2).2.1
      have d4 := (List.pairwise_cons.mp d3).1
      cases l with
      | nil => exact d4 b (by simp)
      | cons y l => exact d4 y (by simp)
    obtain ⟨d1, t1, d10, d11, h1, e1⟩ := r_draw (k + 3) hd (by omega) 3 (by omega) (by omega) S0 [some ((ps ++ [b]).map fr), some (acc.map co)]
    obtain ⟨d2, t2, d20, d21, h2, e2⟩ := r_draw (k + 3) h1 (by omega) 2 (by omega) (by omega) S0 [some ((ps ++ [b]).map fr), some (acc.map co)]
    have l1 : Lt2 2 (1 + d1) := by unfold Lt2; omega
    have l2 : Lt2 2 (1 + d2) := by unfold Lt2; omega
    obtain ⟨St, hSt⟩ : ∃ St, St = S0 ++ [cellD t2, some ((ps ++ [b]).map fr), some (acc.map co)] := ⟨_, rfl⟩
    have c1 := r_frac (n := 2) (k + 2) (a := 1 + d1) (b := 1 + d2) (by omega) l1 l2 (by omega) St
    have w0 : 0 < Rat.divInt (1 + d1) (1 + d2) := divInt_pos' (by omega) (by omega)
    have zw : Sz 2 (Rat.divInt (1 + d1) (1 + d2)) := sz_divInt (by omega) l1 l2
    generalize Rat.divInt (1 + d1) (1 + d2) = w at c1 zw w0
    have e3 : vs.length = 0 ∨ vs.length = 1 ∨ vs.length = 2 := by omega
    have A1 : szA vs.length ≤ 37 := by rcases e3 with e | e | e <;> rw [e] <;> decide
    have A2 : szA vs.length + 18 ≤ szA (vs.length + 1) := by rcases e3 with e | e | e <;> rw [e] <;> decide
    have A3 : szA (vs.length + 1) ≤ 55 := by rcases e3 with e | e | e <;> rw [e] <;> decide
    have B1 : szB vs.length + szA vs.length + 18 ≤ szB (vs.length + 1) := by rcases e3 with e | e | e <;> rw [e] <;> decide
    have B2 : szB (vs.length + 1) ≤ 112 := by rcases e3 with e | e | e <;> rw [e] <;> decide
    have B3 : 1 ≤ szA vs.length := by rcases e3 with e | e | e <;> rw [e] <;> decide
    have b1 := r_mul (k + 1) zx zw (by omega) St
    have b2 := r_add (k + 1) zq (sz_mul zx zw) (by omega) St
    have step : ∀ w' : Rat, 0 < w' → Sz (szA vs.length + 17) w' → 0 < q + x * w' → Sz (szA (vs.length + 1)) (q + x * w') →
        (R "_law_add" [.d (fr kk), .d (fr w')] St = some (.d (fr (kk + w')), St) ∧ R "_law_mul" [.d (fr x), .d (fr w')] St = some (.d (fr (x * w')), St) ∧ R "_law_add" [.d (fr q), .d (fr (x * w'))] St = some (.d (fr (q + x * w')), St)) ∧
        vs ++ [x] ++ l = ps ∧ Acc (vs ++ [x]) (acc ++ [(kk + w', q + x * w')]) (kk + w') (q + x * w') ((l ++ [b]).headD 0) ∧ (∀ c ∈ acc ++ [(kk + w', q + x * w')], CSz 120 c) ∧ Sz (szA (vs ++ [x]).length) (q + x * w') ∧ Sz (szB (vs ++ [x]).length) (kk + w') ∧ Dok (m + 2 * (vs ++ [x]).length) t2 := by
      intro w' p' z' q' z1
      have f1 := r_add (k + 1) zk z' (by omega) St
      have f2 := r_mul (k + 1) zx z' (by omega) St
      have f3 := r_add (k + 1) zq (sz_mul zx z') (by omega) St
      simp only [Nat.add_assoc, Nat.reduceAdd, ← hR] at f1 f2 f3
      refine ⟨⟨f1, f2, f3⟩, ?_⟩
      have z2 : Sz (szB (vs.length + 1)) (kk + w') := (sz_add zk z').mono (by omega)
      refine ⟨by simpa using hv, ha.snoc p' q' hnx, ?_, by simpa using z1, by simpa using z2, ?_⟩
      · intro c m
        rcases List.mem_append.mp m with m | m
        · exact hc c m
        · rw [List.mem_singleton.mp m]; exact ⟨z2.mono (by omega), z1.mono (by omega)⟩
      · refine h2.mono ?_
        simp; omega
    have hal : acc.length < 100000 := by
      have := speeds_len acc
      rw [ha.spd] at this; omega
    by_cases hq : q + x * w ≤ 0
    · have hne : vs ≠ [] := fun e => by
        obtain ⟨q0, s0⟩ := ha.beg e
        have := Rat.mul_pos s0 w0
        grind
      have q0 := ha.qpos hne
      have x0 : x < 0 := by
        have : ¬ 0 ≤ x := fun z => by have := Rat.mul_nonneg z (by grind : 0 ≤ w); grind
        grind
      have n2 : Ok 2 ((-2, 1) : P2) := ⟨by decide, by unfold Lt2; decide, by unfold Lt2; decide⟩
      have v2 : val ((-2, 1) : P2) = -2 := by unfold val; rfl
      have g1 := r_mulP (k + 1) n2 (ok_nd zx) (by omega) St
      rw [v2, val_nd] at g1
      have zx2 : Sz 17 (-2 * x) := by have := sz_mulP n2 zx; rwa [v2] at this
      have g2 := r_div (k + 1) zq zx2 (by grind) (by omega) St
      have zw' : Sz (szA vs.length + 17) (q / (-2 * x)) := sz_div (by grind) zq zx2
      have pw : 0 < q / (-2 * x) := by rw [Rat.div_def]; exact Rat.mul_pos q0 (Rat.inv_pos.mpr (by grind))
      have qw : 0 < q + x * (q / (-2 * x)) := by
        have : x * (q / (-2 * x)) = - q / 2 := by
          have : x ≠ 0 := by grind
          grind
        grind
      have zq' : Sz (szA (vs.length + 1)) (q + x * (q / (-2 * x))) := by
        have e : q + x * (q / (-2 * x)) = q * (1 / 2) := by
          have : x ≠ 0 := by grind
          grind
        rw [e]
        exact (sz_mul zq (⟨by unfold Lt2; decide +kernel, by unfold Lt2; decide +kernel⟩ : Sz 2 (1 / 2 : Rat))).mono (by omega)
      obtain ⟨⟨f1, f2, f3⟩, fin⟩ := step _ pw zw' qw zq'
      generalize q / (-2 * x) = w' at g2 f1 f2 f3 fin zw' pw qw zq'
      refine .nx' ⟨t2, acc ++ [(kk + w', q + x * w')], kk + w', q + x * w', vs ++ [x], some (.d (fr x)), some (.d (fr w'))⟩ fin ?_
      have hn := (num_le0 _).mpr hq
      simp only [← fr_nd] at g1
      simp only [pr] at g1
      rw [hSt] at c1 b1 b2 g1 g2 f1 f2 f3
      simp only [Nat.add_assoc, Nat.reduceAdd, ← hR] at e1 e2 c1 b1 b2 g1 g2
      simp at e1 e2 c1 b1 b2 g1 g2 f1 f2 f3
      simp [e1, e2, c1, b1, b2, hn, g1, g2, f1, f2, f3, hal, co]
    · obtain ⟨⟨f1, f2, f3⟩, fin⟩ := step w w0 (zw.mono (by omega)) (by grind) ((sz_add zq (sz_mul zx zw)).mono (by omega))
      refine .nx' ⟨t2, acc ++ [(kk + w, q + x * w)], kk + w, q + x * w, vs ++ [x], some (.d (fr x)), some (.d (fr w))⟩ fin ?_
      have hn : ¬ (q + x * w).num ≤ 0 := fun z => hq ((num_le0 _).mp z)
      rw [hSt] at c1 b1 b2 f1 f2 f3
      simp only [Nat.add_assoc, Nat.reduceAdd, ← hR] at e1 e2 c1 b1 b2
      simp at e1 e2 c1 b1 b2 f1 f2 f3
      simp [e1, e2, c1, b1, b2, hn, f1, f2, f3, hal, co]
  · rintro fl ρ S ⟨⟨t, acc, kk, q, vs, w5, w11⟩, rfl, rfl, rfl, hv, ha, hc, zq, zk, hd⟩
    simp only at hv ha hc zq zk hd ⊢
    have hne : vs ≠ [] := by rw [hv]; intro e; rw [e] at hp0; simp at hp0
    have b0 : b ≠ 0 := by grind
    have zd := sz_div b0 zq sb
    have zf := sz_sub zk zd
    obtain ⟨hk, hsp⟩ := ha.close (n := 190) hne (by rw [hv]; omega) hb (fun c m => ⟨(hc c m).1.mono (by omega), (hc c m).2.mono (by omega)⟩) (zf.mono (by omega)) (by omega)
    have f1 := r_div (k + 1) zq sb b0 (by omega) (S0 ++ [cellD t, some ((ps ++ [b]).map fr), some (acc.map co)])
    have f2 := r_sub (k + 1) zk zd (by omega) (S0 ++ [cellD t, some ((ps ++ [b]).map fr), some (acc.map co)])
    simp only [Nat.add_assoc, Nat.reduceAdd, ← hR] at f1 f2
    have hal : acc.length < 100000 := by
      have := speeds_len acc
      rw [ha.spd, hv] at this; omega
    rw [← hP]
    refine ⟨acc ++ [(kk - q / b, 0)], t, [some (.m S0.length), some (.d (fr b)), w2, w3, some (.m (S0.length + 1)), w5, w6, w7, some (.m (S0.length + 2)), some (.d (fr kk)), some (.d (fr q)), w11, w12], [some ((ps ++ [b]).map fr), some ((acc ++ [(kk - q / b, 0)]).map co)], ⟨hk, fun v m => sz v (by rw [hsp, hv] at m; exact m)⟩, by rw [hsp, hv], hd, ?_⟩
    simp at f1 f2
    simp [f1, f2, hal, kd, co, fr0]
theorem mid_lt {f b v w : Rat} (hb : b < f) (h0 : 0 < v) (h1 : v < w) (h2 : w < 1) : f + v * (b - f) < f ∧ f + w * (b - f) < f + v * (b - f) ∧ b < f + w * (b - f) := by
  have a1 := Rat.mul_pos h0 (by grind : 0 < f - b)
  have a2 := Rat.mul_pos (by grind : 0 < w - v) (by grind : 0 < f - b)
  have a3 := Rat.mul_pos (by grind : 0 < 1 - w) (by grind : 0 < f - b)
  refine ⟨by grind, by grind, by grind⟩
theorem cutA (x y : PyData) : cutP [x, y] none (some 0) = [] := cut_to [x, y] 0
theorem cutB (x y : PyData) : cutP [x, y] none (some 1) = [x] := cut_to [x, y] 1
theorem cutC (x y : PyData) : cutP [x, y] none (some 2) = [x, y] := cut_to [x, y] 2
theorem r_road {m : Nat} (k : Nat) {t : Dice} (h : Dok m t) (hm : m < 800000) (S0 : Sto) : ∃ ks t', KS 190 15 ks ∧ ks.length ≤ 5 ∧ Dok (m + 20) t' ∧ run T (k + 5) "_law_road" [.m S0.length] (S0 ++ [cellD t]) = some (.d (kd ks), S0 ++ [cellD t']) := by
  obtain ⟨R, hR⟩ : ∃ R, R = run T (k + 4) := ⟨_, rfl⟩
  obtain ⟨x, hx, t1, h1, e1⟩ := r_pick (k + 2) h (by omega) [.int 2, .int 2, .int 3, .int 3, .int 4] (by simp) (by simp) S0 []
  obtain ⟨f, t2, f0, zf, h2, e2⟩ := r_small (k + 1) h1 (by omega) S0 []
  obtain ⟨d3, t3, d30, d31, h3, e3⟩ := r_draw (k + 3) h2 (by omega) 4 (by omega) (by omega) S0 []
  obtain ⟨d4, t4, d40, d41, h4, e4⟩ := r_draw (k + 3) h3 (by omega) 3 (by omega) (by omega) S0 []
  have l3 : Lt2 3 (-1 - d3) := by unfold Lt2; omega
  have l4 : Lt2 3 (1 + d4) := by unfold Lt2; omega
  have c1 := r_frac (n := 3) (k + 2) (a := -1 - d3) (b := 1 + d4) (by omega) l3 l4 (by omega) (S0 ++ [cellD t4])
  have b0 : Rat.divInt (-1 - d3) (1 + d4) < 0 := divInt_neg' (by omega) (by omega)
  have zb : Sz 3 (Rat.divInt (-1 - d3) (1 + d4)) := sz_divInt (by omega) l3 l4
  generalize Rat.divInt (-1 - d3) (1 + d4) = b at c1 b0 zb
  obtain ⟨d5, t5, d50, d51, h5, e5⟩ := r_draw (k + 3) h4 (by omega) 6 (by omega) (by omega) S0 []
  obtain ⟨d6, t6, d60, d61, h6, e6⟩ := r_draw (k + 3) h5 (by omega) (7 - (1 + d5)) (by omega) (by omega) S0 []
  have o1 : Ok 4 ((1 + d5, 8) : P2) := ⟨by show (0:Int) < 8; decide, by show Lt2 4 (1 + d5); unfold Lt2; omega, by show Lt2 4 8; unfold Lt2; decide⟩
  have o2 : Ok 4 ((1 + d5 + 1 + d6, 8) : P2) := ⟨by show (0:Int) < 8; decide, by show Lt2 4 (1 + d5 + 1 + d6); unfold Lt2; omega, by show Lt2 4 8; unfold Lt2; decide⟩
  have g1 := r_partP k zf zb o1 (by omega) (S0 ++ [cellD t6])
  have g2 := r_partP k zf zb o2 (by omega) (S0 ++ [cellD t6])
  have z1 : Sz 15 (f + val ((1 + d5, 8) : P2) * (b - f)) := (sz_add zf (sz_mulP o1 (sz_sub zb zf))).mono (by omega)
  have z2 : Sz 15 (f + val ((1 + d5 + 1 + d6, 8) : P2) * (b - f)) := (sz_add zf (sz_mulP o2 (sz_sub zb zf))).mono (by omega)
  have one : Ok 1 ((1, 1) : P2) := ⟨by decide, by unfold Lt2; decide, by unfold Lt2; decide⟩
  have v1 : val ((1, 1) : P2) = 1 := rfl
  have p1 : 0 < val ((1 + d5, 8) : P2) := (val_pos o1).mpr (by simp only; omega)
  have p2 : val ((1 + d5, 8) : P2) < val ((1 + d5 + 1 + d6, 8) : P2) := (val_lt o1 o2).mpr (by simp only; omega)
  have p3 : val ((1 + d5 + 1 + d6, 8) : P2) < 1 := by rw [← v1]; exact (val_lt o2 one).mpr (by simp only; omega)
  obtain ⟨q1, q2, q3⟩ := mid_lt (by grind : b < f) p1 p2 p3
  simp only [pr] at g1 g2
  generalize f + val ((1 + d5, 8) : P2) * (b - f) = u at g1 z1 q1 q2 q3
  generalize f + val ((1 + d5 + 1 + d6, 8) : P2) * (b - f) = w at g2 z2 q1 q2 q3
  have zf' : Sz 15 f := zf.mono (by omega)
  have zb' : Sz 15 b := zb.mono (by omega)
  obtain ⟨d7, t7, d70, d71, h7, e7⟩ := r_draw (k + 3) h6 (by omega) 3 (by omega) (by omega) S0 [some [fr f, fr u, fr b]]
  have T2 := r_road_tail k h6 (by omega) [f] b f rfl f0 (by simp) (by simp; grind) b0 (by simp; exact ⟨zf', zb'⟩) (some (.d (.int (1 + d5)))) (some (.d (.list []))) (some (.d (.int 2))) (some (.d (fr f))) none S0
  have T3 := r_road_tail k h7 (by omega) [f, u] b f rfl f0 (by simp) (by simp; grind) b0 (by simp; exact ⟨zf', z1, zb'⟩) (some (.d (.int (1 + d5)))) (some (.d (.list [.int (1 + d5)]))) (some (.d (.int 3))) (some (.d (fr f))) none S0
  have T0 := r_road_tail k h7 (by omega) [f, 0] b f rfl f0 (by simp) (by simp; grind) b0 (by simp; exact ⟨zf', sz0.mono (by omega), zb'⟩) (some (.d (.int (1 + d5)))) (some (.d (.list [.int (1 + d5)]))) (some (.d (.int 3))) (some (.d (fr f))) none S0
  have T4 := r_road_tail k h6 (by omega) [f, u, w] b f rfl f0 (by simp) (by simp; grind) b0 (by simp; exact ⟨zf', z1, z2, zb'⟩) (some (.d (.int (1 + d5)))) (some (.d (.list [.int (1 + d5), .int (1 + d5 + 1 + d6)]))) (some (.d (.int 4))) (some (.d (fr f))) none S0
  simp only [Nat.add_assoc, Nat.reduceAdd, ← hR] at e1 e2 e3 e4 e5 e6 e7 c1 g1 g2 T2 T3 T0 T4
  rw [u_L_road, x_run]
  simp only [Nat.add_assoc, Nat.reduceAdd, ← hR]
  have hx' : x = .int 2 ∨ x = .int 3 ∨ x = .int 4 := by simp at hx; rcases hx with rfl | rfl | rfl <;> simp
  rcases hx' with rfl | rfl | rfl
  · obtain ⟨ks, t', ρ', r', hk, hs, hd, ev⟩ := T2
    have hl := speeds_len ks
    rw [hs] at hl
    refine ⟨ks, t', hk, by simp at hl; omega, hd.mono (by omega), ?_⟩
    simp at ev
    simp [b_L_road, startR, e1, e2, e3, e4, e5, e6, c1, cutA, x_lc, wipeR, addM, catP, ev]
  · by_cases hz : d7 = 0
    · obtain ⟨ks, t', ρ', r', hk, hs, hd, ev⟩ := T0
      have hl := speeds_len ks
      rw [hs] at hl
      refine ⟨ks, t', hk, by simp at hl; omega, hd.mono (by omega), ?_⟩
      simp [fr0] at ev
      simp [b_L_road, startR, e1, e2, e3, e4, e5, e6, e7, c1, cutB, x_lc, x_lcN, wipeR, addM, catP, g1, hz, x_sub1, ixN, ev]
    · obtain ⟨ks, t', ρ', r', hk, hs, hd, ev⟩ := T3
      have hl := speeds_len ks
      rw [hs] at hl
      refine ⟨ks, t', hk, by simp at hl; omega, hd.mono (by omega), ?_⟩
      simp at ev
      simp [b_L_road, startR, e1, e2, e3, e4, e5, e6, e7, c1, cutB, x_lc, x_lcN, wipeR, addM, catP, g1, hz, ev]
  · obtain ⟨ks, t', ρ', r', hk, hs, hd, ev⟩ := T4
    have hl := speeds_len ks
    rw [hs] at hl
    refine ⟨ks, t', hk, by simp at hl; omega, hd.mono (by omega), ?_⟩
    simp at ev
    simp [b_L_road, startR, e1, e2, e3, e4, e5, e6, c1, cutC, x_lc, x_lcN, wipeR, addM, catP, g1, g2, ev]
end Prog

/-! A3: long roads, densities (family A; over D2). -/
namespace Prog
open PySem PySem.Spec PyProof.Rows L2 PD
def longC (w t : Rat) (n : Nat) (i : Nat) : Cr := (w * ((i : Int) : Rat), t * (((i : Int) * ((n : Int) - 1 - i) : Int) : Rat))
theorem longC_slope {w t : Rat} {n i : Nat} (hw : 0 < w) : slope (longC w t n i) (longC w t n (i + 1)) = t / w * (((n : Int) - 2 - 2 * i : Int) : Rat) := by
  have w0 : w ≠ 0 := by grind
  unfold slope longC
  have e1 : (((i + 1 : Nat) : Int) : Rat) = ((i : Int) : Rat) + 1 := by simp
  simp only [e1, Rat.intCast_mul, Rat.intCast_sub]
  have e2 : w * (((i : Int) : Rat) + 1) - w * ((i : Int) : Rat) = w := by grind
  rw [e2]
  have e3 : ((1 : Int) : Rat) = 1 := rfl
  have e4 : ((2 : Int) : Rat) = 2 := rfl
  rw [e3, e4]
  grind
theorem sz_nat {m : Nat} {z : Int} (h : z.natAbs < 2 ^ m) (hm : 1 ≤ m) : Sz m (z : Rat) := ⟨h, Nat.one_lt_two_pow (by omega)⟩
theorem long_get {w t : Rat} {n i : Nat} {c : Cr} (h : ((List.range n).map (longC w t n))[i]? = some c) : i < n ∧ c = longC w t n i := by
  rw [List.getElem?_map] at h
  by_cases hi : i < n
  · rw [List.getElem?_range hi] at h
    exact ⟨hi, by simpa using h.symm⟩
  · rw [List.getElem?_eq_none (by simpa using hi)] at h
    cases h
theorem kd_long {w t : Rat} {n : Nat} (hw : 0 < w) (ht : 0 < t) (zw : Sz 3 w) (zt : Sz 3 t) (h3 : 3 ≤ n) (h12 : n ≤ 12) : KS 20 15 ((List.range n).map (longC w t n)) := by
  have len : ((List.range n).map (longC w t n)).length = n := by simp
  have spg : ∀ {i : Nat} {v : Rat}, (speeds ((List.range n).map (longC w t n)))[i]? = some v → i + 1 < n ∧ v = t / w * (((n : Int) - 2 - 2 * i : Int) : Rat) := by
    intro i v h
    unfold speeds at h
    rw [List.getElem?_map] at h
    cases hp : (prs ((List.range n).map (longC w t n)))[i]? with
    | none => rw [hp] at h; cases h
    | some p =>
      rw [hp] at h
      simp only [Option.map_some, Option.some.injEq] at h
      have g := prs_get2 hp
      obtain ⟨h1, e1⟩ := long_get g.1
      obtain ⟨h2, e2⟩ := long_get g.2
      refine ⟨h2, ?_⟩
      rw [← h, e1, e2, longC_slope hw]
  refine ⟨⟨by rw [len]; exact h3, by rw [len]; exact h12, ?_, ?_, ?_, ?_, ?_, ?_⟩, ?_⟩
  · intro c m
    obtain ⟨i, hi⟩ := List.mem_iff_getElem?.mp m
    obtain ⟨hi, rfl⟩ := long_get hi
    refine ⟨(sz_mul zw (sz_nat (m := 4) (by omega) (by omega))).mono (by omega), (sz_mul zt (sz_nat (m := 8) ?_ (by omega))).mono (by omega)⟩
    have a1 : ((i : Int) * ((n : Int) - 1 - i)) = ((i * (n - 1 - i) : Nat) : Int) := by
      have : ((n - 1 - i : Nat) : Int) = (n : Int) - 1 - i := by omega
      rw [Int.natCast_mul, this]
    rw [a1]
    have : i * (n - 1 - i) ≤ 11 * 11 := Nat.mul_le_mul (by omega) (by omega)
    omega
  · obtain ⟨n', rfl⟩ : ∃ n', n = n' + 1 := ⟨n - 1, by omega⟩
    refine ⟨(List.range n').map (fun i => longC w t (n' + 1) (i + 1)), ?_⟩
    rw [List.range_succ_eq_map, List.map_cons, List.map_map]
    have : longC w t (n' + 1) 0 = (0, 0) := by unfold longC; simp
    rw [this]; rfl
  · obtain ⟨n', rfl⟩ : ∃ n', n = n' + 1 := ⟨n - 1, by omega⟩
    refine ⟨(List.range n').map (longC w t (n' + 1)), w * ((n' : Int) : Rat), ?_⟩
    rw [List.range_succ, List.map_append]
    congr 1
    simp only [List.map_cons, List.map_nil, longC]
    have : ((n' : Int) * (((n' + 1 : Nat) : Int) - 1 - n')) = 0 := by
      have : (((n' + 1 : Nat) : Int) - 1 - n') = 0 := by omega
      rw [this, Int.mul_zero]
    rw [this]
    have : t * ((0 : Int) : Rat) = 0 := by have : ((0 : Int) : Rat) = 0 := rfl
                                           rw [this]; grind
    rw [this]
  · intro c m
    obtain ⟨n', rfl⟩ : ∃ n', n = n' + 1 := ⟨n - 1, by omega⟩
    rw [List.range_succ_eq_map, List.map_cons, List.tail_cons] at m
    obtain ⟨n2, rfl⟩ : ∃ n2, n' = n2 + 1 := ⟨n' - 1, by omega⟩
    rw [List.map_map, List.range_succ, List.map_append, List.map_cons, List.map_nil, List.dropLast_concat] at m
    obtain ⟨i, mi, rfl⟩ := List.mem_map.mp m
    have hi := List.mem_range.mp mi
    show 0 < t * _
    refine Rat.mul_pos ht (Rat.intCast_pos.mpr (Int.mul_pos (by omega) (by omega)))
  · intro p m
    obtain ⟨i, g1, g2⟩ := prs_ix m
    obtain ⟨_, e1⟩ := long_get g1
    obtain ⟨_, e2⟩ := long_get g2
    rw [e1, e2]
    show w * _ < w * _
    have e1 : (((i + 1 : Nat) : Int) : Rat) = ((i : Int) : Rat) + 1 := by simp
    rw [e1]; grind
  · intro p m
    obtain ⟨i, g1, g2⟩ := prs_ix m
    obtain ⟨_, e1⟩ := spg g1
    obtain ⟨_, e2⟩ := spg g2
    rw [e1, e2]
    have hd : 0 < t / w := by rw [Rat.div_def]; exact Rat.mul_pos ht (Rat.inv_pos.mpr hw)
    have : (((n : Int) - 2 - 2 * ((i + 1 : Nat) : Int) : Int) : Rat) = (((n : Int) - 2 - 2 * i : Int) : Rat) - 2 := by
      have : ((n : Int) - 2 - 2 * ((i + 1 : Nat) : Int)) = ((n : Int) - 2 - 2 * i) - 2 := by omega
      rw [this, Rat.intCast_sub]; rfl
    rw [this]
    grind
  · intro v m
    obtain ⟨i, g⟩ := List.mem_iff_getElem?.mp m
    obtain ⟨hi, e⟩ := spg g
    rw [e]
    exact (sz_mul (sz_div (by grind) zt zw) (sz_nat (m := 5) (by omega) (by omega))).mono (by omega)
theorem r_long_road {m : Nat} (k : Nat) {t : Dice} (h : Dok m t) (hm : m < 800000) (n : Nat) (h3 : 3 ≤ n) (h20 : n ≤ 20) (S0 : Sto) : ∃ w f t', 0 < w ∧ 0 < f ∧ Sz 3 w ∧ Sz 3 f ∧ Dok (m + 4) t' ∧ run T (k + 4) "_law_long_road" [.m S0.length, .d (.int (n : Nat))] (S0 ++ [cellD t]) = some (.d (kd ((List.range n).map (longC w f n))), S0 ++ [cellD t']) := by
  obtain ⟨w, t1, w0, zw, h1, e1⟩ := r_small k h (by omega) S0 []
  obtain ⟨f, t2, f0, zf, h2, e2⟩ := r_small k h1 (by omega) S0 []
  refine ⟨w, f, t2, w0, f0, zw, zf, h2, ?_⟩
  have rg := rangeU_nat n (S0 ++ [cellD t2]) (by omega)
  rw [u_L_long_road, x_run]
  simp [b_L_long_road, startR, e1, e2, x_lc, wipeR, rg]
  have lc := lcN_each (g := nameG 4) (ρ := [some (W.m S0.length), some (W.d (PyData.int (n : Nat))), some (W.d (fr w)), some (W.d (fr f)), none]) (S := S0 ++ [cellD t2]) (elt := appE tupF (consL (appE (callF (c_L_mul (PD.run T (k + 3)))) (consL (varE 2) (consL (appE tupF (consL (frzE (varE 4)) (consL (constE (.int 1)) nilL))) nilL))) (consL (appE (callF (c_L_mul (PD.run T (k + 3)))) (consL (varE 3) (consL (appE tupF (consL (binE (pf2 mulP) (varE 4) (binE (pf2 subP) (binE (pf2 subP) (varE 1) (constE (.int 1))) (varE 4))) (consL (constE (.int 1)) nilL))) nilL))) nilL)))
    (fun i : Nat => PyData.int (0 + (i : Nat))) (fun i => [some (W.m S0.length), some (W.d (PyData.int (n : Nat))), some (W.d (fr w)), some (W.d (fr f)), some (W.d (PyData.int (0 + (i : Nat))))]) (fun i => co (longC w f n i)) (List.range n) (fun i _ => by simp) (fun i mi => by
      have hi := List.mem_range.mp mi
      have o1 : Ok 5 (((i : Int), 1) : P2) := ⟨by show (0:Int) < 1; decide, by show Lt2 5 (i : Int); unfold Lt2; omega, by show Lt2 5 1; unfold Lt2; decide⟩
      have l2 : Lt2 10 ((i : Int) * ((n : Int) - 1 - i)) := by
        have a1 : ((i : Int) * ((n : Int) - 1 - i)) = ((i * (n - 1 - i) : Nat) : Int) := by
          have : ((n - 1 - i : Nat) : Int) = (n : Int) - 1 - i := by omega
          rw [Int.natCast_mul, this]
        have : i * (n - 1 - i) ≤ 20 * 20 := Nat.mul_le_mul (by omega) (by omega)
        unfold Lt2
        rw [a1]; omega
      have o2 : Ok 10 (((i : Int) * ((n : Int) - 1 - i), 1) : P2) := ⟨by show (0:Int) < 1; decide, l2, by show Lt2 10 1; unfold Lt2; decide⟩
      have f1 := r_mulP k (ok_nd zw) o1 (by omega) (S0 ++ [cellD t2])
      have f2 := r_mulP k (ok_nd zf) o2 (by omega) (S0 ++ [cellD t2])
      rw [val_nd, val1, ← fr_nd] at f1 f2
      simp only [pr] at f1 f2
      have mk : mulOk (i : Int) ((n : Int) - 1 - i) = true := mulOk_small (by omega) (by omega)
      simp [mk, f1, f2, co, longC])
  have le : n ≤ 100000 := by omega
  rw [show rangeD 0 n = (List.range n).map fun i => PyData.int (0 + (i : Nat)) from rfl, lc]
  simp [le, kd, List.map_map, Function.comp_def]
end Prog

/-! T1: the program's looks at anything: whole numbers, fractions, pairs of them (over F2). -/
namespace Prog
open PySem PySem.Spec PyProof.Rows L2 PD
def fracB : PyData → Bool
  | .tuple [.int a, .int b] => decide (0 < b) && (Int.gcd a b == 1)
  | _ => false
def pairB : PyData → Bool
  | .tuple [u, v] => fracB u && fracB v
  | _ => false
theorem fracB_fr {x : PyData} (h : fracB x = true) : ∃ q : Rat, x = fr q := by
  unfold fracB at h
  split at h
  · rename_i a b
    simp only [Bool.and_eq_true, decide_eq_true_eq, beq_iff_eq] at h
    obtain ⟨n, hn⟩ := Int.eq_ofNat_of_zero_le (show 0 ≤ b by omega)
    subst hn
    refine ⟨⟨a, n, by omega, ?_⟩, rfl⟩
    have := h.2
    rw [Int.gcd, Int.natAbs_natCast] at this
    exact this
  · cases h
theorem fr_fracB (q : Rat) : fracB (fr q) = true := by
  have h1 : (0 : Int) < (q.den : Int) := by have := q.den_pos; omega
  show (decide (0 < (q.den : Int)) && (Int.gcd q.num (q.den : Int) == 1)) = true
  have : Int.gcd q.num (q.den : Int) = 1 := by rw [Int.gcd, Int.natAbs_natCast]; exact q.reduced
  rw [this, decide_eq_true h1]; rfl
theorem pairB_co {x : PyData} (h : pairB x = true) : ∃ c : Cr, x = co c := by
  unfold pairB at h
  split at h
  · rename_i u v
    rw [Bool.and_eq_true] at h
    obtain ⟨p, rfl⟩ := fracB_fr h.1
    obtain ⟨q, rfl⟩ := fracB_fr h.2
    exact ⟨(p, q), rfl⟩
  · cases h
theorem co_pairB (c : Cr) : pairB (co c) = true := by
  show (fracB (fr c.1) && fracB (fr c.2)) = true
  rw [fr_fracB, fr_fracB]; rfl
theorem all_co : ∀ {xs : List PyData}, (∀ x ∈ xs, pairB x = true) → ∃ ks : List Cr, xs = ks.map co
  | [], _ => ⟨[], rfl⟩
  | x :: xs, h => by
    obtain ⟨c, rfl⟩ := pairB_co (h x List.mem_cons_self)
    obtain ⟨ks, rfl⟩ := all_co fun y m => h y (List.mem_cons_of_mem _ m)
    exact ⟨c :: ks, rfl⟩
theorem x_eqLN (xs : List PyData) : eqP (.list xs) (.list []) = some (.bool xs.isEmpty) := by
  cases xs with
  | nil => rw [x_eqNil]; rfl
  | cons x xs =>
    unfold eqP
    by_cases h : eqOk (.list (x :: xs)) (.list []) = true
    · rw [if_pos h]; simp [PyData.eqv, PyData.eqvAll]
    · rw [if_neg h]; rfl
theorem x_neLN (xs : List PyData) : neP (.list xs) (.list []) = some (.bool (!xs.isEmpty)) := by
  cases xs with
  | nil => rw [x_neNil]; rfl
  | cons x xs =>
    unfold neP
    by_cases h : eqOk (.list (x :: xs)) (.list []) = true
    · rw [if_pos h]; simp [PyData.eqv, PyData.eqvAll]
    · rw [if_neg h]; rfl
theorem tup_of {x : PyData} (h : isTupD x = true) : ∃ xs, x = .tuple xs := by
  cases x <;> first | exact ⟨_, rfl⟩ | cases h
theorem r_is_wholeA (k : Nat) (x : PyData) (S : Sto) : run T (k + 1) "is_whole" [.d x] S = some (.d (.bool (isIntD x)), S) := by
  rw [u_is_whole]
  refine run_ret (ρ := [some (.d x)]) ?_
  cases x <;> simp [b_is_whole, startR]
def wholesB (x : PyData) (n : Nat) : Bool := match x with
  | .tuple xs => decide (xs.length = n) && xs.all isIntD
  | _ => false
theorem r_are_wholesA (k : Nat) (x : PyData) (n : Nat) (hl : ∀ xs, x = .tuple xs → xs.length ≤ 100000) (S : Sto) : run T (k + 2) "are_wholes" [.d x, .d (.int (n : Int))] S = some (.d (.bool (wholesB x n)), S) := by
  rw [u_are_wholes]
  refine run_ret (ρ := [some (.d x), some (.d (.int (n : Int))), none]) ?_
  cases ht : isTupD x with
  | false =>
    cases x <;> first | (cases ht; done) | simp [b_are_wholes, startR, wholesB]
  | true =>
    obtain ⟨xs, rfl⟩ := tup_of ht
    have w : ∀ z : PyData, run T (k + 1) "is_whole" [.d z] S = some (.d (.bool (isIntD z)), S) := fun z => r_is_wholeA k z S
    have lx := hl xs rfl
    by_cases hn : xs.length = n
    · have ll : n ≤ 100000 := by omega
      have hn2 : ((xs.length : Int) == (n : Int)) = true := by simp [hn]
      have lc := lcN_map (g := nameG 2) (t := notB (valB (appE (callF (c_is_whole (run T (k + 1)))) (consL (varE 2) nilL)))) (elt := varE 2) (ρ := [some (.d (.tuple xs)), some (.d (.int (n : Int))), none]) (S := S) id (fun y => [some (.d (.tuple xs)), some (.d (.int (n : Int))), some (.d y)]) (fun y => !isIntD y) id xs (fun y m => by simp) (fun y m => by simp [-isIntD, w]) (fun y m _ => by simp)
      simp only [List.map_id_fun, id_eq] at lc
      have e : (xs.filter fun y => !isIntD y).isEmpty = xs.all isIntD := by
        rw [Bool.eq_iff_iff, List.isEmpty_iff, List.filter_eq_nil_iff, List.all_eq_true]
        simp
      simp [-isIntD, b_are_wholes, startR, x_lc, wipeR, hn2, ll, lc, x_eqLN, e, wholesB, hn, frzE, thaw]
    · have hn2 : ((xs.length : Int) == (n : Int)) = false := by simp; omega
      simp [b_are_wholes, startR, hn2, wholesB, hn]
theorem r_is_fractionA (k : Nat) (x : PyData) (hl : ∀ xs, x = .tuple xs → xs.length ≤ 100000) (S : Sto) : run T (k + 3) "is_fraction" [.d x] S = some (.d (.bool (fracB x)), S) := by
  have e1 : run T (k + 2) "are_wholes" [.d x, .d (.int 2)] S = some (.d (.bool (wholesB x 2)), S) := r_are_wholesA k x 2 hl S
  rw [u_is_fraction]
  refine run_ret (ρ := [some (.d x)]) ?_
  cases hw : wholesB x 2 with
  | false =>
    rw [hw] at e1
    have e : fracB x = false := by
      cases hf : fracB x with
      | false => rfl
      | true =>
        obtain ⟨q, rfl⟩ := fracB_fr hf
        rw [show wholesB (fr q) 2 = true from rfl] at hw
        cases hw
    rw [e]
    simp [b_is_fraction, startR, e1]
  | true =>
    rw [hw] at e1
    unfold wholesB at hw
    split at hw
    · rename_i xs
      rw [Bool.and_eq_true, decide_eq_true_eq, List.all_eq_true] at hw
      obtain ⟨h2, ha⟩ := hw
      match xs, h2, ha with
      | [u, v], _, ha =>
        have hu := ha u (by simp)
        have hv := ha v (by simp)
        obtain ⟨a, rfl⟩ : ∃ a, u = .int a := by cases u <;> first | exact ⟨_, rfl⟩ | cases hu
        obtain ⟨b, rfl⟩ : ∃ b, v = .int b := by cases v <;> first | exact ⟨_, rfl⟩ | cases hv
        by_cases hb : 0 < b
        · have eg : ((((a.natAbs.gcd b.natAbs : Nat) : Int)) == 1) = (a.natAbs.gcd b.natAbs == 1) := by
            rw [Bool.eq_iff_iff, beq_iff_eq, beq_iff_eq]; omega
          simp [b_is_fraction, startR, e1, hb, fracB, Int.gcd, eg]
        · simp [b_is_fraction, startR, e1, hb, fracB]
    · cases hw
def fracsB (x : PyData) (n : Nat) : Bool := match x with
  | .tuple xs => decide (xs.length = n) && xs.all fracB
  | _ => false
theorem r_are_fractionsA (k : Nat) (x : PyData) (n : Nat) (hl : ∀ xs, x = .tuple xs → xs.length ≤ 100000 ∧ ∀ y ∈ xs, ∀ ys, y = .tuple ys → ys.length ≤ 100000) (S : Sto) : run T (k + 4) "are_fractions" [.d x, .d (.int (n : Int))] S = some (.d (.bool (fracsB x n)), S) := by
  rw [u_are_fractions]
  refine run_ret (ρ := [some (.d x), some (.d (.int (n : Int))), none]) ?_
  cases ht : isTupD x with
  | false =>
    cases x <;> first | (cases ht; done) | simp [b_are_fractions, startR, fracsB]
  | true =>
    obtain ⟨xs, rfl⟩ := tup_of ht
    obtain ⟨lx, ly⟩ := hl xs rfl
    have w : ∀ z ∈ xs, run T (k + 3) "is_fraction" [.d z] S = some (.d (.bool (fracB z)), S) := fun z m => r_is_fractionA k z (ly z m) S
    by_cases hn : xs.length = n
    · have ll : n ≤ 100000 := by omega
      have hn2 : ((xs.length : Int) == (n : Int)) = true := by simp [hn]
      have lc := lcN_map (g := nameG 2) (t := notB (valB (appE (callF (c_is_fraction (run T (k + 3)))) (consL (varE 2) nilL)))) (elt := varE 2) (ρ := [some (.d (.tuple xs)), some (.d (.int (n : Int))), none]) (S := S) id (fun y => [some (.d (.tuple xs)), some (.d (.int (n : Int))), some (.d y)]) (fun y => !fracB y) id xs (fun y m => by simp) (fun y m => by simp [w y m]) (fun y m _ => by simp)
      simp only [List.map_id_fun, id_eq] at lc
      have e : (xs.filter fun y => !fracB y).isEmpty = xs.all fracB := by
        rw [Bool.eq_iff_iff, List.isEmpty_iff, List.filter_eq_nil_iff, List.all_eq_true]
        simp
      simp [b_are_fractions, startR, x_lc, wipeR, hn2, ll, lc, x_eqLN, e, fracsB, hn, frzE, thaw]
    · have hn2 : ((xs.length : Int) == (n : Int)) = false := by simp; omega
      simp [b_are_fractions, startR, hn2, fracsB, hn]
theorem fracsB2 (x : PyData) : fracsB x 2 = pairB x := by
  cases x <;> try rfl
  rename_i xs
  match xs with
  | [] => rfl
  | [_] => rfl
  | [u, v] => simp [fracsB, pairB]
  | _ :: _ :: _ :: _ => simp [fracsB, pairB]
theorem r_is_cornerA (k : Nat) (x : PyData) (hl : ∀ xs, x = .tuple xs → xs.length ≤ 100000 ∧ ∀ y ∈ xs, ∀ ys, y = .tuple ys → ys.length ≤ 100000) (S : Sto) : run T (k + 5) "is_corner" [.d x] S = some (.d (.bool (pairB x)), S) := by
  have e := r_are_fractionsA k x 2 hl S
  rw [fracsB2] at e
  rw [u_is_corner]
  refine run_ret (ρ := [some (.d x)]) ?_
  have e' : run T (k + 4) "are_fractions" [.d x, .d (.int 2)] S = some (.d (.bool (pairB x)), S) := e
  simp [b_is_corner, startR, e']
end Prog

/-! T2: is_kind of anything (over T1, D1). -/
namespace Prog
open PySem PySem.Spec PyProof.Rows L2 PD
def frOf : PyData → Rat
  | .tuple [.int a, .int b] => mkRat a b.natAbs
  | _ => 0
def crOf : PyData → Cr
  | .tuple [u, v] => (frOf u, frOf v)
  | _ => (0, 0)
theorem frOf_fr (q : Rat) : frOf (fr q) = q := by
  show mkRat q.num ((q.den : Int).natAbs) = q
  rw [Int.natAbs_natCast]; exact Rat.mkRat_self q
theorem crOf_co (c : Cr) : crOf (co c) = c := by
  show (frOf (fr c.1), frOf (fr c.2)) = c
  rw [frOf_fr, frOf_fr]
theorem crOf_map (ks : List Cr) : (ks.map co).map crOf = ks := by
  rw [List.map_map]
  exact (List.map_congr_left fun c _ => crOf_co c).trans (List.map_id ks)
def restQ (ks : List Cr) : Bool := (ks.tail.dropLast).all (fun c => decide (0 < c.2)) && ((prs ks).all (fun p => decide (p.1.1 < p.2.1)) && (prs (speeds ks)).all fun p => decide (p.2 < p.1))
def kindQ (ks : List Cr) : Bool := decide (ks.head? = some (0, 0)) && (decide (ks.getLast?.map (·.2) = some 0) && restQ ks)
def formB : PyData → Bool
  | .tuple xs => decide (3 ≤ xs.length ∧ xs.length ≤ 12) && xs.all pairB
  | _ => false
def kindB : PyData → Bool
  | .tuple xs => formB (.tuple xs) && kindQ (xs.map crOf)
  | _ => false
theorem kindB_form {x : PyData} (h : formB x = false) : kindB x = false := by
  cases x <;> first | rfl | (show (_ && _) = false; rw [h]; rfl)
theorem form_kd {ks : List Cr} : formB (kd ks) = decide (3 ≤ ks.length ∧ ks.length ≤ 12) := by
  show (decide (3 ≤ (ks.map co).length ∧ (ks.map co).length ≤ 12) && (ks.map co).all pairB) = _
  rw [List.length_map]
  have : (ks.map co).all pairB = true := by
    rw [List.all_eq_true]
    intro x m
    obtain ⟨c, _, rfl⟩ := List.mem_map.mp m
    exact co_pairB c
  rw [this, Bool.and_true]
theorem kindB_kd {ks : List Cr} (h3 : 3 ≤ ks.length) (h12 : ks.length ≤ 12) : kindB (kd ks) = kindQ ks := by
  show (formB (kd ks) && kindQ ((ks.map co).map crOf)) = _
  rw [form_kd, crOf_map, decide_eq_true ⟨h3, h12⟩, Bool.true_and]
theorem form_ex {x : PyData} (h : formB x = true) : ∃ ks : List Cr, x = kd ks ∧ 3 ≤ ks.length ∧ ks.length ≤ 12 := by
  cases x with
  | tuple xs =>
    have h : (decide (3 ≤ xs.length ∧ xs.length ≤ 12) && xs.all pairB) = true := h
    rw [Bool.and_eq_true, decide_eq_true_eq, List.all_eq_true] at h
    obtain ⟨ks, rfl⟩ := all_co h.2
    exact ⟨ks, rfl, by simpa using h.1.1, by simpa using h.1.2⟩
  | _ => cases h
theorem eqv_co (c d : Cr) : PyData.eqv (co c) (co d) = decide (c = d) := by
  show PyData.eqvAll [fr c.1, fr c.2] [fr d.1, fr d.2] = _
  show (PyData.eqv (fr c.1) (fr d.1) && (PyData.eqv (fr c.2) (fr d.2) && true)) = _
  rw [eqv_fr, eqv_fr, Bool.and_true]
  obtain ⟨a, b⟩ := c
  obtain ⟨u, v⟩ := d
  by_cases h1 : a = u <;> by_cases h2 : b = v <;> simp [h1, h2]
theorem neP_co (c d : Cr) : neP (co c) (co d) = some (.bool (!decide (c = d))) := by
  unfold neP
  rw [if_pos (by rfl), eqv_co]
theorem co00 : (.tuple [.tuple [.int 0, .int 1], .tuple [.int 0, .int 1]] : PyData) = co (0, 0) := rfl
theorem filter_emp {α : Type} (p : α → Bool) (l : List α) : (l.filter fun x => !p x).isEmpty = l.all p := by
  rw [Bool.eq_iff_iff, List.isEmpty_iff, List.filter_eq_nil_iff, List.all_eq_true]
  simp
/-- things of which the parts are not too long -/
def Lens (x : PyData) : Prop := ∀ xs, x = .tuple xs → xs.length ≤ 100000 ∧ ∀ y ∈ xs, ∀ ys, y = .tuple ys → ys.length ≤ 100000 ∧ ∀ z ∈ ys, ∀ zs, z = .tuple zs → zs.length ≤ 100000
theorem r_is_kindQ {n : Nat} (k : Nat) {ks : List Cr} (h3 : 3 ≤ ks.length) (h12 : ks.length ≤ 12) (sz : ∀ c ∈ ks, CSz n c) (hn : n < 1000) (S : Sto) : run T (k + 8) "is_kind" [.d (kd ks)] S = some (.d (.bool (kindQ ks)), S) := by
  obtain ⟨c0, r0, hks⟩ : ∃ c r, ks = c :: r := by
    cases ks with
    | nil => simp at h3
    | cons c r => exact ⟨c, r, rfl⟩
  obtain ⟨r1, cl, hkl⟩ : ∃ r c, ks = r ++ [c] := ⟨_, _, (List.dropLast_concat_getLast (by rw [hks]; simp)).symm⟩
  have a0 : atI (ks.map co) 0 = some (co c0) := by rw [hks, List.map_cons]; exact at0 _ _
  have a1 : atI (ks.map co) (-1) = some (co cl) := by rw [hkl, List.map_append]; exact at_last _ _
  have q0 : kindQ ks = (decide (c0 = (0, 0)) && (decide (cl.2 = 0) && restQ ks)) := by
    unfold kindQ
    congr 1
    · rw [hks]; simp
    · congr 1
      rw [hkl]; simp
  have z1 := prs_zip co ks (by omega)
  have lp : (prs ks).length ≤ 100000 := by rw [prs_len]; omega
  have cm : cutP (ks.map co) (some 1) (some (-1)) = ks.tail.dropLast.map co := by rw [cut_mid _ (by simp; omega)]; simp
  have lm : (ks.tail.dropLast).length ≤ 100000 := by simp; omega
  have lk : ks.length ≤ 100000 := by omega
  have c1 : (3 : Int) ≤ ks.length := by omega
  have c2 : (ks.length : Int) ≤ 12 := by omega
  rw [u_is_kind, x_run, q0]
  have e1 := neP_co c0 (0, 0)
  have e2 := neP_fr cl.2 0
  rw [← co00] at e1
  rw [fr0] at e2
  refine (?_ : (fun o => o = some (W.d (.bool (decide (c0 = (0, 0)) && (decide (cl.2 = 0) && restQ ks))), S)) _)
  generalize hP : (fun o => o = some (W.d (PyData.bool (decide (c0 = (0, 0)) && (decide (cl.2 = 0) && restQ ks))), S)) = P
  have l1 := lcN_none (g := nameG 2) (t := notB (valB (appE (callF (c_is_corner (run T (k + 7)))) (consL (varE 2) nilL)))) (elt := varE 2) (ρ := [some (.d (.tuple (ks.map co))), none, none, none, none]) (S := S) co (fun c => [some (.d (.tuple (ks.map co))), none, some (.d (co c)), none, none]) ks (fun c m => by simp) (fun c m => by simp [r_is_corner])
  simp only [kd]
  by_cases h0 : c0 = (0, 0)
  rotate_left
  · simp [h0] at e1
    simp [b_is_kind, startR, x_lc, wipeR, lk, c1, c2, l1, a0, e1, frzE, thaw]
    rw [← hP]
    simp [h0]
  rw [decide_eq_true h0, Bool.not_true] at e1
  by_cases hl0 : cl.2 = 0
  rotate_left
  · simp [hl0] at e2
    have a2 : ixP (co cl) (.int 1) = some (fr cl.2) := by simp [co]
    simp [b_is_kind, startR, x_lc, wipeR, lk, c1, c2, l1, a0, a1, e1, a2, e2, frzE, thaw]
    rw [← hP]
    simp [hl0]
  rw [decide_eq_true hl0, Bool.not_true] at e2
  have a2 : ixP (co cl) (.int 1) = some (fr cl.2) := by simp [co]
  obtain ⟨mid, hmid⟩ : ∃ mid, mid = ks.tail.dropLast := ⟨_, rfl⟩
  rw [← hmid] at cm lm
  have l2 := lcN_map (g := nameG 2) (t := valB (binE (pf2 leP) (binE (pf2 ixP) (binE (pf2 ixP) (varE 2) (constE (.int 1))) (constE (.int 0))) (constE (.int 0)))) (elt := varE 2) (ρ := [some (.d (.tuple (ks.map co))), none, none, none, none]) (S := S) co (fun c => [some (.d (.tuple (ks.map co))), none, some (.d (co c)), none, none]) (fun c => !decide (0 < c.2)) co mid (fun c m => by simp) (fun c m => by
    have nl : (c.2.num ≤ 0) ↔ ¬ 0 < c.2 := by rw [num_le0, Rat.not_lt]
    simp [co, fr, decide_eq_decide.mpr nl]) (fun c m _ => by simp)
  have f2 : ((mid.filter fun c => !decide (0 < c.2)).map co).isEmpty = mid.all fun c => decide (0 < c.2) := by rw [List.isEmpty_map]; exact filter_emp (fun c : Cr => decide (0 < c.2)) mid
  cases b2 : mid.all fun c => decide (0 < c.2) with
  | false =>
    rw [b2] at f2
    simp [b_is_kind, startR, x_lc, wipeR, lk, c1, c2, l1, a0, a1, e1, a2, e2, cm, lm, l2, x_neLN, f2, frzE, thaw]
    rw [← hP]
    simp [restQ, ← hmid, b2, h0, hl0]
  | true =>
  rw [b2] at f2
  have l3 := lcN_map (g := tupG 2 (consG (nameG 2) (consG (nameG 3) nilG))) (t := notB (valB (appE (callF (c_is_below (run T (k + 7)))) (consL (binE (pf2 ixP) (varE 2) (constE (.int 0))) (consL (binE (pf2 ixP) (varE 3) (constE (.int 0))) nilL))))) (elt := constE (.int 1)) (ρ := [some (.d (.tuple (ks.map co))), none, none, none, none]) (S := S) (fun p : Cr × Cr => PyData.tuple [co p.1, co p.2]) (fun p => [some (.d (.tuple (ks.map co))), none, some (.d (co p.1)), some (.d (co p.2)), none]) (fun p => !decide (p.1.1 < p.2.1)) (fun _ => .int 1) (prs ks) (fun p m => by simp) (fun p m => by
    have q := prs_mem m
    have b := r_is_below (k + 6) (sz _ q.1).1 (sz _ q.2).1 (by omega) S
    simp [co, b]) (fun p m _ => by simp)
  have f3 : ((prs ks).filter fun p => !decide (p.1.1 < p.2.1)).isEmpty = (prs ks).all fun p => decide (p.1.1 < p.2.1) := filter_emp (fun p : Cr × Cr => decide (p.1.1 < p.2.1)) (prs ks)
  obtain ⟨F3, hF3⟩ : ∃ F, F = ((prs ks).filter fun p => !decide (p.1.1 < p.2.1)).map fun _ => PyData.int 1 := ⟨_, rfl⟩
  have g3 : F3.isEmpty = (prs ks).all fun p => decide (p.1.1 < p.2.1) := by rw [hF3, List.isEmpty_map]; exact f3
  rw [← hF3] at l3
  cases b3 : (prs ks).all fun p => decide (p.1.1 < p.2.1) with
  | false =>
    rw [b3] at g3
    simp [b_is_kind, startR, x_lc, wipeR, lk, c1, c2, l1, a0, a1, e1, a2, e2, cm, lm, l2, x_neLN, f2, z1, lp, l3, g3, frzE, thaw]
    rw [← hP]
    simp [restQ, ← hmid, b2, b3, h0, hl0]
  | true =>
  rw [b3] at g3
  have asc : ∀ p ∈ prs ks, p.1.1 < p.2.1 := fun p m => by simpa using List.all_eq_true.mp b3 p m
  have z2 := prs_zip fr (speeds ks) (by unfold speeds; rw [List.length_map, prs_len]; omega)
  have ls : (prs (speeds ks)).length ≤ 100000 := by rw [prs_len]; unfold speeds; rw [List.length_map, prs_len]; omega
  have hk : run T (k + 7) "kind_speeds" [.d (kd ks)] S = some (.d (.tuple ((speeds ks).map fr)), S) := by
    have sl := fun p m => r_slope_of k (sz p.1 (prs_mem m).1) (sz p.2 (prs_mem (p := p) m).2) (asc p m) (by omega : n < 2000) S
    rw [u_kind_speeds]
    refine run_ret (ρ := [some (.d (kd ks)), none, none]) ?_
    simp [b_kind_speeds, startR, kd, x_lc, wipeR, z1, lp]
    rw [lcN_each (fun p : Cr × Cr => PyData.tuple [co p.1, co p.2]) (fun p => [some (.d (.tuple (ks.map co))), some (.d (co p.1)), some (.d (co p.2))]) (fun p => fr (slope p.1 p.2)) (prs ks) (fun p m => by simp) (fun p m => by simp [sl p m])]
    simp [speeds]
  have zs : ∀ q ∈ speeds ks, Sz (4 * n + 2) q := fun q m => by
    obtain ⟨p, mp, rfl⟩ := List.mem_map.mp m
    exact sz_slope (sz _ (prs_mem mp).1) (sz _ (prs_mem mp).2) (asc p mp)
  have l4 := lcN_map (g := tupG 2 (consG (nameG 4) (consG (nameG 3) nilG))) (t := notB (valB (appE (callF (c_is_below (run T (k + 7)))) (consL (varE 3) (consL (varE 4) nilL))))) (elt := constE (.int 1)) (ρ := [some (.d (.tuple (ks.map co))), some (.d (.tuple ((speeds ks).map fr))), none, none, none]) (S := S) (fun p : Rat × Rat => PyData.tuple [fr p.1, fr p.2]) (fun p => [some (.d (.tuple (ks.map co))), some (.d (.tuple ((speeds ks).map fr))), none, some (.d (fr p.2)), some (.d (fr p.1))]) (fun p => !decide (p.2 < p.1)) (fun _ => .int 1) (prs (speeds ks)) (fun p m => by simp) (fun p m => by
    have q := prs_mem m
    have b := r_is_below (k + 6) (zs _ q.2) (zs _ q.1) (by omega) S
    simp [b]) (fun p m _ => by simp)
  obtain ⟨F4, hF4⟩ : ∃ F, F = ((prs (speeds ks)).filter fun p => !decide (p.2 < p.1)).map fun _ => PyData.int 1 := ⟨_, rfl⟩
  have g4 : F4.isEmpty = (prs (speeds ks)).all fun p => decide (p.2 < p.1) := by rw [hF4, List.isEmpty_map]; exact filter_emp (fun p : Rat × Rat => decide (p.2 < p.1)) (prs (speeds ks))
  rw [← hF4] at l4
  simp only [kd] at hk
  simp [b_is_kind, startR, x_lc, wipeR, lk, c1, c2, l1, a0, a1, e1, a2, e2, cm, lm, l2, x_neLN, x_eqLN, f2, z1, lp, l3, g3, hk, z2, ls, l4, g4, frzE, thaw]
  rw [← hP]
  simp [restQ, ← hmid, b2, b3, h0, hl0]
theorem r_is_kindA {n : Nat} (k : Nat) (x : PyData) (hl : Lens x) (hz : ∀ ks, x = kd ks → ∀ c ∈ ks, CSz n c) (hn : n < 1000) (S : Sto) : run T (k + 8) "is_kind" [.d x] S = some (.d (.bool (kindB x)), S) := by
  cases hf : formB x with
  | true =>
    obtain ⟨ks, rfl, h3, h12⟩ := form_ex hf
    rw [kindB_kd h3 h12]
    exact r_is_kindQ k h3 h12 (hz ks rfl) hn S
  | false =>
    rw [kindB_form hf, u_is_kind, x_run]
    cases ht : isTupD x with
    | false => cases x <;> first | (cases ht; done) | simp [b_is_kind, startR]
    | true =>
      obtain ⟨xs, rfl⟩ := tup_of ht
      obtain ⟨lx, ly⟩ := hl xs rfl
      by_cases h3 : 3 ≤ xs.length
      rotate_left
      · have c1 : ¬ (3 : Int) ≤ xs.length := by omega
        simp [b_is_kind, startR, c1]
      by_cases h12 : xs.length ≤ 12
      rotate_left
      · have c1 : (3 : Int) ≤ xs.length := by omega
        have c2 : ¬ (xs.length : Int) ≤ 12 := by omega
        simp [b_is_kind, startR, c1, c2]
      have c1 : (3 : Int) ≤ xs.length := by omega
      have c2 : (xs.length : Int) ≤ 12 := by omega
      have lk : xs.length ≤ 100000 := by omega
      have hp : xs.all pairB = false := by
        have hf : (decide (3 ≤ xs.length ∧ xs.length ≤ 12) && xs.all pairB) = false := hf
        rw [decide_eq_true ⟨h3, h12⟩, Bool.true_and] at hf
        exact hf
      have l1 := lcN_map (g := nameG 2) (t := notB (valB (appE (callF (c_is_corner (run T (k + 7)))) (consL (varE 2) nilL)))) (elt := varE 2) (ρ := [some (.d (.tuple xs)), none, none, none, none]) (S := S) id (fun c => [some (.d (.tuple xs)), none, some (.d c), none, none]) (fun y => !pairB y) id xs (fun c m => by simp) (fun c m => by
        have e := r_is_cornerA (k + 2) c (fun ys e => ly c m ys e) S
        simp [e]) (fun c m _ => by simp)
      simp only [List.map_id_fun, id_eq] at l1
      have f1 := filter_emp pairB xs
      rw [hp] at f1
      simp [b_is_kind, startR, c1, c2, x_lc, wipeR, lk, l1, x_neLN, f1, frzE, thaw]
end Prog

/-! T3: the law's look at anything: _law_is_road (over T2, A1). -/
namespace Prog
open PySem PySem.Spec PyProof.Rows L2 PD
theorem ix_tup2 (u v : PyData) : ixP (.tuple [u, v]) (.int 0) = some u ∧ ixP (.tuple [u, v]) (.int 1) = some v := ⟨by simp, by simp⟩
theorem r_law_is_fracA {n : Nat} (k : Nat) (x : PyData) (hb : ∀ a b, x = .tuple [.int a, .int b] → Lt2 n b) (hn : n < 9000) (S : Sto) : run T (k + 2) "_law_is_frac" [.d x] S = some (.d (.bool (fracB x)), S) := by
  rw [u_L_is_frac, x_run]
  cases ht : isTupD x with
  | false => cases x <;> first | (cases ht; done) | simp [b_L_is_frac, startR, fracB]
  | true =>
    obtain ⟨xs, rfl⟩ := tup_of ht
    by_cases h2 : xs.length = 2
    rotate_left
    · have c1 : ((xs.length : Int) == 2) = false := by simp; omega
      have e : fracB (.tuple xs) = false := by
        cases hf : fracB (.tuple xs) with
        | false => rfl
        | true =>
          obtain ⟨q, hq⟩ := fracB_fr hf
          simp only [fr, PyData.tuple.injEq] at hq
          rw [hq] at h2
          simp at h2
      simp [b_L_is_frac, startR, c1, e]
    · match xs, h2, hb with
      | [u, v], _, hb =>
        by_cases hu : isIntD u = true
        rotate_left
        · have e : fracB (.tuple [u, v]) = false := by
            cases u <;> first | (exact absurd rfl hu) | rfl
          rw [e]
          cases u <;> first | (exact absurd rfl hu; done) | (cases v <;> simp [b_L_is_frac, startR, x_lc, x_lcN, wipeR, frzE, thaw])
        · obtain ⟨a, rfl⟩ : ∃ a, u = .int a := by cases u <;> first | exact ⟨_, rfl⟩ | cases hu
          by_cases hv : isIntD v = true
          rotate_left
          · have e : fracB (.tuple [.int a, v]) = false := by
              cases v <;> first | (exact absurd rfl hv) | rfl
            rw [e]
            cases v <;> first | (exact absurd rfl hv; done) | simp [b_L_is_frac, startR, x_lc, x_lcN, wipeR, frzE, thaw]
          · obtain ⟨b, rfl⟩ : ∃ b, v = .int b := by cases v <;> first | exact ⟨_, rfl⟩ | cases hv
            have sh := r_shared (a := a) k (hb a b rfl) hn S
            by_cases hb0 : 0 < b
            · have eg : ((((Int.gcd a b : Nat) : Int)) == 1) = (Int.gcd a b == 1) := by
                rw [Bool.eq_iff_iff, beq_iff_eq, beq_iff_eq]; omega
              simp [b_L_is_frac, startR, x_lc, x_lcN, wipeR, frzE, thaw, hb0, sh, fracB, eg]
            · simp [b_L_is_frac, startR, x_lc, x_lcN, wipeR, frzE, thaw, hb0, fracB]
theorem r_law_is_pair (k : Nat) (x : PyData) (S : Sto) : run T (k + 1) "_law_is_pair" [.d x] S = some (.d (.bool (match x with | .tuple xs => decide (xs.length = 2) | _ => false)), S) := by
  rw [u_L_is_pair]
  refine run_ret (ρ := [some (.d x)]) ?_
  cases x with
  | tuple xs =>
    by_cases h : xs.length = 2
    · have c1 : ((xs.length : Int) == 2) = true := by simp [h]
      simp [b_L_is_pair, startR, h]
    · have c1 : ((xs.length : Int) == 2) = false := by simp; omega
      simp [b_L_is_pair, startR, h, c1]
  | _ => simp [b_L_is_pair, startR]
theorem range_all {α : Type} (l : List α) (d : α) (f : α → Bool) : ((List.range l.length).all fun i => f (l[i]?.getD d)) = l.all f := by
  rw [Bool.eq_iff_iff, List.all_eq_true, List.all_eq_true]
  constructor
  · intro h x m
    obtain ⟨i, hi, rfl⟩ := List.mem_iff_getElem.mp m
    have := h i (List.mem_range.mpr hi)
    rw [List.getElem?_eq_getElem hi] at this
    exact this
  · intro h i mi
    have hi := List.mem_range.mp mi
    rw [List.getElem?_eq_getElem hi]
    exact h _ (List.getElem_mem hi)
/-! texts of fractions -/
theorem split_sign {c : Nat} : ∀ {a b u v : List Nat}, c ∉ a → c ∉ b → a ++ c :: u = b ++ c :: v → a = b ∧ u = v
  | [], [], _, _, _, _, h => by simpa using h
  | [], y :: b, _, _, _, hb, h => by
    simp at h hb
    exact absurd h.1 hb.1
  | x :: a, [], _, _, ha, _, h => by
    simp at h ha
    exact absurd h.1.symm ha.1
  | x :: a, y :: b, u, v, ha, hb, h => by
    simp only [List.cons_append, List.cons.injEq] at h
    simp at ha hb
    obtain ⟨e1, e2⟩ := split_sign ha.2 hb.2 h.2
    exact ⟨by rw [h.1, e1], e2⟩
def cps (x : Str) : List Nat := x.cps.toList
theorem cps_app (a b : Str) : cps (a ++ b) = cps a ++ cps b := by
  show (Str.append a b).cps.toList = _
  unfold Str.append cps; simp
theorem cps_inj {a b : Str} (h : cps a = cps b) : a = b := by
  cases a; cases b
  unfold cps at h
  simp at h
  rw [h]
theorem cps_of (s : String) : cps (Str.ofString s) = s.toList.map fun c => c.val.toNat := by
  rw [Str.ofString_eq_toList]; unfold cps; simp
theorem digits_no {n : Nat} : ∀ c ∈ Nat.toDigits 10 n, c.isDigit = true := fun c m => Nat.isDigit_of_mem_toDigits (by decide) (by decide) m
theorem int_text (i : Int) : ∃ l, cps (PyData.int i).shown = l ∧ 44 ∉ l ∧ (l = [48] → i = 0) := by
  have e : (PyData.int i).shown = Str.ofString (toString i) := by simp [PyData.shown]
  refine ⟨_, rfl, ?_, ?_⟩
  · rw [e, cps_of]
    intro m
    obtain ⟨c, mc, hc⟩ := List.mem_map.mp m
    have key : ∀ n : Nat, c ∈ Nat.toDigits 10 n → False := fun n mn => by
      have := digits_no c mn
      simp only [Char.isDigit, Bool.and_eq_true, decide_eq_true_eq] at this
      have h1 := this.1
      have h2 : (48 : UInt32).toNat ≤ c.val.toNat := h1
      have h3 : (48 : UInt32).toNat = 48 := by decide
      omega
    cases i with
    | ofNat n =>
      have e2 : (toString (Int.ofNat n)).toList = Nat.toDigits 10 n := by
        show (Nat.repr n).toList = _
        simp [Nat.repr]
      rw [e2] at mc
      exact key n mc
    | negSucc n =>
      have e2 : (toString (Int.negSucc n)).toList = '-' :: Nat.toDigits 10 (n + 1) := by
        show ("-" ++ Nat.repr (n + 1)).toList = _
        simp [Nat.repr]
      rw [e2] at mc
      rcases List.mem_cons.mp mc with rfl | mc
      · revert hc; decide
      · exact key _ mc
  · rw [e, cps_of]
    intro h
    cases i with
    | ofNat n =>
      have e2 : (toString (Int.ofNat n)).toList = Nat.toDigits 10 n := by
        show (Nat.repr n).toList = _
        simp [Nat.repr]
      rw [e2] at h
      have l1 : (Nat.toDigits 10 n).length ≤ 1 := by
        have := congrArg List.length h
        simp at this
        omega
      rw [Nat.length_toDigits_le_iff (by decide) (by decide)] at l1
      have : n < 10 := by simpa using l1
      have k0 : ∀ m : Nat, m < 10 → ((Nat.toDigits 10 m).map fun c => c.val.toNat) = [48] → m = 0 := by decide
      have := k0 n this h
      subst this; rfl
    | negSucc n =>
      have e2 : (toString (Int.negSucc n)).toList = '-' :: Nat.toDigits 10 (n + 1) := by
        show ("-" ++ Nat.repr (n + 1)).toList = _
        simp [Nat.repr]
      rw [e2] at h
      simp at h
theorem fr_text (q : Rat) : ∃ l r, cps (fr q).shown = 40 :: (l ++ 44 :: r) ∧ 44 ∉ l ∧ (l = [48] → q = 0) := by
  obtain ⟨l, hl, no, z⟩ := int_text q.num
  refine ⟨l, 32 :: (cps (PyData.int q.den).shown ++ [41]), ?_, no, fun h => ?_⟩
  · have : (fr q).shown = Str.ofString "(" ++ ((PyData.int q.num).shown ++ Str.ofString ", " ++ (PyData.int q.den).shown) ++ Str.ofString ")" := by
      simp [fr, PyData.shown, PyData.shownAll, tupleText, Str.join]
    rw [this, cps_app, cps_app, cps_app, cps_app, hl, cps_of, cps_of, cps_of]
    simp
  · have := z h
    exact Rat.num_eq_zero.mp this
theorem co_text (c : Cr) : ((co c).shown == Str.ofString "((0, 1), (0, 1))") = decide (c = (0, 0)) := by
  rw [Bool.eq_iff_iff, beq_iff_eq, decide_eq_true_eq]
  constructor
  · intro h
    obtain ⟨a, b⟩ := c
    have e : (co (a, b)).shown = Str.ofString "(" ++ ((fr a).shown ++ Str.ofString ", " ++ (fr b).shown) ++ Str.ofString ")" := by
      simp [co, PyData.shown, PyData.shownAll, tupleText, Str.join]
    have e0 : (co (0, 0)).shown = Str.ofString "(" ++ ((fr 0).shown ++ Str.ofString ", " ++ (fr 0).shown) ++ Str.ofString ")" := by
      simp [co, PyData.shown, PyData.shownAll, tupleText, Str.join]
    have t0 : (fr 0).shown = Str.ofString "(0, 1)" := by decide +kernel
    have h2 := congrArg cps h
    rw [e, cps_app, cps_app, cps_app, cps_app] at h2
    obtain ⟨l1, r1, x1, n1, z1⟩ := fr_text a
    obtain ⟨l2, r2, x2, n2, z2⟩ := fr_text b
    have w0 : cps (Str.ofString "((0, 1), (0, 1))") = [40, 40] ++ ([48] ++ 44 :: ([32, 49, 41, 44, 32, 40] ++ ([48] ++ 44 :: [32, 49, 41, 41]))) := by
      rw [cps_of]; rfl
    rw [w0, x1, x2, cps_of, cps_of, cps_of] at h2
    have h3 : l1 ++ 44 :: (r1 ++ (44 :: 32 :: 40 :: (l2 ++ 44 :: (r2 ++ [41])))) = [48] ++ 44 :: ([32, 49, 41, 44, 32, 40] ++ ([48] ++ 44 :: [32, 49, 41, 41])) := by
      simpa using h2
    obtain ⟨q1, q2⟩ := split_sign n1 (by decide) h3
    have a0 := z1 q1
    subst a0
    have t1 : cps (fr 0).shown = 40 :: ([48] ++ 44 :: [32, 49, 41]) := by rw [t0, cps_of]; rfl
    rw [x1, q1] at t1
    have : r1 = [32, 49, 41] := by simpa using t1
    rw [this] at q2
    have h4 : l2 ++ 44 :: (r2 ++ [41]) = [48] ++ 44 :: [32, 49, 41, 41] := by simpa using q2
    obtain ⟨p1, _⟩ := split_sign n2 (by decide) h4
    rw [z2 p1]
  · rintro rfl
    have e0 : (co (0, 0)).shown = Str.ofString "(" ++ ((fr 0).shown ++ Str.ofString ", " ++ (fr 0).shown) ++ Str.ofString ")" := by
      simp [co, PyData.shown, PyData.shownAll, tupleText, Str.join]
    rw [e0]
    decide +kernel
theorem shw_co {n : Nat} {c : Cr} (h : CSz n c) (hn : n < 1920) : Shw 2 (2 * (2 * n + 13) + 3) (co c) := by
  refine (shw_tuple (D := 1) (L := 2 * n + 11) (xs := [fr c.1, fr c.2]) fun x m => ?_).mono (by omega) (by simp)
  simp at m
  rcases m with rfl | rfl
  · exact shw_fr h.1 hn
  · exact shw_fr h.2 hn
end Prog

/-! T4: _law_is_road of anything (over T3). -/
namespace Prog
open PySem PySem.Spec PyProof.Rows L2 PD
def fracsIn (n : Nat) (x : PyData) : Prop := ∀ xs, x = .tuple xs → ∀ y ∈ xs, ∀ ys, y = .tuple ys → ∀ z ∈ ys, ∀ a b, z = .tuple [.int a, .int b] → Lt2 n b
theorem r_pacesA {n : Nat} (k : Nat) {ks : List Cr} (h3 : 3 ≤ ks.length) (h12 : ks.length ≤ 12) (sz : ∀ c ∈ ks, CSz n c) (asc : ∀ p ∈ prs ks, p.1.1 < p.2.1) (hn : n < 2000) (S : Sto) : run T (k + 4) "_law_paces" [.d (kd ks)] S = some (.d (.list ((speeds ks).map fr)), S) := by
  obtain ⟨R, hR⟩ : ∃ R, R = run T (k + 3) := ⟨_, rfl⟩
  rw [u_L_paces, x_run]
  have rg := rangeU_nat (ks.length - 1) (S ++ [some []]) (by omega)
  have ec : ((ks.length - 1 : Nat) : Int) = (ks.length : Int) - 1 := by omega
  rw [ec] at rg
  refine (?_ : (fun o => o = some (W.d (.list ((speeds ks).map fr)), S)) _)
  generalize hP : (fun o => o = some (W.d (.list ((speeds ks).map fr)), S)) = P
  simp only [Nat.add_assoc, Nat.reduceAdd, ← hR]
  simp [b_L_paces, startR, kd, rg]
  try simp only [Option.bind_assoc]
  refine forR_bind P (ks.length - 1) (fun s : List Rat × Option W => [some (.d (.tuple (ks.map co))), some (.m S.length), s.2]) (fun s => S ++ [some (s.1.map fr)])
    (fun i s => s.1 = (speeds ks).take i) (fun fl ρ S' => ∃ w, fl = .nx ∧ ρ = [some (.d (.tuple (ks.map co))), some (.m S.length), w] ∧ S' = S ++ [some ((speeds ks).map fr)]) ([], none) (by simp) rfl (by simp) ?_ ?_ ?_
  · rintro ⟨xs, w⟩ e
    simp only at e
    refine ⟨w, rfl, rfl, ?_⟩
    rw [e, List.take_of_length_le (by rw [speeds_len]; omega)]
  · rintro i ⟨xs, w⟩ hi e
    simp only at e
    have hp : i < (prs ks).length := by rw [prs_len]; exact hi
    obtain ⟨g1, g2⟩ := prs_get2 (List.getElem?_eq_getElem hp)
    have mp : (prs ks)[i] ∈ prs ks := List.getElem_mem hp
    have sp : (speeds ks)[i]? = some (slope (prs ks)[i].1 (prs ks)[i].2) := by unfold speeds; rw [List.getElem?_map, List.getElem?_eq_getElem hp]; rfl
    generalize (prs ks)[i] = p at g1 g2 mp sp
    have asc := asc p mp
    have z1 := sz _ (prs_mem mp).1
    have z2 := sz _ (prs_mem mp).2
    have a1 : atI (ks.map co) (i : Int) = some (co p.1) := atI_nat (by rw [List.getElem?_map, g1]; rfl)
    have a2 : atI (ks.map co) ((i : Int) + 1) = some (co p.2) := atI_nat (j := i + 1) (by rw [List.getElem?_map, g2]; rfl)
    have f1 := r_sub k z2.2 z1.2 (by omega) (S ++ [some (xs.map fr)])
    have f2 := r_sub k z2.1 z1.1 (by omega) (S ++ [some (xs.map fr)])
    have f3 := r_div k (sz_sub z2.2 z1.2) (sz_sub z2.1 z1.1) (by grind) (by omega) (S ++ [some (xs.map fr)])
    rw [← hR] at f1 f2 f3
    refine .nx' (xs ++ [slope p.1 p.2], some (.d (.int (i : Int)))) ?_ ?_
    · show xs ++ [slope p.1 p.2] = (speeds ks).take (i + 1)
      rw [List.take_succ, sp, e]; rfl
    · have lx : xs.length < 100000 := by rw [e, List.length_take]; omega
      simp [a1, a2, co, f1, f2, f3, lx, slope]
  · rintro fl ρ S' ⟨w, rfl, rfl, rfl⟩
    rw [← hP]
    simp
theorem r_is_roadA {n : Nat} (k : Nat) (x : PyData) (hl : Lens x) (hf : fracsIn n x) (hz : ∀ ks, x = kd ks → ∀ c ∈ ks, CSz n c) (hn : n < 1000) (S : Sto) : run T (k + 5) "_law_is_road" [.d x] S = some (.d (.bool (kindB x)), S) := by
  obtain ⟨R, hR⟩ : ∃ R, R = run T (k + 4) := ⟨_, rfl⟩
  rw [u_L_is_road, x_run]
  cases ht : isTupD x with
  | false => cases x <;> first | (cases ht; done) | simp [b_L_is_road, startR, kindB]
  | true =>
  obtain ⟨xs, rfl⟩ := tup_of ht
  obtain ⟨lx, ly⟩ := hl xs rfl
  by_cases h3 : 3 ≤ xs.length
  rotate_left
  · have c1 : ¬ (3 : Int) ≤ xs.length := by omega
    have e : formB (.tuple xs) = false := by show (decide _ && _) = false; rw [decide_eq_false (by omega)]; rfl
    rw [kindB_form e]
    simp [b_L_is_road, startR, c1]
  by_cases h12 : xs.length ≤ 12
  rotate_left
  · have c1 : (3 : Int) ≤ xs.length := by omega
    have c2 : ¬ (xs.length : Int) ≤ 12 := by omega
    have e : formB (.tuple xs) = false := by show (decide _ && _) = false; rw [decide_eq_false (by omega)]; rfl
    rw [kindB_form e]
    simp [b_L_is_road, startR, c1, c2]
  have c1 : (3 : Int) ≤ xs.length := by omega
  have c2 : (xs.length : Int) ≤ 12 := by omega
  simp only [← hR]
  refine (?_ : (fun o => o = some (W.d (.bool (kindB (.tuple xs))), S)) _)
  generalize hP : (fun o => o = some (W.d (PyData.bool (kindB (.tuple xs))), S)) = P
  have pr1 : ∀ y, R "_law_is_pair" [.d y] S = some (.d (.bool (match y with | .tuple xs => decide (xs.length = 2) | _ => false)), S) := fun y => by rw [hR]; exact r_law_is_pair (k + 3) y S
  have pr2 : ∀ y ∈ xs, ∀ ys, y = .tuple ys → ∀ z ∈ ys, R "_law_is_frac" [.d z] S = some (.d (.bool (fracB z)), S) := fun y my ys ey z mz => by
    rw [hR]; exact r_law_is_fracA (k + 2) z (hf xs rfl y my ys ey z mz) (by omega) S
  rw [show startR 4 [W.d (PyData.tuple xs)] = [some (.d (.tuple xs)), none, none, none] from rfl]
  simp [b_L_is_road, c1, c2, frzE, thaw]
  try simp only [Option.bind_assoc]
  have loop : ∀ K : Fl × Rho × Sto → Option (W × Sto), (∀ y, xs.all pairB = false → P (K (.rt (.d (.bool false)), [some (.d (.tuple xs)), y, none, none], S))) → (∀ y, xs.all pairB = true → P (K (.nx, [some (.d (.tuple xs)), y, none, none], S))) →
      P ((forN (nameG 1) (seqS (ifS (orB (notB (valB (appE (callF (c_L_is_pair R)) (consL (varE 1) nilL)))) (orB (notB (valB (appE (callF (c_L_is_frac R)) (consL (binE (pf2 ixP) (varE 1) (constE (.int 0))) nilL)))) (notB (valB (appE (callF (c_L_is_frac R)) (consL (binE (pf2 ixP) (varE 1) (constE (.int 1))) nilL)))))) (seqS (retS false (constE (.bool false))) nilS) nilS) nilS) (xs.map id) [some (.d (.tuple xs)), none, none, none] S).bind K) := by
    intro K k1 k2
    refine forN_bind P id (fun s : Option W => [some (.d (.tuple xs)), s, none, none]) (fun _ => S)
      (fun l s => (∀ y ∈ l, y ∈ xs) ∧ ∀ y ∈ xs, y ∈ l ∨ pairB y = true)
      (fun fl ρ S' => S' = S ∧ ∃ y, ρ = [some (.d (.tuple xs)), y, none, none] ∧ ((fl = .nx ∧ xs.all pairB = true) ∨ (fl = .rt (.d (.bool false)) ∧ xs.all pairB = false)))
      xs none ⟨fun y m => m, fun y m => .inl m⟩ rfl rfl ?_ ?_ ?_
    · rintro s ⟨_, h2⟩
      exact ⟨rfl, s, rfl, .inl ⟨rfl, List.all_eq_true.mpr fun y m => (h2 y m).elim (fun z => by cases z) id⟩⟩
    · rintro y l s ⟨h1, h2⟩
      have my := h1 y List.mem_cons_self
      cases hp : pairB y with
      | true =>
        refine .nx' (some (.d y)) ⟨fun z m => h1 z (List.mem_cons_of_mem _ m), fun z m => ?_⟩ ?_
        · rcases h2 z m with q | q
          · rcases List.mem_cons.mp q with rfl | q
            · exact .inr hp
            · exact .inl q
          · exact .inr q
        · obtain ⟨c, rfl⟩ := pairB_co hp
          have e1 := pr1 (co c)
          have e2 := pr2 _ my _ rfl (fr c.1) (by simp)
          have e3 := pr2 _ my _ rfl (fr c.2) (by simp)
          rw [fr_fracB] at e2 e3
          simp [co] at e1
          simp [co, e1, e2, e3]
      | false =>
        have na : xs.all pairB = false := by
          cases h : xs.all pairB with
          | false => rfl
          | true => rw [List.all_eq_true.mp h y my] at hp; cases hp
        refine .rt' (w := .d (.bool false)) (ρ := [some (.d (.tuple xs)), some (.d y), none, none]) (S := S) ⟨rfl, _, rfl, .inr ⟨rfl, na⟩⟩ ?_
        have e1 := pr1 y
        cases hy : isTupD y with
        | false => cases y <;> first | (cases hy; done) | simp [e1]
        | true =>
          obtain ⟨ys, rfl⟩ := tup_of hy
          by_cases h2 : ys.length = 2
          rotate_left
          · simp [h2] at e1
            simp [e1]
          · match ys, h2, my, e1, hp, na with
            | [u, v], _, my, e1, hp, _ =>
              simp at e1
              have e2 := pr2 _ my _ rfl u (by simp)
              have e3 := pr2 _ my _ rfl v (by simp)
              have hp : (fracB u && fracB v) = false := hp
              cases hu : fracB u with
              | false => rw [hu] at e2; simp [e1, e2]
              | true =>
                rw [hu, Bool.true_and] at hp
                rw [hu] at e2
                rw [hp] at e3
                simp [e1, e2, e3]
    · rintro fl ρ S' ⟨rfl, y, rfl, ⟨rfl, h⟩ | ⟨rfl, h⟩⟩
      · exact k2 y h
      · exact k1 y h
  rw [List.map_id] at loop
  refine loop _ (fun y hall => ?_) fun y hall => ?_
  · rw [← hP]
    have e : formB (.tuple xs) = false := by show (_ && xs.all pairB) = false; rw [hall, Bool.and_false]
    rw [kindB_form e]
    simp
  -- a row of pairs
  obtain ⟨ks, rfl⟩ := all_co (List.all_eq_true.mp hall)
  have kq : kindB (.tuple (ks.map co)) = kindQ ks := kindB_kd (by simpa using h3) (by simpa using h12)
  have h3' : 3 ≤ ks.length := by simpa using h3
  have h12' : ks.length ≤ 12 := by simpa using h12
  have sz := hz ks rfl
  obtain ⟨c0, r0, hks⟩ : ∃ c r, ks = c :: r := by
    cases ks with
    | nil => simp at h3
    | cons c r => exact ⟨c, r, rfl⟩
  obtain ⟨r1, cl, hkl⟩ : ∃ r c, ks = r ++ [c] := ⟨_, _, (List.dropLast_concat_getLast (by rw [hks]; simp)).symm⟩
  have a0 : atI (ks.map co) 0 = some (co c0) := by rw [hks, List.map_cons]; exact at0 _ _
  have a1 : atI (ks.map co) (-1) = some (co cl) := by rw [hkl, List.map_append]; exact at_last _ _
  have q0 : kindQ ks = (decide (c0 = (0, 0)) && (decide (cl.2 = 0) && restQ ks)) := by
    unfold kindQ
    congr 1
    · rw [hks]; simp
    · congr 1
      rw [hkl]; simp
  have zc0 := shw_co (sz c0 (by rw [hks]; simp)) (by omega)
  have rp := repr_ok zc0 (by omega) (by omega)
  have np : neP (.str (co c0).shown) (.str "((0, 1), (0, 1))") = some (.bool (!decide (c0 = (0, 0)))) := by
    unfold neP eqOk
    rw [if_pos (by simp [PyData.canLay0, zc0.tx.2, PyData.depth]; decide +kernel)]
    rw [← co_text c0]
    simp [PyData.eqv]
  have cm : cutP (ks.map co) (some 1) (some (-1)) = ks.tail.dropLast.map co := by rw [cut_mid _ (by simp; omega)]; simp
  have lm : (ks.tail.dropLast).length ≤ 100000 := by simp; omega
  have ec : ((ks.length - 1 : Nat) : Int) = (ks.length : Int) - 1 := by omega
  by_cases h0 : c0 = (0, 0)
  rotate_left
  · rw [decide_eq_false h0, Bool.not_false] at np
    simp [a0, rp, np]
    rw [← hP, kq, q0]
    simp [h0]
  rw [decide_eq_true h0, Bool.not_true] at np
  have b0 : ixP (co cl) (.int 1) = some (fr cl.2) := by simp [co]
  have b1 : ixP (fr cl.2) (.int 0) = some (.int cl.2.num) := by simp
  by_cases hl0 : cl.2 = 0
  rotate_left
  · have nz : ¬ cl.2.num = 0 := fun e => hl0 (Rat.num_eq_zero.mp e)
    simp [a0, a1, rp, np, b0, b1, nz]
    rw [← hP, kq, q0]
    simp [hl0]
  have nz : cl.2.num = 0 := by rw [hl0]; rfl
  obtain ⟨mid, hmid⟩ : ∃ mid, mid = ks.tail.dropLast := ⟨_, rfl⟩
  rw [← hmid] at cm lm
  have l2 := lcN_map (g := nameG 1) (t := valB (binE (pf2 leP) (binE (pf2 ixP) (binE (pf2 ixP) (varE 1) (constE (.int 1))) (constE (.int 0))) (constE (.int 0)))) (elt := varE 1) (ρ := [some (.d (.tuple (ks.map co))), none, none, none]) (S := S) co (fun c => [some (.d (.tuple (ks.map co))), some (.d (co c)), none, none]) (fun c => !decide (0 < c.2)) co mid (fun c m => by simp) (fun c m => by
    have nl : (c.2.num ≤ 0) ↔ ¬ 0 < c.2 := by rw [num_le0, Rat.not_lt]
    simp [co, fr, decide_eq_decide.mpr nl]) (fun c m _ => by simp)
  have f2 : ((mid.filter fun c => !decide (0 < c.2)).map co).isEmpty = mid.all fun c => decide (0 < c.2) := by rw [List.isEmpty_map]; exact filter_emp (fun c : Cr => decide (0 < c.2)) mid
  cases b2 : mid.all fun c => decide (0 < c.2) with
  | false =>
    rw [b2] at f2
    simp [a0, a1, rp, np, b0, b1, nz, cm, x_lc, wipeR, lm, l2, x_neLN, f2]
    rw [← hP, kq, q0]
    simp [restQ, ← hmid, b2]
  | true =>
  rw [b2] at f2
  have rg := rangeU_nat (ks.length - 1) S (by omega)
  rw [ec] at rg
  have lr : (rangeD 0 (ks.length - 1)).length ≤ 100000 := by simp [rangeD]; omega
  have plen : (prs ks).length = ks.length - 1 := prs_len ks
  have lk1 : ks.length ≤ 100001 := by omega
  have lk2 : ks.length ≤ 100002 := by omega
  have un : ∀ c ∈ ks, ∀ d ∈ ks, R "_law_under" [.d (fr c.1), .d (fr d.1)] S = some (.d (.bool (decide (c.1 < d.1))), S) := fun c mc d md => by
    rw [hR]; exact r_under (k + 3) (sz c mc).1 (sz d md).1 (by omega) S
  have l3 := lcN_map (g := nameG 3) (t := notB (valB (appE (callF (c_L_under R)) (consL (binE (pf2 ixP) (binE (pf2 ixP) (varE 0) (varE 3)) (constE (.int 0))) (consL (binE (pf2 ixP) (binE (pf2 ixP) (varE 0) (binE (pf2 addP) (varE 3) (constE (.int 1)))) (constE (.int 0))) nilL))))) (elt := varE 3) (ρ := [some (.d (.tuple (ks.map co))), y, none, none]) (S := S)
    (fun i : Nat => PyData.int (0 + (i : Nat))) (fun i => [some (.d (.tuple (ks.map co))), y, none, some (.d (.int (0 + (i : Nat))))]) (fun i => !decide ((((prs ks)[i]?.getD ((0, 0), (0, 0))).1).1 < (((prs ks)[i]?.getD ((0, 0), (0, 0))).2).1)) (fun i => .int (0 + (i : Nat))) (List.range (ks.length - 1)) (fun i m => by simp) (fun i m => by
      have hi := List.mem_range.mp m
      have hp : i < (prs ks).length := by omega
      obtain ⟨g1, g2⟩ := prs_get2 (List.getElem?_eq_getElem hp)
      have mp : (prs ks)[i] ∈ prs ks := List.getElem_mem hp
      rw [List.getElem?_eq_getElem hp]
      generalize (prs ks)[i] = p at g1 g2 mp
      obtain ⟨m1, m2⟩ := prs_mem mp
      have t1 : atI (ks.map co) (i : Int) = some (co p.1) := atI_nat (by rw [List.getElem?_map, g1]; rfl)
      have t2 : atI (ks.map co) ((i : Int) + 1) = some (co p.2) := atI_nat (j := i + 1) (by rw [List.getElem?_map, g2]; rfl)
      have u := un _ m1 _ m2
      simp [t1, t2, co, u]) (fun i m _ => by simp)
  have f3 := (filter_emp (fun i : Nat => decide ((((prs ks)[i]?.getD ((0, 0), (0, 0))).1).1 < (((prs ks)[i]?.getD ((0, 0), (0, 0))).2).1)) (List.range (ks.length - 1)))
  rw [← plen, range_all (prs ks) ((0, 0), (0, 0)) (fun p => decide (p.1.1 < p.2.1)), plen] at f3
  obtain ⟨F3, hF3⟩ : ∃ F, F = ((List.range (ks.length - 1)).filter fun i => !decide ((((prs ks)[i]?.getD ((0, 0), (0, 0))).1).1 < (((prs ks)[i]?.getD ((0, 0), (0, 0))).2).1)).map fun i => PyData.int (0 + (i : Nat)) := ⟨_, rfl⟩
  have g3 : F3.isEmpty = (prs ks).all fun p => decide (p.1.1 < p.2.1) := by rw [hF3, List.isEmpty_map]; exact f3
  rw [← hF3] at l3
  cases b3 : (prs ks).all fun p => decide (p.1.1 < p.2.1) with
  | false =>
    rw [b3] at g3
    simp [a0, a1, rp, np, b0, b1, nz, cm, x_lc, wipeR, lm, l2, x_neLN, f2, rg, lr]
    rw [show rangeD 0 (ks.length - 1) = (List.range (ks.length - 1)).map fun i => PyData.int (0 + (i : Nat)) from rfl, l3]
    simp [x_neLN, g3, lk1]
    rw [← hP, kq, q0]
    simp [restQ, ← hmid, b2, b3]
  | true =>
  rw [b3] at g3
  have asc : ∀ p ∈ prs ks, p.1.1 < p.2.1 := fun p m => by simpa using List.all_eq_true.mp b3 p m
  have pc : R "_law_paces" [.d (.tuple (ks.map co))] S = some (.d (.list ((speeds ks).map fr)), S) := by rw [hR]; exact r_pacesA k h3' h12' sz asc (by omega) S
  have zs : ∀ q ∈ speeds ks, Sz (4 * n + 2) q := fun q m => by
    obtain ⟨p, mp, rfl⟩ := List.mem_map.mp m
    exact sz_slope (sz _ (prs_mem mp).1) (sz _ (prs_mem mp).2) (asc p mp)
  have sl : (speeds ks).length = ks.length - 1 := speeds_len ks
  have plen4 : (prs (speeds ks)).length = ks.length - 2 := by rw [prs_len, sl]; omega
  have rg4 := rangeU_nat (ks.length - 2) S (by omega)
  have ec4 : ((ks.length - 2 : Nat) : Int) = ((ks.length - 1 : Nat) : Int) - 1 := by omega
  rw [ec4] at rg4
  have lr4 : (rangeD 0 (ks.length - 2)).length ≤ 100000 := by simp [rangeD]; omega
  have un4 : ∀ c ∈ speeds ks, ∀ d ∈ speeds ks, R "_law_under" [.d (fr c), .d (fr d)] S = some (.d (.bool (decide (c < d))), S) := fun c mc d md => by
    rw [hR]; exact r_under (k + 3) (zs c mc) (zs d md) (by omega) S
  have l4 := lcN_map (g := nameG 3) (t := notB (valB (appE (callF (c_L_under R)) (consL (binE (pf2 ixP) (varE 2) (binE (pf2 addP) (varE 3) (constE (.int 1)))) (consL (binE (pf2 ixP) (varE 2) (varE 3)) nilL))))) (elt := varE 3) (ρ := [some (.d (.tuple (ks.map co))), y, some (.d (.list ((speeds ks).map fr))), none]) (S := S)
    (fun i : Nat => PyData.int (0 + (i : Nat))) (fun i => [some (.d (.tuple (ks.map co))), y, some (.d (.list ((speeds ks).map fr))), some (.d (.int (0 + (i : Nat))))]) (fun i => !decide ((((prs (speeds ks))[i]?.getD (0, 0)).2) < (((prs (speeds ks))[i]?.getD (0, 0)).1))) (fun i => .int (0 + (i : Nat))) (List.range (ks.length - 2)) (fun i m => by simp) (fun i m => by
      have hi := List.mem_range.mp m
      have hp : i < (prs (speeds ks)).length := by omega
      obtain ⟨g1, g2⟩ := prs_get2 (List.getElem?_eq_getElem hp)
      have mp : (prs (speeds ks))[i] ∈ prs (speeds ks) := List.getElem_mem hp
      rw [List.getElem?_eq_getElem hp]
      generalize (prs (speeds ks))[i] = p at g1 g2 mp
      obtain ⟨m1, m2⟩ := prs_mem mp
      have t1 : atI ((speeds ks).map fr) (i : Int) = some (fr p.1) := atI_nat (by rw [List.getElem?_map, g1]; rfl)
      have t2 : atI ((speeds ks).map fr) ((i : Int) + 1) = some (fr p.2) := atI_nat (j := i + 1) (by rw [List.getElem?_map, g2]; rfl)
      have u := un4 _ m2 _ m1
      simp [t1, t2, u]) (fun i m _ => by simp)
  have f4 := (filter_emp (fun i : Nat => decide ((((prs (speeds ks))[i]?.getD (0, 0)).2) < (((prs (speeds ks))[i]?.getD (0, 0)).1))) (List.range (ks.length - 2)))
  rw [← plen4, range_all (prs (speeds ks)) (0, 0) (fun p => decide (p.2 < p.1)), plen4] at f4
  obtain ⟨F4, hF4⟩ : ∃ F, F = ((List.range (ks.length - 2)).filter fun i => !decide ((((prs (speeds ks))[i]?.getD (0, 0)).2) < (((prs (speeds ks))[i]?.getD (0, 0)).1))).map fun i => PyData.int (0 + (i : Nat)) := ⟨_, rfl⟩
  have g4 : F4.isEmpty = (prs (speeds ks)).all fun p => decide (p.2 < p.1) := by rw [hF4, List.isEmpty_map]; exact f4
  rw [← hF4] at l4
  have lsp : lenP [.list ((speeds ks).map fr)] = some (.int ((ks.length - 1 : Nat) : Int)) := by simp [sl]
  obtain ⟨SP, hSP⟩ : ∃ SP, SP = (speeds ks).map fr := ⟨_, rfl⟩
  rw [← hSP] at pc lsp l4
  simp [a0, a1, rp, np, b0, b1, nz, cm, x_lc, wipeR, lm, l2, x_neLN, f2, rg, lr]
  rw [show rangeD 0 (ks.length - 1) = (List.range (ks.length - 1)).map fun i => PyData.int (0 + (i : Nat)) from rfl, l3]
  simp [x_neLN, x_eqLN, g3, lk1, pc, lsp, rg4, lr4, x_lc, wipeR]
  rw [show rangeD 0 (ks.length - 2) = (List.range (ks.length - 2)).map fun i => PyData.int (0 + (i : Nat)) from rfl, l4]
  simp [x_neLN, x_eqLN, g4, lk2]
  rw [← hP, kq, q0]
  simp [restQ, ← hmid, b2, b3, h0, hl0]
end Prog

/-! T5: things of anything, told by repr: their size (plain; over T3). -/
namespace Prog
open PySem PySem.Spec PyProof.Rows L2 PD
open PySem.PyData (strOk)
mutual
def muD (w : Nat) : PyData → Nat
  | .none => 4
  | .bool _ => 5
  | .int _ => w
  | .str _ => 20
  | .list xs => muL w xs + 3
  | .tuple xs => muL w xs + 3
  | .dict _ => 10
def muL (w : Nat) : List PyData → Nat
  | [] => 0
  | x :: xs => muD w x + 2 + muL w xs
end
def okStr (s : Str) : Bool := decide ((PyData.str s).shown.length ≤ 20) && (strOk (PyData.str s).shown && strOk s)
def okDct : List (PyData × PyData) → Bool
  | [] => true
  | [(.str s, .int 1)] => s == Str.ofString "x"
  | _ => false
mutual
def okB (n : Nat) : PyData → Bool
  | .none => true
  | .bool _ => true
  | .int i => decide (i.natAbs < 2 ^ n)
  | .str s => okStr s
  | .list xs => okL n xs
  | .tuple xs => okL n xs
  | .dict kvs => okDct kvs
def okL (n : Nat) : List PyData → Bool
  | [] => true
  | x :: xs => okB n x && okL n xs
end
theorem lt2_ok {n : Nat} {i : Int} (h : okB n (.int i) = true) : Lt2 n i := by
  unfold Lt2
  simpa [okB] using h
theorem okL_all {n : Nat} : ∀ {xs : List PyData}, okL n xs = true ↔ ∀ x ∈ xs, okB n x = true
  | [] => by simp [okL]
  | x :: xs => by
    rw [okL, Bool.and_eq_true, okL_all]
    simp
theorem muL_app {w : Nat} : ∀ (xs ys : List PyData), muL w (xs ++ ys) = muL w xs + muL w ys
  | [], ys => by simp [muL]
  | x :: xs, ys => by rw [List.cons_append, muL, muL, muL_app xs ys]; omega
theorem muL_mem {w : Nat} : ∀ {xs : List PyData} {x : PyData}, x ∈ xs → muD w x + 2 ≤ muL w xs
  | y :: xs, x, m => by
    rw [muL]
    rcases List.mem_cons.mp m with rfl | m
    · omega
    · have := muL_mem (w := w) m; omega
theorem muL_len {w : Nat} : ∀ (xs : List PyData), 2 * xs.length ≤ muL w xs
  | [] => by simp [muL]
  | x :: xs => by rw [muL, List.length_cons]; have := muL_len (w := w) xs; omega
def sumL (ts : List Str) : Nat := (ts.map fun t => t.length + 2).sum
theorem tx_textS : ∀ (ts : List Str) (k M : Nat) (acc : Str), (∀ t ∈ ts, strOk t = true) → Tx M acc → Tx (M + sumL ts) (textFrom k acc ts)
  | [], k, M, acc, _, h => by unfold textFrom; exact h.mono (by simp [sumL])
  | t :: ts, k, M, acc, ht, h => by
    unfold textFrom
    have h1 : Tx 2 (Str.ofString (if k > 0 then ", " else "" : String)) := by
      split
      · exact tx_str _ (by decide)
      · exact tx_str _ (by decide)
    refine (tx_textS ts (k + 1) (M + 2 + t.length) _ (fun u m => ht u (List.mem_cons_of_mem _ m)) ((h.app h1).app ⟨Nat.le_refl _, ht t List.mem_cons_self⟩)).mono ?_
    simp only [sumL, List.map_cons, List.sum_cons]
    omega
theorem tx_joinS {sep : Str} (hs : Tx 2 sep) : ∀ (ts : List Str), (∀ t ∈ ts, strOk t = true) → Tx (sumL ts) (sep.join ts)
  | [], _ => by unfold Str.join; exact ⟨by simp [Str.empty, Str.length], by decide +kernel⟩
  | [t], h => by unfold Str.join; exact ⟨by simp [sumL], h t List.mem_cons_self⟩
  | t :: u :: ts, h => by
    unfold Str.join
    refine ((Tx.app (L := t.length) ⟨Nat.le_refl _, h t List.mem_cons_self⟩ hs).app (tx_joinS hs (u :: ts) fun v m => h v (List.mem_cons_of_mem _ m))).mono ?_
    simp only [sumL, List.map_cons, List.sum_cons]; omega
theorem tx_tupleS (ts : List Str) (h : ∀ t ∈ ts, strOk t = true) : Tx (sumL ts + 3) (tupleText ts) := by
  unfold tupleText
  have h2 : Tx 2 (Str.ofString (if (ts.length == 1) = true then ",)" else ")")) := by
    split
    · exact tx_str _ (by decide)
    · exact tx_str _ (by decide)
  refine (((tx_str (L := 1) "(" (by decide)).app (tx_joinS (tx_str _ (by decide)) ts h)).app h2).mono (by omega)
theorem tx_listS (ts : List Str) (h : ∀ t ∈ ts, strOk t = true) : Tx (sumL ts + 3) (listText ts) := by
  unfold listText
  refine ((tx_textS ts 0 1 _ h (tx_str _ (by decide))).app (tx_str (L := 1) _ (by decide))).mono (by omega)
theorem dct_shown : ∀ {kvs : List (PyData × PyData)}, okDct kvs = true → Tx 10 (PyData.dict kvs).shown ∧ (PyData.dict kvs).showable = true ∧ (PyData.dict kvs).depth ≤ 1 := by
  intro kvs h
  unfold okDct at h
  split at h
  · exact ⟨⟨by decide +kernel, by decide +kernel⟩, by decide, by decide⟩
  · have := eq_of_beq h
    subst this
    exact ⟨⟨by decide +kernel, by decide +kernel⟩, by decide +kernel, by decide⟩
  · cases h
mutual
theorem shown_mu {n w : Nat} (hn : n < 1900) (hw : n + 2 ≤ w) : ∀ {x : PyData}, okB n x = true → Tx (muD w x) x.shown ∧ x.showable = true
  | .none, _ => ⟨by rw [muD]; exact tx_str _ (by decide), rfl⟩
  | .bool b, _ => ⟨by rw [muD]; cases b <;> exact tx_str _ (by decide), rfl⟩
  | .int i, h => by
    have l : Lt2 n i := lt2_ok h
    have := shw_int l (by omega)
    exact ⟨by rw [muD]; exact this.tx.mono (by omega), this.sh⟩
  | .str s, h => by
    have h : okStr s = true := by simpa [okB] using h
    unfold okStr at h
    simp only [Bool.and_eq_true, decide_eq_true_eq] at h
    exact ⟨by rw [muD]; exact ⟨h.1, h.2.1⟩, rfl⟩
  | .list xs, h => by
    obtain ⟨h1, h2, h3⟩ := shownL_mu hn hw (xs := xs) (by simpa [okB] using h)
    refine ⟨?_, by unfold PyData.showable; exact h3⟩
    unfold PyData.shown
    rw [muD]
    exact (tx_listS _ h1).mono (by omega)
  | .tuple xs, h => by
    obtain ⟨h1, h2, h3⟩ := shownL_mu hn hw (xs := xs) (by simpa [okB] using h)
    refine ⟨?_, by unfold PyData.showable; exact h3⟩
    unfold PyData.shown
    rw [muD]
    exact (tx_tupleS _ h1).mono (by omega)
  | .dict kvs, h => by
    obtain ⟨h1, h2, _⟩ := dct_shown (kvs := kvs) (by simpa [okB] using h)
    exact ⟨by rw [muD]; exact h1, h2⟩
theorem shownL_mu {n w : Nat} (hn : n < 1900) (hw : n + 2 ≤ w) : ∀ {xs : List PyData}, okL n xs = true → (∀ t ∈ PyData.shownAll xs, strOk t = true) ∧ sumL (PyData.shownAll xs) ≤ muL w xs ∧ PyData.showableAll xs = true
  | [], _ => ⟨by simp [PyData.shownAll], by simp [PyData.shownAll, sumL], rfl⟩
  | x :: xs, h => by
    rw [okL, Bool.and_eq_true] at h
    obtain ⟨a1, a2⟩ := shown_mu hn hw h.1
    obtain ⟨b1, b2, b3⟩ := shownL_mu hn hw h.2
    refine ⟨fun t m => ?_, ?_, ?_⟩
    · rw [PyData.shownAll] at m
      rcases List.mem_cons.mp m with rfl | m
      · exact a1.2
      · exact b1 t m
    · rw [PyData.shownAll, muL]
      have := a1.1
      simp only [sumL, List.map_cons, List.sum_cons] at b2 ⊢
      omega
    · rw [PyData.showableAll, a2, b3]; rfl
end
/-- a thing of no more than a size -/
structure Fi (n w D M : Nat) (x : PyData) : Prop where
  ok : okB n x = true
  dp : x.depth ≤ D
  mu : muD w x ≤ M
theorem Fi.shw {n w D M : Nat} {x : PyData} (h : Fi n w D M x) (hn : n < 1900) (hw : n + 2 ≤ w) : Shw D M x := ⟨(shown_mu hn hw h.ok).2, rfl, h.dp, (shown_mu hn hw h.ok).1.mono h.mu⟩
theorem okB_mono {n m : Nat} (l : n ≤ m) : ∀ {x : PyData}, okB n x = true → okB m x = true := by
  intro x
  refine @PyData.rec (fun x => okB n x = true → okB m x = true) (fun xs => okL n xs = true → okL m xs = true) (fun _ => True) (fun _ => True) ?_ ?_ ?_ ?_ ?_ ?_ ?_ ?_ ?_ ?_ ?_ ?_ x
  · intro h; exact h
  · intro b h; exact h
  · intro i h
    simp only [okB, decide_eq_true_eq] at h ⊢
    exact Nat.lt_of_lt_of_le h (Nat.pow_le_pow_right (by decide) l)
  · intro s h; simpa [okB] using h
  · intro xs ih h; simp only [okB] at h ⊢; exact ih h
  · intro xs ih h; simp only [okB] at h ⊢; exact ih h
  · intro kvs _ h; simpa [okB] using h
  · intro h; rfl
  · intro x xs ih1 ih2 h
    rw [okL, Bool.and_eq_true] at h ⊢
    exact ⟨ih1 h.1, ih2 h.2⟩
  · trivial
  · intros; trivial
  · intros; trivial
theorem Fi.mono {n m w D E M N : Nat} {x : PyData} (h : Fi n w D M x) (a : n ≤ m) (b : D ≤ E) (c : M ≤ N) : Fi m w E N x := ⟨okB_mono a h.ok, Nat.le_trans h.dp b, Nat.le_trans h.mu c⟩
theorem okB_fr {n : Nat} {q : Rat} (h : Sz n q) : okB n (fr q) = true := by
  show (decide (q.num.natAbs < 2 ^ n) && (decide ((q.den : Int).natAbs < 2 ^ n) && true)) = true
  rw [decide_eq_true (show q.num.natAbs < 2 ^ n from h.1), decide_eq_true (show (q.den : Int).natAbs < 2 ^ n from h.2)]; rfl
theorem fi_fr {n w : Nat} {q : Rat} (h : Sz n q) : Fi n w 1 (2 * w + 7) (fr q) := ⟨okB_fr h, by simp [fr, PyData.depth, PyData.depthAll], by simp [fr, muD, muL]; omega⟩
theorem fi_tup {n w D : Nat} {xs : List PyData} (h : ∀ x ∈ xs, okB n x = true ∧ x.depth ≤ D) : Fi n w (D + 1) (muL w xs + 3) (.tuple xs) := ⟨by simp only [okB]; exact okL_all.mpr fun x m => (h x m).1, by
  have := depthAll_of fun x m => (h x m).2
  simp only [PyData.depth]; omega, by rw [muD]; exact Nat.le_refl _⟩
theorem fi_co {n w : Nat} {c : Cr} (h : CSz n c) : Fi n w 2 (4 * w + 21) (co c) := by
  have a := fi_fr (w := w) h.1
  have b := fi_fr (w := w) h.2
  refine (fi_tup (w := w) (D := 1) (xs := [fr c.1, fr c.2]) fun x m => ?_).mono (Nat.le_refl _) (Nat.le_refl _) ?_
  · simp at m
    rcases m with rfl | rfl
    · exact ⟨a.ok, a.dp⟩
    · exact ⟨b.ok, b.dp⟩
  · have := a.mu
    have := b.mu
    simp only [muL]; omega
theorem fi_kd {n w : Nat} {ks : List Cr} (h : ∀ c ∈ ks, CSz n c) : Fi n w 3 (ks.length * (4 * w + 23) + 3) (kd ks) := by
  refine (fi_tup (w := w) (D := 2) (xs := ks.map co) fun x m => ?_).mono (Nat.le_refl _) (Nat.le_refl _) ?_
  · obtain ⟨c, mc, rfl⟩ := List.mem_map.mp m
    exact ⟨(fi_co (w := w) (h c mc)).ok, (fi_co (w := w) (h c mc)).dp⟩
  · have key : ∀ l : List Cr, (∀ c ∈ l, CSz n c) → muL w (l.map co) ≤ l.length * (4 * w + 23) := by
      intro l
      induction l with
      | nil => intro _; simp [muL]
      | cons c l ih =>
        intro hc
        have a := (fi_co (w := w) (hc c List.mem_cons_self)).mu
        have b := ih fun d m => hc d (List.mem_cons_of_mem _ m)
        rw [List.map_cons, muL, List.length_cons, Nat.add_mul]
        omega
    have := key ks h
    omega
/-- what the law and the program ask of a thing -/
theorem Fi.lens {n w D M : Nat} {x : PyData} (h : Fi n w D M x) (hM : M ≤ 100000) : Lens x := by
  have key : ∀ xs : List PyData, ∀ N, muD w (.tuple xs) ≤ N → N ≤ 100000 → xs.length ≤ 100000 ∧ ∀ y ∈ xs, muD w y ≤ N := fun xs N h1 h2 => by
    rw [muD] at h1
    refine ⟨by have := muL_len (w := w) xs; omega, fun y m => by have := muL_mem (w := w) m; omega⟩
  rintro xs rfl
  obtain ⟨a1, a2⟩ := key xs M h.mu hM
  refine ⟨a1, ?_⟩
  rintro y my ys rfl
  obtain ⟨b1, b2⟩ := key ys M (a2 _ my) hM
  refine ⟨b1, ?_⟩
  rintro z mz zs rfl
  exact (key zs M (b2 _ mz) hM).1
theorem Fi.fracs {n w D M : Nat} {x : PyData} (h : Fi n w D M x) : fracsIn n x := by
  rintro xs rfl y my ys rfl z mz a b rfl
  have h1 : okL n xs = true := by simpa [okB] using h.ok
  have h2 : okL n ys = true := by simpa [okB] using okL_all.mp h1 _ my
  have h3 : okL n [.int a, .int b] = true := by simpa [okB] using okL_all.mp h2 _ mz
  have h4 := okL_all.mp h3 (.int b) (by simp)
  exact lt2_ok h4
theorem Fi.kdsz {n w D M : Nat} {ks : List Cr} (h : Fi n w D M (kd ks)) : ∀ c ∈ ks, CSz n c := by
  intro c mc
  have h1 : okL n (ks.map co) = true := by simpa [okB, kd] using h.ok
  have h2 : okL n [fr c.1, fr c.2] = true := by simpa [okB, co] using okL_all.mp h1 _ (List.mem_map.mpr ⟨c, mc, rfl⟩)
  have key : ∀ q : Rat, okB n (fr q) = true → Sz n q := fun q hq => by
    have h3 : okL n [.int q.num, .int q.den] = true := by simpa [okB, fr] using hq
    have a := okL_all.mp h3 (.int q.num) (by simp)
    have b := okL_all.mp h3 (.int q.den) (by simp)
    exact ⟨lt2_ok a, lt2_ok b⟩
  exact ⟨key _ (okL_all.mp h2 _ (by simp)), key _ (okL_all.mp h2 _ (by simp))⟩
end Prog

/-! T6: the law's things: odd ones, near ones, changed ones (over T5). -/
namespace Prog
open PySem PySem.Spec PyProof.Rows L2 PD
def oddA : List PyData := [.none, .bool true, .bool false, .int 0, .int 1, .int (-1), .int 7, .int 1000000000000000000000000000000, .str "", .str "x", .str "1/2", .dict [], .dict [(.str "x", .int 1)], .list [.int 0, .int 1], .list [.int 1, .int 1], .list [.tuple [.int 0, .int 1], .tuple [.int 1, .int 1]]]
def oddP : List PyData := [.tuple [.int 0, .int 1], .tuple [.int 1, .int 1], .tuple [.int (-1), .int 1], .tuple [.int 2, .int 4], .tuple [.int 1, .int 0], .tuple [.int 1, .int (-1)], .tuple [.int 0, .int 2], .tuple [.bool true, .int 1], .tuple [.int 1, .bool true], .tuple [.int 1, .int 2, .int 3], .tuple [], .tuple [.int 1], .tuple [.none, .none]]
def oddD : List PyData := [.tuple [.tuple [.int 0, .int 1], .tuple [.int 1, .int 1]], .tuple [.tuple [.tuple [.int 0, .int 1], .tuple [.int 0, .int 1]]], .tuple [.tuple [.str "a", .int 1], .int 2], .tuple [.str "start", .tuple [.int 0, .int 1], .tuple [.int 0, .int 1]], .tuple [.tuple [.tuple [.tuple [.int 0, .int 1]]]]]
theorem odd_ok {w : Nat} (hw : 20 ≤ w) : ∀ x ∈ oddA ++ oddP ++ oddD, Fi 101 w 4 (4 * w + 60) x := by
  have a : ∀ x ∈ oddA ++ oddP ++ oddD, okB 101 x = true ∧ x.depth ≤ 4 := by
    have : ((oddA ++ oddP ++ oddD).all fun x => okB 101 x && decide (x.depth ≤ 4)) = true := by decide +kernel
    intro x m
    have := List.all_eq_true.mp this x m
    simpa using this
  intro x m
  refine ⟨(a x m).1, (a x m).2, ?_⟩
  have key : ∀ y ∈ oddA ++ oddP ++ oddD, muD w y ≤ 4 * w + 60 := by
    unfold oddA oddP oddD
    intro y my
    simp only [List.cons_append, List.nil_append, List.mem_cons, List.not_mem_nil, or_false] at my
    rcases my with rfl | rfl | rfl | rfl | rfl | rfl | rfl | rfl | rfl | rfl | rfl | rfl | rfl | rfl | rfl | rfl | rfl | rfl | rfl | rfl | rfl | rfl | rfl | rfl | rfl | rfl | rfl | rfl | rfl | rfl | rfl | rfl | rfl | rfl <;> simp only [muD, muL] <;> omega
  exact key x m
theorem r_odd {m w : Nat} (hw : 20 ≤ w) (k : Nat) {t : Dice} (h : Dok m t) (hm : m < 1000000) (S0 : Sto) : ∃ x t', Fi 101 w 4 (4 * w + 60) x ∧ Dok (m + 1) t' ∧ run T (k + 3) "_law_odd" [.m S0.length] (S0 ++ [cellD t]) = some (.d x, S0 ++ [cellD t']) := by
  obtain ⟨x, hx, t', ht, e⟩ := r_pick k h hm (oddA ++ oddP ++ oddD) (by decide) (by decide) S0 []
  refine ⟨x, t', odd_ok hw x hx, ht, ?_⟩
  rw [u_L_odd, x_run]
  have p30 : powP (.int 10) (.int 30) = some (.int 1000000000000000000000000000000) := by
    show (if (0 : Int) ≤ 30 ∧ (30 : Int) ≤ 1000000 ∧ (10 : Int).natAbs < 2 ^ 64 then some (PyData.int ((10 : Int) ^ (30 : Int).toNat)) else none) = _
    rw [if_pos (by decide)]; rfl
  have e' : run T (k + 2) "_law_pick" [.m S0.length, .d (.list (oddA ++ oddP ++ oddD))] (S0 ++ [cellD t]) = some (.d x, S0 ++ [cellD t']) := e
  unfold oddA oddP oddD at e'
  simp only [List.cons_append, List.nil_append] at e'
  simp [b_L_odd, startR, p30, e', frzE, thaw]
theorem r_fraction {m : Nat} (k : Nat) {t : Dice} (h : Dok m t) (hm : m < 900000) (S0 : Sto) : ∃ q t', Sz 5 q ∧ Dok (m + 3) t' ∧ run T (k + 3) "_law_fraction" [.m S0.length] (S0 ++ [cellD t]) = some (.d (fr q), S0 ++ [cellD t']) := by
  obtain ⟨d1, t1, d10, d11, h1, e1⟩ := r_draw (k + 1) h (by omega) 25 (by omega) (by omega) S0 []
  obtain ⟨y, my, t2, h2, e2⟩ := r_pick k h1 (by omega) [.int 1, .int 2, .int 5] (by simp) (by simp) S0 []
  obtain ⟨n, rfl, n1, n5⟩ : ∃ n : Int, y = .int n ∧ 1 ≤ n ∧ n ≤ 5 := by
    simp at my
    rcases my with rfl | rfl | rfl
    · exact ⟨1, rfl, by omega, by omega⟩
    · exact ⟨2, rfl, by omega, by omega⟩
    · exact ⟨5, rfl, by omega, by omega⟩
  obtain ⟨d3, t3, d30, d31, h3, e3⟩ := r_draw (k + 1) h2 (by omega) n (by omega) (by omega) S0 []
  have z := r_frac (n := 5) k (a := d1 - 12) (b := 1 + d3) (by omega) (by unfold Lt2; omega) (by unfold Lt2; omega) (by omega) (S0 ++ [cellD t3])
  refine ⟨_, t3, sz_lt (n := 5) (a := d1 - 12) (b := 1 + d3) (by omega) (by omega) (by omega), h3, ?_⟩
  obtain ⟨R, hR⟩ : ∃ R, R = run T (k + 2) := ⟨_, rfl⟩
  simp only [Nat.add_assoc, Nat.reduceAdd, ← hR] at e1 e2 e3 z
  rw [u_L_fraction, x_run]
  simp only [← hR]
  simp [b_L_fraction, startR, e1, e2, e3, z]
/-! near a fraction -/
theorem fi_ints {n w : Nat} {xs : List Int} (h : ∀ i ∈ xs, Lt2 n i) : Fi n w 1 (xs.length * (w + 2) + 3) (.tuple (xs.map PyData.int)) := by
  refine (fi_tup (w := w) (D := 0) (xs := xs.map PyData.int) fun x m => ?_).mono (Nat.le_refl _) (Nat.le_refl _) ?_
  · obtain ⟨i, mi, rfl⟩ := List.mem_map.mp m
    exact ⟨by show decide _ = true; exact decide_eq_true (h i mi), by simp [PyData.depth]⟩
  · have key : ∀ l : List Int, muL w (l.map PyData.int) = l.length * (w + 2) := by
      intro l
      induction l with
      | nil => simp [muL]
      | cons c l ih => rw [List.map_cons, muL, ih, List.length_cons, Nat.add_mul]; simp only [muD]; omega
    rw [key]; exact Nat.le_refl _
theorem r_near {m n w : Nat} (hw : 20 ≤ w) (k : Nat) {t : Dice} {q : Rat} (h : Dok m t) (hm : m < 900000) (zq : Sz n q) (hn : n < 1000) (S0 : Sto) : ∃ x t', Fi (n + 5) w 2 (4 * w + 60) x ∧ Dok (m + 2) t' ∧ run T (k + 4) "_law_near" [.m S0.length, .d (fr q)] (S0 ++ [cellD t]) = some (.d x, S0 ++ [cellD t']) := by
  obtain ⟨d1, t1, d10, d11, h1, e1⟩ := r_draw (k + 2) h (by omega) 8 (by omega) (by omega) S0 []
  obtain ⟨R, hR⟩ : ∃ R, R = run T (k + 3) := ⟨_, rfl⟩
  simp only [Nat.add_assoc, Nat.reduceAdd, ← hR] at e1
  have x0 : ixP (fr q) (.int 0) = some (.int q.num) := by simp
  have x1 : ixP (fr q) (.int 1) = some (.int q.den) := by simp
  have one5 : Lt2 (n + 5) (1 : Int) := by unfold Lt2; have : 2 ^ 1 ≤ 2 ^ (n + 5) := Nat.pow_le_pow_right (by decide) (by omega); omega
  have zn := zq.1.mono (show n ≤ n + 5 by omega)
  have zd := zq.2.mono (show n ≤ n + 5 by omega)
  rw [u_L_near, x_run]
  simp only [← hR]
  by_cases c5 : d1 < 5
  · obtain ⟨j, rfl⟩ := Int.eq_ofNat_of_zero_le d10
    obtain ⟨p, op, hp⟩ : ∃ p : P2, Ok 3 p ∧ atI [pr (1, 1), pr (-1, 1), pr (1, 7), pr (-1, 7), pr (0, 1)] (j : Int) = some (pr p) := by
      have : j < 5 := by omega
      match j, this with
      | 0, _ => exact ⟨(1, 1), ⟨by decide, by unfold Lt2; decide, by unfold Lt2; decide⟩, rfl⟩
      | 1, _ => exact ⟨(-1, 1), ⟨by decide, by unfold Lt2; decide, by unfold Lt2; decide⟩, rfl⟩
      | 2, _ => exact ⟨(1, 7), ⟨by decide, by unfold Lt2; decide, by unfold Lt2; decide⟩, rfl⟩
      | 3, _ => exact ⟨(-1, 7), ⟨by decide, by unfold Lt2; decide, by unfold Lt2; decide⟩, rfl⟩
      | 4, _ => exact ⟨(0, 1), ⟨by decide, by unfold Lt2; decide, by unfold Lt2; decide⟩, rfl⟩
    have ad := r_addP k (ok_nd zq) op (by omega) (S0 ++ [cellD t1])
    rw [val_nd] at ad
    rw [← fr_nd, ← hR] at ad
    refine ⟨fr (q + val p), t1, (fi_fr (w := w) (sz_add zq (sz_val op))).mono (by omega) (by omega) (by omega), h1.mono (by omega), ?_⟩
    simp only [pr] at hp
    have hp' : atI [PyData.tuple [.int 1, .int 1], .tuple [.int (-1), .int 1], .tuple [.int 1, .int 7], .tuple [.int (-1), .int 7], .tuple [.int 0, .int 1]] (j : Int) = some (pr p) := hp
    simp [b_L_near, startR, e1, c5, hp', ad, frzE, thaw]
  · by_cases c6 : d1 = 5
    · have k1 : mulOk 2 q.num = true := mulOk_of (n := 2) (m := n) (by unfold Lt2; decide) zq.1
      have k2 : mulOk 2 (q.den : Int) = true := mulOk_of (n := 2) (m := n) (by unfold Lt2; decide) zq.2
      have l2 : Lt2 2 (2 : Int) := by unfold Lt2; decide
      refine ⟨.tuple ([2 * q.num, 2 * (q.den : Int)].map PyData.int), t1, (fi_ints (n := n + 5) (w := w) fun i mi => ?_).mono (Nat.le_refl _) (by omega) (by simp; omega), h1.mono (by omega), ?_⟩
      · simp at mi
        rcases mi with rfl | rfl
        · exact (l2.mul zq.1).mono (by omega)
        · exact (l2.mul zq.2).mono (by omega)
      · simp [b_L_near, startR, e1, c5, c6, x0, x1, k1, k2]
    · by_cases c7 : d1 = 6
      · refine ⟨.tuple ([-q.num, -(q.den : Int)].map PyData.int), t1, (fi_ints (n := n + 5) (w := w) fun i mi => ?_).mono (Nat.le_refl _) (by omega) (by simp; omega), h1.mono (by omega), ?_⟩
        · simp at mi
          rcases mi with rfl | rfl
          · exact zn.neg
          · exact zd.neg
        · simp [b_L_near, startR, e1, c5, c6, c7, x0, x1]
      · obtain ⟨y, my, t2, h2, e2⟩ := r_pick (k + 1) h1 (by omega) [.list [.int q.num, .int q.den], .tuple [.int q.num, .int q.den, .int 1], .tuple [.int q.num], .tuple [.int q.num, .bool true], .tuple [.int q.num, .int 0], .tuple [.str "1", .int q.den]] (by simp) (by simp) S0 []
        have dn : okB (n + 5) (.int q.num) = true := by show decide _ = true; exact decide_eq_true zn
        have dd : okB (n + 5) (.int q.den) = true := by show decide _ = true; exact decide_eq_true zd
        have d1' : okB (n + 5) (.int 1) = true := by show decide _ = true; exact decide_eq_true one5
        have d0' : okB (n + 5) (.int 0) = true := by show decide _ = true; exact decide_eq_true (Nat.pos_of_ne_zero (by simp))
        have ds : okB (n + 5) (.str "1") = true := by show okStr _ = true; decide +kernel
        refine ⟨y, t2, ?_, h2.mono (by omega), ?_⟩
        · simp at my
          rcases my with rfl | rfl | rfl | rfl | rfl | rfl <;> refine ⟨?_, ?_, ?_⟩
          all_goals first
            | (simp only [okB, okL, Bool.and_true, Bool.and_eq_true]
               first
                 | exact ⟨dn, dd⟩
                 | exact ⟨dn, dd, d1'⟩
                 | exact dn
                 | exact ⟨dn, d0'⟩
                 | exact ⟨ds, dd⟩)
            | (simp [PyData.depth, PyData.depthAll]; done)
            | (simp only [muD, muL]; omega)
        · simp only [Nat.add_assoc, Nat.reduceAdd, ← hR] at e2
          have c0 : cutP [PyData.int q.num, .int q.den] none (some 1) = [.int q.num] := cut_to [PyData.int q.num, .int q.den] 1
          have frq : fr q = .tuple [.int q.num, .int q.den] := rfl
          have lp : listP [PyData.tuple [.int q.num, .int q.den]] = some (.list [.int q.num, .int q.den]) := rfl
          simp [b_L_near, startR, e1, c5, c6, c7, frq, c0, lp, e2]
end Prog

/-! T7: the law's things, changed and bent (over T6). -/
namespace Prog
open PySem PySem.Spec PyProof.Rows L2 PD
theorem addT {a b : List PyData} (h : a.length + b.length ≤ 100000) : addP (.tuple a) (.tuple b) = some (.tuple (a ++ b)) := by
  show (if a.length + b.length ≤ lim then some (PyData.tuple (a ++ b)) else none) = _
  rw [if_pos h]
theorem muL_split {w : Nat} (xs : List PyData) (a : Nat) : muL w xs = muL w (xs.take a) + muL w (xs.drop a) := by
  rw [← muL_app, List.take_append_drop]
theorem muL_at {w : Nat} {xs : List PyData} {a : Nat} {x : PyData} (h : xs[a]? = some x) : muL w (xs.drop a) = muD w x + 2 + muL w (xs.drop (a + 1)) := by
  obtain ⟨l, e⟩ := List.getElem?_eq_some_iff.mp h
  rw [List.drop_eq_getElem_cons l, muL, e]
theorem len_take_drop (xs : List PyData) (a : Nat) : ((xs.take a).length ≤ xs.length ∧ (xs.take a).length ≤ a) ∧ (xs.drop a).length = xs.length - a := by
  rw [List.length_take, List.length_drop]; omega
theorem r_changed {m w B : Nat} (k : Nat) {t : Dice} {xs : List PyData} {x : PyData} (h : Dok m t) (hm : m < 900000) (hl : xs.length ≤ 60000) (hx : muD w x ≤ B) (hB : ∀ y ∈ xs, muD w y ≤ B) (S0 : Sto) :
    ∃ ys t', (∀ y ∈ ys, y = x ∨ y ∈ xs) ∧ muL w ys ≤ muL w xs + B + 2 ∧ Dok (m + 2) t' ∧ run T (k + 2) "_law_changed" [.m S0.length, .d (.tuple xs), .d x] (S0 ++ [cellD t]) = some (.d (.tuple ys), S0 ++ [cellD t']) := by
  obtain ⟨c, t1, c0, c1, h1, e1⟩ := r_draw k h (by omega) 6 (by omega) (by omega) S0 []
  obtain ⟨d, t2, d0, d1, h2, e2⟩ := r_draw k h1 (by omega) (xs.length + 1) (by omega) (by omega) S0 []
  obtain ⟨a, rfl⟩ := Int.eq_ofNat_of_zero_le d0
  obtain ⟨R, hR⟩ : ∃ R, R = run T (k + 1) := ⟨_, rfl⟩
  simp only [Nat.add_assoc, Nat.reduceAdd, ← hR] at e1 e2
  obtain ⟨la, lb⟩ := len_take_drop xs a
  obtain ⟨_, lb1⟩ := len_take_drop xs (a + 1)
  obtain ⟨_, lb2⟩ := len_take_drop xs (a + 2)
  have ct := cut_to xs a
  have cd := cut_of xs a
  have cd1 : cutP xs (some ((a : Int) + 1)) none = xs.drop (a + 1) := cut_of xs (a + 1)
  have cd2 : cutP xs (some ((a : Int) + 2)) none = xs.drop (a + 2) := cut_of xs (a + 2)
  have sp := muL_split (w := w) xs a
  have mt : ∀ y ∈ xs.take a, y ∈ xs := fun y m => List.mem_of_mem_take m
  have md : ∀ j, ∀ y ∈ xs.drop j, y ∈ xs := fun j y m => List.mem_of_mem_drop m
  generalize hT : xs.take a = A at ct la sp mt
  have lA : ∀ ys : List PyData, ys.length ≤ 2 → (A.length + ys.length ≤ 100000) := fun ys hy => by omega
  rw [u_L_changed, x_run]
  simp only [← hR]
  by_cases ha : a < xs.length
  · have hat : xs[a]? = some xs[a] := List.getElem?_eq_getElem ha
    have mx : xs[a] ∈ xs := List.getElem_mem ha
    have ma := muL_at (w := w) hat
    have bx := hB _ mx
    have ha' : (a : Int) < (xs.length : Int) := by omega
    have hix : atI xs (a : Int) = some xs[a] := atI_nat hat
    generalize xs[a] = u at hat mx ma bx hix
    by_cases k0 : c < 2
    · refine ⟨A ++ [x] ++ xs.drop (a + 1), t2, ?_, ?_, h2.mono (by omega), ?_⟩
      · intro y my
        simp only [List.mem_append, List.mem_singleton] at my
        rcases my with (my | my) | my
        · exact .inr (mt y my)
        · exact .inl my
        · exact .inr (md _ y my)
      · rw [muL_app, muL_app]; simp only [muL]; omega
      · have q1 := addT (a := A) (b := [x]) (lA _ (by simp))
        have q2 := addT (a := A ++ [x]) (b := xs.drop (a + 1)) (by simp only [List.length_append, List.length_singleton]; omega)
        simp [b_L_changed, startR, e1, e2, k0, ha', ct, cd1, q1, q2, frzE, thaw]
    by_cases k2 : c = 2
    · refine ⟨A ++ xs.drop (a + 1), t2, ?_, ?_, h2.mono (by omega), ?_⟩
      · intro y my
        simp only [List.mem_append] at my
        rcases my with my | my
        · exact .inr (mt y my)
        · exact .inr (md _ y my)
      · rw [muL_app]; omega
      · have q2 := addT (a := A) (b := xs.drop (a + 1)) (by omega)
        simp [b_L_changed, startR, e1, e2, k0, k2, ha', ct, cd1, q2, frzE, thaw]
    by_cases k3 : c = 3 ∧ a + 1 < xs.length
    · have hat1 : xs[a + 1]? = some xs[a + 1] := List.getElem?_eq_getElem k3.2
      have mx1 : xs[a + 1] ∈ xs := List.getElem_mem k3.2
      have ma1 := muL_at (w := w) hat1
      have ha1 : (a : Int) + 1 < (xs.length : Int) := by omega
      have hix1 : atI xs ((a : Int) + 1) = some xs[a + 1] := atI_nat (j := a + 1) hat1
      generalize xs[a + 1] = v at hat1 mx1 ma1 hix1
      refine ⟨A ++ [v, u] ++ xs.drop (a + 2), t2, ?_, ?_, h2.mono (by omega), ?_⟩
      · intro y my
        simp only [List.mem_append, List.mem_cons, List.not_mem_nil, or_false] at my
        rcases my with (my | rfl | rfl) | my
        · exact .inr (mt y my)
        · exact .inr mx1
        · exact .inr mx
        · exact .inr (md _ y my)
      · rw [muL_app, muL_app]; simp only [muL]
        rw [show a + 1 + 1 = a + 2 from rfl] at ma1
        omega
      · have q1 := addT (a := A) (b := [v, u]) (lA _ (by simp))
        have q2 := addT (a := A ++ [v, u]) (b := xs.drop (a + 2)) (by simp only [List.length_append, List.length_cons, List.length_nil]; omega)
        simp [b_L_changed, startR, e1, e2, k0, k2, k3.1, ha', ha1, hix, hix1, ct, cd2, q1, q2, frzE, thaw]
    have k3' : (c == 3) = false ∨ ¬ ((a : Int) + 1 < (xs.length : Int)) := by
      by_cases c3 : c = 3
      · exact .inr fun z => k3 ⟨c3, by omega⟩
      · exact .inl (by simpa using c3)
    have k2' : (c == 2) = false := by simpa using k2
    by_cases k4 : c = 4
    · have k3'' : (c == 3) = false := by rw [k4]; rfl
      refine ⟨A ++ [u, u] ++ xs.drop (a + 1), t2, ?_, ?_, h2.mono (by omega), ?_⟩
      · intro y my
        simp only [List.mem_append, List.mem_cons, List.not_mem_nil, or_false] at my
        rcases my with (my | rfl | rfl) | my
        · exact .inr (mt y my)
        · exact .inr mx
        · exact .inr mx
        · exact .inr (md _ y my)
      · rw [muL_app, muL_app]; simp only [muL]; omega
      · have q1 := addT (a := A) (b := [u, u]) (lA _ (by simp))
        have q2 := addT (a := A ++ [u, u]) (b := xs.drop (a + 1)) (by simp only [List.length_append, List.length_cons, List.length_nil]; omega)
        subst k4
        simp [b_L_changed, startR, e1, e2, ha', hix, ct, cd1, q1, q2, frzE, thaw]
    have k4' : (c == 4) = false := by simpa using k4
    refine ⟨A ++ [x] ++ xs.drop a, t2, ?_, ?_, h2.mono (by omega), ?_⟩
    · intro y my
      simp only [List.mem_append, List.mem_singleton] at my
      rcases my with (my | my) | my
      · exact .inr (mt y my)
      · exact .inl my
      · exact .inr (md _ y my)
    · rw [muL_app, muL_app]; simp only [muL]; omega
    · have q1 := addT (a := A) (b := [x]) (lA _ (by simp))
      have q2 := addT (a := A ++ [x]) (b := xs.drop a) (by simp only [List.length_append, List.length_singleton]; omega)
      rcases k3' with k3' | k3'
      · simp [b_L_changed, startR, e1, e2, k0, k2', k3', k4', ha', ct, cd, q1, q2, frzE, thaw]
      · cases c3 : c == 3 <;> simp [b_L_changed, startR, e1, e2, k0, k2', c3, k3', k4', ha', ct, cd, q1, q2, frzE, thaw]
  · have ha' : ¬ (a : Int) < (xs.length : Int) := by omega
    have ha1 : ¬ (a : Int) + 1 < (xs.length : Int) := by omega
    refine ⟨A ++ [x] ++ xs.drop a, t2, ?_, ?_, h2.mono (by omega), ?_⟩
    · intro y my
      simp only [List.mem_append, List.mem_singleton] at my
      rcases my with (my | my) | my
      · exact .inr (mt y my)
      · exact .inl my
      · exact .inr (md _ y my)
    · rw [muL_app, muL_app]; simp only [muL]; omega
    · have q1 := addT (a := A) (b := [x]) (lA _ (by simp))
      have q2 := addT (a := A ++ [x]) (b := xs.drop a) (by simp only [List.length_append, List.length_singleton]; omega)
      by_cases k0 : c < 2 <;> cases c2 : c == 2 <;> cases c3 : c == 3 <;> cases c4 : c == 4 <;> simp [b_L_changed, startR, e1, e2, k0, c2, c3, c4, ha', ha1, ct, cd, q1, q2, frzE, thaw]
theorem dep_mem {xs : List PyData} {y : PyData} (m : y ∈ xs) : y.depth + 1 ≤ (PyData.tuple xs).depth := by
  simp only [PyData.depth]
  have : ∀ l : List PyData, y ∈ l → y.depth ≤ PyData.depthAll l := by
    intro l
    induction l with
    | nil => intro h; cases h
    | cons z l ih =>
      intro h
      simp only [PyData.depthAll]
      rcases List.mem_cons.mp h with rfl | h
      · omega
      · have := ih h; omega
  have := this xs m
  omega
theorem r_bent {w : Nat} (hw : 20 ≤ w) (hw2 : w ≤ 1000) : ∀ (deep k : Nat) {m n : Nat} {t : Dice} {x : PyData}, deep ≤ 10 → Dok m t → m + 20 * deep < 800000 → okB n x = true → 101 ≤ n → n < 900 → muD w x ≤ 100000 → ∀ S0 : Sto,
    ∃ x' t', okB (n + 5) x' = true ∧ x'.depth ≤ max x.depth (deep + 5) ∧ muD w x' ≤ 2 * muD w x + 4 * w + 70 ∧ Dok (m + 20 * (deep + 1)) t' ∧ run T (k + 6 + deep) "_law_bent" [.m S0.length, .d x, .d (.int (deep : Int))] (S0 ++ [cellD t]) = some (.d x', S0 ++ [cellD t'])
  | 0, k, m, n, t, x, hd, h, hm, hx, hn, hn2, hM, S0 => by
    obtain ⟨y, t', fy, h', e⟩ := r_odd hw (k + 2) h (by omega) S0
    refine ⟨y, t', (fy.mono (show 101 ≤ n + 5 by omega) (Nat.le_refl _) (Nat.le_refl _)).ok, by have := fy.dp; omega, by have := fy.mu; omega, h'.mono (by omega), ?_⟩
    rw [show k + 6 + 0 = (k + 5) + 1 from rfl, u_L_bent, x_run]
    cases hx : isTupD x with
    | false => cases x <;> first | (cases hx; done) | simp [b_L_bent, startR, e]
    | true =>
      obtain ⟨xs, rfl⟩ := tup_of hx
      simp [b_L_bent, startR, e]
  | deep + 1, k, m, n, t, x, hd, h, hm, hx, hn, hn2, hM, S0 => by
    have odd : ∃ x' t', okB (n + 5) x' = true ∧ x'.depth ≤ max x.depth (deep + 1 + 5) ∧ muD w x' ≤ 2 * muD w x + 4 * w + 70 ∧ Dok (m + 20 * (deep + 1 + 1)) t' ∧ run T (k + 6 + deep) "_law_odd" [.m S0.length] (S0 ++ [cellD t]) = some (.d x', S0 ++ [cellD t']) := by
      obtain ⟨y, t', fy, h', e⟩ := r_odd hw (k + 3 + deep) h (by omega) S0
      exact ⟨y, t', (fy.mono (show 101 ≤ n + 5 by omega) (Nat.le_refl _) (Nat.le_refl _)).ok, by have := fy.dp; omega, by have := fy.mu; omega, h'.mono (by omega), by rw [show k + 6 + deep = k + 3 + deep + 3 by omega]; exact e⟩
    rw [show k + 6 + (deep + 1) = (k + 6 + deep) + 1 from rfl, u_L_bent]
    simp only [x_run]
    obtain ⟨DE, hDE⟩ : ∃ DE : Int, DE = ((deep + 1 : Nat) : Int) := ⟨_, rfl⟩
    have d0 : (DE == 0) = false := by simp; omega
    have d1 : DE - 1 = (deep : Int) := by omega
    rw [← hDE]
    cases ht : isTupD x with
    | false =>
      obtain ⟨y, t', a1, a2, a3, a4, e⟩ := odd
      refine ⟨y, t', a1, a2, a3, a4, ?_⟩
      cases x <;> first | (cases ht; done) | simp [b_L_bent, startR, e]
    | true =>
    obtain ⟨xs, rfl⟩ := tup_of ht
    have hxs : okL n xs = true := by simpa [okB] using hx
    have hL := muL_len (w := w) xs
    have hmu : muD w (.tuple xs) = muL w xs + 3 := by rw [muD]
    have lx : xs.length ≤ 50000 := by omega
    by_cases hz : xs = []
    · subst hz
      obtain ⟨y, t', a1, a2, a3, a4, e⟩ := odd
      exact ⟨y, t', a1, a2, a3, a4, by simp [b_L_bent, startR, e, d0]⟩
    have l0 : ((xs.length : Int) == 0) = false := by
      cases xs with
      | nil => exact absurd rfl hz
      | cons a b => simp; omega
    have isf := r_law_is_fracA (n := n) (k + 4 + deep) (.tuple xs) (fun a b e => by
      cases e
      exact lt2_ok (okL_all.mp hxs (.int b) (by simp))) (by omega) (S0 ++ [cellD t])
    rw [show k + 4 + deep + 2 = k + 6 + deep by omega] at isf
    cases hf : fracB (.tuple xs) with
    | true =>
      obtain ⟨q, hq⟩ := fracB_fr hf
      have zq : Sz n q := by
        rw [hq] at hx
        have h3 : okL n [.int q.num, .int q.den] = true := by simpa [okB, fr] using hx
        exact ⟨lt2_ok (okL_all.mp h3 (.int q.num) (by simp)), lt2_ok (okL_all.mp h3 (.int q.den) (by simp))⟩
      obtain ⟨y, t', fy, h', e⟩ := r_near hw (k + 2 + deep) h (by omega) zq (by omega) S0
      rw [show k + 2 + deep + 4 = k + 6 + deep by omega] at e
      rw [← hq] at e
      rw [hf] at isf
      refine ⟨y, t', fy.ok, by have := fy.dp; omega, by have := fy.mu; omega, h'.mono (by omega), ?_⟩
      simp [b_L_bent, startR, d0, l0, isf, e]
    | false =>
    rw [hf] at isf
    obtain ⟨dr, t1, dr0, dr1, h1, e1⟩ := r_draw (k + 5 + deep) h (by omega) 4 (by omega) (by omega) S0 []
    rw [show k + 5 + deep + 1 = k + 6 + deep by omega] at e1
    by_cases hdr : dr = 0
    · subst hdr
      obtain ⟨p1, t2, p10, zp1, h2, e2⟩ := r_small (k + 3 + deep) h1 (by omega) S0 []
      obtain ⟨p2, t3, p20, zp2, h3, e3⟩ := r_small (k + 3 + deep) h2 (by omega) S0 []
      obtain ⟨od, t4, fo, h4, e4⟩ := r_odd hw (k + 3 + deep) h3 (by omega) S0
      obtain ⟨q, t5, zq, h5, e5⟩ := r_fraction (k + 3 + deep) h4 (by omega) S0
      rw [show k + 3 + deep + 3 = k + 6 + deep by omega] at e2 e3 e4 e5
      obtain ⟨x0, hx0, mx0⟩ : ∃ a, atI xs 0 = some a ∧ a ∈ xs := by
        cases xs with
        | nil => exact absurd rfl hz
        | cons a b => exact ⟨a, at0 _ _, by simp⟩
      obtain ⟨y, my, t6, h6, e6⟩ := r_pick (k + 4 + deep) h5 (by omega) [od, fr q, x0, co (p1, p2)] (by simp) (by simp) S0 []
      rw [show k + 4 + deep + 2 = k + 6 + deep by omega] at e6
      have fp := fi_co (w := w) (n := 5) (c := (p1, p2)) ⟨zp1.mono (by omega), zp2.mono (by omega)⟩
      have fq := fi_fr (w := w) zq
      have m0 := muL_mem (w := w) mx0
      have hy : okB (n + 5) y = true ∧ y.depth ≤ max ((PyData.tuple xs).depth - 1) 4 ∧ muD w y ≤ muL w xs + 4 * w + 60 := by
        simp at my
        rcases my with rfl | rfl | rfl | rfl
        · exact ⟨(fo.mono (show 101 ≤ n + 5 by omega) (Nat.le_refl _) (Nat.le_refl _)).ok, by have := fo.dp; omega, by have := fo.mu; omega⟩
        · exact ⟨(fq.mono (show 5 ≤ n + 5 by omega) (Nat.le_refl _) (Nat.le_refl _)).ok, by have := fq.dp; omega, by have := fq.mu; omega⟩
        · refine ⟨okB_mono (by omega) (okL_all.mp hxs _ mx0), ?_, by omega⟩
          have := dep_mem mx0
          omega
        · exact ⟨(fp.mono (show 5 ≤ n + 5 by omega) (Nat.le_refl _) (Nat.le_refl _)).ok, by have := fp.dp; omega, by have := fp.mu; omega⟩
      obtain ⟨ys, t7, mys, mu7, h7, e7⟩ := r_changed (w := w) (B := muL w xs + 4 * w + 60) (k + 4 + deep) h6 (by omega) (by omega : xs.length ≤ 60000) hy.2.2 (fun z mz => by have := muL_mem (w := w) mz; omega) S0
      rw [show k + 4 + deep + 2 = k + 6 + deep by omega] at e7
      refine ⟨.tuple ys, t7, ?_, ?_, ?_, h7.mono (by omega), ?_⟩
      · show okL (n + 5) ys = true
        refine okL_all.mpr fun z mz => ?_
        rcases mys z mz with rfl | mz
        · exact hy.1
        · exact okB_mono (by omega) (okL_all.mp hxs z mz)
      · have := depthAll_of (D := max ((PyData.tuple xs).depth - 1) 4) (xs := ys) fun z mz => by
          rcases mys z mz with rfl | mz
          · exact hy.2.1
          · have := dep_mem mz; omega
        have q : (PyData.tuple ys).depth = PyData.depthAll ys + 1 := by simp only [PyData.depth]
        rw [q]; omega
      · rw [muD]; omega
      · have cop : (.tuple [fr p1, fr p2] : PyData) = co (p1, p2) := rfl
        simp [b_L_bent, startR, d0, l0, isf, e1, e2, e3, cop, e4, e5, hx0, e6, e7, frzE, thaw]
    · have dr' : (dr == 0) = false := by simpa using hdr
      have lpos : 0 < xs.length := by
        cases xs with
        | nil => exact absurd rfl hz
        | cons a b => simp
      obtain ⟨d, t2, dd0, dd1, h2, e2⟩ := r_draw (k + 5 + deep) h1 (by omega) xs.length (by omega) (by omega) S0 []
      rw [show k + 5 + deep + 1 = k + 6 + deep by omega] at e2
      obtain ⟨a, rfl⟩ := Int.eq_ofNat_of_zero_le dd0
      have ha : a < xs.length := by omega
      have hat : xs[a]? = some xs[a] := List.getElem?_eq_getElem ha
      have mx : xs[a] ∈ xs := List.getElem_mem ha
      have ma := muL_at (w := w) hat
      have hix : atI xs (a : Int) = some xs[a] := atI_nat hat
      have sp := muL_split (w := w) xs a
      obtain ⟨y, t3, o3, dp3, mu3, h3, e3⟩ := r_bent hw hw2 deep k (by omega) h2 (by omega) (okL_all.mp hxs _ mx) hn hn2 (by have := muL_mem (w := w) mx; omega) S0
      have dm := dep_mem mx
      generalize xs[a] = u at hat mx ma hix dp3 mu3 e3 dm
      obtain ⟨la, lb⟩ := len_take_drop xs a
      obtain ⟨_, lb1⟩ := len_take_drop xs (a + 1)
      have ct := cut_to xs a
      have cd1 : cutP xs (some ((a : Int) + 1)) none = xs.drop (a + 1) := cut_of xs (a + 1)
      have mt : ∀ y ∈ xs.take a, y ∈ xs := fun y m => List.mem_of_mem_take m
      have md : ∀ y ∈ xs.drop (a + 1), y ∈ xs := fun y m => List.mem_of_mem_drop m
      generalize hT : xs.take a = A at ct la sp mt
      have q1 := addT (a := A) (b := [y]) (by simp only [List.length_singleton]; omega)
      have q2 := addT (a := A ++ [y]) (b := xs.drop (a + 1)) (by simp only [List.length_append, List.length_singleton]; omega)
      refine ⟨.tuple (A ++ [y] ++ xs.drop (a + 1)), t3, ?_, ?_, ?_, h3.mono (by omega), ?_⟩
      · show okL (n + 5) (A ++ [y] ++ xs.drop (a + 1)) = true
        refine okL_all.mpr fun z mz => ?_
        simp only [List.mem_append, List.mem_singleton] at mz
        rcases mz with (mz | rfl) | mz
        · exact okB_mono (by omega) (okL_all.mp hxs z (mt z mz))
        · exact o3
        · exact okB_mono (by omega) (okL_all.mp hxs z (md z mz))
      · have := depthAll_of (D := max ((PyData.tuple xs).depth - 1) (deep + 5)) (xs := A ++ [y] ++ xs.drop (a + 1)) fun z mz => by
          simp only [List.mem_append, List.mem_singleton] at mz
          rcases mz with (mz | rfl) | mz
          · have := dep_mem (mt z mz); omega
          · omega
          · have := dep_mem (md z mz); omega
        have q : (PyData.tuple (A ++ [y] ++ xs.drop (a + 1))).depth = PyData.depthAll (A ++ [y] ++ xs.drop (a + 1)) + 1 := by simp only [PyData.depth]
        rw [q]; omega
      · rw [muD, muL_app, muL_app, hmu]; simp only [muL]
        have := muL_mem (w := w) mx
        omega
      · simp [b_L_bent, startR, d0, d1, l0, isf, e1, dr', e2, hix, e3, ct, cd1, q1, q2, frzE, thaw]
end Prog

/-! T8: the law's things (over T7, A2, A3). -/
namespace Prog
open PySem PySem.Spec PyProof.Rows L2 PD
theorem long_sz {w f : Rat} {n : Nat} (zw : Sz 3 w) (zf : Sz 3 f) (hn : n ≤ 13) : ∀ c ∈ (List.range n).map (longC w f n), CSz 20 c := by
  intro c mc
  obtain ⟨i, mi, rfl⟩ := List.mem_map.mp mc
  have hi := List.mem_range.mp mi
  refine ⟨(sz_mul zw (sz_nat (m := 4) (z := (i : Int)) (by omega) (by omega))).mono (by omega), ?_⟩
  have key : ((i : Int) * ((n : Int) - 1 - i)).natAbs < 2 ^ 8 := by
    have h0 : 0 ≤ (n : Int) - 1 - i := by omega
    have h1 : (i : Int) * ((n : Int) - 1 - i) ≤ 12 * 12 := Int.mul_le_mul (by omega) (by omega) h0 (by omega)
    have h2 : 0 ≤ (i : Int) * ((n : Int) - 1 - i) := Int.mul_nonneg (by omega) h0
    omega
  exact (sz_mul zf (sz_nat (m := 8) key (by omega))).mono (by omega)
theorem r_thing {m : Nat} (k : Nat) {t : Dice} (h : Dok m t) (hm : m < 700000) (S0 : Sto) : ∃ x t', Fi 200 202 10 50000 x ∧ Dok (m + 300) t' ∧ run T (k + 12) "_law_thing" [.m S0.length] (S0 ++ [cellD t]) = some (.d x, S0 ++ [cellD t']) := by
  obtain ⟨c, t1, c0, c1, h1, e1⟩ := r_draw (k + 10) h (by omega) 8 (by omega) (by omega) S0 []
  obtain ⟨x0, t2, f0, h2, e2⟩ : ∃ x0 t2, (Fi 190 202 3 10806 x0) ∧ Dok (m + 22) t2 ∧ ifE (valB (binE (pf2 ltP) (varE 1) (constE (.int 5)))) (appE (callF (c_L_road (run T (k + 11)))) (consL (varE 0) nilL)) (appE (callF (c_L_long_road (run T (k + 11)))) (consL (varE 0) (consL (binE (pf2 addP) (constE (.int 8)) (appE (callF (c_L_draw (run T (k + 11)))) (consL (varE 0) (consL (constE (.int 6)) nilL)))) nilL))) [some (.m S0.length), some (.d (.int c)), none, none] (S0 ++ [cellD t1]) = some (.d x0, S0 ++ [cellD t2]) := by
    by_cases c5 : c < 5
    · obtain ⟨ks, t2, hk, hl, h2, e2⟩ := r_road (k + 6) h1 (by omega) S0
      refine ⟨kd ks, t2, (fi_kd (w := 202) hk.kd.size).mono (Nat.le_refl _) (Nat.le_refl _) ?_, h2.mono (by omega), ?_⟩
      · have : ks.length * (4 * 202 + 23) ≤ 5 * (4 * 202 + 23) := Nat.mul_le_mul_right _ hl
        omega
      · simp [c5, e2]
    · obtain ⟨d, t2, d0, d1, h2, e2⟩ := r_draw (k + 10) h1 (by omega) 6 (by omega) (by omega) S0 []
      obtain ⟨n, hn⟩ : ∃ n : Nat, 8 + d = n := ⟨(8 + d).toNat, by omega⟩
      obtain ⟨w, f, t3, w0, f0, zw, zf, h3, e3⟩ := r_long_road (k + 7) h2 (by omega) n (by omega) (by omega) S0
      refine ⟨_, t3, (fi_kd (w := 202) (long_sz zw zf (show n ≤ 13 by omega))).mono (by omega) (Nat.le_refl _) ?_, h3.mono (by omega), ?_⟩
      · rw [List.length_map, List.length_range]
        have : n * (4 * 202 + 23) ≤ 13 * (4 * 202 + 23) := Nat.mul_le_mul_right _ (by omega)
        omega
      · simp [c5, e2, hn, e3]
  obtain ⟨y, my, t3, h3, e3⟩ := r_pick (k + 9) h2 (by omega) [.int 0, .int 1, .int 1, .int 1, .int 2] (by simp) (by simp) S0 []
  obtain ⟨n, rfl, hn⟩ : ∃ n : Nat, y = .int (n : Int) ∧ n ≤ 2 := by
    simp at my
    rcases my with rfl | rfl | rfl
    · exact ⟨0, rfl, by omega⟩
    · exact ⟨1, rfl, by omega⟩
    · exact ⟨2, rfl, by omega⟩
  have rg := rangeU_nat n (S0 ++ [cellD t3]) (by omega)
  obtain ⟨R, hR⟩ : ∃ R, R = run T (k + 11) := ⟨_, rfl⟩
  rw [u_L_thing, x_run]
  refine (?_ : (fun o => ∃ x t', Fi 200 202 10 50000 x ∧ Dok (m + 300) t' ∧ o = some (W.d x, S0 ++ [cellD t'])) _)
  generalize hP : (fun o => ∃ x t', Fi 200 202 10 50000 x ∧ Dok (m + 300) t' ∧ o = some (W.d x, S0 ++ [cellD t'])) = P
  have bent := fun {m n : Nat} {t : Dice} {x : PyData} => r_bent (w := 202) (by omega) (by omega) 4 (k + 1) (m := m) (n := n) (t := t) (x := x)
  have odd := fun {m : Nat} {t : Dice} (h : Dok m t) (hm : m < 1000000) => r_odd (w := 202) (by omega) (k + 8) h hm S0
  have pick := fun {m : Nat} {t : Dice} (h : Dok m t) (hm : m < 1000000) xs h0 h1 => r_pick (k + 9) h hm xs h0 h1 S0 []
  simp only [Nat.add_assoc, Nat.reduceAdd, ← hR] at e1 e2 e3 bent odd pick ⊢
  rw [show startR 4 [W.m S0.length] = [some (.m S0.length), none, none, none] from rfl]
  unfold b_L_thing
  have seq : ∀ {s s' : CS} {ρ ρ1 : Rho} {S S1 : Sto}, s ρ S = some (.nx, ρ1, S1) → seqS s s' ρ S = s' ρ1 S1 := fun h => by rw [x_seq, h]; rfl
  rw [seq (ρ1 := [some (.m S0.length), some (.d (.int c)), none, none]) (S1 := S0 ++ [cellD t1]) (by simp [e1])]
  rw [seq (ρ1 := [some (.m S0.length), some (.d (.int c)), some (.d x0), none]) (S1 := S0 ++ [cellD t2]) (by rw [x_asg, e2]; simp)]
  simp [e3, rg]
  try simp only [Option.bind_assoc]
  rw [show rangeD 0 n = (List.range n).map fun i => PyData.int (0 + (i : Nat)) from rfl]
  refine forN_bind P (fun i : Nat => PyData.int (0 + (i : Nat))) (fun s : PyData × Dice × Option W => [some (.m S0.length), some (.d (.int c)), some (.d s.1), s.2.2]) (fun s => S0 ++ [cellD s.2.1])
    (fun l s => ∃ j, j + l.length = n ∧ okB (190 + 5 * j) s.1 = true ∧ s.1.depth ≤ 9 ∧ muD 202 s.1 + 878 ≤ 11684 * 2 ^ j ∧ Dok (m + 23 + 100 * j) s.2.1)
    (fun fl ρ S' => ∃ x t w, fl = .nx ∧ ρ = [some (.m S0.length), some (.d (.int c)), some (.d x), w] ∧ S' = S0 ++ [cellD t] ∧ okB 200 x = true ∧ x.depth ≤ 9 ∧ muD 202 x ≤ 46000 ∧ Dok (m + 223) t)
    (List.range n) (x0, t3, none) ⟨0, by simp, f0.ok, by have := f0.dp; simp only; omega, by have := f0.mu; simp only; omega, h3.mono (by omega)⟩ rfl rfl ?_ ?_ ?_
  · rintro ⟨x, t, w⟩ ⟨j, hj, a1, a2, a3, a4⟩
    simp only [List.length_nil, Nat.add_zero] at hj a1 a2 a3 a4
    have j2 : j ≤ 2 := by omega
    have p4 : 2 ^ j ≤ 4 := Nat.le_trans (Nat.pow_le_pow_right (by decide) j2) (by decide)
    exact ⟨x, t, w, rfl, rfl, rfl, okB_mono (by omega) a1, a2, by omega, a4.mono (by omega)⟩
  · rintro i l ⟨x, t, w⟩ ⟨j, hj, a1, a2, a3, a4⟩
    simp only [List.length_cons] at hj a1 a2 a3 a4
    have j1 : j ≤ 1 := by omega
    have p2 : 2 ^ j ≤ 2 := Nat.le_trans (Nat.pow_le_pow_right (by decide) j1) (by decide)
    obtain ⟨x', t', b1, b2, b3, b4, e⟩ := bent (by omega) a4 (by omega) a1 (by omega) (by omega) (by omega) S0
    have e' : R "_law_bent" [.m S0.length, .d x, .d (.int 4)] (S0 ++ [cellD t]) = some (.d x', S0 ++ [cellD t']) := e
    refine .nx' (x', t', some (.d (.int (0 + (i : Nat))))) ⟨j + 1, by omega, ?_, by simp only; omega, ?_, b4.mono (by omega)⟩ ?_
    · have : 190 + 5 * j + 5 = 190 + 5 * (j + 1) := by omega
      rw [← this]; exact b1
    · simp only [Nat.pow_succ]; omega
    · simp [e']
  · rintro fl ρ S' ⟨x, t, w, rfl, rfl, rfl, a1, a2, a3, a4⟩
    by_cases c7 : c = 7
    · subst c7
      obtain ⟨od, t5, fo, h5, e5⟩ := odd a4 (by omega)
      have fin : ∀ (L : PyData) (o : Option (W × Sto)), Fi 200 202 10 50000 L → (∀ z t6, R "_law_pick" [.m S0.length, .d (.list [od, L, .tuple [x]])] (S0 ++ [cellD t5]) = some (.d z, S0 ++ [cellD t6]) → P (some (.d z, S0 ++ [cellD t6])) → P o) → P o := fun L o fL go => by
        obtain ⟨z, mz, t6, h6, e6⟩ := pick h5 (by omega) [od, L, .tuple [x]] (by simp) (by simp)
        refine go z t6 e6 ?_
        rw [← hP]
        refine ⟨z, t6, ?_, h6.mono (by omega), rfl⟩
        simp at mz
        rcases mz with rfl | rfl | rfl
        · exact fo.mono (by omega) (by omega) (by omega)
        · exact fL
        · exact ⟨by show okL 200 [x] = true; simp [okL, a1], by simp only [PyData.depth, PyData.depthAll]; omega, by simp only [muD, muL]; omega⟩
      cases ht : isTupD x with
      | false =>
        refine fin x _ ⟨a1, by omega, by omega⟩ fun z t6 e6 pz => ?_
        cases x <;> first | (cases ht; done) | (simp [e5, e6, frzE, thaw]; exact pz)
      | true =>
        obtain ⟨xs, rfl⟩ := tup_of ht
        have lp : listP [PyData.tuple xs] = some (.list xs) := rfl
        refine fin (.list xs) _ ⟨by simpa [okB] using a1, by simp only [PyData.depth] at a2 ⊢; omega, by simp only [muD] at a3 ⊢; omega⟩ fun z t6 e6 pz => ?_
        simp [e5, lp, e6, frzE, thaw]
        exact pz
    · have c7' : (c == 7) = false := by simpa using c7
      rw [← hP]
      exact ⟨x, t, ⟨a1, by omega, by omega⟩, a4.mono (by omega), by simp [c7']⟩
theorem r_flat {m : Nat} (k : Nat) {t : Dice} (h : Dok m t) (hm : m < 700000) (S0 : Sto) : ∃ x t', Fi 700 702 3 20000 x ∧ Dok (m + 100) t' ∧ run T (k + 6) "_law_flat" [.m S0.length] (S0 ++ [cellD t]) = some (.d x, S0 ++ [cellD t']) := by
  obtain ⟨ks, t1, hk, hl5, h1, e1⟩ := r_road k h (by omega) S0
  obtain ⟨d, t2, d0, d1, h2, e2⟩ := r_draw (k + 4) h1 (by omega) 3 (by omega) (by omega) S0 []
  have e3 := r_frac (n := 3) (k + 3) (a := 1 + d) (b := 4) (by omega) (by unfold Lt2; omega) (by unfold Lt2; omega) (by omega) (S0 ++ [cellD t2])
  have zb : Sz 3 (Rat.divInt (1 + d) 4) := sz_lt (by omega) (by omega) (by omega)
  generalize Rat.divInt (1 + d) 4 = by' at e3 zb
  have h3 := hk.kd.len3
  obtain ⟨a, t3, a0, a1, h4, e4⟩ := r_draw (k + 4) h2 (by omega) ((ks.length : Int) - 1) (by omega) (by omega) S0 []
  obtain ⟨j, rfl⟩ := Int.eq_ofNat_of_zero_le a0
  have hj : j + 1 < ks.length := by omega
  have g1 : ks[j]? = some (ks[j]'(by omega)) := List.getElem?_eq_getElem (by omega)
  have g2 : ks[j + 1]? = some ks[j + 1] := List.getElem?_eq_getElem hj
  have m1 : ks[j]'(by omega) ∈ ks := List.getElem_mem _
  have m2 : ks[j + 1] ∈ ks := List.getElem_mem _
  generalize ks[j]'(by omega) = u at g1 m1
  generalize ks[j + 1] = v at g2 m2
  have zu := hk.kd.size u m1
  have zv := hk.kd.size v m2
  have t1' : atI (ks.map co) (j : Int) = some (co u) := atI_nat (by rw [List.getElem?_map, g1]; rfl)
  have t2' : atI (ks.map co) ((j : Int) + 1) = some (co v) := atI_nat (j := j + 1) (by rw [List.getElem?_map, g2]; rfl)
  have e5 := r_part (k + 1) zu.1 zv.1 zb (by omega) (S0 ++ [cellD t3])
  have e6 := r_part (k + 1) zu.2 zv.2 zb (by omega) (S0 ++ [cellD t3])
  obtain ⟨b, t4, b0, b1, h5, e7⟩ := r_draw (k + 4) h4 (by omega) 3 (by omega) (by omega) S0 []
  have e8 := r_frac (n := 10) (k + 3) (a := b - 1) (b := 1000) (by omega) (by unfold Lt2; omega) (by unfold Lt2; omega) (by omega) (S0 ++ [cellD t4])
  have ze : Sz 10 (Rat.divInt (b - 1) 1000) := sz_lt (by omega) (by omega) (by omega)
  generalize Rat.divInt (b - 1) 1000 = ep at e8 ze
  have zf1 := sz_add zu.1 (sz_mul zb (sz_sub zv.1 zu.1))
  have zf2 := sz_add zu.2 (sz_mul zb (sz_sub zv.2 zu.2))
  have e9 := r_add (k + 2) zf2 ze (by omega) (S0 ++ [cellD t4])
  have zf3 := sz_add zf2 ze
  generalize u.1 + by' * (v.1 - u.1) = dens at e5 zf1
  generalize u.2 + by' * (v.2 - u.2) = fl0 at e6 e9 zf2 zf3
  generalize fl0 + ep = flux at e9 zf3
  have l5 : ks.length ≤ 5 := hl5
  have lm : (ks.map co).length = ks.length := by simp
  have ct : cutP (ks.map co) none (some ((j : Int) + 1)) = (ks.map co).take (j + 1) := cut_to (ks.map co) (j + 1)
  have cd : cutP (ks.map co) (some ((j : Int) + 1)) none = (ks.map co).drop (j + 1) := cut_of (ks.map co) (j + 1)
  rw [← List.map_take] at ct
  rw [← List.map_drop] at cd
  have q1 := addT (a := (ks.take (j + 1)).map co) (b := [co (dens, flux)]) (by simp; omega)
  have q2 := addT (a := (ks.take (j + 1)).map co ++ [co (dens, flux)]) (b := (ks.drop (j + 1)).map co) (by simp; omega)
  obtain ⟨js, hjs⟩ : ∃ js, js = ks.take (j + 1) ++ [(dens, flux)] ++ ks.drop (j + 1) := ⟨_, rfl⟩
  have ejs : (ks.take (j + 1)).map co ++ [co (dens, flux)] ++ (ks.drop (j + 1)).map co = js.map co := by rw [hjs]; simp
  have ljs : js.length ≤ 6 := by rw [hjs]; simp; omega
  have szj : ∀ c ∈ js, CSz 700 c := by
    intro c mc
    rw [hjs] at mc
    simp only [List.mem_append, List.mem_singleton] at mc
    rcases mc with (mc | rfl) | mc
    · have := hk.kd.size c (List.mem_of_mem_take mc)
      exact ⟨this.1.mono (by omega), this.2.mono (by omega)⟩
    · exact ⟨zf1.mono (by omega), zf3.mono (by omega)⟩
    · have := hk.kd.size c (List.mem_of_mem_drop mc)
      exact ⟨this.1.mono (by omega), this.2.mono (by omega)⟩
  rw [ejs] at q2
  generalize (ks.take (j + 1)).map co = TA at ct q1 q2
  generalize (ks.drop (j + 1)).map co = TB at cd q2
  refine ⟨kd js, t4, (fi_kd (w := 702) szj).mono (Nat.le_refl _) (Nat.le_refl _) ?_, h5.mono (by omega), ?_⟩
  · have : js.length * (4 * 702 + 23) ≤ 6 * (4 * 702 + 23) := Nat.mul_le_mul_right _ ljs
    omega
  · obtain ⟨R, hR⟩ : ∃ R, R = run T (k + 5) := ⟨_, rfl⟩
    obtain ⟨L, hL⟩ : ∃ L, L = ks.map co := ⟨_, rfl⟩
    have kdL : kd ks = .tuple L := by rw [hL]; rfl
    rw [← hL] at t1' t2' ct cd lm
    rw [kdL] at e1
    have lenL : lenP [.tuple L] = some (.int (ks.length : Int)) := by simp [lm]
    have cop : (.tuple [fr dens, fr flux] : PyData) = co (dens, flux) := rfl
    have u0 : ixP (co u) (.int 0) = some (fr u.1) := by simp [co]
    have u1 : ixP (co u) (.int 1) = some (fr u.2) := by simp [co]
    have v0 : ixP (co v) (.int 0) = some (fr v.1) := by simp [co]
    have v1 : ixP (co v) (.int 1) = some (fr v.2) := by simp [co]
    rw [u_L_flat, x_run]
    simp only [Nat.add_assoc, Nat.reduceAdd, ← hR] at e1 e2 e3 e4 e5 e6 e7 e8 e9 ⊢
    simp [b_L_flat, startR, e1, e2, e3, lenL, e4, t1', t2', u0, u1, v0, v1, e5, e6, e7, e8, e9, ct, cd, cop, q1, q2, kd, frzE, thaw]
end Prog

/-! K02: the law of k02 (over T8, T4, T2). -/
namespace Prog
open PySem PySem.Spec PyProof.Rows L2 PD
theorem shw3 (b : Bool) : Shw 1 100 (.list [.bool b, .bool b, .bool b]) := by
  cases b <;> exact ⟨by rfl, by rfl, by decide, by exact ⟨by decide +kernel, by decide +kernel⟩⟩
/-- a thing that the law may look at -/
structure Thg (x : PyData) : Prop where
  lens : Lens x
  fr : fracsIn 700 x
  sz : ∀ ks, x = kd ks → ∀ c ∈ ks, CSz 700 c
  sh : Shw 10 50000 x
theorem Fi.thg {w D M : Nat} {x : PyData} (h : Fi 700 w D M x) (hw : 702 ≤ w) (hM : M ≤ 50000) (hD : D ≤ 10) : Thg x := 
  ⟨h.lens (by omega), h.fracs, fun _ e => by subst e; exact h.kdsz, (h.shw (by omega) (by omega)).mono hD hM⟩
theorem Fi.thg2 {w D M : Nat} {x : PyData} (h : Fi 200 w D M x) (hw : 202 ≤ w) (hM : M ≤ 50000) (hD : D ≤ 10) : Thg x := 
  ⟨h.lens (by omega), (h.mono (n := 200) (m := 700) (by omega) (Nat.le_refl _) (Nat.le_refl _)).fracs, fun _ e => by subst e; exact (h.mono (n := 200) (m := 700) (by omega) (Nat.le_refl _) (Nat.le_refl _)).kdsz, (h.shw (by omega) (by omega)).mono hD hM⟩
theorem r_right {m : Nat} (k : Nat) {t : Dice} (h : Dok m t) (hm : m < 200000) (S0 : Sto) : ∃ S', run T (k + 13) "_law_right" [.m S0.length] (S0 ++ [cellD t]) = some (.d (.bool true), S') := by
  obtain ⟨d, t1, d0, d1, h1, e1⟩ := r_draw (k + 11) h (by omega) 4 (by omega) (by omega) S0 []
  obtain ⟨x, t2, hx, e2⟩ : ∃ x t2, Thg x ∧ ifE (valB (binE (pf2 gtP) (constE (.int d)) (constE (.int 0)))) (appE (callF (c_L_thing (run T (k + 12)))) (consL (varE 0) nilL)) (appE (callF (c_L_flat (run T (k + 12)))) (consL (varE 0) nilL)) [some (.m S0.length), none, none, none] (S0 ++ [cellD t1]) = some (.d x, S0 ++ [cellD t2]) := by
    by_cases c : 0 < d
    · obtain ⟨x, t2, f, h2, e2⟩ := r_thing k h1 (by omega) S0
      exact ⟨x, t2, f.thg2 (by omega) (by omega) (by omega), by simp [c, e2]⟩
    · obtain ⟨x, t2, f, h2, e2⟩ := r_flat (k + 6) h1 (by omega) S0
      exact ⟨x, t2, f.thg (by omega) (by omega) (by omega), by simp [c, e2]⟩
  have e3 := fun S => r_is_roadA (k + 7) x hx.lens hx.fr hx.sz (by omega) S
  have e4 := fun S => r_is_kindA (k + 4) x hx.lens hx.sz (by omega) S
  have rp := repr_ok hx.sh (by omega) (by omega)
  have eq := eqP_str hx.sh
  generalize kindB x = b at e3 e4
  have rp3 := repr_ok (shw3 b) (by omega) (by omega)
  have eq3 := eqP_str (shw3 b)
  obtain ⟨R, hR⟩ : ∃ R, R = run T (k + 12) := ⟨_, rfl⟩
  rw [u_L_right, x_run]
  simp only [Nat.add_assoc, Nat.reduceAdd, ← hR] at e1 e2 e3 e4 ⊢
  refine ⟨S0 ++ [cellD t2], ?_⟩
  have rm : ∀ S : Sto, repM (.m S.length) (.d (.int 3)) (S ++ [some [.bool b]]) = some (.d (.list [.bool b, .bool b, .bool b]), S ++ [some [.bool b]]) := fun S => by
    unfold repM
    simp
  by_cases c : 0 < d
  all_goals simp [c] at e2
  all_goals simp [b_L_right, startR, e1, c, e2, e3, e4, rp, eq, rp3, eq3, rm, atW]
theorem law_k02 (k : Nat) (ns : List Int) : run T (k + 14) "law" [.d (.list (ns.map PyData.int))] [] = some (.d (.bool true), []) := by
  obtain ⟨n, hn, e⟩ : ∃ n : Nat, n ≤ 12 ∧ (if (if (12 : Int) < ns.length then 12 else (ns.length : Int)) > 5 then (if (12 : Int) < ns.length then 12 else (ns.length : Int)) else 5) = (n : Nat) := by
    by_cases h : (12 : Int) < ns.length
    · exact ⟨12, by omega, by rw [if_pos h]; rfl⟩
    · rw [if_neg h]
      by_cases h2 : (ns.length : Int) > 5
      · exact ⟨ns.length, by omega, by rw [if_pos h2]⟩
      · exact ⟨5, by omega, by rw [if_neg h2]; rfl⟩
  have rg := rangeU_nat n [] (by omega)
  obtain ⟨S', hl⟩ := lcN_st (g := nameG 1) (elt := appE (callF (c_L_right (PD.run T (k + 13)))) (consL (appE (callF (c_L_spring (PD.run T (k + 13)))) (consL (varE 0) (consL (varE 1) nilL))) nilL)) (ρ := [some (.d (.list (ns.map PyData.int))), none])
    (fun i : Nat => PyData.int (0 + (i : Nat))) (fun i => [some (.d (.list (ns.map PyData.int))), some (.d (.int (0 + (i : Nat))))]) (fun _ => PyData.bool true) (List.range n) (fun i _ S => by simp) (fun i m S => by
      have hi := List.mem_range.mp m
      obtain ⟨t, ht, e1⟩ := r_spring (k + 12) ns i (by omega) S
      obtain ⟨S2, e2⟩ := r_right k ht (by omega) S
      exact ⟨S2, by simp [e1, e2]⟩) []
  rw [u_law, x_run]
  simp [b_law, startR, x_lc, wipeR, e, rg]
  rw [show rangeD 0 n = (List.range n).map fun i => PyData.int (0 + (i : Nat)) from rfl, hl]
  have ln : n ≤ 100000 := by omega
  have ab : ∀ l : List Nat, allBool (l.map fun _ => PyData.bool true) = some (l.map fun _ => true) := fun l => by
    induction l with
    | nil => rfl
    | cons x l ih => rw [List.map_cons]; unfold allBool; rw [ih]; rfl
  simp [ln, allP, ab]
end Prog

namespace Prog
open PySem PySem.Spec PyProof.Rows L2 PD
theorem stands_mk {K : PySem.W.Frag} {h : Heap} {mg : Str → Option Value} (X : K.In h) (Gn : h.Ns mainGlobals mg) {x : Str} {st : Stmt} {d : Info} {F : Addr} {od an : Option Addr} {sl : Array (Option Value)} {oc kV dc pm cd ct : Value}
    (n : PySem.W.nsIn K mainGlobals x = some (some (.ref F))) (l : K.lookup F = some ⟨oc, od, .func (PySem.W.fnOf x x (defArgs st) (defBody st) (defScope st) .none kV dc pm an cd ct), sl⟩) (q : PySem.W.codeIn K cd x = true) (t : PySem.W.keepIn K (.ref F) = true)
    (f : FnScope d.N d.ps (defScope st)) (k : ∀ r : Runs, cDef (ctxOf G T r d) st = some (d.body r)) (ha : ∀ a ∈ d.arr, a.2.2.length = d.ps.length)
    (b1 : ∀ (s : Shared) (us : List Value), us.length = d.ps.length → BindsTo s (PySem.W.fnOf x x (defArgs st) (defBody st) (defScope st) .none kV dc pm an cd ct) ⟨us, []⟩ (d.ps.zip us))
    (b2 : ∀ a ∈ d.arr, ∀ (s : Shared) (us ws : List Value), us.length = a.1 → ws.length = a.2.1.length → BindsTo s (PySem.W.fnOf x x (defArgs st) (defBody st) (defScope st) .none kV dc pm an cd ct) ⟨us, a.2.1.zip ws⟩ (d.ps.zip (atU a.2.2 (us ++ ws)))) : Stands K mg G T x d :=
  ⟨⟨st, F, _, PySem.W.mg_of X Gn n, fun_mk (st := st) l q t, f, b1, b2, ha, k⟩⟩
theorem sound {K : PySem.W.Frag} {h : Heap} {mg : Str → Option Value} (X : K.In h) (Gn : h.Ns mainGlobals mg)
    {F_is_whole : Addr} {od_is_whole an_is_whole : Option Addr} {sl_is_whole : Array (Option Value)} {oc_is_whole kV_is_whole dc_is_whole pm_is_whole cd_is_whole ct_is_whole : Value}
    {F_are_wholes : Addr} {od_are_wholes an_are_wholes : Option Addr} {sl_are_wholes : Array (Option Value)} {oc_are_wholes kV_are_wholes dc_are_wholes pm_are_wholes cd_are_wholes ct_are_wholes : Value}
    {F_common_part : Addr} {od_common_part an_common_part : Option Addr} {sl_common_part : Array (Option Value)} {oc_common_part kV_common_part dc_common_part pm_common_part cd_common_part ct_common_part : Value}
    {F_lowest : Addr} {od_lowest an_lowest : Option Addr} {sl_lowest : Array (Option Value)} {oc_lowest kV_lowest dc_lowest pm_lowest cd_lowest ct_lowest : Value}
    {F_lowest_over : Addr} {od_lowest_over an_lowest_over : Option Addr} {sl_lowest_over : Array (Option Value)} {oc_lowest_over kV_lowest_over dc_lowest_over pm_lowest_over cd_lowest_over ct_lowest_over : Value}
    {F_ratio : Addr} {od_ratio an_ratio : Option Addr} {sl_ratio : Array (Option Value)} {oc_ratio kV_ratio dc_ratio pm_ratio cd_ratio ct_ratio : Value}
    {F_minus : Addr} {od_minus an_minus : Option Addr} {sl_minus : Array (Option Value)} {oc_minus kV_minus dc_minus pm_minus cd_minus ct_minus : Value}
    {F_divided : Addr} {od_divided an_divided : Option Addr} {sl_divided : Array (Option Value)} {oc_divided kV_divided dc_divided pm_divided cd_divided ct_divided : Value}
    {F_is_below : Addr} {od_is_below an_is_below : Option Addr} {sl_is_below : Array (Option Value)} {oc_is_below kV_is_below dc_is_below pm_is_below cd_is_below ct_is_below : Value}
    {F_is_fraction : Addr} {od_is_fraction an_is_fraction : Option Addr} {sl_is_fraction : Array (Option Value)} {oc_is_fraction kV_is_fraction dc_is_fraction pm_is_fraction cd_is_fraction ct_is_fraction : Value}
    {F_are_fractions : Addr} {od_are_fractions an_are_fractions : Option Addr} {sl_are_fractions : Array (Option Value)} {oc_are_fractions kV_are_fractions dc_are_fractions pm_are_fractions cd_are_fractions ct_are_fractions : Value}
    {F_slope_of : Addr} {od_slope_of an_slope_of : Option Addr} {sl_slope_of : Array (Option Value)} {oc_slope_of kV_slope_of dc_slope_of pm_slope_of cd_slope_of ct_slope_of : Value}
    {F_kind_speeds : Addr} {od_kind_speeds an_kind_speeds : Option Addr} {sl_kind_speeds : Array (Option Value)} {oc_kind_speeds kV_kind_speeds dc_kind_speeds pm_kind_speeds cd_kind_speeds ct_kind_speeds : Value}
    {F_is_kind : Addr} {od_is_kind an_is_kind : Option Addr} {sl_is_kind : Array (Option Value)} {oc_is_kind kV_is_kind dc_is_kind pm_is_kind cd_is_kind ct_is_kind : Value}
    {F_is_corner : Addr} {od_is_corner an_is_corner : Option Addr} {sl_is_corner : Array (Option Value)} {oc_is_corner kV_is_corner dc_is_corner pm_is_corner cd_is_corner ct_is_corner : Value}
    {F_L_spring : Addr} {od_L_spring an_L_spring : Option Addr} {sl_L_spring : Array (Option Value)} {oc_L_spring kV_L_spring dc_L_spring pm_L_spring cd_L_spring ct_L_spring : Value}
    {F_L_draw : Addr} {od_L_draw an_L_draw : Option Addr} {sl_L_draw : Array (Option Value)} {oc_L_draw kV_L_draw dc_L_draw pm_L_draw cd_L_draw ct_L_draw : Value}
    {F_L_pick : Addr} {od_L_pick an_L_pick : Option Addr} {sl_L_pick : Array (Option Value)} {oc_L_pick kV_L_pick dc_L_pick pm_L_pick cd_L_pick ct_L_pick : Value}
    {F_L_shared : Addr} {od_L_shared an_L_shared : Option Addr} {sl_L_shared : Array (Option Value)} {oc_L_shared kV_L_shared dc_L_shared pm_L_shared cd_L_shared ct_L_shared : Value}
    {F_L_frac : Addr} {od_L_frac an_L_frac : Option Addr} {sl_L_frac : Array (Option Value)} {oc_L_frac kV_L_frac dc_L_frac pm_L_frac cd_L_frac ct_L_frac : Value}
    {F_L_add : Addr} {od_L_add an_L_add : Option Addr} {sl_L_add : Array (Option Value)} {oc_L_add kV_L_add dc_L_add pm_L_add cd_L_add ct_L_add : Value}
    {F_L_sub : Addr} {od_L_sub an_L_sub : Option Addr} {sl_L_sub : Array (Option Value)} {oc_L_sub kV_L_sub dc_L_sub pm_L_sub cd_L_sub ct_L_sub : Value}
    {F_L_mul : Addr} {od_L_mul an_L_mul : Option Addr} {sl_L_mul : Array (Option Value)} {oc_L_mul kV_L_mul dc_L_mul pm_L_mul cd_L_mul ct_L_mul : Value}
    {F_L_div : Addr} {od_L_div an_L_div : Option Addr} {sl_L_div : Array (Option Value)} {oc_L_div kV_L_div dc_L_div pm_L_div cd_L_div ct_L_div : Value}
    {F_L_under : Addr} {od_L_under an_L_under : Option Addr} {sl_L_under : Array (Option Value)} {oc_L_under kV_L_under dc_L_under pm_L_under cd_L_under ct_L_under : Value}
    {F_L_part : Addr} {od_L_part an_L_part : Option Addr} {sl_L_part : Array (Option Value)} {oc_L_part kV_L_part dc_L_part pm_L_part cd_L_part ct_L_part : Value}
    {F_L_is_frac : Addr} {od_L_is_frac an_L_is_frac : Option Addr} {sl_L_is_frac : Array (Option Value)} {oc_L_is_frac kV_L_is_frac dc_L_is_frac pm_L_is_frac cd_L_is_frac ct_L_is_frac : Value}
    {F_L_odd : Addr} {od_L_odd an_L_odd : Option Addr} {sl_L_odd : Array (Option Value)} {oc_L_odd kV_L_odd dc_L_odd pm_L_odd cd_L_odd ct_L_odd : Value}
    {F_L_fraction : Addr} {od_L_fraction an_L_fraction : Option Addr} {sl_L_fraction : Array (Option Value)} {oc_L_fraction kV_L_fraction dc_L_fraction pm_L_fraction cd_L_fraction ct_L_fraction : Value}
    {F_L_small : Addr} {od_L_small an_L_small : Option Addr} {sl_L_small : Array (Option Value)} {oc_L_small kV_L_small dc_L_small pm_L_small cd_L_small ct_L_small : Value}
    {F_L_road : Addr} {od_L_road an_L_road : Option Addr} {sl_L_road : Array (Option Value)} {oc_L_road kV_L_road dc_L_road pm_L_road cd_L_road ct_L_road : Value}
    {F_L_long_road : Addr} {od_L_long_road an_L_long_road : Option Addr} {sl_L_long_road : Array (Option Value)} {oc_L_long_road kV_L_long_road dc_L_long_road pm_L_long_road cd_L_long_road ct_L_long_road : Value}
    {F_L_paces : Addr} {od_L_paces an_L_paces : Option Addr} {sl_L_paces : Array (Option Value)} {oc_L_paces kV_L_paces dc_L_paces pm_L_paces cd_L_paces ct_L_paces : Value}
    {F_L_is_pair : Addr} {od_L_is_pair an_L_is_pair : Option Addr} {sl_L_is_pair : Array (Option Value)} {oc_L_is_pair kV_L_is_pair dc_L_is_pair pm_L_is_pair cd_L_is_pair ct_L_is_pair : Value}
    {F_L_is_road : Addr} {od_L_is_road an_L_is_road : Option Addr} {sl_L_is_road : Array (Option Value)} {oc_L_is_road kV_L_is_road dc_L_is_road pm_L_is_road cd_L_is_road ct_L_is_road : Value}
    {F_L_changed : Addr} {od_L_changed an_L_changed : Option Addr} {sl_L_changed : Array (Option Value)} {oc_L_changed kV_L_changed dc_L_changed pm_L_changed cd_L_changed ct_L_changed : Value}
    {F_L_near : Addr} {od_L_near an_L_near : Option Addr} {sl_L_near : Array (Option Value)} {oc_L_near kV_L_near dc_L_near pm_L_near cd_L_near ct_L_near : Value}
    {F_L_bent : Addr} {od_L_bent an_L_bent : Option Addr} {sl_L_bent : Array (Option Value)} {oc_L_bent kV_L_bent dc_L_bent pm_L_bent cd_L_bent ct_L_bent : Value}
    {F_L_thing : Addr} {od_L_thing an_L_thing : Option Addr} {sl_L_thing : Array (Option Value)} {oc_L_thing kV_L_thing dc_L_thing pm_L_thing cd_L_thing ct_L_thing : Value}
    {F_L_flat : Addr} {od_L_flat an_L_flat : Option Addr} {sl_L_flat : Array (Option Value)} {oc_L_flat kV_L_flat dc_L_flat pm_L_flat cd_L_flat ct_L_flat : Value}
    {F_L_right : Addr} {od_L_right an_L_right : Option Addr} {sl_L_right : Array (Option Value)} {oc_L_right kV_L_right dc_L_right pm_L_right cd_L_right ct_L_right : Value}
    {F_law : Addr} {od_law an_law : Option Addr} {sl_law : Array (Option Value)} {oc_law kV_law dc_law pm_law cd_law ct_law : Value}
    {A_NOUGHT : Addr} {aod_NOUGHT : Option Addr} {asl_NOUGHT : Array (Option Value)} {an_NOUGHT : Nat} {at_NOUGHT_0 : Tok} {at_NOUGHT_1 : Tok}
    {tk_LEAST_CORNERS : Tok}
    {tk_MOST_CORNERS : Tok}
    (n_is_whole : PySem.W.nsIn K mainGlobals "is_whole" = some (some (.ref F_is_whole))) (l_is_whole : K.lookup F_is_whole = some ⟨oc_is_whole, od_is_whole, .func (PySem.W.fnOf "is_whole" "is_whole" (defArgs s_is_whole) (defBody s_is_whole) (defScope s_is_whole) .none kV_is_whole dc_is_whole pm_is_whole an_is_whole cd_is_whole ct_is_whole), sl_is_whole⟩) (q_is_whole : PySem.W.codeIn K cd_is_whole "is_whole" = true) (t_is_whole : PySem.W.keepIn K (.ref F_is_whole) = true)
    (n_are_wholes : PySem.W.nsIn K mainGlobals "are_wholes" = some (some (.ref F_are_wholes))) (l_are_wholes : K.lookup F_are_wholes = some ⟨oc_are_wholes, od_are_wholes, .func (PySem.W.fnOf "are_wholes" "are_wholes" (defArgs s_are_wholes) (defBody s_are_wholes) (defScope s_are_wholes) .none kV_are_wholes dc_are_wholes pm_are_wholes an_are_wholes cd_are_wholes ct_are_wholes), sl_are_wholes⟩) (q_are_wholes : PySem.W.codeIn K cd_are_wholes "are_wholes" = true) (t_are_wholes : PySem.W.keepIn K (.ref F_are_wholes) = true)
    (n_common_part : PySem.W.nsIn K mainGlobals "common_part" = some (some (.ref F_common_part))) (l_common_part : K.lookup F_common_part = some ⟨oc_common_part, od_common_part, .func (PySem.W.fnOf "common_part" "common_part" (defArgs s_common_part) (defBody s_common_part) (defScope s_common_part) .none kV_common_part dc_common_part pm_common_part an_common_part cd_common_part ct_common_part), sl_common_part⟩) (q_common_part : PySem.W.codeIn K cd_common_part "common_part" = true) (t_common_part : PySem.W.keepIn K (.ref F_common_part) = true)
    (n_lowest : PySem.W.nsIn K mainGlobals "lowest" = some (some (.ref F_lowest))) (l_lowest : K.lookup F_lowest = some ⟨oc_lowest, od_lowest, .func (PySem.W.fnOf "lowest" "lowest" (defArgs s_lowest) (defBody s_lowest) (defScope s_lowest) .none kV_lowest dc_lowest pm_lowest an_lowest cd_lowest ct_lowest), sl_lowest⟩) (q_lowest : PySem.W.codeIn K cd_lowest "lowest" = true) (t_lowest : PySem.W.keepIn K (.ref F_lowest) = true)
    (n_lowest_over : PySem.W.nsIn K mainGlobals "lowest_over" = some (some (.ref F_lowest_over))) (l_lowest_over : K.lookup F_lowest_over = some ⟨oc_lowest_over, od_lowest_over, .func (PySem.W.fnOf "lowest_over" "lowest_over" (defArgs s_lowest_over) (defBody s_lowest_over) (defScope s_lowest_over) .none kV_lowest_over dc_lowest_over pm_lowest_over an_lowest_over cd_lowest_over ct_lowest_over), sl_lowest_over⟩) (q_lowest_over : PySem.W.codeIn K cd_lowest_over "lowest_over" = true) (t_lowest_over : PySem.W.keepIn K (.ref F_lowest_over) = true)
    (n_ratio : PySem.W.nsIn K mainGlobals "ratio" = some (some (.ref F_ratio))) (l_ratio : K.lookup F_ratio = some ⟨oc_ratio, od_ratio, .func (PySem.W.fnOf "ratio" "ratio" (defArgs s_ratio) (defBody s_ratio) (defScope s_ratio) .none kV_ratio dc_ratio pm_ratio an_ratio cd_ratio ct_ratio), sl_ratio⟩) (q_ratio : PySem.W.codeIn K cd_ratio "ratio" = true) (t_ratio : PySem.W.keepIn K (.ref F_ratio) = true)
    (n_minus : PySem.W.nsIn K mainGlobals "minus" = some (some (.ref F_minus))) (l_minus : K.lookup F_minus = some ⟨oc_minus, od_minus, .func (PySem.W.fnOf "minus" "minus" (defArgs s_minus) (defBody s_minus) (defScope s_minus) .none kV_minus dc_minus pm_minus an_minus cd_minus ct_minus), sl_minus⟩) (q_minus : PySem.W.codeIn K cd_minus "minus" = true) (t_minus : PySem.W.keepIn K (.ref F_minus) = true)
    (n_divided : PySem.W.nsIn K mainGlobals "divided" = some (some (.ref F_divided))) (l_divided : K.lookup F_divided = some ⟨oc_divided, od_divided, .func (PySem.W.fnOf "divided" "divided" (defArgs s_divided) (defBody s_divided) (defScope s_divided) .none kV_divided dc_divided pm_divided an_divided cd_divided ct_divided), sl_divided⟩) (q_divided : PySem.W.codeIn K cd_divided "divided" = true) (t_divided : PySem.W.keepIn K (.ref F_divided) = true)
    (n_is_below : PySem.W.nsIn K mainGlobals "is_below" = some (some (.ref F_is_below))) (l_is_below : K.lookup F_is_below = some ⟨oc_is_below, od_is_below, .func (PySem.W.fnOf "is_below" "is_below" (defArgs s_is_below) (defBody s_is_below) (defScope s_is_below) .none kV_is_below dc_is_below pm_is_below an_is_below cd_is_below ct_is_below), sl_is_below⟩) (q_is_below : PySem.W.codeIn K cd_is_below "is_below" = true) (t_is_below : PySem.W.keepIn K (.ref F_is_below) = true)
    (n_is_fraction : PySem.W.nsIn K mainGlobals "is_fraction" = some (some (.ref F_is_fraction))) (l_is_fraction : K.lookup F_is_fraction = some ⟨oc_is_fraction, od_is_fraction, .func (PySem.W.fnOf "is_fraction" "is_fraction" (defArgs s_is_fraction) (defBody s_is_fraction) (defScope s_is_fraction) .none kV_is_fraction dc_is_fraction pm_is_fraction an_is_fraction cd_is_fraction ct_is_fraction), sl_is_fraction⟩) (q_is_fraction : PySem.W.codeIn K cd_is_fraction "is_fraction" = true) (t_is_fraction : PySem.W.keepIn K (.ref F_is_fraction) = true)
    (n_are_fractions : PySem.W.nsIn K mainGlobals "are_fractions" = some (some (.ref F_are_fractions))) (l_are_fractions : K.lookup F_are_fractions = some ⟨oc_are_fractions, od_are_fractions, .func (PySem.W.fnOf "are_fractions" "are_fractions" (defArgs s_are_fractions) (defBody s_are_fractions) (defScope s_are_fractions) .none kV_are_fractions dc_are_fractions pm_are_fractions an_are_fractions cd_are_fractions ct_are_fractions), sl_are_fractions⟩) (q_are_fractions : PySem.W.codeIn K cd_are_fractions "are_fractions" = true) (t_are_fractions : PySem.W.keepIn K (.ref F_are_fractions) = true)
    (n_slope_of : PySem.W.nsIn K mainGlobals "slope_of" = some (some (.ref F_slope_of))) (l_slope_of : K.lookup F_slope_of = some ⟨oc_slope_of, od_slope_of, .func (PySem.W.fnOf "slope_of" "slope_of" (defArgs s_slope_of) (defBody s_slope_of) (defScope s_slope_of) .none kV_slope_of dc_slope_of pm_slope_of an_slope_of cd_slope_of ct_slope_of), sl_slope_of⟩) (q_slope_of : PySem.W.codeIn K cd_slope_of "slope_of" = true) (t_slope_of : PySem.W.keepIn K (.ref F_slope_of) = true)
    (n_kind_speeds : PySem.W.nsIn K mainGlobals "kind_speeds" = some (some (.ref F_kind_speeds))) (l_kind_speeds : K.lookup F_kind_speeds = some ⟨oc_kind_speeds, od_kind_speeds, .func (PySem.W.fnOf "kind_speeds" "kind_speeds" (defArgs s_kind_speeds) (defBody s_kind_speeds) (defScope s_kind_speeds) .none kV_kind_speeds dc_kind_speeds pm_kind_speeds an_kind_speeds cd_kind_speeds ct_kind_speeds), sl_kind_speeds⟩) (q_kind_speeds : PySem.W.codeIn K cd_kind_speeds "kind_speeds" = true) (t_kind_speeds : PySem.W.keepIn K (.ref F_kind_speeds) = true)
    (n_is_kind : PySem.W.nsIn K mainGlobals "is_kind" = some (some (.ref F_is_kind))) (l_is_kind : K.lookup F_is_kind = some ⟨oc_is_kind, od_is_kind, .func (PySem.W.fnOf "is_kind" "is_kind" (defArgs s_is_kind) (defBody s_is_kind) (defScope s_is_kind) .none kV_is_kind dc_is_kind pm_is_kind an_is_kind cd_is_kind ct_is_kind), sl_is_kind⟩) (q_is_kind : PySem.W.codeIn K cd_is_kind "is_kind" = true) (t_is_kind : PySem.W.keepIn K (.ref F_is_kind) = true)
    (n_is_corner : PySem.W.nsIn K mainGlobals "is_corner" = some (some (.ref F_is_corner))) (l_is_corner : K.lookup F_is_corner = some ⟨oc_is_corner, od_is_corner, .func (PySem.W.fnOf "is_corner" "is_corner" (defArgs s_is_corner) (defBody s_is_corner) (defScope s_is_corner) .none kV_is_corner dc_is_corner pm_is_corner an_is_corner cd_is_corner ct_is_corner), sl_is_corner⟩) (q_is_corner : PySem.W.codeIn K cd_is_corner "is_corner" = true) (t_is_corner : PySem.W.keepIn K (.ref F_is_corner) = true)
    (n_L_spring : PySem.W.nsIn K mainGlobals "_law_spring" = some (some (.ref F_L_spring))) (l_L_spring : K.lookup F_L_spring = some ⟨oc_L_spring, od_L_spring, .func (PySem.W.fnOf "_law_spring" "_law_spring" (defArgs s_L_spring) (defBody s_L_spring) (defScope s_L_spring) .none kV_L_spring dc_L_spring pm_L_spring an_L_spring cd_L_spring ct_L_spring), sl_L_spring⟩) (q_L_spring : PySem.W.codeIn K cd_L_spring "_law_spring" = true) (t_L_spring : PySem.W.keepIn K (.ref F_L_spring) = true)
    (n_L_draw : PySem.W.nsIn K mainGlobals "_law_draw" = some (some (.ref F_L_draw))) (l_L_draw : K.lookup F_L_draw = some ⟨oc_L_draw, od_L_draw, .func (PySem.W.fnOf "_law_draw" "_law_draw" (defArgs s_L_draw) (defBody s_L_draw) (defScope s_L_draw) .none kV_L_draw dc_L_draw pm_L_draw an_L_draw cd_L_draw ct_L_draw), sl_L_draw⟩) (q_L_draw : PySem.W.codeIn K cd_L_draw "_law_draw" = true) (t_L_draw : PySem.W.keepIn K (.ref F_L_draw) = true)
    (n_L_pick : PySem.W.nsIn K mainGlobals "_law_pick" = some (some (.ref F_L_pick))) (l_L_pick : K.lookup F_L_pick = some ⟨oc_L_pick, od_L_pick, .func (PySem.W.fnOf "_law_pick" "_law_pick" (defArgs s_L_pick) (defBody s_L_pick) (defScope s_L_pick) .none kV_L_pick dc_L_pick pm_L_pick an_L_pick cd_L_pick ct_L_pick), sl_L_pick⟩) (q_L_pick : PySem.W.codeIn K cd_L_pick "_law_pick" = true) (t_L_pick : PySem.W.keepIn K (.ref F_L_pick) = true)
    (n_L_shared : PySem.W.nsIn K mainGlobals "_law_shared" = some (some (.ref F_L_shared))) (l_L_shared : K.lookup F_L_shared = some ⟨oc_L_shared, od_L_shared, .func (PySem.W.fnOf "_law_shared" "_law_shared" (defArgs s_L_shared) (defBody s_L_shared) (defScope s_L_shared) .none kV_L_shared dc_L_shared pm_L_shared an_L_shared cd_L_shared ct_L_shared), sl_L_shared⟩) (q_L_shared : PySem.W.codeIn K cd_L_shared "_law_shared" = true) (t_L_shared : PySem.W.keepIn K (.ref F_L_shared) = true)
    (n_L_frac : PySem.W.nsIn K mainGlobals "_law_frac" = some (some (.ref F_L_frac))) (l_L_frac : K.lookup F_L_frac = some ⟨oc_L_frac, od_L_frac, .func (PySem.W.fnOf "_law_frac" "_law_frac" (defArgs s_L_frac) (defBody s_L_frac) (defScope s_L_frac) .none kV_L_frac dc_L_frac pm_L_frac an_L_frac cd_L_frac ct_L_frac), sl_L_frac⟩) (q_L_frac : PySem.W.codeIn K cd_L_frac "_law_frac" = true) (t_L_frac : PySem.W.keepIn K (.ref F_L_frac) = true)
    (n_L_add : PySem.W.nsIn K mainGlobals "_law_add" = some (some (.ref F_L_add))) (l_L_add : K.lookup F_L_add = some ⟨oc_L_add, od_L_add, .func (PySem.W.fnOf "_law_add" "_law_add" (defArgs s_L_add) (defBody s_L_add) (defScope s_L_add) .none kV_L_add dc_L_add pm_L_add an_L_add cd_L_add ct_L_add), sl_L_add⟩) (q_L_add : PySem.W.codeIn K cd_L_add "_law_add" = true) (t_L_add : PySem.W.keepIn K (.ref F_L_add) = true)
    (n_L_sub : PySem.W.nsIn K mainGlobals "_law_sub" = some (some (.ref F_L_sub))) (l_L_sub : K.lookup F_L_sub = some ⟨oc_L_sub, od_L_sub, .func (PySem.W.fnOf "_law_sub" "_law_sub" (defArgs s_L_sub) (defBody s_L_sub) (defScope s_L_sub) .none kV_L_sub dc_L_sub pm_L_sub an_L_sub cd_L_sub ct_L_sub), sl_L_sub⟩) (q_L_sub : PySem.W.codeIn K cd_L_sub "_law_sub" = true) (t_L_sub : PySem.W.keepIn K (.ref F_L_sub) = true)
    (n_L_mul : PySem.W.nsIn K mainGlobals "_law_mul" = some (some (.ref F_L_mul))) (l_L_mul : K.lookup F_L_mul = some ⟨oc_L_mul, od_L_mul, .func (PySem.W.fnOf "_law_mul" "_law_mul" (defArgs s_L_mul) (defBody s_L_mul) (defScope s_L_mul) .none kV_L_mul dc_L_mul pm_L_mul an_L_mul cd_L_mul ct_L_mul), sl_L_mul⟩) (q_L_mul : PySem.W.codeIn K cd_L_mul "_law_mul" = true) (t_L_mul : PySem.W.keepIn K (.ref F_L_mul) = true)
    (n_L_div : PySem.W.nsIn K mainGlobals "_law_div" = some (some (.ref F_L_div))) (l_L_div : K.lookup F_L_div = some ⟨oc_L_div, od_L_div, .func (PySem.W.fnOf "_law_div" "_law_div" (defArgs s_L_div) (defBody s_L_div) (defScope s_L_div) .none kV_L_div dc_L_div pm_L_div an_L_div cd_L_div ct_L_div), sl_L_div⟩) (q_L_div : PySem.W.codeIn K cd_L_div "_law_div" = true) (t_L_div : PySem.W.keepIn K (.ref F_L_div) = true)
    (n_L_under : PySem.W.nsIn K mainGlobals "_law_under" = some (some (.ref F_L_under))) (l_L_under : K.lookup F_L_under = some ⟨oc_L_under, od_L_under, .func (PySem.W.fnOf "_law_under" "_law_under" (defArgs s_L_under) (defBody s_L_under) (defScope s_L_under) .none kV_L_under dc_L_under pm_L_under an_L_under cd_L_under ct_L_under), sl_L_under⟩) (q_L_under : PySem.W.codeIn K cd_L_under "_law_under" = true) (t_L_under : PySem.W.keepIn K (.ref F_L_under) = true)
    (n_L_part : PySem.W.nsIn K mainGlobals "_law_part" = some (some (.ref F_L_part))) (l_L_part : K.lookup F_L_part = some ⟨oc_L_part, od_L_part, .func (PySem.W.fnOf "_law_part" "_law_part" (defArgs s_L_part) (defBody s_L_part) (defScope s_L_part) .none kV_L_part dc_L_part pm_L_part an_L_part cd_L_part ct_L_part), sl_L_part⟩) (q_L_part : PySem.W.codeIn K cd_L_part "_law_part" = true) (t_L_part : PySem.W.keepIn K (.ref F_L_part) = true)
    (n_L_is_frac : PySem.W.nsIn K mainGlobals "_law_is_frac" = some (some (.ref F_L_is_frac))) (l_L_is_frac : K.lookup F_L_is_frac = some ⟨oc_L_is_frac, od_L_is_frac, .func (PySem.W.fnOf "_law_is_frac" "_law_is_frac" (defArgs s_L_is_frac) (defBody s_L_is_frac) (defScope s_L_is_frac) .none kV_L_is_frac dc_L_is_frac pm_L_is_frac an_L_is_frac cd_L_is_frac ct_L_is_frac), sl_L_is_frac⟩) (q_L_is_frac : PySem.W.codeIn K cd_L_is_frac "_law_is_frac" = true) (t_L_is_frac : PySem.W.keepIn K (.ref F_L_is_frac) = true)
    (n_L_odd : PySem.W.nsIn K mainGlobals "_law_odd" = some (some (.ref F_L_odd))) (l_L_odd : K.lookup F_L_odd = some ⟨oc_L_odd, od_L_odd, .func (PySem.W.fnOf "_law_odd" "_law_odd" (defArgs s_L_odd) (defBody s_L_odd) (defScope s_L_odd) .none kV_L_odd dc_L_odd pm_L_odd an_L_odd cd_L_odd ct_L_odd), sl_L_odd⟩) (q_L_odd : PySem.W.codeIn K cd_L_odd "_law_odd" = true) (t_L_odd : PySem.W.keepIn K (.ref F_L_odd) = true)
    (n_L_fraction : PySem.W.nsIn K mainGlobals "_law_fraction" = some (some (.ref F_L_fraction))) (l_L_fraction : K.lookup F_L_fraction = some ⟨oc_L_fraction, od_L_fraction, .func (PySem.W.fnOf "_law_fraction" "_law_fraction" (defArgs s_L_fraction) (defBody s_L_fraction) (defScope s_L_fraction) .none kV_L_fraction dc_L_fraction pm_L_fraction an_L_fraction cd_L_fraction ct_L_fraction), sl_L_fraction⟩) (q_L_fraction : PySem.W.codeIn K cd_L_fraction "_law_fraction" = true) (t_L_fraction : PySem.W.keepIn K (.ref F_L_fraction) = true)
    (n_L_small : PySem.W.nsIn K mainGlobals "_law_small" = some (some (.ref F_L_small))) (l_L_small : K.lookup F_L_small = some ⟨oc_L_small, od_L_small, .func (PySem.W.fnOf "_law_small" "_law_small" (defArgs s_L_small) (defBody s_L_small) (defScope s_L_small) .none kV_L_small dc_L_small pm_L_small an_L_small cd_L_small ct_L_small), sl_L_small⟩) (q_L_small : PySem.W.codeIn K cd_L_small "_law_small" = true) (t_L_small : PySem.W.keepIn K (.ref F_L_small) = true)
    (n_L_road : PySem.W.nsIn K mainGlobals "_law_road" = some (some (.ref F_L_road))) (l_L_road : K.lookup F_L_road = some ⟨oc_L_road, od_L_road, .func (PySem.W.fnOf "_law_road" "_law_road" (defArgs s_L_road) (defBody s_L_road) (defScope s_L_road) .none kV_L_road dc_L_road pm_L_road an_L_road cd_L_road ct_L_road), sl_L_road⟩) (q_L_road : PySem.W.codeIn K cd_L_road "_law_road" = true) (t_L_road : PySem.W.keepIn K (.ref F_L_road) = true)
    (n_L_long_road : PySem.W.nsIn K mainGlobals "_law_long_road" = some (some (.ref F_L_long_road))) (l_L_long_road : K.lookup F_L_long_road = some ⟨oc_L_long_road, od_L_long_road, .func (PySem.W.fnOf "_law_long_road" "_law_long_road" (defArgs s_L_long_road) (defBody s_L_long_road) (defScope s_L_long_road) .none kV_L_long_road dc_L_long_road pm_L_long_road an_L_long_road cd_L_long_road ct_L_long_road), sl_L_long_road⟩) (q_L_long_road : PySem.W.codeIn K cd_L_long_road "_law_long_road" = true) (t_L_long_road : PySem.W.keepIn K (.ref F_L_long_road) = true)
    (n_L_paces : PySem.W.nsIn K mainGlobals "_law_paces" = some (some (.ref F_L_paces))) (l_L_paces : K.lookup F_L_paces = some ⟨oc_L_paces, od_L_paces, .func (PySem.W.fnOf "_law_paces" "_law_paces" (defArgs s_L_paces) (defBody s_L_paces) (defScope s_L_paces) .none kV_L_paces dc_L_paces pm_L_paces an_L_paces cd_L_paces ct_L_paces), sl_L_paces⟩) (q_L_paces : PySem.W.codeIn K cd_L_paces "_law_paces" = true) (t_L_paces : PySem.W.keepIn K (.ref F_L_paces) = true)
    (n_L_is_pair : PySem.W.nsIn K mainGlobals "_law_is_pair" = some (some (.ref F_L_is_pair))) (l_L_is_pair : K.lookup F_L_is_pair = some ⟨oc_L_is_pair, od_L_is_pair, .func (PySem.W.fnOf "_law_is_pair" "_law_is_pair" (defArgs s_L_is_pair) (defBody s_L_is_pair) (defScope s_L_is_pair) .none kV_L_is_pair dc_L_is_pair pm_L_is_pair an_L_is_pair cd_L_is_pair ct_L_is_pair), sl_L_is_pair⟩) (q_L_is_pair : PySem.W.codeIn K cd_L_is_pair "_law_is_pair" = true) (t_L_is_pair : PySem.W.keepIn K (.ref F_L_is_pair) = true)
    (n_L_is_road : PySem.W.nsIn K mainGlobals "_law_is_road" = some (some (.ref F_L_is_road))) (l_L_is_road : K.lookup F_L_is_road = some ⟨oc_L_is_road, od_L_is_road, .func (PySem.W.fnOf "_law_is_road" "_law_is_road" (defArgs s_L_is_road) (defBody s_L_is_road) (defScope s_L_is_road) .none kV_L_is_road dc_L_is_road pm_L_is_road an_L_is_road cd_L_is_road ct_L_is_road), sl_L_is_road⟩) (q_L_is_road : PySem.W.codeIn K cd_L_is_road "_law_is_road" = true) (t_L_is_road : PySem.W.keepIn K (.ref F_L_is_road) = true)
    (n_L_changed : PySem.W.nsIn K mainGlobals "_law_changed" = some (some (.ref F_L_changed))) (l_L_changed : K.lookup F_L_changed = some ⟨oc_L_changed, od_L_changed, .func (PySem.W.fnOf "_law_changed" "_law_changed" (defArgs s_L_changed) (defBody s_L_changed) (defScope s_L_changed) .none kV_L_changed dc_L_changed pm_L_changed an_L_changed cd_L_changed ct_L_changed), sl_L_changed⟩) (q_L_changed : PySem.W.codeIn K cd_L_changed "_law_changed" = true) (t_L_changed : PySem.W.keepIn K (.ref F_L_changed) = true)
    (n_L_near : PySem.W.nsIn K mainGlobals "_law_near" = some (some (.ref F_L_near))) (l_L_near : K.lookup F_L_near = some ⟨oc_L_near, od_L_near, .func (PySem.W.fnOf "_law_near" "_law_near" (defArgs s_L_near) (defBody s_L_near) (defScope s_L_near) .none kV_L_near dc_L_near pm_L_near an_L_near cd_L_near ct_L_near), sl_L_near⟩) (q_L_near : PySem.W.codeIn K cd_L_near "_law_near" = true) (t_L_near : PySem.W.keepIn K (.ref F_L_near) = true)
    (n_L_bent : PySem.W.nsIn K mainGlobals "_law_bent" = some (some (.ref F_L_bent))) (l_L_bent : K.lookup F_L_bent = some ⟨oc_L_bent, od_L_bent, .func (PySem.W.fnOf "_law_bent" "_law_bent" (defArgs s_L_bent) (defBody s_L_bent) (defScope s_L_bent) .none kV_L_bent dc_L_bent pm_L_bent an_L_bent cd_L_bent ct_L_bent), sl_L_bent⟩) (q_L_bent : PySem.W.codeIn K cd_L_bent "_law_bent" = true) (t_L_bent : PySem.W.keepIn K (.ref F_L_bent) = true)
    (n_L_thing : PySem.W.nsIn K mainGlobals "_law_thing" = some (some (.ref F_L_thing))) (l_L_thing : K.lookup F_L_thing = some ⟨oc_L_thing, od_L_thing, .func (PySem.W.fnOf "_law_thing" "_law_thing" (defArgs s_L_thing) (defBody s_L_thing) (defScope s_L_thing) .none kV_L_thing dc_L_thing pm_L_thing an_L_thing cd_L_thing ct_L_thing), sl_L_thing⟩) (q_L_thing : PySem.W.codeIn K cd_L_thing "_law_thing" = true) (t_L_thing : PySem.W.keepIn K (.ref F_L_thing) = true)
    (n_L_flat : PySem.W.nsIn K mainGlobals "_law_flat" = some (some (.ref F_L_flat))) (l_L_flat : K.lookup F_L_flat = some ⟨oc_L_flat, od_L_flat, .func (PySem.W.fnOf "_law_flat" "_law_flat" (defArgs s_L_flat) (defBody s_L_flat) (defScope s_L_flat) .none kV_L_flat dc_L_flat pm_L_flat an_L_flat cd_L_flat ct_L_flat), sl_L_flat⟩) (q_L_flat : PySem.W.codeIn K cd_L_flat "_law_flat" = true) (t_L_flat : PySem.W.keepIn K (.ref F_L_flat) = true)
    (n_L_right : PySem.W.nsIn K mainGlobals "_law_right" = some (some (.ref F_L_right))) (l_L_right : K.lookup F_L_right = some ⟨oc_L_right, od_L_right, .func (PySem.W.fnOf "_law_right" "_law_right" (defArgs s_L_right) (defBody s_L_right) (defScope s_L_right) .none kV_L_right dc_L_right pm_L_right an_L_right cd_L_right ct_L_right), sl_L_right⟩) (q_L_right : PySem.W.codeIn K cd_L_right "_law_right" = true) (t_L_right : PySem.W.keepIn K (.ref F_L_right) = true)
    (n_law : PySem.W.nsIn K mainGlobals "law" = some (some (.ref F_law))) (l_law : K.lookup F_law = some ⟨oc_law, od_law, .func (PySem.W.fnOf "law" "law" (defArgs s_law) (defBody s_law) (defScope s_law) .none kV_law dc_law pm_law an_law cd_law ct_law), sl_law⟩) (q_law : PySem.W.codeIn K cd_law "law" = true) (t_law : PySem.W.keepIn K (.ref F_law) = true)
    (n_NOUGHT : PySem.W.nsIn K mainGlobals "NOUGHT" = some (some (.ref A_NOUGHT))) (l_NOUGHT : K.lookup A_NOUGHT = some ⟨.type "tuple", aod_NOUGHT, .seq #[.int 0 at_NOUGHT_0, .int 1 at_NOUGHT_1] an_NOUGHT, asl_NOUGHT⟩)
    (n_LEAST_CORNERS : PySem.W.nsIn K mainGlobals "LEAST_CORNERS" = some (some (.int 3 tk_LEAST_CORNERS)))
    (n_MOST_CORNERS : PySem.W.nsIn K mainGlobals "MOST_CORNERS" = some (some (.int 12 tk_MOST_CORNERS)))
    (n_gcd : PySem.W.nsIn K mainGlobals "gcd" = some (some (.builtin "math.gcd")))
    (z_len : PySem.W.nsIn K mainGlobals "len" = some none)
    (z_int : PySem.W.nsIn K mainGlobals "int" = some none)
    (z_tuple : PySem.W.nsIn K mainGlobals "tuple" = some none)
    (z_abs : PySem.W.nsIn K mainGlobals "abs" = some none)
    (z_repr : PySem.W.nsIn K mainGlobals "repr" = some none)
    (z_max : PySem.W.nsIn K mainGlobals "max" = some none)
    (z_min : PySem.W.nsIn K mainGlobals "min" = some none)
    (z_sum : PySem.W.nsIn K mainGlobals "sum" = some none)
    (z_all : PySem.W.nsIn K mainGlobals "all" = some none)
    (z_list : PySem.W.nsIn K mainGlobals "list" = some none)
    (z_isinstance : PySem.W.nsIn K mainGlobals "isinstance" = some none)
    (z_bool : PySem.W.nsIn K mainGlobals "bool" = some none)
    (z_range : PySem.W.nsIn K mainGlobals "range" = some none)
    (z_zip : PySem.W.nsIn K mainGlobals "zip" = some none) : Sound K mg G T := by
  refine ⟨fun y hy => ?_, fun x d hx => ?_, fun x d hx => ?_, fun x hx => ?_, fun n fs hx => ?_, fun x hx => ?_, fun n x b hx C cv hC hcv => ?_⟩
  · simp only [T, List.mem_cons, List.not_mem_nil, or_false] at hy
    rcases hy with rfl | rfl | rfl | rfl | rfl | rfl | rfl | rfl | rfl | rfl | rfl | rfl | rfl | rfl | rfl | rfl | rfl | rfl | rfl | rfl | rfl | rfl | rfl | rfl | rfl | rfl | rfl | rfl | rfl | rfl | rfl | rfl | rfl | rfl | rfl | rfl | rfl | rfl | rfl | rfl | rfl | rfl
    · exact stands_mk X Gn n_is_whole l_is_whole q_is_whole t_is_whole f_is_whole k_is_whole (fun _ z => nomatch z) (fun _ us h => match us, h with | [_], _ => .of_eq rfl) (fun _ z => nomatch z)
    · exact stands_mk X Gn n_are_wholes l_are_wholes q_are_wholes t_are_wholes f_are_wholes k_are_wholes (fun _ z => nomatch z) (fun _ us h => match us, h with | [_, _], _ => .of_eq rfl) (fun _ z => nomatch z)
    · exact stands_mk X Gn n_common_part l_common_part q_common_part t_common_part f_common_part k_common_part (fun _ z => nomatch z) (fun _ us h => match us, h with | [_], _ => .of_eq rfl) (fun _ z => nomatch z)
    · exact stands_mk X Gn n_lowest l_lowest q_lowest t_lowest f_lowest k_lowest (fun _ z => nomatch z) (fun _ us h => match us, h with | [_], _ => .of_eq rfl) (fun _ z => nomatch z)
    · exact stands_mk X Gn n_lowest_over l_lowest_over q_lowest_over t_lowest_over f_lowest_over k_lowest_over (fun _ z => nomatch z) (fun _ us h => match us, h with | [_, _], _ => .of_eq rfl) (fun _ z => nomatch z)
    · exact stands_mk X Gn n_ratio l_ratio q_ratio t_ratio f_ratio k_ratio (fun _ z => nomatch z) (fun _ us h => match us, h with | [_, _], _ => .of_eq rfl) (fun _ z => nomatch z)
    · exact stands_mk X Gn n_minus l_minus q_minus t_minus f_minus k_minus (fun _ z => nomatch z) (fun _ us h => match us, h with | [_, _], _ => .of_eq rfl) (fun _ z => nomatch z)
    · exact stands_mk X Gn n_divided l_divided q_divided t_divided f_divided k_divided (fun _ z => nomatch z) (fun _ us h => match us, h with | [_, _], _ => .of_eq rfl) (fun _ z => nomatch z)
    · exact stands_mk X Gn n_is_below l_is_below q_is_below t_is_below f_is_below k_is_below (fun _ z => nomatch z) (fun _ us h => match us, h with | [_, _], _ => .of_eq rfl) (fun _ z => nomatch z)
    · exact stands_mk X Gn n_is_fraction l_is_fraction q_is_fraction t_is_fraction f_is_fraction k_is_fraction (fun _ z => nomatch z) (fun _ us h => match us, h with | [_], _ => .of_eq rfl) (fun _ z => nomatch z)
    · exact stands_mk X Gn n_are_fractions l_are_fractions q_are_fractions t_are_fractions f_are_fractions k_are_fractions (fun _ z => nomatch z) (fun _ us h => match us, h with | [_, _], _ => .of_eq rfl) (fun _ z => nomatch z)
    · exact stands_mk X Gn n_slope_of l_slope_of q_slope_of t_slope_of f_slope_of k_slope_of (fun _ z => nomatch z) (fun _ us h => match us, h with | [_, _], _ => .of_eq rfl) (fun _ z => nomatch z)
    · exact stands_mk X Gn n_kind_speeds l_kind_speeds q_kind_speeds t_kind_speeds f_kind_speeds k_kind_speeds (fun _ z => nomatch z) (fun _ us h => match us, h with | [_], _ => .of_eq rfl) (fun _ z => nomatch z)
    · have b2 : ∀ a ∈ a_is_kind, ∀ (s : Shared) (us ws : List Value), us.length = a.1 → ws.length = a.2.1.length → BindsTo s (PySem.W.fnOf "is_kind" "is_kind" (defArgs s_is_kind) (defBody s_is_kind) (defScope s_is_kind) .none kV_is_kind dc_is_kind pm_is_kind an_is_kind cd_is_kind ct_is_kind) ⟨us, a.2.1.zip ws⟩ (p_is_kind.zip (atU a.2.2 (us ++ ws))) := by
        intro a ha
        simp only [a_is_kind, List.mem_cons, List.not_mem_nil, or_false] at ha
        rcases ha with rfl
        · intro s us ws h1 h2; exact match us, h1, ws, h2 with | [], _, [_], _ => .of_eq rfl
      exact stands_mk X Gn n_is_kind l_is_kind q_is_kind t_is_kind f_is_kind k_is_kind (by decide) (fun _ us h => match us, h with | [_], _ => .of_eq rfl) b2
    · exact stands_mk X Gn n_is_corner l_is_corner q_is_corner t_is_corner f_is_corner k_is_corner (fun _ z => nomatch z) (fun _ us h => match us, h with | [_], _ => .of_eq rfl) (fun _ z => nomatch z)
    · exact stands_mk X Gn n_L_spring l_L_spring q_L_spring t_L_spring f_L_spring k_L_spring (fun _ z => nomatch z) (fun _ us h => match us, h with | [_, _], _ => .of_eq rfl) (fun _ z => nomatch z)
    · exact stands_mk X Gn n_L_draw l_L_draw q_L_draw t_L_draw f_L_draw k_L_draw (fun _ z => nomatch z) (fun _ us h => match us, h with | [_, _], _ => .of_eq rfl) (fun _ z => nomatch z)
    · exact stands_mk X Gn n_L_pick l_L_pick q_L_pick t_L_pick f_L_pick k_L_pick (fun _ z => nomatch z) (fun _ us h => match us, h with | [_, _], _ => .of_eq rfl) (fun _ z => nomatch z)
    · exact stands_mk X Gn n_L_shared l_L_shared q_L_shared t_L_shared f_L_shared k_L_shared (fun _ z => nomatch z) (fun _ us h => match us, h with | [_, _], _ => .of_eq rfl) (fun _ z => nomatch z)
    · exact stands_mk X Gn n_L_frac l_L_frac q_L_frac t_L_frac f_L_frac k_L_frac (fun _ z => nomatch z) (fun _ us h => match us, h with | [_, _], _ => .of_eq rfl) (fun _ z => nomatch z)
    · exact stands_mk X Gn n_L_add l_L_add q_L_add t_L_add f_L_add k_L_add (fun _ z => nomatch z) (fun _ us h => match us, h with | [_, _], _ => .of_eq rfl) (fun _ z => nomatch z)
    · exact stands_mk X Gn n_L_sub l_L_sub q_L_sub t_L_sub f_L_sub k_L_sub (fun _ z => nomatch z) (fun _ us h => match us, h with | [_, _], _ => .of_eq rfl) (fun _ z => nomatch z)
    · exact stands_mk X Gn n_L_mul l_L_mul q_L_mul t_L_mul f_L_mul k_L_mul (fun _ z => nomatch z) (fun _ us h => match us, h with | [_, _], _ => .of_eq rfl) (fun _ z => nomatch z)
    · exact stands_mk X Gn n_L_div l_L_div q_L_div t_L_div f_L_div k_L_div (fun _ z => nomatch z) (fun _ us h => match us, h with | [_, _], _ => .of_eq rfl) (fun _ z => nomatch z)
    · exact stands_mk X Gn n_L_under l_L_under q_L_under t_L_under f_L_under k_L_under (fun _ z => nomatch z) (fun _ us h => match us, h with | [_, _], _ => .of_eq rfl) (fun _ z => nomatch z)
    · exact stands_mk X Gn n_L_part l_L_part q_L_part t_L_part f_L_part k_L_part (fun _ z => nomatch z) (fun _ us h => match us, h with | [_, _, _], _ => .of_eq rfl) (fun _ z => nomatch z)
    · exact stands_mk X Gn n_L_is_frac l_L_is_frac q_L_is_frac t_L_is_frac f_L_is_frac k_L_is_frac (fun _ z => nomatch z) (fun _ us h => match us, h with | [_], _ => .of_eq rfl) (fun _ z => nomatch z)
    · exact stands_mk X Gn n_L_odd l_L_odd q_L_odd t_L_odd f_L_odd k_L_odd (fun _ z => nomatch z) (fun _ us h => match us, h with | [_], _ => .of_eq rfl) (fun _ z => nomatch z)
    · exact stands_mk X Gn n_L_fraction l_L_fraction q_L_fraction t_L_fraction f_L_fraction k_L_fraction (fun _ z => nomatch z) (fun _ us h => match us, h with | [_], _ => .of_eq rfl) (fun _ z => nomatch z)
    · exact stands_mk X Gn n_L_small l_L_small q_L_small t_L_small f_L_small k_L_small (fun _ z => nomatch z) (fun _ us h => match us, h with | [_], _ => .of_eq rfl) (fun _ z => nomatch z)
    · exact stands_mk X Gn n_L_road l_L_road q_L_road t_L_road f_L_road k_L_road (fun _ z => nomatch z) (fun _ us h => match us, h with | [_], _ => .of_eq rfl) (fun _ z => nomatch z)
    · exact stands_mk X Gn n_L_long_road l_L_long_road q_L_long_road t_L_long_road f_L_long_road k_L_long_road (fun _ z => nomatch z) (fun _ us h => match us, h with | [_, _], _ => .of_eq rfl) (fun _ z => nomatch z)
    · exact stands_mk X Gn n_L_paces l_L_paces q_L_paces t_L_paces f_L_paces k_L_paces (fun _ z => nomatch z) (fun _ us h => match us, h with | [_], _ => .of_eq rfl) (fun _ z => nomatch z)
    · exact stands_mk X Gn n_L_is_pair l_L_is_pair q_L_is_pair t_L_is_pair f_L_is_pair k_L_is_pair (fun _ z => nomatch z) (fun _ us h => match us, h with | [_], _ => .of_eq rfl) (fun _ z => nomatch z)
    · exact stands_mk X Gn n_L_is_road l_L_is_road q_L_is_road t_L_is_road f_L_is_road k_L_is_road (fun _ z => nomatch z) (fun _ us h => match us, h with | [_], _ => .of_eq rfl) (fun _ z => nomatch z)
    · exact stands_mk X Gn n_L_changed l_L_changed q_L_changed t_L_changed f_L_changed k_L_changed (fun _ z => nomatch z) (fun _ us h => match us, h with | [_, _, _], _ => .of_eq rfl) (fun _ z => nomatch z)
    · exact stands_mk X Gn n_L_near l_L_near q_L_near t_L_near f_L_near k_L_near (fun _ z => nomatch z) (fun _ us h => match us, h with | [_, _], _ => .of_eq rfl) (fun _ z => nomatch z)
    · exact stands_mk X Gn n_L_bent l_L_bent q_L_bent t_L_bent f_L_bent k_L_bent (fun _ z => nomatch z) (fun _ us h => match us, h with | [_, _, _], _ => .of_eq rfl) (fun _ z => nomatch z)
    · exact stands_mk X Gn n_L_thing l_L_thing q_L_thing t_L_thing f_L_thing k_L_thing (fun _ z => nomatch z) (fun _ us h => match us, h with | [_], _ => .of_eq rfl) (fun _ z => nomatch z)
    · exact stands_mk X Gn n_L_flat l_L_flat q_L_flat t_L_flat f_L_flat k_L_flat (fun _ z => nomatch z) (fun _ us h => match us, h with | [_], _ => .of_eq rfl) (fun _ z => nomatch z)
    · exact stands_mk X Gn n_L_right l_L_right q_L_right t_L_right f_L_right k_L_right (fun _ z => nomatch z) (fun _ us h => match us, h with | [_], _ => .of_eq rfl) (fun _ z => nomatch z)
    · exact stands_mk X Gn n_law l_law q_law t_law f_law k_law (fun _ z => nomatch z) (fun _ us h => match us, h with | [_], _ => .of_eq rfl) (fun _ z => nomatch z)
  · have hx := PySem.mem_of_lookup hx
    simp only [G, List.mem_cons, List.not_mem_nil, or_false, Prod.mk.injEq] at hx
    rcases hx with ⟨rfl, rfl⟩ | ⟨rfl, rfl⟩ | ⟨rfl, rfl⟩
    · exact ⟨_, .ref A_NOUGHT, PySem.W.mg_of X Gn n_NOUGHT, rfl, fun H => .tup (vs := [.int 0, .int 1]) (.inr ⟨_, _, _, l_NOUGHT, rfl, rfl, show (2 : Nat) ≤ sizeLine by rw [sizeLine_eq]; decide, .cons ⟨_, rfl⟩ (.cons ⟨_, rfl⟩ (.nil))⟩) (.cons (.int _) (.cons (.int _) (.nil)))⟩
    · exact ⟨_, .int 3, PySem.W.mg_of X Gn n_LEAST_CORNERS, ⟨_, rfl⟩, fun H => .int _⟩
    · exact ⟨_, .int 12, PySem.W.mg_of X Gn n_MOST_CORNERS, ⟨_, rfl⟩, fun H => .int _⟩
  · have hx := PySem.mem_of_lookup hx
    simp only [G, List.mem_cons, List.not_mem_nil, or_false, Prod.mk.injEq] at hx
    rcases hx with ⟨rfl, rfl⟩
    · exact PySem.W.mg_of X Gn n_gcd
  · simp only [G, List.mem_cons, List.not_mem_nil, or_false] at hx
    rcases hx with rfl | rfl | rfl | rfl | rfl | rfl | rfl | rfl | rfl | rfl | rfl | rfl | rfl | rfl
    · exact PySem.W.mg_none_of X Gn z_len
    · exact PySem.W.mg_none_of X Gn z_int
    · exact PySem.W.mg_none_of X Gn z_tuple
    · exact PySem.W.mg_none_of X Gn z_abs
    · exact PySem.W.mg_none_of X Gn z_repr
    · exact PySem.W.mg_none_of X Gn z_max
    · exact PySem.W.mg_none_of X Gn z_min
    · exact PySem.W.mg_none_of X Gn z_sum
    · exact PySem.W.mg_none_of X Gn z_all
    · exact PySem.W.mg_none_of X Gn z_list
    · exact PySem.W.mg_none_of X Gn z_isinstance
    · exact PySem.W.mg_none_of X Gn z_bool
    · exact PySem.W.mg_none_of X Gn z_range
    · exact PySem.W.mg_none_of X Gn z_zip
  · have hx := PySem.mem_of_lookup hx
    simp [G] at hx
  · simp [G] at hx
  · have hx := subF_mem hx
    simp [G] at hx
end Prog

theorem Prog.law_true : ∀ ns : List Int, ns.length ≤ 63 → (∀ z ∈ ns, PySem.Builtin.Int.intBits z ≤ 1048576) → PD.run Prog.T 40 "law" [.d (.list (ns.map PySem.PyData.int))] [] = some (.d (.bool true), []) := fun ns _ _ => Prog.law_k02 26 ns

open PySem PySem.W PyProof.Rows
set_option maxRecDepth 100000 in
set_option maxHeartbeats 0 in
theorem PySem.Challenge.cw_roadcrowds_k02_whole_kinds_told_of_anyth_holds : PySem.Challenge.rw_roadcrowds_k02_whole_kinds_told_of_anyth.Holds := by
  w_on; o_law; k_head; (case hw => w_witness2)
  k_fill
  refine PD.walkG (l := PySem.Challenge.rw_roadcrowds_k02_whole_kinds_told_of_anyth) (n := 63) (k := 40) (T := Prog.T) (g := Prog.G) (i := Prog.i_law) (x := "script") rfl (by decide) rfl ⟨rfl, by decide, by decide⟩ (by rfl) (by simp [Prog.T]) rfl (fun w h Y => PySem.W.kIn_of Y) ?F Prog.law_true
  case F =>
    intro w mg h KX G
    refine' Prog.sound KX G ?n_is_whole ?l_is_whole ?q_is_whole ?t_is_whole ?n_are_wholes ?l_are_wholes ?q_are_wholes ?t_are_wholes ?n_common_part ?l_common_part ?q_common_part ?t_common_part ?n_lowest ?l_lowest ?q_lowest ?t_lowest ?n_lowest_over ?l_lowest_over ?q_lowest_over ?t_lowest_over ?n_ratio ?l_ratio ?q_ratio ?t_ratio ?n_minus ?l_minus ?q_minus ?t_minus ?n_divided ?l_divided ?q_divided ?t_divided ?n_is_below ?l_is_below ?q_is_below ?t_is_below ?n_is_fraction ?l_is_fraction ?q_is_fraction ?t_is_fraction ?n_are_fractions ?l_are_fractions ?q_are_fractions ?t_are_fractions ?n_slope_of ?l_slope_of ?q_slope_of ?t_slope_of ?n_kind_speeds ?l_kind_speeds ?q_kind_speeds ?t_kind_speeds ?n_is_kind ?l_is_kind ?q_is_kind ?t_is_kind ?n_is_corner ?l_is_corner ?q_is_corner ?t_is_corner ?n_L_spring ?l_L_spring ?q_L_spring ?t_L_spring ?n_L_draw ?l_L_draw ?q_L_draw ?t_L_draw ?n_L_pick ?l_L_pick ?q_L_pick ?t_L_pick ?n_L_shared ?l_L_shared ?q_L_shared ?t_L_shared ?n_L_frac ?l_L_frac ?q_L_frac ?t_L_frac ?n_L_add ?l_L_add ?q_L_add ?t_L_add ?n_L_sub ?l_L_sub ?q_L_sub ?t_L_sub ?n_L_mul ?l_L_mul ?q_L_mul ?t_L_mul ?n_L_div ?l_L_div ?q_L_div ?t_L_div ?n_L_under ?l_L_under ?q_L_under ?t_L_under ?n_L_part ?l_L_part ?q_L_part ?t_L_part ?n_L_is_frac ?l_L_is_frac ?q_L_is_frac ?t_L_is_frac ?n_L_odd ?l_L_odd ?q_L_odd ?t_L_odd ?n_L_fraction ?l_L_fraction ?q_L_fraction ?t_L_fraction ?n_L_small ?l_L_small ?q_L_small ?t_L_small ?n_L_road ?l_L_road ?q_L_road ?t_L_road ?n_L_long_road ?l_L_long_road ?q_L_long_road ?t_L_long_road ?n_L_paces ?l_L_paces ?q_L_paces ?t_L_paces ?n_L_is_pair ?l_L_is_pair ?q_L_is_pair ?t_L_is_pair ?n_L_is_road ?l_L_is_road ?q_L_is_road ?t_L_is_road ?n_L_changed ?l_L_changed ?q_L_changed ?t_L_changed ?n_L_near ?l_L_near ?q_L_near ?t_L_near ?n_L_bent ?l_L_bent ?q_L_bent ?t_L_bent ?n_L_thing ?l_L_thing ?q_L_thing ?t_L_thing ?n_L_flat ?l_L_flat ?q_L_flat ?t_L_flat ?n_L_right ?l_L_right ?q_L_right ?t_L_right ?n_law ?l_law ?q_law ?t_law ?n_NOUGHT ?l_NOUGHT ?n_LEAST_CORNERS ?n_MOST_CORNERS ?n_gcd ?z_len ?z_int ?z_tuple ?z_abs ?z_repr ?z_max ?z_min ?z_sum ?z_all ?z_list ?z_isinstance ?z_bool ?z_range ?z_zip
    (case n_is_whole => k_is)
    (case l_is_whole => k_is)
    (case q_is_whole => k_is)
    (case t_is_whole => k_is)
    (case n_are_wholes => k_is)
    (case l_are_wholes => k_is)
    (case q_are_wholes => k_is)
    (case t_are_wholes => k_is)
    (case n_common_part => k_is)
    (case l_common_part => k_is)
    (case q_common_part => k_is)
    (case t_common_part => k_is)
    (case n_lowest => k_is)
    (case l_lowest => k_is)
    (case q_lowest => k_is)
    (case t_lowest => k_is)
    (case n_lowest_over => k_is)
    (case l_lowest_over => k_is)
    (case q_lowest_over => k_is)
    (case t_lowest_over => k_is)
    (case n_ratio => k_is)
    (case l_ratio => k_is)
    (case q_ratio => k_is)
    (case t_ratio => k_is)
    (case n_minus => k_is)
    (case l_minus => k_is)
    (case q_minus => k_is)
    (case t_minus => k_is)
    (case n_divided => k_is)
    (case l_divided => k_is)
    (case q_divided => k_is)
    (case t_divided => k_is)
    (case n_is_below => k_is)
    (case l_is_below => k_is)
    (case q_is_below => k_is)
    (case t_is_below => k_is)
    (case n_is_fraction => k_is)
    (case l_is_fraction => k_is)
    (case q_is_fraction => k_is)
    (case t_is_fraction => k_is)
    (case n_are_fractions => k_is)
    (case l_are_fractions => k_is)
    (case q_are_fractions => k_is)
    (case t_are_fractions => k_is)
    (case n_slope_of => k_is)
    (case l_slope_of => k_is)
    (case q_slope_of => k_is)
    (case t_slope_of => k_is)
    (case n_kind_speeds => k_is)
    (case l_kind_speeds => k_is)
    (case q_kind_speeds => k_is)
    (case t_kind_speeds => k_is)
    (case n_is_kind => k_is)
    (case l_is_kind => k_is)
    (case q_is_kind => k_is)
    (case t_is_kind => k_is)
    (case n_is_corner => k_is)
    (case l_is_corner => k_is)
    (case q_is_corner => k_is)
    (case t_is_corner => k_is)
    (case n_L_spring => k_is)
    (case l_L_spring => k_is)
    (case q_L_spring => k_is)
    (case t_L_spring => k_is)
    (case n_L_draw => k_is)
    (case l_L_draw => k_is)
    (case q_L_draw => k_is)
    (case t_L_draw => k_is)
    (case n_L_pick => k_is)
    (case l_L_pick => k_is)
    (case q_L_pick => k_is)
    (case t_L_pick => k_is)
    (case n_L_shared => k_is)
    (case l_L_shared => k_is)
    (case q_L_shared => k_is)
    (case t_L_shared => k_is)
    (case n_L_frac => k_is)
    (case l_L_frac => k_is)
    (case q_L_frac => k_is)
    (case t_L_frac => k_is)
    (case n_L_add => k_is)
    (case l_L_add => k_is)
    (case q_L_add => k_is)
    (case t_L_add => k_is)
    (case n_L_sub => k_is)
    (case l_L_sub => k_is)
    (case q_L_sub => k_is)
    (case t_L_sub => k_is)
    (case n_L_mul => k_is)
    (case l_L_mul => k_is)
    (case q_L_mul => k_is)
    (case t_L_mul => k_is)
    (case n_L_div => k_is)
    (case l_L_div => k_is)
    (case q_L_div => k_is)
    (case t_L_div => k_is)
    (case n_L_under => k_is)
    (case l_L_under => k_is)
    (case q_L_under => k_is)
    (case t_L_under => k_is)
    (case n_L_part => k_is)
    (case l_L_part => k_is)
    (case q_L_part => k_is)
    (case t_L_part => k_is)
    (case n_L_is_frac => k_is)
    (case l_L_is_frac => k_is)
    (case q_L_is_frac => k_is)
    (case t_L_is_frac => k_is)
    (case n_L_odd => k_is)
    (case l_L_odd => k_is)
    (case q_L_odd => k_is)
    (case t_L_odd => k_is)
    (case n_L_fraction => k_is)
    (case l_L_fraction => k_is)
    (case q_L_fraction => k_is)
    (case t_L_fraction => k_is)
    (case n_L_small => k_is)
    (case l_L_small => k_is)
    (case q_L_small => k_is)
    (case t_L_small => k_is)
    (case n_L_road => k_is)
    (case l_L_road => k_is)
    (case q_L_road => k_is)
    (case t_L_road => k_is)
    (case n_L_long_road => k_is)
    (case l_L_long_road => k_is)
    (case q_L_long_road => k_is)
    (case t_L_long_road => k_is)
    (case n_L_paces => k_is)
    (case l_L_paces => k_is)
    (case q_L_paces => k_is)
    (case t_L_paces => k_is)
    (case n_L_is_pair => k_is)
    (case l_L_is_pair => k_is)
    (case q_L_is_pair => k_is)
    (case t_L_is_pair => k_is)
    (case n_L_is_road => k_is)
    (case l_L_is_road => k_is)
    (case q_L_is_road => k_is)
    (case t_L_is_road => k_is)
    (case n_L_changed => k_is)
    (case l_L_changed => k_is)
    (case q_L_changed => k_is)
    (case t_L_changed => k_is)
    (case n_L_near => k_is)
    (case l_L_near => k_is)
    (case q_L_near => k_is)
    (case t_L_near => k_is)
    (case n_L_bent => k_is)
    (case l_L_bent => k_is)
    (case q_L_bent => k_is)
    (case t_L_bent => k_is)
    (case n_L_thing => k_is)
    (case l_L_thing => k_is)
    (case q_L_thing => k_is)
    (case t_L_thing => k_is)
    (case n_L_flat => k_is)
    (case l_L_flat => k_is)
    (case q_L_flat => k_is)
    (case t_L_flat => k_is)
    (case n_L_right => k_is)
    (case l_L_right => k_is)
    (case q_L_right => k_is)
    (case t_L_right => k_is)
    (case n_law => k_is)
    (case l_law => k_is)
    (case q_law => k_is)
    (case t_law => k_is)
    (case n_NOUGHT => k_is)
    (case l_NOUGHT => k_is)
    (case n_LEAST_CORNERS => k_is)
    (case n_MOST_CORNERS => k_is)
    (case n_gcd => k_is)
    (case z_len => k_is)
    (case z_int => k_is)
    (case z_tuple => k_is)
    (case z_abs => k_is)
    (case z_repr => k_is)
    (case z_max => k_is)
    (case z_min => k_is)
    (case z_sum => k_is)
    (case z_all => k_is)
    (case z_list => k_is)
    (case z_isinstance => k_is)
    (case z_bool => k_is)
    (case z_range => k_is)
    (case z_zip => k_is)
#print axioms PySem.Challenge.cw_roadcrowds_k02_whole_kinds_told_of_anyth_holds
